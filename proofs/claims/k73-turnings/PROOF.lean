import PyProof.Rows.All
import PySem.Str
import Wide.All
import OpenK.AllK
import Wide.FinOn
import KE.GoesEnum
import KE.GoesMore
import KE.DatumOrd
import HandS.ForMost
import HandS.Conv
import HandS.Walk
import HandS.SortKw
import HandS.Exc
import HandS.ExcOwn
import HandS.TryOnly
import HandS.WordsExc
import HandS.Defaults
import HandS.AnyAll
import HandS.SetKeys
import HandS.StrMore
import HandS.TupAny
import HandS.Rev
import HandS.Deep
import KE.KExcSuper
import HandS.ExcInit
import HandS.FStr
import HandS.Nested
import KE.KEqDict
import HandS.DictEq
import HandS.TryMany
import HandS.IsInst
import KE.KStateDown
import HandS.Head0
import HandS.Head1
import HandS.Head2
import HandS.HeadHook1
import HandS.HeadHook2
import HandS.HeadHook3
import HandS.HeadHook4
import HandS.HeadWalk
import HandS.NestedK
import HandS.HeadEnd
import PySem.Challenge.RW_weft_k73_whole_turnings_keep_programs
set_option Elab.async false
set_option linter.all false
set_option maxRecDepth 100000
section

/-! WM1: lines, items, what a piece's program is (by fuel), and what keeps it: unfolding, a new name, renaming. -/
namespace Wf
abbrev T := PySem.Str
inductive Ln where
  | prose (t : T) | head (n : T) | use (i : Int) (n : T) | code (t : T)
  deriving DecidableEq
def Ln.own : Ln → Bool
  | .use _ _ => true
  | .code _ => true
  | _ => false
def spaces (n : Nat) : T := ⟨(List.replicate n 32).toArray⟩
def mt : T := ⟨#[]⟩
def shT (i : Int) (t : T) : T := if t = mt then t else spaces i.toNat ++ t
def shL (i : Int) : Ln → Ln
  | .use j m => .use (j + i) m
  | .code t => .code (shT i t)
  | l => l
theorem app_cps (a b : T) : (a ++ b).cps = a.cps ++ b.cps := rfl
theorem T.ext {a b : T} (h : a.cps.toList = b.cps.toList) : a = b := by
  cases a; cases b
  simp only [PySem.Str.mk.injEq]
  exact Array.toList_inj.mp h
theorem app_toList (a b : T) : (a ++ b).cps.toList = a.cps.toList ++ b.cps.toList := by
  rw [app_cps, Array.toList_append]
theorem spaces_toList (n : Nat) : (spaces n).cps.toList = List.replicate n 32 := rfl
theorem app_ne {n : Nat} {t : T} (h : t ≠ mt) : spaces n ++ t ≠ mt := fun e => h (by
  have e2 := congrArg (fun z : T => z.cps.toList) e
  simp only [app_toList] at e2
  have e3 : t.cps.toList = [] := (List.append_eq_nil_iff.mp (show _ ++ _ = ([] : List Nat) from e2)).2
  exact T.ext e3)
theorem shT_shT {i j : Int} (hi : 0 ≤ i) (hj : 0 ≤ j) (t : T) : shT i (shT j t) = shT (j + i) t := by
  unfold shT
  by_cases h : t = mt
  · rw [if_pos h, if_pos h, if_pos h]
  · rw [if_neg h, if_neg h, if_neg (app_ne h)]
    apply T.ext
    rw [app_toList, app_toList, app_toList, spaces_toList, spaces_toList, spaces_toList, ← List.append_assoc, List.replicate_append_replicate]
    congr 2
    omega

inductive R where
  | out | miss | ok (ts : List T)
def R.seq : R → R → R
  | .ok ts, .ok us => .ok (ts ++ us)
  | .ok _, e => e
  | e, _ => e
def R.sh (i : Int) : R → R
  | .ok ts => .ok (ts.map (shT i))
  | e => e
theorem seq_assoc (a b c : R) : (a.seq b).seq c = a.seq (b.seq c) := by
  cases a <;> cases b <;> cases c <;> simp [R.seq]
theorem seq_nil (a : R) : (R.ok []).seq a = a := by cases a <;> simp [R.seq]
theorem seq_nil' (a : R) : a.seq (R.ok []) = a := by cases a <;> simp [R.seq]
theorem sh_seq (i : Int) (a b : R) : (a.seq b).sh i = (a.sh i).seq (b.sh i) := by
  cases a <;> cases b <;> simp [R.seq, R.sh]
theorem sh_sh {i j : Int} (hi : 0 ≤ i) (hj : 0 ≤ j) (a : R) : (a.sh j).sh i = a.sh (j + i) := by
  cases a with
  | ok ts =>
    show R.ok _ = R.ok _
    congr 1
    rw [List.map_map]
    exact List.map_congr_left fun t _ => shT_shT hi hj t
  | _ => rfl
/-- a is less told than b -/
def R.le (a b : R) : Prop := a = .out ∨ a = b
theorem R.le_refl (a : R) : a.le a := .inr rfl
theorem R.le_trans {a b c : R} (h : a.le b) (k : b.le c) : a.le c := by
  rcases h with h | h
  · exact .inl h
  · rw [h]; exact k
theorem seq_le {a a' b b' : R} (h : a.le a') (k : b.le b') : (a.seq b).le (a'.seq b') := by
  rcases h with rfl | rfl
  · exact .inl rfl
  · rcases k with rfl | rfl
    · cases a with
      | ok ts => exact .inl rfl
      | out => exact .inl rfl
      | miss => exact .inr rfl
    · exact .inr rfl
theorem sh_le {a b : R} (i : Int) (h : a.le b) : (a.sh i).le (b.sh i) := by
  rcases h with rfl | rfl
  · exact .inl rfl
  · exact .inr rfl
theorem seq_out {a b : R} (h : a.seq b ≠ .out) : a ≠ .out := by
  rintro rfl; exact h rfl
theorem sh_out {a : R} {i : Int} (h : a.sh i ≠ .out) : a ≠ .out := by
  rintro rfl; exact h rfl

def evs (f : T → R) : List Ln → R
  | [] => .ok []
  | .code t :: r => (R.ok [t]).seq (evs f r)
  | .use i m :: r => ((f m).sh i).seq (evs f r)
  | .head _ :: r => evs f r
  | .prose _ :: r => evs f r
abbrev Bd := T → Option (List Ln)
def ev (B : Bd) : Nat → T → R
  | 0, _ => .out
  | k + 1, n => match B n with
    | none => .miss
    | some ls => evs (ev B k) ls
theorem evs_append (f : T → R) : ∀ a b : List Ln, evs f (a ++ b) = (evs f a).seq (evs f b)
  | [], b => (seq_nil _).symm
  | .code t :: r, b => by
    show (R.ok [t]).seq (evs f (r ++ b)) = _
    rw [evs_append f r b, ← seq_assoc]; rfl
  | .use i m :: r, b => by
    show ((f m).sh i).seq (evs f (r ++ b)) = _
    rw [evs_append f r b, ← seq_assoc]; rfl
  | .head _ :: r, b => evs_append f r b
  | .prose _ :: r, b => evs_append f r b
theorem evs_le {f g : T → R} (h : ∀ m, (f m).le (g m)) : ∀ ls : List Ln, (evs f ls).le (evs g ls)
  | [] => R.le_refl _
  | .code t :: r => seq_le (R.le_refl _) (evs_le h r)
  | .use i m :: r => seq_le (sh_le i (h m)) (evs_le h r)
  | .head _ :: r => evs_le h r
  | .prose _ :: r => evs_le h r
theorem ev_le (B : Bd) : ∀ (k : Nat) (n : T), (ev B k n).le (ev B (k + 1) n)
  | 0, n => .inl rfl
  | k + 1, n => by
    show R.le (match B n with | none => .miss | some ls => evs (ev B k) ls) (match B n with | none => .miss | some ls => evs (ev B (k + 1)) ls)
    cases B n with
    | none => exact R.le_refl _
    | some ls => exact evs_le (ev_le B k) ls
theorem ev_mono (B : Bd) {j k : Nat} (h : j ≤ k) (n : T) : (ev B j n).le (ev B k n) := by
  induction h with
  | refl => exact R.le_refl _
  | step _ ih => exact R.le_trans ih (ev_le B _ n)
theorem evs_mono (B : Bd) {j k : Nat} (h : j ≤ k) (ls : List Ln) : (evs (ev B j) ls).le (evs (ev B k) ls) := evs_le (fun m => ev_mono B h m) ls
theorem le_eq {a b r : R} (h : a.le b) (e : a = r) (n : r ≠ .out) : b = r := by
  rcases h with h | h
  · exact absurd (e.symm.trans h) n
  · rw [← h, e]
/-- no use has an indent below 0 -/
def PosU (ls : List Ln) : Prop := ∀ i m, Ln.use i m ∈ ls → 0 ≤ i
theorem evs_sh (f : T → R) {i : Int} (hi : 0 ≤ i) : ∀ ls : List Ln, PosU ls → evs f (ls.map (shL i)) = (evs f ls).sh i
  | [], _ => rfl
  | .code t :: r, hp => by
    show (R.ok [shT i t]).seq (evs f (r.map (shL i))) = ((R.ok [t]).seq (evs f r)).sh i
    rw [evs_sh f hi r fun j m h => hp j m (List.mem_cons_of_mem _ h), sh_seq]; rfl
  | .use j m :: r, hp => by
    show ((f m).sh (j + i)).seq (evs f (r.map (shL i))) = (((f m).sh j).seq (evs f r)).sh i
    rw [evs_sh f hi r fun j m h => hp j m (List.mem_cons_of_mem _ h), sh_seq, sh_sh hi (hp j m List.mem_cons_self)]
  | .head _ :: r, hp => evs_sh f hi r fun j m h => hp j m (List.mem_cons_of_mem _ h)
  | .prose _ :: r, hp => evs_sh f hi r fun j m h => hp j m (List.mem_cons_of_mem _ h)

/-- the piece n of B and the piece n' of B' have the same program, or an error of the same class -/
def Sm (B : Bd) (n : T) (B' : Bd) (n' : T) : Prop := (B n = none ↔ B' n' = none) ∧ ∀ r, r ≠ .out → ((∃ k, ev B k n = r) ↔ ∃ k, ev B' k n' = r)
theorem Sm.refl (B : Bd) (n : T) : Sm B n B n := ⟨Iff.rfl, fun _ _ => Iff.rfl⟩
theorem Sm.symm {B B' : Bd} {n n' : T} (h : Sm B n B' n') : Sm B' n' B n := ⟨h.1.symm, fun r e => (h.2 r e).symm⟩
theorem Sm.trans {B B' B'' : Bd} {n n' n'' : T} (h : Sm B n B' n') (k : Sm B' n' B'' n'') : Sm B n B'' n'' := ⟨h.1.trans k.1, fun r e => (h.2 r e).trans (k.2 r e)⟩

section
variable {B B' : Bd} {p m : T} {xs ys zs : List Ln} {i : Int}
theorem unf1 (hi : 0 ≤ i) (hz : PosU zs) (hpm : m ≠ p) (hp : B p = some (xs ++ [.use i m] ++ ys)) (hm : B m = some zs) (hp' : B' p = some (xs ++ zs.map (shL i) ++ ys)) (ho : ∀ n, n ≠ p → B' n = B n) :
    ∀ (k : Nat) (n : T), (ev B k n).le (ev B' k n)
  | 0, n => .inl rfl
  | k + 1, n => by
    have ih := unf1 hi hz hpm hp hm hp' ho k
    by_cases hn : n = p
    · subst hn
      show R.le (match B n with | none => .miss | some ls => evs (ev B k) ls) (match B' n with | none => .miss | some ls => evs (ev B' k) ls)
      rw [hp, hp']
      show R.le (evs (ev B k) _) (evs (ev B' k) _)
      rw [evs_append, evs_append, evs_append, evs_append, evs_sh _ hi zs hz]
      refine seq_le (seq_le (evs_le ih xs) ?_) (evs_le ih ys)
      show R.le (((ev B k m).sh i).seq (.ok [])) _
      rw [seq_nil']
      refine sh_le i ?_
      cases k with
      | zero => exact .inl rfl
      | succ k =>
        show R.le (match B m with | none => .miss | some ls => evs (ev B k) ls) _
        rw [hm]
        exact R.le_trans (evs_mono B (Nat.le_succ k) zs) (evs_le ih zs)
    · show R.le (match B n with | none => .miss | some ls => evs (ev B k) ls) (match B' n with | none => .miss | some ls => evs (ev B' k) ls)
      rw [ho n hn]
      cases B n with
      | none => exact R.le_refl _
      | some ls => exact evs_le ih ls
theorem unf2 (hi : 0 ≤ i) (hz : PosU zs) (hpm : m ≠ p) (hp : B p = some (xs ++ [.use i m] ++ ys)) (hm : B m = some zs) (hp' : B' p = some (xs ++ zs.map (shL i) ++ ys)) (ho : ∀ n, n ≠ p → B' n = B n) :
    ∀ (k : Nat) (n : T), (ev B' k n).le (ev B (2 * k) n)
  | 0, n => .inl rfl
  | k + 1, n => by
    have ih := unf2 hi hz hpm hp hm hp' ho k
    have e2 : 2 * (k + 1) = (2 * k + 1) + 1 := by omega
    rw [e2]
    by_cases hn : n = p
    · subst hn
      show R.le (match B' n with | none => .miss | some ls => evs (ev B' k) ls) (match B n with | none => .miss | some ls => evs (ev B (2 * k + 1)) ls)
      rw [hp, hp']
      show R.le (evs (ev B' k) _) (evs (ev B (2 * k + 1)) _)
      rw [evs_append, evs_append, evs_append, evs_append, evs_sh _ hi zs hz]
      have up : ∀ ls, R.le (evs (ev B' k) ls) (evs (ev B (2 * k + 1)) ls) := fun ls => R.le_trans (evs_le ih ls) (evs_mono B (Nat.le_succ _) ls)
      refine seq_le (seq_le (up xs) ?_) (up ys)
      show R.le _ (((ev B (2 * k + 1) m).sh i).seq (.ok []))
      rw [seq_nil']
      refine sh_le i ?_
      show R.le _ (match B m with | none => .miss | some ls => evs (ev B (2 * k)) ls)
      rw [hm]
      exact evs_le ih zs
    · show R.le (match B' n with | none => .miss | some ls => evs (ev B' k) ls) (match B n with | none => .miss | some ls => evs (ev B (2 * k + 1)) ls)
      rw [ho n hn]
      cases B n with
      | none => exact R.le_refl _
      | some ls => exact R.le_trans (evs_le ih ls) (evs_mono B (Nat.le_succ _) ls)
/-- a reference put in, or lines taken out -/
theorem Sm.unfold (hi : 0 ≤ i) (hz : PosU zs) (hpm : m ≠ p) (hp : B p = some (xs ++ [.use i m] ++ ys)) (hm : B m = some zs) (hp' : B' p = some (xs ++ zs.map (shL i) ++ ys)) (ho : ∀ n, n ≠ p → B' n = B n) (n : T) : Sm B n B' n := by
  refine ⟨?_, fun r hr => ⟨fun z => ?_, fun z => ?_⟩⟩
  · by_cases hn : n = p
    · subst hn
      rw [hp, hp']
      exact ⟨fun z => (by cases z), fun z => (by cases z)⟩
    · rw [ho n hn]
  · obtain ⟨k, e⟩ := z
    exact ⟨k, le_eq (unf1 hi hz hpm hp hm hp' ho k n) e hr⟩
  · obtain ⟨k, e⟩ := z
    exact ⟨2 * k, le_eq (unf2 hi hz hpm hp hm hp' ho k n) e hr⟩
end

/-- no item of B refers to q -/
def NoRef (B : Bd) (q : T) : Prop := ∀ n ls, B n = some ls → ∀ i m, Ln.use i m ∈ ls → m ≠ q
theorem evs_congr {f g : T → R} : ∀ ls : List Ln, (∀ i m, Ln.use i m ∈ ls → f m = g m) → evs f ls = evs g ls
  | [], _ => rfl
  | .code t :: r, h => by
    show (R.ok [t]).seq (evs f r) = (R.ok [t]).seq (evs g r)
    rw [evs_congr r fun i m z => h i m (List.mem_cons_of_mem _ z)]
  | .use i m :: r, h => by
    show ((f m).sh i).seq (evs f r) = ((g m).sh i).seq (evs g r)
    rw [evs_congr r fun i m z => h i m (List.mem_cons_of_mem _ z), h i m List.mem_cons_self]
  | .head _ :: r, h => evs_congr r fun i m z => h i m (List.mem_cons_of_mem _ z)
  | .prose _ :: r, h => evs_congr r fun i m z => h i m (List.mem_cons_of_mem _ z)
theorem ev_new {B B' : Bd} {q : T} (hr : NoRef B q) (ho : ∀ n, n ≠ q → B' n = B n) : ∀ (k : Nat) (n : T), n ≠ q → ev B' k n = ev B k n
  | 0, _, _ => rfl
  | k + 1, n, hn => by
    show (match B' n with | none => R.miss | some ls => evs (ev B' k) ls) = (match B n with | none => R.miss | some ls => evs (ev B k) ls)
    rw [ho n hn]
    cases e : B n with
    | none => rfl
    | some ls => exact evs_congr ls fun i m z => ev_new hr ho k m (hr n ls e i m z)
/-- a new piece that nobody refers to -/
theorem Sm.new {B B' : Bd} {q : T} (hr : NoRef B q) (ho : ∀ n, n ≠ q → B' n = B n) (n : T) (hn : n ≠ q) : Sm B n B' n :=
  ⟨by rw [ho n hn], fun r _ => ⟨fun ⟨k, e⟩ => ⟨k, (ev_new hr ho k n hn).trans e⟩, fun ⟨k, e⟩ => ⟨k, (ev_new hr ho k n hn).symm.trans e⟩⟩⟩

/-! renaming -/
def rn (a b n : T) : T := if n = a then b else n
def rnL (a b : T) : Ln → Ln
  | .use i m => .use i (rn a b m)
  | .head m => .head (rn a b m)
  | l => l
theorem evs_rn {f g : T → R} {a b : T} : ∀ ls : List Ln, (∀ i m, Ln.use i m ∈ ls → g (rn a b m) = f m) → evs g (ls.map (rnL a b)) = evs f ls
  | [], _ => rfl
  | .code t :: r, h => by
    show (R.ok [t]).seq (evs g (r.map (rnL a b))) = (R.ok [t]).seq (evs f r)
    rw [evs_rn r fun i m z => h i m (List.mem_cons_of_mem _ z)]
  | .use i m :: r, h => by
    show ((g (rn a b m)).sh i).seq (evs g (r.map (rnL a b))) = ((f m).sh i).seq (evs f r)
    rw [evs_rn r fun i m z => h i m (List.mem_cons_of_mem _ z), h i m List.mem_cons_self]
  | .head _ :: r, h => evs_rn r fun i m z => h i m (List.mem_cons_of_mem _ z)
  | .prose _ :: r, h => evs_rn r fun i m z => h i m (List.mem_cons_of_mem _ z)
theorem ev_rn {B B' : Bd} {a b : T} (hr : NoRef B b) (hB : ∀ n, n ≠ b → B' (rn a b n) = (B n).map (List.map (rnL a b))) : ∀ (k : Nat) (n : T), n ≠ b → ev B' k (rn a b n) = ev B k n
  | 0, _, _ => rfl
  | k + 1, n, hn => by
    show (match B' (rn a b n) with | none => R.miss | some ls => evs (ev B' k) ls) = (match B n with | none => R.miss | some ls => evs (ev B k) ls)
    rw [hB n hn]
    cases e : B n with
    | none => rfl
    | some ls => exact evs_rn ls fun i m z => ev_rn hr hB k m (hr n ls e i m z)
theorem Sm.rename {B B' : Bd} {a b : T} (hr : NoRef B b) (hB : ∀ n, n ≠ b → B' (rn a b n) = (B n).map (List.map (rnL a b))) (n : T) (hn : n ≠ b) : Sm B n B' (rn a b n) :=
  ⟨by rw [hB n hn]; simp, fun r _ => ⟨fun ⟨k, e⟩ => ⟨k, (ev_rn hr hB k n hn).trans e⟩, fun ⟨k, e⟩ => ⟨k, (ev_rn hr hB k n hn).symm.trans e⟩⟩⟩
end Wf

end
section

/-! WM2: documents: sections, pieces, what the turnings do to them. -/
namespace Wf
/-- the section that is open behind lines -/
def cu (c : Option T) : List Ln → Option T
  | [] => c
  | .head m :: r => cu (some m) r
  | .prose _ :: r => cu none r
  | .use _ _ :: r => cu c r
  | .code _ :: r => cu c r
/-- the lines of the piece n -/
def its (n : T) (c : Option T) : List Ln → List Ln
  | [] => []
  | .head m :: r => its n (some m) r
  | .prose _ :: r => its n none r
  | .use i m :: r => if c = some n then .use i m :: its n c r else its n c r
  | .code t :: r => if c = some n then .code t :: its n c r else its n c r
/-- every own line stands in a section -/
def okd (c : Option T) : List Ln → Prop
  | [] => True
  | .head m :: r => okd (some m) r
  | .prose _ :: r => okd none r
  | .use _ _ :: r => c ≠ none ∧ okd c r
  | .code _ :: r => c ≠ none ∧ okd c r
/-- the indexes of the lines of the piece n -/
def plc (n : T) (c : Option T) (a : Nat) : List Ln → List Nat
  | [] => []
  | .head m :: r => plc n (some m) (a + 1) r
  | .prose _ :: r => plc n none (a + 1) r
  | .use _ _ :: r => if c = some n then a :: plc n c (a + 1) r else plc n c (a + 1) r
  | .code _ :: r => if c = some n then a :: plc n c (a + 1) r else plc n c (a + 1) r
def body (d : List Ln) : Bd := fun n => if Ln.head n ∈ d then some (its n none d) else none
def tw (r : List Ln) : List Ln := r.takeWhile Ln.own
abbrev Sec := T × Nat × Nat
def secs (a : Nat) : List Ln → List Sec
  | [] => []
  | .head m :: r => (m, a, a + 1 + (tw r).length) :: secs (a + 1) r
  | .prose _ :: r => secs (a + 1) r
  | .use _ _ :: r => secs (a + 1) r
  | .code _ :: r => secs (a + 1) r
def cts (n : T) : List Ln → List (List Ln)
  | [] => []
  | .head m :: r => if m = n then tw r :: cts n r else cts n r
  | .prose _ :: r => cts n r
  | .use _ _ :: r => cts n r
  | .code _ :: r => cts n r
theorem cu_app (c : Option T) : ∀ a b : List Ln, cu c (a ++ b) = cu (cu c a) b
  | [], _ => rfl
  | .head m :: r, b => cu_app (some m) r b
  | .prose _ :: r, b => cu_app none r b
  | .use _ _ :: r, b => cu_app c r b
  | .code _ :: r, b => cu_app c r b
theorem cu_hd (c : Option T) (a : List Ln) (n : T) : cu c (a ++ [.head n]) = some n := by rw [cu_app]; rfl
theorem cu_phd (c : Option T) (a : List Ln) (t n : T) : cu c (a ++ [.prose t, .head n]) = some n := by rw [cu_app]; rfl
theorem cu_use (c : Option T) (a : List Ln) (i : Int) (n : T) : cu c (a ++ [.use i n]) = cu c a := by rw [cu_app]; rfl
theorem its_app (n : T) (c : Option T) (a b : List Ln) : its n c (a ++ b) = its n c a ++ its n (cu c a) b := by
  induction a generalizing c with
  | nil => rfl
  | cons l r ih =>
    cases l with
    | head m => exact ih (some m)
    | prose t => exact ih none
    | use i m =>
      show (if c = some n then Ln.use i m :: its n c (r ++ b) else its n c (r ++ b)) = (if c = some n then Ln.use i m :: its n c r else its n c r) ++ its n (cu c r) b
      by_cases h : c = some n
      · rw [if_pos h, if_pos h, ih c]; rfl
      · rw [if_neg h, if_neg h, ih c]
    | code t =>
      show (if c = some n then Ln.code t :: its n c (r ++ b) else its n c (r ++ b)) = (if c = some n then Ln.code t :: its n c r else its n c r) ++ its n (cu c r) b
      by_cases h : c = some n
      · rw [if_pos h, if_pos h, ih c]; rfl
      · rw [if_neg h, if_neg h, ih c]
theorem okd_app (c : Option T) (a b : List Ln) : okd c (a ++ b) ↔ okd c a ∧ okd (cu c a) b := by
  induction a generalizing c with
  | nil => exact ⟨fun h => ⟨trivial, h⟩, fun h => h.2⟩
  | cons l r ih =>
    cases l with
    | head m => exact ih (some m)
    | prose t => exact ih none
    | use i m =>
      show (c ≠ none ∧ okd c (r ++ b)) ↔ (c ≠ none ∧ okd c r) ∧ okd (cu c r) b
      rw [ih c, and_assoc]
    | code t =>
      show (c ≠ none ∧ okd c (r ++ b)) ↔ (c ≠ none ∧ okd c r) ∧ okd (cu c r) b
      rw [ih c, and_assoc]
theorem cu_own {c : Option T} : ∀ {a : List Ln}, (∀ l ∈ a, l.own = true) → cu c a = c
  | [], _ => rfl
  | .head m :: r, h => by cases h _ List.mem_cons_self
  | .prose _ :: r, h => by cases h _ List.mem_cons_self
  | .use _ _ :: r, h => cu_own (a := r) fun l hl => h l (List.mem_cons_of_mem _ hl)
  | .code _ :: r, h => cu_own (a := r) fun l hl => h l (List.mem_cons_of_mem _ hl)
theorem its_own {n : T} {c : Option T} : ∀ {a : List Ln}, (∀ l ∈ a, l.own = true) → its n c a = if c = some n then a else []
  | [], _ => by simp [its]
  | .head m :: r, h => by cases h _ List.mem_cons_self
  | .prose _ :: r, h => by cases h _ List.mem_cons_self
  | .use i m :: r, h => by
    show (if c = some n then Ln.use i m :: its n c r else its n c r) = _
    rw [its_own (a := r) fun l hl => h l (List.mem_cons_of_mem _ hl)]
    by_cases e : c = some n
    · simp only [if_pos e]
    · simp only [if_neg e]
  | .code t :: r, h => by
    show (if c = some n then Ln.code t :: its n c r else its n c r) = _
    rw [its_own (a := r) fun l hl => h l (List.mem_cons_of_mem _ hl)]
    by_cases e : c = some n
    · simp only [if_pos e]
    · simp only [if_neg e]
theorem okd_own {c : Option T} : ∀ {a : List Ln}, (∀ l ∈ a, l.own = true) → c ≠ none → okd c a
  | [], _, _ => trivial
  | .head m :: r, h, _ => by cases h _ List.mem_cons_self
  | .prose _ :: r, h, _ => by cases h _ List.mem_cons_self
  | .use i m :: r, h, hc => ⟨hc, okd_own (a := r) (fun l hl => h l (List.mem_cons_of_mem _ hl)) hc⟩
  | .code t :: r, h, hc => ⟨hc, okd_own (a := r) (fun l hl => h l (List.mem_cons_of_mem _ hl)) hc⟩
theorem cu_head {c : Option T} {n : T} : ∀ {a : List Ln}, cu c a = some n → c = some n ∨ Ln.head n ∈ a
  | [], h => .inl h
  | .head m :: r, h => by
    rcases cu_head (a := r) h with e | e
    · cases e; exact .inr List.mem_cons_self
    · exact .inr (List.mem_cons_of_mem _ e)
  | .prose _ :: r, h => by
    rcases cu_head (a := r) h with e | e
    · cases e
    · exact .inr (List.mem_cons_of_mem _ e)
  | .use _ _ :: r, h => (cu_head (a := r) h).imp id (List.mem_cons_of_mem _)
  | .code _ :: r, h => (cu_head (a := r) h).imp id (List.mem_cons_of_mem _)
theorem its_mem {n : T} {l : Ln} : ∀ {c : Option T} {a : List Ln}, l ∈ its n c a → l ∈ a ∧ l.own = true
  | c, .head m :: r, h => let ⟨x, y⟩ := its_mem (c := some m) (a := r) h; ⟨List.mem_cons_of_mem _ x, y⟩
  | c, .prose _ :: r, h => let ⟨x, y⟩ := its_mem (c := none) (a := r) h; ⟨List.mem_cons_of_mem _ x, y⟩
  | c, .use i m :: r, h => by
    have h' : l ∈ (if c = some n then Ln.use i m :: its n c r else its n c r) := h
    by_cases e : c = some n
    · rw [if_pos e] at h'
      rcases List.mem_cons.mp h' with z | z
      · rw [z]; exact ⟨List.mem_cons_self, rfl⟩
      · let ⟨x, y⟩ := its_mem (c := c) (a := r) z; exact ⟨List.mem_cons_of_mem _ x, y⟩
    · rw [if_neg e] at h'
      let ⟨x, y⟩ := its_mem (c := c) (a := r) h'; exact ⟨List.mem_cons_of_mem _ x, y⟩
  | c, .code t :: r, h => by
    have h' : l ∈ (if c = some n then Ln.code t :: its n c r else its n c r) := h
    by_cases e : c = some n
    · rw [if_pos e] at h'
      rcases List.mem_cons.mp h' with z | z
      · rw [z]; exact ⟨List.mem_cons_self, rfl⟩
      · let ⟨x, y⟩ := its_mem (c := c) (a := r) z; exact ⟨List.mem_cons_of_mem _ x, y⟩
    · rw [if_neg e] at h'
      let ⟨x, y⟩ := its_mem (c := c) (a := r) h'; exact ⟨List.mem_cons_of_mem _ x, y⟩
/-! ### the turnings -/
theorem body_of {d d' : List Ln} (h1 : ∀ n, Ln.head n ∈ d' ↔ Ln.head n ∈ d) (h2 : ∀ n, its n none d' = its n none d) : body d' = body d := by
  funext n
  unfold body
  by_cases h : Ln.head n ∈ d
  · rw [if_pos h, if_pos ((h1 n).mpr h), h2]
  · rw [if_neg h, if_neg (fun z => h ((h1 n).mp z))]
theorem body_split {a b : List Ln} {n t : T} (h : cu none a = some n) : body (a ++ [.prose t, .head n] ++ b) = body (a ++ b) := by
  have hn : Ln.head n ∈ a := (cu_head h).resolve_left (fun z => by cases z)
  refine body_of (fun m => ?_) fun m => ?_
  · simp only [List.mem_append, List.mem_cons, List.not_mem_nil, or_false, Ln.head.injEq, reduceCtorEq, false_or]
    constructor
    · rintro ((h1 | rfl) | h1)
      · exact .inl h1
      · exact .inl hn
      · exact .inr h1
    · rintro (h1 | h1)
      · exact .inl (.inl h1)
      · exact .inr h1
  · rw [its_app, its_app, its_app, cu_app, h]
    show its m none a ++ [] ++ its m (some n) b = _
    rw [List.append_nil]
theorem okd_split {a b : List Ln} {n t : T} (h : cu none a = some n) (k : okd none (a ++ b)) : okd none (a ++ [.prose t, .head n] ++ b) := by
  rw [okd_app, h] at k
  rw [okd_app, okd_app, cu_app]
  exact ⟨⟨k.1, trivial⟩, k.2⟩
theorem cu_prose {c : Option T} : ∀ {ps : List Ln}, (∀ l ∈ ps, ∃ t, l = .prose t) → ps ≠ [] → cu c ps = none
  | [], _, h => absurd rfl h
  | l :: r, h, _ => by
    obtain ⟨t, rfl⟩ := h l List.mem_cons_self
    show cu none r = none
    by_cases hr : r = []
    · rw [hr]; rfl
    · exact cu_prose (fun x hx => h x (List.mem_cons_of_mem _ hx)) hr
theorem its_prose {n : T} {c : Option T} : ∀ {ps : List Ln}, (∀ l ∈ ps, ∃ t, l = .prose t) → its n c ps = []
  | [], _ => rfl
  | l :: r, h => by
    obtain ⟨t, rfl⟩ := h l List.mem_cons_self
    exact its_prose (ps := r) fun x hx => h x (List.mem_cons_of_mem _ hx)
theorem body_join {a ps b : List Ln} {n : T} (h : cu none a = some n) (hp : ∀ l ∈ ps, ∃ t, l = .prose t) : body (a ++ b) = body (a ++ ps ++ [.head n] ++ b) := by
  have hn : Ln.head n ∈ a := (cu_head h).resolve_left (fun z => by cases z)
  refine body_of (fun m => ?_) fun m => ?_
  · simp only [List.mem_append, List.mem_cons, List.not_mem_nil, or_false, Ln.head.injEq]
    constructor
    · rintro (h1 | h1)
      · exact .inl (.inl (.inl h1))
      · exact .inr h1
    · rintro (((h1 | h1) | rfl) | h1)
      · exact .inl h1
      · obtain ⟨t, e⟩ := hp _ h1
        cases e
      · exact .inl hn
      · exact .inr h1
  · rw [its_app, its_app, its_app, its_app, its_prose hp, cu_hd, h]
    show _ = its m none a ++ [] ++ [] ++ its m (some n) b
    rw [List.append_nil, List.append_nil]
theorem okd_join {a ps b : List Ln} {n : T} (h : cu none a = some n) (k : okd none (a ++ ps ++ [.head n] ++ b)) : okd none (a ++ b) := by
  rw [okd_app, okd_app, okd_app, cu_hd] at k
  rw [okd_app, h]
  exact ⟨k.1.1.1, k.2⟩
/-- what begins with no own line needs no open section -/
def Free : List Ln → Prop
  | .use _ _ :: _ => False
  | .code _ :: _ => False
  | _ => True
theorem Free.okd {c c' : Option T} : ∀ {b : List Ln}, Free b → Wf.okd c b → Wf.okd c' b
  | [], _, h => trivial
  | .head _ :: _, _, h => h
  | .prose _ :: _, _, h => h
theorem okd_move {x s y : List Ln} {n : T} (fy : Free y) (k : okd none (x ++ y)) (hs : ∀ l ∈ s, l.own = true) : okd none (x ++ .head n :: s ++ y) := by
  rw [okd_app] at k
  have e : x ++ .head n :: s ++ y = x ++ ([.head n] ++ s ++ y) := by simp
  rw [e, okd_app, okd_app]
  refine ⟨k.1, ?_, fy.okd k.2⟩
  show okd (some n) s
  exact okd_own hs (fun z => by cases z)
theorem okd_cut {a s b : List Ln} (fb : Free b) (k : okd none (a ++ s ++ b)) : okd none (a ++ b) := by
  rw [okd_app, okd_app] at k
  rw [okd_app]
  exact ⟨k.1.1, fb.okd k.2⟩
theorem its_some (n m : T) (r : List Ln) : its n (some m) r = (if m = n then tw r else []) ++ its n none r := by
  induction r with
  | nil => simp [its, tw]
  | cons l r ih =>
    cases l with
    | head k => simp [its, tw, List.takeWhile, Ln.own]
    | prose k => simp [its, tw, List.takeWhile, Ln.own]
    | use i k =>
      show (if some m = some n then Ln.use i k :: its n (some m) r else its n (some m) r) = _
      rw [ih]
      by_cases h : m = n
      · subst h
        simp [its, tw, List.takeWhile, Ln.own]
      · have h' : ¬ (some m = some n) := fun z => h (Option.some.inj z)
        rw [if_neg h, if_neg h', if_neg h]
        simp [its]
    | code k =>
      show (if some m = some n then Ln.code k :: its n (some m) r else its n (some m) r) = _
      rw [ih]
      by_cases h : m = n
      · subst h
        simp [its, tw, List.takeWhile, Ln.own]
      · have h' : ¬ (some m = some n) := fun z => h (Option.some.inj z)
        rw [if_neg h, if_neg h', if_neg h]
        simp [its]
theorem its_cts (n : T) : ∀ d : List Ln, its n none d = (cts n d).flatten
  | [] => rfl
  | .head m :: r => by
    show its n (some m) r = (if m = n then tw r :: cts n r else cts n r).flatten
    rw [its_some, its_cts n r]
    by_cases h : m = n
    · rw [if_pos h, if_pos h]; rfl
    · rw [if_neg h, if_neg h]; rfl
  | .prose _ :: r => its_cts n r
  | .use i m :: r => by
    show (if none = some n then Ln.use i m :: its n none r else its n none r) = _
    rw [if_neg (fun z => by cases z)]
    exact its_cts n r
  | .code t :: r => by
    show (if none = some n then Ln.code t :: its n none r else its n none r) = _
    rw [if_neg (fun z => by cases z)]
    exact its_cts n r
theorem head_cts (n : T) : ∀ d : List Ln, Ln.head n ∈ d ↔ cts n d ≠ []
  | [] => by simp [cts]
  | .head m :: r => by
    show _ ↔ (if m = n then tw r :: cts n r else cts n r) ≠ []
    by_cases h : m = n
    · rw [if_pos h, h]; simp
    · rw [if_neg h, ← head_cts n r]
      simp only [List.mem_cons, Ln.head.injEq]
      exact ⟨fun z => z.resolve_left fun y => h y.symm, .inr⟩
  | .prose _ :: r => by
    show _ ↔ cts n r ≠ []
    rw [← head_cts n r]; simp
  | .use _ _ :: r => by
    show _ ↔ cts n r ≠ []
    rw [← head_cts n r]; simp
  | .code _ :: r => by
    show _ ↔ cts n r ≠ []
    rw [← head_cts n r]; simp
theorem body_move {d d' : List Ln} (h : ∀ n, cts n d' = cts n d) : body d' = body d :=
  body_of (fun n => by rw [head_cts, head_cts, h]) fun n => by rw [its_cts, its_cts, h]
/-- the uses of d have no indent below 0 -/
theorem pos_its {d : List Ln} (h : PosU d) (n : T) (c : Option T) : PosU (its n c d) := fun i m z => h i m (its_mem z).1
theorem putin {a b : List Ln} {i : Int} {m p : T} (hc : cu none a = some p) (hmp : m ≠ p) (hm : Ln.head m ∈ a ++ [.use i m] ++ b) (hpos : PosU (a ++ [.use i m] ++ b)) (n : T) :
    Sm (body (a ++ [.use i m] ++ b)) n (body (a ++ (its m none (a ++ [.use i m] ++ b)).map (shL i) ++ b)) n := by
  have hz : PosU (its m none (a ++ [.use i m] ++ b)) := pos_its hpos m none
  have hi : 0 ≤ i := hpos i m (by simp)
  have hp : Ln.head p ∈ a := (cu_head hc).resolve_left (fun z => by cases z)
  generalize hzs : its m none (a ++ [.use i m] ++ b) = zs at hz ⊢
  have ow : ∀ l ∈ zs.map (shL i), l.own = true := fun l hl => by
    obtain ⟨l0, h0, rfl⟩ := List.mem_map.mp hl
    rw [← hzs] at h0
    have o := (its_mem h0).2
    cases l0 <;> first | rfl | cases o
  have hd : ∀ n, Ln.head n ∈ a ++ zs.map (shL i) ++ b ↔ Ln.head n ∈ a ++ [.use i m] ++ b := fun n => by
    simp only [List.mem_append, List.mem_cons, List.not_mem_nil, or_false, reduceCtorEq]
    constructor
    · rintro ((h1 | h1) | h1)
      · exact .inl h1
      · cases ow _ h1
      · exact .inr h1
    · rintro (h1 | h1)
      · exact .inl (.inl h1)
      · exact .inr h1
  refine Sm.unfold (xs := its p none a) (ys := its p (some p) b) (zs := zs) hi hz hmp ?_ ?_ ?_ (fun q hq => ?_) n
  · unfold body
    rw [if_pos (by simp [hp]), its_app, its_app, cu_app, hc]
    show some (its p none a ++ (if some p = some p then [Ln.use i m] else []) ++ its p (some p) b) = _
    rw [if_pos rfl]
  · unfold body
    rw [if_pos hm, hzs]
  · unfold body
    rw [if_pos ((hd p).mpr (by simp [hp])), its_app, its_app, cu_app, hc, its_own ow, if_pos rfl, cu_own ow]
  · unfold body
    have e : its q none (a ++ zs.map (shL i) ++ b) = its q none (a ++ [.use i m] ++ b) := by
      rw [its_app, its_app, its_app, its_app, cu_app, cu_app, hc, its_own ow, cu_own ow, if_neg (fun z => hq (Option.some.inj z).symm)]
      show _ = its q none a ++ (if some p = some q then [Ln.use i m] else []) ++ its q (some p) b
      rw [if_neg (fun z => hq (Option.some.inj z).symm)]
    rw [e]
    by_cases h : Ln.head q ∈ a ++ [.use i m] ++ b
    · rw [if_pos h, if_pos ((hd q).mpr h)]
    · rw [if_neg h, if_neg (fun z => h ((hd q).mp z))]
theorem okd_putin {a b : List Ln} {i : Int} {m p : T} {zs : List Ln} (hc : cu none a = some p) (k : okd none (a ++ [.use i m] ++ b)) (hz : ∀ l ∈ zs, l.own = true) : okd none (a ++ zs ++ b) := by
  rw [okd_app, okd_app, cu_app, hc] at k
  rw [okd_app, okd_app, cu_app, hc, cu_own hz]
  exact ⟨⟨k.1.1, okd_own hz (fun z => by cases z)⟩, k.2⟩
/-- a name that no head and no reference has -/
def Fresh (q : T) (d : List Ln) : Prop := Ln.head q ∉ d ∧ ∀ i, Ln.use i q ∉ d
theorem Fresh.noRef {q : T} {d : List Ln} (h : Fresh q d) : NoRef (body d) q := fun n ls e i m hm z => by
  unfold body at e
  by_cases hn : Ln.head n ∈ d
  · rw [if_pos hn] at e
    cases e
    rw [z] at hm
    exact h.2 i (its_mem hm).1
  · rw [if_neg hn] at e
    cases e
theorem takeout {a mid mid' b : List Ln} {i : Int} {q p t : T} (hc : cu none a = some p) (hi : 0 ≤ i) (ho : ∀ l ∈ mid, l.own = true) (ho' : ∀ l ∈ mid', l.own = true) (hs : mid'.map (shL i) = mid) (hpos : PosU mid') (hq : Fresh q (a ++ mid ++ b)) (n : T) (hn : n ≠ q) :
    Sm (body (a ++ mid ++ b)) n (body (a ++ [.use i q] ++ b ++ [.prose t, .head q] ++ mid')) n := by
  have hp : Ln.head p ∈ a := (cu_head hc).resolve_left (fun z => by cases z)
  have hqp : q ≠ p := fun e => hq.1 (by rw [e]; simp [hp])
  have hd : ∀ n, n ≠ q → (Ln.head n ∈ a ++ [.use i q] ++ b ++ [.prose t, .head q] ++ mid' ↔ Ln.head n ∈ a ++ mid ++ b) := fun n hn => by
    simp only [List.mem_append, List.mem_cons, List.not_mem_nil, or_false, reduceCtorEq, Ln.head.injEq, false_or]
    constructor
    · rintro (((h1 | h1) | h1) | h1)
      · exact .inl (.inl h1)
      · exact .inr h1
      · exact absurd h1 hn
      · cases ho' _ h1
    · rintro ((h1 | h1) | h1)
      · exact .inl (.inl (.inl h1))
      · cases ho _ h1
      · exact .inl (.inl (.inr h1))
  have hit : ∀ n, its n none (a ++ [.use i q] ++ b ++ [.prose t, .head q] ++ mid') = its n none a ++ (if p = n then [Ln.use i q] else []) ++ its n (some p) b ++ (if q = n then mid' else []) := fun n => by
    rw [its_app, its_app, its_app, its_app, cu_phd, cu_use, hc]
    show its n none a ++ (if some p = some n then [Ln.use i q] else []) ++ its n (some p) b ++ [] ++ its n (some q) mid' = _
    rw [its_own ho', List.append_nil]
    simp only [Option.some.injEq]
  have hit0 : ∀ n, its n none (a ++ mid ++ b) = its n none a ++ (if p = n then mid else []) ++ its n (some p) b := fun n => by
    rw [its_app, its_app, cu_app, hc, its_own ho, cu_own ho]
    simp only [Option.some.injEq]
  have hq0 : its q none a = [] ∧ its q (some p) b = [] := by
    constructor
    · have : its q none a ++ its q (some p) b = [] := by
        have e := its_cts q (a ++ mid ++ b)
        have h0 : cts q (a ++ mid ++ b) = [] := by
          cases z : cts q (a ++ mid ++ b) with
          | nil => rfl
          | cons x r => exact absurd ((head_cts q _).mpr (by rw [z]; simp)) hq.1
        rw [h0, hit0, if_neg (fun z => hqp z.symm), List.append_nil] at e
        exact e
      exact (List.append_eq_nil_iff.mp this).1
    · have : its q none a ++ its q (some p) b = [] := by
        have e := its_cts q (a ++ mid ++ b)
        have h0 : cts q (a ++ mid ++ b) = [] := by
          cases z : cts q (a ++ mid ++ b) with
          | nil => rfl
          | cons x r => exact absurd ((head_cts q _).mpr (by rw [z]; simp)) hq.1
        rw [h0, hit0, if_neg (fun z => hqp z.symm), List.append_nil] at e
        exact e
      exact (List.append_eq_nil_iff.mp this).2
  let B3 : Bd := fun n => if n = p then some (its p none a ++ mid ++ its p (some p) b) else body (a ++ [.use i q] ++ b ++ [.prose t, .head q] ++ mid') n
  have s1 : Sm (body (a ++ mid ++ b)) n B3 n := by
    refine Sm.new hq.noRef (fun m hm => ?_) n hn
    show (if m = p then _ else _) = _
    by_cases e : m = p
    · subst e
      rw [if_pos rfl]
      unfold body
      rw [if_pos (by simp [hp]), hit0, if_pos rfl]
    · rw [if_neg e]
      unfold body
      rw [hit, hit0, if_neg (fun z : p = m => e z.symm), if_neg (fun z : p = m => e z.symm), if_neg (fun z : q = m => hm z.symm), List.append_nil]
      by_cases h : Ln.head m ∈ a ++ mid ++ b
      · rw [if_pos h, if_pos ((hd m hm).mpr h)]
      · rw [if_neg h, if_neg (fun z => h ((hd m hm).mp z))]
  have s2 : Sm (body (a ++ [.use i q] ++ b ++ [.prose t, .head q] ++ mid')) n B3 n := by
    refine Sm.unfold (p := p) (m := q) (i := i) (xs := its p none a) (ys := its p (some p) b) (zs := mid') hi hpos hqp ?_ ?_ ?_ (fun m hm => ?_) n
    · unfold body
      rw [if_pos (by simp [hp]), hit, if_pos rfl, if_neg hqp, List.append_nil]
    · unfold body
      rw [if_pos (by simp), hit, if_neg (fun z => hqp z.symm), if_pos rfl, hq0.1, hq0.2]
      rfl
    · show (if p = p then _ else _) = _
      rw [if_pos rfl, hs]
    · show (if m = p then _ else _) = _
      rw [if_neg hm]
  exact s1.trans s2.symm
theorem okd_takeout {a mid mid' b : List Ln} {i : Int} {q t : T} {p : T} (hc : cu none a = some p) (ho : ∀ l ∈ mid, l.own = true) (ho' : ∀ l ∈ mid', l.own = true) (k : okd none (a ++ mid ++ b)) : okd none (a ++ [.use i q] ++ b ++ [.prose t, .head q] ++ mid') := by
  rw [okd_app, okd_app, cu_app, hc, cu_own ho] at k
  rw [okd_app, okd_app, okd_app, okd_app, cu_phd, cu_use, hc]
  exact ⟨⟨⟨⟨k.1.1, ⟨(fun z => by cases z), trivial⟩⟩, k.2⟩, trivial⟩, okd_own ho' (fun z => by cases z)⟩
theorem rn_inj {a b m n : T} (h1 : m ≠ b) (h2 : n ≠ b) : rn a b m = rn a b n ↔ m = n := by
  unfold rn
  by_cases e1 : m = a
  · by_cases e2 : n = a
    · rw [if_pos e1, if_pos e2, e1, e2]; simp
    · rw [if_pos e1, if_neg e2]
      exact ⟨fun z => absurd z.symm h2, fun z => absurd (z.symm.trans e1) e2⟩
  · by_cases e2 : n = a
    · rw [if_neg e1, if_pos e2]
      exact ⟨fun z => absurd z h1, fun z => absurd (z.trans e2) e1⟩
    · rw [if_neg e1, if_neg e2]
theorem its_rn {a b n : T} (hn : n ≠ b) : ∀ (c : Option T) (d : List Ln), c ≠ some b → Ln.head b ∉ d → its (rn a b n) (c.map (rn a b)) (d.map (rnL a b)) = (its n c d).map (rnL a b)
  | _, [], _, _ => rfl
  | c, .head m :: r, hc, hd => by
    have hm : m ≠ b := fun e => hd (by rw [e]; simp)
    exact its_rn hn (some m) r (fun z => hm (Option.some.inj z)) fun z => hd (List.mem_cons_of_mem _ z)
  | c, .prose _ :: r, hc, hd => its_rn hn none r (fun z => by cases z) fun z => hd (List.mem_cons_of_mem _ z)
  | c, .use i m :: r, hc, hd => by
    have ih := its_rn (a := a) hn c r hc fun z => hd (List.mem_cons_of_mem _ z)
    have e : (c.map (rn a b) = some (rn a b n)) ↔ c = some n := by
      cases c with
      | none => simp
      | some k =>
        simp only [Option.map_some, Option.some.injEq]
        exact rn_inj (fun z => hc (by rw [z])) hn
    show (if c.map (rn a b) = some (rn a b n) then rnL a b (.use i m) :: its (rn a b n) (c.map (rn a b)) (r.map (rnL a b)) else its (rn a b n) (c.map (rn a b)) (r.map (rnL a b))) = List.map (rnL a b) (if c = some n then Ln.use i m :: its n c r else its n c r)
    by_cases h : c = some n
    · rw [if_pos h, if_pos (e.mpr h), ih]; rfl
    · rw [if_neg h, if_neg (fun z => h (e.mp z)), ih]
  | c, .code t :: r, hc, hd => by
    have ih := its_rn (a := a) hn c r hc fun z => hd (List.mem_cons_of_mem _ z)
    have e : (c.map (rn a b) = some (rn a b n)) ↔ c = some n := by
      cases c with
      | none => simp
      | some k =>
        simp only [Option.map_some, Option.some.injEq]
        exact rn_inj (fun z => hc (by rw [z])) hn
    show (if c.map (rn a b) = some (rn a b n) then rnL a b (.code t) :: its (rn a b n) (c.map (rn a b)) (r.map (rnL a b)) else its (rn a b n) (c.map (rn a b)) (r.map (rnL a b))) = List.map (rnL a b) (if c = some n then Ln.code t :: its n c r else its n c r)
    by_cases h : c = some n
    · rw [if_pos h, if_pos (e.mpr h), ih]; rfl
    · rw [if_neg h, if_neg (fun z => h (e.mp z)), ih]
theorem renamed {a b : T} {d : List Ln} (hb : Fresh b d) (n : T) (hn : n ≠ b) : Sm (body d) n (body (d.map (rnL a b))) (rn a b n) := by
  refine Sm.rename hb.noRef (fun m hm => ?_) n hn
  unfold body
  have e : Ln.head (rn a b m) ∈ d.map (rnL a b) ↔ Ln.head m ∈ d := by
    rw [List.mem_map]
    constructor
    · rintro ⟨l, hl, e⟩
      cases l with
      | head k =>
        have e2 : rn a b k = rn a b m := Ln.head.inj e
        rw [rn_inj (fun z => hb.1 (by rw [← z]; exact hl)) hm] at e2
        rw [← e2]; exact hl
      | prose t => cases e
      | use i k => cases e
      | code t => cases e
    · intro h
      exact ⟨_, h, rfl⟩
  by_cases h : Ln.head m ∈ d
  · rw [if_pos h, if_pos (e.mpr h)]
    show some _ = some _
    rw [← its_rn hm none d (fun z => by cases z) hb.1]
    rfl
  · rw [if_neg h, if_neg (fun z => h (e.mp z))]
    rfl
theorem okd_rn {a b : T} : ∀ (c c' : Option T) (d : List Ln), (c ≠ none → c' ≠ none) → okd c d → okd c' (d.map (rnL a b))
  | _, _, [], _, _ => trivial
  | _, _, .head m :: r, _, h => okd_rn (some m) (some (rn a b m)) r (fun _ z => by cases z) h
  | _, _, .prose _ :: r, _, h => okd_rn none none r id h
  | c, c', .use i m :: r, hc, h => ⟨hc h.1, okd_rn c c' r hc h.2⟩
  | c, c', .code t :: r, hc, h => ⟨hc h.1, okd_rn c c' r hc h.2⟩
end Wf

end
section

/-! WM2b: the list of sections as the loop makes it; indexes. -/
namespace Wf
theorem tw_app_of {r b : List Ln} : (∀ l ∈ r, l.own = true) → tw (r ++ b) = r ++ tw b := fun h => by
  unfold tw
  rw [List.takeWhile_append_of_pos h]
theorem tw_own {r : List Ln} (h : ∀ l ∈ r, l.own = true) : tw r = r := by
  have := tw_app_of (b := []) h
  rw [List.append_nil] at this
  rw [this]
  show r ++ [] = r
  rw [List.append_nil]
/-- a list is all own, or has a first line that is not -/
theorem own_split : ∀ r : List Ln, (∀ l ∈ r, l.own = true) ∨ ∃ x l y, r = x ++ l :: y ∧ (∀ l ∈ x, l.own = true) ∧ l.own = false
  | [] => .inl fun _ h => by cases h
  | l :: r => by
    cases h : l.own with
    | false => exact .inr ⟨[], l, r, rfl, (fun _ h => by cases h), h⟩
    | true =>
      rcases own_split r with k | ⟨x, m, y, e, k1, k2⟩
      · exact .inl fun z hz => by
          rcases List.mem_cons.mp hz with rfl | hz
          · exact h
          · exact k z hz
      · exact .inr ⟨l :: x, m, y, by rw [e]; rfl, fun z hz => by
          rcases List.mem_cons.mp hz with rfl | hz
          · exact h
          · exact k1 z hz, k2⟩
theorem tw_stop {x y : List Ln} {l : Ln} (h : ∀ z ∈ x, z.own = true) (hl : l.own = false) : tw (x ++ l :: y) = x := by
  rw [tw_app_of h]
  show x ++ tw (l :: y) = x
  unfold tw
  rw [List.takeWhile_cons, hl]
  simp
theorem tw_len_own (x : List Ln) {l : Ln} (h : ∀ z ∈ x, z.own = true) (hl : l.own = true) : (tw (x ++ [l])).length = x.length + 1 := by
  rw [tw_own (r := x ++ [l]) fun z hz => by
    rcases List.mem_append.mp hz with hz | hz
    · exact h z hz
    · rw [List.mem_singleton.mp hz]; exact hl]
  simp
theorem secs_all_own (a : Nat) : ∀ {r : List Ln}, (∀ l ∈ r, l.own = true) → secs a r = []
  | [], _ => rfl
  | .head m :: r, h => by cases h _ List.mem_cons_self
  | .prose _ :: r, h => by cases h _ List.mem_cons_self
  | .use _ _ :: r, h => secs_all_own (a + 1) (r := r) fun l hl => h l (List.mem_cons_of_mem _ hl)
  | .code _ :: r, h => secs_all_own (a + 1) (r := r) fun l hl => h l (List.mem_cons_of_mem _ hl)
theorem tw_snoc_free (r : List Ln) {l : Ln} (hl : l.own = false) : tw (r ++ [l]) = tw r := by
  rcases own_split r with h | ⟨x, m, y, e, h1, h2⟩
  · rw [tw_stop (y := []) h hl, tw_own h]
  · subst e
    rw [List.append_assoc, List.cons_append, tw_stop h1 h2, tw_stop h1 h2]
theorem secs_prose (a : Nat) (t : T) : ∀ r : List Ln, secs a (r ++ [.prose t]) = secs a r := by
  intro r
  induction r generalizing a with
  | nil => rfl
  | cons l r ih =>
    cases l with
    | head m =>
      show (m, a, a + 1 + (tw (r ++ [.prose t])).length) :: secs (a + 1) (r ++ [.prose t]) = (m, a, a + 1 + (tw r).length) :: secs (a + 1) r
      rw [ih, tw_snoc_free r rfl]
    | prose _ => exact ih (a + 1)
    | use _ _ => exact ih (a + 1)
    | code _ => exact ih (a + 1)
theorem secs_head (a : Nat) (n : T) : ∀ r : List Ln, secs a (r ++ [.head n]) = secs a r ++ [(n, a + r.length, a + r.length + 1)] := by
  intro r
  induction r generalizing a with
  | nil => rfl
  | cons l r ih =>
    have e : a + 1 + r.length = a + (l :: r).length := by rw [List.length_cons]; omega
    cases l with
    | head m =>
      show (m, a, a + 1 + (tw (r ++ [.head n])).length) :: secs (a + 1) (r ++ [.head n]) = (m, a, a + 1 + (tw r).length) :: secs (a + 1) r ++ _
      rw [ih, tw_snoc_free r rfl, e]; rfl
    | prose t =>
      show secs (a + 1) (r ++ [.head n]) = secs (a + 1) r ++ _
      rw [ih, e]
    | use i m =>
      show secs (a + 1) (r ++ [.head n]) = secs (a + 1) r ++ _
      rw [ih, e]
    | code t =>
      show secs (a + 1) (r ++ [.head n]) = secs (a + 1) r ++ _
      rw [ih, e]
theorem cu_none_own {c : Option T} {x : List Ln} {l : Ln} {y : List Ln} (hl : l.own = false) (h : ∀ z ∈ x, z.own = true) : cu c (x ++ l :: y) = cu none (x ++ l :: y) := by
  rw [cu_app, cu_app, cu_own h, cu_own h]
  cases l with
  | head m => rfl
  | prose t => rfl
  | use _ _ => cases hl
  | code _ => cases hl
theorem secs_own (a : Nat) {l : Ln} (hl : l.own = true) : ∀ (r : List Ln) (n : T), cu none r = some n → ∃ (ini : List Sec) (h : Nat), secs a r = ini ++ [(n, h, a + r.length)] ∧ secs a (r ++ [l]) = ini ++ [(n, h, a + r.length + 1)] := by
  intro r
  induction r generalizing a with
  | nil => intro n h; cases h
  | cons k r ih =>
    intro n h
    have e : a + 1 + r.length = a + (k :: r).length := by rw [List.length_cons]; omega
    have down : ∀ h : cu none r = some n, (∀ x, secs a (k :: x) = secs (a + 1) x) → ∃ (ini : List Sec) (h : Nat), secs a (k :: r) = ini ++ [(n, h, a + (k :: r).length)] ∧ secs a (k :: r ++ [l]) = ini ++ [(n, h, a + (k :: r).length + 1)] := fun h hk => by
      obtain ⟨ini, g, e1, e2⟩ := ih (a + 1) n h
      exact ⟨ini, g, by rw [hk, e1, e], by rw [List.cons_append, hk, e2, e]⟩
    cases k with
    | head m =>
      rcases own_split r with ho | ⟨x, p, y, er, h1, h2⟩
      · have hm : m = n := by
          have z : cu (some m) r = some n := h
          rw [cu_own ho] at z
          exact Option.some.inj z
        subst hm
        refine ⟨[], a, ?_, ?_⟩
        · show (m, a, a + 1 + (tw r).length) :: secs (a + 1) r = _
          rw [secs_all_own _ ho, tw_own ho, e]; rfl
        · show (m, a, a + 1 + (tw (r ++ [l])).length) :: secs (a + 1) (r ++ [l]) = _
          rw [secs_all_own (a + 1) (r := r ++ [l]) (fun z hz => by
            rcases List.mem_append.mp hz with hz | hz
            · exact ho z hz
            · rw [List.mem_singleton.mp hz]; exact hl), tw_len_own r ho hl, ← e]
          rfl
      · have z : cu none r = some n := by
          have z0 : cu (some m) r = some n := h
          rw [er, cu_none_own h2 h1, ← er] at z0
          exact z0
        obtain ⟨ini, g, e1, e2⟩ := ih (a + 1) n z
        refine ⟨(m, a, a + 1 + (tw r).length) :: ini, g, ?_, ?_⟩
        · show (m, a, a + 1 + (tw r).length) :: secs (a + 1) r = _
          rw [e1, e]; rfl
        · show (m, a, a + 1 + (tw (r ++ [l])).length) :: secs (a + 1) (r ++ [l]) = _
          have et : tw (r ++ [l]) = tw r := by rw [er, List.append_assoc, List.cons_append, tw_stop h1 h2, tw_stop h1 h2]
          rw [e2, e, et]; rfl
    | prose t => exact down h fun _ => rfl
    | use i m => exact down h fun _ => rfl
    | code t => exact down h fun _ => rfl
/-! ### indexes -/
/-- the indexes of the lines of the piece n, section by section -/
def pls (n : T) (ss : List Sec) : List Nat := ss.flatMap fun s => if s.1 = n then List.range' (s.2.1 + 1) (s.2.2 - (s.2.1 + 1)) else []
theorem plc_some (n m : T) : ∀ (a : Nat) (r : List Ln), plc n (some m) a r = (if m = n then List.range' a (tw r).length else []) ++ plc n none a r := by
  intro a r
  induction r generalizing a with
  | nil => simp [plc, tw]
  | cons l r ih =>
    cases l with
    | head k => simp [plc, tw, List.takeWhile, Ln.own]
    | prose k => simp [plc, tw, List.takeWhile, Ln.own]
    | use i k =>
      show (if some m = some n then a :: plc n (some m) (a + 1) r else plc n (some m) (a + 1) r) = _
      rw [ih]
      by_cases h : m = n
      · subst h
        simp [plc, tw, List.takeWhile, Ln.own, List.range'_succ]
      · have h' : ¬ (some m = some n) := fun z => h (Option.some.inj z)
        rw [if_neg h, if_neg h', if_neg h]
        simp [plc]
    | code k =>
      show (if some m = some n then a :: plc n (some m) (a + 1) r else plc n (some m) (a + 1) r) = _
      rw [ih]
      by_cases h : m = n
      · subst h
        simp [plc, tw, List.takeWhile, Ln.own, List.range'_succ]
      · have h' : ¬ (some m = some n) := fun z => h (Option.some.inj z)
        rw [if_neg h, if_neg h', if_neg h]
        simp [plc]
theorem pls_secs (n : T) : ∀ (a : Nat) (d : List Ln), pls n (secs a d) = plc n none a d := by
  intro a d
  induction d generalizing a with
  | nil => rfl
  | cons l r ih =>
    cases l with
    | head m =>
      show (if m = n then List.range' (a + 1) (a + 1 + (tw r).length - (a + 1)) else []) ++ pls n (secs (a + 1) r) = plc n (some m) (a + 1) r
      rw [ih, plc_some]
      congr 2
      congr 1
      omega
    | prose _ => exact ih (a + 1)
    | use i m =>
      show pls n (secs (a + 1) r) = (if none = some n then a :: plc n none (a + 1) r else plc n none (a + 1) r)
      rw [ih, if_neg (fun z => by cases z)]
    | code t =>
      show pls n (secs (a + 1) r) = (if none = some n then a :: plc n none (a + 1) r else plc n none (a + 1) r)
      rw [ih, if_neg (fun z => by cases z)]
theorem secs_head_mem (n : T) : ∀ (a : Nat) (d : List Ln), (∃ s ∈ secs a d, s.1 = n) ↔ Ln.head n ∈ d := by
  intro a d
  induction d generalizing a with
  | nil => simp [secs]
  | cons l r ih =>
    cases l with
    | head m =>
      show (∃ s ∈ (m, a, a + 1 + (tw r).length) :: secs (a + 1) r, s.1 = n) ↔ _
      simp only [List.mem_cons, Ln.head.injEq, exists_eq_or_imp, ih]
      constructor
      · rintro (h | h)
        · exact .inl h.symm
        · exact .inr h
      · rintro (h | h)
        · exact .inl h.symm
        · exact .inr h
    | prose t => simpa [secs] using ih (a + 1)
    | use i m => simpa [secs] using ih (a + 1)
    | code t => simpa [secs] using ih (a + 1)
theorem plc_get (n : T) : ∀ (c : Option T) (a : Nat) (d D : List Ln), D.drop a = d → (plc n c a d).map (fun j => D[j]?) = (its n c d).map some := by
  intro c a d
  induction d generalizing c a with
  | nil => intro D _; rfl
  | cons l r ih =>
    intro D h
    have h1 : D.drop (a + 1) = r := by rw [← List.drop_drop, h]; rfl
    have h0 : D[a]? = some l := by
      have : (D.drop a)[0]? = some l := by rw [h]; rfl
      rwa [List.getElem?_drop, Nat.add_zero] at this
    cases l with
    | head m => exact ih (some m) (a + 1) D h1
    | prose t => exact ih none (a + 1) D h1
    | use i m =>
      show List.map _ (if c = some n then a :: plc n c (a + 1) r else plc n c (a + 1) r) = List.map some (if c = some n then Ln.use i m :: its n c r else its n c r)
      by_cases e : c = some n
      · rw [if_pos e, if_pos e, List.map_cons, List.map_cons, ih c (a + 1) D h1, h0]
      · rw [if_neg e, if_neg e, ih c (a + 1) D h1]
    | code t =>
      show List.map _ (if c = some n then a :: plc n c (a + 1) r else plc n c (a + 1) r) = List.map some (if c = some n then Ln.code t :: its n c r else its n c r)
      by_cases e : c = some n
      · rw [if_pos e, if_pos e, List.map_cons, List.map_cons, ih c (a + 1) D h1, h0]
      · rw [if_neg e, if_neg e, ih c (a + 1) D h1]
theorem plc_mem (n : T) : ∀ (c : Option T) (a : Nat) (d : List Ln) (j : Nat), j ∈ plc n c a d ↔ ∃ k l, j = a + k ∧ d[k]? = some l ∧ l.own = true ∧ cu c (d.take k) = some n := by
  intro c a d
  induction d generalizing c a with
  | nil => intro j; simp [plc]
  | cons l r ih =>
    intro j
    have up : ∀ c', (∀ x, cu c (l :: x) = cu c' x) → ((∃ k l', j = a + 1 + k ∧ r[k]? = some l' ∧ l'.own = true ∧ cu c' (r.take k) = some n) ↔ ∃ k l', j = a + (k + 1) ∧ (l :: r)[k + 1]? = some l' ∧ l'.own = true ∧ cu c ((l :: r).take (k + 1)) = some n) := fun c' hc => by
      simp only [List.getElem?_cons_succ, List.take_succ_cons, hc]
      constructor
      · rintro ⟨k, l', e1, e2⟩
        exact ⟨k, l', by omega, e2⟩
      · rintro ⟨k, l', e1, e2⟩
        exact ⟨k, l', by omega, e2⟩
    have spl : (∃ k l', j = a + k ∧ (l :: r)[k]? = some l' ∧ l'.own = true ∧ cu c ((l :: r).take k) = some n) ↔ (j = a ∧ l.own = true ∧ c = some n) ∨ ∃ k l', j = a + (k + 1) ∧ (l :: r)[k + 1]? = some l' ∧ l'.own = true ∧ cu c ((l :: r).take (k + 1)) = some n := by
      constructor
      · rintro ⟨k, l', e1, e2, e3, e4⟩
        cases k with
        | zero =>
          left
          have e2' : some l = some l' := e2
          cases e2'
          exact ⟨e1, e3, e4⟩
        | succ k => exact .inr ⟨k, l', e1, e2, e3, e4⟩
      · rintro (⟨e1, e2, e3⟩ | ⟨k, l', e⟩)
        · exact ⟨0, l, e1, rfl, e2, e3⟩
        · exact ⟨k + 1, l', e⟩
    rw [spl]
    cases l with
    | head m =>
      rw [← up (some m) fun _ => rfl, ← ih]
      simp [Ln.own, plc]
    | prose t =>
      rw [← up none fun _ => rfl, ← ih]
      simp [Ln.own, plc]
    | use i m =>
      rw [← up c fun _ => rfl, ← ih]
      show j ∈ (if c = some n then a :: plc n c (a + 1) r else plc n c (a + 1) r) ↔ _
      by_cases e : c = some n
      · simp [e, Ln.own]
      · simp [e, Ln.own]
    | code t =>
      rw [← up c fun _ => rfl, ← ih]
      show j ∈ (if c = some n then a :: plc n c (a + 1) r else plc n c (a + 1) r) ↔ _
      by_cases e : c = some n
      · simp [e, Ln.own]
      · simp [e, Ln.own]
theorem plc_lt {n : T} {c : Option T} {a : Nat} {d : List Ln} {j : Nat} (h : j ∈ plc n c a d) : j < a + d.length := by
  obtain ⟨k, l, e, e2, _⟩ := (plc_mem n c a d j).mp h
  have := (List.getElem?_eq_some_iff.mp e2).1
  omega
theorem plc_length (n : T) : ∀ (c : Option T) (a : Nat) (d : List Ln), (plc n c a d).length ≤ d.length := by
  intro c a d
  induction d generalizing c a with
  | nil => exact Nat.le_refl _
  | cons l r ih =>
    cases l with
    | head m => exact Nat.le_trans (ih (some m) (a + 1)) (Nat.le_succ _)
    | prose t => exact Nat.le_trans (ih none (a + 1)) (Nat.le_succ _)
    | use i m =>
      show (if c = some n then a :: plc n c (a + 1) r else plc n c (a + 1) r).length ≤ r.length + 1
      have := ih c (a + 1)
      split
      · simpa using this
      · omega
    | code t =>
      show (if c = some n then a :: plc n c (a + 1) r else plc n c (a + 1) r).length ≤ r.length + 1
      have := ih c (a + 1)
      split
      · simpa using this
      · omega
/-- what a section is -/
theorem sec_mem : ∀ (a : Nat) (d : List Ln) (s : Sec), s ∈ secs a d → ∃ x r, d = x ++ .head s.1 :: r ∧ s.2.1 = a + x.length ∧ s.2.2 = a + x.length + 1 + (tw r).length := by
  intro a d
  induction d generalizing a with
  | nil => intro s h; cases h
  | cons l r ih =>
    intro s h
    have down : s ∈ secs (a + 1) r → ∃ x r', l :: r = x ++ .head s.1 :: r' ∧ s.2.1 = a + x.length ∧ s.2.2 = a + x.length + 1 + (tw r').length := fun h => by
      obtain ⟨x, r', e, e1, e2⟩ := ih (a + 1) s h
      exact ⟨l :: x, r', by rw [e]; rfl, by rw [e1, List.length_cons]; omega, by rw [e2, List.length_cons]; omega⟩
    cases l with
    | head m =>
      have h' : s ∈ (m, a, a + 1 + (tw r).length) :: secs (a + 1) r := h
      rcases List.mem_cons.mp h' with e | h'
      · subst e
        exact ⟨[], r, rfl, rfl, rfl⟩
      · exact down h'
    | prose t => exact down h
    | use i m => exact down h
    | code t => exact down h
theorem tw_prefix (r : List Ln) : ∃ y, r = tw r ++ y ∧ Free y := by
  rcases own_split r with h | ⟨x, l, y, e, h1, h2⟩
  · exact ⟨[], by rw [tw_own h, List.append_nil], trivial⟩
  · refine ⟨l :: y, by rw [e, tw_stop h1 h2], ?_⟩
    cases l <;> first | trivial | cases h2
theorem tw_mem {r : List Ln} {l : Ln} (h : l ∈ tw r) : l.own = true := by
  rcases own_split r with k | ⟨x, m, y, e, h1, h2⟩
  · rw [tw_own k] at h; exact k l h
  · rw [e, tw_stop h1 h2] at h; exact h1 l h
/-- names, each once, in the order of their first places -/
def ddp (ns : List T) : List T := ns.foldl (fun acc n => if n ∈ acc then acc else acc ++ [n]) []
theorem ddp_snoc (ns : List T) (n : T) : ddp (ns ++ [n]) = if n ∈ ddp ns then ddp ns else ddp ns ++ [n] := by
  unfold ddp
  rw [List.foldl_append]; rfl
end Wf

end
section
set_option maxHeartbeats 2000000
/-! WR1: rules that the layer lacks: enumerate over a tuple and over a text, " " * n, min(list, default=0). -/
namespace Wr
open PySem PySem.Spec PyProof.Rows L2
/-! ### enumerate(v), v told by how its iterator begins -/
theorem meets_enum1 {v : Value} {o : Obj} {H : Heap → Prop} (B : Begins v o H) :
    Meets (Builtin.«enumerate.__new__» ⟨[.type "enumerate", v], []⟩) (fun _ R s => H s.heap ∧
      R (.ok (.ret (.ref (s.heap.push o).objs.size))) { s with heap := (s.heap.push o).push { cls := .type "enumerate", data := .fields #[.none, .bool false, .ref s.heap.objs.size, rawInt 0, .none, .none] } }) :=
  .of_wp fun prog w A R s h => by
    obtain ⟨hp, g, d, tk, os⟩ := s; obtain ⟨h1, h⟩ := h
    have hsub := sub_enumerate
    have q1 : ∀ {A' : Around} {E : Value → Shared → Prop} {Q : Value → Shared → Prop}, Q (.ref hp.objs.size) ⟨hp.push o, g, d, tk, os⟩ → wpAny (model prog w) A' (pyIter v) Q E ⟨hp, g, d, tk, os⟩ :=
      fun q => B.iter prog w _ _ ⟨hp, g, d, tk, os⟩ _ h1 q
    wp_walk using q1
    refine wpAny_stack_any fun st => wpAny_pure ?_
    split
    · rename_i c _ _ _ _ _
      cases (c == Value.type "enumerate")
      · wp_walk using q1
        exact ⟨_, rfl, h⟩
      · wp_walk using q1
        exact ⟨_, rfl, h⟩
    · wp_walk using q1
      exact ⟨_, rfl, h⟩
theorem enum1 {prog : Program} {w : World} {A : Around} {E : Value → Shared → Prop} {s : Shared} {v : Value} {o : Obj} {H : Heap → Prop} {Q : Value → Shared → Prop} (B : Begins v o H) (h1 : H s.heap)
    (h : ∀ h', IsEnum h' (s.heap.objs.size + 1) s.heap.objs.size 0 .none → h'.get? s.heap.objs.size = some o → h'.objs.size = s.heap.objs.size + 2 →
      (∀ b o, s.heap.get? b = some o → h'.get? b = some o) → Q (.ref (s.heap.objs.size + 1)) { s with heap := h' }) :
    wpAny (model prog w) A (call (.type "enumerate") [v]) Q E s := by
  refine callType_new F.called_enumerate (by decide) (F.typeCall_enumerate_1 _) (F.newCall_enumerate_1 _) (fun obj => F.args_object_init_2 obj _) F.entry_enumerate_new
    (meets_enum1 B) ⟨h1, ?_⟩
  have hz : (s.heap.push o).objs.size = s.heap.objs.size + 1 := Heap.size_push ..
  show _ ∧ _
  rw [hz]
  have he : IsEnum ((s.heap.push o).push { cls := .type "enumerate", data := .fields #[.none, .bool false, .ref s.heap.objs.size, rawInt 0, .none, .none] }) (s.heap.objs.size + 1) s.heap.objs.size 0 .none := by
    have := Heap.get?_push_size (s.heap.push o) (o := { cls := .type "enumerate", data := .fields #[.none, .bool false, .ref s.heap.objs.size, rawInt 0, .none, .none] }) rfl
    rw [hz] at this; exact this
  refine ⟨⟨_, he, rfl⟩, h _ he (Heap.get?_push_of_some _ (Heap.get?_push_size _ B.free)) (by rw [Heap.size_push, hz]) fun b o x => Heap.get?_push_of_some _ (Heap.get?_push_of_some _ x)⟩

/-- enumerate over the tuple at a -/
def IteT (K : PySem.W.Frag) (a : Addr) : It :=
  ⟨fun i H => ∃ (xs : List V) (x : V), SqT K H a xs ∧ xs[i]? = some x, fun i H v H' => ∃ T x, v = .ref T ∧ H T = none ∧ H' = upd H T (.tup [.int (i : Nat), x]) ∧ ∀ xs, SqT K H a xs → xs[i]? = some x, fun i H => ∃ xs : List V, SqT K H a xs ∧ xs.length = i⟩
theorem turn_enumT {P : Program} {w : World} {K : PySem.W.Frag} {elts : List Expr} {kk : Nat} {tpos : Pos} (a e it : Addr) :
    Turn P w K (.Tuple elts kk tpos) (IteT K a) [e, it] e (fun i h => (∃ old, IsEnum h e it ((i : Nat) : Int) old) ∧ h.IsTupleIter it a i ∧ e ≠ it) where
  mem := by simp
  obj := fun i h st b hb => by
    obtain ⟨⟨old, he⟩, ⟨o, ho, hc, hd⟩, _⟩ := st
    have e' : b = e ∨ b = it := by simpa using hb
    rcases e' with z | z
    · rw [z]; exact ⟨_, he, fun v q => nomatch q⟩
    · rw [z]; exact ⟨o, ho, fun v q => by rw [hd] at q; cases q⟩
  keep := fun i h h' st k => let ⟨⟨old, he⟩, hi, hne⟩ := st; ⟨⟨old, k e (by simp) _ he⟩, hi.at fun o q => k it (by simp) o q, hne⟩
  item := by
    intro X hP hw hK hc i pins s σ H E I hf st hg
    subst hP hw hK
    obtain ⟨⟨old, he⟩, hit, hne⟩ := st
    obtain ⟨xs, x, hq, hx⟩ := hg
    obtain ⟨its, rv, p, hz⟩ := I.tuple hq
    obtain ⟨u, hu, ru⟩ := rv.get hx
    have hel : e < s.heap.objs.size := Heap.lt_size he
    have hil : it < s.heap.objs.size := by obtain ⟨_, q, _⟩ := hit; exact Heap.lt_size q
    have pt : s.heap.IsTuple a its.toArray := p
    have nae : e ≠ a := fun z => by
      obtain ⟨o, ho, hcl, _⟩ := id pt
      rw [← z, he] at ho; cases ho; exact absurd (Value.type.inj hcl) (by decide)
    have nait : a ≠ it := fun z => by
      obtain ⟨o, ho, hcl, _⟩ := id pt
      obtain ⟨o', ho', hcl', _⟩ := id hit
      rw [z, ho'] at ho; cases ho; rw [hcl'] at hcl; exact absurd (Value.type.inj hcl) (by decide)
    have hi : i < its.toArray.size := by
      have := (List.getElem?_eq_some_iff.mp hu).1
      simpa using this
    refine wpAny_pyNext_enum_itemD (Draws.tuple (A := X.A.in1) (I.ok.hd hc) it a nait its.toArray) he ⟨hit, pt⟩ hi hne (by simp [hne, nae]) fun y h' tk hy ho hst' hT hsz hk => ?_
    have ey : y = u := by
      have h1 : its[i]? = some y := by simpa using hy
      rw [hu] at h1
      exact (Option.some.inj h1).symm
    subst ey
    refine ⟨_, rfl, wpAny_letOwnedTupleGo_enum (s := { s with heap := h', toks := tk + 1 }) ho fun h'' he' sb => ?_⟩
    have hT2 : h''.get? s.heap.objs.size = some { cls := .type "tuple", data := .seq #[.int i tk, y] } := (sb.2 _ (Nat.ne_of_gt hel)).trans hT
    have new : ObjOk X.prog X.w (upd H s.heap.objs.size (.tup [.int (i : Nat), x])) h'' s.heap.objs.size (.tup [.int (i : Nat), x]) :=
      ⟨by show 2 ≤ sizeLine; decide, [.int i tk, y], .cons ⟨_, rfl⟩ (.cons ru .nil), ⟨_, hT2, rfl, _, rfl⟩⟩
    have I1 : Inv X pins σ (upd H s.heap.objs.size (.tup [.int (i : Nat), x])) { s with heap := h'', toks := tk + 1 } :=
      I.turnedNew (ch := [e, it]) (fun b ob hb q => (sb.2 b (fun z => hb (by simp [z]))).trans (hk b ob (fun z => hb (by simp [z])) (fun z => hb (by simp [z])) q)) hf (Nat.le_refl _) new
    refine ⟨.ref s.heap.objs.size, _, I1, rfl, ⟨_, x, rfl, I.hok.fresh (Nat.le_refl _), rfl, fun ys hy => by rw [I.tuple_inj hy hq]; exact hx⟩, ⟨⟨y, ?_⟩, hst'.1.at fun o q => (sb.2 it (Ne.symm hne)).trans q, hne⟩, fun b hb => ?_⟩
    · have e1 : ((i + 1 : Nat) : Int) = (i : Int) + 1 := by omega
      rw [e1]; exact he'
    · have hb' : b < s.heap.objs.size := by
        have e' : b = e ∨ b = it := by simpa using hb
        rcases e' with z | z
        · rw [z]; exact hel
        · rw [z]; exact hil
      rw [upd_ne (Nat.ne_of_lt hb')]
      exact (hf b hb).1
  done := by
    intro X hP hw hK hc i pins s σ H E I hf st hg
    subst hP hw hK
    obtain ⟨⟨old, he⟩, hit, hne⟩ := st
    obtain ⟨xs, hq, hx⟩ := hg
    obtain ⟨its, rv, p, hz⟩ := I.tuple hq
    obtain ⟨f0, f1, f2, f3, f4, f5⟩ := hf it (by simp)
    have hl := rv.length
    have pt : s.heap.IsTuple a its.toArray := p
    have nait : a ≠ it := fun z => by
      obtain ⟨o, ho, hcl, _⟩ := id pt
      obtain ⟨o', ho', hcl', _⟩ := id hit
      rw [z, ho'] at ho; cases ho; rw [hcl'] at hcl; exact absurd (Value.type.inj hcl) (by decide)
    have ei : i = its.toArray.size := by simp; omega
    rw [ei] at hit he
    exact wpAny_pyNext_enum_endD (Draws.tuple (A := X.A.in1) (I.ok.hd hc) it a nait its.toArray) he ⟨hit, pt⟩ fun h' eb => ⟨rfl, I.turned (t' := s.toks) (fun b o hb q => eb b o hb q) f0 f1 f3 f4 f5⟩
  self := fun A i s Q E st h => let ⟨⟨_, he⟩, _⟩ := st; wpAny_pyIter_enum he h
def iEnumT (K : PySem.W.Frag) (ta : TA) : TI := fun σ H R => ta σ H fun vs H1 => ∃ a xs, vs = [.ref a] ∧ SqT K H1 a xs ∧ R (IteT K a) H1
theorem pi_enumT {X : Cx} {e : Expr} {ta : TA} {p pos tpos : Pos} {elts : List Expr} {kk : Nat} (hg : Gl X "enumerate") (hm : X.mg "enumerate" = none) (ha : PA X [e] ta) (hs : starEach [e] X.env = [(false, eval e X.env)] := by rfl) :
    PI X (.Tuple elts kk tpos) (.Call (.Name "enumerate" p) [e] [] pos) (iEnumT X.K ta) := by
  refine ⟨fun pins s σ H R I h => ?_⟩
  refine Call_ (ld_blt I hg hm boot_enumerate (PyProof.Rows.callWith_type1 (thn (ha.run pos pins s σ H _ I h) fun us s1 ⟨vs, H1, I1, r1, q1⟩ => ?_) hs rfl))
  obtain ⟨a, xs, ex, hq, q⟩ := q1
  subst ex
  cases r1 with
  | cons r rr =>
    cases rr
    cases r
    obtain ⟨its, rv, p', hz⟩ := I1.tuple hq
    refine enum1 (begins_tuple a its.toArray) (show s1.heap.IsTuple a its.toArray from p') fun h' he hit hsz hk => wpAny_pyIter_enum he ?_
    have I2 : Inv X pins σ H1 { s1 with heap := h' } := I1.kept (t' := s1.toks) hk
    refine ⟨s1.heap.objs.size + 1, [s1.heap.objs.size + 1, s1.heap.objs.size], _, _, H1, rfl, I2, turn_enumT a (s1.heap.objs.size + 1) s1.heap.objs.size, ⟨⟨.none, he⟩, ⟨_, hit, rfl, rfl⟩, Nat.succ_ne_self _⟩, fun b hb => ?_, q⟩
    have e' : b = s1.heap.objs.size + 1 ∨ b = s1.heap.objs.size := by simpa using hb
    have hle : s1.heap.objs.size ≤ b := by
      rcases e' with z | z
      · rw [z]; exact Nat.le_add_right _ _
      · rw [z]; exact Nat.le_refl _
    exact I1.fpOk hle (I1.hok.fresh hle)
theorem walk_enumT {K : PySem.W.Frag} {a : Addr} {xs : List V} : Walk (IteT K a) xs.length (fun H => SqT K H a xs) (YPair (fun i => some (.int (i : Nat))) (fun i => xs[i]?)) where
  goes := fun i H hi h => ⟨xs, xs[i], h, List.getElem?_eq_getElem hi⟩
  stops := fun H h => ⟨xs, h, rfl⟩
  yields := fun i H x H' hi h y => by
    obtain ⟨T, x1, e1, e2, e3, f⟩ := y
    exact ⟨T, .int (i : Nat), x1, e1, e2, e3, rfl, f xs h⟩

/-- enumerate over the text z -/
def IteS (z : Str) : It :=
  ⟨fun i _ => i < z.cps.size, fun i H v H' => ∃ T c, v = .ref T ∧ H T = none ∧ H' = upd H T (.tup [.int (i : Nat), .str ⟨#[c]⟩]) ∧ z.cps[i]? = some c, fun i _ => i = z.cps.size⟩
theorem turn_enumS {P : Program} {w : World} {K : PySem.W.Frag} {elts : List Expr} {kk : Nat} {tpos : Pos} (z : Str) (t : Tok) (e it : Addr) :
    Turn P w K (.Tuple elts kk tpos) (IteS z) [e, it] e (fun i h => (∃ old, IsEnum h e it ((i : Nat) : Int) old) ∧ h.IsStrIter it (strIterType z) z t i ∧ e ≠ it) where
  mem := by simp
  obj := fun i h st b hb => by
    obtain ⟨⟨old, he⟩, ⟨o, ho, hc, hd⟩, _⟩ := st
    have e' : b = e ∨ b = it := by simpa using hb
    rcases e' with q | q
    · rw [q]; exact ⟨_, he, fun v q => nomatch q⟩
    · rw [q]; exact ⟨o, ho, fun v q => by rw [hd] at q; cases q⟩
  keep := fun i h h' st k => let ⟨⟨old, he⟩, ⟨o, ho, r⟩, hne⟩ := st; ⟨⟨old, k e (by simp) _ he⟩, ⟨o, k it (by simp) o ho, r⟩, hne⟩
  item := by
    intro X hP hw hK hc i pins s σ H E I hf st hg
    subst hP hw hK
    obtain ⟨⟨old, he⟩, hit, hne⟩ := st
    have hel : e < s.heap.objs.size := Heap.lt_size he
    have hil : it < s.heap.objs.size := by obtain ⟨_, q, _⟩ := hit; exact Heap.lt_size q
    refine wpAny_pyNext_enum_itemD (Draws.text (A := X.A.in1) (I.ok.hd hc) it z t) he hit hg hne (by simp [hne]) fun y h' tk hy ho hst' hT hsz hk => ?_
    obtain ⟨c, u, hc0, rfl⟩ := hy
    refine ⟨_, rfl, wpAny_letOwnedTupleGo_enum (s := { s with heap := h', toks := tk + 1 }) ho fun h'' he' sb => ?_⟩
    have hT2 : h''.get? s.heap.objs.size = some { cls := .type "tuple", data := .seq #[.int i tk, .str ⟨#[c]⟩ u] } := (sb.2 _ (Nat.ne_of_gt hel)).trans hT
    have new : ObjOk X.prog X.w (upd H s.heap.objs.size (.tup [.int (i : Nat), .str ⟨#[c]⟩])) h'' s.heap.objs.size (.tup [.int (i : Nat), .str ⟨#[c]⟩]) :=
      ⟨by show 2 ≤ sizeLine; decide, [.int i tk, .str ⟨#[c]⟩ u], .cons ⟨_, rfl⟩ (.cons ⟨_, rfl⟩ .nil), ⟨_, hT2, rfl, _, rfl⟩⟩
    have I1 : Inv X pins σ (upd H s.heap.objs.size (.tup [.int (i : Nat), .str ⟨#[c]⟩])) { s with heap := h'', toks := tk + 1 } :=
      I.turnedNew (ch := [e, it]) (fun b ob hb q => (sb.2 b (fun z => hb (by simp [z]))).trans (hk b ob (fun z => hb (by simp [z])) (fun z => hb (by simp [z])) q)) hf (Nat.le_refl _) new
    refine ⟨.ref s.heap.objs.size, _, I1, rfl, ⟨_, c, rfl, I.hok.fresh (Nat.le_refl _), rfl, hc0⟩, ⟨⟨.str ⟨#[c]⟩ u, ?_⟩, ?_, hne⟩, fun b hb => ?_⟩
    · have e1 : ((i + 1 : Nat) : Int) = (i : Int) + 1 := by omega
      rw [e1]; exact he'
    · obtain ⟨o, ho, r⟩ := hst'
      exact ⟨o, (sb.2 it (Ne.symm hne)).trans ho, r⟩
    · have hb' : b < s.heap.objs.size := by
        have e' : b = e ∨ b = it := by simpa using hb
        rcases e' with z | z
        · rw [z]; exact hel
        · rw [z]; exact hil
      rw [upd_ne (Nat.ne_of_lt hb')]
      exact (hf b hb).1
  done := by
    intro X hP hw hK hc i pins s σ H E I hf st hg
    subst hP hw hK
    obtain ⟨⟨old, he⟩, hit, hne⟩ := st
    obtain ⟨f0, f1, f2, f3, f4, f5⟩ := hf it (by simp)
    have ei : i = z.cps.size := hg
    rw [ei] at hit he
    exact wpAny_pyNext_enum_endD (Draws.text (A := X.A.in1) (I.ok.hd hc) it z t) he hit fun h' eb => ⟨rfl, I.turned (t' := s.toks) (fun b o hb q => eb b o hb q) f0 f1 f3 f4 f5⟩
  self := fun A i s Q E st h => let ⟨⟨_, he⟩, _⟩ := st; wpAny_pyIter_enum he h
def iEnumS (ta : TA) : TI := fun σ H R => ta σ H fun vs H1 => ∃ z, vs = [.str z] ∧ R (IteS z) H1
theorem pi_enumS {X : Cx} {e : Expr} {ta : TA} {p pos tpos : Pos} {elts : List Expr} {kk : Nat} (hg : Gl X "enumerate") (hm : X.mg "enumerate" = none) (ha : PA X [e] ta) (hs : starEach [e] X.env = [(false, eval e X.env)] := by rfl) :
    PI X (.Tuple elts kk tpos) (.Call (.Name "enumerate" p) [e] [] pos) (iEnumS ta) := by
  refine ⟨fun pins s σ H R I h => ?_⟩
  refine Call_ (ld_blt I hg hm boot_enumerate (PyProof.Rows.callWith_type1 (thn (ha.run pos pins s σ H _ I h) fun us s1 ⟨vs, H1, I1, r1, q1⟩ => ?_) hs rfl))
  obtain ⟨z, ex, q⟩ := q1
  subst ex
  cases r1 with
  | cons r rr =>
    cases rr
    obtain ⟨t, rfl⟩ := r
    refine enum1 (begins_text z t) trivial fun h' he hit hsz hk => wpAny_pyIter_enum he ?_
    have I2 : Inv X pins σ H1 { s1 with heap := h' } := I1.kept (t' := s1.toks) hk
    refine ⟨s1.heap.objs.size + 1, [s1.heap.objs.size + 1, s1.heap.objs.size], _, _, H1, rfl, I2, turn_enumS z t (s1.heap.objs.size + 1) s1.heap.objs.size, ⟨⟨.none, he⟩, ⟨_, hit, rfl, rfl⟩, Nat.succ_ne_self _⟩, fun b hb => ?_, q⟩
    have e' : b = s1.heap.objs.size + 1 ∨ b = s1.heap.objs.size := by simpa using hb
    have hle : s1.heap.objs.size ≤ b := by
      rcases e' with z | z
      · rw [z]; exact Nat.le_add_right _ _
      · rw [z]; exact Nat.le_refl _
    exact I1.fpOk hle (I1.hok.fresh hle)
theorem walk_enumS {z : Str} : Walk (IteS z) z.cps.size (fun _ => True) (fun i H v H' => ∃ T c, v = .ref T ∧ H T = none ∧ H' = upd H T (.tup [.int (i : Nat), .str ⟨#[c]⟩]) ∧ z.cps[i]? = some c) where
  goes := fun i H hi _ => hi
  stops := fun H _ => rfl
  yields := fun i H x H' hi _ y => y
end Wr

end
section
set_option maxHeartbeats 2000000
/-! WR2: " " * n, min(list, default=n). -/
namespace Wr
open PySem PySem.Spec PyProof.Rows L2
theorem sp_eq : (Str.ofString " " : Str) = ⟨#[32]⟩ := by decide +kernel
theorem fold_app (l : List Nat) : ∀ (n : Nat) (acc : Array Nat), (List.replicate n l.toArray).foldl (· ++ ·) acc = acc ++ ((List.replicate n l).flatten).toArray
  | 0, acc => by simp
  | n + 1, acc => by
    rw [List.replicate_succ, List.replicate_succ, List.foldl_cons, fold_app l n]
    simp [Array.append_assoc]
theorem flat_one (n : Nat) : (List.replicate n [32]).flatten = List.replicate n (32 : Nat) := by
  induction n with
  | zero => rfl
  | succ n ih => rw [List.replicate_succ, List.flatten_cons, ih]; rfl
theorem rep_spaces (n : Nat) : (⟨(List.replicate n (#[32] : Array Nat)).foldl (· ++ ·) #[]⟩ : Str) = Wf.spaces n := by
  have := fold_app [32] n #[]
  unfold Wf.spaces
  rw [show (#[32] : Array Nat) = [32].toArray from rfl, this, flat_one]
  simp
section
variable {X : Cx}
theorem op_spaces : OpR X (binaryOp .Mult) (fun x y H Q => ∃ n : Int, x = .str (Str.ofString " ") ∧ y = .int n ∧ -(2 ^ 62) ≤ n ∧ n ≤ 1000000 ∧ Q (.str (Wf.spaces n.toNat)) H) := by
  intro pins s σ H x y v u Q I rx ry ⟨n, ex, ey, h1, h2, q⟩
  subst ex ey
  obtain ⟨t, rfl⟩ := rx
  obtain ⟨t', rfl⟩ := ry
  rw [sp_eq]
  have hl : (⟨#[32]⟩ : Str).length = 1 := rfl
  refine PySem.P.mul_str ?_ (fun h3 _ h4 => ?_) (fun h3 _ => ?_) ?_
  · have a1 : ¬ n < -(2 ^ 63 : Int) := by omega
    have a2 : ¬ n ≥ 2 ^ 63 := by omega
    rw [decide_eq_false a1, decide_eq_false a2]; rfl
  · rw [hl] at h4
    have h5 : (1 : Int) ≤ (2 ^ 63 - 1) / n := by
      rw [Int.le_ediv_iff_mul_le (by omega)]
      omega
    have h6 : ((1 : Nat) : Int) > (2 ^ 63 - 1) / n := h4
    omega
  · rw [hl]
    show decide (1 * n.toNat > sizeLine) = false
    apply decide_eq_false
    have : (1000000 : Nat) < sizeLine := by decide
    omega
  · by_cases h3 : n < 1
    · rw [if_pos h3]
      have e0 : n.toNat = 0 := by omega
      rw [e0] at q
      exact ⟨by decide, ⟨.str (Wf.spaces 0), H, I.tok _, ⟨_, rfl⟩, q⟩⟩
    · rw [if_neg h3]
      by_cases h4 : n = 1
      · subst h4
        rw [if_pos (by decide)]
        exact ⟨.str (Wf.spaces 1), H, I, ⟨t, rfl⟩, q⟩
      · rw [if_neg (by simp [h4, hl])]
        show Made.post (Made.str ⟨(List.replicate n.toNat (#[32] : Array Nat)).foldl (· ++ ·) #[]⟩) _ s
        rw [rep_spaces]
        refine ⟨?_, ⟨.str _, H, I.tok _, ⟨_, rfl⟩, q⟩⟩
        have : (1000000 : Nat) < sizeLine := by decide
        show (List.replicate n.toNat 32).toArray.size ≤ sizeLine
        rw [List.size_toArray, List.length_replicate]
        omega
/-- min(list of ints, default=d) -/
def rMinD (K : PySem.W.Frag) : List V → List V → Hp → VK → Prop := fun vs zs H Q => ∃ (a : Addr) (ns : List Int) (d : Int), vs = [.ref a] ∧ zs = [.int d] ∧ SqL K H a (ns.map V.int) ∧ (ns = [] → Q (.int d) H) ∧
  ∀ m, m ∈ ns → (∀ y ∈ ns, m ≤ y) → Q (.int m) H
theorem minOf_ok : ∀ (xs : List Int) (x : Int), PySem.W.minOf x xs ∈ x :: xs ∧ PySem.W.minOf x xs ≤ x ∧ ∀ y ∈ xs, PySem.W.minOf x xs ≤ y
  | [], x => ⟨List.mem_cons_self, Int.le_refl _, fun _ h => by cases h⟩
  | z :: xs, x => by
    have e : PySem.W.minOf x (z :: xs) = PySem.W.minOf (if z < x then z else x) xs := by
      show List.foldl _ (if decide (z < x) = true then z else x) xs = _
      simp only [decide_eq_true_eq]
      rfl
    rw [e]
    obtain ⟨h1, h2, h3⟩ := minOf_ok xs (if z < x then z else x)
    refine ⟨?_, ?_, fun y hy => ?_⟩
    · rcases List.mem_cons.mp h1 with h | h
      · rw [h]
        split
        · exact List.mem_cons_of_mem _ List.mem_cons_self
        · exact List.mem_cons_self
      · exact List.mem_cons_of_mem _ (List.mem_cons_of_mem _ h)
    · refine Int.le_trans h2 ?_
      split <;> omega
    · rcases List.mem_cons.mp hy with h | h
      · subst h
        refine Int.le_trans h2 ?_
        split <;> omega
      · exact h3 y h
theorem vals_holds {h : Heap} : ∀ {ns : List Int} {us : List Value}, Vals (ns.map V.int) us → PySem.W.HoldAll h us ns
  | [], [], _ => PySem.W.HoldAll.nil
  | n :: ns, u :: us, .cons r t => by
    obtain ⟨k, rfl⟩ := r
    exact .cons ⟨_, .int n k⟩ (vals_holds t)
theorem call_minD (hc : X.calm = true) (hu : X.A.units + 64 < cLine) : CallRK X (.builtin "min") [Str.ofString "default"] (rMinD X.K) := by
  intro pins s σ H xs zs us ws Q I r1 r2 ⟨a, ns, d, e1, e2, hS, q0, q1⟩
  subst e1 e2
  obtain ⟨u, rfl, ru⟩ := Vals.one r1
  obtain ⟨dv, rfl, rd⟩ := Vals.one r2
  obtain rfl : u = Value.ref a := ru
  obtain ⟨its, rv, pl, hz⟩ := I.list hS
  refine PySem.W.min_list_datum_default (α := Int) (xs := ns) (I.ok.hd hc) pl.isList (by simpa using vals_holds rv) (by show X.A.units + 1 + 0 < cLine; omega) (fun e h' tk k => ?_) fun y ys i v h' tk e hi hh k => ?_
  · exact ⟨.int d, H, I.kept k, rd, q0 e⟩
  · obtain ⟨as, rr⟩ := hh
    obtain ⟨m1, m2, m3⟩ := minOf_ok ys y
    have hv : ∃ t, v = Value.int (PySem.W.minOf y ys) t := by
      have rr' : Reads h' v (.int (PySem.W.minOf y ys)) as := rr
      cases rr' with
      | int i t => exact ⟨t, rfl⟩
    obtain ⟨t, rfl⟩ := hv
    refine ⟨.int _, H, I.kept k, ⟨t, rfl⟩, q1 _ (by rw [e]; exact m1) fun z hz => ?_⟩
    rw [e] at hz
    rcases List.mem_cons.mp hz with hz | hz
    · rw [hz]; exact m2
    · exact m3 z hz
end
end Wr

end
section

/-! WC: the text by places; documents in the heap; a def at hand. -/
namespace Wf
open PySem PySem.Spec PyProof.Rows L2
def topS (i : Nat) : Stmt := PySem.Challenge.pw_weft_k73_whole_turnings_keep_programs.main.body.getD i (.Pass ⟨0, 0, 0, 0⟩)
/-! ### a def at hand -/
/-- a def that keeps its promise, to be called by its name -/
def Has (P : Program) (w : World) (K : PySem.W.Frag) (mg : Str → Option Value) (base : Heap) (CX : CXT) (k : Nat) (x : Str) (ps : List Str) (sp : Sp) : Prop :=
  ∃ (f : Addr) (fd : FuncData), FnOk P w K mg base CX k f fd ps sp ∧ mg x = some (.ref f) ∧ PySem.W.keepIn K (.ref f) = true ∧ Binds K fd ps []
section
variable {X : Cx} {CX : CXT} {k : Nat} {ps : List Str} {sp : Sp} {E : XK} {x : Str} {p pos : PySem.Pos} {e : Expr} {es : List Expr} {t : TA}
theorem pe_hasX {j : Nat} (h : Has X.prog X.w X.K X.mg X.base CX k x ps sp) (hr : Room j X.A) (hg : Gl X x) (hx : Passes CX X E) (ha : PA X (e :: es) t) (hjk : k ≤ j := by decide)
    (hdb : (x == ("__debug__" : Str)) = false := by decide) (he : starEach (e :: es) X.env = (false, eval e X.env) :: starEach es X.env := by rfl) (hpl : (backTo pos (starEach es X.env)).any (·.1) = false := by rfl) :
    PE X (.Call (.Name x p) (e :: es) [] pos) (tCall sp [] E t) := by
  obtain ⟨f, fd, F, g, kp, b⟩ := h
  exact pe_call F (hr.mono hjk) hg g kp b .nil hx ha hdb he hpl
/-- a def that raises nothing -/
theorem pe_has {j : Nat} (h : Has X.prog X.w X.K X.mg X.base CX0 k x ps sp) (hr : Room j X.A) (hg : Gl X x) (ha : PA X (e :: es) t) (hjk : k ≤ j := by decide)
    (hdb : (x == ("__debug__" : Str)) = false := by decide) (he : starEach (e :: es) X.env = (false, eval e X.env) :: starEach es X.env := by rfl) (hpl : (backTo pos (starEach es X.env)).any (·.1) = false := by rfl) :
    PE X (.Call (.Name x p) (e :: es) [] pos) (tCall sp [] E0 t) := pe_hasX h hr hg pass0 ha hjk hdb he hpl
end
/-! ### the defs of the text -/
def dfs : List (Str × Nat) := [(("sections" : Str), 10), (("piece_names" : Str), 11), (("piece_lines" : Str), 12), (("table_of" : Str), 13), (("ring_from" : Str), 14), (("closure" : Str), 15), (("check_free" : Str), 17), (("rename" : Str), 18), (("is_own" : Str), 19), (("blanks_of" : Str), 20),
  (("shifted" : Str), 21), (("take_out" : Str), 22), (("put_in" : Str), 23), (("split" : Str), 24), (("join" : Str), 25), (("order_of" : Str), 26), (("move_section" : Str), 27), (("is_name_sign" : Str), 31), (("is_name" : Str), 32), (("use_of" : Str), 33),
  (("head_fault" : Str), 34), (("read_line" : Str), 35), (("read" : Str), 36), (("write_line" : Str), 37), (("write" : Str), 38), (("lengths_of" : Str), 41), (("length" : Str), 42), (("shown" : Str), 43), (("tangle" : Str), 44), (("texts_of" : Str), 45),
  (("_law_cell" : Str), 47), (("_law_draws" : Str), 48), (("_law_text" : Str), 49), (("_law_line" : Str), 50), (("_law_document" : Str), 51), (("_law_shown" : Str), 52), (("_law_turned" : Str), 53), (("law" : Str), 54)]
/-- what the top has left -/
structure Tx (K : PySem.W.Frag) (mg : Str → Option Value) : Prop where
  df : ∀ (i : Nat) (p : Str × Nat), dfs[i]? = some p → ∃ (f : Addr) (fd : FuncData), Fun K p.1 p.1 (topS p.2) f fd ∧ mg p.1 = some (.ref f)
  len : mg "len" = none
  rng : mg "range" = none
  lst : mg "list" = none
  tup : mg "tuple" = none
  min : mg "min" = none
  any : mg "any" = none
  all : mg "all" = none
  enm : mg "enumerate" = none
  rev : mg "reversed" = none
  sum : mg "sum" = none
  isi : mg "isinstance" = none
  str : mg "str" = none
  nmost : ∃ t, mg "NAME_MOST" = some (.int 20 t)
  nsigns : ∃ t, mg "NAME_SIGNS" = some (.str (Str.ofString "-_.") t)
  lmost : ∃ t, mg "MOST_LINES" = some (.int 2000 t)
/-! ### documents in the heap -/
def lnV : Ln → List V
  | .prose t => [.str "prose", .str t]
  | .head n => [.str "head", .str n]
  | .use i n => [.str "use", .int i, .str n]
  | .code t => [.str "code", .str t]
def At (H : Hp) (p : Addr) (l : Ln) : Prop := H p = some (.tup (lnV l))
def DocAt (H : Hp) (a : Addr) (d : List Ln) : Prop := ∃ ls : List Addr, H a = some (.tup (ls.map V.ref)) ∧ Paired (At H) ls d
theorem Paired.get {α β : Type} {F : α → β → Prop} : ∀ {xs : List α} {ys : List β}, Paired F xs ys → ∀ {i : Nat} {y : β}, ys[i]? = some y → ∃ x, xs[i]? = some x ∧ F x y
  | _, _, .nil, _, _, h => by cases h
  | x :: xs, y :: ys, .cons r t, 0, z, h => by
    cases h
    exact ⟨x, rfl, r⟩
  | x :: xs, y :: ys, .cons r t, i + 1, z, h => Paired.get t (i := i) h
theorem Paired.get' {α β : Type} {F : α → β → Prop} : ∀ {xs : List α} {ys : List β}, Paired F xs ys → ∀ {i : Nat} {x : α}, xs[i]? = some x → ∃ y, ys[i]? = some y ∧ F x y
  | _, _, .nil, _, _, h => by cases h
  | x :: xs, y :: ys, .cons r t, 0, z, h => by
    cases h
    exact ⟨y, rfl, r⟩
  | x :: xs, y :: ys, .cons r t, i + 1, z, h => Paired.get' t (i := i) h
theorem Paired.app {α β : Type} {F : α → β → Prop} : ∀ {xs xs' : List α} {ys ys' : List β}, Paired F xs ys → Paired F xs' ys' → Paired F (xs ++ xs') (ys ++ ys')
  | _, _, _, _, .nil, s => s
  | _, _, _, _, .cons r t, s => .cons r (Paired.app t s)
theorem Paired.tk {α β : Type} {F : α → β → Prop} : ∀ {xs : List α} {ys : List β} (n : Nat), Paired F xs ys → Paired F (xs.take n) (ys.take n)
  | _, _, 0, _ => .nil
  | _, _, _ + 1, .nil => .nil
  | _, _, n + 1, .cons r t => .cons r (Paired.tk n t)
theorem Paired.dp {α β : Type} {F : α → β → Prop} : ∀ {xs : List α} {ys : List β} (n : Nat), Paired F xs ys → Paired F (xs.drop n) (ys.drop n)
  | _, _, 0, r => r
  | _, _, _ + 1, .nil => .nil
  | _, _, n + 1, .cons _ t => Paired.dp n t
theorem lns_same {H H' : Hp} (e : Same H H') {ls : List Addr} {d : List Ln} (h : Paired (At H) ls d) : Paired (At H') ls d := Paired.mono (fun _ _ x => e _ _ x) h
theorem DocAt.same {H H' : Hp} (e : Same H H') {a : Addr} {d : List Ln} (h : DocAt H a d) : DocAt H' a d := let ⟨ls, h1, h2⟩ := h; ⟨ls, e _ _ h1, lns_same e h2⟩
theorem same_upd {H : Hp} {p : Addr} {o : HO} (h : H p = none) : Same H (upd H p o) := fun b x e => by
  rw [upd_ne (ne_of_none e h)]
  exact e
/-- a tracked thing that is written keeps what stood ahead of it -/
theorem same_wr {H H' : Hp} {p : Addr} {o : HO} (e : Same H H') (h : H p = none) : Same H (upd H' p o) := fun b x q => by
  rw [upd_ne (ne_of_none q h)]
  exact e b x q
theorem len_ls {H : Hp} {ls : List Addr} {d : List Ln} (h : Paired (At H) ls d) : (ls.map V.ref).length = d.length := by rw [List.length_map]; exact Paired.length h
theorem ref_at {ls : List Addr} {i : Nat} {p : Addr} (h : ls[i]? = some p) : (ls.map V.ref)[i]? = some (.ref p) := by rw [List.getElem?_map, h]; rfl
theorem s_hp : (Str.ofString "head" = Str.ofString "prose") = False := by simp only [eq_iff_iff, iff_false]; decide +kernel
/-- which kind of line -/
theorem k_head (l : Ln) : ∃ s : Str, (lnV l)[0]? = some (.str s) ∧ (s = Str.ofString "head" ↔ ∃ n, l = .head n) ∧ (s = Str.ofString "prose" ↔ ∃ t, l = .prose t) ∧ (s = Str.ofString "use" ↔ ∃ i n, l = .use i n) ∧ (s = Str.ofString "code" ↔ ∃ t, l = .code t) := by
  have h1 : Str.ofString "head" ≠ Str.ofString "prose" := by decide +kernel
  have h2 : Str.ofString "head" ≠ Str.ofString "use" := by decide +kernel
  have h3 : Str.ofString "head" ≠ Str.ofString "code" := by decide +kernel
  have h4 : Str.ofString "prose" ≠ Str.ofString "use" := by decide +kernel
  have h5 : Str.ofString "prose" ≠ Str.ofString "code" := by decide +kernel
  have h6 : Str.ofString "use" ≠ Str.ofString "code" := by decide +kernel
  cases l with
  | prose t => exact ⟨_, rfl, ⟨fun e => absurd e.symm h1, fun ⟨_, e⟩ => by cases e⟩, ⟨fun _ => ⟨_, rfl⟩, fun _ => rfl⟩, ⟨fun e => absurd e h4, fun ⟨_, _, e⟩ => by cases e⟩, ⟨fun e => absurd e h5, fun ⟨_, e⟩ => by cases e⟩⟩
  | head n => exact ⟨_, rfl, ⟨fun _ => ⟨_, rfl⟩, fun _ => rfl⟩, ⟨fun e => absurd e h1, fun ⟨_, e⟩ => by cases e⟩, ⟨fun e => absurd e h2, fun ⟨_, _, e⟩ => by cases e⟩, ⟨fun e => absurd e h3, fun ⟨_, e⟩ => by cases e⟩⟩
  | use i n => exact ⟨_, rfl, ⟨fun e => absurd e.symm h2, fun ⟨_, e⟩ => by cases e⟩, ⟨fun e => absurd e.symm h4, fun ⟨_, e⟩ => by cases e⟩, ⟨fun _ => ⟨_, _, rfl⟩, fun _ => rfl⟩, ⟨fun e => absurd e h6, fun ⟨_, e⟩ => by cases e⟩⟩
  | code t => exact ⟨_, rfl, ⟨fun e => absurd e.symm h3, fun ⟨_, e⟩ => by cases e⟩, ⟨fun e => absurd e.symm h5, fun ⟨_, e⟩ => by cases e⟩, ⟨fun e => absurd e.symm h6, fun ⟨_, _, e⟩ => by cases e⟩, ⟨fun _ => ⟨_, rfl⟩, fun _ => rfl⟩⟩
theorem nPH : ¬ (V.str (Str.ofString "prose") = V.str (Str.ofString "head")) := by decide +kernel
theorem nPU : ¬ (V.str (Str.ofString "prose") = V.str (Str.ofString "use")) := by decide +kernel
theorem nPC : ¬ (V.str (Str.ofString "prose") = V.str (Str.ofString "code")) := by decide +kernel
theorem nHP : ¬ (V.str (Str.ofString "head") = V.str (Str.ofString "prose")) := by decide +kernel
theorem nHU : ¬ (V.str (Str.ofString "head") = V.str (Str.ofString "use")) := by decide +kernel
theorem nHC : ¬ (V.str (Str.ofString "head") = V.str (Str.ofString "code")) := by decide +kernel
theorem nUP : ¬ (V.str (Str.ofString "use") = V.str (Str.ofString "prose")) := by decide +kernel
theorem nUH : ¬ (V.str (Str.ofString "use") = V.str (Str.ofString "head")) := by decide +kernel
theorem nUC : ¬ (V.str (Str.ofString "use") = V.str (Str.ofString "code")) := by decide +kernel
theorem nCP : ¬ (V.str (Str.ofString "code") = V.str (Str.ofString "prose")) := by decide +kernel
theorem nCH : ¬ (V.str (Str.ofString "code") = V.str (Str.ofString "head")) := by decide +kernel
theorem nCU : ¬ (V.str (Str.ofString "code") = V.str (Str.ofString "use")) := by decide +kernel
theorem ifY {c A B : Prop} [Decidable c] (h : c) (k : A) : if decide c = true then A else B := by rw [if_pos (decide_eq_true h)]; exact k
theorem ifN {c A B : Prop} [Decidable c] (h : ¬ c) (k : B) : if decide c = true then A else B := by rw [if_neg (by simpa using h)]; exact k
theorem ifNY {c A B : Prop} [Decidable c] (h : ¬ c) (k : A) : if (!decide c) = true then A else B := by rw [if_pos (by simpa using h)]; exact k
theorem ifNN {c A B : Prop} [Decidable c] (h : c) (k : B) : if (!decide c) = true then A else B := by rw [if_neg (by simpa using h)]; exact k
theorem if2 {c A B : Prop} [Decidable c] (h1 : c → A) (h2 : ¬ c → B) : if decide c = true then A else B := by
  by_cases h : c
  · exact ifY h (h1 h)
  · exact ifN h (h2 h)
theorem ifN2 {c A B : Prop} [Decidable c] (h1 : ¬ c → A) (h2 : c → B) : if (!decide c) = true then A else B := by
  by_cases h : c
  · exact ifNN h (h2 h)
  · exact ifNY h (h1 h)
end Wf

end
section
set_option maxHeartbeats 4000000
/-! W10: sections. -/
namespace Wf
open PySem PySem.Spec PyProof.Rows L2 Wr
abbrev s10 : Stmt := topS 10
theorem sc10 : FnScope ["document", "found", "at", "line", "name", "head", "end"] ["document"] (defScope s10) := ⟨rfl, rfl, rfl, by decide +kernel, rfl, by decide +kernel, by decide +kernel⟩
def SecAt (H : Hp) (t : Addr) (s : Sec) : Prop := H t = some (.tup [.str s.1, .int s.2.1, .int s.2.2])
def SecsAt (H : Hp) (p : Addr) (ss : List Sec) : Prop := ∃ ts : List Addr, H p = some (.lst (ts.map V.ref)) ∧ Paired (SecAt H) ts ss
def sp10 : Sp := fun vs H Q _ => ∃ (a : Addr) (d : List Ln), vs = [.ref a] ∧ DocAt H a d ∧ okd none d ∧ d.length ≤ 1000000 ∧ ∀ H' p, Same H H' → H p = none → SecsAt H' p (secs 0 d) → Q (.ref p) H'
theorem secs_len : ∀ (a : Nat) (d : List Ln), (secs a d).length ≤ d.length
  | _, [] => Nat.le_refl _
  | a, .head m :: r => Nat.succ_le_succ (secs_len (a + 1) r)
  | a, .prose _ :: r => Nat.le_succ_of_le (secs_len (a + 1) r)
  | a, .use _ _ :: r => Nat.le_succ_of_le (secs_len (a + 1) r)
  | a, .code _ :: r => Nat.le_succ_of_le (secs_len (a + 1) r)
theorem small7 {n : Nat} (h : n ≤ 1000000) : n < sizeLine := Nat.lt_of_le_of_lt h (by decide)
theorem take_snoc {d : List Ln} {i : Nat} {l : Ln} (h : d[i]? = some l) : d.take (i + 1) = d.take i ++ [l] := by
  rw [List.take_add_one, h]; rfl
theorem okd_take {d : List Ln} (h : okd none d) (i : Nat) : okd none (d.take i) := by
  rw [← List.take_append_drop i d, okd_app] at h
  exact h.1
theorem okd_at {d : List Ln} (h : okd none d) {i : Nat} {l : Ln} (hl : d[i]? = some l) (ho : l.own = true) : ∃ n, cu none (d.take i) = some n := by
  have h2 := okd_take h (i + 1)
  rw [take_snoc hl, okd_app] at h2
  have h3 : cu none (d.take i) ≠ none := by
    cases l <;> first | exact h2.2.1 | cases ho
  cases e : cu none (d.take i) with
  | none => exact absurd e h3
  | some n => exact ⟨n, rfl⟩
theorem set_last (xs : List V) (x y : V) : (xs ++ [x]).set xs.length y = xs ++ [y] := by
  rw [List.set_append_right _ _ (Nat.le_refl _), Nat.sub_self]; rfl
theorem ix_last (xs : List V) (x : V) {n : Nat} (h : n = xs.length) : ixN (xs ++ [x]).length (-1) = some n := by
  unfold ixN
  have hl : (xs ++ [x]).length = xs.length + 1 := by simp
  rw [hl, if_neg (by decide), if_pos (by omega), h]
  congr 1
  omega
section
variable {P : Program} {w : World} {K : PySem.W.Frag} {mg : Str → Option Value} {base : Heap}
theorem ok10 (T : Tx K mg) : Has P w K mg base CX0 1 "sections" ["document"] sp10 := by
  obtain ⟨f, fd, F, g⟩ := T.df 0 _ rfl
  refine ⟨f, fd, ?_, g, F.kp, F.binds fun _ _ _ _ _ _ us hl => match us, hl with | [_], _ => rfl⟩
  refine Fun.ok F sc10 (fun vs H Q E h => ?_) (fun cdv A outer s H vs Q E hr h => ?_)
  · obtain ⟨a, d, rfl, _⟩ := h
    rfl
  · obtain ⟨a, d, rfl, hd, okD, hlen, q⟩ := h
    refine ⟨_, pss_cons (ps_set (i := 1) sc10.nd rfl (.inl rfl) (pe_lst pa_nil))
      (pss_cons (ps_for PassesOwn.never rfl (pi_enumT (by rfl) T.enm (pa_cons (pv 0) pa_nil)) (pg_tup rfl (pgs_cons (pg_name (i := 2) sc10.nd rfl (.inl rfl)) (pgs_cons (pg_name (i := 3) sc10.nd rfl (.inl rfl)) pgs_nil)))
        (pss_one (ps_if (pt_cmpR op_eq (pe_ix ix_tup (pv 3) pe_int (fun _ _ => rfl)) pe_str (nomark _))
          (pss_one (ps_expr (pe_bm PySem.F.plainAttrs_list PySem.F.slot_list_append PySem.F.type_list_append mt_append (pv 1)
            (pa_cons (pe_tup (pa_cons (pe_ix ix_tup (pv 3) pe_int (fun _ _ => rfl)) (pa_cons (pv 2) (pa_cons (pe_op op_add (pv 2) pe_int) pa_nil)))) pa_nil))))
          (pss_one (ps_if (pt_cmpR op_ne (pe_ix ix_tup (pv 3) pe_int (fun _ _ => rfl)) pe_str (nomark _))
            (pss_cons (ps_asg (pe_ix ix_list (pv 1) (pe_un un_neg pe_int) (fun _ _ => rfl)) (pg_tup rfl (pgs_cons (pg_name (i := 4) sc10.nd rfl (.inl rfl)) (pgs_cons (pg_name (i := 5) sc10.nd rfl (.inl rfl)) (pgs_cons (pg_name (i := 6) sc10.nd rfl (.inl rfl)) pgs_nil)))))
            (pss_one (ps_asg (pe_tup (pa_cons (pv 4) (pa_cons (pv 5) (pa_cons (pe_op op_add (pv 2) pe_int) pa_nil)))) (pg_sub (pv 1) (pe_un un_neg pe_int) set_list))))
            pss_nil)))))
      (pss_one (ps_ret (pv 1)))), ?_⟩
    obtain ⟨ls, ha, hls⟩ := hd
    have hll := len_ls hls
    refine ⟨Nat.zero_le _, fun o no => ?_⟩
    refine ⟨.ref a, rfl, a, ls.map V.ref, rfl, .of (same_upd no _ _ ha), ?_⟩
    refine for_it walk_enumT (fun i σ H2 => ∃ y2 y3 y4 y5 y6, σ = [some (.ref a), some (.ref o), y2, y3, y4, y5, y6] ∧ Same H H2 ∧ SecsAt H2 o (secs 0 (d.take i)))
      ⟨none, none, none, none, none, rfl, same_upd no, [], upd_same, .nil⟩ (fun i σ H2 _ ⟨_, _, _, _, _, _, s2, _⟩ => .of (s2 _ _ ha)) ?_ ?_
    · rintro i x σ H2 H3 hi ⟨y2, y3, y4, y5, y6, rfl, s2, ts, ho, hts⟩ ⟨T1, x1, x2, rfl, nT, rfl, e1, e2⟩
      cases e1
      rw [hll] at hi
      have hdl : d[i]? = some d[i] := List.getElem?_eq_getElem hi
      obtain ⟨p, hp, hat⟩ := Paired.get hls hdl
      have ex2 : x2 = .ref p := Option.some.inj (e2.symm.trans (ref_at hp))
      subst ex2
      have sT : Same H2 (upd H2 T1 (.tup [.int (i : Nat), .ref p])) := same_upd nT
      have s3 := s2.trans sT
      have hT : upd H2 T1 (.tup [.int (i : Nat), .ref p]) T1 = some (.tup [.int (i : Nat), .ref p]) := upd_same
      have hat3 : At (upd H2 T1 (.tup [.int (i : Nat), .ref p])) p d[i] := s3 _ _ hat
      have ho3 : upd H2 T1 (.tup [.int (i : Nat), .ref p]) o = some (.lst (ts.map V.ref)) := sT _ _ ho
      have hts3 : Paired (SecAt (upd H2 T1 (.tup [.int (i : Nat), .ref p]))) ts (secs 0 (d.take i)) := Paired.mono (fun _ _ z => sT _ _ z) hts
      generalize upd H2 T1 (.tup [.int (i : Nat), .ref p]) = H4 at *
      have hlt : (ts.map V.ref).length < sizeLine := by
        rw [List.length_map, Paired.length hts]
        refine small7 (Nat.le_trans (secs_len 0 _) ?_)
        rw [List.length_take]
        omega
      have htl : (d.take i).length = i := by rw [List.length_take]; omega
      have hsn := take_snoc hdl
      -- the end of a turn
      have fin : ∀ (H5 : Hp) (t : Addr) (s : Sec) (ts0 : List Addr) (ss0 : List Sec) (y4 y5 y6 : Option V), H4 t = none → Same H4 H5 → H5 t = some (.tup [.str s.1, .int s.2.1, .int s.2.2]) → Paired (SecAt H4) ts0 ss0 → secs 0 (d.take (i + 1)) = ss0 ++ [s] →
          ∃ z2 z3 z4 z5 z6, [some (V.ref a), some (V.ref o), some (V.int (i : Nat)), some (V.ref p), y4, y5, y6] = [some (.ref a), some (.ref o), z2, z3, z4, z5, z6] ∧ Same H (upd H5 o (.lst (ts0.map V.ref ++ [V.ref t]))) ∧ SecsAt (upd H5 o (.lst (ts0.map V.ref ++ [V.ref t]))) o (secs 0 (d.take (i + 1))) := by
        intro H5 t s ts0 ss0 y4 y5 y6 nt s45 ht hp0 es
        refine ⟨_, _, _, _, _, rfl, same_wr (s3.trans s45) no, ts0 ++ [t], ?_, ?_⟩
        · rw [upd_same, List.map_append]; rfl
        · rw [es]
          have nto : t ≠ o := fun e => by rw [e, ho3] at nt; cases nt
          refine Paired.snoc (Paired.mono (fun b s0 z => ?_) hp0) ?_
          · have nb : b ≠ o := fun e => by rw [SecAt, e, ho3] at z; cases z
            show upd _ o _ b = _
            rw [upd_ne nb]
            exact s45 _ _ z
          · show upd _ o _ t = _
            rw [upd_ne nto]
            exact ht
      refine ⟨T1, _, rfl, .of hT, rfl, _, _, rfl, _, _, rfl, rfl, ?_⟩
      have ownT : ∀ (hl : d[i].own = true), ∃ (n : Str) (h0 : Nat) (t0 : Addr) (ts0 : List Addr) (ss0 : List Sec), ts = ts0 ++ [t0] ∧ H4 t0 = some (.tup [.str n, .int h0, .int ((i : Nat) : Int)]) ∧ Paired (SecAt H4) ts0 ss0 ∧ secs 0 (d.take (i + 1)) = ss0 ++ [(n, h0, i + 1)] := by
        intro hl
        obtain ⟨n, hn⟩ := okd_at okD hdl hl
        obtain ⟨ini, h0, e1, e2⟩ := secs_own 0 hl (d.take i) n hn
        rw [htl] at e1 e2
        rw [e1] at hts3
        have ll := Paired.length hts3
        rw [List.length_append] at ll
        have hne : ts ≠ [] := fun z => by rw [z] at ll; simp at ll
        obtain ⟨ts0, t0, rfl⟩ : ∃ ts0 t0, ts = ts0 ++ [t0] := ⟨ts.dropLast, ts.getLast hne, (List.dropLast_concat_getLast hne).symm⟩
        have l0 : ts0.length = ini.length := by simpa using ll
        refine ⟨n, h0, t0, ts0, ini, rfl, ?_, ?_, ?_⟩
        · obtain ⟨t1, g1, g2⟩ := Paired.get hts3 (i := ini.length) (y := (n, h0, 0 + i)) (by simp)
          have : t1 = t0 := by
            rw [← l0] at g1
            simpa using g1.symm
          subst this
          have g3 : H4 t1 = some (.tup [.str n, .int (h0 : Nat), .int ((0 + i : Nat) : Int)]) := g2
          rw [Nat.zero_add] at g3
          exact g3
        · have := Paired.tk ini.length hts3
          rw [List.take_left, ← l0, List.take_left] at this
          exact this
        · rw [hsn, e2, Nat.zero_add]
      cases hdi : d[i] with
      | prose t =>
        rw [hdi] at hat3
        refine ⟨_, rfl, p, _, _, _, rfl, rfl, .of hat3, atI_nat rfl, rfl, _, rfl, ?_⟩
        refine ifN nPH ?_
        refine ⟨_, rfl, p, _, _, _, rfl, rfl, .of hat3, atI_nat rfl, rfl, _, rfl, ?_⟩
        refine ifNN rfl ?_
        refine ⟨_, _, _, _, _, rfl, s3, ts, ho3, ?_⟩
        rw [hsn, hdi, secs_prose]
        exact hts3
      | head n =>
        rw [hdi] at hat3
        refine ⟨_, rfl, p, _, _, _, rfl, rfl, .of hat3, atI_nat rfl, rfl, _, rfl, ?_⟩
        refine ifY rfl ?_
        refine ⟨_, rfl, .inl ⟨rfl, _, .of ho3⟩, _, rfl, p, _, _, _, rfl, rfl, .of hat3, atI_nat (j := 1) rfl, _, rfl, _, rfl, _, _, rfl, rfl, by show 3 ≤ sizeLine; decide, fun t nt => ?_⟩
        refine ⟨o, _, _, rfl, rfl, (same_upd nt _ _ ho3), hlt, ?_⟩
        refine fin _ t (n, i, i + 1) ts (secs 0 (d.take i)) _ _ _ nt (same_upd nt) upd_same hts3 ?_
        rw [hsn, hdi, secs_head, htl, Nat.zero_add]
      | use j m =>
        rw [hdi] at hat3
        obtain ⟨n, h0, t0, ts0, ss0, rfl, ht0, hp0, es⟩ := ownT (by rw [hdi]; rfl)
        rw [List.map_append] at ho3 hlt
        refine ⟨_, rfl, p, _, _, _, rfl, rfl, .of hat3, atI_nat rfl, rfl, _, rfl, ?_⟩
        refine ifN nUH ?_
        refine ⟨_, rfl, p, _, _, _, rfl, rfl, .of hat3, atI_nat rfl, rfl, _, rfl, ?_⟩
        refine ifNY nUP ?_
        refine ⟨_, rfl, _, rfl, o, _, _, _, rfl, rfl, .of ho3, atI_last _ _, t0, _, rfl, .of ht0, rfl, _, _, rfl, _, _, rfl, _, _, rfl, rfl, ?_⟩
        refine ⟨_, rfl, _, rfl, _, rfl, _, _, rfl, rfl, by show 3 ≤ sizeLine; decide, fun t nt => ?_⟩
        refine ⟨_, rfl, _, rfl, o, _, _, ts0.length, rfl, rfl, (same_upd nt _ _ ho3), ix_last _ _ (by rw [List.length_map]), ?_⟩
        rw [show ts0.length = (ts0.map V.ref).length by rw [List.length_map]]
        show ∃ z2 z3 z4 z5 z6, _ ∧ Same H (upd _ o (.lst ((ts0.map V.ref ++ [V.ref t0]).set (ts0.map V.ref).length (V.ref t)))) ∧ SecsAt (upd _ o (.lst ((ts0.map V.ref ++ [V.ref t0]).set (ts0.map V.ref).length (V.ref t)))) o _
        rw [set_last]
        exact fin _ t (n, h0, i + 1) ts0 ss0 _ _ _ nt (same_upd nt) upd_same hp0 es
      | code t' =>
        rw [hdi] at hat3
        obtain ⟨n, h0, t0, ts0, ss0, rfl, ht0, hp0, es⟩ := ownT (by rw [hdi]; rfl)
        rw [List.map_append] at ho3 hlt
        refine ⟨_, rfl, p, _, _, _, rfl, rfl, .of hat3, atI_nat rfl, rfl, _, rfl, ?_⟩
        refine ifN nCH ?_
        refine ⟨_, rfl, p, _, _, _, rfl, rfl, .of hat3, atI_nat rfl, rfl, _, rfl, ?_⟩
        refine ifNY nCP ?_
        refine ⟨_, rfl, _, rfl, o, _, _, _, rfl, rfl, .of ho3, atI_last _ _, t0, _, rfl, .of ht0, rfl, _, _, rfl, _, _, rfl, _, _, rfl, rfl, ?_⟩
        refine ⟨_, rfl, _, rfl, _, rfl, _, _, rfl, rfl, by show 3 ≤ sizeLine; decide, fun t nt => ?_⟩
        refine ⟨_, rfl, _, rfl, o, _, _, ts0.length, rfl, rfl, (same_upd nt _ _ ho3), ix_last _ _ (by rw [List.length_map]), ?_⟩
        rw [show ts0.length = (ts0.map V.ref).length by rw [List.length_map]]
        show ∃ z2 z3 z4 z5 z6, _ ∧ Same H (upd _ o (.lst ((ts0.map V.ref ++ [V.ref t0]).set (ts0.map V.ref).length (V.ref t)))) ∧ SecsAt (upd _ o (.lst ((ts0.map V.ref ++ [V.ref t0]).set (ts0.map V.ref).length (V.ref t)))) o _
        rw [set_last]
        exact fin _ t (n, h0, i + 1) ts0 ss0 _ _ _ nt (same_upd nt) upd_same hp0 es
    · rintro σ H2 ⟨y2, y3, y4, y5, y6, rfl, s2, hs⟩
      refine ⟨_, rfl, q H2 o s2 no ?_⟩
      rw [hll, List.take_length] at hs
      exact hs
end
end Wf

end
section
set_option maxHeartbeats 4000000
/-! W11: piece_names, piece_lines. -/
namespace Wf
open PySem PySem.Spec PyProof.Rows L2 Wr
/-- all but what stands at o is as it was -/
def Keep (o : Addr) (H H' : Hp) : Prop := ∀ b x, b ≠ o → H b = some x → H' b = some x
theorem Keep.upd {o : Addr} {H : Hp} {x : HO} : Keep o H (L2.upd H o x) := fun b y hb e => by rw [upd_ne hb]; exact e
theorem Keep.of {o : Addr} {H H' : Hp} (s : Same H H') : Keep o H H' := fun b x _ e => s b x e
theorem Keep.trans {o : Addr} {H H1 H2 : Hp} (a : Keep o H H1) (b : Keep o H1 H2) : Keep o H H2 := fun c x hc e => b c x hc (a c x hc e)
theorem Keep.same {o : Addr} {H H0 H1 : Hp} (s : Same H H0) (no : H o = none) (k : Keep o H0 H1) : Same H H1 := fun b x e => k b x (ne_of_none e no) (s b x e)
theorem SecsAt.keep {o p : Addr} {H H' : Hp} {ss : List Sec} {xs : List V} (k : Keep o H H') (ho : H o = some (.lst xs)) (hp : p ≠ o) (h : SecsAt H p ss) : SecsAt H' p ss := by
  obtain ⟨ts, h1, h2⟩ := h
  exact ⟨ts, k _ _ hp h1, Paired.mono (fun t s z => k _ _ (fun e => by have z' : H t = some _ := z; rw [e, ho] at z'; cases z') z) h2⟩
theorem SecsAt.keepD {o p : Addr} {H H' : Hp} {ss : List Sec} {kvs : List (Key × V)} (k : Keep o H H') (ho : H o = some (.dK kvs)) (hp : p ≠ o) (h : SecsAt H p ss) : SecsAt H' p ss := by
  obtain ⟨ts, h1, h2⟩ := h
  exact ⟨ts, k _ _ hp h1, Paired.mono (fun t s z => k _ _ (fun e => by have z' : H t = some _ := z; rw [e, ho] at z'; cases z') z) h2⟩
theorem SecsAt.at {H : Hp} {p : Addr} {ss : List Sec} {xs : List V} {x : V} {i : Nat} (h : SecsAt H p ss) (hx : H p = some (.lst xs)) (e : xs[i]? = some x) : ∃ t s, x = .ref t ∧ ss[i]? = some s ∧ SecAt H t s := by
  obtain ⟨ts, h1, h2⟩ := h
  rw [hx] at h1
  cases h1
  rw [List.getElem?_map] at e
  cases e3 : ts[i]? with
  | none => rw [e3] at e; cases e
  | some t =>
    rw [e3] at e
    obtain ⟨s, g1, g2⟩ := Paired.get' h2 e3
    exact ⟨t, s, (Option.some.inj e).symm, g1, g2⟩
theorem SecsAt.lst {H : Hp} {p : Addr} {ss : List Sec} (h : SecsAt H p ss) : ∃ ts : List Addr, H p = some (.lst (ts.map V.ref)) ∧ ts.length = ss.length := let ⟨ts, h1, h2⟩ := h; ⟨ts, h1, Paired.length h2⟩
def nms (d : List Ln) : List T := (secs 0 d).map (·.1)
def strV (ns : List T) : List V := ns.map V.str
theorem inV_str (n : T) : ∀ ns : List T, inV (.str n) (strV ns) = decide (n ∈ ns)
  | [] => rfl
  | m :: ns => by
    have ih := inV_str n ns
    unfold inV strV at *
    rw [List.map_cons, List.any_cons, ih]
    show ((m == n) || decide (n ∈ ns)) = decide (n ∈ m :: ns)
    by_cases h : m = n
    · subst h; simp
    · have : ¬ n = m := fun e => h e.symm
      simp [h, this]
theorem flat_strs (ns : List T) : (strV ns).all flatV = true := by
  unfold strV
  rw [List.all_map, List.all_eq_true]
  intro _ _; rfl
theorem ddp_len (ns : List T) : (ddp ns).length ≤ ns.length := by
  unfold ddp
  suffices h : ∀ (acc : List T), (ns.foldl (fun acc n => if n ∈ acc then acc else acc ++ [n]) acc).length ≤ acc.length + ns.length by simpa using h []
  induction ns with
  | nil => intro acc; exact Nat.le_refl _
  | cons n r ih =>
    intro acc
    rw [List.foldl_cons, List.length_cons]
    refine Nat.le_trans (ih _) ?_
    split
    · omega
    · rw [List.length_append, List.length_singleton]; omega
theorem ddp_mem (ns : List T) (n : T) : n ∈ ddp ns ↔ n ∈ ns := by
  unfold ddp
  suffices h : ∀ (acc : List T), n ∈ ns.foldl (fun acc n => if n ∈ acc then acc else acc ++ [n]) acc ↔ n ∈ acc ∨ n ∈ ns by simpa using h []
  induction ns with
  | nil => intro acc; simp
  | cons m r ih =>
    intro acc
    rw [List.foldl_cons, ih]
    split
    · rename_i h
      constructor
      · rintro (h1 | h1)
        · exact .inl h1
        · exact .inr (List.mem_cons_of_mem _ h1)
      · rintro (h1 | h1)
        · exact .inl h1
        · rcases List.mem_cons.mp h1 with h1 | h1
          · rw [h1]; exact .inl h
          · exact .inr h1
    · rw [List.mem_append, List.mem_singleton, List.mem_cons]
      constructor
      · rintro ((h1 | h1) | h1)
        · exact .inl h1
        · exact .inr (.inl h1)
        · exact .inr (.inr h1)
      · rintro (h1 | h1 | h1)
        · exact .inl (.inl h1)
        · exact .inl (.inr h1)
        · exact .inr h1
theorem nms_mem (d : List Ln) (n : T) : n ∈ ddp (nms d) ↔ Ln.head n ∈ d := by
  rw [ddp_mem, ← secs_head_mem n 0 d]
  unfold nms
  rw [List.mem_map]
/-! ### piece_names -/
abbrev s11 : Stmt := topS 11
theorem sc11 : FnScope ["document", "names", "name", "head", "end"] ["document"] (defScope s11) := ⟨rfl, rfl, rfl, by decide +kernel, rfl, by decide +kernel, by decide +kernel⟩
def sp11 : Sp := fun vs H Q _ => ∃ (a : Addr) (d : List Ln), vs = [.ref a] ∧ DocAt H a d ∧ okd none d ∧ d.length ≤ 1000000 ∧ ∀ H' p, Same H H' → H p = none → H' p = some (.lst (strV (ddp (nms d)))) → Q (.ref p) H'
section
variable {P : Program} {w : World} {K : PySem.W.Frag} {mg : Str → Option Value} {base : Heap}
theorem ok11 (T : Tx K mg) : Has P w K mg base CX0 2 "piece_names" ["document"] sp11 := by
  obtain ⟨f, fd, F, g⟩ := T.df 1 _ rfl
  refine ⟨f, fd, ?_, g, F.kp, F.binds fun _ _ _ _ _ _ us hl => match us, hl with | [_], _ => rfl⟩
  refine Fun.ok F sc11 (fun vs H Q E h => ?_) (fun cdv A outer s H vs Q E hr h => ?_)
  · obtain ⟨a, d, rfl, _⟩ := h
    rfl
  · obtain ⟨a, d, rfl, hd, okD, hlen, q⟩ := h
    refine ⟨_, pss_cons (ps_set (i := 1) sc11.nd rfl (.inl rfl) (pe_lst pa_nil))
      (pss_cons (ps_for PassesOwn.never rfl (pi_list (pe_has (ok10 T) hr (by rfl) (pa_cons (pv 0) pa_nil))) (pg_tup rfl (pgs_cons (pg_name (i := 2) sc11.nd rfl (.inl rfl)) (pgs_cons (pg_name (i := 3) sc11.nd rfl (.inl rfl)) (pgs_cons (pg_name (i := 4) sc11.nd rfl (.inl rfl)) pgs_nil))))
        (pss_one (ps_if (pt_cmpR op_notIn_seq (pv 2) (pv 1) rfl)
          (pss_one (ps_expr (pe_bm PySem.F.plainAttrs_list PySem.F.slot_list_append PySem.F.type_list_append mt_append (pv 1) (pa_cons (pv 2) pa_nil))))
          pss_nil)))
      (pss_one (ps_ret (pv 1)))), ?_⟩
    refine ⟨Nat.zero_le _, fun o no => ?_⟩
    have s0 := same_upd (o := .lst []) no
    refine ⟨_, rfl, a, d, rfl, hd.same s0, okD, hlen, fun H1 p s1 np hs => ?_⟩
    obtain ⟨ts, hp, hl⟩ := hs.lst
    have npo : p ≠ o := fun e => by rw [e, upd_same] at np; cases np
    refine ⟨p, rfl, ⟨_, .of hp⟩, for_list (K := K) (a := p) (xs := ts.map V.ref) (fun i σ H2 => ∃ y2 y3 y4, σ = [some (.ref a), some (.ref o), y2, y3, y4] ∧ Keep o H1 H2 ∧ H2 o = some (.lst (strV (ddp ((nms d).take i)))))
      ⟨none, none, none, rfl, Keep.of (Same.refl _), s1 _ _ upd_same⟩ (fun i σ H2 _ ⟨_, _, _, _, k, _⟩ => .of (k _ _ npo hp)) ?_ ?_⟩
    · rintro i x σ H2 hi ⟨y2, y3, y4, rfl, k, ho⟩
      have ho1 : H1 o = some (.lst []) := s1 _ _ upd_same
      obtain ⟨t, s, rfl, hsi, ht⟩ := (hs.keep k ho1 npo).at (k _ _ npo hp) hi
      have hn : (nms d)[i]? = some s.1 := by unfold nms; rw [List.getElem?_map, hsi]; rfl
      have hsn : (nms d).take (i + 1) = (nms d).take i ++ [s.1] := by rw [List.take_add_one, hn]; rfl
      refine ⟨t, _, rfl, .of ht, rfl, _, _, rfl, _, _, rfl, _, _, rfl, rfl, ?_⟩
      refine ⟨_, rfl, _, rfl, o, _, rfl, .inl (.of ho), rfl, flat_strs _, _, rfl, ?_⟩
      show if (!inV (V.str s.1) (strV (ddp ((nms d).take i)))) = true then _ else _
      rw [inV_str]
      refine ifN2 (fun h => ?_) (fun h => ?_)
      · refine ⟨_, rfl, .inl ⟨rfl, _, .of ho⟩, _, rfl, o, _, _, rfl, rfl, ho, ?_, ?_⟩
        · unfold strV
          rw [List.length_map]
          refine small7 (Nat.le_trans (ddp_len _) ?_)
          rw [List.length_take]
          have h9 : (nms d).length ≤ d.length := by unfold nms; rw [List.length_map]; exact secs_len 0 d
          omega
        · refine ⟨_, _, _, rfl, k.trans .upd, ?_⟩
          rw [upd_same, hsn, ddp_snoc, if_neg h]
          unfold strV
          rw [List.map_append]; rfl
      · refine ⟨_, _, _, rfl, k, ?_⟩
        rw [ho, hsn, ddp_snoc, if_pos h]
    · rintro σ H2 ⟨y2, y3, y4, rfl, k, ho⟩
      refine ⟨_, rfl, q H2 o (Keep.same (s0.trans s1) no k) no ?_⟩
      rw [ho]
      have : (ts.map V.ref).length = (nms d).length := by unfold nms; rw [List.length_map, List.length_map, hl]
      rw [this, List.take_length]
end
/-! ### piece_lines -/
def intV (ns : List Nat) : List V := ns.map fun (j : Nat) => V.int (j : Int)
theorem ints_app (a b : List Nat) : intV (a ++ b) = intV a ++ intV b := by unfold intV; rw [List.map_append]
theorem rgV_nat (a b : Nat) : rgV ((a : Int) + 1) (b : Int) = intV (List.range' (a + 1) (b - (a + 1))) := by
  unfold rgV intV
  have e : ((b : Int) - ((a : Int) + 1)).toNat = b - (a + 1) := by omega
  rw [e, List.range'_eq_map_range, List.map_map]
  refine List.map_congr_left fun j _ => ?_
  have e2 : ((a : Int) + 1) + (j : Nat) = ((a + 1 + j : Nat) : Int) := by omega
  show V.int (((a : Int) + 1) + (j : Nat)) = V.int ((a + 1 + j : Nat) : Int)
  rw [e2]
abbrev s12 : Stmt := topS 12
theorem sc12 : FnScope ["document", "name", "lines", "other", "head", "end"] ["document", "name"] (defScope s12) := ⟨rfl, rfl, rfl, by decide +kernel, rfl, by decide +kernel, by decide +kernel⟩
def sp12 : Sp := fun vs H Q _ => ∃ (a : Addr) (d : List Ln) (n : T), vs = [.ref a, .str n] ∧ DocAt H a d ∧ okd none d ∧ d.length ≤ 1000000 ∧ ∀ H' p, Same H H' → H p = none → H' p = some (.lst (intV (plc n none 0 d))) → Q (.ref p) H'
theorem pls_snoc (n : T) (ss : List Sec) (s : Sec) : pls n (ss ++ [s]) = pls n ss ++ (if s.1 = n then List.range' (s.2.1 + 1) (s.2.2 - (s.2.1 + 1)) else []) := by
  unfold pls
  rw [List.flatMap_append]
  simp
theorem pls_take_len (n : T) (d : List Ln) (i : Nat) : (pls n ((secs 0 d).take i)).length ≤ d.length := by
  have h : (pls n (secs 0 d)).length ≤ d.length := by rw [pls_secs]; exact plc_length n none 0 d
  refine Nat.le_trans ?_ h
  conv => rhs; rw [← List.take_append_drop i (secs 0 d)]
  unfold pls
  rw [List.flatMap_append, List.length_append]
  omega
theorem sec_bound {d : List Ln} {s : Sec} (h : s ∈ secs 0 d) : s.2.1 < d.length ∧ s.2.1 < s.2.2 ∧ s.2.2 ≤ d.length := by
  obtain ⟨x, r, e, h1, h2⟩ := sec_mem 0 d s h
  obtain ⟨y, ey, _⟩ := tw_prefix r
  have hl : d.length = x.length + 1 + r.length := by rw [e]; simp; omega
  have hr : (tw r).length ≤ r.length := by
    conv => rhs; rw [ey]
    simp
  omega
section
variable {P : Program} {w : World} {K : PySem.W.Frag} {mg : Str → Option Value} {base : Heap}
theorem ok12 (T : Tx K mg) : Has P w K mg base CX0 2 "piece_lines" ["document", "name"] sp12 := by
  obtain ⟨f, fd, F, g⟩ := T.df 2 _ rfl
  refine ⟨f, fd, ?_, g, F.kp, F.binds fun _ _ _ _ _ _ us hl => match us, hl with | [_, _], _ => rfl⟩
  refine Fun.ok F sc12 (fun vs H Q E h => ?_) (fun cdv A outer s H vs Q E hr h => ?_)
  · obtain ⟨a, d, n, rfl, _⟩ := h
    rfl
  · obtain ⟨a, d, n, rfl, hd, okD, hlen, q⟩ := h
    refine ⟨_, pss_cons (ps_set (i := 2) sc12.nd rfl (.inl rfl) (pe_lst pa_nil))
      (pss_cons (ps_for PassesOwn.never rfl (pi_list (pe_has (ok10 T) hr (by rfl) (pa_cons (pv 0) pa_nil))) (pg_tup rfl (pgs_cons (pg_name (i := 3) sc12.nd rfl (.inl rfl)) (pgs_cons (pg_name (i := 4) sc12.nd rfl (.inl rfl)) (pgs_cons (pg_name (i := 5) sc12.nd rfl (.inl rfl)) pgs_nil))))
        (pss_one (ps_if (pt_cmpR op_eq (pv 3) (pv 1) (nomark _))
          (pss_one (ps_expr (pe_bm PySem.F.plainAttrs_list PySem.F.slot_list_extend PySem.F.type_list_extend mt_extend (pv 2)
            (pa_cons (pe_listRg rfl (by rfl) T.lst (prg_2 (by rfl) T.rng (pe_op op_add (pv 4) pe_int) (pv 5))) pa_nil))))
          pss_nil)))
      (pss_one (ps_ret (pv 2)))), ?_⟩
    refine ⟨Nat.zero_le _, fun o no => ?_⟩
    have s0 := same_upd (o := .lst []) no
    refine ⟨_, rfl, a, d, rfl, hd.same s0, okD, hlen, fun H1 p s1 np hs => ?_⟩
    obtain ⟨ts, hp, hl⟩ := hs.lst
    have npo : p ≠ o := fun e => by rw [e, upd_same] at np; cases np
    refine ⟨p, rfl, ⟨_, .of hp⟩, for_list (K := K) (a := p) (xs := ts.map V.ref) (fun i σ H2 => ∃ y3 y4 y5, σ = [some (.ref a), some (.str n), some (.ref o), y3, y4, y5] ∧ Keep o H1 H2 ∧ H2 o = some (.lst (intV (pls n ((secs 0 d).take i)))))
      ⟨none, none, none, rfl, Keep.of (Same.refl _), s1 _ _ upd_same⟩ (fun i σ H2 _ ⟨_, _, _, _, k, _⟩ => .of (k _ _ npo hp)) ?_ ?_⟩
    · rintro i x σ H2 hi ⟨y3, y4, y5, rfl, k, ho⟩
      have ho1 : H1 o = some (.lst []) := s1 _ _ upd_same
      obtain ⟨t, s, rfl, hsi, ht⟩ := (hs.keep k ho1 npo).at (k _ _ npo hp) hi
      have hsn : (secs 0 d).take (i + 1) = (secs 0 d).take i ++ [s] := by rw [List.take_add_one, hsi]; rfl
      have sb := sec_bound (List.mem_of_getElem? hsi)
      refine ⟨t, _, rfl, .of ht, rfl, _, _, rfl, _, _, rfl, _, _, rfl, rfl, ?_⟩
      refine ⟨_, rfl, _, rfl, rfl, _, rfl, ?_⟩
      refine if2 (fun h => ?_) (fun h => ?_)
      · have hn : s.1 = n := V.str.inj h
        refine ⟨_, rfl, .inl ⟨rfl, _, .of ho⟩, _, rfl, _, _, rfl, rfl, _, rfl, _, _, rfl, rfl, RgOk.of_le (by omega) (by omega) (by omega) (by omega), fun r nr => ?_⟩
        have nro : o ≠ r := fun e => by rw [← e, ho] at nr; cases nr
        refine ⟨o, r, _, _, rfl, rfl, by rw [upd_ne nro]; exact ho, upd_same, ?_, ?_⟩
        · rw [rgV_length]
          unfold intV
          rw [List.length_map]
          have := pls_take_len n d i
          have h9 : (2000000 : Nat) < sizeLine := by decide
          omega
        · refine ⟨_, _, _, rfl, k.trans ((Keep.of (same_upd nr)).trans .upd), ?_⟩
          rw [upd_same, hsn, pls_snoc, if_pos hn, rgV_nat, ints_app]
      · have hn : ¬ s.1 = n := fun e => h (by rw [e])
        refine ⟨_, _, _, rfl, k, ?_⟩
        rw [ho, hsn, pls_snoc, if_neg hn, List.append_nil]
    · rintro σ H2 ⟨y3, y4, y5, rfl, k, ho⟩
      refine ⟨_, rfl, q H2 o (Keep.same (s0.trans s1) no k) no ?_⟩
      rw [ho]
      have : (ts.map V.ref).length = (secs 0 d).length := by rw [List.length_map, hl]
      rw [this, List.take_length, pls_secs]
end
end Wf

end
section
set_option maxHeartbeats 4000000
/-! W13: table_of, order_of. -/
namespace Wf
open PySem PySem.Spec PyProof.Rows L2 Wr
abbrev RT := Hp → T → List V → Prop
/-- tuples stay -/
def KT (H H' : Hp) : Prop := ∀ b ys, H b = some (.tup ys) → H' b = some (.tup ys)
theorem KT.of {H H' : Hp} (s : Same H H') : KT H H' := fun b ys e => s _ _ e
theorem KT.wr {H H' : Hp} {q : Addr} {o x : HO} (k : KT H H') (hq : H' q = some o) (ho : ∀ ys, o ≠ .tup ys) : KT H (upd H' q x) := fun b ys e => by
  have e2 := k b ys e
  rw [upd_ne (fun z => by rw [z, hq] at e2; exact ho ys (Option.some.inj e2))]
  exact e2
def Mono (R : RT) : Prop := ∀ H H' n xs, KT H H' → R H n xs → R H' n xs
/-- a dict of lists by names -/
structure Tab (H : Hp) (p : Addr) (kvs : List (Key × V)) (ns : T → Prop) (R : RT) : Prop where
  dc : H p = some (.dK kvs)
  has : ∀ n, ns n → ∃ q, valV kvs (.inr n : Key) = some (.ref q) ∧ ∃ xs, H q = some (.lst xs) ∧ R H n xs
  no : ∀ n, ¬ ns n → valV kvs (.inr n : Key) = none
  inj : ∀ n m q, valV kvs (.inr n : Key) = some (.ref q) → valV kvs (.inr m : Key) = some (.ref q) → n = m
section
variable {H H' : Hp} {p q : Addr} {kvs : List (Key × V)} {ns ns' : T → Prop} {R R' : RT} {n : T}
theorem Tab.same (t : Tab H p kvs ns R) (m : Mono R) (s : Same H H') : Tab H' p kvs ns R :=
  ⟨s _ _ t.dc, fun n hn => let ⟨q, h1, xs, h2, h3⟩ := t.has n hn; ⟨q, h1, xs, s _ _ h2, m _ _ _ _ (.of s) h3⟩, t.no, t.inj⟩
theorem Tab.wr {xs ys : List V} (t : Tab H p kvs ns R) (m : Mono R') (s : Same H H') (hv : valV kvs (.inr n : Key) = some (.ref q)) (hq : H q = some (.lst xs)) (hn : R' (upd H' q (.lst ys)) n ys) (ho : ∀ H k zs, k ≠ n → ns k → R H k zs → R' H k zs) : Tab (upd H' q (.lst ys)) p kvs ns R' := by
  have npq : p ≠ q := fun e => by have := t.dc; rw [e, hq] at this; cases this
  have kt : KT H (upd H' q (.lst ys)) := KT.wr (.of s) (s _ _ hq) (fun _ z => by cases z)
  refine ⟨by rw [upd_ne npq]; exact s _ _ t.dc, fun k hk => ?_, t.no, t.inj⟩
  obtain ⟨q', h1, zs, h2, h3⟩ := t.has k hk
  by_cases e : k = n
  · subst e
    rw [hv] at h1
    cases h1
    exact ⟨q, hv, ys, upd_same, hn⟩
  · have nq : q' ≠ q := fun z => e (t.inj k n q (by rw [← z]; exact h1) hv)
    exact ⟨q', h1, zs, by rw [upd_ne nq]; exact s _ _ h2, m _ _ _ _ kt (ho H k zs e hk h3)⟩
theorem Tab.ext (t : Tab H p kvs ns R) (h : ∀ n, ns' n ↔ ns n) : Tab H p kvs ns' R := ⟨t.dc, fun n hn => t.has n ((h n).mp hn), fun n hn => t.no n (fun z => hn ((h n).mpr z)), t.inj⟩
/-- d.setdefault(n, []): the name is there -/
theorem Tab.old {x : V} (t : Tab H p kvs ns R) (m : Mono R) (e : Addr) (he : H e = none) (hv : valV kvs (.inr n : Key) = some x) : ns n ∧ ∃ q xs, x = .ref q ∧ Tab (upd H e (.lst [])) p kvs ns R ∧ upd H e (.lst []) q = some (.lst xs) ∧ R (upd H e (.lst [])) n xs := by
  have hn : ns n := Classical.byContradiction fun z => by rw [t.no n z] at hv; cases hv
  obtain ⟨q, h1, xs, h2, h3⟩ := t.has n hn
  rw [hv] at h1
  cases h1
  exact ⟨hn, q, xs, rfl, t.same m (same_upd he), same_upd he _ _ h2, m _ _ _ _ (.of (same_upd he)) h3⟩
/-- .. it is not -/
theorem Tab.new (t : Tab H p kvs ns R) (m : Mono R) (e : Addr) (he : H e = none) (hr : ∀ H, R H n []) (hv : valV kvs (.inr n : Key) = none) :
    ¬ ns n ∧ Tab (upd (upd H e (.lst [])) p (.dK (putK kvs (.inr n) (.ref e)))) p (putK kvs (.inr n) (.ref e)) (fun k => ns k ∨ k = n) R ∧ upd (upd H e (.lst [])) p (.dK (putK kvs (.inr n) (.ref e))) e = some (.lst []) := by
  have nep : e ≠ p := fun z => by have := t.dc; rw [← z, he] at this; cases this
  have hee : upd (upd H e (.lst [])) p (.dK (putK kvs (.inr n) (.ref e))) e = some (.lst []) := by rw [upd_ne nep, upd_same]
  have kt : KT H (upd (upd H e (.lst [])) p (.dK (putK kvs (.inr n) (.ref e)))) := KT.wr (.of (same_upd he)) (same_upd he _ _ t.dc) (fun _ z => by cases z)
  have nn : ¬ ns n := fun z => by
    obtain ⟨q, h1, _⟩ := t.has n z
    rw [hv] at h1
    cases h1
  have eqv : ∀ k : T, ((Sum.inr k : Key) = Sum.inr n) ↔ k = n := fun k => ⟨fun z => Sum.inr.inj z, fun z => by rw [z]⟩
  have val : ∀ k : T, valV (putK kvs (.inr n : Key) (.ref e)) (.inr k : Key) = if k = n then some (.ref e) else valV kvs (.inr k : Key) := fun k => by
    rw [valV_put]
    by_cases z : k = n
    · rw [if_pos z, if_pos ((eqv k).mpr z)]
    · rw [if_neg z, if_neg (fun y => z ((eqv k).mp y))]
  have live : ∀ k q, valV kvs (.inr k : Key) = some (.ref q) → ∃ xs, H q = some (.lst xs) := fun k q hq => by
    have hk : ns k := Classical.byContradiction fun z => by rw [t.no k z] at hq; cases hq
    obtain ⟨q', h1, xs, h2, _⟩ := t.has k hk
    rw [hq] at h1
    cases h1
    exact ⟨xs, h2⟩
  refine ⟨nn, ⟨upd_same, fun k hk => ?_, fun k hk => ?_, fun k l q h1 h2 => ?_⟩, hee⟩
  · rw [val]
    by_cases z : k = n
    · rw [if_pos z, z]
      exact ⟨e, rfl, [], hee, hr _⟩
    · rw [if_neg z]
      obtain ⟨q, h1, xs, h2, h3⟩ := t.has k (hk.resolve_right z)
      have nq : q ≠ p := fun y => by have := t.dc; rw [← y, h2] at this; cases this
      exact ⟨q, h1, xs, by rw [upd_ne nq]; exact same_upd he _ _ h2, m _ _ _ _ kt h3⟩
  · rw [val, if_neg (fun z => hk (.inr z))]
    exact t.no k fun z => hk (.inl z)
  · rw [val] at h1 h2
    by_cases z1 : k = n
    · by_cases z2 : l = n
      · rw [z1, z2]
      · rw [if_pos z1] at h1
        rw [if_neg z2] at h2
        cases h1
        obtain ⟨xs, h3⟩ := live _ _ h2
        rw [he] at h3; cases h3
    · by_cases z2 : l = n
      · rw [if_neg z1] at h1
        rw [if_pos z2] at h2
        cases h2
        obtain ⟨xs, h3⟩ := live _ _ h1
        rw [he] at h3; cases h3
      · rw [if_neg z1] at h1
        rw [if_neg z2] at h2
        exact t.inj k l q h1 h2
end
/-- the names of sections -/
def inS (ss : List Sec) (n : T) : Prop := ∃ s ∈ ss, s.1 = n
theorem inS_snoc (ss : List Sec) (s : Sec) (n : T) : inS (ss ++ [s]) n ↔ inS ss n ∨ n = s.1 := by
  unfold inS
  constructor
  · rintro ⟨r, hr, e⟩
    rcases List.mem_append.mp hr with h | h
    · exact .inl ⟨r, h, e⟩
    · rw [List.mem_singleton.mp h] at e; exact .inr e.symm
  · rintro (⟨r, hr, e⟩ | e)
    · exact ⟨r, List.mem_append_left _ hr, e⟩
    · exact ⟨s, by simp, e.symm⟩
theorem pls_nil {ss : List Sec} {n : T} (h : ¬ inS ss n) : pls n ss = [] := by
  unfold pls
  rw [List.flatMap_eq_nil_iff]
  intro s hs
  rw [if_neg (fun e => h ⟨s, hs, e⟩)]
def rT (ss : List Sec) : RT := fun _ n xs => xs = intV (pls n ss)
theorem rT_mono (ss : List Sec) : Mono (rT ss) := fun _ _ _ _ _ h => h
/-- a table: from the names of the pieces to the indexes of their lines -/
def TabAt (H : Hp) (p : Addr) (d : List Ln) : Prop := ∃ kvs, kvs.length ≤ d.length ∧ Tab H p kvs (fun n => Ln.head n ∈ d) (fun _ n xs => xs = intV (plc n none 0 d))
theorem TabAt.same {H H' : Hp} {p : Addr} {d : List Ln} (h : TabAt H p d) (s : Same H H') : TabAt H' p d := let ⟨kvs, hl, t⟩ := h; ⟨kvs, hl, t.same (fun _ _ _ _ _ z => z) s⟩
abbrev s13 : Stmt := topS 13
theorem sc13 : FnScope ["document", "table", "name", "head", "end"] ["document"] (defScope s13) := ⟨rfl, rfl, rfl, by decide +kernel, rfl, by decide +kernel, by decide +kernel⟩
def sp13 : Sp := fun vs H Q _ => ∃ (a : Addr) (d : List Ln), vs = [.ref a] ∧ DocAt H a d ∧ okd none d ∧ d.length ≤ 1000000 ∧ ∀ H' p, Same H H' → H p = none → TabAt H' p d → Q (.ref p) H'
theorem put_len (kvs : List (Key × V)) (k : Key) (x : V) : (putK kvs k x).length ≤ kvs.length + 1 := length_putK kvs k x
section
variable {P : Program} {w : World} {K : PySem.W.Frag} {mg : Str → Option Value} {base : Heap}
theorem ok13 (T : Tx K mg) : Has P w K mg base CX0 2 "table_of" ["document"] sp13 := by
  obtain ⟨f, fd, F, g⟩ := T.df 3 _ rfl
  refine ⟨f, fd, ?_, g, F.kp, F.binds fun _ _ _ _ _ _ us hl => match us, hl with | [_], _ => rfl⟩
  refine Fun.ok F sc13 (fun vs H Q E h => ?_) (fun cdv A outer s H vs Q E hr h => ?_)
  · obtain ⟨a, d, rfl, _⟩ := h
    rfl
  · obtain ⟨a, d, rfl, hd, okD, hlen, q⟩ := h
    refine ⟨_, pss_cons (ps_set (i := 1) sc13.nd rfl (.inl rfl) pe_dnewK)
      (pss_cons (ps_for PassesOwn.never rfl (pi_list (pe_has (ok10 T) hr (by rfl) (pa_cons (pv 0) pa_nil))) (pg_tup rfl (pgs_cons (pg_name (i := 2) sc13.nd rfl (.inl rfl)) (pgs_cons (pg_name (i := 3) sc13.nd rfl (.inl rfl)) (pgs_cons (pg_name (i := 4) sc13.nd rfl (.inl rfl)) pgs_nil))))
        (pss_one (ps_expr (pe_bm PySem.F.plainAttrs_list PySem.F.slot_list_extend PySem.F.type_list_extend mt_extend (pe_dsetd (pv 1) (pv 2) (pe_lst pa_nil) ⟨rfl, rfl, rfl, rfl⟩)
            (pa_cons (pe_listRg rfl (by rfl) T.lst (prg_2 (by rfl) T.rng (pe_op op_add (pv 3) pe_int) (pv 4))) pa_nil)))))
      (pss_one (ps_ret (pv 1)))), ?_⟩
    intro o no
    have s0 := same_upd (o := .dK []) no
    refine ⟨_, rfl, a, d, rfl, hd.same s0, okD, hlen, fun H1 p s1 np hs => ?_⟩
    obtain ⟨ts, hp, hl⟩ := hs.lst
    have npo : p ≠ o := fun e => by rw [e, upd_same] at np; cases np
    have ho1 : H1 o = some (.dK []) := s1 _ _ upd_same
    -- what the loop changes: o, and lists that are new
    refine ⟨p, rfl, ⟨_, .of hp⟩, for_list (K := K) (a := p) (xs := ts.map V.ref) (fun i σ H2 => ∃ y2 y3 y4 kvs, σ = [some (.ref a), some (.ref o), y2, y3, y4] ∧ Keep o H1 H2 ∧ kvs.length ≤ i ∧ Tab H2 o kvs (inS ((secs 0 d).take i)) (rT ((secs 0 d).take i)) ∧ ∀ n q, valV kvs (.inr n : Key) = some (.ref q) → H1 q = none)
      ⟨none, none, none, [], rfl, Keep.of (Same.refl _), Nat.le_refl _, ⟨ho1, fun n hn => (by obtain ⟨_, h, _⟩ := hn; cases h), fun _ _ => rfl, fun _ _ _ h => (by cases h)⟩, fun _ _ h => (by cases h)⟩
      (fun i σ H2 _ ⟨_, _, _, _, _, k, _⟩ => .of (k _ _ npo hp)) ?_ ?_⟩
    · rintro i x σ H2 hi ⟨y2, y3, y4, kvs, rfl, k2, hkl, t, fr⟩
      obtain ⟨t1, s, rfl, hsi, ht⟩ := (hs.keepD k2 ho1 npo).at (k2 _ _ npo hp) hi
      have hsn : (secs 0 d).take (i + 1) = (secs 0 d).take i ++ [s] := by rw [List.take_add_one, hsi]; rfl
      have sb := sec_bound (List.mem_of_getElem? hsi)
      have il : i < (secs 0 d).length := (List.getElem?_eq_some_iff.mp hsi).1
      have dl := secs_len 0 d
      have hks : kvs.length < sizeLine := small7 (by omega)
      refine ⟨t1, _, rfl, .of ht, rfl, _, _, rfl, _, _, rfl, _, _, rfl, rfl, ?_⟩
      refine ⟨_, rfl, o, rfl, .inl ⟨kvs, .of t.dc⟩, _, rfl, Nat.zero_le _, fun e ne => ⟨kvs, .inr s.1, same_upd ne _ _ t.dc, rfl, hks, ?_⟩⟩
      -- behind the setdefault: q the list, H3 the heap
      have go : ∀ (H3 : Hp) (kvs3 : List (Key × V)) (q : Addr) (xs : List V), Keep o H1 H3 → H1 q = none → kvs3.length ≤ i + 1 → Tab H3 o kvs3 (inS ((secs 0 d).take (i + 1))) (rT ((secs 0 d).take i)) → (∀ n q, valV kvs3 (.inr n : Key) = some (.ref q) → H1 q = none) →
          valV kvs3 (.inr s.1 : Key) = some (.ref q) → H3 q = some (.lst xs) → rT ((secs 0 d).take i) H3 s.1 xs → tyV K "list" (.ref q) H3 ∧ ∃ i' j', V.int ((s.2.1 : Int) + 1) = .int i' ∧ V.int ((s.2.2 : Nat) : Int) = .int j' ∧ RgOk i' j' ∧ ∀ r, H3 r = none → ∃ (l b : Addr) (xs zs : List V), V.ref q = .ref l ∧ [V.ref r] = [.ref b] ∧ upd H3 r (.lst (rgV i' j')) l = some (.lst xs) ∧ upd H3 r (.lst (rgV i' j')) b = some (.lst zs) ∧ xs.length + zs.length ≤ sizeLine ∧
            ∃ y2 y3 y4 kvs, [some (V.ref a), some (V.ref o), some (V.str s.1), some (V.int ((s.2.1 : Nat) : Int)), some (V.int ((s.2.2 : Nat) : Int))] = [some (.ref a), some (.ref o), y2, y3, y4] ∧ Keep o H1 (upd (upd H3 r (.lst (rgV i' j'))) l (.lst (xs ++ zs))) ∧ kvs.length ≤ i + 1 ∧ Tab (upd (upd H3 r (.lst (rgV i' j'))) l (.lst (xs ++ zs))) o kvs (inS ((secs 0 d).take (i + 1))) (rT ((secs 0 d).take (i + 1))) ∧ ∀ n q, valV kvs (.inr n : Key) = some (.ref q) → H1 q = none := by
        intro H3 kvs3 q xs k3 nq hk3 t3 fr3 hv hq hR
        refine ⟨.inl ⟨rfl, _, .of hq⟩, _, _, rfl, rfl, RgOk.of_le (by omega) (by omega) (by omega) (by omega), fun r nr => ?_⟩
        have nqr : q ≠ r := fun e => by rw [← e, hq] at nr; cases nr
        have sr := same_upd (o := .lst (rgV ((s.2.1 : Int) + 1) ((s.2.2 : Nat) : Int))) nr
        refine ⟨q, r, xs, _, rfl, rfl, sr _ _ hq, upd_same, ?_, ?_⟩
        · rw [rgV_length, hR]
          unfold intV
          rw [List.length_map]
          have := pls_take_len s.1 d i
          have h9 : (2000000 : Nat) < sizeLine := by decide
          omega
        · refine ⟨_, _, _, kvs3, rfl, fun b x hb e => ?_, hk3, ?_, fr3⟩
          · rw [upd_ne (ne_of_none e nq)]
            exact sr _ _ (k3 b x hb e)
          refine t3.wr (rT_mono _) sr hv hq ?_ (fun H k zs hk _ hz => ?_)
          · show _ = intV (pls s.1 ((secs 0 d).take (i + 1)))
            rw [hsn, pls_snoc, if_pos rfl, ints_app, rgV_nat, hR]
          · show _ = intV (pls k ((secs 0 d).take (i + 1)))
            rw [hsn, pls_snoc, if_neg (fun e => hk e.symm), List.append_nil]
            exact hz
      refine ⟨fun v hv => ?_, fun hv => ?_⟩
      · obtain ⟨hin, q, xs, rfl, t3, hq, hR⟩ := t.old (rT_mono _) e ne hv
        have h1q := fr _ _ hv
        have se := same_upd (o := .lst []) ne
        obtain ⟨g1, i', j', e1, e2, g2, g3⟩ := go _ kvs q xs (k2.trans (Keep.of se)) h1q (by omega) (t3.ext fun n => by
          rw [hsn, inS_snoc]
          exact ⟨fun z => z.elim id fun z => z ▸ hin, .inl⟩) fr hv hq hR
        cases e1; cases e2
        exact ⟨g1, _, rfl, _, _, rfl, rfl, _, rfl, _, _, rfl, rfl, g2, g3⟩
      · obtain ⟨hni, t3, hq⟩ := t.new (rT_mono _) e ne (fun H => by
          show [] = intV (pls s.1 ((secs 0 d).take i))
          rw [pls_nil (fun z => by
            obtain ⟨q, h1, _⟩ := t.has _ z
            rw [hv] at h1; cases h1)]
          rfl) hv
        have se := same_upd (o := .lst []) ne
        have h1e : H1 e = none := by
          cases z : H1 e with
          | none => rfl
          | some x =>
            have neo : e ≠ o := fun y => by rw [y, t.dc] at ne; cases ne
            rw [k2 e x neo z] at ne; cases ne
        have kp : Keep o H2 (upd (upd H2 e (.lst [])) o (.dK (putK kvs (.inr s.1) (.ref e)))) := (Keep.of se).trans .upd
        obtain ⟨g1, i', j', e1, e2, g2, g3⟩ := go _ (putK kvs (.inr s.1) (.ref e)) e [] (k2.trans kp) h1e (Nat.le_trans (put_len _ _ _) (by omega)) (t3.ext fun n => by rw [hsn, inS_snoc]) (fun n q hq => by
          rw [valV_put] at hq
          by_cases z : (Sum.inr n : Key) = Sum.inr s.1
          · rw [if_pos z] at hq; cases hq; exact h1e
          · rw [if_neg z] at hq; exact fr n q hq) (by rw [valV_put, if_pos rfl]) hq (by
          show [] = intV (pls s.1 ((secs 0 d).take i))
          rw [pls_nil hni]; rfl)
        cases e1; cases e2
        exact ⟨g1, _, rfl, _, _, rfl, rfl, _, rfl, _, _, rfl, rfl, g2, g3⟩
    · rintro σ H2 ⟨y2, y3, y4, kvs, rfl, k2, hkl, t, fr⟩
      refine ⟨_, rfl, q H2 o (Keep.same (s0.trans s1) no k2) no ⟨kvs, ?_, ?_⟩⟩
      · have := secs_len 0 d
        rw [List.length_map, hl] at hkl
        omega
      · have e1 : (secs 0 d).take (ts.map V.ref).length = secs 0 d := by rw [List.length_map, hl, List.take_length]
        rw [e1] at t
        refine ⟨t.dc, fun n hn => ?_, fun n hn => t.no n fun z => hn ((secs_head_mem n 0 d).mp z), t.inj⟩
        obtain ⟨q', h1, xs, h2, h3⟩ := t.has n ((secs_head_mem n 0 d).mpr hn)
        refine ⟨q', h1, xs, h2, ?_⟩
        rw [← pls_secs]
        exact h3
end
end Wf

end
section
set_option maxHeartbeats 4000000
/-! W26: order_of. -/
namespace Wf
open PySem PySem.Spec PyProof.Rows L2 Wr
theorem cutV_nat (xs : List V) {i j : Nat} (hi : i ≤ xs.length) (hj : j ≤ xs.length) : cutV xs (some ((i : Nat) : Int)) (some ((j : Nat) : Int)) = (xs.drop i).take (j - i) := by
  unfold cutV
  rw [HT.sIx_nat, HT.sIx_nat, Nat.min_eq_left hi, Nat.min_eq_left hj]
/-- the contents of the sections of a piece -/
def ctS (d : List Ln) (n : T) (ss : List Sec) : List (List Ln) := ss.flatMap fun s => if s.1 = n then [(d.drop (s.2.1 + 1)).take (s.2.2 - (s.2.1 + 1))] else []
theorem ctS_snoc (d : List Ln) (n : T) (ss : List Sec) (s : Sec) : ctS d n (ss ++ [s]) = ctS d n ss ++ (if s.1 = n then [(d.drop (s.2.1 + 1)).take (s.2.2 - (s.2.1 + 1))] else []) := by
  unfold ctS
  rw [List.flatMap_append]
  simp
theorem ctS_nil {d : List Ln} {ss : List Sec} {n : T} (h : ¬ inS ss n) : ctS d n ss = [] := by
  unfold ctS
  rw [List.flatMap_eq_nil_iff]
  intro s hs
  rw [if_neg (fun e => h ⟨s, hs, e⟩)]
theorem take_tw (r : List Ln) : r.take (tw r).length = tw r := by
  obtain ⟨y, ey, _⟩ := tw_prefix r
  have e : r.take (tw r).length = (tw r ++ y).take (tw r).length := by rw [← ey]
  rw [e, List.take_left]
theorem ctS_secs (n : T) : ∀ (a : Nat) (d D : List Ln), D.drop a = d → ctS D n (secs a d) = cts n d := by
  intro a d
  induction d generalizing a with
  | nil => intro D _; rfl
  | cons l r ih =>
    intro D h
    have h1 : D.drop (a + 1) = r := by rw [← List.drop_drop, h]; rfl
    cases l with
    | head m =>
      show (if m = n then [(D.drop (a + 1)).take (a + 1 + (tw r).length - (a + 1))] else []) ++ ctS D n (secs (a + 1) r) = if m = n then tw r :: cts n r else cts n r
      rw [ih (a + 1) D h1, h1, show a + 1 + (tw r).length - (a + 1) = (tw r).length by omega, take_tw]
      by_cases e : m = n
      · rw [if_pos e, if_pos e]; rfl
      · rw [if_neg e, if_neg e]; rfl
    | prose t => exact ih (a + 1) D h1
    | use i m => exact ih (a + 1) D h1
    | code t => exact ih (a + 1) D h1
theorem ctS_len (d : List Ln) (n : T) (ss : List Sec) : (ctS d n ss).length ≤ ss.length := by
  induction ss with
  | nil => exact Nat.le_refl _
  | cons s r ih =>
    show ((if s.1 = n then [_] else []) ++ ctS d n r).length ≤ r.length + 1
    rw [List.length_append]
    split <;> simp <;> omega
def rO (d : List Ln) (ss : List Sec) : RT := fun H n xs => ∃ ts : List Addr, xs = ts.map V.ref ∧ Paired (DocAt H) ts (ctS d n ss)
theorem DocAt.kt {H H' : Hp} (k : KT H H') {a : Addr} {d : List Ln} (h : DocAt H a d) : DocAt H' a d := let ⟨ls, h1, h2⟩ := h; ⟨ls, k _ _ h1, Paired.mono (fun _ _ z => k _ _ z) h2⟩
theorem rO_mono (d : List Ln) (ss : List Sec) : Mono (rO d ss) := fun _ _ _ _ k ⟨ts, h1, h2⟩ => ⟨ts, h1, Paired.mono (fun _ _ z => z.kt k) h2⟩
/-- a table: from the names of the pieces, in the order of their first heads, to the contents of their sections -/
def OrdAt (H : Hp) (p : Addr) (d : List Ln) : Prop := ∃ kvs, kvs.map (·.1) = (ddp (nms d)).map (fun n => (Sum.inr n : Key)) ∧ Tab H p kvs (fun n => Ln.head n ∈ d) (fun H n xs => ∃ ts : List Addr, xs = ts.map V.ref ∧ Paired (DocAt H) ts (cts n d))
theorem OrdAt.same {H H' : Hp} {p : Addr} {d : List Ln} (h : OrdAt H p d) (s : Same H H') : OrdAt H' p d := let ⟨kvs, hl, t⟩ := h; ⟨kvs, hl, t.same (fun _ _ _ _ k ⟨ts, h1, h2⟩ => ⟨ts, h1, Paired.mono (fun _ _ z => z.kt k) h2⟩) s⟩
abbrev s26 : Stmt := topS 26
theorem sc26 : FnScope ["document", "found", "name", "head", "end"] ["document"] (defScope s26) := ⟨rfl, rfl, rfl, by decide +kernel, rfl, by decide +kernel, by decide +kernel⟩
def sp26 : Sp := fun vs H Q _ => ∃ (a : Addr) (d : List Ln), vs = [.ref a] ∧ DocAt H a d ∧ okd none d ∧ d.length ≤ 1000000 ∧ ∀ H' p, Same H H' → H p = none → OrdAt H' p d → Q (.ref p) H'
section
variable {P : Program} {w : World} {K : PySem.W.Frag} {mg : Str → Option Value} {base : Heap}
theorem ok26 (T : Tx K mg) : Has P w K mg base CX0 2 "order_of" ["document"] sp26 := by
  obtain ⟨f, fd, F, g⟩ := T.df 15 _ rfl
  refine ⟨f, fd, ?_, g, F.kp, F.binds fun _ _ _ _ _ _ us hl => match us, hl with | [_], _ => rfl⟩
  refine Fun.ok F sc26 (fun vs H Q E h => ?_) (fun cdv A outer s H vs Q E hr h => ?_)
  · obtain ⟨a, d, rfl, _⟩ := h
    rfl
  · obtain ⟨a, d, rfl, hd, okD, hlen, q⟩ := h
    obtain ⟨ls, hla, hls⟩ := id hd
    have hll := len_ls hls
    refine ⟨_, pss_cons (ps_set (i := 1) sc26.nd rfl (.inl rfl) pe_dnewK)
      (pss_cons (ps_for PassesOwn.never rfl (pi_list (pe_has (ok10 T) hr (by rfl) (pa_cons (pv 0) pa_nil))) (pg_tup rfl (pgs_cons (pg_name (i := 2) sc26.nd rfl (.inl rfl)) (pgs_cons (pg_name (i := 3) sc26.nd rfl (.inl rfl)) (pgs_cons (pg_name (i := 4) sc26.nd rfl (.inl rfl)) pgs_nil))))
        (pss_one (ps_expr (pe_bm PySem.F.plainAttrs_list PySem.F.slot_list_append PySem.F.type_list_append mt_append (pe_dsetd (pv 1) (pv 2) (pe_lst pa_nil) ⟨rfl, rfl, rfl, rfl⟩)
            (pa_cons (pe_slice sl_tup (pv 0) (po_some (pe_op op_add (pv 3) pe_int)) (po_some (pv 4))) pa_nil)))))
      (pss_one (ps_ret (pv 1)))), ?_⟩
    intro o no
    have s0 := same_upd (o := .dK []) no
    refine ⟨_, rfl, a, d, rfl, hd.same s0, okD, hlen, fun H1 p s1 np hs => ?_⟩
    obtain ⟨ts, hp, hl⟩ := hs.lst
    have npo : p ≠ o := fun e => by rw [e, upd_same] at np; cases np
    have ho1 : H1 o = some (.dK []) := s1 _ _ upd_same
    -- what the loop changes: o, and lists that are new
    refine ⟨p, rfl, ⟨_, .of hp⟩, for_list (K := K) (a := p) (xs := ts.map V.ref) (fun i σ H2 => ∃ y2 y3 y4 kvs, σ = [some (.ref a), some (.ref o), y2, y3, y4] ∧ Keep o H1 H2 ∧ kvs.map (·.1) = (ddp ((nms d).take i)).map (fun n => (Sum.inr n : Key)) ∧ Tab H2 o kvs (inS ((secs 0 d).take i)) (rO d ((secs 0 d).take i)) ∧ ∀ n q, valV kvs (.inr n : Key) = some (.ref q) → H1 q = none)
      ⟨none, none, none, [], rfl, Keep.of (Same.refl _), rfl, ⟨ho1, fun n hn => (by obtain ⟨_, h, _⟩ := hn; cases h), fun _ _ => rfl, fun _ _ _ h => (by cases h)⟩, fun _ _ h => (by cases h)⟩
      (fun i σ H2 _ ⟨_, _, _, _, _, k, _⟩ => .of (k _ _ npo hp)) ?_ ?_⟩
    · rintro i x σ H2 hi ⟨y2, y3, y4, kvs, rfl, k2, hkl, t, fr⟩
      obtain ⟨t1, s, rfl, hsi, ht⟩ := (hs.keepD k2 ho1 npo).at (k2 _ _ npo hp) hi
      have hsn : (secs 0 d).take (i + 1) = (secs 0 d).take i ++ [s] := by rw [List.take_add_one, hsi]; rfl
      have sb := sec_bound (List.mem_of_getElem? hsi)
      have il : i < (secs 0 d).length := (List.getElem?_eq_some_iff.mp hsi).1
      have dl := secs_len 0 d
      have hks : kvs.length < sizeLine := by
        have h1 := congrArg List.length hkl
        rw [List.length_map, List.length_map] at h1
        have h2 := ddp_len ((nms d).take i)
        rw [List.length_take] at h2
        exact small7 (by omega)
      refine ⟨t1, _, rfl, .of ht, rfl, _, _, rfl, _, _, rfl, _, _, rfl, rfl, ?_⟩
      refine ⟨_, rfl, o, rfl, .inl ⟨kvs, .of t.dc⟩, _, rfl, Nat.zero_le _, fun e ne => ⟨kvs, .inr s.1, same_upd ne _ _ t.dc, rfl, hks, ?_⟩⟩
      -- behind the setdefault: q the list, H3 the heap
      have hnm : (nms d)[i]? = some s.1 := by unfold nms; rw [List.getElem?_map, hsi]; rfl
      have hnn : (nms d).take (i + 1) = (nms d).take i ++ [s.1] := by rw [List.take_add_one, hnm]; rfl
      have inm : ∀ n, inS ((secs 0 d).take i) n ↔ n ∈ ddp ((nms d).take i) := fun n => by
        rw [ddp_mem]
        unfold inS nms
        rw [← List.map_take, List.mem_map]
      have hC : cutV (ls.map V.ref) (some ((s.2.1 : Int) + 1)) (some ((s.2.2 : Nat) : Int)) = ((ls.drop (s.2.1 + 1)).take (s.2.2 - (s.2.1 + 1))).map V.ref := by
        rw [show ((s.2.1 : Int) + 1) = ((s.2.1 + 1 : Nat) : Int) by omega, cutV_nat _ (by rw [hll]; omega) (by rw [hll]; omega), List.map_take, List.map_drop]
      have hne : ¬ (HT.sIx (ls.map V.ref).length 0 (some ((s.2.1 : Int) + 1)) = 0 ∧ HT.sIx (ls.map V.ref).length (ls.map V.ref).length (some ((s.2.2 : Nat) : Int)) = (ls.map V.ref).length) := fun z => by
        have z1 := z.1
        rw [show ((s.2.1 : Int) + 1) = ((s.2.1 + 1 : Nat) : Int) by omega, HT.sIx_nat, hll] at z1
        omega
      have go : ∀ (H3 : Hp) (kvs3 : List (Key × V)) (q : Addr) (xs : List V), Keep o H1 H3 → H1 q = none → kvs3.map (·.1) = (ddp ((nms d).take (i + 1))).map (fun n => (Sum.inr n : Key)) → Tab H3 o kvs3 (inS ((secs 0 d).take (i + 1))) (rO d ((secs 0 d).take i)) → (∀ n q, valV kvs3 (.inr n : Key) = some (.ref q) → H1 q = none) →
          valV kvs3 (.inr s.1 : Key) = some (.ref q) → H3 q = some (.lst xs) → rO d ((secs 0 d).take i) H3 s.1 xs → tyV K "list" (.ref q) H3 ∧ SqT K H3 a (ls.map V.ref) ∧ ∀ r, H3 r = none → ∃ (l : Addr) (xs : List V) (y : V), V.ref q = .ref l ∧ [V.ref r] = [y] ∧ upd H3 r (.tup (cutV (ls.map V.ref) (some ((s.2.1 : Int) + 1)) (some ((s.2.2 : Nat) : Int)))) l = some (.lst xs) ∧ xs.length < sizeLine ∧
            ∃ y2 y3 y4 kvs, [some (V.ref a), some (V.ref o), some (V.str s.1), some (V.int ((s.2.1 : Nat) : Int)), some (V.int ((s.2.2 : Nat) : Int))] = [some (.ref a), some (.ref o), y2, y3, y4] ∧ Keep o H1 (upd (upd H3 r (.tup (cutV (ls.map V.ref) (some ((s.2.1 : Int) + 1)) (some ((s.2.2 : Nat) : Int))))) l (.lst (xs ++ [y]))) ∧
              kvs.map (·.1) = (ddp ((nms d).take (i + 1))).map (fun n => (Sum.inr n : Key)) ∧ Tab (upd (upd H3 r (.tup (cutV (ls.map V.ref) (some ((s.2.1 : Int) + 1)) (some ((s.2.2 : Nat) : Int))))) l (.lst (xs ++ [y]))) o kvs (inS ((secs 0 d).take (i + 1))) (rO d ((secs 0 d).take (i + 1))) ∧ ∀ n q, valV kvs (.inr n : Key) = some (.ref q) → H1 q = none := by
        intro H3 kvs3 q xs k3 nq hk3 t3 fr3 hv hq hR
        rw [hC]
        have ha1 : H1 a = some (.tup (ls.map V.ref)) := (s0.trans s1) _ _ hla
        have hao : a ≠ o := fun e => by rw [e, ho1] at ha1; cases ha1
        refine ⟨.inl ⟨rfl, _, .of hq⟩, .of (k3 _ _ hao ha1), fun r nr => ?_⟩
        have nqr : q ≠ r := fun e => by rw [← e, hq] at nr; cases nr
        have sr := same_upd (o := .tup (((ls.drop (s.2.1 + 1)).take (s.2.2 - (s.2.1 + 1))).map V.ref)) nr
        obtain ⟨us, rfl, hus⟩ := hR
        refine ⟨q, _, _, rfl, rfl, sr _ _ hq, ?_, ?_⟩
        · rw [List.length_map, Paired.length hus]
          have := ctS_len d s.1 ((secs 0 d).take i)
          rw [List.length_take] at this
          exact small7 (by omega)
        · have kt : KT H3 (upd (upd H3 r (.tup (((ls.drop (s.2.1 + 1)).take (s.2.2 - (s.2.1 + 1))).map V.ref))) q (.lst (us.map V.ref ++ [.ref r]))) := KT.wr (.of sr) (sr _ _ hq) (fun _ z => by cases z)
          have s3 : Same H H1 := s0.trans s1
          have kl : ∀ (p : Addr) (l : Ln), At H p l → At H3 p l := fun p l z => k3 _ _ (fun e => by have z' : H1 p = _ := s3 _ _ z; rw [e, ho1] at z'; cases z') (s3 _ _ z)
          refine ⟨_, _, _, kvs3, rfl, fun b x hb e => ?_, hk3, ?_, fr3⟩
          · rw [upd_ne (ne_of_none e nq)]
            exact sr _ _ (k3 b x hb e)
          refine t3.wr (rO_mono _ _) sr hv hq ?_ (fun H k zs hk _ hz => ?_)
          · refine ⟨us ++ [r], by rw [List.map_append]; rfl, ?_⟩
            rw [hsn, ctS_snoc, if_pos rfl]
            refine Paired.snoc (Paired.mono (fun _ _ z => z.kt kt) hus) ⟨(ls.drop (s.2.1 + 1)).take (s.2.2 - (s.2.1 + 1)), ?_, ?_⟩
            · rw [upd_ne nqr.symm, upd_same]
            · exact Paired.mono (fun p l z => kt _ _ (kl p l z)) (Paired.tk _ (Paired.dp _ hls))
          · obtain ⟨vs, e1, e2⟩ := hz
            refine ⟨vs, e1, ?_⟩
            rw [hsn, ctS_snoc, if_neg (fun e => hk e.symm), List.append_nil]
            exact e2
      refine ⟨fun v hv => ?_, fun hv => ?_⟩
      · obtain ⟨hin, q, xs, rfl, t3, hq, hR⟩ := t.old (rO_mono _ _) e ne hv
        have h1q := fr _ _ hv
        have se := same_upd (o := .lst []) ne
        obtain ⟨g1, g2, g3⟩ := go _ kvs q xs (k2.trans (Keep.of se)) h1q (by rw [hkl, hnn, ddp_snoc, if_pos ((inm _).mp hin)]) (t3.ext fun n => by
          rw [hsn, inS_snoc]
          exact ⟨fun z => z.elim id fun z => z ▸ hin, .inl⟩) fr hv hq hR
        exact ⟨g1, _, rfl, _, rfl, _, _, rfl, rfl, _, rfl, _, rfl, _, rfl, a, _, rfl, g2, hne, g3⟩
      · obtain ⟨hni, t3, hq⟩ := t.new (rO_mono _ _) e ne (fun H => by
          refine ⟨[], rfl, ?_⟩
          rw [ctS_nil (fun z => by
            obtain ⟨q, h1, _⟩ := t.has _ z
            rw [hv] at h1; cases h1)]
          exact .nil) hv
        have se := same_upd (o := .lst []) ne
        have h1e : H1 e = none := by
          cases z : H1 e with
          | none => rfl
          | some x =>
            have neo : e ≠ o := fun y => by rw [y, t.dc] at ne; cases ne
            rw [k2 e x neo z] at ne; cases ne
        have kp : Keep o H2 (upd (upd H2 e (.lst [])) o (.dK (putK kvs (.inr s.1) (.ref e)))) := (Keep.of se).trans .upd
        obtain ⟨g1, g2, g3⟩ := go _ (putK kvs (.inr s.1) (.ref e)) e [] (k2.trans kp) h1e (by
          rw [putK_new _ hv, List.map_append, hkl, hnn, ddp_snoc, if_neg (fun z => hni ((inm _).mpr z)), List.map_append]; rfl) (t3.ext fun n => by rw [hsn, inS_snoc]) (fun n q hq => by
          rw [valV_put] at hq
          by_cases z : (Sum.inr n : Key) = Sum.inr s.1
          · rw [if_pos z] at hq; cases hq; exact h1e
          · rw [if_neg z] at hq; exact fr n q hq) (by rw [valV_put, if_pos rfl]) hq ⟨[], rfl, by rw [ctS_nil hni]; exact .nil⟩
        exact ⟨g1, _, rfl, _, rfl, _, _, rfl, rfl, _, rfl, _, rfl, _, rfl, a, _, rfl, g2, hne, g3⟩
    · rintro σ H2 ⟨y2, y3, y4, kvs, rfl, k2, hkl, t, fr⟩
      refine ⟨_, rfl, q H2 o (Keep.same (s0.trans s1) no k2) no ⟨kvs, ?_, ?_⟩⟩
      · rw [hkl]
        have : (ts.map V.ref).length = (nms d).length := by unfold nms; rw [List.length_map, List.length_map, hl]
        rw [this, List.take_length]
      · have e1 : (secs 0 d).take (ts.map V.ref).length = secs 0 d := by rw [List.length_map, hl, List.take_length]
        rw [e1] at t
        refine ⟨t.dc, fun n hn => ?_, fun n hn => t.no n fun z => hn ((secs_head_mem n 0 d).mp z), t.inj⟩
        obtain ⟨q', h1, xs, h2, us, h3, h4⟩ := t.has n ((secs_head_mem n 0 d).mpr hn)
        refine ⟨q', h1, xs, h2, us, h3, ?_⟩
        rw [ctS_secs n 0 d d rfl] at h4
        exact h4
end
end Wf

end
section

/-! WM3: texts: blanks, names, what reads as a reference, what is written. -/
namespace Wf
open PySem PySem.Spec PyProof.Rows L2 Wr
abbrev S (l : List Nat) : T := ⟨l.toArray⟩
theorem tlS (l : List Nat) : TL.tl (S l) = l := rfl
def lead (t : T) : Nat := ((TL.tl t).takeWhile (· == 32)).length
def lst (t : T) : T := S ((TL.tl t).dropWhile (· == 32))
theorem contains32 : (#[32] : Array Nat).contains = fun c => c == 32 := by
  funext c
  simp [Array.contains, Bool.eq_iff_iff, eq_comm]
theorem lstrip_eq (t : T) : Txt.lstripChars t (Str.ofString " ") = lst t := by
  rw [sp_eq]
  unfold Txt.lstripChars
  rw [stripBy_eq, contains32]
  apply TL.ext_tl
  rw [TL.tl_strSub]
  show ((TL.tl t).drop (PySem.stripLo (fun c => c == 32) true t)).take (PySem.stripHi (fun c => c == 32) false t _ - _) = _
  have h1 : PySem.stripLo (fun c => c == 32) true t = ((TL.tl t).takeWhile (· == 32)).length := by
    simp only [PySem.stripLo, if_true]
  have h2 : ∀ lo, PySem.stripHi (fun c => c == 32) false t lo = t.length := fun lo => by
    simp [PySem.stripHi]
  rw [h2, h1, TL.len_tl, lst, tlS]
  have e : (TL.tl t).drop ((TL.tl t).takeWhile (· == 32)).length = (TL.tl t).dropWhile (· == 32) := by
    conv => lhs; rw [show TL.tl t = (TL.tl t).takeWhile (· == 32) ++ (TL.tl t).dropWhile (· == 32) from (List.takeWhile_append_dropWhile).symm]
    have : ((TL.tl t).takeWhile (· == 32) ++ (TL.tl t).dropWhile (· == 32)).takeWhile (· == 32) = (TL.tl t).takeWhile (· == 32) := by rw [List.takeWhile_append_dropWhile]
    rw [this, List.drop_left]
  rw [e]
  apply List.take_of_length_le
  have : (TL.tl t).length = ((TL.tl t).takeWhile (· == 32)).length + ((TL.tl t).dropWhile (· == 32)).length := by
    rw [← List.length_append, List.takeWhile_append_dropWhile]
  show ((TL.tl t).dropWhile (· == 32)).length ≤ (TL.tl t).length - ((TL.tl t).takeWhile (· == 32)).length
  omega
theorem lead_lst (t : T) : spaces (lead t) ++ lst t = t := by
  apply TL.ext_tl
  show (spaces (lead t) ++ lst t).cps.toList = _
  rw [app_toList, spaces_toList]
  show List.replicate ((TL.tl t).takeWhile (· == 32)).length 32 ++ (TL.tl t).dropWhile (· == 32) = TL.tl t
  have : List.replicate ((TL.tl t).takeWhile (· == 32)).length 32 = (TL.tl t).takeWhile (· == 32) := by
    symm
    rw [List.eq_replicate_iff]
    refine ⟨rfl, fun b hb => ?_⟩
    have := List.all_eq_true.mp (List.all_takeWhile (l := TL.tl t) (p := (· == 32))) b hb
    simpa using this
  rw [this, List.takeWhile_append_dropWhile]
theorem lst_sp (n : Nat) (t : T) : lst (spaces n ++ t) = lst t := by
  unfold lst
  have : TL.tl (spaces n ++ t) = List.replicate n 32 ++ TL.tl t := app_toList _ _
  rw [this]
  congr 1
  rw [List.dropWhile_append_of_pos]
  intro a ha
  rw [List.eq_of_mem_replicate ha]; rfl
theorem len_app (a b : T) : (a ++ b).length = a.length + b.length := by rw [TL.len_tl, TL.len_tl, TL.len_tl, TL.tl_append, List.length_append]
theorem len_sp (n : Nat) : (spaces n).length = n := by rw [TL.len_tl]; show (List.replicate n 32).length = n; rw [List.length_replicate]
theorem len_lst (t : T) : t.length = lead t + (lst t).length := by
  conv => lhs; rw [← lead_lst t]
  rw [len_app, len_sp]
theorem lead_le (t : T) : lead t ≤ t.length := by rw [len_lst t]; omega
theorem eq_mt (t : T) : t = mt ↔ t.length = 0 := by
  constructor
  · intro h; rw [h]; rfl
  · intro h; rw [TL.len_tl] at h; exact TL.ext_tl (List.eq_nil_of_length_eq_zero h)
theorem empty_eq : (Str.ofString "" : Str) = mt := by decide +kernel
/-- the text without its first n signs -/
def cut0 (n : Nat) (t : T) : T := cutS t (some ((n : Nat) : Int)) none
theorem tl_cut0 (n : Nat) (t : T) : TL.tl (cut0 n t) = (TL.tl t).drop n := by
  unfold cut0 cutS
  rw [tlS, HT.sIx_nat, HT.sIx_none]
  have h : t.cps.toList.length = t.length := (TL.len_tl t).symm
  by_cases hn : n ≤ t.length
  · rw [Nat.min_eq_left hn]
    apply List.take_of_length_le
    rw [List.length_drop]; omega
  · rw [Nat.min_eq_right (by omega), List.drop_eq_nil_of_le (by rw [h]; exact Nat.le_refl _), List.drop_eq_nil_of_le (by rw [h]; omega), List.take_nil]
theorem cut0_sp {n : Nat} {t : T} (h : n ≤ lead t) : spaces n ++ cut0 n t = t := by
  apply TL.ext_tl
  rw [TL.tl_append, tl_cut0]
  show List.replicate n 32 ++ _ = _
  have e : (TL.tl t).take n = List.replicate n 32 := by
    have h2 : TL.tl t = List.replicate (lead t) 32 ++ TL.tl (lst t) := by
      conv => lhs; rw [← lead_lst t]
      exact app_toList _ _
    rw [h2, List.take_append_of_le_length (by rw [List.length_replicate]; exact h), List.take_replicate, Nat.min_eq_left h]
  rw [← e, List.take_append_drop]
theorem lst_cut0 {n : Nat} {t : T} (h : n ≤ lead t) : lst (cut0 n t) = lst t := by
  conv => rhs; rw [← cut0_sp h]
  rw [lst_sp]
theorem cut0_len {n : Nat} {t : T} (h : n ≤ t.length) : (cut0 n t).length = t.length - n := by
  rw [TL.len_tl, tl_cut0, List.length_drop, ← TL.len_tl]
/-! ### names -/
def nameSign (c : Nat) : Bool := Txt.isalnum (S [c]) || decide (c ∈ TL.tl (Str.ofString "-_."))
def isName (t : T) : Bool := decide (1 ≤ t.length) && (decide (t.length ≤ 20) && (TL.tl t).all nameSign)
theorem isName_len {t : T} (h : isName t = true) : 1 ≤ t.length ∧ t.length ≤ 20 ∧ ∀ c ∈ TL.tl t, nameSign c = true := by
  unfold isName at h
  simp only [Bool.and_eq_true, decide_eq_true_eq, List.all_eq_true] at h
  exact ⟨h.1, h.2.1, h.2.2⟩
/-! ### what reads as a reference -/
def first1 (r : T) : T := cutS r none (some 1)
def last1 (r : T) : T := cutS r (some (-1)) none
def mid1 (r : T) : T := cutS r (some 1) (some (-1))
def useR (r : T) : Bool := decide (first1 r = Str.ofString "<") && (decide (last1 r = Str.ofString ">") && isName (mid1 r))
/-- a text of a line of code -/
def CodeOk (t : T) : Prop := useR (lst t) = false ∧ 10 ∉ TL.tl t
theorem CodeOk.sh {t : T} (h : CodeOk t) (i : Int) : CodeOk (shT i t) := by
  unfold shT
  by_cases e : t = mt
  · rw [if_pos e]; exact h
  · rw [if_neg e]
    refine ⟨by rw [lst_sp]; exact h.1, fun z => ?_⟩
    rw [TL.tl_append] at z
    rcases List.mem_append.mp z with z | z
    · exact absurd (List.eq_of_mem_replicate z) (by decide)
    · exact h.2 z
theorem CodeOk.cut {t : T} (h : CodeOk t) {n : Nat} (hn : n ≤ lead t) : CodeOk (cut0 n t) :=
  ⟨by rw [lst_cut0 hn]; exact h.1, fun z => h.2 (by rw [tl_cut0] at z; exact List.mem_of_mem_drop z)⟩
theorem code_S : (Str.ofString "|" : Str) = S [124] ∧ (Str.ofString "= " : Str) = S [61, 32] ∧ (Str.ofString "<" : Str) = S [60] ∧ (Str.ofString ">" : Str) = S [62] ∧ (Str.ofString "=" : Str) = S [61] ∧ (Str.ofString "\n" : Str) = S [10] := by decide +kernel
/-- < name > -/
def brk (n : T) : T := S ([60] ++ TL.tl n ++ [62])
theorem cutS_tl (z : T) (a b : Option Int) : TL.tl (cutS z a b) = ((TL.tl z).drop (HT.sIx z.length 0 a)).take (HT.sIx z.length z.length b - HT.sIx z.length 0 a) := rfl
theorem useR_brk {n : T} (h : isName n = true) : useR (brk n) = true ∧ mid1 (brk n) = n := by
  obtain ⟨_, _, e3, e4, _, _⟩ := code_S
  have hl : (brk n).length = n.length + 2 := by rw [TL.len_tl, brk, tlS]; simp [TL.len_tl]
  have m : mid1 (brk n) = n := by
    apply TL.ext_tl
    unfold mid1
    rw [cutS_tl, hl, show (some (1 : Int)) = some ((1 : Nat) : Int) from rfl, HT.sIx_nat]
    have : HT.sIx (n.length + 2) (n.length + 2) (some (-1)) = n.length + 1 := by
      show (if (-1 : Int) < 0 then ((-1 : Int) + ((n.length + 2 : Nat) : Int)).toNat else min (-1 : Int).toNat (n.length + 2)) = n.length + 1
      rw [if_pos (by decide)]; omega
    rw [this, Nat.min_eq_left (by omega), brk, tlS]
    show (([60] ++ TL.tl n ++ [62]).drop 1).take (n.length + 1 - 1) = _
    rw [Nat.add_sub_cancel, TL.len_tl]
    show (TL.tl n ++ [62]).take (TL.tl n).length = _
    rw [List.take_left]
  refine ⟨?_, m⟩
  unfold useR
  rw [m, h]
  have f : first1 (brk n) = Str.ofString "<" := by
    apply TL.ext_tl
    unfold first1
    rw [cutS_tl, hl, HT.sIx_none, show (some (1 : Int)) = some ((1 : Nat) : Int) from rfl, HT.sIx_nat, Nat.min_eq_left (by omega), e3]
    rfl
  have l : last1 (brk n) = Str.ofString ">" := by
    apply TL.ext_tl
    unfold last1
    have : HT.sIx (n.length + 2) 0 (some (-1)) = n.length + 1 := by
      show (if (-1 : Int) < 0 then ((-1 : Int) + ((n.length + 2 : Nat) : Int)).toNat else min (-1 : Int).toNat (n.length + 2)) = n.length + 1
      rw [if_pos (by decide)]; omega
    rw [cutS_tl, hl, HT.sIx_none, this, e4, brk, tlS, TL.len_tl]
    show (([60] ++ TL.tl n ++ [62]).drop ((TL.tl n).length + 1)).take _ = [62]
    rw [show (TL.tl n).length + 1 = ([60] ++ TL.tl n).length from (by simp), List.drop_left]
    have e9 : (TL.tl n).length + 2 - ([60] ++ TL.tl n).length = 1 := by simp
    rw [e9]
    try rfl
  rw [f, l]; simp
theorem lst_brk (k : Nat) (n : T) : lst (spaces k ++ brk n) = brk n := by
  rw [lst_sp]
  unfold lst brk
  rw [tlS]
  rfl
end Wf

end
section
set_option maxHeartbeats 4000000
/-! W19: ring_from, is_own, blanks_of, shifted, shown, is_name_sign. -/
namespace Wf
open PySem PySem.Spec PyProof.Rows L2 Wr
/-! ### ring_from -/
abbrev s14 : Stmt := topS 14
theorem sc14 : FnScope ["path", "name"] ["path", "name"] (defScope s14) := ⟨rfl, rfl, rfl, by decide +kernel, rfl, by decide +kernel, by decide +kernel⟩
def sp14 : Sp := fun vs H Q _ => ∃ (a : Addr) (ns : List T) (n : T), vs = [.ref a, .str n] ∧ H a = some (.lst (strV ns)) ∧ n ∈ ns ∧ ∀ H' p, Same H H' → H p = none → Q (.ref p) H'
theorem first_at (n : T) : ∀ ns : List T, n ∈ ns → ∃ j : Nat, ns[j]? = some n ∧ ∀ (m : Nat) (z : T), m < j → ns[m]? = some z → z ≠ n
  | m :: r, h => by
    by_cases e : m = n
    · exact ⟨0, by rw [e]; rfl, fun k z hk => absurd hk (Nat.not_lt_zero k)⟩
    · obtain ⟨j, h1, h2⟩ := first_at n r ((List.mem_cons.mp h).resolve_left fun z => e z.symm)
      refine ⟨j + 1, h1, fun k z hk hz => ?_⟩
      cases k with
      | zero =>
        have : m = z := Option.some.inj hz
        rw [← this]; exact e
      | succ k => exact h2 k z (by omega) hz
theorem strV_at {ns : List T} {j : Nat} {n : T} (h : ns[j]? = some n) : (strV ns)[j]? = some (.str n) := by unfold strV; rw [List.getElem?_map, h]; rfl
theorem strV_of {ns : List T} {j : Nat} {v : V} (h : (strV ns)[j]? = some v) : ∃ n, ns[j]? = some n ∧ v = .str n := by
  unfold strV at h
  rw [List.getElem?_map] at h
  cases e : ns[j]? with
  | none => rw [e] at h; cases h
  | some n => rw [e] at h; exact ⟨n, rfl, (Option.some.inj h).symm⟩
section
variable {P : Program} {w : World} {K : PySem.W.Frag} {mg : Str → Option Value} {base : Heap}
theorem ok14 (T : Tx K mg) : Has P w K mg base CX0 1 "ring_from" ["path", "name"] sp14 := by
  obtain ⟨f, fd, F, g⟩ := T.df 4 _ rfl
  refine ⟨f, fd, ?_, g, F.kp, F.binds fun _ _ _ _ _ _ us hl => match us, hl with | [_, _], _ => rfl⟩
  refine Fun.ok F sc14 (fun vs H Q E h => ?_) (fun cdv A outer s H vs Q E hr h => ?_)
  · obtain ⟨a, ns, n, rfl, _⟩ := h
    rfl
  · obtain ⟨a, ns, n, rfl, ha, hn, q⟩ := h
    refine ⟨_, pss_one (ps_ret (pe_callTy call_tuple_of (by rfl) T.tup (by decide +kernel) (pa_cons (pe_slice sl_list (pv 0) (po_some (pe_bm PySem.F.plainAttrs_list PySem.F.slot_list_index PySem.F.type_list_index mt_index (pv 0) (pa_cons (pv 1) pa_nil))) po_none) pa_nil))), ?_⟩
    obtain ⟨j, h1, h2⟩ := first_at n ns hn
    refine ⟨_, rfl, _, rfl, .inl ⟨rfl, _, .of ha⟩, _, rfl, a, _, _, j, _, rfl, rfl, .of ha, rfl, flat_strs _, strV_at h1, by show (n == n) = true; simp, fun m z hm hz => ?_, _, rfl, a, _, rfl, .of ha, fun p np => ?_⟩
    · obtain ⟨k, e1, e2⟩ := strV_of hz
      rw [e2]
      show (k == n) = false
      simpa using h2 m k hm e1
    · refine ⟨p, _, rfl, .inl ⟨.of upd_same, fun l nl => ?_⟩⟩
      have nl2 : H l = none := by
        by_cases e : l = p
        · rw [e]; exact np
        · rw [upd_ne e] at nl; exact nl
      exact q _ l ((same_upd np).trans (same_upd nl)) nl2
end
/-! ### is_own -/
def ownAt (d : List Ln) (i : Int) : Bool := decide (0 ≤ i) && (match d[i.toNat]? with | some l => l.own | none => false)
theorem ownAt_nat (d : List Ln) (i : Nat) : ownAt d (i : Int) = (match d[i]? with | some l => l.own | none => false) := by
  unfold ownAt
  rw [decide_eq_true (show (0 : Int) ≤ (i : Int) by omega), Bool.true_and, Int.toNat_natCast]
abbrev s19 : Stmt := topS 19
theorem sc19 : FnScope ["document", "at"] ["document", "at"] (defScope s19) := ⟨rfl, rfl, rfl, by decide +kernel, rfl, by decide +kernel, by decide +kernel⟩
def sp19 : Sp := fun vs H Q _ => ∃ (a : Addr) (d : List Ln) (i : Int), vs = [.ref a, .int i] ∧ DocAt H a d ∧ ∀ H', Same H H' → Q (.bl (ownAt d i)) H'
theorem DocAt.get {H : Hp} {a : Addr} {d : List Ln} {i : Nat} {l : Ln} (h : DocAt H a d) (hl : d[i]? = some l) : ∃ (xs : List V) (p : Addr), H a = some (.tup xs) ∧ xs[i]? = some (.ref p) ∧ At H p l := by
  obtain ⟨ls, h1, h2⟩ := h
  obtain ⟨p, e1, e2⟩ := Paired.get h2 hl
  exact ⟨_, p, h1, ref_at e1, e2⟩
theorem DocAt.len {H : Hp} {a : Addr} {d : List Ln} (h : DocAt H a d) : ∃ (xs : List V), H a = some (.tup xs) ∧ xs.length = d.length := by
  obtain ⟨ls, h1, h2⟩ := h
  exact ⟨_, h1, len_ls h2⟩
section
variable {P : Program} {w : World} {K : PySem.W.Frag} {mg : Str → Option Value} {base : Heap}
theorem ok19 (T : Tx K mg) : Has P w K mg base CX0 1 "is_own" ["document", "at"] sp19 := by
  obtain ⟨f, fd, F, g⟩ := T.df 8 _ rfl
  refine ⟨f, fd, ?_, g, F.kp, F.binds fun _ _ _ _ _ _ us hl => match us, hl with | [_, _], _ => rfl⟩
  refine Fun.ok F sc19 (fun vs H Q E h => ?_) (fun cdv A outer s H vs Q E hr h => ?_)
  · obtain ⟨a, d, i, rfl, _⟩ := h
    rfl
  · obtain ⟨a, d, i, rfl, hd, q⟩ := h
    refine ⟨_, pss_one (ps_ret (pe_and (pe_chain op_le op_lt pe_int (pv 1) (pe_callB call_len_seq (by rfl) T.len PySem.boot_len (pa_cons (pv 0) pa_nil)))
      (pe_one (pe_cmpR op_in_seq (pe_ix ix_tup (pe_ix ix_tup (pv 0) (pv 1) (fun _ _ => rfl)) pe_int (fun _ _ => rfl)) (pe_tup (pa_cons pe_str (pa_cons pe_str pa_nil))) rfl)))), ?_⟩
    obtain ⟨xs, hx, hxl⟩ := hd.len
    refine ⟨_, rfl, _, _, rfl, rfl, _, rfl, ?_⟩
    refine if2 (fun h0 => ?_) (fun h0 => ?_)
    · refine ⟨_, rfl, a, xs, rfl, .inr (.of hx), _, _, rfl, rfl, _, rfl, ?_⟩
      refine if2 (fun h1 => ?_) (fun h1 => ?_)
      · obtain ⟨n, rfl⟩ : ∃ n : Nat, i = n := ⟨i.toNat, by omega⟩
        have hn : n < d.length := by omega
        have hl : d[n]? = some d[n] := List.getElem?_eq_getElem hn
        obtain ⟨ys, p, hy, hp, hat⟩ := hd.get hl
        obtain ⟨sk, k0, kh, kp, ku, kc⟩ := k_head d[n]
        refine ⟨_, rfl, _, rfl, a, ys, _, _, rfl, rfl, .of hy, atI_nat hp, p, _, _, _, rfl, rfl, .of hat, atI_nat (j := 0) k0, by show 2 ≤ sizeLine; decide, fun t nt => ⟨t, _, rfl, .inr (.of upd_same), rfl, rfl, ?_⟩⟩
        have e : inV (V.str sk) [V.str (Str.ofString "code"), V.str (Str.ofString "use")] = ownAt d (n : Int) := by
          rw [ownAt_nat, hl]
          show ((Str.ofString "code" == sk) || ((Str.ofString "use" == sk) || false)) = d[n].own
          rw [Bool.or_false]
          cases hdn : d[n] with
          | prose t => 
            have : sk = Str.ofString "prose" := kp.mpr ⟨t, hdn⟩
            rw [this]
            show _ = false
            decide +kernel
          | head t => 
            have : sk = Str.ofString "head" := kh.mpr ⟨t, hdn⟩
            rw [this]
            show _ = false
            decide +kernel
          | use j t => 
            have : sk = Str.ofString "use" := ku.mpr ⟨j, t, hdn⟩
            rw [this]
            show _ = true
            decide +kernel
          | code t => 
            have : sk = Str.ofString "code" := kc.mpr ⟨t, hdn⟩
            rw [this]
            show _ = true
            decide +kernel
        show Q (.bl (inV (V.str sk) [V.str (Str.ofString "code"), V.str (Str.ofString "use")])) _
        rw [e]
        exact q _ (same_upd nt)
      · have e : ownAt d i = false := by
          unfold ownAt
          have : d[i.toNat]? = none := List.getElem?_eq_none_iff.mpr (by omega)
          rw [this, Bool.and_false]
        have := q H (Same.refl _)
        rw [e] at this
        exact this
    · have e : ownAt d i = false := by
        unfold ownAt
        rw [decide_eq_false h0, Bool.false_and]
      have := q H (Same.refl _)
      rw [e] at this
      exact ⟨_, rfl, this⟩
end
end Wf

end
section
set_option maxHeartbeats 4000000
/-! W20: blanks_of, shifted, shown, is_name_sign. -/
namespace Wf
open PySem PySem.Spec PyProof.Rows L2 Wr
/-- how long texts may be -/
def Lim : Nat := 1000000
theorem lim_line {n : Nat} (h : n ≤ 2 * 1000000) : n ≤ sizeLine := Nat.le_trans h (by decide)
def blV : Ln → V
  | .use i _ => .int i
  | .code t => if t = mt then .non else .int (min (lead t : Int) ((t.length : Int) - 1))
  | _ => .non
abbrev s20 : Stmt := topS 20
theorem sc20 : FnScope ["line", "found"] ["line"] (defScope s20) := ⟨rfl, rfl, rfl, by decide +kernel, rfl, by decide +kernel, by decide +kernel⟩
def sp20 : Sp := fun vs H Q _ => ∃ (p : Addr) (l : Ln), vs = [.ref p] ∧ At H p l ∧ l.own = true ∧ (∀ t, l = .code t → t.length ≤ 1000000) ∧ Q (blV l) H
theorem str_eq_mt (t : T) : (V.str t = V.str (Str.ofString "")) ↔ t = mt := by
  rw [empty_eq]
  exact ⟨fun h => V.str.inj h, fun h => by rw [h]⟩
section
variable {P : Program} {w : World} {K : PySem.W.Frag} {mg : Str → Option Value} {base : Heap}
theorem ok20 (T : Tx K mg) : Has P w K mg base CX0 1 "blanks_of" ["line"] sp20 := by
  obtain ⟨f, fd, F, g⟩ := T.df 9 _ rfl
  refine ⟨f, fd, ?_, g, F.kp, F.binds fun _ _ _ _ _ _ us hl => match us, hl with | [_], _ => rfl⟩
  refine Fun.ok F sc20 (fun vs H Q E h => ?_) (fun cdv A outer s H vs Q E hr h => ?_)
  · obtain ⟨a, d, rfl, _⟩ := h
    rfl
  · obtain ⟨p, l, rfl, hat, ho, hlen, q⟩ := h
    refine ⟨_, pss_cons (ps_if (pt_cmpR op_eq (pe_ix ix_tup (pv 0) pe_int (fun _ _ => rfl)) pe_str (nomark _)) (pss_one (ps_ret (pe_ix ix_tup (pv 0) pe_int (fun _ _ => rfl)))) pss_nil)
      (pss_cons (ps_if (pt_cmpR op_eq (pe_ix ix_tup (pv 0) pe_int (fun _ _ => rfl)) pe_str (nomark _)) (pss_one (ps_ret pe_non)) pss_nil)
      (pss_cons (ps_set (i := 1) sc20.nd rfl (.inl rfl) (pe_op op_sub (pe_callB call_len_str (by rfl) T.len PySem.boot_len (pa_cons (pe_ix ix_tup (pv 0) pe_int (fun _ _ => rfl)) pa_nil))
          (pe_callB call_len_str (by rfl) T.len PySem.boot_len (pa_cons (pe_m1 PySem.F.slot_str_lstrip PySem.F.type_str_lstrip mt_lstripChars (pe_ix ix_tup (pv 0) pe_int (fun _ _ => rfl)) pe_str) pa_nil))))
      (pss_one (ps_ret (pe_callB (call_min2 rfl) (by rfl) T.min (by decide +kernel) (pa_cons (pv 1) (pa_cons (pe_op op_sub (pe_callB call_len_str (by rfl) T.len PySem.boot_len (pa_cons (pe_ix ix_tup (pv 0) pe_int (fun _ _ => rfl)) pa_nil)) pe_int) pa_nil))))))), ?_⟩
    cases l with
    | prose t => cases ho
    | head t => cases ho
    | use i m =>
      refine ⟨_, rfl, p, _, _, _, rfl, rfl, .of hat, atI_nat (j := 0) rfl, rfl, _, rfl, ?_⟩
      refine ifY rfl ?_
      exact ⟨_, rfl, p, _, _, _, rfl, rfl, .of hat, atI_nat (j := 1) rfl, q⟩
    | code t =>
      refine ⟨_, rfl, p, _, _, _, rfl, rfl, .of hat, atI_nat (j := 0) rfl, rfl, _, rfl, ?_⟩
      refine ifN nCU ?_
      refine ⟨_, rfl, p, _, _, _, rfl, rfl, .of hat, atI_nat (j := 1) rfl, rfl, _, rfl, ?_⟩
      have hl := hlen t rfl
      refine if2 (fun h => ?_) (fun h => ?_)
      · have e := (str_eq_mt t).mp h
        have q2 : Q (if t = mt then .non else .int (min (lead t : Int) ((t.length : Int) - 1))) H := q
        rw [if_pos e] at q2
        exact q2
      · have e : ¬ t = mt := fun z => h ((str_eq_mt t).mpr z)
        have q2 : Q (if t = mt then .non else .int (min (lead t : Int) ((t.length : Int) - 1))) H := q
        rw [if_neg e] at q2
        refine ⟨_, rfl, p, _, _, _, rfl, rfl, .of hat, atI_nat (j := 1) rfl, t, rfl, lim_line (by omega), ?_⟩
        refine ⟨_, rfl, p, _, _, _, rfl, rfl, .of hat, atI_nat (j := 1) rfl, ⟨_, rfl⟩, t, _, rfl, rfl, lim_line (by omega), ?_⟩
        rw [lstrip_eq]
        have e2 := len_lst t
        refine ⟨_, rfl, lim_line (by omega), _, _, rfl, rfl, ?_⟩
        refine ⟨_, rfl, _, rfl, p, _, _, _, rfl, rfl, .of hat, atI_nat (j := 1) rfl, t, rfl, lim_line (by omega), _, _, rfl, rfl, _, _, rfl, ?_⟩
        have e3 : (if ((t.length : Int) - 1) < ((t.length : Int) - ((lst t).length : Int)) then ((t.length : Int) - 1) else ((t.length : Int) - ((lst t).length : Int))) = min (lead t : Int) ((t.length : Int) - 1) := by
          split <;> omega
        show Q (V.int (if ((t.length : Int) - 1) < ((t.length : Int) - ((lst t).length : Int)) then ((t.length : Int) - 1) else ((t.length : Int) - ((lst t).length : Int)))) H
        rw [e3]
        exact q2
end
/-! ### shifted -/
def shB (b : Int) : Ln → Ln
  | .use i m => .use (i + b) m
  | .code t => if t = mt then .code t else if b < 0 then .code (cut0 (-b).toNat t) else .code (spaces b.toNat ++ t)
  | l => l
theorem shB_pos {b : Int} (h : 0 ≤ b) (l : Ln) : shB b l = shL b l := by
  cases l with
  | code t =>
    show (if t = mt then Ln.code t else if b < 0 then Ln.code (cut0 (-b).toNat t) else Ln.code (spaces b.toNat ++ t)) = Ln.code (if t = mt then t else spaces b.toNat ++ t)
    by_cases e : t = mt
    · rw [if_pos e, if_pos e]
    · rw [if_neg e, if_neg e, if_neg (by omega)]
  | _ => rfl
abbrev s21 : Stmt := topS 21
theorem sc21 : FnScope ["line", "by"] ["line", "by"] (defScope s21) := ⟨rfl, rfl, rfl, by decide +kernel, rfl, by decide +kernel, by decide +kernel⟩
def sp21 : Sp := fun vs H Q _ => ∃ (p : Addr) (b : Int) (l : Ln), vs = [.ref p, .int b] ∧ At H p l ∧ l.own = true ∧ (∀ t, l = .code t → t.length ≤ 1000000) ∧ -(1000000 : Int) ≤ b ∧ b ≤ 1000000 ∧ ∀ H' r, Same H H' → At H' r (shB b l) → Q (.ref r) H'
section
variable {P : Program} {w : World} {K : PySem.W.Frag} {mg : Str → Option Value} {base : Heap}
theorem ok21 (T : Tx K mg) : Has P w K mg base CX0 1 "shifted" ["line", "by"] sp21 := by
  obtain ⟨f, fd, F, g⟩ := T.df 10 _ rfl
  refine ⟨f, fd, ?_, g, F.kp, F.binds fun _ _ _ _ _ _ us hl => match us, hl with | [_, _], _ => rfl⟩
  refine Fun.ok F sc21 (fun vs H Q E h => ?_) (fun cdv A outer s H vs Q E hr h => ?_)
  · obtain ⟨a, d, l, rfl, _⟩ := h
    rfl
  · obtain ⟨p, b, l, rfl, hat, ho, hlen, b1, b2, q⟩ := h
    refine ⟨_, pss_cons (ps_if (pt_cmpR op_eq (pe_ix ix_tup (pv 0) pe_int (fun _ _ => rfl)) pe_str (nomark _))
        (pss_one (ps_ret (pe_tup (pa_cons pe_str (pa_cons (pe_op op_add (pe_ix ix_tup (pv 0) pe_int (fun _ _ => rfl)) (pv 1)) (pa_cons (pe_ix ix_tup (pv 0) pe_int (fun _ _ => rfl)) pa_nil)))))) pss_nil)
      (pss_cons (ps_if (pt_cmpR op_eq (pe_ix ix_tup (pv 0) pe_int (fun _ _ => rfl)) pe_str (nomark _)) (pss_one (ps_ret (pv 0))) pss_nil)
      (pss_cons (ps_if (pt_cmpR op_lt (pv 1) pe_int (nomark _)) (pss_one (ps_ret (pe_tup (pa_cons pe_str (pa_cons (pe_slice sl_str (pe_ix ix_tup (pv 0) pe_int (fun _ _ => rfl)) (po_some (pe_un un_neg (pv 1))) po_none) pa_nil))))) pss_nil)
      (pss_one (ps_ret (pe_tup (pa_cons pe_str (pa_cons (pe_op op_add_str (pe_op op_spaces pe_str (pv 1)) (pe_ix ix_tup (pv 0) pe_int (fun _ _ => rfl))) pa_nil))))))), ?_⟩
    cases l with
    | prose t => cases ho
    | head t => cases ho
    | use i m =>
      refine ⟨_, rfl, p, _, _, _, rfl, rfl, .of hat, atI_nat (j := 0) rfl, rfl, _, rfl, ?_⟩
      refine ifY rfl ?_
      refine ⟨_, rfl, p, _, _, _, rfl, rfl, .of hat, atI_nat (j := 1) rfl, _, rfl, _, _, rfl, rfl, _, rfl, p, _, _, _, rfl, rfl, .of hat, atI_nat (j := 2) rfl, by show 3 ≤ sizeLine; decide, fun r nr => ?_⟩
      exact q _ r (same_upd nr) upd_same
    | code t =>
      have hl := hlen t rfl
      refine ⟨_, rfl, p, _, _, _, rfl, rfl, .of hat, atI_nat (j := 0) rfl, rfl, _, rfl, ?_⟩
      refine ifN nCU ?_
      refine ⟨_, rfl, p, _, _, _, rfl, rfl, .of hat, atI_nat (j := 1) rfl, rfl, _, rfl, ?_⟩
      have q2 : ∀ H' r, Same H H' → At H' r (if t = mt then .code t else if b < 0 then .code (cut0 (-b).toNat t) else .code (spaces b.toNat ++ t)) → Q (.ref r) H' := q
      refine if2 (fun h => ?_) (fun h => ?_)
      · have e := (str_eq_mt t).mp h
        refine ⟨_, rfl, q2 H p (Same.refl _) ?_⟩
        rw [if_pos e]
        exact hat
      · have e : ¬ t = mt := fun z => h ((str_eq_mt t).mpr z)
        refine ⟨_, rfl, _, _, rfl, rfl, _, rfl, ?_⟩
        refine if2 (fun h1 => ?_) (fun h1 => ?_)
        · refine ⟨_, rfl, p, _, _, _, rfl, rfl, .of hat, atI_nat (j := 1) rfl, _, rfl, _, rfl, _, rfl, t, rfl, lim_line (by omega), by show 2 ≤ sizeLine; decide, fun r nr => ?_⟩
          refine q2 _ r (same_upd nr) ?_
          rw [if_neg e, if_pos h1]
          unfold cut0
          rw [show (((-b).toNat : Nat) : Int) = -b by omega]
          exact upd_same
        · refine ⟨_, rfl, b, rfl, rfl, by omega, b2, ?_⟩
          refine ⟨_, rfl, p, _, _, _, rfl, rfl, .of hat, atI_nat (j := 1) rfl, _, _, rfl, rfl, ?_, by show 2 ≤ sizeLine; decide, fun r nr => ?_⟩
          · rw [len_sp]; exact lim_line (by omega)
          · refine q2 _ r (same_upd nr) ?_
            rw [if_neg e, if_neg h1]
            exact upd_same
end
/-! ### shown -/
abbrev s43 : Stmt := topS 43
theorem sc43 : FnScope ["indent", "text"] ["indent", "text"] (defScope s43) := ⟨rfl, rfl, rfl, by decide +kernel, rfl, by decide +kernel, by decide +kernel⟩
def sp43 : Sp := fun vs H Q _ => ∃ (i : Int) (t : T), vs = [.int i, .str t] ∧ 0 ≤ i ∧ i ≤ 1000000 ∧ t.length ≤ 1000000 ∧ Q (.str (shT i t)) H
section
variable {P : Program} {w : World} {K : PySem.W.Frag} {mg : Str → Option Value} {base : Heap}
theorem ok43 (T : Tx K mg) : Has P w K mg base CX0 1 "shown" ["indent", "text"] sp43 := by
  obtain ⟨f, fd, F, g⟩ := T.df 27 _ rfl
  refine ⟨f, fd, ?_, g, F.kp, F.binds fun _ _ _ _ _ _ us hl => match us, hl with | [_, _], _ => rfl⟩
  refine Fun.ok F sc43 (fun vs H Q E h => ?_) (fun cdv A outer s H vs Q E hr h => ?_)
  · obtain ⟨a, d, rfl, _⟩ := h
    rfl
  · obtain ⟨i, t, rfl, i1, i2, hl, q⟩ := h
    refine ⟨_, pss_cons (ps_if (pt_cmpR op_eq (pv 1) pe_str (nomark _)) (pss_one (ps_ret pe_str)) pss_nil)
      (pss_one (ps_ret (pe_op op_add_str (pe_op op_spaces pe_str (pv 0)) (pv 1)))), ?_⟩
    refine ⟨_, rfl, rfl, _, rfl, ?_⟩
    refine if2 (fun h => ?_) (fun h => ?_)
    · have e := (str_eq_mt t).mp h
      unfold shT at q
      rw [if_pos e, e, ← empty_eq] at q
      exact q
    · have e : ¬ t = mt := fun z => h ((str_eq_mt t).mpr z)
      unfold shT at q
      rw [if_neg e] at q
      refine ⟨_, rfl, i, rfl, rfl, by omega, i2, _, rfl, _, _, rfl, rfl, ?_, q⟩
      rw [len_sp]; exact lim_line (by omega)
end
/-! ### is_name_sign -/
abbrev s31 : Stmt := topS 31
theorem sc31 : FnScope ["sign"] ["sign"] (defScope s31) := ⟨rfl, rfl, rfl, by decide +kernel, rfl, by decide +kernel, by decide +kernel⟩
def sp31 : Sp := fun vs H Q _ => ∃ (c : Nat), vs = [.str (S [c])] ∧ Q (.bl (nameSign c)) H
section
variable {P : Program} {w : World} {K : PySem.W.Frag} {mg : Str → Option Value} {base : Heap}
theorem ok31 (T : Tx K mg) : Has P w K mg base CX0 1 "is_name_sign" ["sign"] sp31 := by
  obtain ⟨f, fd, F, g⟩ := T.df 17 _ rfl
  refine ⟨f, fd, ?_, g, F.kp, F.binds fun _ _ _ _ _ _ us hl => match us, hl with | [_], _ => rfl⟩
  refine Fun.ok F sc31 (fun vs H Q E h => ?_) (fun cdv A outer s H vs Q E hr h => ?_)
  · obtain ⟨c, rfl, _⟩ := h
    rfl
  · obtain ⟨c, rfl, q⟩ := h
    obtain ⟨tk, hns⟩ := T.nsigns
    refine ⟨_, pss_one (ps_ret (pe_or (pe_m0 PySem.F.slot_str_isalnum PySem.F.type_str_isalnum mt_isalnum (pv 0)) (pe_one (pe_cmpR op_in_sign (pv 0) (pe_glob (v := .str (Str.ofString "-_.")) (by rfl) hns ⟨_, rfl⟩) rfl)))), ?_⟩
    refine ⟨_, rfl, ⟨_, rfl⟩, _, rfl, rfl, trivial, _, rfl, ?_⟩
    unfold nameSign at q
    cases h : Txt.isalnum (S [c]) with
    | true =>
      rw [h, Bool.true_or] at q
      exact iteT q
    | false =>
      rw [h, Bool.false_or] at q
      refine iteF ?_
      exact ⟨_, rfl, c, _, rfl, rfl, q⟩
end
end Wf

end
section
set_option maxHeartbeats 4000000
/-! WE: own exceptions whose __init__ says super().__init__(text) over an own base, then stores its arguments. -/
namespace We
open PySem PySem.Spec PyProof.Rows PySem.W PySem.Calls
abbrev exR (C t : Addr) (d : Option Addr) : Obj := { cls := .ref C, dict := d, data := .fields #[.ref t, .none, .none, .none, .bool false, .none] }
/-- what the written part says of such a class; the words of its __init__ -/
structure Facts (P : Program) (K : PySem.W.Frag) (C fI cda cc : Addr) (params : Arguments) (body : List Stmt) (scope : Scope) : Prop where
  oc : L2.OexC K C
  iC : findIn K (.ref C) "__init__" = some (some (.ref fI))
  tI : typeIn K (.ref fI) = some (.type "function")
  lk : ∃ oc od osl name qual kV doc pm an ct, K.lookup fI = some ⟨oc, od, .func (fnX name qual params body scope [("__class__", cc)] .none kV doc pm an (.ref cda) ct), osl⟩ ∧ codeIn K (.ref cda) qual = true
  code : ∃ oc od vs osl tf, K.lookup cda = some ⟨oc, od, .fields vs, osl⟩ ∧ vs[2]? = some (.str (P.main.file : Str) tf)
  cell : ∃ oc od osl, K.lookup cc = some ⟨oc, od, .cell (some (.ref C)), osl⟩
  sup : ks_superIn K C C "__init__" = some (some (.builtin "ValueError.__init__"))
  sub : subIn K (.ref C) (.type "ValueError") = some true
  mro : mroIn K C (.ref C) = some true
  any : nsIn K cStatics "thirdparty.any" = some none
section
variable {prog : Program} {w : World} {A : Around} {E : Value → Shared → Prop} {h : Heap} {g : Array GenState} {d : Drawn} {t : Nat} {os : OsState} {K : PySem.W.Frag}
/-- the built-in __init__, bound, is called: the args are laid anew -/
theorem call_mw {C u e t0 : Addr} {rest : List Value} {Q : Value → Shared → Prop} (T : L2.OexC K C) (X : K.In h) (he : h.get? e = some (exR C t0 none)) (hu : h.get? u = some (kxs_mw "ValueError.__init__" e)) (hrest : rest.length ≤ sizeLine)
    (hq : ∀ h' t1, (∀ b o, b ≠ e → h.get? b = some o → h'.get? b = some o) → h'.get? e = some (exR C t1 none) → Q .none ⟨h', g, d, t, os⟩) :
    wpAny (model prog w) A (call (.ref u) rest) Q E ⟨h, g, d, t, os⟩ := by
  obtain ⟨nm, q, N, bs, bm, sn, sub, ab, col, dd, k0, k1, k2, k3, k5, hC, hbm⟩ := T.cls
  refine wpAny_call (codeAny_of_tree ?_)
  show wpAny _ A.in1 (callAny (.ref u) ⟨rest, []⟩) _ _ _
  simp only [callAny]
  refine wpAny_bind (wpAny_load hu ?_)
  simp only [kxs_mw, show (Value.type "method-wrapper" == Value.type "method" || Value.type "method-wrapper" == Value.type "builtin_function_or_method" || Value.type "method-wrapper" == Value.type "method-wrapper") = true by decide, if_true]
  refine KFB.if_so (by decide) ?_
  refine wpAny_bind (check_bound_init F.excBase_ValueError.toExcCallFacts (X _ _ hC) he rfl ?_)
  refine wpAny_bind (wpAny_pure (wpAny_pure ?_))
  refine ⟨plainId_quiet F.excBase_ValueError.init.plain _, codeAny_builtin F.excBase_ValueError.initEntry ?_⟩
  exact exc_init_tree (cls := .ref C) (t0 := t0) (dv := none) (c2 := .none) (c3 := .none) (b4 := .bool false) he hrest fun h' k e' t' => hq h' _ k e'
end
section
variable {prog : Program} {w : World} {A : Around} {E : Value → Shared → Prop} {g : Array GenState} {d : Drawn} {os : OsState} {K : PySem.W.Frag} {mg : Str → Option Value} {base : Heap}
  {C fI cda cc L e : Addr} {params : Arguments} {body : List Stmt} {scope : Scope} {m : Str → Option Value}
abbrev ev (q : Str) (scope : Scope) (L fI cda cc : Addr) : Env := ksEnv q scope L fI (.ref cda) cc
/-- the call stands on one line -/
def OneLine (arg : Expr) (scope : Scope) (fI cda cc : Addr) (p0 p1 p2 p3 : Pos) : Prop := ∀ (q : Str) (L : Addr), ∃ pl : Sem Bool, eval (.Call (.Attribute (.Call (.Name "super" p0) [] [] p1) "__init__" p2) [arg] [] p3) (ev q scope L fI cda cc) = (do
      let ov ← attributeBase (.Call (.Name "super" p0) [] [] p1) "__init__" (ev q scope L fI cda cc) (eval (.Call (.Name "super" p0) [] [] p1) (ev q scope L fI cda cc))
      standAt p2.atName
      let (f, first) ← holding [ov] (getMethod ov "__init__" pl)
      callWith p3 f first (backTo p3 (starEach [arg] (ev q scope L fI cda cc))) [])
/-- super().__init__(arg) -/
theorem super_stmt {q : Str} {h : Heap} {t t0 : Nat} {arg : Expr} {p0 p1 p2 p3 p4 : Pos} {Q : Flow → Shared → Prop} (T : Facts prog K C fI cda cc params body scope) (M : L2.Mod K mg base) (bk : ∀ b o, base.get? b = some o → h.get? b = some o) (he : h.get? e = some (exR C t0 none)) (hn : h.Ns L m)
    (hself : m "self" = some (.ref e)) (hm : mg "super" = none) (hne : e ≠ C)
    (hp : (params.posonlyargs ++ params.args).head?.map (·.arg) = some ("self" : Str)) (hk : scope.kind = .function) (hks : scope.names.lookup ("super" : Str) = some .globalImplicit) (hkc : scope.names.lookup ("__class__" : Str) = some .free) (hka : scope.names.lookup ("self" : Str) = some .local)
    (htop : (prog.main.scope.names.lookup ("super" : Str)).isSome = false)
    (harg : ∀ (A' : Around) (E' : Value → Shared → Prop) (s : Shared) (Q : Value → Shared → Prop), s.heap.Ns L m → (∀ v tk, Q v { s with toks := tk }) → wpAny (model prog w) A' (eval arg (ev q scope L fI cda cc)) Q E' s)
    (he2 : starEach [arg] (ev q scope L fI cda cc) = (false, eval arg (ev q scope L fI cda cc)) :: starEach [] (ev q scope L fI cda cc))
    (hq : ∀ h' t1 tk, (∀ b o, b ≠ e → h.get? b = some o → h'.get? b = some o) → h'.get? e = some (exR C t1 none) → Q .next ⟨h', g, d, tk, os⟩)
    (hs : swapsWith (.Call (.Attribute (.Call (.Name "super" p0) [] [] p1) "__init__" p2) [arg] [] p3) none p4.line (ev q scope L fI cda cc) = pure false := by rfl)
    (hev : OneLine arg scope fI cda cc p0 p1 p2 p3) :
    _root_.PySem.wpAt (model prog w) A (.func body (ev q scope L fI cda cc)) (exec (.Expr (.Call (.Attribute (.Call (.Name "super" p0) [] [] p1) "__init__" p2) [arg] [] p3) p4) (ev q scope L fI cda cc)) Q E ⟨h, g, d, t, os⟩ := by
  have X : K.In h := M.kin.keeps bk
  obtain ⟨oc, od, osl, name, qual, kV, doc, pm, an, ct, lk, hcd⟩ := T.lk
  obtain ⟨oc2, od2, vs, osl2, tf, lc, hvs⟩ := T.code
  obtain ⟨oc3, od3, osl3, lcc⟩ := T.cell
  obtain ⟨nm, qq, N, bs, bm, sn, sub, ab, col, dd, k0, k1, k2, k3, k5, hC, hbm⟩ := T.oc.cls
  have hC' := X _ _ hC
  obtain ⟨mb, hb1, hb2⟩ := M.blt
  obtain ⟨ar, hp1, hp2⟩ : ∃ ar : Arg, (params.posonlyargs ++ params.args).head? = some ar ∧ ar.arg = ("self" : Str) := by
    cases z : (params.posonlyargs ++ params.args).head? with
    | none => rw [z] at hp; cases hp
    | some ar => rw [z] at hp; exact ⟨ar, rfl, Option.some.inj hp⟩
  have I : InstAt h e (exR C t0 none) C none := ⟨he, rfl, rfl, trivial⟩
  have hi : interactive (ev q scope L fI cda cc) = false := by
    unfold interactive
    show (scope.kind == .module && _) = false
    rw [hk]; rfl
  refine ks_wpAt_Expr_any ?_ hi hs
  obtain ⟨pl, hev⟩ := hev q L
  refine ks_wpAt_MethodCall ?_ hev
  refine ks_wpAt_super_base (f := fI) (cc := cda) (fd := fnX name qual params body scope [("__class__", cc)] .none kV doc pm an (.ref cda) ct) (ar := ar) hks hkc (by decide) rfl (X _ _ lk) rfl hp1 rfl (X _ _ lc) rfl hvs (by rw [beq_self_eq_true]) htop ?_
  refine ks_loadName_global hk hks (loadGlobal_builtin (env := ev q scope L fI cda cc) (M.glob.keeps bk) hm (hb1.keeps bk) ((hb2 _ (by decide +kernel)).trans (by first | rfl | kernel_rfl)) ⟨rfl, ?_⟩)
  refine wpAny_loadName_free hk hkc rfl ⟨_, X _ _ lcc, rfl⟩ ?_
  rw [hp2]
  refine wpAny_loadName_local hk hka hn hself ?_
  refine ks_wpAny_isType_cls hC' rfl ⟨rfl, ?_⟩
  refine ks_wpAny_call_super hC' rfl I.at_ I.cls (fun c e => by cases e) (looks_mroIn X T.mro) (fun h' hso kp => ?_)
  have X' : K.In h' := X.keeps kp
  have I' : InstAt h' e (exR C t0 none) C none := ⟨kp _ _ he, rfl, rfl, trivial⟩
  have hm2 := T.sup
  unfold ks_superIn at hm2
  cases hc : clsIn K C with
  | none => rw [hc] at hm2; cases hm2
  | some cd =>
    rw [hc] at hm2
    refine kxs_getMethod kxs_ValueError (l₀ := cd.mro) hso (looks_opaque X' T.any) (fun A Q E s k q => wpAny_bind ((looks_clsIn X' hc) A _ E s k (wpAny_pure q))) rfl X' hm2 (I'.type.andThen (looks_subIn X' T.sub)) hne (by decide) ?_
    show wpAny _ _ (callWith p3 (Value.ref h'.objs.size) [] (backTo p3 (starEach [arg] _)) []) _ _ _
    rw [he2]
    refine kxs_callWith (i := "ValueError.__init__") (x := e) rfl ?_
    refine evalArgs_plain ?_
    refine Calls.spliced_cons ?_
    have hn' : (h'.push (kxs_mw "ValueError.__init__" e)).Ns L m := (hn.keeps kp).push _
    refine harg _ _ _ _ hn' fun v tk => ?_
    refine Calls.spliced_nil ?_
    have hu : (h'.push (kxs_mw "ValueError.__init__" e)).get? h'.objs.size = some (kxs_mw "ValueError.__init__" e) := Heap.get?_push_size _ rfl
    refine ⟨hu, ?_⟩
    refine call_mw T.oc (X'.keeps fun b o z => Heap.get?_push_of_some _ z) (Heap.get?_push_of_some _ (kp _ _ he)) hu (by show 1 ≤ sizeLine; decide) fun h2 t1 k2 e2 => ?_
    exact hq h2 t1 tk (fun b o hb z => k2 b o hb (Heap.get?_push_of_some _ (kp _ _ z))) e2
end
section
variable {prog : Program} {w : World} {A : Around} {E : Value → Shared → Prop} {g : Array GenState} {d : Drawn} {os : OsState} {K : PySem.W.Frag}
  {C fI cda cc L e : Addr} {body : List Stmt} {scope : Scope} {m : Str → Option Value}
theorem ns_at {h h' : Heap} {L : Addr} {m : Str → Option Value} (hn : h.Ns L m) (k : ∀ o, h.get? L = some o → h'.get? L = some o) : h'.Ns L m := hn.at k
/-- self.f = x, the first one -/
theorem set_first {q f : Str} {h : Heap} {t t0 : Nat} {v : Value} {q1 q2 q3 q4 : Pos} {Q : Flow → Shared → Prop} (T : L2.OexC K C) (X : K.In h) (he : h.get? e = some (exR C t0 none)) (hn : h.Ns L m)
    (hself : m "self" = some (.ref e)) (hv : m f = some v) (hno : findIn K (.ref C) f = some none) (hk : scope.kind = .function) (hka : scope.names.lookup ("self" : Str) = some .local) (hkf : scope.names.lookup f = some .local) (hdb : (f == ("__debug__" : Str)) = false)
    (hq : ∀ h' dx tk, (∀ b o, b ≠ e → h.get? b = some o → h'.get? b = some o) → h.objs.size ≤ dx → h'.get? e = some (exR C t0 (some dx)) → (∃ m0 nl, h'.Ns1 dx m0 ∧ Within m0 nl ∧ nl.length ≤ 5) → Q .next ⟨h', g, d, tk, os⟩)
    (hs : swapsWith (.Name f q3) (some (.Attribute (.Name "self" q1) f q2)) q4.line (ev q scope L fI cda cc) = pure false := by rfl) :
    _root_.PySem.wpAt (model prog w) A (.func body (ev q scope L fI cda cc)) (exec (.Assign [.Attribute (.Name "self" q1) f q2] (.Name f q3) q4) (ev q scope L fI cda cc)) Q E ⟨h, g, d, t, os⟩ := by
  obtain ⟨nm, qq, N, bs, bm, sn, sub, ab, col, dd, k0, k1, k2, k3, k5, hC, hbm⟩ := T.cls
  have hcl : clsIn K C = some { name := nm, bases := bs, mro := .ref C :: bm, ns := N, qualname := qq, hasDict := true, slotNames := sn, subclasses := sub, abstract := ab, collection := col, hasDel := false } := by unfold clsIn; rw [hC] <;> rfl
  refine ks_wpAt_Assign_Attr ?_ hs
  refine wpAt_of_wpAny (wpAny_Name (wpAny_loadName_local hk hkf hn hv ?_) hdb)
  refine wpAny_Name (wpAny_loadName_local hk hka hn hself ?_) (by decide)
  refine set_plain X (ox := exR C t0 none) (od := none) ⟨he, rfl, rfl, trivial⟩ T.sa ?_
  refine PySem.HandSPX.exc_osa X he hcl (show PySem.HandSPX.refsVE (.ref C :: bm) = true from hbm) rfl hno (fun h' tk' dx k dn dne hx hn2 => ?_)
  exact hq h' dx tk' k dn hx ⟨_, [f], hn2, Within.cons f v Within.nil, by simp⟩
/-- .. a further one -/
theorem set_more {q f : Str} {h : Heap} {t t0 dx : Nat} {v : Value} {m0 : Str → Option Value} {nl : List Str} {q1 q2 q3 q4 : Pos} {Q : Flow → Shared → Prop} (T : L2.OexC K C) (X : K.In h) (he : h.get? e = some (exR C t0 (some dx))) (hn : h.Ns L m) (hd : h.Ns1 dx m0) (hw : Within m0 nl) (hl : nl.length ≤ 1000)
    (hself : m "self" = some (.ref e)) (hv : m f = some v) (hno : findIn K (.ref C) f = some none) (hk : scope.kind = .function) (hka : scope.names.lookup ("self" : Str) = some .local) (hkf : scope.names.lookup f = some .local) (hdb : (f == ("__debug__" : Str)) = false)
    (hq : ∀ h' tk, (∀ b o, b ≠ dx → h.get? b = some o → h'.get? b = some o) → Q .next ⟨h', g, d, tk, os⟩)
    (hs : swapsWith (.Name f q3) (some (.Attribute (.Name "self" q1) f q2)) q4.line (ev q scope L fI cda cc) = pure false := by rfl) :
    _root_.PySem.wpAt (model prog w) A (.func body (ev q scope L fI cda cc)) (exec (.Assign [.Attribute (.Name "self" q1) f q2] (.Name f q3) q4) (ev q scope L fI cda cc)) Q E ⟨h, g, d, t, os⟩ := by
  obtain ⟨nm, qq, N, bs, bm, sn, sub, ab, col, dd, k0, k1, k2, k3, k5, hC, hbm⟩ := T.cls
  have hcl : clsIn K C = some { name := nm, bases := bs, mro := .ref C :: bm, ns := N, qualname := qq, hasDict := true, slotNames := sn, subclasses := sub, abstract := ab, collection := col, hasDel := false } := by unfold clsIn; rw [hC] <;> rfl
  obtain ⟨oD, _, _, hoD, _, _⟩ := hd.count hw
  refine ks_wpAt_Assign_Attr ?_ hs
  refine wpAt_of_wpAny (wpAny_Name (wpAny_loadName_local hk hkf hn hv ?_) hdb)
  refine wpAny_Name (wpAny_loadName_local hk hka hn hself ?_) (by decide)
  refine set_plain X (ox := exR C t0 (some dx)) (od := some oD) ⟨he, rfl, rfl, hoD⟩ T.sa ?_
  refine PySem.OEX.osa_old X he hd hw hl hcl (show PySem.HandSPX.refsVE (.ref C :: bm) = true from hbm) rfl hno (fun h' tk' k hn2 => ?_)
  exact hq h' tk' k
end
/-! ### the texts of the errors -/
section
variable {prog : Program} {w : World} {env : Env} {L : Addr} {m : Str → Option Value}
def JR (prog : Program) (w : World) (env : Env) (L : Addr) (m : Str → Option Value) (es : List Expr) : Prop :=
  ∀ (A : Around) (E : Value → Shared → Prop) (s : Shared) (acc : Str) (R : Str → Shared → Prop), s.heap.Ns L m → acc.length + 2000 * es.length ≤ 100000 → (∀ out tk, out.length ≤ sizeLine → R out { s with toks := tk }) → Joins (model prog w) A E (evalEach es env) acc R s
theorem jr_nil : JR prog w env L m [] := fun A E s acc R hn hl h => by
  show R acc s
  exact h acc s.toks (Nat.le_trans (by simpa using hl) (by decide))
theorem len_app (a b : Str) : (a ++ b).length = a.length + b.length := by rw [TL.len_tl, TL.len_tl, TL.len_tl, TL.tl_append, List.length_append]
theorem jr_cst {z : Str} {j : Nat} {p : Pos} {es : List Expr} (hz : z.length ≤ 1000) (h : JR prog w env L m es) : JR prog w env L m (.Constant (.str z) j p :: es) := fun A E s acc R hn hl hR => by
  show Joins _ _ _ (eval (.Constant (.str z) j p) env :: evalEach es env) _ _ _
  rw [List.length_cons] at hl
  refine Calls.Constant_str ⟨z, _, rfl, ?_, ?_⟩
  · rw [len_app]; exact Nat.le_trans (show acc.length + z.length ≤ 100000 by omega) (by decide)
  · exact h A E _ _ R hn (by rw [len_app]; omega) fun out tk ho => hR out tk ho
theorem jr_str {f z : Str} {tz : Tok} {p1 p2 : Pos} {es : List Expr} (hf : m f = some (.str z tz)) (hk : env.scope.kind = .function) (hl0 : env.scope.names.lookup f = some .local) (hL : env.locals = L) (hdb : (f == ("__debug__" : Str)) = false) (hz : z.length ≤ 1000) (h : JR prog w env L m es) :
    JR prog w env L m (.FormattedValue (.Name f p1) (-1) none p2 :: es) := fun A E s acc R hn hl hR => by
  show Joins _ _ _ (eval (.FormattedValue (.Name f p1) (-1) none p2) env :: evalEach es env) _ _ _
  rw [List.length_cons] at hl
  refine wpAny_FormattedValue_plain (wpAny_Name (wpAny_loadName_local hk hl0 (hL ▸ hn) hf ?_) hdb)
  have hb : (acc ++ z).length ≤ sizeLine := by rw [len_app]; exact Nat.le_trans (show acc.length + z.length ≤ 100000 by omega) (by decide)
  refine wpAny_formatField_str ⟨z, _, rfl, hb, ?_⟩ ⟨z, _, rfl, hb, ?_⟩ (Nat.le_trans hz (by decide))
  · exact h A E _ _ R hn (by rw [len_app]; omega) fun out tk ho => hR out tk ho
  · exact h A E _ _ R hn (by rw [len_app]; omega) fun out tk ho => hR out tk ho
theorem jr_int {f : Str} {i : Int} {tz : Tok} {p1 p2 : Pos} {es : List Expr} (hf : m f = some (.int i tz)) (hk : env.scope.kind = .function) (hl0 : env.scope.names.lookup f = some .local) (hL : env.locals = L) (hdb : (f == ("__debug__" : Str)) = false) (hz : i.natAbs ≤ 1000000) (h : JR prog w env L m es) :
    JR prog w env L m (.FormattedValue (.Name f p1) (-1) none p2 :: es) := fun A E s acc R hn hl hR => by
  show Joins _ _ _ (eval (.FormattedValue (.Name f p1) (-1) none p2) env :: evalEach es env) _ _ _
  rw [List.length_cons] at hl
  have h2 : i.natAbs.log2 < 20 := by
    by_cases h0 : i.natAbs = 0
    · rw [h0]; decide +kernel
    · exact (Nat.log2_lt h0).mpr (by have : (2 : Nat) ^ 20 = 1048576 := rfl; omega)
  have h3 : (Str.ofString (toString i)).length ≤ 1000 := by
    rw [PySem.ofString_length]
    have := int_text_length_le (a := i) (k := 20) (by decide) h2
    omega
  refine wpAny_FormattedValue_plain (wpAny_Name (wpAny_loadName_local hk hl0 (hL ▸ hn) hf ?_) hdb)
  refine wpAny_formatField_int (by omega) ⟨_, _, rfl, ?_, ?_⟩
  · rw [len_app]; exact Nat.le_trans (show acc.length + (Str.ofString (toString i)).length ≤ 100000 by omega) (by decide)
  · exact h A E _ _ R hn (by rw [len_app]; omega) fun out tk ho => hR out tk ho
theorem arg_join {v1 v2 : Expr} {rest : List Expr} {p : Pos} {A : Around} {E : Value → Shared → Prop} {s : Shared} {Q : Value → Shared → Prop} (h : JR prog w env L m (v1 :: v2 :: rest)) (hl : 2000 * (rest.length + 2) ≤ 100000) (hn : s.heap.Ns L m) (hq : ∀ v tk, Q v { s with toks := tk }) :
    wpAny (model prog w) A (eval (.JoinedStr (v1 :: v2 :: rest) p) env) Q E s := wpAny_JoinedStr (h A E s _ _ hn (by show 0 + _ ≤ _; rw [List.length_cons, List.length_cons]; omega) fun out tk ho => ⟨ho, hq _ _⟩)
end
/-! ### C(..): the class called -/
section
variable {X : L2.Cx} {x f1 f2 : Str} {C fI cda cc : Addr} {params : Arguments} {scope : Scope} {arg : Expr} {p0 p1 p2 p3 p4 q1 q2 q3 q4 r1 r2 r3 r4 p pos : Pos}
abbrev sSup (arg : Expr) (p0 p1 p2 p3 p4 : Pos) : Stmt := .Expr (.Call (.Attribute (.Call (.Name "super" p0) [] [] p1) "__init__" p2) [arg] [] p3) p4
abbrev sSet (f : Str) (q1 q2 q3 q4 : Pos) : Stmt := .Assign [.Attribute (.Name "self" q1) f q2] (.Name f q3) q4
/-- plain looks at the text -/
def ScB (params : Arguments) (scope : Scope) (fs : List Str) : Bool :=
  decide ((params.posonlyargs ++ params.args).head?.map (·.arg) = some ("self" : Str)) && (decide (scope.kind = .function) && (decide (scope.names.lookup ("super" : Str) = some .globalImplicit) && (decide (scope.names.lookup ("__class__" : Str) = some .free) &&
    (decide (scope.names.lookup ("self" : Str) = some .local) && (!scope.isCoroutine && (!scope.isGenerator && (scope.names.all (fun y => !decide (y.2 = .cell)) && fs.all fun f => decide (scope.names.lookup f = some .local) && !(f == ("__debug__" : Str)))))))))
theorem len_le {vs : List L2.V} {us : List Value} (r : L2.Vals vs us) : us.length = vs.length := r.length.symm
/-- C(e), __init__(self, f1) -/
theorem pmk1 {e : Expr} {ta : L2.TA} {k : Nat} {okV : L2.V → Prop} (T : Facts X.prog X.K C fI cda cc params [sSup arg p0 p1 p2 p3 p4, sSet f1 q1 q2 q3 q4] scope) (hn1 : findIn X.K (.ref C) f1 = some none) (sb : ScB params scope [f1] = true) (hsf : (f1 == ("self" : Str)) = false)
    (b6 : (X.prog.main.scope.names.lookup ("super" : Str)).isSome = false) (hr : L2.Room (k + 1) X.A) (hm : X.mg "super" = none) (hg : L2.Gl X x) (hx : X.mg x = some (.ref C)) (ha : L2.PA X [e] ta)
    (hb : ∀ name qual body cl kV doc pm an cdv ct (u0 u1 : Value) (s : Shared), BindsTo s (fnX name qual params body scope cl .none kV doc pm an cdv ct) ⟨[u0, u1], []⟩ [("self", u0), (f1, u1)])
    (harg : ∀ (q : Str) (L : Addr) (m : Str → Option Value) (v : L2.V) (u : Value) (A' : Around) (E' : Value → Shared → Prop) (s : Shared) (Q : Value → Shared → Prop), okV v → L2.RelV v u → m f1 = some u → s.heap.Ns L m → (∀ v tk, Q v { s with toks := tk }) → wpAny (model X.prog X.w) A' (eval arg (ev q scope L fI cda cc)) Q E' s)
    (hol : OneLine arg scope fI cda cc p0 p1 p2 p3) (hst : ∀ env, starEach [arg] env = (false, eval arg env) :: starEach [] env) (hdb : (x == ("__debug__" : Str)) = false := by decide) (he : starEach [e] X.env = (false, eval e X.env) :: starEach [] X.env := by rfl) :
    L2.PMk X (.Call (.Name x p) [e] [] pos) (fun σ H Q => ta σ H fun vs H1 => ∃ v, vs = [v] ∧ okV v ∧ ∀ d, Q (.ref C) (some d) H1) := by
  intro pins s σ H Q I h
  obtain ⟨nm, qq, N, bs, bm, sn, sub, ab, col, dd, k0, k1, k2, k3, k5, hC, hbm⟩ := T.oc.cls
  obtain ⟨oc, od, osl, name, qual, kV, doc, pm, an, ct, lk, hcd⟩ := T.lk
  unfold ScB at sb
  simp only [Bool.and_eq_true, decide_eq_true_eq, Bool.not_eq_true', List.all_cons, List.all_nil, Bool.and_true, List.all_eq_true] at sb
  obtain ⟨b1, b2, b3, b4, b5, b7, b8, b9, b10, b11⟩ := sb
  have hcell : ∀ y ∈ scope.names, y.2 ≠ .cell := fun y hy => by
    have := b9 y hy
    simpa using this
  refine wpAny_Call_Name_kw (L2.ld_glob I hg hx ?_ hdb)
  refine callWith_K (h₀ := X.base) I.ok.mod.kin T.oc.kC (L2.thn (ha.run pos pins s σ H _ I h) fun us s1 ⟨vs, H1, I1, r1, v, ev1, ov, qq1⟩ => ⟨I1.kIn, ?_⟩) he rfl
  subst ev1
  cases r1 with
  | @cons _ u0 _ ur ru rn =>
  cases rn
  show wpAny _ _ (call (.ref C) [u0]) _ _ _
  have hm1 := I1.mod
  obtain ⟨hp, g, dr, tk, os⟩ := s1
  have kk : ∀ b o, hp.get? b = some o → ((hp.push (kdv_tup [u0])).push (PySem.HandSPX.excO C hp.objs.size)).get? b = some o := fun b o e => Heap.get?_push_of_some _ (Heap.get?_push_of_some _ e)
  have hget : ((hp.push (kdv_tup [u0])).push (PySem.HandSPX.excO C hp.objs.size)).get? (hp.objs.size + 1) = some (exR C hp.objs.size none) := by heap_get
  have bk : ∀ b o, X.base.get? b = some o → hp.get? b = some o := I1.bk
  have X1 : X.K.In ((hp.push (kdv_tup [u0])).push (PySem.HandSPX.excO C hp.objs.size)) := (I1.kIn).keeps kk
  refine wpAny_call (PySem.HandSPX.call_own F.excBase_ValueError (fun Y => PySem.HandSPX.refsVE_contains Y bm hbm) (I1.kIn _ _ hC) (looks_findIn I1.kIn T.iC) (fun self => bind_fn I1.kIn self T.tI) (by show 1 ≤ sizeLine; decide) ?_)
  refine ks_codeAny_call_defAt (fd := fnX name qual params [sSup arg p0 p1 p2 p3 p4, sSet f1 q1 q2 q3 q4] scope [("__class__", cc)] .none kV doc pm an (.ref cda) ct) (binds := [("self", .ref (hp.objs.size + 1)), (f1, u0)]) (hr.make C [u0] []).depth (X1 _ _ lk) rfl (I1.nolimit.keeps kk) (codeRec_of X1 hcd) rfl
    (hb _ _ _ _ _ _ _ _ _ _ _ _ _) hcell (fun y hy => ?_) (fun h₀ hns hk0 => ?_) b7 b8 b2
  · rcases List.mem_cons.mp hy with z | z
    · rw [z]; exact b5
    · rw [List.mem_singleton.mp z]; exact b10
  · have e0 : h₀.get? (hp.objs.size + 1) = some (exR C hp.objs.size none) := hk0 _ _ hget
    have kb : ∀ b o, hp.get? b = some o → h₀.get? b = some o := fun b o z => hk0 _ _ (kk b o z)
    have hself : (fun y => ([("self", Value.ref (hp.objs.size + 1)), (f1, u0)] : List (Str × Value)).reverse.lookup y) "self" = some (.ref (hp.objs.size + 1)) := by
      show List.lookup ("self" : Str) [(f1, u0), ("self", Value.ref (hp.objs.size + 1))] = _
      have : (("self" : Str) == f1) = false := by rw [Bool.eq_false_iff] at hsf ⊢; intro z; exact hsf (by rw [beq_iff_eq] at z ⊢; exact z.symm)
      rw [List.lookup, this]; simp [List.lookup]
    have hf1 : (fun y => ([("self", Value.ref (hp.objs.size + 1)), (f1, u0)] : List (Str × Value)).reverse.lookup y) f1 = some u0 := by
      show List.lookup f1 [(f1, u0), ("self", Value.ref (hp.objs.size + 1))] = _
      simp [List.lookup]
    have nC : hp.objs.size + 1 ≠ C := fun z => by
      have h3 : C < hp.objs.size := Heap.lt_size (I1.kIn _ _ hC)
      rw [← z] at h3
      exact absurd h3 (Nat.not_lt.mpr (Nat.le_succ _))
    have lt : ∀ {b o}, hp.get? b = some o → b ≠ hp.objs.size + 1 := fun {b o} z => by
      have h3 : b < hp.objs.size := Heap.lt_size z
      intro y
      rw [y] at h3
      exact absurd h3 (Nat.not_lt.mpr (Nat.le_succ _))
    refine ks_wpAt_execs_cons (super_stmt T hm1 (fun b o z => kb _ _ (bk b o z)) e0 hns hself hm nC b1 b2 b3 b4 b5 b6 (fun A' E' s Q hn hq => harg _ _ _ v u0 A' E' s Q ov ru hf1 hn hq) (hst _) (fun h' t1 tk' k1 e1 => ?_) rfl hol)
    have kb1 : ∀ b o, hp.get? b = some o → h'.get? b = some o := fun b o z => k1 b o (lt z) (kb b o z)
    have hns1 : h'.Ns ((hp.push (kdv_tup [u0])).push (PySem.HandSPX.excO C hp.objs.size)).objs.size _ := hns.at fun o z => k1 _ _ (by rw [Heap.size_push, Heap.size_push]; exact Nat.succ_ne_self _) z
    refine ks_wpAt_execs_cons (set_first T.oc ((I1.kIn).keeps kb1) e1 hns1 hself hf1 hn1 b2 b5 b10 b11 (fun h2 dx tk2 k2 dn e2 _ => ?_))
    refine wpAt_of_wpAny (wpAny_execs_nil ?_)
    refine ⟨rfl, hp.objs.size + 1, _, _, ⟨hp, g, dr, tk, os⟩, H1, .ref C, some dx, rfl, I1, fun b o z => k2 b o (lt z) (kb1 b o z), ?_, e2, ⟨rfl, rfl⟩, rfl, rfl, ?_, rfl, I1.bare, L2.raises_own T.oc.exC T.oc.tyC, qq1 dx⟩
    · cases z : hp.get? (hp.objs.size + 1) with
      | none => rfl
      | some o => exact absurd rfl (lt z)
    · exact I1.hok.fresh (Nat.le_succ _)
/-- C(e, e'), __init__(self, f1, f2) -/
theorem pmk2 {e e' : Expr} {ta : L2.TA} {k : Nat} {okV : L2.V → L2.V → Prop} (T : Facts X.prog X.K C fI cda cc params [sSup arg p0 p1 p2 p3 p4, sSet f1 q1 q2 q3 q4, sSet f2 r1 r2 r3 r4] scope) (hn1 : findIn X.K (.ref C) f1 = some none) (hn2 : findIn X.K (.ref C) f2 = some none) (h12 : (f1 == f2) = false) (sb : ScB params scope [f1, f2] = true) (hsf : (f1 == ("self" : Str)) = false) (hsf2 : (f2 == ("self" : Str)) = false)
    (b6 : (X.prog.main.scope.names.lookup ("super" : Str)).isSome = false) (hr : L2.Room (k + 1) X.A) (hm : X.mg "super" = none) (hg : L2.Gl X x) (hx : X.mg x = some (.ref C)) (ha : L2.PA X [e, e'] ta)
    (hb : ∀ name qual body cl kV doc pm an cdv ct (u0 u1 u2 : Value) (s : Shared), BindsTo s (fnX name qual params body scope cl .none kV doc pm an cdv ct) ⟨[u0, u1, u2], []⟩ [("self", u0), (f1, u1), (f2, u2)])
    (harg : ∀ (q : Str) (L : Addr) (m : Str → Option Value) (v v' : L2.V) (u u' : Value) (A' : Around) (E' : Value → Shared → Prop) (s : Shared) (Q : Value → Shared → Prop), okV v v' → L2.RelV v u → L2.RelV v' u' → m f1 = some u → m f2 = some u' → s.heap.Ns L m → (∀ v tk, Q v { s with toks := tk }) → wpAny (model X.prog X.w) A' (eval arg (ev q scope L fI cda cc)) Q E' s)
    (hol : OneLine arg scope fI cda cc p0 p1 p2 p3) (hst : ∀ env, starEach [arg] env = (false, eval arg env) :: starEach [] env) (hdb : (x == ("__debug__" : Str)) = false := by decide) (he : starEach [e, e'] X.env = (false, eval e X.env) :: starEach [e'] X.env := by rfl) (hpl : (backTo pos (starEach [e'] X.env)).any (·.1) = false := by rfl) :
    L2.PMk X (.Call (.Name x p) [e, e'] [] pos) (fun σ H Q => ta σ H fun vs H1 => ∃ v v', vs = [v, v'] ∧ okV v v' ∧ ∀ d, Q (.ref C) (some d) H1) := by
  intro pins s σ H Q I h
  obtain ⟨nm, qq, N, bs, bm, sn, sub, ab, col, dd, k0, k1, k2, k3, k5, hC, hbm⟩ := T.oc.cls
  obtain ⟨oc, od, osl, name, qual, kV, doc, pm, an, ct, lk, hcd⟩ := T.lk
  unfold ScB at sb
  simp only [Bool.and_eq_true, decide_eq_true_eq, Bool.not_eq_true', List.all_cons, List.all_nil, Bool.and_true, List.all_eq_true] at sb
  obtain ⟨b1, b2, b3, b4, b5, b7, b8, b9, ⟨b10, b11⟩, b12, b13⟩ := sb
  have hcell : ∀ y ∈ scope.names, y.2 ≠ .cell := fun y hy => by
    have := b9 y hy
    simpa using this
  refine wpAny_Call_Name_kw (L2.ld_glob I hg hx ?_ hdb)
  refine callWith_K (h₀ := X.base) I.ok.mod.kin T.oc.kC (L2.thn (ha.run pos pins s σ H _ I h) fun us s1 ⟨vs, H1, I1, r1, v, v', ev1, ov, qq1⟩ => ⟨I1.kIn, ?_⟩) he hpl
  subst ev1
  cases r1 with
  | @cons _ u0 _ ur ru rn =>
  cases rn with
  | @cons _ u2 _ ur2 ru2 rn2 =>
  cases rn2
  show wpAny _ _ (call (.ref C) [u0, u2]) _ _ _
  have hm1 := I1.mod
  obtain ⟨hp, g, dr, tk, os⟩ := s1
  have kk : ∀ b o, hp.get? b = some o → ((hp.push (kdv_tup [u0, u2])).push (PySem.HandSPX.excO C hp.objs.size)).get? b = some o := fun b o e => Heap.get?_push_of_some _ (Heap.get?_push_of_some _ e)
  have hget : ((hp.push (kdv_tup [u0, u2])).push (PySem.HandSPX.excO C hp.objs.size)).get? (hp.objs.size + 1) = some (exR C hp.objs.size none) := by heap_get
  have bk : ∀ b o, X.base.get? b = some o → hp.get? b = some o := I1.bk
  have X1 : X.K.In ((hp.push (kdv_tup [u0, u2])).push (PySem.HandSPX.excO C hp.objs.size)) := (I1.kIn).keeps kk
  refine wpAny_call (PySem.HandSPX.call_own F.excBase_ValueError (fun Y => PySem.HandSPX.refsVE_contains Y bm hbm) (I1.kIn _ _ hC) (looks_findIn I1.kIn T.iC) (fun self => bind_fn I1.kIn self T.tI) (by show 2 ≤ sizeLine; decide) ?_)
  refine ks_codeAny_call_defAt (fd := fnX name qual params [sSup arg p0 p1 p2 p3 p4, sSet f1 q1 q2 q3 q4, sSet f2 r1 r2 r3 r4] scope [("__class__", cc)] .none kV doc pm an (.ref cda) ct) (binds := [("self", .ref (hp.objs.size + 1)), (f1, u0), (f2, u2)]) (hr.make C [u0, u2] []).depth (X1 _ _ lk) rfl (I1.nolimit.keeps kk) (codeRec_of X1 hcd) rfl
    (hb _ _ _ _ _ _ _ _ _ _ _ _ _ _) hcell (fun y hy => ?_) (fun h₀ hns hk0 => ?_) b7 b8 b2
  · rcases List.mem_cons.mp hy with z | z
    · rw [z]; exact b5
    · rcases List.mem_cons.mp z with z | z
      · rw [z]; exact b10
      · rw [List.mem_singleton.mp z]; exact b12
  · have e0 : h₀.get? (hp.objs.size + 1) = some (exR C hp.objs.size none) := hk0 _ _ hget
    have kb : ∀ b o, hp.get? b = some o → h₀.get? b = some o := fun b o z => hk0 _ _ (kk b o z)
    have hb0 : ∀ y, (fun y => ([("self", Value.ref (hp.objs.size + 1)), (f1, u0), (f2, u2)] : List (Str × Value)).reverse.lookup y) y = if y = f2 then some u2 else if y = f1 then some u0 else if y = ("self" : Str) then some (.ref (hp.objs.size + 1)) else none := fun y => by
      show List.lookup y [(f2, u2), (f1, u0), ("self", Value.ref (hp.objs.size + 1))] = _
      by_cases y2 : y = f2
      · simp [List.lookup, y2]
      · by_cases y1 : y = f1
        · subst y1
          simp [List.lookup, h12]
          intro z; exact absurd z y2
        · by_cases ys : y = ("self" : Str)
          · subst ys
            have a1 : (("self" : Str) == f2) = false := by simpa using y2
            have a2 : (("self" : Str) == f1) = false := by simpa using y1
            simp [List.lookup, a1, a2, y2, y1]
          · have a1 : (y == f2) = false := by simpa using y2
            have a2 : (y == f1) = false := by simpa using y1
            have a3 : (y == ("self" : Str)) = false := by simpa using ys
            simp [List.lookup, a1, a2, a3, y2, y1, ys]
    have nsf : ("self" : Str) ≠ f1 := fun z => by rw [← z] at hsf; simp at hsf
    have nsf2 : ("self" : Str) ≠ f2 := fun z => by rw [← z] at hsf2; simp at hsf2
    have n12 : f1 ≠ f2 := fun z => by rw [z] at h12; simp at h12
    have hself := hb0 "self"
    rw [if_neg nsf2, if_neg nsf, if_pos rfl] at hself
    have hf1 := hb0 f1
    rw [if_neg n12, if_pos rfl] at hf1
    have hf2 := hb0 f2
    rw [if_pos rfl] at hf2
    have nC : hp.objs.size + 1 ≠ C := fun z => by
      have h3 : C < hp.objs.size := Heap.lt_size (I1.kIn _ _ hC)
      rw [← z] at h3
      exact absurd h3 (Nat.not_lt.mpr (Nat.le_succ _))
    have lt : ∀ {b o}, hp.get? b = some o → b ≠ hp.objs.size + 1 := fun {b o} z => by
      have h3 : b < hp.objs.size := Heap.lt_size z
      intro y
      rw [y] at h3
      exact absurd h3 (Nat.not_lt.mpr (Nat.le_succ _))
    refine ks_wpAt_execs_cons (super_stmt T hm1 (fun b o z => kb _ _ (bk b o z)) e0 hns hself hm nC b1 b2 b3 b4 b5 b6 (fun A' E' s Q hn hq => harg _ _ _ v v' u0 u2 A' E' s Q ov ru ru2 hf1 hf2 hn hq) (hst _) (fun h' t1 tk' k1 e1 => ?_) rfl hol)
    have kb1 : ∀ b o, hp.get? b = some o → h'.get? b = some o := fun b o z => k1 b o (lt z) (kb b o z)
    have hns1 : h'.Ns ((hp.push (kdv_tup [u0, u2])).push (PySem.HandSPX.excO C hp.objs.size)).objs.size _ := hns.at fun o z => k1 _ _ (by rw [Heap.size_push, Heap.size_push]; exact Nat.succ_ne_self _) z
    refine ks_wpAt_execs_cons (set_first T.oc ((I1.kIn).keeps kb1) e1 hns1 hself hf1 hn1 b2 b5 b10 b11 (fun h2 dx tk2 k2 dn e2 hd2 => ?_))
    obtain ⟨m0, nl, hd2, hw2, hl2⟩ := hd2
    have kb2 : ∀ b o, hp.get? b = some o → h2.get? b = some o := fun b o z => k2 b o (lt z) (kb1 b o z)
    have hns2 := hns1.at (h' := h2) fun o z => k2 _ _ (by rw [Heap.size_push, Heap.size_push]; exact Nat.succ_ne_self _) z
    refine ks_wpAt_execs_cons (set_more T.oc ((I1.kIn).keeps kb2) e2 hns2 hd2 hw2 (by omega) hself hf2 hn2 b2 b5 b12 b13 (fun h3 tk3 k3 => ?_))
    have nd : ∀ {b o}, h'.get? b = some o → b ≠ dx := fun {b o} z => Nat.ne_of_lt (Nat.lt_of_lt_of_le (Heap.lt_size z) dn)
    refine wpAt_of_wpAny (wpAny_execs_nil ?_)
    refine ⟨rfl, hp.objs.size + 1, _, _, ⟨hp, g, dr, tk, os⟩, H1, .ref C, some dx, rfl, I1, fun b o z => k3 b o (nd (kb1 b o z)) (kb2 b o z), ?_, k3 _ _ (nd e1) e2, ⟨rfl, rfl⟩, rfl, rfl, ?_, rfl, I1.bare, L2.raises_own T.oc.exC T.oc.tyC, qq1 dx⟩
    · cases z : hp.get? (hp.objs.size + 1) with
      | none => rfl
      | some o => exact absurd rfl (lt z)
    · exact I1.hok.fresh (Nat.le_succ _)
end
end We

end
section
set_option maxHeartbeats 4000000
/-! WX: the errors of the text. -/
namespace Wf
open PySem PySem.Spec PyProof.Rows L2
def initS (i : Nat) : Stmt := (match topS i with | .ClassDef (body := b) .. => b | _ => []).getD 0 (.Pass ⟨0, 0, 0, 0⟩)
/-- an error class of the text, at C -/
structure Er (P : Program) (K : PySem.W.Frag) (mg : Str → Option Value) (x : Str) (i : Nat) (fs : List Str) (C : Addr) : Prop where
  g : mg x = some (.ref C)
  F : ∃ fI cda cc, We.Facts P K C fI cda cc (defArgs (initS i)) (defBody (initS i)) (defScope (initS i))
  no : ∀ f ∈ fs, PySem.W.findIn K (.ref C) f = some none
/-- where the error classes stand -/
structure Es where
  we : Addr
  np : Addr
  ms : Addr
  rg : Addr
  tk : Addr
  bp : Addr
  tC : Addr
  tT : Addr
  tN : Addr
structure Ty (P : Program) (K : PySem.W.Frag) (mg : Str → Option Value) (base : Heap) (e : Es) : Prop extends Tx K mg where
  tab : ∀ (x : Str) (t : Addr), (x, t) ∈ [(("check_free" : Str), e.tC), (("take_out" : Str), e.tT), (("is_name" : Str), e.tN)] → ∀ (f : Addr) (oc : Value) (od : Option Addr) (fd : FuncData) (osl : Array (Option Value)), mg x = some (.ref f) → K.lookup f = some ⟨oc, od, .func fd, osl⟩ → ∃ c, fd.code = .ref c ∧ GxR.TabB base mg c t
  sup : mg "super" = none
  top : (P.main.scope.names.lookup ("super" : Str)).isSome = false
  eNP : Er P K mg "NoPiece" 3 ["name"] e.np
  eMS : Er P K mg "Missing" 4 ["line", "name"] e.ms
  eRG : Er P K mg "Ring" 5 ["names"] e.rg
  eTK : Er P K mg "Taken" 7 ["name"] e.tk
  gBP : mg "BadPlace" = some (.ref e.bp)
  xBP : PySem.W.excIn K e.bp [.type "ValueError", .type "Exception", .type "BaseException", .type "object"] "ValueError.__new__" = true
  kBP : PySem.W.keepIn K (.ref e.bp) = true
  bBP : PySem.W.subIn K (.ref e.bp) (.type "BaseException") = some true
  tBP : PySem.W.typeIn K (.ref e.bp) = some (.type "type")
section
variable {X : Cx} {x y : Expr} {ta : TA} {p pos : PySem.Pos} {k : Nat} {E : Es}
/-- NoPiece(e) -/
theorem pmk_np (T : Ty X.prog X.K X.mg X.base E) (hr : Room (k + 1) X.A) (hg : Gl X "NoPiece") (ha : PA X [x] ta) (he : starEach [x] X.env = (false, eval x X.env) :: starEach [] X.env := by rfl) :
    PMk X (.Call (.Name "NoPiece" p) [x] [] pos) (fun σ H Q => ta σ H fun vs H1 => ∃ v, vs = [v] ∧ (∃ z : Str, v = .str z ∧ z.length ≤ 1000) ∧ ∀ d, Q (.ref E.np) (some d) H1) := by
  obtain ⟨fI, cda, cc, F⟩ := T.eNP.F
  refine We.pmk1 (f1 := "name") (okV := fun v => ∃ z : Str, v = .str z ∧ z.length ≤ 1000) F (T.eNP.no _ (by simp)) (by decide +kernel) (by decide) T.top hr T.sup hg T.eNP.g ha (fun _ _ _ _ _ _ _ _ _ _ _ _ _ => BindsTo.of_eq rfl) (fun q L m v u A' E' s Q ov ru hm hn hq => ?_) (fun q L => ⟨_, rfl⟩) (fun _ => rfl) (by decide) he
  obtain ⟨z, rfl, hz⟩ := ov
  obtain ⟨t, rfl⟩ := ru
  exact We.arg_join (We.jr_cst (by decide +kernel) (We.jr_str hm rfl rfl rfl (by decide) hz We.jr_nil)) (by decide) hn hq
/-- Taken(e) -/
theorem pmk_tk (T : Ty X.prog X.K X.mg X.base E) (hr : Room (k + 1) X.A) (hg : Gl X "Taken") (ha : PA X [x] ta) (he : starEach [x] X.env = (false, eval x X.env) :: starEach [] X.env := by rfl) :
    PMk X (.Call (.Name "Taken" p) [x] [] pos) (fun σ H Q => ta σ H fun vs H1 => ∃ v, vs = [v] ∧ (∃ z : Str, v = .str z ∧ z.length ≤ 1000) ∧ ∀ d, Q (.ref E.tk) (some d) H1) := by
  obtain ⟨fI, cda, cc, F⟩ := T.eTK.F
  refine We.pmk1 (f1 := "name") (okV := fun v => ∃ z : Str, v = .str z ∧ z.length ≤ 1000) F (T.eTK.no _ (by simp)) (by decide +kernel) (by decide) T.top hr T.sup hg T.eTK.g ha (fun _ _ _ _ _ _ _ _ _ _ _ _ _ => BindsTo.of_eq rfl) (fun q L m v u A' E' s Q ov ru hm hn hq => ?_) (fun q L => ⟨_, rfl⟩) (fun _ => rfl) (by decide) he
  obtain ⟨z, rfl, hz⟩ := ov
  obtain ⟨t, rfl⟩ := ru
  exact We.arg_join (We.jr_cst (by decide +kernel) (We.jr_str hm rfl rfl rfl (by decide) hz (We.jr_cst (by decide +kernel) We.jr_nil))) (by decide) hn hq
/-- Ring(e) -/
theorem pmk_rg (T : Ty X.prog X.K X.mg X.base E) (hr : Room (k + 1) X.A) (hg : Gl X "Ring") (ha : PA X [x] ta) (he : starEach [x] X.env = (false, eval x X.env) :: starEach [] X.env := by rfl) :
    PMk X (.Call (.Name "Ring" p) [x] [] pos) (fun σ H Q => ta σ H fun vs H1 => ∃ v, vs = [v] ∧ True ∧ ∀ d, Q (.ref E.rg) (some d) H1) := by
  obtain ⟨fI, cda, cc, F⟩ := T.eRG.F
  refine We.pmk1 (f1 := "names") (okV := fun v => True) F (T.eRG.no _ (by simp)) (by decide +kernel) (by decide) T.top hr T.sup hg T.eRG.g ha (fun _ _ _ _ _ _ _ _ _ _ _ _ _ => BindsTo.of_eq rfl) (fun q L m v u A' E' s Q ov ru hm hn hq => ?_) (fun q L => ⟨_, rfl⟩) (fun _ => rfl) (by decide) he
  exact Calls.Constant_str (hq _ _)
/-- Missing(e, e') -/
theorem pmk_ms (T : Ty X.prog X.K X.mg X.base E) (hr : Room (k + 1) X.A) (hg : Gl X "Missing") (ha : PA X [x, y] ta) (he : starEach [x, y] X.env = (false, eval x X.env) :: starEach [y] X.env := by rfl) (hpl : (backTo pos (starEach [y] X.env)).any (·.1) = false := by rfl) :
    PMk X (.Call (.Name "Missing" p) [x, y] [] pos) (fun σ H Q => ta σ H fun vs H1 => ∃ v v', vs = [v, v'] ∧ ((∃ i : Int, v = .int i ∧ i.natAbs ≤ 1000000) ∧ ∃ z : Str, v' = .str z ∧ z.length ≤ 1000) ∧ ∀ d, Q (.ref E.ms) (some d) H1) := by
  obtain ⟨fI, cda, cc, F⟩ := T.eMS.F
  refine We.pmk2 (f1 := "line") (f2 := "name") (okV := fun v v' => (∃ i : Int, v = .int i ∧ i.natAbs ≤ 1000000) ∧ ∃ z : Str, v' = .str z ∧ z.length ≤ 1000) F (T.eMS.no _ (by simp)) (T.eMS.no _ (by simp)) (by decide) (by decide +kernel) (by decide) (by decide) T.top hr T.sup hg T.eMS.g ha (fun _ _ _ _ _ _ _ _ _ _ _ _ _ _ => BindsTo.of_eq rfl) (fun q L m v v' u u' A' E' s Q ov ru ru' hm hm' hn hq => ?_) (fun q L => ⟨_, rfl⟩) (fun _ => rfl) (by decide) he hpl
  obtain ⟨⟨i, rfl, hi⟩, z, rfl, hz⟩ := ov
  obtain ⟨t, rfl⟩ := ru
  obtain ⟨t', rfl⟩ := ru'
  exact We.arg_join (We.jr_cst (by decide +kernel) (We.jr_int hm rfl rfl rfl (by decide) hi (We.jr_cst (by decide +kernel) (We.jr_str hm' rfl rfl rfl (by decide) hz We.jr_nil)))) (by decide) hn hq
end
end Wf

end
section
set_option maxHeartbeats 4000000
/-! WG: any, all of a generator expression whose walked thing and whose test are told at the library's level. -/
namespace Wg
open PySem PySem.Spec PyProof.Rows L2 GxR
/-- the walked thing xv at s1: n items, of which Pf tells -/
def Walk1 (X : Cx) (P : Addr) (s1 : Shared) (xv : Value) (n : Nat) (Pf : Nat → Value → Prop) : Prop :=
  ∀ (E : Value → Shared → Prop) (Q : Value → Shared → Prop), (∀ (o : Obj) (fp : List Addr) (St : Nat → Heap → Prop), (∀ A' : Around, A'.handled = none → Walks X.prog X.w A' s1.heap.objs.size fp [s1.heap.objs.size] n Pf St) → St 0 (s1.heap.push o) → (∀ b ∈ fp, b < s1.heap.objs.size + 1) → P ∉ fp →
    Q (.ref s1.heap.objs.size) { s1 with heap := s1.heap.push o }) → wpAny (model X.prog X.w) X.A (pyIter xv) Q E s1
/-- the test of the i-th item says tr i -/
def Elt1 (X : Cx) (P : Addr) (s1 : Shared) (scope : Scope) (elt : Expr) (x : Str) (Pf : Nat → Value → Prop) (tr : Nat → Bool) : Prop :=
  ∀ (cenv : Env) (A' : Around) (E' : Value → Shared → Prop) (i : Nat) (v : Value) (s₂ : Shared) (m₂ : Str → Option Value), cenv.scope = scope → cenv.globals = mainGlobals → cenv.cells = cloFrom X.env.cells scope.names [] → A'.handled = none → A'.depth ≤ X.A.depth + 1 → A'.units ≤ X.A.units + 8 →
    Pf i v → s₂.heap.Ns cenv.locals m₂ → m₂ x = some v → (∀ b o, b ≠ P → s1.heap.get? b = some o → s₂.heap.get? b = some o) → wpAny (model X.prog X.w) A' (eval elt cenv) (fun y s₃ => y = .bool (tr i) ∧ Keeps s₂ s₃) E' s₂
section
variable {X : Cx} {pins : List (Addr × Obj)} {σ : L2.St} {H : Hp} {s : Shared}
/-- the generator g, ready to be walked, in the state s5 -/
def ReadyG (X : Cx) (pins : List (Addr × Obj)) (σ : L2.St) (H1 : Hp) (P : Addr) (n : Nat) (tr : Nat → Bool) (g : Addr) (s5 : Shared) : Prop :=
  ∃ (fp wr : List Addr) (G : Array GenState → Array GenState → Prop) (F : Nat → Value → Prop) (St : Nat → Shared → Prop),
    WalksS X.prog X.w X.A.in1 g fp wr G n F St ∧ St 0 s5 ∧ TruthOf X.prog X.w X.A.in1 F tr ∧ ∀ s', Moved wr G s5 s' → ∃ H2, Tabbed P H1 H2 ∧ Inv X pins σ H2 s'
theorem gen_core {c P : Addr} {elt iter : Expr} {x : Str} {px gpos : Pos} {scope : Scope} {te : TE} {k : Nat} {Q' : Value → Shared → Prop} {R : Nat → (Nat → Bool) → Hp → Prop}
    (hr : Room k X.A) (TB : TabB X.base X.mg c P) (hcode : X.env.code = .ref c) (S : GenS X.env scope x) (hi : PE X iter te)
    (hs : ∀ v, genFold iter X.env v = pure v) (I : Inv X pins σ H s)
    (h : te σ H fun v H1 => ∃ (n : Nat) (tr : Nat → Bool), TabG H1 P ∧ (∀ pins s1 xv, Inv X pins σ H1 s1 → RelV v xv → ∃ Pf, Walk1 X P s1 xv n Pf ∧ Elt1 X P s1 scope elt x Pf tr) ∧ R n tr H1)
    (hQ : ∀ n tr H1 g s5, R n tr H1 → ReadyG X pins σ H1 P n tr g s5 → Q' (.ref g) s5) :
    wpAny (model X.prog X.w) X.A (eval (.GeneratorExp elt [⟨.Name x px, iter, [], 0⟩] scope gpos) X.env) Q' X.xe s := by
  refine wpAny_GeneratorExp_walksQD hr.hd S.co (closure_ok S.free) S.cell S.dot S.loc S.kind (by have := hr.dp; omega) ?_ hs
  refine thn (hi.run pins s σ H _ I h) fun xv s1 ⟨v, H1, I1, r1, q1⟩ => ?_
  obtain ⟨n, tr, ⟨ps, hP, ht⟩, hw, q1⟩ := q1
  obtain ⟨Pf, hW, hE⟩ := hw pins s1 xv I1 r1
  refine hW _ _ fun o fp St W hst hfp hPfp => ?_
  have hPs : s1.heap.get? P = some { cls := .none, data := .fields ps } := I1.hok P _ hP
  have hPlt : P < s1.heap.objs.size := Heap.lt_size hPs
  have hP2 : (s1.heap.push o).get? P = some { cls := .none, data := .fields ps } := Heap.get?_push_of_some _ hPs
  have cd : PySem.W.CodeHd (s1.heap.push o) c P := TB.code.keeps fun b u e => Heap.get?_push_of_some _ (I1.bk b u e)
  have lim2 : (s1.heap.push o).NoLimit := I1.nolimit.push o
  have cont : ∀ (code : Value) (h3 : Heap) (tk : Nat) (ps' : Array Value), Heap.ExtBut P (s1.heap.push o) h3 → (s1.heap.push o).objs.size ≤ h3.objs.size → h3.get? P = some { cls := .none, data := .fields ps' } → (∃ more, ps' = ps ++ more) → TriplesOk ps'.toList →
      wpAny (model X.prog X.w) X.A (builtinsFor X.env.globals X.env.builtins) (fun bi s₄ =>
        ∃ Ia fp wr n₀ Pf St₀ pz F, Value.ref s1.heap.objs.size = .ref Ia ∧ (∀ A' : Around, A'.handled = none → Walks X.prog X.w A' Ia fp wr n₀ Pf St₀) ∧ St₀ 0 s₄.heap ∧ (∀ b ∈ fp, b < s₄.heap.objs.size) ∧ s₄.heap.NoLimit ∧ cStatics ∉ wr ∧
          (∀ href : Heap, (∀ b o, s₄.heap.get? b = some o → href.get? b = some o) →
            QuietGenD X.prog X.w (genEnv scope (cloFrom X.env.cells scope.names []) s₄.heap.objs.size code bi X.env) x [] elt (List.range s₄.heap.objs.size) wr Pf pz F href (X.A.depth + 1) (X.A.units + 8)) ∧
          (∀ a h₅ tk gs, gs.bare = true → s₄.heap.objs.size < a → h₅.objs.size = a + 1 → (∀ b o, s₄.heap.get? b = some o → h₅.get? b = some o) →
            WalksS X.prog X.w X.A.in4 a (a :: s₄.heap.objs.size :: List.range s₄.heap.objs.size) (s₄.heap.objs.size :: wr) (GenOnlyQ s₄.gens.size) (passing pz n₀ 0).length
              (fun j y => ∃ i, (passing pz n₀ 0)[j]? = some i ∧ F i y) (GenAt X.prog X.w X.A.in4 a s₄.gens.size s₄.heap.objs.size (List.range s₄.heap.objs.size) wr pz n₀ F) →
            GenAt X.prog X.w X.A.in4 a s₄.gens.size s₄.heap.objs.size (List.range s₄.heap.objs.size) wr pz n₀ F 0 { s₄ with gens := s₄.gens.push gs, toks := tk, heap := h₅ } →
            Q' (.ref a) { s₄ with gens := s₄.gens.push gs, toks := tk, heap := h₅ })) X.xe { s1 with heap := h3, toks := tk } := by
    intro code h3 tk ps' hx hsz hP3 hmore ht3
    obtain ⟨bm, ob, e1, e2, e3, e4, e5, e6, e7, e8⟩ := TB.bm
    have hcP : cStatics ≠ P := fun e => by
      obtain ⟨_, hns, _⟩ := I1.nolimit
      obtain ⟨o', es, ep, ho, hd, _⟩ := hns
      rw [e, hPs] at ho
      cases ho
      cases hd
    have hcl : cStatics < s1.heap.objs.size := let ⟨_, hns, _⟩ := I1.nolimit; hns.lt
    have sz2 : (s1.heap.push o).objs.size = s1.heap.objs.size + 1 := Heap.size_push ..
    have keep3 : ∀ b u, b ≠ P → s1.heap.get? b = some u → h3.get? b = some u := fun b u hb e => hx b u hb (Heap.get?_push_of_some _ e)
    refine wpAny_builtinsFor (m := X.mg) (by rw [I1.ok.glob]; exact ((I1.mod.glob.keeps I1.bk).push o).extBut hx TB.gP) e1 e2 (keep3 _ _ e4 (I1.bk _ _ e5)) e6 e7 e8 ?_
    refine ⟨s1.heap.objs.size, fp, [s1.heap.objs.size], n, Pf, St, (fun _ => true), (fun i y => y = .bool (tr i)), rfl, W, ?_, ?_, lim2.extBut hx hcP, ?_, ?_, ?_⟩
    · refine (W X.A hr.hd).frame _ _ _ hst fun b hb u e => hx b u (fun z => ?_) e
      rw [z] at hb
      exact hPfp hb
    · intro b hb
      have h9 : (s1.heap.push o).objs.size ≤ h3.objs.size := hsz
      rw [sz2] at h9
      exact Nat.lt_of_lt_of_le (hfp b hb) h9
    · intro z
      rcases List.mem_cons.mp z with z | z
      · exact Nat.ne_of_lt hcl z
      · cases z
    · intro href hhref
      refine ⟨fun A' E' i v s₂ m₂ hA _ _ hPv hn hm hk => ?_, fun A' E' i v s₂ m₂ hA hd hu hPv hp hn hm hk => ?_⟩
      · simp only [List.forIn_nil]
        exact wpAny_pure ⟨rfl, keeps_refl _⟩
      · refine hE _ A' E' i v s₂ m₂ rfl I1.ok.glob rfl hA hd hu hPv hn hm fun b u hb e => hk b ?_ ?_ u (hhref _ _ (keep3 b u hb e))
        · have h9 : (s1.heap.push o).objs.size ≤ h3.objs.size := hsz
          rw [sz2] at h9
          exact List.mem_range.mpr (Nat.lt_of_lt_of_le (Nat.lt_succ_of_lt (Heap.lt_size e)) h9)
        · intro z
          have hl := Heap.lt_size e
          rw [List.mem_singleton.mp z] at hl
          exact Nat.lt_irrefl _ hl
    · intro g h5 tk5 gs hgb hag hsz5 hk5 W5 hat
      simp only [GxR.passing_true, List.length_range] at W5
      refine hQ n tr H1 g _ q1 ⟨_, _, _, _, _, W5.in4_1, hat, ?_, fun s' hm => ?_⟩
      · intro j y sj Qj Ej hy hQj
        obtain ⟨i, hij, rfl⟩ := hy
        obtain ⟨hj, ej⟩ := List.getElem?_eq_some_iff.mp hij
        rw [List.getElem_range] at ej
        subst ej
        exact wpAny_truthy_bool hQj
      · obtain ⟨more, em⟩ := hmore
        have nwr : ∀ b u, s1.heap.get? b = some u → b ∉ h3.objs.size :: [s1.heap.objs.size] := fun b u e hb => by
          have hl := Heap.lt_size e
          rcases List.mem_cons.mp hb with z | z
          · rw [z] at hl
            have h9 : (h3.objs.size : Nat) < s1.heap.objs.size := hl
            omega
          · rcases List.mem_cons.mp z with z | z
            · rw [z] at hl
              exact Nat.lt_irrefl _ hl
            · cases z
        have J := inv_tab (more := more) (h' := s'.heap) (g' := s'.gens) (d' := s'.drawn) (t' := s'.toks) I1 hP (fun b u hb e => hm.heap b u (nwr b u e) (hk5 b u (keep3 b u hb e)))
          (by rw [← em]; exact hm.heap P _ (nwr P _ hPs) (hk5 P _ hP3)) (AllBare.movedS (I1.bare.push hgb) hm)
        rw [sh_eta s1 s' hm.os] at J
        refine ⟨upd H1 P (.tbl (ps ++ more)), ⟨⟨ps ++ more, upd_same, by rw [← em]; exact ht3⟩, fun b hb => upd_ne hb⟩, J⟩
  refine ⟨lim2, ?_⟩
  cases hf : codeAmong gpos ps.toList with
  | none =>
    refine wpAny_genexprCodeX hcode (cd.code hP2 ht) (cd.tab hP2) hf fun c' h' tk hx hge hlt hco' _ htab' _ => ?_
    obtain ⟨o1, vs, f1, tf, fl, tg, inF, tx, tt, op, _, _, _, _, _, _, _, _, _, htr, _⟩ := hco'
    exact cont _ h' tk _ hx (Nat.le_trans hge (Nat.le_of_lt hlt)) htab'.2 ⟨_, rfl⟩ htr
  | some cv =>
    refine wpAny_genexprCode_hit hcode (cd.code hP2 ht) hf ?_
    exact cont cv (s1.heap.push o) s1.toks ps (Heap.ExtBut.refl _ _) (Nat.le_refl _) hP2 ⟨#[], by simp⟩ ht
/-- the reading of any(..), all(..): Z makes the answer -/
def tGen (X : Cx) (P : Addr) (scope : Scope) (elt : Expr) (x : Str) (Z : Nat → (Nat → Bool) → Bool) (te : TE) : TE := fun σ H Q => te σ H fun v H1 => ∃ (n : Nat) (tr : Nat → Bool), TabG H1 P ∧ (∀ pins s1 xv, Inv X pins σ H1 s1 → RelV v xv → ∃ Pf, Walk1 X P s1 xv n Pf ∧ Elt1 X P s1 scope elt x Pf tr) ∧
  ∀ H2, Tabbed P H1 H2 → Q (.bl (Z n tr)) H2
theorem pe_anyG {c P : Addr} {elt iter : Expr} {x : Str} {px p pos gpos : Pos} {scope : Scope} {te : TE} {k : Nat}
    (hr : Room k X.A) (hg : Gl X "any") (hm : X.mg "any" = none) (TB : TabB X.base X.mg c P) (hcode : X.env.code = .ref c) (S : GenS X.env scope x) (hi : PE X iter te)
    (hs : ∀ v, genFold iter X.env v = pure v)
    (he : starEach [.GeneratorExp elt [⟨.Name x px, iter, [], 0⟩] scope gpos] X.env = (false, eval (.GeneratorExp elt [⟨.Name x px, iter, [], 0⟩] scope gpos) X.env) :: starEach [] X.env := by rfl) :
    PE X (.Call (.Name "any" p) [.GeneratorExp elt [⟨.Name x px, iter, [], 0⟩] scope gpos] [] pos) (tGen X P scope elt x (fun n tr => (List.range n).any tr) te) := by
  refine ⟨fun pins s σ H Q I h => ?_⟩
  refine wpAny_Call_Name_kw (ld_blt I hg hm boot_any ?_)
  refine PyProof.Rows.callWith_builtin1 ?_ he (by rfl)
  rw [he]
  show wpAny _ _ (spliced ((false, eval (.GeneratorExp elt [⟨.Name x px, iter, [], 0⟩] scope gpos) X.env) :: backTo pos (starEach [] X.env))) _ _ s
  refine Calls.spliced_cons (gen_core (R := fun n tr H1 => ∀ H2, Tabbed P H1 H2 → Q (.bl ((List.range n).any tr)) H2) hr TB hcode S hi hs I h fun n tr H1 g s5 hR hG => ?_)
  obtain ⟨fp, wr, G, F, St, W, hst, htr, hI⟩ := hG
  refine Calls.spliced_nil ?_
  refine call_any_walkS (W.self 0 _ _ _ hst ⟨g, fp, wr, G, _, F, St, _, rfl, W, hst, htr, fun s' hmv => ?_⟩)
  obtain ⟨H2, hT, J⟩ := hI s' hmv
  exact ⟨.bl _, H2, J, rfl, hR H2 hT⟩
theorem pe_allG {c P : Addr} {elt iter : Expr} {x : Str} {px p pos gpos : Pos} {scope : Scope} {te : TE} {k : Nat}
    (hr : Room k X.A) (hg : Gl X "all") (hm : X.mg "all" = none) (hb : bootBuiltins "all" = some (.builtin "all")) (TB : TabB X.base X.mg c P) (hcode : X.env.code = .ref c) (S : GenS X.env scope x) (hi : PE X iter te)
    (hs : ∀ v, genFold iter X.env v = pure v)
    (he : starEach [.GeneratorExp elt [⟨.Name x px, iter, [], 0⟩] scope gpos] X.env = (false, eval (.GeneratorExp elt [⟨.Name x px, iter, [], 0⟩] scope gpos) X.env) :: starEach [] X.env := by rfl) :
    PE X (.Call (.Name "all" p) [.GeneratorExp elt [⟨.Name x px, iter, [], 0⟩] scope gpos] [] pos) (tGen X P scope elt x (fun n tr => (List.range n).all tr) te) := by
  refine ⟨fun pins s σ H Q I h => ?_⟩
  refine wpAny_Call_Name_kw (ld_blt I hg hm hb ?_)
  refine PyProof.Rows.callWith_builtin1 ?_ he (by rfl)
  rw [he]
  show wpAny _ _ (spliced ((false, eval (.GeneratorExp elt [⟨.Name x px, iter, [], 0⟩] scope gpos) X.env) :: backTo pos (starEach [] X.env))) _ _ s
  refine Calls.spliced_cons (gen_core (R := fun n tr H1 => ∀ H2, Tabbed P H1 H2 → Q (.bl ((List.range n).all tr)) H2) hr TB hcode S hi hs I h fun n tr H1 g s5 hR hG => ?_)
  obtain ⟨fp, wr, G, F, St, W, hst, htr, hI⟩ := hG
  refine Calls.spliced_nil ?_
  refine call_all_walkS (W.self 0 _ _ _ hst ⟨g, fp, wr, G, _, F, St, _, rfl, W, hst, htr, fun s' hmv => ?_⟩)
  obtain ⟨H2, hT, J⟩ := hI s' hmv
  exact ⟨.bl _, H2, J, rfl, hR H2 hT⟩
end
end Wg

end
section
set_option maxHeartbeats 4000000
/-! WR3: tests at the library's level: a line's two fields, is_own, is_name_sign. -/
namespace Wg
open PySem PySem.Spec PyProof.Rows L2 GxR Wf
def LnAt (h : Heap) (u : Value) (l : Ln) : Prop := ∃ (p : Addr) (its : List Value), u = .ref p ∧ IsTup h p its.toArray ∧ Vals (lnV l) its
section
variable {prog : Program} {w : World} {A : Around} {E : Value → Shared → Prop} {s : Shared} {env : Env}
/-- t[k], k written -/
theorem ev_at {value : Expr} {j : Nat} {k : Nat} {kk : Int} {p2 p3 : PySem.Pos} {Q : Value → Shared → Prop} (hkk : kk = (k : Int)) (h : wpAny (model prog w) A (eval value env) (fun o s1 => ∃ t items x, o = .ref t ∧ IsTup s1.heap t items ∧ items.size ≤ 1000000000 ∧ items[k]? = some x ∧ ∀ tk, Q x { s1 with toks := tk }) E s) :
    wpAny (model prog w) A (eval (.Subscript value (.Constant (.int kk) j p2) p3) env) Q E s := by
  subst hkk
  refine Subscript_ (thn h fun o s1 hq => ?_)
  obtain ⟨t, items, x, rfl, ht, hz, hx, q⟩ := hq
  refine wpAny_Constant_int ?_
  have hlt := (Array.getElem?_eq_some_iff.mp hx).1
  have hseq : seqIndex? (k : Int) items.size = some k := by
    unfold seqIndex?
    simp only []
    split
    · omega
    · split
      · simp
      · rename_i h1 h2
        simp at h1 h2 ⊢
        omega
  exact subscriptTail_builtinR (x := x) ht.typeIs slot_tuple_getitem.lookup (getItem_tuple (j := k) (Q := fun r s' => r = x ∧ Q r s') ht (by omega) (by omega) hseq hx ⟨rfl, q _⟩) rfl
/-- what stands in a line's places -/
theorem vals_at {xs : List V} {us : List Value} (r : Vals xs us) {i : Nat} {v : V} (h : xs[i]? = some v) : ∃ u, us.toArray[i]? = some u ∧ RelV v u := by
  obtain ⟨u, hu, ru⟩ := r.get h
  exact ⟨u, by simpa using hu, ru⟩
theorem ln_small (l : Ln) : (lnV l).length ≤ 3 := by cases l <;> simp [lnV]
theorem str_beq (a b : Str) : (a.cps.toList == b.cps.toList) = decide (a = b) := by
  by_cases h : a = b
  · subst h; simp
  · have : ¬ a.cps.toList = b.cps.toList := fun z => h (by
      obtain ⟨x⟩ := a; obtain ⟨y⟩ := b
      have : x = y := Array.toList_inj.mp z
      rw [this])
    rw [decide_eq_false h]
    simpa using this
/-- is the line a reference to n? -/
def usesB (n : T) : Ln → Bool
  | .use _ m => decide (m = n)
  | _ => false
/-- line[0] == 'use' and line[2] == name -/
theorem ev_uses {x y : Str} {l : Ln} {n : T} {u : Value} {tn : Tok} {c : Addr} {m : Str → Option Value} {j0 j1 j2 : Nat} {p1 p2 p3 p4 p5 p6 p7 p8 p9 p10 p11 : PySem.Pos} {Q : Value → Shared → Prop}
    (hk : env.scope.kind = .function) (hx : env.scope.names.lookup x = some .local) (hy : env.scope.names.lookup y = some .free) (hc : env.cells.lookup y = some c) (hcell : s.heap.IsCell c (some (.str n tn))) (hn : s.heap.Ns env.locals m) (hm : m x = some u) (hl : LnAt s.heap u l)
    (hdx : (x == ("__debug__" : Str)) = false) (hdy : (y == ("__debug__" : Str)) = false) (hdy2 : (y == ("__classdict__" : Str)) = false) (hq : ∀ tk, Q (.bool (usesB n l)) { s with toks := tk }) :
    wpAny (model prog w) A (eval (.BoolOp .And [.Compare (.Subscript (.Name x p1) (.Constant (.int 0) j0 p2) p3) [.Eq] [.Constant (.str "use") j1 p4] p5, .Compare (.Subscript (.Name x p6) (.Constant (.int 2) j2 p7) p8) [.Eq] [.Name y p9] p10] p11) env) Q E s := by
  obtain ⟨p, its, rfl, ht, rv⟩ := hl
  have hlen : its.length ≤ 3 := by rw [← rv.length]; exact ln_small l
  have hz : its.toArray.size ≤ 1000000000 := by rw [List.size_toArray]; omega
  obtain ⟨k, k0, kh, kp, ku, kc⟩ := k_head l
  obtain ⟨u0, e0, r0⟩ := vals_at rv k0
  obtain ⟨t0, rfl⟩ := r0
  refine BoolOp_and (wpAny_Compare1 (ev_at (k := 0) rfl (wpAny_Name (wpAny_loadName_local hk hx hn hm ⟨p, _, _, rfl, ht, hz, e0, fun tk => ?_⟩) hdx)))
  refine Calls.Constant_str (PySem.P.eq_str (wpAny_truthy_bool ?_))
  rw [str_beq]
  by_cases hu : k = Str.ofString "use"
  · rw [decide_eq_true hu]
    obtain ⟨i, mm, rfl⟩ := ku.mp hu
    obtain ⟨u2, e2, r2⟩ := vals_at rv (i := 2) (v := .str mm) rfl
    obtain ⟨t2, rfl⟩ := r2
    refine BoolOp_one (wpAny_Compare1 (ev_at (k := 2) rfl (wpAny_Name (wpAny_loadName_local hk hx hn hm ⟨p, _, _, rfl, ht, hz, e2, fun tk2 => ?_⟩) hdx)))
    refine wpAny_Name (wpAny_loadName_free hk hy hc hcell ?_ hdy2) hdy
    refine PySem.P.eq_str ?_
    rw [str_beq]
    exact hq _
  · rw [decide_eq_false hu]
    have : usesB n l = false := by
      cases l with
      | use i mm => exact absurd (ku.mpr ⟨i, mm, rfl⟩) hu
      | _ => rfl
    have q := hq (tk + 1)
    rw [this] at q
    exact q
end
/-! ### an own def, called -/
section
variable {prog : Program} {w : World} {A : Around} {E : Value → Shared → Prop} {s : Shared} {K : PySem.W.Frag} {mg : Str → Option Value}
/-- a def of one return statement is called with all its arguments -/
theorem call_ret {x qual : Str} {st : Stmt} {f : Addr} {fd : FuncData} {ps : List Str} {us : List Value} {e : Expr} {pos : PySem.Pos} {Q : Value → Shared → Prop} (F : Fun K x qual st f fd) (X : K.In s.heap) (hl : s.heap.NoLimit) (hd : A.depth < recursionLimit)
    (hb : Binds K fd ps []) (hlen : us.length = ps.length) (hbody : defBody st = [.Return (some e) pos]) (hcell : ∀ y ∈ (defScope st).names, y.2 ≠ .cell) (hloc : ∀ y ∈ ps, (defScope st).names.lookup y = some .local) (hco : (defScope st).isCoroutine = false) (hgen : (defScope st).isGenerator = false) (hk : (defScope st).kind = .function)
    (h : ∀ (env : Env) (A' : Around) (E' : Value → Shared → Prop) (h₀ : Heap) (tk : Nat), env.scope = defScope st → env.globals = mainGlobals → env.builtins = builtinsNs → A'.handled = A.handled → h₀.Ns env.locals (fun y => (ps.zip us).reverse.lookup y) → (∀ b o, s.heap.get? b = some o → h₀.get? b = some o) →
      wpAny (model prog w) A' (eval e env) Q E' { s with heap := h₀, toks := tk }) :
    wpAny (model prog w) A (call (.ref f) us) Q E s := by
  have hb2 := hb s us X (by rw [List.append_nil]; exact hlen)
  rw [List.append_nil] at hb2
  obtain ⟨oc, od, kV, doc, pm, an, cdv, ct, osl, rfl, lk, hcd⟩ := F.ex
  refine wpAny_call ?_
  refine ks_codeAny_call_defAt (fd := PySem.W.fnOf x qual (defArgs st) (defBody st) (defScope st) .none kV doc pm an cdv ct) (binds := ps.zip us) hd (X _ _ lk) rfl hl (PySem.W.codeRec_of X hcd) rfl hb2 hcell (fun y hy => hloc _ (List.of_mem_zip hy).1) (fun h₀ hns hk0 => ?_) hco hgen hk
  rw [hbody]
  refine ks_wpAt_execs_cons (ks_wpAt_Return_some (wpAt_of_wpAny ?_))
  exact h _ _ _ _ _ rfl rfl rfl rfl hns hk0
/-- f(a): a global def, one argument -/
theorem call1 {env : Env} {x : Str} {f : Addr} {a : Expr} {p pos : PySem.Pos} {Q : Value → Shared → Prop} (X : K.In s.heap) (hg : s.heap.Ns env.globals mg) (hm : mg x = some (.ref f)) (kp : PySem.W.keepIn K (.ref f) = true) (hk : env.scope.kind = .function) (hx : env.kindOf x = some .globalImplicit) (hdb : (x == ("__debug__" : Str)) = false)
    (he : starEach [a] env = (false, eval a env) :: starEach [] env)
    (h : wpAny (model prog w) A (eval a env) (fun u s1 => K.In s1.heap ∧ wpAny (model prog w) A (call (.ref f) [u]) Q E s1) E s) :
    wpAny (model prog w) A (eval (.Call (.Name x p) [a] [] pos) env) Q E s := by
  refine wpAny_Call_Name_kw (Calls.Name_function_global hk hx (Calls.loadGlobal_global hg hm ?_) hdb)
  refine PySem.W.callWith_K (h₀ := s.heap) X kp ?_ he rfl
  rw [he]
  exact Calls.spliced_cons (thn h fun u s1 q => Calls.spliced_nil q)
/-- f(a, b) -/
theorem call2 {env : Env} {x : Str} {f : Addr} {a b : Expr} {p pos : PySem.Pos} {Q : Value → Shared → Prop} (X : K.In s.heap) (hg : s.heap.Ns env.globals mg) (hm : mg x = some (.ref f)) (kp : PySem.W.keepIn K (.ref f) = true) (hk : env.scope.kind = .function) (hx : env.kindOf x = some .globalImplicit) (hdb : (x == ("__debug__" : Str)) = false)
    (he : starEach [a, b] env = (false, eval a env) :: starEach [b] env) (he2 : backTo pos (starEach [b] env) = (false, eval b env) :: [])
    (h : wpAny (model prog w) A (eval a env) (fun u s1 => wpAny (model prog w) A (eval b env) (fun v s2 => K.In s2.heap ∧ wpAny (model prog w) A (call (.ref f) [u, v]) Q E s2) E s1) E s) :
    wpAny (model prog w) A (eval (.Call (.Name x p) [a, b] [] pos) env) Q E s := by
  refine wpAny_Call_Name_kw (Calls.Name_function_global hk hx (Calls.loadGlobal_global hg hm ?_) hdb)
  refine PySem.W.callWith_K (h₀ := s.heap) X kp ?_ he (by rw [he2]; rfl)
  rw [he]
  show wpAny _ _ (spliced ((false, eval a env) :: backTo pos (starEach [b] env))) _ _ _
  refine Calls.spliced_cons (thn h fun u s1 q => ?_)
  rw [he2]
  exact Calls.spliced_cons (thn q fun v s2 q2 => Calls.spliced_nil q2)
end
/-! ### is_name_sign, is_own: their bodies -/
section
variable {prog : Program} {w : World} {A : Around} {E : Value → Shared → Prop} {s : Shared} {K : PySem.W.Frag} {mg : Str → Option Value} {env : Env} {m : Str → Option Value}
theorem ev_sign {c : Nat} {t tn : Tok} {p1 p2 p3 p4 p5 p6 p7 : PySem.Pos} {Q : Value → Shared → Prop} (hk : env.scope.kind = .function) (hx : env.scope.names.lookup ("sign" : Str) = some .local) (hy : env.kindOf "NAME_SIGNS" = some .globalImplicit) (hn : s.heap.Ns env.locals m) (hm : m "sign" = some (.str (S [c]) t))
    (hg : s.heap.Ns env.globals mg) (hs : mg "NAME_SIGNS" = some (.str (Str.ofString "-_.") tn)) (hbase : attributeBase (.Name "sign" p1) "isalnum" env (eval (.Name "sign" p1) env) = eval (.Name "sign" p1) env) (hline : (p2.endLine == p3.line) = true)
    (hq : ∀ tk, Q (.bool (nameSign c)) { s with toks := tk }) :
    wpAny (model prog w) A (eval (.BoolOp .Or [.Call (.Attribute (.Name "sign" p1) "isalnum" p2) [] [] p3, .Compare (.Name "sign" p4) [.In] [.Name "NAME_SIGNS" p5] p6] p7) env) Q E s := by
  have ld : ∀ {p : PySem.Pos} {A : Around} {E : Value → Shared → Prop} {s' : Shared} {Q' : Value → Shared → Prop}, s'.heap.Ns env.locals m → Q' (.str (S [c]) t) s' → wpAny (model prog w) A (eval (.Name "sign" p) env) Q' E s' := fun hn' q => wpAny_Name (wpAny_loadName_local hk hx hn' hm q) (by decide)
  refine BoolOp_or (wpAny_Call_method0_late hbase hline (ld hn ?_))
  refine ⟨"str", _, PySem.F.plainAttrs_str, PySem.F.slot_str_isalnum, PySem.F.type_str_isalnum, typeIs_str _ _ _, (fun _ e => nomatch e), Calls.callWith_builtin rfl (PySem.evalArgs_none (PySem.SC.isalnum ?_))⟩
  refine wpAny_truthy_bool ?_
  unfold nameSign at hq
  cases h : Txt.isalnum (S [c]) with
  | true =>
    have q := hq s.toks
    rw [h, Bool.true_or] at q
    exact q
  | false =>
    refine BoolOp_one (wpAny_Compare1 (ld hn (Calls.Name_function_global hk hy (Calls.loadGlobal_global hg hs ?_))))
    refine PyProof.Rows.in_str ?_
    have e : (!(Builtin.Str.occurrences (Str.ofString "-_.") (S [c]) 0 (Str.ofString "-_.").length 1).isEmpty) = decide (c ∈ TL.tl (Str.ofString "-_.")) := PySem.StrLaws.found_one _ c
    rw [e]
    have q := hq s.toks
    rw [h, Bool.false_or] at q
    exact q
/-- document[at], both names -/
theorem ev_doc {a : Addr} {items : Array Value} {k : Nat} {tk : Tok} {x y : Str} {u : Value} {p1 p2 p3 : PySem.Pos} {Q : Value → Shared → Prop} (hk : env.scope.kind = .function) (hx : env.scope.names.lookup x = some .local) (hy : env.scope.names.lookup y = some .local) (hn : s.heap.Ns env.locals m) (hmx : m x = some (.ref a)) (hmy : m y = some (.int (k : Int) tk))
    (hdx : (x == ("__debug__" : Str)) = false) (hdy : (y == ("__debug__" : Str)) = false) (ht : IsTup s.heap a items) (hz : items.size ≤ 1000000000) (hu : items[k]? = some u) (hq : Q u s) : wpAny (model prog w) A (eval (.Subscript (.Name x p1) (.Name y p2) p3) env) Q E s := by
  refine Subscript_ (wpAny_Name (wpAny_loadName_local hk hx hn hmx ?_) hdx)
  refine wpAny_Name (wpAny_loadName_local hk hy hn hmy ?_) hdy
  have hlt := (Array.getElem?_eq_some_iff.mp hu).1
  have hseq : seqIndex? (k : Int) items.size = some k := by
    unfold seqIndex?
    simp only []
    split
    · omega
    · split
      · simp
      · rename_i h1 h2
        simp at h1 h2 ⊢
        omega
  exact subscriptTail_builtinR (x := u) ht.typeIs slot_tuple_getitem.lookup (getItem_tuple (j := k) (Q := fun r s' => r = u ∧ Q r s') ht (by omega) (by omega) hseq hu ⟨rfl, hq⟩) rfl
/-- the body of is_own -/
theorem ev_own {a : Addr} {its : List Value} {d : List Ln} {i : Int} {ti : Tok} {j0 j1 j2 j3 k0 : Nat} {p1 p2 p3 p4 p5 p6 p7 p8 p9 q1 q2 q4 q5 q6 q7 q8 : PySem.Pos} {Q : Value → Shared → Prop}
    (hk : env.scope.kind = .function) (hx : env.scope.names.lookup ("document" : Str) = some .local) (hy : env.scope.names.lookup ("at" : Str) = some .local) (hl : env.kindOf "len" = some .globalImplicit) (hn : s.heap.Ns env.locals m) (hmx : m "document" = some (.ref a)) (hmy : m "at" = some (.int i ti))
    (hg : s.heap.Ns env.globals mg) (hmiss : mg "len" = none) (hb : ∃ mb, s.heap.Ns env.builtins mb ∧ mb "len" = some (.builtin "len")) (ht : IsTup s.heap a its.toArray) (hz : its.length ≤ 1000000) (hd : Paired (LnAt s.heap) its d)
    (he : starEach [.Name "document" p4] env = (false, eval (.Name "document" p4) env) :: starEach [] env) (hm : lastMarks [.LtE, .Lt] [.Name "at" p2, .Call (.Name "len" p3) [.Name "document" p4] [] p5] = false)
    (he2 : starEach [.Constant (.str "code") j2 q4, .Constant (.str "use") j3 q5] env = (false, eval (.Constant (.str "code") j2 q4) env) :: starEach [.Constant (.str "use") j3 q5] env) (he3 : backTo q6 (starEach [.Constant (.str "use") j3 q5] env) = (false, eval (.Constant (.str "use") j3 q5) env) :: [])
    (hbm : behindInMarks .In (.Tuple [.Constant (.str "code") j2 q4, .Constant (.str "use") j3 q5] k0 q6) = false)
    (hq : ∀ h' tk, (∀ b o, s.heap.get? b = some o → h'.get? b = some o) → Q (.bool (ownAt d i)) { s with heap := h', toks := tk }) :
    wpAny (model prog w) A (eval (.BoolOp .And [.Compare (.Constant (.int 0) j0 p1) [.LtE, .Lt] [.Name "at" p2, .Call (.Name "len" p3) [.Name "document" p4] [] p5] p6,
      .Compare (.Subscript (.Subscript (.Name "document" p7) (.Name "at" p8) p9) (.Constant (.int 0) j1 q1) q2) [.In] [.Tuple [.Constant (.str "code") j2 q4, .Constant (.str "use") j3 q5] k0 q6] q7] q8) env) Q E s := by
  have hlen : its.length = d.length := hd.length
  refine BoolOp_and (Compare_chain (wpAny_Constant_int (chain_link (wpAny_Name (wpAny_loadName_local hk hy hn hmy ?_) (by decide)))) hm)
  refine PySem.P.le_int ?_
  refine wpAny_truthy_bool ?_
  by_cases h0 : 0 ≤ i
  · rw [decide_eq_true h0]
    refine chain_last ?_
    obtain ⟨mb, hb1, hb2⟩ := hb
    refine wpAny_Call_Name_kw (Calls.Name_function_global hk hl (Calls.loadGlobal_builtin hg hmiss hb1 hb2 ?_))
    refine PyProof.Rows.callWith_builtin1 ?_ he (by rfl)
    rw [he]
    refine Calls.spliced_cons (wpAny_Name (wpAny_loadName_local hk hx hn hmx ?_) (by decide))
    refine Calls.spliced_nil ?_
    refine len_tuple ht (by rw [List.size_toArray]; omega) ?_
    refine PySem.P.lt_int (wpAny_truthy_bool ?_)
    rw [List.size_toArray, hlen]
    by_cases h1 : i < (d.length : Int)
    · rw [decide_eq_true h1]
      obtain ⟨k, rfl⟩ : ∃ k : Nat, i = k := ⟨i.toNat, by omega⟩
      have hkd : k < d.length := by omega
      have hl1 : d[k]? = some d[k] := List.getElem?_eq_getElem hkd
      obtain ⟨u, hu, p, jts, rfl, hpt, rv⟩ := Paired.get hd hl1
      have hu2 : its.toArray[k]? = some (.ref p) := by simpa using hu
      obtain ⟨kk, kk0, kh, kp, ku, kc⟩ := k_head d[k]
      obtain ⟨u0, e0, r0⟩ := vals_at rv kk0
      obtain ⟨t0, rfl⟩ := r0
      have hjl : jts.length ≤ 3 := by rw [← rv.length]; exact ln_small _
      refine BoolOp_one (wpAny_Compare1 (ev_at (k := 0) rfl (ev_doc hk hx hy hn hmx hmy (by decide) (by decide) ht (by rw [List.size_toArray]; omega) hu2 ⟨p, _, _, rfl, hpt, by rw [List.size_toArray]; omega, e0, fun tk => ?_⟩)) hbm)
      refine Tuple_ ?_
      rw [he2]
      show wpAny _ _ (spliced ((false, eval (.Constant (.str "code") j2 q4) env) :: backTo q6 (starEach [.Constant (.str "use") j3 q5] env))) _ _ _
      rw [he3]
      refine Calls.spliced_cons (Calls.Constant_str (Calls.spliced_cons (Calls.Constant_str (Calls.spliced_nil ?_))))
      refine wpAny_newTuple ?_ (by show 2 ≤ sizeLine; decide)
      refine SeqAt.in_tupleAt (eqU (.str kk)) (items := #[.str "code" tk, .str "use" (tk + 1)]) ⟨_, Heap.get?_push_size _ rfl, rfl, _, rfl⟩ (fun y hy => mem_eqAt (x := .str kk) (v := .str kk t0) ⟨t0, rfl⟩ rfl (xs := [.str "code", .str "use"]) (us := [.str "code" tk, .str "use" (tk + 1)]) (.cons ⟨_, rfl⟩ (.cons ⟨_, rfl⟩ .nil)) rfl y (by simpa using hy)) ?_
      have e : (#[Value.str (Str.ofString "code") tk, Value.str (Str.ofString "use") (tk + 1)]).any (eqU (.str kk)) = ownAt d (k : Int) := by
        rw [ownAt_nat, hl1, ← Array.any_toList]
        show (decide (Str.ofString "code" = kk) || (decide (Str.ofString "use" = kk) || false)) = d[k].own
        rw [Bool.or_false]
        show ((Str.ofString "code" == kk) || (Str.ofString "use" == kk)) = d[k].own
        cases hdk : d[k] with
        | prose t =>
          rw [kp.mpr ⟨t, hdk⟩]
          show _ = false
          decide +kernel
        | head t =>
          rw [kh.mpr ⟨t, hdk⟩]
          show _ = false
          decide +kernel
        | use j t =>
          rw [ku.mpr ⟨j, t, hdk⟩]
          show _ = true
          decide +kernel
        | code t =>
          rw [kc.mpr ⟨t, hdk⟩]
          show _ = true
          decide +kernel
      rw [e]
      exact hq _ _ fun b o z => Heap.get?_push_of_some _ z
    · rw [decide_eq_false h1]
      have e : ownAt d i = false := by
        unfold ownAt
        have : d[i.toNat]? = none := List.getElem?_eq_none_iff.mpr (by omega)
        rw [this, Bool.and_false]
      have q := hq s.heap (s.toks + 1 + 1 + 1) fun b o z => z
      rw [e] at q
      exact q
  · rw [decide_eq_false h0]
    have e : ownAt d i = false := by
      unfold ownAt
      rw [decide_eq_false h0, Bool.false_and]
    have q := hq s.heap (s.toks + 1) fun b o z => z
    rw [e] at q
    rw [if_neg Bool.false_ne_true]
    refine wpAny_truthy_bool ?_
    rw [if_neg Bool.false_ne_true]
    exact q
end
end Wg

end
section
set_option maxHeartbeats 4000000
/-! WR4: tables that grow; walked things; the tests as the rules want them. -/
namespace Wf
open PySem PySem.Spec PyProof.Rows L2 GxR Wg
/-! ### what is kept while the tables grow -/
def Tabs (e : Es) (H : Hp) : Prop := TabG H e.tC ∧ TabG H e.tT ∧ TabG H e.tN
structure Ke (e : Es) (H H' : Hp) : Prop where
  k : ∀ b x, H b = some x → (∀ ps, x ≠ .tbl ps) → H' b = some x
  t : Tabs e H → Tabs e H'
theorem TabG.same {H H' : Hp} {P : Addr} (h : TabG H P) (s : Same H H') : TabG H' P := let ⟨ps, a, b⟩ := h; ⟨ps, s _ _ a, b⟩
theorem Tabs.same {e : Es} {H H' : Hp} (h : Tabs e H) (s : Same H H') : Tabs e H' := ⟨TabG.same h.1 s, TabG.same h.2.1 s, TabG.same h.2.2 s⟩
theorem Ke.of {e : Es} {H H' : Hp} (s : Same H H') : Ke e H H' := ⟨fun b x h _ => s _ _ h, fun h => h.same s⟩
theorem Ke.refl (e : Es) (H : Hp) : Ke e H H := ⟨fun _ _ h _ => h, fun h => h⟩
theorem Ke.trans {e : Es} {H H1 H2 : Hp} (a : Ke e H H1) (b : Ke e H1 H2) : Ke e H H2 := ⟨fun c x h n => b.k c x (a.k c x h n) n, fun h => b.t (a.t h)⟩
theorem Ke.tabbed {e : Es} {H H' : Hp} {P : Addr} (h : Tabbed P H H') (hP : TabG H P) : Ke e H H' := by
  have g : ∀ t, TabG H t → TabG H' t := fun t ht => by
    by_cases z : t = P
    · rw [z]; exact h.1
    · obtain ⟨ps, a, b⟩ := ht
      exact ⟨ps, by rw [h.2 t z]; exact a, b⟩
  refine ⟨fun b x hb n => ?_, fun ht => ⟨g _ ht.1, g _ ht.2.1, g _ ht.2.2⟩⟩
  obtain ⟨ps, a, _⟩ := hP
  have nb : b ≠ P := fun z => by rw [z, a] at hb; exact n ps (Option.some.inj hb).symm
  rw [h.2 b nb]
  exact hb
theorem Ke.kt {e : Es} {H H' : Hp} (k : Ke e H H') : KT H H' := fun b ys h => k.k _ _ h (fun _ z => by cases z)
theorem At.kt {H H' : Hp} {p : Addr} {l : Ln} (h : At H p l) (k : KT H H') : At H' p l := k _ _ h
theorem DocAt.ke {e : Es} {H H' : Hp} {a : Addr} {d : List Ln} (h : DocAt H a d) (k : Ke e H H') : DocAt H' a d := DocAt.kt k.kt h
/-- a def whose code object is known -/
theorem okC {P : Program} {w : World} {K : PySem.W.Frag} {mg : Str → Option Value} {base : Heap} {CX : CXT} {x qual : Str} {st : Stmt} {f c : Addr} {fd : FuncData} {N ps : List Str} {k : Nat} {sp : Sp} (F : Fun K x qual st f fd) (hc : fd.code = .ref c) (S : FnScope N ps (defScope st)) (len : ∀ vs H Q E, sp vs H Q E → vs.length = ps.length)
    (hbody : ∀ (A : Around) (outer : List Env) (s : Shared) (H : Hp) (vs : List V) (Q : VK) (E : XK), Room k (A.deeper (envOfC qual (defScope st) s.heap.objs.size f (.ref c))) → sp vs H Q E →
      ∃ t, PSs (cxOf CX P w K mg base N qual (defScope st) f (.ref c) A outer s H E) (defBody st) t ∧ t { nx := fun _ H' => Q .non H', rt := Q } (start N vs) H) : FnOk P w K mg base CX (k + 1) f fd ps sp := by
  obtain ⟨oc, od, kV, doc, pm, an, cdv, ct, osl, rfl, lk, hcd⟩ := F.ex
  have e : cdv = .ref c := hc
  subst e
  exact fn_of lk hcd S len fun A outer s H vs Q E hr hsp => hbody A outer s H vs Q E hr hsp
end Wf
namespace Wg
open PySem PySem.Spec PyProof.Rows L2 GxR Wf
section
variable {X : Cx} {pins : List (Addr × Obj)} {σ : L2.St} {H1 : Hp} {s1 : Shared} {P : Addr}
theorem tab_lt (I : Inv X pins σ H1 s1) (hT : TabG H1 P) : ∃ ps, s1.heap.get? P = some { cls := .none, data := .fields ps } := by
  obtain ⟨ps, h, _⟩ := hT
  exact ⟨ps, I.hok P _ h⟩
theorem base_ne (I : Inv X pins σ H1 s1) (hT : TabG H1 P) {b : Addr} {o : Obj} (e : X.base.get? b = some o) : b ≠ P := fun z => by
  obtain ⟨ps, h, _⟩ := hT
  have := (I.bs b o e).2
  rw [z, h] at this
  cases this
theorem tup_ne (I : Inv X pins σ H1 s1) (hT : TabG H1 P) {b : Addr} {its : Array Value} (e : IsTup s1.heap b its) : b ≠ P := fun z => by
  obtain ⟨ps, h⟩ := tab_lt I hT
  obtain ⟨o, e1, e2, _⟩ := e
  rw [z, h] at e1
  cases e1
  cases e2
/-- the signs of a text -/
theorem walk_text (I : Inv X pins σ H1 s1) (hT : TabG H1 P) (t : T) (tk : Tok) : Walk1 X P s1 (.str t tk) t.cps.size (SignAt t) := fun E Q h => by
  obtain ⟨ps, hP⟩ := tab_lt I hT
  have hlt := Heap.lt_size hP
  refine wpAny_pyIter_str fun o St W hst => h o [s1.heap.objs.size] St W hst (fun b hb => ?_) (fun z => ?_)
  · rw [List.mem_singleton.mp hb]
    exact Nat.lt_succ_self _
  · exact Nat.ne_of_lt hlt (List.mem_singleton.mp z)
/-- a tuple's items -/
theorem walk_tup (I : Inv X pins σ H1 s1) (hT : TabG H1 P) {a : Addr} {its : Array Value} (ht : IsTup s1.heap a its) : Walk1 X P s1 (.ref a) its.size (fun i v => its[i]? = some v) := fun E Q h => by
  obtain ⟨ps, hP⟩ := tab_lt I hT
  have hlt := Heap.lt_size hP
  have ha : a < s1.heap.objs.size := by
    obtain ⟨o, e, _⟩ := _root_.id ht
    exact Heap.lt_size e
  have hna := tup_ne I hT ht
  have ht2 : s1.heap.IsTuple a its := ht
  refine wpAny_pyIter_tuple ht2 (h _ [s1.heap.objs.size, a] _ (fun A' hA => Walks.tuple hA _ _ (Nat.ne_of_lt ha) its) ⟨⟨_, Heap.get?_push_size _ rfl, rfl, rfl⟩, ht2.push _⟩ (fun b hb => ?_) (fun z => ?_))
  · rcases List.mem_cons.mp hb with z | z
    · rw [z]; exact Nat.lt_succ_self _
    · rw [List.mem_singleton.mp z]; exact Nat.lt_succ_of_lt ha
  · rcases List.mem_cons.mp z with z | z
    · exact Nat.ne_of_lt hlt z
    · exact hna (List.mem_singleton.mp z).symm
/-- a range's numbers -/
theorem walk_rng (I : Inv X pins σ H1 s1) (hT : TabG H1 P) {a : Addr} {lo hi : Int} (hr : H1 a = some (.rng lo hi)) (h1 : -(2 ^ 62) ≤ lo ∧ lo < 2 ^ 62 ∧ -(2 ^ 62) ≤ hi ∧ hi < 2 ^ 62) : Walk1 X P s1 (.ref a) (hi - lo).toNat (fun i v => ∃ t, v = .int (lo + (i : Int) * 1) t) := fun E Q h => by
  obtain ⟨ps, hP⟩ := tab_lt I hT
  have hlt := Heap.lt_size hP
  obtain ⟨t, u, v, ho⟩ := I.hok a _ hr
  have hrng : IsRange s1.heap a lo hi 1 t u v := ho
  have hsz : Builtin.Range.rangeSize lo hi 1 = ((hi - lo).toNat : Int) := by rw [rangeSize_one]; split <;> omega
  refine wpAny_pyIter_range hrng (small_one h1.1 h1.2.1 h1.2.2.1 h1.2.2.2) (h _ [s1.heap.objs.size] _ (fun A' hA => Walks.range hA _ lo 1 (hi - lo).toNat) ?_ (fun b hb => ?_) (fun z => ?_))
  · have e1 : (lo + ((0 : Nat) : Int) * 1) = lo := by simp
    have e2 : (((hi - lo).toNat : Int) - ((0 : Nat) : Int)) = Builtin.Range.rangeSize lo hi 1 := by rw [hsz]; simp
    show IsRangeIter _ _ (lo + ((0 : Nat) : Int) * 1) (((hi - lo).toNat : Int) - ((0 : Nat) : Int)) 1
    rw [e1, e2]
    exact Heap.get?_push_size _ rfl
  · rw [List.mem_singleton.mp hb]
    exact Nat.lt_succ_self _
  · exact Nat.ne_of_lt hlt (List.mem_singleton.mp z)
/-! ### the tests -/
theorem kin2 (I : Inv X pins σ H1 s1) (hT : TabG H1 P) {s₂ : Shared} (hk : ∀ b o, b ≠ P → s1.heap.get? b = some o → s₂.heap.get? b = some o) : ∀ b o, X.base.get? b = some o → s₂.heap.get? b = some o := fun b o e => hk b o (base_ne I hT e) (I.bk b o e)
/-- is_name_sign(sign) for sign in t -/
theorem elt_sign {k : Nat} {f : Addr} {fd : FuncData} {scope : Scope} {t : T} {tn : Tok} {p1 p2 p3 : PySem.Pos} (hr : Room k X.A) (I : Inv X pins σ H1 s1) (hT : TabG H1 P) (F : Fun X.K "is_name_sign" "is_name_sign" s31 f fd) (hg : X.mg "is_name_sign" = some (.ref f)) (hs : X.mg "NAME_SIGNS" = some (.str (Str.ofString "-_.") tn))
    (hk : scope.kind = .function) (hx : scope.names.lookup ("sign" : Str) = some .local) (hf : scope.names.lookup ("is_name_sign" : Str) = some .globalImplicit) :
    Elt1 X P s1 scope (.Call (.Name "is_name_sign" p1) [.Name "sign" p2] [] p3) "sign" (SignAt t) (fun i => match (TL.tl t)[i]? with | some c => nameSign c | none => false) := by
  intro cenv A' E' i v s₂ m₂ hsc hgl hce hA hd hu hPv hn hm hkeep
  obtain ⟨c, u, hc, rfl⟩ := hPv
  have hc2 : (TL.tl t)[i]? = some c := by show t.cps.toList[i]? = some c; rw [Array.getElem?_toList]; exact hc
  have kp := kin2 I hT hkeep
  have hb : Binds X.K fd ["sign"] [] := F.binds fun _ _ _ _ _ _ us hl => match us, hl with | [_], _ => rfl
  refine call1 (K := X.K) (mg := X.mg) (I.ok.mod.kin.keeps kp) (by rw [hgl]; exact I.ok.mod.glob.keeps kp) hg F.kp (by rw [hsc]; exact hk) (by unfold Env.kindOf; rw [hsc]; exact hf) (by decide) rfl ?_
  refine wpAny_Name (wpAny_loadName_local (by rw [hsc]; exact hk) (by unfold Env.kindOf; rw [hsc]; exact hx) hn hm ?_) (by decide)
  refine ⟨I.ok.mod.kin.keeps kp, ?_⟩
  refine call_ret F (I.ok.mod.kin.keeps kp) (I.ok.mod.nolimit.keeps kp) (by have := hr.dp; omega) hb rfl rfl (by decide +kernel) (by decide +kernel) rfl rfl rfl ?_
  intro env A2 E2 h₀ tk e1 e2 e3 _ hns hk0
  refine ev_sign (m := fun y => ((["sign"] : List Str).zip [Value.str (S [c]) u]).reverse.lookup y) (mg := X.mg) (by rw [e1]; rfl) (by rw [e1]; rfl) (by unfold Env.kindOf; rw [e1]; rfl) hns rfl (by rw [e2]; exact I.ok.mod.glob.keeps fun b o e => hk0 _ _ (kp b o e)) hs rfl rfl (fun tk2 => ⟨?_, ⟨h₀, tk2, rfl, hk0⟩⟩)
  show _ = Value.bool (match (TL.tl t)[i]? with | some c => nameSign c | none => false)
  rw [hc2]
theorem tup_keep (I : Inv X pins σ H1 s1) (hT : TabG H1 P) {s₂ : Shared} (hk : ∀ b o, b ≠ P → s1.heap.get? b = some o → s₂.heap.get? b = some o) {b : Addr} {its : Array Value} (h : IsTup s1.heap b its) : IsTup s₂.heap b its := by
  have n := tup_ne I hT h
  obtain ⟨o, e, r⟩ := h
  exact ⟨o, hk b o n e, r⟩
theorem doc_raw (I : Inv X pins σ H1 s1) {a : Addr} {d : List Ln} (hd : DocAt H1 a d) : ∃ its : List Value, IsTup s1.heap a its.toArray ∧ Paired (LnAt s1.heap) its d ∧ its.length ≤ sizeLine := by
  obtain ⟨ls, h1, h2⟩ := hd
  obtain ⟨its, rv, ht, hz⟩ := I.tuple (SqT.of h1)
  refine ⟨its, ht, ?_, by rw [← rv.length]; exact hz⟩
  clear h1 hz ht
  induction h2 generalizing its with
  | nil =>
    cases rv
    exact .nil
  | @cons p l ls d hp _ ih =>
    cases rv with
    | cons r rr =>
      cases r
      obtain ⟨jts, rj, hj, _⟩ := I.tuple (SqT.of hp)
      exact .cons ⟨p, jts, rfl, hj, rj⟩ (ih _ rr)
theorem ln_keep (I : Inv X pins σ H1 s1) (hT : TabG H1 P) {s₂ : Shared} (hk : ∀ b o, b ≠ P → s1.heap.get? b = some o → s₂.heap.get? b = some o) {u : Value} {l : Ln} (h : LnAt s1.heap u l) : LnAt s₂.heap u l := by
  obtain ⟨p, its, e, ht, rv⟩ := h
  exact ⟨p, its, e, tup_keep I hT hk ht, rv⟩
/-- a captured cell -/
theorem cap_at (I : Inv X pins σ H1 s1) {y : Str} {j : Nat} {v : V} {scope : Scope} (hN : X.N[j]? = some y) (hσ : σ[j]? = some (some v)) (hy : X.env.scope.names.lookup y = some .cell) (hfree : ∀ z ∈ scope.names, z.2 = .free → ∃ c, X.env.cells.lookup z.1 = some c) (hm : (y, NameKind.free) ∈ scope.names) :
    ∃ c u, (cloFrom X.env.cells scope.names []).lookup y = some c ∧ s1.heap.IsCell c (some u) ∧ RelV v u := by
  obtain ⟨m, hn, hl⟩ := I.loc
  obtain ⟨u, r, l⟩ := hl j y v hN hσ (.inr (.inl hy))
  rcases l with ⟨z, _⟩ | ⟨_, c, hc, hcell⟩
  · have z' : X.env.scope.names.lookup y = some .local := z
    rw [hy] at z'
    cases z'
  · exact ⟨c, u, NdefX.clo_has hfree hm hc, hcell, r⟩
theorem cell_keep (I : Inv X pins σ H1 s1) (hT : TabG H1 P) {s₂ : Shared} (hk : ∀ b o, b ≠ P → s1.heap.get? b = some o → s₂.heap.get? b = some o) {c : Addr} {v : Option Value} (h : s1.heap.IsCell c v) : s₂.heap.IsCell c v := by
  obtain ⟨ps, hP⟩ := tab_lt I hT
  obtain ⟨o, e, r⟩ := h
  refine ⟨o, hk c o (fun z => ?_) e, r⟩
  rw [z, hP] at e
  cases e
  cases r
/-- line[0] == 'use' and line[2] == name for line in document -/
theorem elt_uses {k : Nat} {scope : Scope} {a : Addr} {d : List Ln} {its : List Value} {n : T} {j : Nat} {j0 j1 j2 : Nat} {p1 p2 p3 p4 p5 p6 p7 p8 p9 p10 p11 : PySem.Pos} (I : Inv X pins σ H1 s1) (hT : TabG H1 P) (hd : Paired (LnAt s1.heap) its d)
    (hN : X.N[j]? = some "name") (hσ : σ[j]? = some (some (.str n))) (hy : X.env.scope.names.lookup ("name" : Str) = some .cell) (hfree : ∀ z ∈ scope.names, z.2 = .free → ∃ c, X.env.cells.lookup z.1 = some c) (hm : (("name" : Str), NameKind.free) ∈ scope.names)
    (hk : scope.kind = .function) (hx : scope.names.lookup ("line" : Str) = some .local) (hf : scope.names.lookup ("name" : Str) = some .free) :
    Elt1 X P s1 scope (.BoolOp .And [.Compare (.Subscript (.Name "line" p1) (.Constant (.int 0) j0 p2) p3) [.Eq] [.Constant (.str "use") j1 p4] p5, .Compare (.Subscript (.Name "line" p6) (.Constant (.int 2) j2 p7) p8) [.Eq] [.Name "name" p9] p10] p11) "line" (fun i v => its.toArray[i]? = some v) (fun i => match d[i]? with | some l => usesB n l | none => false) := by
  intro cenv A' E' i v s₂ m₂ hsc hgl hce hA hdp hu hPv hn hmm hkeep
  obtain ⟨c, u, hc, hcell, ru⟩ := cap_at I hN hσ hy hfree hm
  obtain ⟨t, rfl⟩ := ru
  have hv : its[i]? = some v := by simpa using hPv
  obtain ⟨l, hl, hln⟩ := Paired.get' hd hv
  refine ev_uses (by rw [hsc]; exact hk) (by rw [hsc]; exact hx) (by rw [hsc]; exact hf) (by rw [hce]; exact hc) (cell_keep I hT hkeep hcell) hn hmm (ln_keep I hT hkeep hln) (by decide) (by decide) (by decide) (fun tk => ⟨?_, keeps_tok _ _⟩)
  show _ = Value.bool (match d[i]? with | some l => usesB n l | none => false)
  rw [hl]
/-- is_own(document, at) for at in range(lo, hi) -/
theorem elt_own {k : Nat} {f : Addr} {fd : FuncData} {scope : Scope} {a : Addr} {d : List Ln} {lo : Int} {j : Nat} {p1 p2 p3 p4 : PySem.Pos} (hr : Room k X.A) (I : Inv X pins σ H1 s1) (hT : TabG H1 P) (hd : DocAt H1 a d) (hz : d.length ≤ 1000000) (F : Fun X.K "is_own" "is_own" s19 f fd) (hg : X.mg "is_own" = some (.ref f)) (hlen : X.mg "len" = none)
    (hN : X.N[j]? = some "document") (hσ : σ[j]? = some (some (.ref a))) (hy : X.env.scope.names.lookup ("document" : Str) = some .cell) (hfree : ∀ z ∈ scope.names, z.2 = .free → ∃ c, X.env.cells.lookup z.1 = some c) (hm : (("document" : Str), NameKind.free) ∈ scope.names)
    (hk : scope.kind = .function) (hx : scope.names.lookup ("at" : Str) = some .local) (hf : scope.names.lookup ("document" : Str) = some .free) (hfo : scope.names.lookup ("is_own" : Str) = some .globalImplicit) :
    Elt1 X P s1 scope (.Call (.Name "is_own" p1) [.Name "document" p2, .Name "at" p3] [] p4) "at" (fun i v => ∃ t, v = .int (lo + (i : Int) * 1) t) (fun i => ownAt d (lo + (i : Int) * 1)) := by
  intro cenv A' E' i v s₂ m₂ hsc hgl hce hA hdp hu hPv hn hmm hkeep
  obtain ⟨c, u, hc, hcell, ru⟩ := cap_at I hN hσ hy hfree hm
  cases ru
  obtain ⟨ti, rfl⟩ := hPv
  have kp := kin2 I hT hkeep
  obtain ⟨its, ht, hp, _⟩ := doc_raw I hd
  have ht2 := tup_keep I hT hkeep ht
  have hp2 : Paired (LnAt s₂.heap) its d := Paired.mono (fun _ _ z => ln_keep I hT hkeep z) hp
  have hb : Binds X.K fd ["document", "at"] [] := F.binds fun _ _ _ _ _ _ us hl => match us, hl with | [_, _], _ => rfl
  refine call2 (K := X.K) (mg := X.mg) (I.ok.mod.kin.keeps kp) (by rw [hgl]; exact I.ok.mod.glob.keeps kp) hg F.kp (by rw [hsc]; exact hk) (by unfold Env.kindOf; rw [hsc]; exact hfo) (by decide) rfl rfl ?_
  refine wpAny_Name (wpAny_loadName_free (by rw [hsc]; exact hk) (by unfold Env.kindOf; rw [hsc]; exact hf) (by rw [hce]; exact hc) (cell_keep I hT hkeep hcell) ?_) (by decide)
  refine wpAny_Name (wpAny_loadName_local (by rw [hsc]; exact hk) (by unfold Env.kindOf; rw [hsc]; exact hx) hn hmm ?_) (by decide)
  refine ⟨I.ok.mod.kin.keeps kp, ?_⟩
  refine call_ret F (I.ok.mod.kin.keeps kp) (I.ok.mod.nolimit.keeps kp) (by have := hr.dp; omega) hb rfl rfl (by decide +kernel) (by decide +kernel) rfl rfl rfl ?_
  intro env A2 E2 h₀ tk e1 e2 e3 _ hns hk0
  obtain ⟨mb, hb1, hb2⟩ := I.ok.mod.blt
  have lk : ∀ {b : Addr} {q : Array Value}, IsTup s₂.heap b q → IsTup h₀ b q := fun z => z.keeps hk0
  refine ev_own (m := fun y => ((["document", "at"] : List Str).zip [Value.ref a, Value.int (lo + (i : Int) * 1) ti]).reverse.lookup y) (mg := X.mg) (a := a) (its := its) (d := d) (i := lo + (i : Int) * 1) (ti := ti)
    (by rw [e1]; rfl) (by rw [e1]; rfl) (by rw [e1]; rfl) (by unfold Env.kindOf; rw [e1]; rfl) hns rfl rfl (by rw [e2]; exact I.ok.mod.glob.keeps fun b o e => hk0 _ _ (kp b o e)) hlen ⟨mb, by rw [e3]; exact hb1.keeps fun b o e => hk0 _ _ (kp b o e), (hb2 _ (by decide +kernel)).trans PySem.boot_len⟩
    (lk ht2) (by rw [hp.length]; exact hz) (Paired.mono (fun _ _ z => by obtain ⟨p, jts, e, h1, h2⟩ := z; exact ⟨p, jts, e, lk h1, h2⟩) hp2) rfl (by with_unfolding_all rfl) rfl rfl (by with_unfolding_all rfl) (fun h' tk2 hk2 => ⟨rfl, ⟨h', tk2, rfl, fun b o e => hk2 b o (hk0 b o e)⟩⟩)
end
end Wg

end
section
set_option maxHeartbeats 4000000
/-! W32: is_name, use_of. -/
namespace Wf
open PySem PySem.Spec PyProof.Rows L2 Wr GxR Wg
theorem free_cells {names : List (Str × NameKind)} {sc : Scope} {L : Addr} (h : (names.all fun y => !decide (y.2 = .free) || decide (sc.names.lookup y.1 = some .cell)) = true) : ∀ y ∈ names, y.2 = .free → ∃ c, (cellsFrom L sc.names []).lookup y.1 = some c := fun y hy e => by
  have h2 := List.all_eq_true.mp h y hy
  rw [decide_eq_true e, Bool.not_true, Bool.false_or] at h2
  exact Option.isSome_iff_exists.mp (PySem.W.cellsFrom_some _ _ _ (.inl (of_decide_eq_true h2)))
abbrev s32 : Stmt := topS 32
theorem sc32 : FnScope ["text"] ["text"] (defScope s32) := ⟨rfl, rfl, rfl, by decide +kernel, rfl, by decide +kernel, by decide +kernel⟩
def sp32 (e : Es) : Sp := fun vs H Q _ => ∃ (t : T), vs = [.str t] ∧ Tabs e H ∧ t.length ≤ 1000000 ∧ ∀ H', Ke e H H' → Q (.bl (isName t)) H'
theorem all_match (t : T) (g : Nat → Bool) : (List.range t.cps.size).all (fun i => match (TL.tl t)[i]? with | some c => g c | none => false) = (TL.tl t).all g := by
  have e : t.cps.size = (TL.tl t).length := by show _ = t.cps.toList.length; simp
  rw [e, Bool.eq_iff_iff, List.all_eq_true, List.all_eq_true]
  constructor
  · intro h b hb
    obtain ⟨j, hj, e⟩ := List.getElem_of_mem hb
    have q := h j (List.mem_range.mpr hj)
    rw [List.getElem?_eq_getElem hj, e] at q
    exact q
  · intro h j hj
    have hj' := List.mem_range.mp hj
    rw [List.getElem?_eq_getElem hj']
    exact h _ (List.getElem_mem hj')
section
variable {P : Program} {w : World} {K : PySem.W.Frag} {mg : Str → Option Value} {base : Heap} {e : Es}
theorem ok32 (T : Ty P K mg base e) : Has P w K mg base CX0 2 "is_name" ["text"] (sp32 e) := by
  obtain ⟨f, fd, F, g⟩ := T.df 18 _ rfl
  obtain ⟨fs, fds, Fs, gs⟩ := T.df 17 _ rfl
  obtain ⟨tk, hns⟩ := T.nsigns
  obtain ⟨tk2, hnm⟩ := T.nmost
  refine ⟨f, fd, ?_, g, F.kp, F.binds fun _ _ _ _ _ _ us hl => match us, hl with | [_], _ => rfl⟩
  obtain ⟨c, hc, TB⟩ : ∃ c, fd.code = .ref c ∧ TabB base mg c e.tN := by
    obtain ⟨oc, od, kV, doc, pm, an, cdv, ct, osl, e1, lk, hcd⟩ := F.ex
    exact T.tab "is_name" e.tN (by simp) f oc od fd osl g lk
  refine okC F hc sc32 (fun vs H Q E h => ?_) (fun A outer s H vs Q E hr h => ?_)
  · obtain ⟨a, rfl, _⟩ := h
    rfl
  · obtain ⟨t, rfl, ht, hl, q⟩ := h
    refine ⟨_, PSs.nox (pss_one (ps_ret (pe_and (pe_chain op_le op_le pe_int (pe_callB call_len_str (by rfl) T.len PySem.boot_len (pa_cons (pv 0) pa_nil)) (pe_glob (v := .int 20) (by rfl) hnm ⟨_, rfl⟩))
      (pe_one (pe_allG hr (by rfl) T.all (by decide +kernel) TB rfl ⟨rfl, rfl, by decide +kernel, rfl, rfl, free_cells (by decide +kernel)⟩ (pv 0) (fun _ => rfl)))))), ?_⟩
    refine ⟨_, rfl, t, rfl, lim_line (by omega), _, _, rfl, rfl, _, rfl, ?_⟩
    have e1 : ∀ b : Bool, (1 ≤ t.length → t.length ≤ 20 → b = (TL.tl t).all nameSign) → isName t = (decide (1 ≤ t.length) && (decide (t.length ≤ 20) && b)) := fun b hb => by
      unfold isName
      by_cases h1 : 1 ≤ t.length
      · by_cases h2 : t.length ≤ 20
        · rw [hb h1 h2]
        · simp [h2]
      · simp [h1]
    refine if2 (fun h1 => ?_) (fun h1 => ?_)
    · refine ⟨_, _, rfl, rfl, _, rfl, ?_⟩
      refine if2 (fun h2 => ?_) (fun h2 => ?_)
      · refine ⟨_, rfl, t.cps.size, (fun i => match (TL.tl t)[i]? with | some c => nameSign c | none => false), ht.2.2, fun pins s1 xv I r => ?_, fun H2 hT => ?_⟩
        · obtain ⟨tt, rfl⟩ := r
          exact ⟨_, walk_text I ht.2.2 t tt, elt_sign hr I ht.2.2 Fs gs hns rfl rfl rfl⟩
        · show Q (.bl ((List.range t.cps.size).all (fun i => match (TL.tl t)[i]? with | some c => nameSign c | none => false))) H2
          rw [all_match]
          have q2 := q H2 (Ke.tabbed hT ht.2.2)
          rw [e1 _ (fun _ _ => rfl), decide_eq_true (show 1 ≤ t.length by omega), decide_eq_true (show t.length ≤ 20 by omega), Bool.true_and, Bool.true_and] at q2
          exact q2
      · have q2 := q H (Ke.refl _ _)
        rw [e1 false (fun _ h => absurd (show ((t.length : Nat) : Int) ≤ 20 by omega) h2), Bool.and_false, Bool.and_false] at q2
        exact q2
    · have q2 := q H (Ke.refl _ _)
      rw [e1 false (fun h _ => absurd (show (1 : Int) ≤ ((t.length : Nat) : Int) by omega) h1), Bool.and_false, Bool.and_false] at q2
      exact ⟨_, rfl, q2⟩
end
end Wf

end
section
set_option maxHeartbeats 4000000
/-! W33: use_of, check_free. -/
namespace Wf
open PySem PySem.Spec PyProof.Rows L2 Wr GxR Wg
abbrev s33 : Stmt := topS 33
theorem sc33 : FnScope ["text", "rest"] ["text"] (defScope s33) := ⟨rfl, rfl, rfl, by decide +kernel, rfl, by decide +kernel, by decide +kernel⟩
def sp33 (e : Es) : Sp := fun vs H Q _ => ∃ (t : T), vs = [.str t] ∧ Tabs e H ∧ t.length ≤ 1000000 ∧ (∀ H' r, Ke e H H' → useR (lst t) = true → At H' r (.use (lead t : Int) (mid1 (lst t))) → Q (.ref r) H') ∧ (∀ H', Ke e H H' → useR (lst t) = false → Q .non H')
section
variable {P : Program} {w : World} {K : PySem.W.Frag} {mg : Str → Option Value} {base : Heap} {e : Es}
theorem ok33 (T : Ty P K mg base e) : Has P w K mg base CX0 3 "use_of" ["text"] (sp33 e) := by
  obtain ⟨f, fd, F, g⟩ := T.df 19 _ rfl
  refine ⟨f, fd, ?_, g, F.kp, F.binds fun _ _ _ _ _ _ us hl => match us, hl with | [_], _ => rfl⟩
  refine Fun.ok F sc33 (fun vs H Q E h => ?_) (fun cdv A outer s H vs Q E hr h => ?_)
  · obtain ⟨a, rfl, _⟩ := h
    rfl
  · obtain ⟨t, rfl, ht, hl, q1, q2⟩ := h
    refine ⟨_, pss_cons (ps_set (i := 1) sc33.nd rfl (.inl rfl) (pe_m1 PySem.F.slot_str_lstrip PySem.F.type_str_lstrip mt_lstripChars (pv 0) pe_str))
      (pss_cons (ps_if (PW.pt (pw_and (pt_cmpR op_eq (pe_slice sl_str (pv 1) po_none (po_some pe_int)) pe_str (nomark _)) (pw_and (pt_cmpR op_eq (pe_slice sl_str (pv 1) (po_some (pe_un un_neg pe_int)) po_none) pe_str (nomark _))
          (pw_and1 (pt_val (pe_has (ok32 T) hr (by rfl) (pa_cons (pe_slice sl_str (pv 1) (po_some pe_int) (po_some (pe_un un_neg pe_int))) pa_nil)))))))
        (pss_one (ps_ret (pe_tup (pa_cons pe_str (pa_cons (pe_op op_sub (pe_callB call_len_str (by rfl) T.len PySem.boot_len (pa_cons (pv 0) pa_nil)) (pe_callB call_len_str (by rfl) T.len PySem.boot_len (pa_cons (pv 1) pa_nil)))
          (pa_cons (pe_slice sl_str (pv 1) (po_some pe_int) (po_some (pe_un un_neg pe_int))) pa_nil)))))) pss_nil)
      (pss_one (ps_ret pe_non))), ?_⟩
    refine ⟨_, rfl, ⟨_, rfl⟩, t, _, rfl, rfl, lim_line (by omega), ?_⟩
    rw [lstrip_eq]
    have hr1 : (lst t).length ≤ 1000000 := by have := len_lst t; omega
    have hsl : ∀ lo hi, (cutS (lst t) lo hi).length ≤ 1000000 := fun lo hi => Nat.le_trans (cutS_length _ _ _) hr1
    refine ⟨_, rfl, _, rfl, lst t, rfl, lim_line (by omega), rfl, _, rfl, ?_⟩
    have no : (useR (lst t) = false) → Q .non H := fun h => q2 H (Ke.refl _ _) h
    refine if2 (fun h1 => ?_) (fun h1 => ?_)
    · have e1 : first1 (lst t) = Str.ofString "<" := V.str.inj h1
      refine ⟨_, rfl, _, rfl, _, rfl, lst t, rfl, lim_line (by omega), rfl, _, rfl, ?_⟩
      refine if2 (fun h2 => ?_) (fun h2 => ?_)
      · have e2 : last1 (lst t) = Str.ofString ">" := V.str.inj h2
        refine ⟨_, rfl, _, rfl, _, rfl, _, rfl, lst t, rfl, lim_line (by omega), ?_⟩
        refine ⟨_, rfl, ht, hsl _ _, fun H1 k1 => ⟨_, rfl, ?_⟩⟩
        have eu : useR (lst t) = isName (mid1 (lst t)) := by
          unfold useR
          rw [e1, e2, decide_eq_true rfl, decide_eq_true rfl, Bool.true_and, Bool.true_and]
        show if isName (mid1 (lst t)) = true then _ else _
        by_cases hn : isName (mid1 (lst t)) = true
        · rw [if_pos hn]
          refine ⟨_, rfl, t, rfl, lim_line (by omega), _, rfl, lst t, rfl, lim_line (by omega), _, _, rfl, rfl, _, rfl, _, rfl, _, rfl, _, rfl, lst t, rfl, lim_line (by omega), by show 3 ≤ sizeLine; decide, fun r nr => ?_⟩
          refine q1 _ r (k1.trans (Ke.of (same_upd nr))) (eu.trans hn) ?_
          have e3 : ((t.length : Int) - ((lst t).length : Int)) = (lead t : Int) := by have := len_lst t; omega
          show upd H1 r (.tup [.str "use", .int ((t.length : Int) - ((lst t).length : Int)), .str (cutS (lst t) (some 1) (some (-1)))]) r = some (.tup [.str "use", .int (lead t : Int), .str (mid1 (lst t))])
          rw [upd_same, e3]
          rfl
        · rw [if_neg hn]
          exact q2 _ k1 (eu.trans (by simpa using hn))
      · refine no ?_
        unfold useR
        have e2 : ¬ last1 (lst t) = Str.ofString ">" := fun h => h2 (congrArg V.str h)
        rw [decide_eq_false e2, Bool.false_and, Bool.and_false]
    · refine no ?_
      unfold useR
      have e1 : ¬ first1 (lst t) = Str.ofString "<" := fun h => h1 (congrArg V.str h)
      rw [decide_eq_false e1, Bool.false_and]
end
/-! ### check_free -/
abbrev s17 : Stmt := topS 17
theorem sc17 : FnScope ["document", "name"] ["document", "name"] (defScope s17) := ⟨rfl, rfl, rfl, by decide +kernel, rfl, by decide +kernel, by decide +kernel⟩
def sp17 (e : Es) : Sp := fun vs H Q E => ∃ (a : Addr) (d : List Ln) (n : T), vs = [.ref a, .str n] ∧ Tabs e H ∧ DocAt H a d ∧ okd none d ∧ d.length ≤ 1000000 ∧ n.length ≤ 1000 ∧ (∀ H', Ke e H H' → Fresh n d → Q .non H') ∧ (∀ H' dd, Ke e H H' → E (.ref e.tk) dd H')
section
variable {P : Program} {w : World} {K : PySem.W.Frag} {mg : Str → Option Value} {base : Heap} {e : Es}
theorem any_uses (n : T) (d : List Ln) : (List.range d.length).any (fun i => match d[i]? with | some l => usesB n l | none => false) = d.any (usesB n) := by
  rw [Bool.eq_iff_iff, List.any_eq_true, List.any_eq_true]
  constructor
  · intro ⟨j, hj, h⟩
    have hj' := List.mem_range.mp hj
    rw [List.getElem?_eq_getElem hj'] at h
    exact ⟨d[j], List.getElem_mem hj', h⟩
  · intro ⟨b, hb, h⟩
    obtain ⟨j, hj, e⟩ := List.getElem_of_mem hb
    refine ⟨j, List.mem_range.mpr hj, ?_⟩
    rw [List.getElem?_eq_getElem hj, e]
    exact h
theorem fresh_of {n : T} {d : List Ln} (h1 : n ∉ ddp (nms d)) (h2 : d.any (usesB n) = false) : Fresh n d := by
  refine ⟨fun z => h1 ((nms_mem d n).mpr z), fun i z => ?_⟩
  have : usesB n (.use i n) = true := decide_eq_true rfl
  rw [List.any_eq_false] at h2
  exact h2 _ z this
theorem ok17 (T : Ty P K mg base e) : Has P w K mg base (L2.CX P w) 3 "check_free" ["document", "name"] (sp17 e) := by
  obtain ⟨f, fd, F, g⟩ := T.df 6 _ rfl
  refine ⟨f, fd, ?_, g, F.kp, F.binds fun _ _ _ _ _ _ us hl => match us, hl with | [_, _], _ => rfl⟩
  obtain ⟨c, hc, TB⟩ : ∃ c, fd.code = .ref c ∧ TabB base mg c e.tC := by
    obtain ⟨oc, od, kV, doc, pm, an, cdv, ct, osl, e1, lk, hcd⟩ := F.ex
    exact T.tab "check_free" e.tC (by simp) f oc od fd osl g lk
  refine okC F hc sc17 (fun vs H Q E h => ?_) (fun A outer s H vs Q E hr h => ?_)
  · obtain ⟨a, d, n, rfl, _⟩ := h
    rfl
  · obtain ⟨a, d, n, rfl, ht, hd, okD, hlen, hnl, q1, q2⟩ := h
    refine ⟨_, pss_one (ps_if (PW.pt (pw_or (pt_cmpR op_in_seq (pv 1) (pe_has (ok11 T.toTx) hr (by rfl) (pa_cons (pv 0) pa_nil)) rfl)
        (pw_or1 (pt_val (pe_anyG hr (by rfl) T.any TB rfl ⟨rfl, rfl, by decide +kernel, rfl, rfl, free_cells (by decide +kernel)⟩ (pv 0) (fun _ => rfl))))))
      (pss_one (ps_raise rfl (takes_of rfl rfl rfl rfl) (pmk_tk T hr (by rfl) (pa_cons (pv 1) pa_nil)))) pss_nil), ?_⟩
    refine ⟨_, rfl, _, rfl, a, d, rfl, hd, okD, hlen, fun H1 p s1 np hp => ?_⟩
    refine ⟨p, _, rfl, .inl (.of hp), rfl, flat_strs _, _, rfl, ?_⟩
    have ht1 := ht.same s1
    have hd1 := hd.same s1
    rw [inV_str]
    refine if2 (fun h1 => ?_) (fun h1 => ?_)
    · exact ⟨_, rfl, _, rfl, ⟨n, rfl, hnl⟩, fun dd => q2 _ dd (Ke.of s1)⟩
    · obtain ⟨ls, hl1, hl2⟩ := _root_.id hd1
      refine ⟨_, rfl, d.length, (fun i => match d[i]? with | some l => usesB n l | none => false), ht1.1, fun pins s2 xv I r => ?_, fun H2 hT => ⟨_, rfl, ?_⟩⟩
      · cases r
        obtain ⟨its, hi1, hi2, _⟩ := doc_raw I hd1
        refine ⟨_, ?_, elt_uses (k := 0) (a := a) (j := 1) I ht1.1 hi2 rfl rfl rfl (free_cells (by decide +kernel)) (by decide +kernel) rfl rfl rfl⟩
        have e : d.length = its.toArray.size := by rw [List.size_toArray, hi2.length]
        rw [e]
        exact walk_tup I ht1.1 hi1
      · show if ((List.range d.length).any (fun i => match d[i]? with | some l => usesB n l | none => false)) = true then _ else _
        rw [any_uses]
        have k2 := (Ke.of (e := e) s1).trans (Ke.tabbed hT ht1.1)
        by_cases h2 : d.any (usesB n) = true
        · rw [if_pos h2]
          exact ⟨_, rfl, _, rfl, ⟨n, rfl, hnl⟩, fun dd => q2 _ dd k2⟩
        · rw [if_neg h2]
          exact q1 _ k2 (fresh_of h1 (by simpa using h2))
end
end Wf

end
section
set_option maxHeartbeats 4000000
/-! WD: lines and documents as data, compared. -/
namespace Wf
open PySem PySem.Spec PyProof.Rows L2 Wr GxR Wg
def dL : Ln → PyData
  | .prose t => .tuple [.str "prose", .str t]
  | .head n => .tuple [.str "head", .str n]
  | .use i n => .tuple [.str "use", .int i, .str n]
  | .code t => .tuple [.str "code", .str t]
def dD (d : List Ln) : PyData := .tuple (d.map dL)
def Vd : Ln → Prop
  | .prose t => PyData.strOk t = true
  | .head t => PyData.strOk t = true
  | .use _ t => PyData.strOk t = true
  | .code t => PyData.strOk t = true
theorem eqv_str (a b : Str) : PyData.eqv (.str a) (.str b) = decide (a = b) := by
  show (a == b) = _
  rfl
theorem kn (a b : String) : ((Str.ofString a : Str) = Str.ofString b) = (decide ((Str.ofString a : Str) = Str.ofString b) = true) := by simp
theorem eqv_dL (l l' : Ln) : PyData.eqv (dL l) (dL l') = decide (l = l') := by
  have h1 : decide ((Str.ofString "prose" : Str) = Str.ofString "head") = false := by decide +kernel
  have h2 : decide ((Str.ofString "prose" : Str) = Str.ofString "use") = false := by decide +kernel
  have h3 : decide ((Str.ofString "prose" : Str) = Str.ofString "code") = false := by decide +kernel
  have h4 : decide ((Str.ofString "head" : Str) = Str.ofString "prose") = false := by decide +kernel
  have h5 : decide ((Str.ofString "head" : Str) = Str.ofString "use") = false := by decide +kernel
  have h6 : decide ((Str.ofString "head" : Str) = Str.ofString "code") = false := by decide +kernel
  have h7 : decide ((Str.ofString "use" : Str) = Str.ofString "prose") = false := by decide +kernel
  have h8 : decide ((Str.ofString "use" : Str) = Str.ofString "head") = false := by decide +kernel
  have h9 : decide ((Str.ofString "use" : Str) = Str.ofString "code") = false := by decide +kernel
  have h10 : decide ((Str.ofString "code" : Str) = Str.ofString "prose") = false := by decide +kernel
  have h11 : decide ((Str.ofString "code" : Str) = Str.ofString "head") = false := by decide +kernel
  have h12 : decide ((Str.ofString "code" : Str) = Str.ofString "use") = false := by decide +kernel
  cases l with
  | prose t =>
    cases l' with
    | prose t' =>
      show (decide ((Str.ofString "prose" : Str) = Str.ofString "prose") && (decide (t = t') && true)) = _
      rw [decide_eq_true rfl, Bool.true_and, Bool.and_true]
      exact decide_eq_decide.mpr ⟨fun h => by rw [h], fun h => by cases h; rfl⟩
    | head t' =>
      rw [decide_eq_false (fun z => by cases z)]
      show (decide ((Str.ofString "prose" : Str) = Str.ofString "head") && PyData.eqvAll [.str t] [.str t']) = false
      rw [h1, Bool.false_and]
    | use i' m' =>
      rw [decide_eq_false (fun z => by cases z)]
      show (decide ((Str.ofString "prose" : Str) = Str.ofString "use") && PyData.eqvAll [.str t] [.int i', .str m']) = false
      rw [h2, Bool.false_and]
    | code t' =>
      rw [decide_eq_false (fun z => by cases z)]
      show (decide ((Str.ofString "prose" : Str) = Str.ofString "code") && PyData.eqvAll [.str t] [.str t']) = false
      rw [h3, Bool.false_and]
  | head t =>
    cases l' with
    | prose t' =>
      rw [decide_eq_false (fun z => by cases z)]
      show (decide ((Str.ofString "head" : Str) = Str.ofString "prose") && PyData.eqvAll [.str t] [.str t']) = false
      rw [h4, Bool.false_and]
    | head t' =>
      show (decide ((Str.ofString "head" : Str) = Str.ofString "head") && (decide (t = t') && true)) = _
      rw [decide_eq_true rfl, Bool.true_and, Bool.and_true]
      exact decide_eq_decide.mpr ⟨fun h => by rw [h], fun h => by cases h; rfl⟩
    | use i' m' =>
      rw [decide_eq_false (fun z => by cases z)]
      show (decide ((Str.ofString "head" : Str) = Str.ofString "use") && PyData.eqvAll [.str t] [.int i', .str m']) = false
      rw [h5, Bool.false_and]
    | code t' =>
      rw [decide_eq_false (fun z => by cases z)]
      show (decide ((Str.ofString "head" : Str) = Str.ofString "code") && PyData.eqvAll [.str t] [.str t']) = false
      rw [h6, Bool.false_and]
  | use i m =>
    cases l' with
    | prose t' =>
      rw [decide_eq_false (fun z => by cases z)]
      show (decide ((Str.ofString "use" : Str) = Str.ofString "prose") && PyData.eqvAll [.int i, .str m] [.str t']) = false
      rw [h7, Bool.false_and]
    | head t' =>
      rw [decide_eq_false (fun z => by cases z)]
      show (decide ((Str.ofString "use" : Str) = Str.ofString "head") && PyData.eqvAll [.int i, .str m] [.str t']) = false
      rw [h8, Bool.false_and]
    | use i' m' =>
      show (decide ((Str.ofString "use" : Str) = Str.ofString "use") && (decide (i = i') && (decide (m = m') && true))) = _
      rw [decide_eq_true rfl, Bool.true_and, Bool.and_true, ← Bool.decide_and]
      exact decide_eq_decide.mpr ⟨fun h => by rw [h.1, h.2], fun h => by cases h; exact ⟨rfl, rfl⟩⟩
    | code t' =>
      rw [decide_eq_false (fun z => by cases z)]
      show (decide ((Str.ofString "use" : Str) = Str.ofString "code") && PyData.eqvAll [.int i, .str m] [.str t']) = false
      rw [h9, Bool.false_and]
  | code t =>
    cases l' with
    | prose t' =>
      rw [decide_eq_false (fun z => by cases z)]
      show (decide ((Str.ofString "code" : Str) = Str.ofString "prose") && PyData.eqvAll [.str t] [.str t']) = false
      rw [h10, Bool.false_and]
    | head t' =>
      rw [decide_eq_false (fun z => by cases z)]
      show (decide ((Str.ofString "code" : Str) = Str.ofString "head") && PyData.eqvAll [.str t] [.str t']) = false
      rw [h11, Bool.false_and]
    | use i' m' =>
      rw [decide_eq_false (fun z => by cases z)]
      show (decide ((Str.ofString "code" : Str) = Str.ofString "use") && PyData.eqvAll [.str t] [.int i', .str m']) = false
      rw [h12, Bool.false_and]
    | code t' =>
      show (decide ((Str.ofString "code" : Str) = Str.ofString "code") && (decide (t = t') && true)) = _
      rw [decide_eq_true rfl, Bool.true_and, Bool.and_true]
      exact decide_eq_decide.mpr ⟨fun h => by rw [h], fun h => by cases h; rfl⟩
theorem eqv_dLs : ∀ d d' : List Ln, PyData.eqvAll (d.map dL) (d'.map dL) = decide (d = d')
  | [], [] => rfl
  | [], _ :: _ => by simp [PyData.eqvAll]
  | _ :: _, [] => by simp [PyData.eqvAll]
  | l :: d, l' :: d' => by
    rw [List.map_cons, List.map_cons, PyData.eqvAll, eqv_dL, eqv_dLs d d']
    by_cases h : l = l'
    · by_cases k : d = d'
      · simp [h, k]
      · simp [h, k]
    · simp [h]
theorem eqv_dD (d d' : List Ln) : PyData.eqv (dD d) (dD d') = decide (d = d') := by
  unfold dD
  rw [PyData.eqv, eqv_dLs]
theorem lay_dL {l : Ln} (h : Vd l) : (dL l).canLay0 = true := by
  have k1 : PyData.strOk "prose" = true := by decide +kernel
  have k2 : PyData.strOk "head" = true := by decide +kernel
  have k3 : PyData.strOk "use" = true := by decide +kernel
  have k4 : PyData.strOk "code" = true := by decide +kernel
  cases l <;> simp only [dL, PyData.canLay0, PyData.canLayAll0, k1, k2, k3, k4, Bool.and_true, Bool.true_and] <;> exact h
theorem depth_dL (l : Ln) : (dL l).depth = 1 := by cases l <;> simp [dL, PyData.depth, PyData.depthAll]
theorem lay_dLs : ∀ {d : List Ln}, (∀ l ∈ d, Vd l) → PyData.canLayAll0 (d.map dL) = true
  | [], _ => rfl
  | l :: d, h => by
    rw [List.map_cons, PyData.canLayAll0, lay_dL (h l (by simp)), lay_dLs fun x hx => h x (List.mem_cons_of_mem _ hx)]
    rfl
theorem depth_dLs : ∀ d : List Ln, PyData.depthAll (d.map dL) ≤ 1
  | [] => Nat.zero_le _
  | l :: d => by
    rw [List.map_cons, PyData.depthAll, depth_dL]
    have := depth_dLs d
    omega
theorem shp_dL {l : Ln} (h : Vd l) : SeqAt.shaped (dL l) = true := by
  unfold SeqAt.shaped
  rw [lay_dL h, depth_dL]
  rfl
theorem shp_dD {d : List Ln} (h : ∀ l ∈ d, Vd l) : SeqAt.shaped (dD d) = true := by
  unfold SeqAt.shaped dD
  have := depth_dLs d
  rw [PyData.canLay0, lay_dLs h, PyData.depth, decide_eq_true (by omega)]
  rfl
section
variable {K : PySem.W.Frag} {H : Hp}
theorem dp_str (x : Str) : Dp K H (.str x) (.str x) := .str x
theorem dp_ln {p : Addr} {l : Ln} (h : At H p l) : Dp K H (.ref p) (dL l) := by
  cases l with
  | prose t => exact .tup (SqT.of h) (.cons (.str _) (.cons (.str _) .nil))
  | head t => exact .tup (SqT.of h) (.cons (.str _) (.cons (.str _) .nil))
  | use i t => exact .tup (SqT.of h) (.cons (.str _) (.cons (.int _) (.cons (.str _) .nil)))
  | code t => exact .tup (SqT.of h) (.cons (.str _) (.cons (.str _) .nil))
theorem dp_lns {ls : List Addr} {d : List Ln} (h : Paired (At H) ls d) : DpAll K H (ls.map V.ref) (d.map dL) := by
  induction h with
  | nil => exact .nil
  | cons r _ ih => exact .cons (dp_ln r) ih
theorem dp_doc {a : Addr} {d : List Ln} (h : DocAt H a d) : Dp K H (.ref a) (dD d) := by
  obtain ⟨ls, h1, h2⟩ := h
  exact .tup (SqT.of h1) (dp_lns h2)
end
end Wf

end
section
set_option maxHeartbeats 4000000
/-! W18: rename. -/
namespace Wf
open PySem PySem.Spec PyProof.Rows L2 Wr GxR Wg
abbrev s18 : Stmt := topS 18
theorem sc18 : FnScope ["document", "old", "new", "made", "line"] ["document", "old", "new"] (defScope s18) := ⟨rfl, rfl, rfl, by decide +kernel, rfl, by decide +kernel, by decide +kernel⟩
def sp18 (e : Es) : Sp := fun vs H Q E => ∃ (a : Addr) (d : List Ln) (o n : T), vs = [.ref a, .str o, .str n] ∧ Tabs e H ∧ DocAt H a d ∧ okd none d ∧ d.length ≤ 1000000 ∧ (∀ l ∈ d, Vd l) ∧ PyData.strOk o = true ∧ o.length ≤ 1000 ∧ n.length ≤ 1000 ∧
  (∀ H' p, Ke e H H' → Ln.head o ∈ d → Fresh n d → DocAt H' p (d.map (rnL o n)) → Q (.ref p) H') ∧ (∀ H' dd, Ke e H H' → E (.ref e.np) dd H' ∧ E (.ref e.tk) dd H')
theorem At.keepL {o p : Addr} {H H' : Hp} {l : Ln} {xs : List V} (h : At H p l) (k : Keep o H H') (ho : H o = some (.lst xs)) : At H' p l := k _ _ (fun z => by have h' : H p = some _ := h; rw [z, ho] at h'; cases h') h
theorem At.ne {o p : Addr} {H : Hp} {l : Ln} {xs : List V} (h : At H p l) (ho : H o = some (.lst xs)) : p ≠ o := fun z => by have h' : H p = some _ := h; rw [z, ho] at h'; cases h'
theorem At.wr {o p : Addr} {H : Hp} {l : Ln} {xs : List V} {x : HO} (h : At H p l) (ho : H o = some (.lst xs)) : At (upd H o x) p l := by
  show upd H o x p = _
  rw [upd_ne (h.ne ho)]
  exact h
section
variable {P : Program} {w : World} {K : PySem.W.Frag} {mg : Str → Option Value} {base : Heap} {e : Es}
theorem rnL_head (o n : T) : rnL o n (.head o) = .head n := by
  show Ln.head (if o = o then n else o) = _
  rw [if_pos rfl]
theorem rnL_use (o n : T) (i : Int) : rnL o n (.use i o) = .use i n := by
  show Ln.use i (if o = o then n else o) = _
  rw [if_pos rfl]
theorem rnL_no {o n : T} {l : Ln} (h1 : l ≠ .head o) (h2 : ∀ i, l ≠ .use i o) : rnL o n l = l := by
  cases l with
  | head m =>
    show Ln.head (if m = o then n else m) = _
    rw [if_neg (fun z => h1 (by rw [z]))]
  | use i m =>
    show Ln.use i (if m = o then n else m) = _
    rw [if_neg (fun z => h2 i (by rw [z]))]
  | _ => rfl
theorem Paired.snoc' {α β : Type} {F : α → β → Prop} {xs : List α} {ys : List β} (h : Paired F xs ys) {x : α} {y : β} (r : F x y) : Paired F (xs ++ [x]) (ys ++ [y]) := Paired.app h (.cons r .nil)
theorem ok18 (T : Ty P K mg base e) : Has P w K mg base (L2.CX P w) 4 "rename" ["document", "old", "new"] (sp18 e) := by
  obtain ⟨f, fd, F, g⟩ := T.df 7 _ rfl
  refine ⟨f, fd, ?_, g, F.kp, F.binds fun _ _ _ _ _ _ us hl => match us, hl with | [_, _, _], _ => rfl⟩
  refine Fun.okX F sc18 (fun vs H Q E h => ?_) (fun cdv A outer s H vs Q E hr h => ?_)
  · obtain ⟨a, d, o, n, rfl, _⟩ := h
    rfl
  · obtain ⟨a, d, ol, ne, rfl, ht, hd, okD, hlen, hvd, hso, hl1, hl2, q1, q2⟩ := h
    refine ⟨_, pss_cons (ps_if (pt_cmpR op_notIn_seq (pv 1) (pe_has (ok11 T.toTx) hr (by rfl) (pa_cons (pv 0) pa_nil)) rfl) (pss_one (ps_raise rfl (takes_of rfl rfl rfl rfl) (pmk_np T hr (by rfl) (pa_cons (pv 1) pa_nil)))) pss_nil)
      (pss_cons (ps_expr (pe_hasX (E := E) (ok17 T) hr (by rfl) (passes_call (takes_of rfl rfl rfl rfl) (fun _ _ _ _ h => h)) (pa_cons (pv 0) (pa_cons (pv 2) pa_nil))))
      (pss_cons (ps_set (i := 3) sc18.nd rfl (.inl rfl) (pe_lst pa_nil))
      (pss_cons (ps_for (passes_of rfl) rfl (pi_tup (pv 0)) (pg_name (i := 4) sc18.nd rfl (.inl rfl))
        (pss_one (ps_if (pt_cmpR (op_eqD hr.units) (pv 4) (pe_tup (pa_cons pe_str (pa_cons (pv 1) pa_nil))) (nomark _))
          (pss_one (ps_expr (pe_bm PySem.F.plainAttrs_list PySem.F.slot_list_append PySem.F.type_list_append mt_append (pv 3) (pa_cons (pe_tup (pa_cons pe_str (pa_cons (pv 2) pa_nil))) pa_nil))))
          (pss_one (ps_if (PW.pt (pw_and (pt_cmpR op_eq (pe_ix ix_tup (pv 4) pe_int (fun _ _ => rfl)) pe_str (nomark _)) (pw_and1 (pt_cmpR op_eq (pe_ix ix_tup (pv 4) pe_int (fun _ _ => rfl)) (pv 1) (nomark _)))))
            (pss_one (ps_expr (pe_bm PySem.F.plainAttrs_list PySem.F.slot_list_append PySem.F.type_list_append mt_append (pv 3) (pa_cons (pe_tup (pa_cons pe_str (pa_cons (pe_ix ix_tup (pv 4) pe_int (fun _ _ => rfl)) (pa_cons (pv 2) pa_nil)))) pa_nil))))
            (pss_one (ps_expr (pe_bm PySem.F.plainAttrs_list PySem.F.slot_list_append PySem.F.type_list_append mt_append (pv 3) (pa_cons (pv 4) pa_nil)))))))))
      (pss_one (ps_ret (pe_callTy call_tuple_of (by rfl) T.tup (by decide +kernel) (pa_cons (pv 3) pa_nil))))))), ?_⟩
    refine ⟨_, rfl, _, rfl, a, d, rfl, hd, okD, hlen, fun H1 p s1 np hp => ?_⟩
    refine ⟨p, _, rfl, .inl (.of hp), rfl, flat_strs _, _, rfl, ?_⟩
    rw [inV_str]
    refine ifN2 (fun h1 => ?_) (fun h1 => ?_)
    · exact ⟨_, rfl, _, rfl, ⟨ol, rfl, hl1⟩, fun dd => (q2 _ dd (Ke.of s1)).1⟩
    · have hhd := (nms_mem d ol).mp h1
      refine ⟨_, rfl, _, rfl, a, d, ne, rfl, ht.same s1, hd.same s1, okD, hlen, hl2, fun H2 k2 hf => ?_, fun H2 dd k2 => (q2 _ dd ((Ke.of s1).trans k2)).2⟩
      have k02 := (Ke.of (e := e) s1).trans k2
      refine ⟨Nat.zero_le _, fun o no => ?_⟩
      have s3 := same_upd (o := .lst []) no
      have hd3 := (hd.ke k02).same s3
      obtain ⟨ls, ha, hls⟩ := _root_.id hd3
      have nao : a ≠ o := fun z => by rw [z, upd_same] at ha; cases ha
      refine ⟨_, rfl, a, rfl, ⟨_, .of ha⟩, for_tup (K := K) (a := a) (xs := ls.map V.ref) (fun i σ H4 => ∃ y4 ls', σ = [some (.ref a), some (.str ol), some (.str ne), some (.ref o), y4] ∧ Keep o (upd H2 o (.lst [])) H4 ∧ H4 o = some (.lst (ls'.map V.ref)) ∧ Paired (At H4) ls' ((d.take i).map (rnL ol ne)))
        ⟨none, [], rfl, Keep.of (Same.refl _), upd_same, .nil⟩ (fun i σ H4 _ ⟨_, _, _, k, _⟩ => .of (k _ _ nao ha)) ?_ ?_⟩
      · rintro i x σ H4 hi ⟨y4, ls', rfl, k, ho, hp'⟩
        obtain ⟨p, l, rfl, hdi, hat⟩ : ∃ p l, x = .ref p ∧ d[i]? = some l ∧ At H4 p l := by
          rw [List.getElem?_map] at hi
          cases e3 : ls[i]? with
          | none => rw [e3] at hi; cases hi
          | some p =>
            rw [e3] at hi
            obtain ⟨l, g1, g2⟩ := Paired.get' hls e3
            exact ⟨p, l, (Option.some.inj hi).symm, g1, g2.keepL k upd_same⟩
        have hil : i < d.length := (List.getElem?_eq_some_iff.mp hdi).1
        have hvl := hvd l (List.mem_of_getElem? hdi)
        have hsn : (d.take (i + 1)).map (rnL ol ne) = (d.take i).map (rnL ol ne) ++ [rnL ol ne l] := by rw [List.take_add_one, hdi]; simp
        have hln : ls'.length < sizeLine := by
          have := hp'.length
          rw [List.length_map, List.length_take] at this
          exact small7 (by omega)
        have fin : ∀ (H5 : Hp) (q : Addr), Same H4 H5 → At H5 q (rnL ol ne l) → ∃ y4 ls'', [some (V.ref a), some (.str ol), some (.str ne), some (.ref o), some (.ref p)] = [some (.ref a), some (.str ol), some (.str ne), some (.ref o), y4] ∧ Keep o (upd H2 o (.lst [])) (upd H5 o (.lst (ls'.map V.ref ++ [V.ref q]))) ∧ upd H5 o (.lst (ls'.map V.ref ++ [V.ref q])) o = some (.lst (ls''.map V.ref)) ∧ Paired (At (upd H5 o (.lst (ls'.map V.ref ++ [V.ref q])))) ls'' ((d.take (i + 1)).map (rnL ol ne)) := fun H5 q s5 hq => by
          have ho5 := s5 _ _ ho
          refine ⟨_, ls' ++ [q], rfl, (k.trans (Keep.of s5)).trans .upd, by rw [upd_same, List.map_append]; rfl, ?_⟩
          rw [hsn]
          exact Paired.snoc' (Paired.mono (fun _ _ z => At.wr (s5 _ _ z) ho5) hp') (hq.wr ho5)
        refine ⟨_, rfl, _, rfl, by show 2 ≤ sizeLine; decide, fun r nr => ?_⟩
        have s5 := same_upd (o := .tup [.str "head", .str ol]) nr
        refine ⟨dL l, dL (.head ol), dp_ln (s5 _ _ hat), dp_ln (upd_same), shp_dL hvl, shp_dL hso, _, rfl, ?_⟩
        rw [eqv_dL]
        have hat5 := s5 _ _ hat
        have ho5 := s5 _ _ ho
        refine if2 (fun e1 => ?_) (fun e1 => ?_)
        · refine ⟨_, rfl, .inl ⟨rfl, _, .of ho5⟩, _, rfl, by show 2 ≤ sizeLine; decide, fun r2 nr2 => ?_⟩
          have s6 := same_upd (o := .tup [.str "head", .str ne]) nr2
          refine ⟨o, _, _, rfl, rfl, s6 _ _ ho5, by rw [List.length_map]; exact hln, ?_⟩
          exact fin _ r2 (s5.trans s6) (by rw [e1, rnL_head]; exact upd_same)
        · obtain ⟨sk, k0, kh, kp, ku, kc⟩ := k_head l
          refine ⟨_, rfl, p, _, _, _, rfl, rfl, .of hat5, atI_nat (j := 0) k0, rfl, _, rfl, ?_⟩
          refine if2 (fun e2 => ?_) (fun e2 => ?_)
          · obtain ⟨ii, m, rfl⟩ := ku.mp (V.str.inj e2)
            refine ⟨_, rfl, p, _, _, _, rfl, rfl, .of hat5, atI_nat (j := 2) rfl, _, rfl, rfl, _, rfl, ?_⟩
            refine if2 (fun e3 => ?_) (fun e3 => ?_)
            · have em : m = ol := V.str.inj e3
              refine ⟨_, rfl, .inl ⟨rfl, _, .of ho5⟩, _, rfl, p, _, _, _, rfl, rfl, .of hat5, atI_nat (j := 1) rfl, _, rfl, by show 3 ≤ sizeLine; decide, fun r2 nr2 => ?_⟩
              have s6 := same_upd (o := .tup [.str "use", .int ii, .str ne]) nr2
              refine ⟨o, _, _, rfl, rfl, s6 _ _ ho5, by rw [List.length_map]; exact hln, ?_⟩
              exact fin _ r2 (s5.trans s6) (by rw [em, rnL_use]; exact upd_same)
            · refine ⟨_, rfl, .inl ⟨rfl, _, .of ho5⟩, _, rfl, o, _, _, rfl, rfl, ho5, by rw [List.length_map]; exact hln, ?_⟩
              exact fin _ p s5 (by rw [rnL_no (fun z => by cases z) (fun j z => by cases z; exact e3 rfl)]; exact hat5)
          · refine ⟨_, rfl, .inl ⟨rfl, _, .of ho5⟩, _, rfl, o, _, _, rfl, rfl, ho5, by rw [List.length_map]; exact hln, ?_⟩
            exact fin _ p s5 (by rw [rnL_no e1 (fun j z => e2 (congrArg V.str (ku.mpr ⟨j, ol, z⟩)))]; exact hat5)
      · rintro σ H4 ⟨y4, ls', rfl, k, ho, hp'⟩
        have s4 := Keep.same s3 no k
        refine ⟨_, rfl, o, _, rfl, .inl ⟨.of ho, fun l nl => ?_⟩⟩
        have e : d.take (ls.map V.ref).length = d := by rw [List.length_map, hls.length, List.take_length]
        rw [e] at hp'
        exact q1 _ l ((k02.trans (Ke.of s4)).trans (Ke.of (same_upd nl))) hhd hf ⟨ls', upd_same, Paired.mono (fun _ _ z => same_upd nl _ _ z) hp'⟩
end
end Wf

end
section
set_option maxHeartbeats 4000000
/-! W24: pieces of documents; split, join. -/
namespace Wf
open PySem PySem.Spec PyProof.Rows L2 Wr GxR Wg
/-! ### pieces -/
def cutD (d : List Ln) (lo hi : Option Int) : List Ln := (d.drop (HT.sIx d.length 0 lo)).take (HT.sIx d.length d.length hi - HT.sIx d.length 0 lo)
theorem cutD_to (d : List Ln) {j : Nat} (h : j ≤ d.length) : cutD d none (some (j : Int)) = d.take j := by
  unfold cutD
  rw [HT.sIx_none, HT.sIx_nat, Nat.min_eq_left h]
  simp
theorem cutD_from (d : List Ln) {i : Nat} (h : i ≤ d.length) : cutD d (some (i : Int)) none = d.drop i := by
  unfold cutD
  rw [HT.sIx_none, HT.sIx_nat, Nat.min_eq_left h]
  apply List.take_of_length_le
  rw [List.length_drop]
  omega
theorem cutD_mid (d : List Ln) {i j : Nat} (h : i ≤ d.length) (k : j ≤ d.length) : cutD d (some (i : Int)) (some (j : Int)) = (d.drop i).take (j - i) := by
  unfold cutD
  rw [HT.sIx_nat, HT.sIx_nat, Nat.min_eq_left h, Nat.min_eq_left k]
theorem slA {K : PySem.W.Frag} {H : Hp} {a : Addr} {d : List Ln} {lo hi : Option Int} {Q : VK} (hd : DocAt H a d) (q : ∀ H' p, Same H H' → DocAt H' p (cutD d lo hi) → Q (.ref p) H') : rSlA K (.ref a) lo hi H Q := by
  obtain ⟨ls, h1, h2⟩ := _root_.id hd
  have hl : (ls.map V.ref).length = d.length := by rw [List.length_map]; exact h2.length
  refine ⟨a, ls.map V.ref, rfl, .of h1, fun hw => ?_, fun hw p np => ?_⟩
  · refine q H a (Same.refl _) ?_
    have e : cutD d lo hi = d := by
      rw [hl] at hw
      unfold cutD
      rw [hw.1, hw.2]
      simp
    rw [e]
    exact hd
  · refine q _ p (same_upd np) ⟨(ls.drop (HT.sIx d.length 0 lo)).take (HT.sIx d.length d.length hi - HT.sIx d.length 0 lo), ?_, ?_⟩
    · rw [upd_same]
      unfold cutV
      rw [hl, List.map_take, List.map_drop]
    · exact Paired.mono (fun _ _ z => same_upd np _ _ z) (Paired.tk _ (Paired.dp _ h2))
theorem catA {K : PySem.W.Frag} {H : Hp} {a b : Addr} {d1 d2 : List Ln} {Q : VK} (h1 : DocAt H a d1) (h2 : DocAt H b d2) (hz : d1.length + d2.length ≤ 10000000) (q : ∀ H' p, Same H H' → DocAt H' p (d1 ++ d2) → Q (.ref p) H') : rCatA K (.ref a) (.ref b) H Q := by
  obtain ⟨l1, a1, p1⟩ := _root_.id h1
  obtain ⟨l2, a2, p2⟩ := _root_.id h2
  have e1 := p1.length
  have e2 := p2.length
  refine ⟨a, b, l1.map V.ref, l2.map V.ref, rfl, rfl, .of a1, .of a2, ?_, fun hx => ?_, fun _ hy => ?_, fun _ _ p np => ?_⟩
  · rw [List.length_map, List.length_map, e1, e2]
    exact Nat.le_trans hz (by decide)
  · have : d1 = [] := List.eq_nil_of_length_eq_zero (by rw [← e1, ← List.length_map (f := V.ref), hx]; rfl)
    rw [this] at q
    exact q H b (Same.refl _) h2
  · have : d2 = [] := List.eq_nil_of_length_eq_zero (by rw [← e2, ← List.length_map (f := V.ref), hy]; rfl)
    rw [this, List.append_nil] at q
    exact q H a (Same.refl _) h1
  · refine q _ p (same_upd np) ⟨l1 ++ l2, by rw [upd_same, List.map_append], ?_⟩
    exact Paired.mono (fun _ _ z => same_upd np _ _ z) (Paired.app p1 p2)
theorem doc1 {H : Hp} {a p : Addr} {l : Ln} (h : H a = some (.tup [.ref p])) (hl : At H p l) : DocAt H a [l] := ⟨[p], h, .cons hl .nil⟩
theorem doc2 {H : Hp} {a p q : Addr} {l m : Ln} (h : H a = some (.tup [.ref p, .ref q])) (hl : At H p l) (hm : At H q m) : DocAt H a [l, m] := ⟨[p, q], h, .cons hl (.cons hm .nil)⟩
/-! ### split -/
theorem cu_sec {d : List Ln} {s : Sec} (h : s ∈ secs 0 d) {k : Nat} (h1 : s.2.1 + 1 ≤ k) (h2 : k ≤ s.2.2) : cu none (d.take k) = some s.1 := by
  obtain ⟨x, r, e, e1, e2⟩ := sec_mem 0 d s h
  obtain ⟨y, ey, _⟩ := tw_prefix r
  have ht : d.take k = x ++ [.head s.1] ++ (tw r).take (k - (x.length + 1)) := by
    rw [e, show x ++ Ln.head s.1 :: r = (x ++ [.head s.1]) ++ r from (by simp)]
    rw [List.take_append, List.take_of_length_le (by simp; omega)]
    congr 1
    have hk : k - (x ++ [Ln.head s.1]).length ≤ (tw r).length := by simp; omega
    conv => lhs; rw [ey]
    rw [List.take_append_of_le_length hk]
    simp
  rw [ht, cu_app, cu_hd]
  exact cu_own fun l hl => tw_mem (List.mem_of_mem_take hl)
abbrev s24 : Stmt := topS 24
theorem sc24 : FnScope ["document", "at", "name", "head", "end"] ["document", "at"] (defScope s24) := ⟨rfl, rfl, rfl, by decide +kernel, rfl, by decide +kernel, by decide +kernel⟩
def sp24 (e : Es) : Sp := fun vs H Q E => ∃ (a : Addr) (d : List Ln) (i : Nat), vs = [.ref a, .int (i : Int)] ∧ DocAt H a d ∧ okd none d ∧ d.length ≤ 1000000 ∧
  (∀ H' p n, Same H H' → i ≤ d.length → cu none (d.take i) = some n → DocAt H' p (d.take i ++ [.prose mt, .head n] ++ d.drop i) → Q (.ref p) H') ∧ (∀ H', Same H H' → E (.ref e.bp) none H')
section
variable {P : Program} {w : World} {K : PySem.W.Frag} {mg : Str → Option Value} {base : Heap} {e : Es}
theorem ok24 (T : Ty P K mg base e) : Has P w K mg base (L2.CX P w) 2 "split" ["document", "at"] (sp24 e) := by
  obtain ⟨f, fd, F, g⟩ := T.df 13 _ rfl
  refine ⟨f, fd, ?_, g, F.kp, F.binds fun _ _ _ _ _ _ us hl => match us, hl with | [_, _], _ => rfl⟩
  refine Fun.okX F sc24 (fun vs H Q E h => ?_) (fun cdv A outer s H vs Q E hr h => ?_)
  · obtain ⟨a, d, o, rfl, _⟩ := h
    rfl
  · obtain ⟨a, d, i0, rfl, hd, okD, hlen, q1, q2⟩ := h
    refine ⟨_, pss_cons (ps_for (passes_of rfl) rfl (pi_list (pe_has (ok10 T.toTx) hr (by rfl) (pa_cons (pv 0) pa_nil))) (pg_tup rfl (pgs_cons (pg_name (i := 2) sc24.nd rfl (.inl rfl)) (pgs_cons (pg_name (i := 3) sc24.nd rfl (.inl rfl)) (pgs_cons (pg_name (i := 4) sc24.nd rfl (.inl rfl)) pgs_nil))))
        (pss_one (ps_if (pt_chain op_lt op_lt (pe_op op_add (pv 3) pe_int) (pv 1) (pv 4))
          (pss_one (ps_ret (pe_op op_catA (pe_op op_catA (pe_slice sl_tupA (pv 0) po_none (po_some (pv 1))) (pe_tup (pa_cons (pe_tup (pa_cons pe_str (pa_cons pe_str pa_nil))) (pa_cons (pe_tup (pa_cons pe_str (pa_cons (pv 2) pa_nil))) pa_nil))))
            (pe_slice sl_tupA (pv 0) (po_some (pv 1)) po_none))))
          pss_nil)))
      (pss_one (ps_raise rfl (takes_of rfl rfl rfl rfl) (pmk_own PySem.F.excBase_ValueError T.xBP T.gBP T.kBP (raises_own T.bBP T.tBP) rfl))), ?_⟩
    refine ⟨_, rfl, a, d, rfl, hd, okD, hlen, fun H1 p s1 np hs => ?_⟩
    obtain ⟨ts, hp, hl⟩ := hs.lst
    refine ⟨p, rfl, ⟨_, .of hp⟩, for_list (K := K) (a := p) (xs := ts.map V.ref) (fun i σ H2 => ∃ y2 y3 y4, σ = [some (.ref a), some (.int (i0 : Int)), y2, y3, y4] ∧ H2 = H1)
      ⟨none, none, none, rfl, rfl⟩ (fun i σ H2 _ ⟨_, _, _, _, k⟩ => by rw [k]; exact .of hp) ?_ ?_⟩
    · rintro i x σ H2 hi ⟨y2, y3, y4, rfl, rfl⟩
      obtain ⟨t, s, rfl, hsi, ht⟩ := hs.at hp hi
      have sb := sec_bound (List.mem_of_getElem? hsi)
      refine ⟨t, _, rfl, .of ht, rfl, _, _, rfl, _, _, rfl, _, _, rfl, rfl, ?_⟩
      refine ⟨_, rfl, _, _, rfl, rfl, _, rfl, _, _, rfl, rfl, _, rfl, ?_⟩
      refine if2 (fun h1 => ?_) (fun h1 => ?_)
      · refine ⟨_, rfl, _, _, rfl, rfl, _, rfl, ?_⟩
        refine if2 (fun h2 => ?_) (fun h2 => ?_)
        · have hd1 := hd.same s1
          have hi0 : i0 ≤ d.length := by omega
          refine ⟨_, rfl, _, rfl, _, rfl, slA hd1 fun H3 p1 s3 hp1 => ?_⟩
          rw [cutD_to d hi0] at hp1
          refine ⟨by show 2 ≤ sizeLine; decide, fun r1 nr1 => ⟨_, rfl, by show 2 ≤ sizeLine; decide, fun r2 nr2 => ⟨by show 2 ≤ sizeLine; decide, fun r3 nr3 => ?_⟩⟩⟩
          have t1 := same_upd (o := .tup [.str "prose", .str (Str.ofString "")]) nr1
          have t2 := same_upd (o := .tup [.str "head", .str s.1]) nr2
          have t3 := same_upd (o := .tup [.ref r1, .ref r2]) nr3
          have a1 : At (upd H3 r1 (.tup [.str "prose", .str (Str.ofString "")])) r1 (.prose mt) := by
            rw [← empty_eq]
            exact upd_same
          have a2 : At (upd (upd H3 r1 (.tup [.str "prose", .str (Str.ofString "")])) r2 (.tup [.str "head", .str s.1])) r2 (.head s.1) := upd_same
          refine catA (((hp1.same t1).same t2).same t3) (doc2 upd_same (t3 _ _ (t2 _ _ a1)) (t3 _ _ a2)) (by rw [List.length_take]; simp only [List.length_cons, List.length_nil]; omega) fun H4 p4 s4 hp4 => ?_
          have s14 := (s1.trans s3).trans (((t1.trans t2).trans t3).trans s4)
          refine ⟨_, rfl, _, rfl, _, rfl, ?_⟩
          dsimp only [tNoPart]
          refine slA (hd.same s14) fun H5 p5 s5 hp5 => ?_
          rw [cutD_from d hi0] at hp5
          refine catA (hp4.same s5) hp5 (by rw [List.length_append, List.length_take, List.length_drop]; simp only [List.length_cons, List.length_nil]; omega) fun H6 p6 s6 hp6 => ?_
          exact q1 _ p6 s.1 (s14.trans (s5.trans s6)) hi0 (cu_sec (List.mem_of_getElem? hsi) (by omega) (by omega)) hp6
        · exact ⟨_, _, _, rfl, rfl⟩
      · exact ⟨_, rfl, _, _, _, rfl, rfl⟩
    · rintro σ H2 ⟨y2, y3, y4, rfl, rfl⟩
      exact q2 _ s1
end
end Wf

end
section
set_option maxHeartbeats 4000000
/-! W25: join. -/
namespace Wf
open PySem PySem.Spec PyProof.Rows L2 Wr GxR Wg
abbrev s25 : Stmt := topS 25
theorem sc25 : FnScope ["document", "at", "end", "name", "head", "last"] ["document", "at"] (defScope s25) := ⟨rfl, rfl, rfl, by decide +kernel, rfl, by decide +kernel, by decide +kernel⟩
def sp25 (e : Es) : Sp := fun vs H Q E => ∃ (a : Addr) (d : List Ln) (i : Nat), vs = [.ref a, .int (i : Int)] ∧ DocAt H a d ∧ okd none d ∧ d.length ≤ 1000000 ∧ (∀ l ∈ d, Vd l) ∧ i < d.length ∧
  (∀ H' p n j, Same H H' → j ≤ i → (∀ l ∈ (d.drop j).take (i - j), l = .prose mt) → d[i]? = some (.head n) → cu none (d.take j) = some n → DocAt H' p (d.take j ++ d.drop (i + 1)) → Q (.ref p) H') ∧ (∀ H', Same H H' → E (.ref e.bp) none H')
theorem vd_prose : Vd (.prose mt) := by show PyData.strOk mt = true; decide +kernel
theorem take_back {d : List Ln} {j i : Nat} {P : Ln → Prop} (hj : j ≤ i) (h : ∀ l ∈ (d.drop j).take (i - j), P l) {l : Ln} (hl : d[j - 1]? = some l) (h0 : 0 < j) (hP : P l) : ∀ l ∈ (d.drop (j - 1)).take (i - (j - 1)), P l := by
  have hlt : j - 1 < d.length := (List.getElem?_eq_some_iff.mp hl).1
  have e : d.drop (j - 1) = l :: d.drop j := by
    have := List.drop_eq_getElem_cons hlt
    rw [this, show j - 1 + 1 = j by omega]
    congr 1
    exact Option.some.inj ((List.getElem?_eq_getElem hlt).symm.trans hl)
  rw [e, show i - (j - 1) = (i - j) + 1 by omega, List.take_succ_cons]
  intro m hm
  rcases List.mem_cons.mp hm with z | z
  · rw [z]; exact hP
  · exact h m z
section
variable {P : Program} {w : World} {K : PySem.W.Frag} {mg : Str → Option Value} {base : Heap} {e : Es}
theorem ok25 (T : Ty P K mg base e) : Has P w K mg base (L2.CX P w) 2 "join" ["document", "at"] (sp25 e) := by
  obtain ⟨f, fd, F, g⟩ := T.df 14 _ rfl
  refine ⟨f, fd, ?_, g, F.kp, F.binds fun _ _ _ _ _ _ us hl => match us, hl with | [_, _], _ => rfl⟩
  refine Fun.okX F sc25 (fun vs H Q E h => ?_) (fun cdv A outer s H vs Q E hr h => ?_)
  · obtain ⟨a, d, o, rfl, _⟩ := h
    rfl
  · obtain ⟨a, d, i0, rfl, hd, okD, hlen, hvd, hi0, q1, q2⟩ := h
    obtain ⟨xs, hx, hxl⟩ := hd.len
    have hl0 : d[i0]? = some d[i0] := List.getElem?_eq_getElem hi0
    obtain ⟨ys, p0, hy, hp0, hat0⟩ := hd.get hl0
    obtain ⟨k, k0, kh, kp, ku, kc⟩ := k_head d[i0]
    -- behind the while
    obtain ⟨tf, hfor, fin⟩ : ∃ tf, PSs (cxOf (L2.CX P w) P w K mg base ["document", "at", "end", "name", "head", "last"] "join" (defScope s25) f cdv A outer s H E) (List.drop 3 (defBody s25)) tf ∧ ∀ (j : Nat) (H2 : Hp) (nn : Str), d[i0] = .head nn → j ≤ i0 → Same H H2 → (∀ l ∈ (d.drop j).take (i0 - j), l = .prose mt) →
        tf { nx := fun _ H' => Q .non H', rt := Q } [some (.ref a), some (.int (i0 : Int)), some (.int (j : Int)), none, none, none] H2 := by
      refine ⟨_, pss_cons (ps_for (passes_of rfl) rfl (pi_list (pe_has (ok10 T.toTx) hr (by rfl) (pa_cons (pv 0) pa_nil))) (pg_tup rfl (pgs_cons (pg_name (i := 3) sc25.nd rfl (.inl rfl)) (pgs_cons (pg_name (i := 4) sc25.nd rfl (.inl rfl)) (pgs_cons (pg_name (i := 5) sc25.nd rfl (.inl rfl)) pgs_nil))))
        (pss_one (ps_if (PW.pt (pw_and (pt_cmpR op_eq (pv 5) (pv 2) (nomark _)) (pw_and (pt_cmpR op_lt (pv 4) (pv 1) (nomark _)) (pw_and1 (pt_cmpR op_eq (pv 3) (pe_ix ix_tup (pe_ix ix_tup (pv 0) (pv 1) (fun _ _ => rfl)) pe_int (fun _ _ => rfl)) (nomark _))))))
          (pss_one (ps_ret (pe_op op_catA (pe_slice sl_tupA (pv 0) po_none (po_some (pv 2))) (pe_slice sl_tupA (pv 0) (po_some (pe_op op_add (pv 1) pe_int)) po_none))))
          pss_nil)))
        (pss_one (ps_raise rfl (takes_of rfl rfl rfl rfl) (pmk_own PySem.F.excBase_ValueError T.xBP T.gBP T.kBP (raises_own T.bBP T.tBP) rfl))), fun j H2 nn hnn hj s2 hpr => ?_⟩
      refine ⟨_, rfl, a, d, rfl, hd.same s2, okD, hlen, fun H1 p s1 np hs => ?_⟩
      obtain ⟨ts, hp, hl⟩ := hs.lst
      refine ⟨p, rfl, ⟨_, .of hp⟩, for_list (K := K) (a := p) (xs := ts.map V.ref) (fun i σ H4 => ∃ y2 y3 y4, σ = [some (.ref a), some (.int (i0 : Int)), some (.int (j : Int)), y2, y3, y4] ∧ H4 = H1)
        ⟨none, none, none, rfl, rfl⟩ (fun i σ H2 _ ⟨_, _, _, _, k⟩ => by rw [k]; exact .of hp) ?_ ?_⟩
      · rintro i x σ H4 hi ⟨y2, y3, y4, rfl, rfl⟩
        obtain ⟨t, s, rfl, hsi, ht⟩ := hs.at hp hi
        have sb := sec_bound (List.mem_of_getElem? hsi)
        refine ⟨t, _, rfl, .of ht, rfl, _, _, rfl, _, _, rfl, _, _, rfl, rfl, ?_⟩
        refine ⟨_, rfl, _, rfl, rfl, _, rfl, ?_⟩
        refine if2 (fun h1 => ?_) (fun h1 => ?_)
        · have e1 : s.2.2 = j := by have := V.int.inj h1; omega
          refine ⟨_, rfl, _, rfl, _, _, rfl, rfl, _, rfl, ?_⟩
          refine if2 (fun h2 => ?_) (fun h2 => ?_)
          · have s12 := s2.trans s1
            have hat1 := s12 _ _ hat0
            rw [hnn] at hat1
            refine ⟨_, rfl, _, rfl, _, rfl, a, ys, _, _, rfl, rfl, .of (s12 _ _ hy), atI_nat hp0, p0, _, _, _, rfl, rfl, .of hat1, atI_nat (j := 1) rfl, rfl, _, rfl, ?_⟩
            refine if2 (fun h3 => ?_) (fun h3 => ?_)
            · have e3 : s.1 = nn := V.str.inj h3
              refine ⟨_, rfl, _, rfl, _, rfl, slA (hd.same s12) fun H5 p5 s5 hp5 => ?_⟩
              rw [cutD_to d (by omega)] at hp5
              refine ⟨_, rfl, _, rfl, _, _, rfl, rfl, _, rfl, ?_⟩
              dsimp only [tNoPart]
              refine slA (hd.same (s12.trans s5)) fun H6 p6 s6 hp6 => ?_
              have ei : ((i0 : Int) + 1) = ((i0 + 1 : Nat) : Int) := by omega
              rw [ei, cutD_from d (by omega)] at hp6
              refine catA (hp5.same s6) hp6 (by rw [List.length_take, List.length_drop]; omega) fun H7 p7 s7 hp7 => ?_
              have hcu := cu_sec (List.mem_of_getElem? hsi) (k := j) (by omega) (by omega)
              rw [e3] at hcu
              exact q1 _ p7 nn j ((s12.trans s5).trans (s6.trans s7)) hj hpr (by rw [hl0, hnn]) hcu hp7
            · exact ⟨_, _, _, rfl, rfl⟩
          · exact ⟨_, _, _, rfl, rfl⟩
        · exact ⟨_, _, _, rfl, rfl⟩
      · rintro σ H4 ⟨y2, y3, y4, rfl, rfl⟩
        exact q2 _ (s2.trans s1)
    refine ⟨_, pss_cons (ps_if (PW.pt (pw_or (pt_not (pt_chain op_le op_lt pe_int (pv 1) (pe_callB call_len_seq (by rfl) T.len PySem.boot_len (pa_cons (pv 0) pa_nil)))) (pw_or1 (pt_cmpR op_ne (pe_ix ix_tup (pe_ix ix_tup (pv 0) (pv 1) (fun _ _ => rfl)) pe_int (fun _ _ => rfl)) pe_str (nomark _)))))
          (pss_one (ps_raise rfl (takes_of rfl rfl rfl rfl) (pmk_own PySem.F.excBase_ValueError T.xBP T.gBP T.kBP (raises_own T.bBP T.tBP) rfl))) pss_nil)
      (pss_cons (ps_set (i := 2) sc25.nd rfl (.inl rfl) (pv 1))
      (pss_cons (ps_while (passes_of rfl) (PW.pt (pw_and (pt_cmpR op_gt (pv 2) pe_int (nomark _)) (pw_and1 (pt_cmpR (op_eqD hr.units) (pe_ix ix_tup (pv 0) (pe_op op_sub (pv 2) pe_int) (fun _ _ => rfl)) (pe_tup (pa_cons pe_str (pa_cons pe_str pa_nil))) (nomark _)))))
          (pss_one (ps_set (i := 2) sc25.nd rfl (.inl rfl) (pe_op op_sub (pv 2) pe_int))))
      hfor)), ?_⟩
    refine ⟨_, rfl, _, _, rfl, rfl, _, rfl, ?_⟩
    refine ifY (by omega) ?_
    refine ⟨_, rfl, a, xs, rfl, .inr (.of hx), _, _, rfl, rfl, _, rfl, ?_⟩
    refine ifNN (by omega) ?_
    refine ⟨_, rfl, _, rfl, a, ys, _, _, rfl, rfl, .of hy, atI_nat hp0, p0, _, _, _, rfl, rfl, .of hat0, atI_nat (j := 0) k0, rfl, _, rfl, ?_⟩
    refine ifN2 (fun h1 => ?_) (fun h1 => ?_)
    · exact q2 H (Same.refl _)
    · obtain ⟨nn, hnn⟩ := kh.mp (V.str.inj h1)
      refine ⟨_, rfl, ?_⟩
      refine ⟨fun m σ H1 => σ = [some (.ref a), some (.int (i0 : Int)), some (.int (m : Int)), none, none, none] ∧ m ≤ i0 ∧ Same H H1 ∧ ∀ l ∈ (d.drop m).take (i0 - m), l = .prose mt, ⟨i0, rfl, Nat.le_refl _, Same.refl _, fun l hl => by rw [Nat.sub_self, List.take_zero] at hl; cases hl⟩, ?_⟩
      rintro m σ H1 ⟨rfl, hm, s1, hpr⟩
      refine ⟨_, rfl, _, _, rfl, rfl, _, rfl, ?_⟩
      refine if2 (fun h2 => ?_) (fun h2 => ?_)
      · have hd1 := hd.same s1
        have hml : m - 1 < d.length := by omega
        have hlm : d[m - 1]? = some d[m - 1] := List.getElem?_eq_getElem hml
        obtain ⟨zs, pm, hz, hpm, hatm⟩ := hd1.get hlm
        have em : ((m : Int) - 1) = ((m - 1 : Nat) : Int) := by omega
        refine ⟨_, rfl, _, rfl, _, _, rfl, rfl, a, zs, _, _, rfl, rfl, .of hz, by rw [em]; exact atI_nat hpm, by show 2 ≤ sizeLine; decide, fun r nr => ?_⟩
        have s2 := same_upd (o := .tup [.str "prose", .str (Str.ofString "")]) nr
        have ar : At (upd H1 r (.tup [.str "prose", .str (Str.ofString "")])) r (.prose mt) := by
          rw [← empty_eq]
          exact upd_same
        refine ⟨dL d[m - 1], dL (.prose mt), dp_ln (s2 _ _ hatm), dp_ln ar, shp_dL (hvd _ (List.getElem_mem hml)), shp_dL vd_prose, _, rfl, ?_⟩
        rw [eqv_dL]
        refine if2 (fun e1 => ?_) (fun e1 => ?_)
        · refine ⟨fun σ' H' => σ' = [some (.ref a), some (.int (i0 : Int)), some (.int ((m - 1 : Nat) : Int)), none, none, none] ∧ Same H H', fun σ' H' hq => ⟨m - 1, by omega, hq.1, by omega, hq.2, take_back hm hpr hlm (by omega) e1⟩, _, rfl, _, _, rfl, rfl, ?_, s1.trans s2⟩
          show [some (V.ref a), some (.int (i0 : Int)), some (.int ((m : Int) - 1)), none, none, none] = _
          rw [em]
        · exact fin m _ nn hnn hm (s1.trans s2) hpr
      · exact fin m H1 nn hnn hm s1 hpr
end
end Wf

end
section
set_option maxHeartbeats 4000000
/-! W23: put_in. -/
namespace Wf
open PySem PySem.Spec PyProof.Rows L2 Wr GxR Wg
/-- a line of no great size -/
def Sml (b : Nat) : Ln → Prop
  | .prose t => t.length ≤ 1000
  | .head n => n.length ≤ 1000
  | .use i n => 0 ≤ i ∧ i ≤ (b : Int) ∧ n.length ≤ 1000
  | .code t => t.length ≤ b
theorem flat_ints (ns : List Nat) : (intV ns).all flatV = true := by
  unfold intV
  rw [List.all_map, List.all_eq_true]
  intro _ _; rfl
theorem inV_int (n : Nat) : ∀ ns : List Nat, inV (.int (n : Int)) (intV ns) = decide (n ∈ ns)
  | [] => rfl
  | m :: ns => by
    have ih := inV_int n ns
    unfold inV intV at *
    rw [List.map_cons, List.any_cons, ih]
    show (((m : Int) == (n : Int)) || decide (n ∈ ns)) = decide (n ∈ m :: ns)
    by_cases h : m = n
    · subst h; simp
    · have h2 : ¬ n = m := fun e => h e.symm
      have h3 : ¬ (m : Int) = (n : Int) := by omega
      simp [h, h2, h3]
theorem intV_at {ns : List Nat} {j : Nat} {v : V} (h : (intV ns)[j]? = some v) : ∃ n, ns[j]? = some n ∧ v = .int (n : Int) := by
  unfold intV at h
  rw [List.getElem?_map] at h
  cases e : ns[j]? with
  | none => rw [e] at h; cases h
  | some n => rw [e] at h; exact ⟨n, rfl, (Option.some.inj h).symm⟩
theorem plc_its {n : Str} {d : List Ln} {i j : Nat} (h : (plc n none 0 d)[i]? = some j) : ∃ l, (its n none d)[i]? = some l ∧ d[j]? = some l ∧ l.own = true := by
  have e := plc_get n none 0 d d rfl
  have e2 := congrArg (fun z => z[i]?) e
  simp only [List.getElem?_map, h, Option.map_some] at e2
  cases z : (its n none d)[i]? with
  | none => rw [z] at e2; cases e2
  | some l =>
    rw [z] at e2
    exact ⟨l, rfl, Option.some.inj e2, (its_mem (List.mem_of_getElem? z)).2⟩
theorem plc_its_len (n : Str) (d : List Ln) : (plc n none 0 d).length = (its n none d).length := by
  have e := congrArg List.length (plc_get n none 0 d d rfl)
  simpa using e
abbrev s23 : Stmt := topS 23
theorem sc23 : FnScope ["document", "at", "indent", "name", "lines", "piece", "inner"] ["document", "at"] (defScope s23) := ⟨rfl, rfl, rfl, by decide +kernel, rfl, by decide +kernel, by decide +kernel⟩
def sp23 (e : Es) : Sp := fun vs H Q E => ∃ (a : Addr) (d : List Ln) (i b : Nat), vs = [.ref a, .int (i : Int)] ∧ DocAt H a d ∧ okd none d ∧ d.length ≤ 1000000 ∧ (∀ l ∈ d, Sml b l) ∧ b ≤ 400000 ∧ i < d.length ∧
  (∀ H' p j m, Same H H' → d[i]? = some (.use j m) → Ln.head m ∈ d → i ∉ plc m none 0 d → DocAt H' p (d.take i ++ (its m none d).map (shL j) ++ d.drop (i + 1)) → Q (.ref p) H') ∧ (∀ H' dd, Same H H' → E (.ref e.bp) none H' ∧ E (.ref e.np) (some dd) H' ∧ E (.ref e.rg) (some dd) H')
section
variable {P : Program} {w : World} {K : PySem.W.Frag} {mg : Str → Option Value} {base : Heap} {e : Es}
theorem ok23 (T : Ty P K mg base e) : Has P w K mg base (L2.CX P w) 3 "put_in" ["document", "at"] (sp23 e) := by
  obtain ⟨f, fd, F, g⟩ := T.df 12 _ rfl
  refine ⟨f, fd, ?_, g, F.kp, F.binds fun _ _ _ _ _ _ us hl => match us, hl with | [_, _], _ => rfl⟩
  refine Fun.okX F sc23 (fun vs H Q E h => ?_) (fun cdv A outer s H vs Q E hr h => ?_)
  · obtain ⟨a, d, o, b, rfl, _⟩ := h
    rfl
  · obtain ⟨a, d, i0, b, rfl, hd, okD, hlen, hsm, hb, hi0, q1, q2⟩ := h
    obtain ⟨xs, hx, hxl⟩ := hd.len
    have hl0 : d[i0]? = some d[i0] := List.getElem?_eq_getElem hi0
    obtain ⟨ys, p0, hy, hp0, hat0⟩ := hd.get hl0
    obtain ⟨k, k0, kh, kp, ku, kc⟩ := k_head d[i0]
    refine ⟨_, pss_cons (ps_if (PW.pt (pw_or (pt_not (pt_chain op_le op_lt pe_int (pv 1) (pe_callB call_len_seq (by rfl) T.len PySem.boot_len (pa_cons (pv 0) pa_nil)))) (pw_or1 (pt_cmpR op_ne (pe_ix ix_tup (pe_ix ix_tup (pv 0) (pv 1) (fun _ _ => rfl)) pe_int (fun _ _ => rfl)) pe_str (nomark _)))))
          (pss_one (ps_raise rfl (takes_of rfl rfl rfl rfl) (pmk_own PySem.F.excBase_ValueError T.xBP T.gBP T.kBP (raises_own T.bBP T.tBP) rfl))) pss_nil)
      (pss_cons (ps_set (i := 2) sc23.nd rfl (.inr rfl) (pe_ix ix_tup (pe_ix ix_tup (pv 0) (pv 1) (fun _ _ => rfl)) pe_int (fun _ _ => rfl)))
      (pss_cons (ps_set (i := 3) sc23.nd rfl (.inl rfl) (pe_ix ix_tup (pe_ix ix_tup (pv 0) (pv 1) (fun _ _ => rfl)) pe_int (fun _ _ => rfl)))
      (pss_cons (ps_if (pt_cmpR op_notIn_seq (pv 3) (pe_has (ok11 T.toTx) hr (by rfl) (pa_cons (pv 0) pa_nil)) rfl) (pss_one (ps_raise rfl (takes_of rfl rfl rfl rfl) (pmk_np T hr (by rfl) (pa_cons (pv 3) pa_nil)))) pss_nil)
      (pss_cons (ps_set (i := 4) sc23.nd rfl (.inl rfl) (pe_has (ok12 T.toTx) hr (by rfl) (pa_cons (pv 0) (pa_cons (pv 3) pa_nil))))
      (pss_cons (ps_if (pt_cmpR op_in_seq (pv 1) (pv 4) rfl) (pss_one (ps_raise rfl (takes_of rfl rfl rfl rfl) (pmk_rg T hr (by rfl) (pa_cons (pe_tup (pa_cons (pv 3) pa_nil)) pa_nil)))) pss_nil)
      (pss_cons (ps_set (i := 5) sc23.nd rfl (.inl rfl) (pe_callTy call_tuple_of (by rfl) T.tup (by decide +kernel) (pa_cons (pe_lc (own := [("inner", 6)]) (g := gName 6) rfl sc23.nd (pi_list (pv 4)) (blkOk_by (N := ["document", "at", "indent", "name", "lines", "piece", "inner"]) (own := [("inner", 6)]) (sc := defScope s23) (by decide +kernel))
          (fun _ _ _ _ _ => pg_name (i := 6) sc23.nd rfl (Or.inl rfl)) (fun _ _ _ _ _ => pts_nil) (fun _ _ _ _ _ => pe_has (ok21 T.toTx) hr (by rfl) (pa_cons (pe_ix (r := rIxT K) ix_tup (pv 0) (pv 6) (fun _ _ => rfl)) (pa_cons (pv 2) pa_nil)))) pa_nil)))
      (pss_one (ps_ret (pe_op op_catA (pe_op op_catA (pe_slice sl_tupA (pv 0) po_none (po_some (pv 1))) (pv 5)) (pe_slice sl_tupA (pv 0) (po_some (pe_op op_add (pv 1) pe_int)) po_none)))))))))), ?_⟩
    refine ⟨_, rfl, _, _, rfl, rfl, _, rfl, ?_⟩
    refine ifY (by omega) ?_
    refine ⟨_, rfl, a, xs, rfl, .inr (.of hx), _, _, rfl, rfl, _, rfl, ?_⟩
    refine ifNN (by omega) ?_
    refine ⟨_, rfl, _, rfl, a, ys, _, _, rfl, rfl, .of hy, atI_nat hp0, p0, _, _, _, rfl, rfl, .of hat0, atI_nat (j := 0) k0, rfl, _, rfl, ?_⟩
    refine ifN2 (fun h1 => ?_) (fun h1 => ?_)
    · exact (q2 H 0 (Same.refl _)).1
    · obtain ⟨jj, mm, hjm⟩ := ku.mp (V.str.inj h1)
      rw [hjm] at hat0 hl0
      obtain ⟨j1, j2, j3⟩ : 0 ≤ jj ∧ jj ≤ (b : Int) ∧ mm.length ≤ 1000 := by
        have := hsm _ (List.getElem_mem hi0)
        rw [hjm] at this
        exact this
      refine ⟨_, rfl, _, rfl, a, ys, _, _, rfl, rfl, .of hy, atI_nat hp0, p0, _, _, _, rfl, rfl, .of hat0, atI_nat (j := 1) rfl, ?_⟩
      refine ⟨_, rfl, _, rfl, a, ys, _, _, rfl, rfl, .of hy, atI_nat hp0, p0, _, _, _, rfl, rfl, .of hat0, atI_nat (j := 2) rfl, ?_⟩
      refine ⟨_, rfl, _, rfl, a, d, rfl, hd, okD, hlen, fun H1 p s1 np hp => ?_⟩
      refine ⟨p, _, rfl, .inl (.of hp), rfl, flat_strs _, _, rfl, ?_⟩
      rw [inV_str]
      refine ifN2 (fun h2 => ?_) (fun h2 => ?_)
      · exact ⟨_, rfl, _, rfl, ⟨mm, rfl, j3⟩, fun dd => (q2 _ dd s1).2.1⟩
      · have hhd := (nms_mem d mm).mp h2
        refine ⟨_, rfl, _, rfl, a, d, mm, rfl, hd.same s1, okD, hlen, fun H2 pl s2 npl hpl => ?_⟩
        have s12 := s1.trans s2
        refine ⟨_, rfl, _, rfl, pl, _, rfl, .inl (.of hpl), rfl, flat_ints _, _, rfl, ?_⟩
        rw [inV_int]
        refine if2 (fun h3 => ?_) (fun h3 => ?_)
        · refine ⟨_, rfl, by show 1 ≤ sizeLine; decide, fun r nr => ⟨_, rfl, trivial, fun dd => (q2 _ dd (s12.trans (same_upd nr))).2.2⟩⟩
        · have hpl2 := plc_length mm none 0 d
          refine ⟨_, rfl, pl, rfl, ⟨_, .of hpl⟩, fun D nD => ?_⟩
          have s3 := same_upd (o := .lst []) nD
          have npD : pl ≠ D := fun z => by rw [z, nD] at hpl; cases hpl
          refine lc_list (K := K) (a := pl) (xs := intV (plc mm none 0 d)) (fun i H4 => ∃ ls', Keep D (upd H2 D (.lst [])) H4 ∧ H4 D = some (.lst (ls'.map V.ref)) ∧ Paired (At H4) ls' (((its mm none d).take i).map (shL jj)))
            ⟨[], Keep.of (Same.refl _), upd_same, .nil⟩ (fun i H4 _ ⟨_, k, _⟩ => .of (k _ _ npD (s3 _ _ hpl))) ?_ ?_
          · rintro i x H4 hi ⟨ls', k, ho, hp'⟩
            obtain ⟨n, hn, rfl⟩ := intV_at hi
            obtain ⟨l, hli, hld, hlo⟩ := plc_its hn
            have sD : ∀ b y, b ≠ D → H b = some y → H4 b = some y := fun b y hb z => k b y hb (s3 _ _ (s12 _ _ z))
            obtain ⟨ls, ha, hls⟩ := _root_.id hd
            have naD : a ≠ D := fun z => by rw [z] at ha; have := s12 _ _ ha; rw [nD] at this; cases this
            obtain ⟨p, e1, e2⟩ := Paired.get hls hld
            have npD2 : p ≠ D := fun z => by have h' : H p = some _ := e2; rw [z] at h'; have := s12 _ _ h'; rw [nD] at this; cases this
            have hat4 : At H4 p l := sD _ _ npD2 e2
            have hsl := hsm l (List.mem_of_getElem? hld)
            refine ⟨rfl, _, rfl, _, rfl, a, _, _, _, rfl, rfl, .of (sD _ _ naD ha), atI_nat (ref_at e1), _, rfl, p, jj, l, rfl, hat4, hlo, fun t et => ?_, by omega, by omega, fun H5 r s5 hr5 => ?_⟩
            · rw [et] at hsl
              have : t.length ≤ b := hsl
              omega
            · have hln : ls'.length < sizeLine := by
                have := hp'.length
                rw [List.length_map, List.length_take] at this
                rw [← plc_its_len] at this
                exact small7 (by omega)
              have hsn : ((its mm none d).take (i + 1)).map (shL jj) = ((its mm none d).take i).map (shL jj) ++ [shL jj l] := by rw [List.take_add_one, hli]; simp
              refine ⟨_, s5 _ _ ho, by rw [List.length_map]; exact hln, ls' ++ [r], (k.trans (Keep.of s5)).trans .upd, by rw [upd_same, List.map_append]; rfl, ?_⟩
              rw [hsn]
              rw [shB_pos j1] at hr5
              exact Paired.snoc' (Paired.mono (fun _ _ z => At.wr (s5 _ _ z) (s5 _ _ ho)) hp') (hr5.wr (s5 _ _ ho))
          · rintro H4 ⟨ls', k, ho, hp'⟩
            have s4 := Keep.same s3 nD k
            have e : (its mm none d).take (intV (plc mm none 0 d)).length = its mm none d := by
              unfold intV
              rw [List.length_map, plc_its_len, List.take_length]
            rw [e] at hp'
            refine ⟨D, _, rfl, .inl ⟨.of ho, fun r nr => ?_⟩⟩
            have s5 := same_upd (o := .tup (ls'.map V.ref)) nr
            have hdr : DocAt (upd H4 r (.tup (ls'.map V.ref))) r ((its mm none d).map (shL jj)) := ⟨ls', upd_same, Paired.mono (fun _ _ z => s5 _ _ z) hp'⟩
            have s15 := (s12.trans s4).trans s5
            refine ⟨_, rfl, _, rfl, _, rfl, slA (hd.same s15) fun H6 p6 s6 hp6 => ?_⟩
            rw [cutD_to d (by omega)] at hp6
            have hil : ((its mm none d).map (shL jj)).length ≤ d.length := by rw [List.length_map, ← plc_its_len]; exact hpl2
            refine ⟨_, rfl, catA hp6 (hdr.same s6) (by rw [List.length_take]; omega) fun H7 p7 s7 hp7 => ?_⟩
            refine ⟨_, rfl, _, rfl, _, _, rfl, rfl, _, rfl, ?_⟩
            dsimp only [tNoPart]
            have s17 := s15.trans (s6.trans s7)
            refine slA (hd.same s17) fun H8 p8 s8 hp8 => ?_
            have ei : ((i0 : Int) + 1) = ((i0 + 1 : Nat) : Int) := by omega
            rw [ei, cutD_from d (by omega)] at hp8
            refine catA (hp7.same s8) hp8 (by rw [List.length_append, List.length_take, List.length_drop]; omega) fun H9 p9 s9 hp9 => ?_
            exact q1 _ p9 jj mm (s17.trans (s8.trans s9)) hl0 hhd h3 hp9
end
end Wf

end
section
set_option maxHeartbeats 4000000
/-! W22: take_out. -/
namespace Wf
open PySem PySem.Spec PyProof.Rows L2 Wr GxR Wg
/-! ### blanks -/
def bl : Ln → Option Int
  | .use i _ => some i
  | .code t => if t = mt then none else some (min (lead t : Int) ((t.length : Int) - 1))
  | _ => none
theorem blV_bl (l : Ln) : blV l = match bl l with | some v => .int v | none => .non := by
  cases l with
  | code t =>
    show (if t = mt then V.non else .int (min (lead t : Int) ((t.length : Int) - 1))) = match (if t = mt then none else some (min (lead t : Int) ((t.length : Int) - 1))) with | some v => .int v | none => .non
    by_cases h : t = mt
    · rw [if_pos h, if_pos h]
    · rw [if_neg h, if_neg h]
  | _ => rfl
theorem unsh {g : Int} {l : Ln} (h0 : 0 ≤ g) (hg : ∀ v, bl l = some v → g ≤ v) (ho : l.own = true) : shL g (shB (-g) l) = l := by
  cases l with
  | prose t => cases ho
  | head t => cases ho
  | use i m =>
    show Ln.use (i + -g + g) m = _
    rw [show i + -g + g = i by omega]
  | code t =>
    by_cases h : t = mt
    · show shL g (if t = mt then .code t else if -g < 0 then .code (cut0 (- -g).toNat t) else .code (spaces (-g).toNat ++ t)) = _
      rw [if_pos h]
      show Ln.code (if t = mt then t else spaces g.toNat ++ t) = _
      rw [if_pos h]
    · have hv := hg _ (show bl (.code t) = some (min (lead t : Int) ((t.length : Int) - 1)) from if_neg h)
      show shL g (if t = mt then .code t else if -g < 0 then .code (cut0 (- -g).toNat t) else .code (spaces (-g).toNat ++ t)) = _
      rw [if_neg h]
      have hl : 0 < t.length := Nat.pos_of_ne_zero fun z => h ((eq_mt t).mpr z)
      by_cases hg0 : g = 0
      · subst hg0
        rw [if_neg (by decide)]
        have e0 : (spaces (-(0 : Int)).toNat ++ t : Str) = t := by
          apply TL.ext_tl
          rw [TL.tl_append]
          rfl
        rw [e0]
        show Ln.code (if t = mt then t else spaces (0 : Int).toNat ++ t) = _
        rw [if_neg h]
        exact congrArg Ln.code e0
      · rw [if_pos (by omega)]
        have e1 : (- -g).toNat = g.toNat := by omega
        rw [e1]
        have hn : g.toNat ≤ lead t := by omega
        have hlen : (cut0 g.toNat t).length = t.length - g.toNat := cut0_len (by omega)
        have hne : cut0 g.toNat t ≠ mt := fun z => by
          have := (eq_mt _).mp z
          omega
        show Ln.code (if cut0 g.toNat t = mt then cut0 g.toNat t else spaces g.toNat ++ cut0 g.toNat t) = _
        rw [if_neg hne, cut0_sp hn]
theorem shB_own (b : Int) {l : Ln} (h : l.own = true) : (shB b l).own = true := by
  cases l with
  | prose t => cases h
  | head t => cases h
  | use i m => rfl
  | code t =>
    show Ln.own (if t = mt then .code t else if b < 0 then .code (cut0 (-b).toNat t) else .code (spaces b.toNat ++ t)) = true
    split
    · rfl
    · split <;> rfl
theorem bl_pos {b : Nat} {l : Ln} (h : Sml b l) {v : Int} (hv : bl l = some v) : 0 ≤ v ∧ v ≤ (b : Int) := by
  cases l with
  | prose t => cases hv
  | head t => cases hv
  | use i m =>
    have : v = i := (Option.some.inj hv).symm
    subst this
    exact ⟨h.1, h.2.1⟩
  | code t =>
    have h2 : t.length ≤ b := h
    by_cases z : t = mt
    · have : bl (.code t) = none := if_pos z
      rw [this] at hv; cases hv
    · have : bl (.code t) = some (min (lead t : Int) ((t.length : Int) - 1)) := if_neg z
      rw [this] at hv
      have hl : 0 < t.length := Nat.pos_of_ne_zero fun y => z ((eq_mt t).mpr y)
      have hv2 := Option.some.inj hv
      omega
theorem all_own {d : List Ln} {i j : Nat} (hij : i ≤ j) (hj : j < d.length) (h : (List.range (((j : Int) + 1) - (i : Int)).toNat).all (fun k => ownAt d ((i : Int) + (k : Int) * 1)) = true) : ∀ l ∈ (d.drop i).take (j + 1 - i), l.own = true := by
  intro l hl
  obtain ⟨k, hk, e⟩ := List.getElem_of_mem hl
  have hk2 : k < j + 1 - i := by
    rw [List.length_take, List.length_drop] at hk
    omega
  have := List.all_eq_true.mp h k (List.mem_range.mpr (by omega))
  have e2 : ((i : Int) + (k : Int) * 1) = ((i + k : Nat) : Int) := by omega
  rw [e2, ownAt_nat] at this
  have e3 : d[i + k]? = some l := by
    rw [← e, List.getElem_take, List.getElem_drop]
    exact List.getElem?_eq_getElem (by omega)
  rw [e3] at this
  exact this
abbrev s22 : Stmt := topS 22
abbrev n22 : List Str := ["document", "first", "last", "name", "lines", "blanks", "indent", "piece", "changed", "line"]
theorem sc22 : FnScope n22 ["document", "first", "last", "name"] (defScope s22) := ⟨rfl, rfl, rfl, by decide +kernel, rfl, by decide +kernel, by decide +kernel⟩
def sp22 (e : Es) : Sp := fun vs H Q E => ∃ (a : Addr) (d : List Ln) (i j b : Nat) (n : Str), vs = [.ref a, .int (i : Int), .int (j : Int), .str n] ∧ Tabs e H ∧ DocAt H a d ∧ okd none d ∧ d.length ≤ 1000000 ∧ (∀ l ∈ d, Sml b l) ∧ b ≤ 400000 ∧ i < d.length ∧ j < d.length ∧ n.length ≤ 1000 ∧
  (∀ H' p (g : Int), Ke e H H' → i ≤ j → (∀ l ∈ (d.drop i).take (j + 1 - i), l.own = true) → Fresh n d → 0 ≤ g → g ≤ (b : Int) → (∀ l ∈ (d.drop i).take (j + 1 - i), ∀ v, bl l = some v → g ≤ v) →
    DocAt H' p (d.take i ++ [.use g n] ++ d.drop (j + 1) ++ [.prose mt, .head n] ++ ((d.drop i).take (j + 1 - i)).map (shB (-g))) → Q (.ref p) H') ∧ (∀ H' dd, Ke e H H' → E (.ref e.bp) none H' ∧ E (.ref e.tk) dd H')
section
variable {P : Program} {w : World} {K : PySem.W.Frag} {mg : Str → Option Value} {base : Heap} {e : Es}
theorem ok22 (T : Ty P K mg base e) : Has P w K mg base (L2.CX P w) 4 "take_out" ["document", "first", "last", "name"] (sp22 e) := by
  obtain ⟨f, fd, F, g⟩ := T.df 11 _ rfl
  obtain ⟨fo, fdo, Fo, go⟩ := T.df 8 _ rfl
  refine ⟨f, fd, ?_, g, F.kp, F.binds fun _ _ _ _ _ _ us hl => match us, hl with | [_, _, _, _], _ => rfl⟩
  obtain ⟨c, hc, TB⟩ : ∃ c, fd.code = .ref c ∧ TabB base mg c e.tT := by
    obtain ⟨oc, od, kV, doc, pm, an, cdv, ct, osl, e1, lk, hcd⟩ := F.ex
    exact T.tab "take_out" e.tT (by simp) f oc od fd osl g lk
  refine okC F hc sc22 (fun vs H Q E h => ?_) (fun A outer s H vs Q E hr h => ?_)
  · obtain ⟨a, d, o, b, bb, n, rfl, _⟩ := h
    rfl
  · obtain ⟨a, d, i0, j0, b, n, rfl, ht, hd, okD, hlen, hsm, hb, hi0, hj0, hnl, q1, q2⟩ := h
    obtain ⟨xs, hx, hxl⟩ := hd.len
    have hmid : (d.drop i0).take (j0 + 1 - i0) = cutD d (some (i0 : Int)) (some ((j0 : Int) + 1)) := by
      rw [show ((j0 : Int) + 1) = ((j0 + 1 : Nat) : Int) by omega, cutD_mid d (by omega) (by omega)]
    -- behind the assignment of indent
    obtain ⟨tf, hrest, fin⟩ : ∃ tf, PSs (cxOf (L2.CX P w) P w K mg base n22 "take_out" (defScope s22) f (.ref c) A outer s H E) (List.drop 5 (defBody s22)) tf ∧ ∀ (gg : Int) (H4 : Hp) (pl D : Addr), i0 ≤ j0 → Ke e H H4 → DocAt H4 pl ((d.drop i0).take (j0 + 1 - i0)) → (∀ l ∈ (d.drop i0).take (j0 + 1 - i0), l.own = true) → Fresh n d → 0 ≤ gg → gg ≤ (b : Int) →
        (∀ l ∈ (d.drop i0).take (j0 + 1 - i0), ∀ v, bl l = some v → gg ≤ v) → tf { nx := fun _ H' => Q .non H', rt := Q } [some (.ref a), some (.int (i0 : Int)), some (.int (j0 : Int)), some (.str n), some (.ref pl), some (.ref D), some (.int gg), none, none, none] H4 := by
      refine ⟨_, pss_cons (ps_set (i := 7) sc22.nd rfl (.inl rfl) (pe_callTy call_tuple_of (by rfl) T.tup (by decide +kernel) (pa_cons (pe_lc (own := [("line", 9)]) (g := gName 9) rfl sc22.nd (pi_tup (pv 4)) (blkOk_by (N := n22) (own := [("line", 9)]) (sc := defScope s22) (by decide +kernel))
          (fun _ _ _ _ _ => pg_name (i := 9) sc22.nd rfl (Or.inl rfl)) (fun _ _ _ _ _ => pts_nil) (fun _ _ _ _ _ => pe_has (ok21 T.toTx) hr (by rfl) (pa_cons (pv 9) (pa_cons (pe_un un_neg (pv 6)) pa_nil)))) pa_nil)))
      (pss_cons (ps_set (i := 8) sc22.nd rfl (.inl rfl) (pe_op op_catA (pe_op op_catA (pe_slice sl_tupA (pv 0) po_none (po_some (pv 1))) (pe_tup (pa_cons (pe_tup (pa_cons pe_str (pa_cons (pv 6) (pa_cons (pv 3) pa_nil)))) pa_nil)))
          (pe_slice sl_tupA (pv 0) (po_some (pe_op op_add (pv 2) pe_int)) po_none)))
      (pss_one (ps_ret (pe_op op_catA (pe_op op_catA (pv 8) (pe_tup (pa_cons (pe_tup (pa_cons pe_str (pa_cons pe_str pa_nil))) (pa_cons (pe_tup (pa_cons pe_str (pa_cons (pv 3) pa_nil))) pa_nil)))) (pv 7))))), fun gg H4 pl D hij k4 hpl how hf g0 g1 g2 => ?_⟩
      obtain ⟨ms, hm1, hm2⟩ := _root_.id hpl
      have hml : ((d.drop i0).take (j0 + 1 - i0)).length ≤ d.length := by rw [List.length_take, List.length_drop]; omega
      refine ⟨_, rfl, pl, rfl, ⟨_, .of hm1⟩, fun D2 nD => ?_⟩
      have s5 := same_upd (o := .lst []) nD
      have npD : pl ≠ D2 := fun z => by rw [z, nD] at hm1; cases hm1
      refine lc_tup (K := K) (a := pl) (xs := ms.map V.ref) (fun i H5 => ∃ ls', Keep D2 (upd H4 D2 (.lst [])) H5 ∧ H5 D2 = some (.lst (ls'.map V.ref)) ∧ Paired (At H5) ls' ((((d.drop i0).take (j0 + 1 - i0)).take i).map (shB (-gg))))
        ⟨[], Keep.of (Same.refl _), upd_same, .nil⟩ (fun i H5 _ ⟨_, k, _⟩ => .of (k _ _ npD (s5 _ _ hm1))) ?_ ?_
      · rintro i x H5 hi ⟨ls', k, ho, hp'⟩
        obtain ⟨p2, l, rfl, hmi, hat⟩ : ∃ p l, x = .ref p ∧ ((d.drop i0).take (j0 + 1 - i0))[i]? = some l ∧ At H5 p l := by
          rw [List.getElem?_map] at hi
          cases e3 : ms[i]? with
          | none => rw [e3] at hi; cases hi
          | some p =>
            rw [e3] at hi
            obtain ⟨l, z1, z2⟩ := Paired.get' hm2 e3
            exact ⟨p, l, (Option.some.inj hi).symm, z1, At.keepL (show At (upd H4 D2 (.lst [])) p l from s5 _ _ z2) k upd_same⟩
        have hlm := List.mem_of_getElem? hmi
        have hsl := hsm l (List.mem_of_mem_drop (List.mem_of_mem_take hlm))
        have hsn : (((d.drop i0).take (j0 + 1 - i0)).take (i + 1)).map (shB (-gg)) = (((d.drop i0).take (j0 + 1 - i0)).take i).map (shB (-gg)) ++ [shB (-gg) l] := by rw [List.take_add_one, hmi]; simp
        refine ⟨rfl, _, rfl, _, rfl, _, rfl, p2, -gg, l, rfl, hat, how l hlm, fun t et => ?_, by omega, by omega, fun H6 r s6 hr6 => ?_⟩
        · rw [et] at hsl
          have : t.length ≤ b := hsl
          omega
        · have hln : ls'.length < sizeLine := by
            have := hp'.length
            rw [List.length_map, List.length_take] at this
            exact small7 (by omega)
          refine ⟨_, s6 _ _ ho, by rw [List.length_map]; exact hln, ls' ++ [r], (k.trans (Keep.of s6)).trans .upd, by rw [upd_same, List.map_append]; rfl, ?_⟩
          rw [hsn]
          exact Paired.snoc' (Paired.mono (fun _ _ z => At.wr (s6 _ _ z) (s6 _ _ ho)) hp') (hr6.wr (s6 _ _ ho))
      · rintro H5 ⟨ls', k, ho, hp'⟩
        have s45 := Keep.same s5 nD k
        have e1 : ((d.drop i0).take (j0 + 1 - i0)).take (ms.map V.ref).length = (d.drop i0).take (j0 + 1 - i0) := by rw [List.length_map, hm2.length, List.take_length]
        rw [e1] at hp'
        refine ⟨D2, _, rfl, .inl ⟨.of ho, fun r nr => ?_⟩⟩
        have s6 := same_upd (o := .tup (ls'.map V.ref)) nr
        have hdr : DocAt (upd H5 r (.tup (ls'.map V.ref))) r (((d.drop i0).take (j0 + 1 - i0)).map (shB (-gg))) := ⟨ls', upd_same, Paired.mono (fun _ _ z => s6 _ _ z) hp'⟩
        have k6 := k4.trans (Ke.of (s45.trans s6))
        -- changed
        refine ⟨_, rfl, _, rfl, _, rfl, slA (hd.ke k6) fun H7 p7 s7 hp7 => ?_⟩
        rw [cutD_to d (by omega)] at hp7
        refine ⟨_, rfl, _, rfl, by show 3 ≤ sizeLine; decide, fun r1 nr1 => ⟨by show 1 ≤ sizeLine; decide, fun r2 nr2 => ?_⟩⟩
        have t1 := same_upd (o := .tup [.str "use", .int gg, .str n]) nr1
        have t2 := same_upd (o := .tup [.ref r1]) nr2
        have a1 : At (upd H7 r1 (.tup [.str "use", .int gg, .str n])) r1 (.use gg n) := upd_same
        refine catA ((hp7.same t1).same t2) (doc1 upd_same (t2 _ _ a1)) (by rw [List.length_take]; simp only [List.length_cons, List.length_nil]; omega) fun H8 p8 s8 hp8 => ?_
        have k8 := k6.trans (Ke.of ((s7.trans t1).trans (t2.trans s8)))
        refine ⟨_, rfl, _, rfl, _, _, rfl, rfl, _, rfl, ?_⟩
        dsimp only [tNoPart]
        refine slA (hd.ke k8) fun H9 p9 s9 hp9 => ?_
        rw [show ((j0 : Int) + 1) = ((j0 + 1 : Nat) : Int) by omega, cutD_from d (by omega)] at hp9
        refine catA (hp8.same s9) hp9 (by rw [List.length_append, List.length_take, List.length_drop]; simp only [List.length_cons, List.length_nil]; omega) fun H10 p10 s10 hp10 => ?_
        -- the end
        refine ⟨_, rfl, by show 2 ≤ sizeLine; decide, fun q1' nq1 => ⟨_, rfl, by show 2 ≤ sizeLine; decide, fun q2' nq2 => ⟨by show 2 ≤ sizeLine; decide, fun q3' nq3 => ?_⟩⟩⟩
        have u1 := same_upd (o := .tup [.str "prose", .str (Str.ofString "")]) nq1
        have u2 := same_upd (o := .tup [.str "head", .str n]) nq2
        have u3 := same_upd (o := .tup [.ref q1', .ref q2']) nq3
        have b1 : At (upd H10 q1' (.tup [.str "prose", .str (Str.ofString "")])) q1' (.prose mt) := by
          rw [← empty_eq]
          exact upd_same
        have b2 : At (upd (upd H10 q1' (.tup [.str "prose", .str (Str.ofString "")])) q2' (.tup [.str "head", .str n])) q2' (.head n) := upd_same
        have l10 : (d.take i0 ++ [Ln.use gg n] ++ d.drop (j0 + 1)).length ≤ 2 * d.length + 1 := by rw [List.length_append, List.length_append, List.length_take, List.length_drop]; simp only [List.length_cons, List.length_nil]; omega
        refine catA (((hp10.same u1).same u2).same u3) (doc2 upd_same (u3 _ _ (u2 _ _ b1)) (u3 _ _ b2)) (by simp only [List.length_cons, List.length_nil]; omega) fun H11 p11 s11 hp11 => ?_
        have s611 := ((s7.trans t1).trans (t2.trans s8)).trans ((s9.trans s10).trans ((u1.trans (u2.trans u3)).trans s11))
        refine ⟨_, rfl, catA hp11 (hdr.same s611) (by rw [List.length_append, List.length_map]; simp only [List.length_cons, List.length_nil]; omega) fun H12 p12 s12 hp12 => ?_⟩
        exact q1 _ p12 gg (k6.trans (Ke.of (s611.trans s12))) hij how hf g0 g1 g2 hp12
    refine ⟨_, pss_cons (ps_if (PW.pt (pw_or (pt_cmpR op_gt (pv 1) (pv 2) (nomark _)) (pw_or1 (pt_not (pt_val (pe_allG hr (by rfl) T.all (by decide +kernel) TB rfl ⟨rfl, rfl, by decide +kernel, rfl, rfl, free_cells (by decide +kernel)⟩
            (pe_callTy cr_range2 (by rfl) T.rng (by decide +kernel) (pa_cons (pv 1) (pa_cons (pe_op op_add (pv 2) pe_int) pa_nil))) (fun _ => rfl)))))))
          (pss_one (ps_raise rfl (takes_of rfl rfl rfl rfl) (pmk_own PySem.F.excBase_ValueError T.xBP T.gBP T.kBP (raises_own T.bBP T.tBP) rfl))) pss_nil)
      (pss_cons (ps_expr (pe_hasX (E := E) (ok17 T) hr (by rfl) (passes_call (takes_of rfl rfl rfl rfl) (fun _ _ _ _ h => h)) (pa_cons (pv 0) (pa_cons (pv 3) pa_nil))))
      (pss_cons (ps_set (i := 4) sc22.nd rfl (.inl rfl) (pe_slice sl_tupA (pv 0) (po_some (pv 1)) (po_some (pe_op op_add (pv 2) pe_int))))
      (pss_cons (ps_setLc (i := 5) (own := [("line", 9)]) (g := gName 9) rfl sc22.nd rfl rfl (sw_true rfl rfl rfl (by decide +kernel)) (pi_tup (pv 4)) (blkOk_by (N := n22) (own := [("line", 9)]) (sc := defScope s22) (by decide +kernel))
          (fun _ _ _ _ _ => pg_name (i := 9) sc22.nd rfl (Or.inl rfl)) (fun _ _ _ _ _ => pts_one (pt_cmp (pc_notN (pe_has (ok20 T.toTx) hr (by rfl) (pa_cons (pv 9) pa_nil))))) (fun _ _ _ _ _ => pe_has (ok20 T.toTx) hr (by rfl) (pa_cons (pv 9) pa_nil)))
      (pss_cons (ps_set (i := 6) sc22.nd rfl (.inr rfl) (pe_callBK (call_minD rfl hr.units) (by rfl) T.min (by decide +kernel) (pa_cons (pv 5) pa_nil) (pk_cons pe_int pk_nil)))
      hrest)))), ?_⟩
    refine ⟨_, rfl, _, rfl, _, _, rfl, rfl, _, rfl, ?_⟩
    refine if2 (fun h1 => (q2 H none (Ke.refl _ _)).1) (fun h1 => ?_)
    have hij : i0 ≤ j0 := by omega
    refine ⟨_, rfl, _, rfl, _, _, rfl, rfl, _, _, rfl, fun p np => ?_⟩
    have s1 := same_upd (o := .rng (i0 : Int) ((j0 : Int) + 1)) np
    have ht1 := ht.same s1
    refine ⟨(((j0 : Int) + 1) - (i0 : Int)).toNat, fun k => ownAt d ((i0 : Int) + (k : Int) * 1), ht1.2.1, fun pins s2 xv I r => ?_, fun H2 hT => ⟨_, rfl, ?_⟩⟩
    · cases r
      exact ⟨_, walk_rng I ht1.2.1 upd_same (by omega), elt_own (a := a) (j := 0) hr I ht1.2.1 (hd.same s1) (by omega) Fo go T.len rfl rfl rfl (free_cells (by decide +kernel)) (by decide +kernel) rfl rfl rfl rfl⟩
    have k2 : Ke e H H2 := (Ke.of s1).trans (Ke.tabbed hT ht1.2.1)
    show if (!((List.range (((j0 : Int) + 1) - (i0 : Int)).toNat).all (fun k => ownAt d ((i0 : Int) + (k : Int) * 1)))) = true then _ else _
    cases hall : ((List.range (((j0 : Int) + 1) - (i0 : Int)).toNat).all (fun k => ownAt d ((i0 : Int) + (k : Int) * 1))) with
    | false => exact (q2 H2 none k2).1
    | true =>
      show if (!true) = true then _ else _
      rw [if_neg (by decide)]
      have how := all_own hij hj0 hall
      refine ⟨_, rfl, _, rfl, a, d, n, rfl, k2.t ht, hd.ke k2, okD, hlen, hnl, fun H3 k3 hf => ?_, fun H3 dd k3 => (q2 H3 dd (k2.trans k3)).2⟩
      have k03 := k2.trans k3
      have hd3 := hd.ke k03
      refine ⟨_, rfl, _, rfl, _, rfl, _, rfl, _, _, rfl, rfl, _, rfl, slA hd3 fun H4 pl s4 hpl => ?_⟩
      rw [← hmid] at hpl
      obtain ⟨ms, hm1, hm2⟩ := _root_.id hpl
      have k04 := k03.trans (Ke.of s4)
      have hml : ((d.drop i0).take (j0 + 1 - i0)).length ≤ d.length := by rw [List.length_take, List.length_drop]; omega
      refine ⟨_, rfl, pl, rfl, ⟨_, .of hm1⟩, fun D nD => ?_⟩
      have s5 := same_upd (o := .lst []) nD
      have npD : pl ≠ D := fun z => by rw [z, nD] at hm1; cases hm1
      refine lc_tup (K := K) (a := pl) (xs := ms.map V.ref) (fun i H5 => Keep D (upd H4 D (.lst [])) H5 ∧ H5 D = some (.lst ((((d.drop i0).take (j0 + 1 - i0)).take i |>.filterMap bl).map V.int)))
        ⟨Keep.of (Same.refl _), upd_same⟩ (fun i H5 _ ⟨k, _⟩ => .of (k _ _ npD (s5 _ _ hm1))) ?_ ?_
      · rintro i x H5 hi ⟨k, ho⟩
        obtain ⟨p2, l, rfl, hmi, hat⟩ : ∃ p l, x = .ref p ∧ ((d.drop i0).take (j0 + 1 - i0))[i]? = some l ∧ At H5 p l := by
          rw [List.getElem?_map] at hi
          cases e3 : ms[i]? with
          | none => rw [e3] at hi; cases hi
          | some p =>
            rw [e3] at hi
            obtain ⟨l, g1, g2⟩ := Paired.get' hm2 e3
            exact ⟨p, l, (Option.some.inj hi).symm, g1, At.keepL (show At (upd H4 D (.lst [])) p l from s5 _ _ g2) k upd_same⟩
        have hlm := List.mem_of_getElem? hmi
        have hld : l ∈ d := List.mem_of_mem_drop (List.mem_of_mem_take hlm)
        have hsl := hsm l hld
        have hcl : ∀ t, l = .code t → t.length ≤ 1000000 := fun t et => by
          rw [et] at hsl
          have : t.length ≤ b := hsl
          omega
        have hsn : ((d.drop i0).take (j0 + 1 - i0)).take (i + 1) = ((d.drop i0).take (j0 + 1 - i0)).take i ++ [l] := by rw [List.take_add_one, hmi]; rfl
        refine ⟨rfl, _, rfl, p2, l, rfl, hat, how l hlm, hcl, ?_⟩
        refine ⟨_, rfl, ?_⟩
        rw [blV_bl]
        cases hbl : bl l with
        | none =>
          refine ifNN rfl ⟨k, ?_⟩
          rw [ho, hsn, List.filterMap_append]
          simp [hbl]
        | some v =>
          refine ifNY (fun z => by cases z) ?_
          refine ⟨_, rfl, p2, l, rfl, hat, how l hlm, hcl, ?_⟩
          have hbn : ((((d.drop i0).take (j0 + 1 - i0)).take i).filterMap bl).length ≤ 1000000 := by
            refine Nat.le_trans (List.length_filterMap_le _ _) ?_
            rw [List.length_take]
            omega
          refine ⟨_, ho, by rw [List.length_map]; exact small7 (by omega), k.trans .upd, ?_⟩
          rw [upd_same, hsn, List.filterMap_append, blV_bl, hbl]
          simp [hbl]
      · rintro H5 ⟨k, ho⟩
        have s45 := Keep.same s5 nD k
        have e1 : ((d.drop i0).take (j0 + 1 - i0)).take (ms.map V.ref).length = (d.drop i0).take (j0 + 1 - i0) := by rw [List.length_map, hm2.length, List.take_length]
        rw [e1] at ho
        have k05 := k04.trans (Ke.of s45)
        have hmb : ∀ l ∈ (d.drop i0).take (j0 + 1 - i0), Sml b l := fun l hl => hsm l (List.mem_of_mem_drop (List.mem_of_mem_take hl))
        refine ⟨_, rfl, D, _, 0, rfl, rfl, .of ho, fun hnil => ?_, fun m hm hmin => ?_⟩
        · refine fin 0 H5 pl D hij k05 (hpl.same s45) how hf (Int.le_refl _) (by omega) fun l hl v hv => ?_
          have : v ∈ ((d.drop i0).take (j0 + 1 - i0)).filterMap bl := List.mem_filterMap.mpr ⟨l, hl, hv⟩
          rw [hnil] at this
          cases this
        · obtain ⟨l, hl, hv⟩ := List.mem_filterMap.mp hm
          have hp := bl_pos (hmb l hl) hv
          exact fin m H5 pl D hij k05 (hpl.same s45) how hf hp.1 hp.2 fun l2 hl2 v2 hv2 => hmin v2 (List.mem_filterMap.mpr ⟨l2, hl2, hv2⟩)
end
end Wf

end
section
set_option maxHeartbeats 4000000
/-! W27: != of two orders; move_section. -/
namespace Wf
open PySem PySem.Spec PyProof.Rows L2 Wr GxR Wg
theorem eqv_cts : ∀ xs ys : List (List Ln), PyData.eqvAll (xs.map dD) (ys.map dD) = decide (xs = ys)
  | [], [] => rfl
  | [], _ :: _ => by simp [PyData.eqvAll]
  | _ :: _, [] => by simp [PyData.eqvAll]
  | l :: d, l' :: d' => by
    rw [List.map_cons, List.map_cons, PyData.eqvAll, eqv_dD, eqv_cts d d']
    by_cases h : l = l'
    · by_cases k : d = d'
      · simp [h, k]
      · simp [h, k]
    · simp [h]
def dC (n : Str) (d : List Ln) : PyData := .list ((cts n d).map dD)
theorem eqv_dC (n : Str) (d d' : List Ln) : PyData.eqv (dC n d) (dC n d') = decide (cts n d = cts n d') := by
  unfold dC
  rw [PyData.eqv, eqv_cts]
theorem cts_sub (n : Str) (d : List Ln) : ∀ c ∈ cts n d, ∀ l ∈ c, l ∈ d := by
  intro c hc l hl
  have : l ∈ its n none d := by rw [its_cts]; exact List.mem_flatten.mpr ⟨c, hc, hl⟩
  exact (its_mem this).1
theorem shp_dC {n : Str} {d : List Ln} (h : ∀ l ∈ d, Vd l) : SeqAt.shaped (dC n d) = true := by
  have h2 := cts_sub n d
  unfold SeqAt.shaped dC
  have lay : ∀ xs : List (List Ln), (∀ c ∈ xs, ∀ l ∈ c, Vd l) → PyData.canLayAll0 (xs.map dD) = true := by
    intro xs
    induction xs with
    | nil => intro _; rfl
    | cons c r ih =>
      intro hx
      rw [List.map_cons, PyData.canLayAll0, ih fun c' hc' => hx c' (List.mem_cons_of_mem _ hc')]
      have := shp_dD (hx c (by simp))
      unfold SeqAt.shaped at this
      rw [(Bool.and_eq_true_iff.mp this).1]
      rfl
  have dep : ∀ xs : List (List Ln), PyData.depthAll (xs.map dD) ≤ 2 := by
    intro xs
    induction xs with
    | nil => exact Nat.zero_le _
    | cons c r ih =>
      rw [List.map_cons, PyData.depthAll]
      have : (dD c).depth ≤ 2 := by
        unfold dD
        rw [PyData.depth]
        have := depth_dLs c
        omega
      omega
  rw [PyData.canLay0, lay _ (fun c hc l hl => h l (h2 c hc l hl)), PyData.depth, decide_eq_true (by have := dep (cts n d); omega)]
  rfl
theorem dp_cts {K : PySem.W.Frag} {H : Hp} {q : Addr} {ts : List Addr} {xs : List (List Ln)} (h1 : H q = some (.lst (ts.map V.ref))) (h2 : Paired (DocAt H) ts xs) : Dp K H (.ref q) (.list (xs.map dD)) := by
  refine .lst (SqL.of h1) ?_
  clear h1
  induction h2 with
  | nil => exact .nil
  | cons r _ ih => exact .cons (dp_doc r) ih
theorem ddp_nodup (ns : List Str) : (ddp ns).Nodup := by
  unfold ddp
  suffices h : ∀ acc : List Str, acc.Nodup → (ns.foldl (fun acc n => if n ∈ acc then acc else acc ++ [n]) acc).Nodup from h [] List.nodup_nil
  induction ns with
  | nil => intro acc h; exact h
  | cons n r ih =>
    intro acc h
    rw [List.foldl_cons]
    refine ih _ ?_
    split
    · exact h
    · rename_i hn
      rw [List.nodup_append]
      refine ⟨h, by simp, fun a ha b hb => ?_⟩
      rw [List.mem_singleton.mp hb]
      intro z
      rw [z] at ha
      exact hn ha
theorem val_mem : ∀ {kvs : List (Key × V)} {k : Key} {v : V}, (kvs.map (·.1)).Nodup → (k, v) ∈ kvs → valV kvs k = some v
  | (k', v') :: r, k, v, h, hm => by
    rw [List.map_cons, List.nodup_cons] at h
    rcases List.mem_cons.mp hm with z | z
    · cases z
      unfold valV
      simp
    · have hne : k' ≠ k := fun e => h.1 (by rw [e]; exact List.mem_map.mpr ⟨_, z, rfl⟩)
      have ih := val_mem h.2 z
      unfold valV at ih ⊢
      rw [List.find?_cons]
      have : (decide (k' = k)) = false := decide_eq_false hne
      first
        | (simp only [this]; exact ih)
        | (simp [hne]; exact ih)
theorem nodup_le : ∀ (xs zs : List Str), xs.Nodup → (∀ m ∈ xs, m ∈ zs) → xs.length ≤ zs.length
  | [], _, _, _ => Nat.zero_le _
  | x :: r, zs, h, hs => by
    obtain ⟨h1, h2⟩ := List.nodup_cons.mp h
    have hx := hs x (by simp)
    have ih := nodup_le r (zs.erase x) h2 fun m hm => (List.mem_erase_of_ne (fun z => h1 (by rw [← z]; exact hm))).mpr (hs m (List.mem_cons_of_mem _ hm))
    have e := List.length_erase_of_mem hx
    have : 0 < zs.length := List.length_pos_of_mem hx
    rw [List.length_cons]
    omega
theorem nodup_full {xs ys : List Str} (h : xs.Nodup) (hs : ∀ m ∈ xs, m ∈ ys) (hl : xs.length = ys.length) {n : Str} (hn : n ∈ ys) : n ∈ xs := Classical.byContradiction fun z => by
  have h1 := nodup_le xs (ys.erase n) h fun m hm => (List.mem_erase_of_ne (fun y => z (by rw [← y]; exact hm))).mpr (hs m hm)
  have e := List.length_erase_of_mem hn
  have : 0 < ys.length := List.length_pos_of_mem hn
  omega
section
variable {X : Cx} {pins : List (Addr × Obj)} {σ : L2.St} {H : Hp} {s : Shared}
theorem hits_dp (I : Inv X pins σ H s) {A : Around} (hu : A.in1.units + 64 < cLine) {F : Key × V → PyData} {F' : Key → PyData} {ls : List (Key × V)} {vb : List (Key × Value)} (rb : KV ls vb) (hF' : ∀ k u, valV ls k = some u → Dp X.K H u (F' k) ∧ SeqAt.shaped (F' k) = true) {ks : List (Key × V)} {va : List (Key × Value)}
    (ra : KV ks va) : (∀ p ∈ ks, Dp X.K H p.2 (F p) ∧ SeqAt.shaped (F p) = true) → ∃ r, PySem.W.KeqHits A.in1 s vb va r ∧ (r = true → ∀ p ∈ ks, (∃ u, valV ls p.1 = some u) ∧ PyData.eqv (F p) (F' p.1) = true) := by
  unfold KV at ra
  induction ra with
  | nil => intro _; exact ⟨true, .nil, fun _ p hp => by cases hp⟩
  | @cons p q ps qs h t ih =>
    intro hp
    obtain ⟨h1, h2⟩ := h
    obtain ⟨key, v⟩ := q
    have h1' : p.1 = key := h1
    obtain ⟨r, hr, hr2⟩ := ih fun p' hm => hp p' (List.mem_cons_of_mem _ hm)
    cases e : valV ls p.1 with
    | none =>
      have rr : RelO none (valueAt vb p.1) := by rw [← e]; exact rb.val p.1
      refine ⟨false, ?_, fun z => by cases z⟩
      rw [h1'] at rr
      exact .miss (RelO.none_of rr)
    | some u =>
      have rr : RelO (some u) (valueAt vb p.1) := by rw [← e]; exact rb.val p.1
      obtain ⟨y, hy, ry⟩ := rr.some_of
      rw [h1'] at hy
      obtain ⟨d1, s1⟩ := hp p List.mem_cons_self
      obtain ⟨d2, s2⟩ := hF' p.1 u e
      obtain ⟨as, ra⟩ := Dp.reads I _ _ _ d1 h2
      obtain ⟨bs, rb2⟩ := Dp.reads I _ _ _ d2 ry
      refine ⟨PyData.eqv (F p) (F' p.1) && r, .hit hy (PySem.W.keq_at ra rb2 s1 s2 hu) hr, fun z p' hp' => ?_⟩
      obtain ⟨z1, z2⟩ := Bool.and_eq_true_iff.mp z
      rcases List.mem_cons.mp hp' with y2 | y2
      · rw [y2]; exact ⟨⟨u, e⟩, z1⟩
      · exact hr2 z2 p' y2
/-- two orders compared: where they are the same, the contents are -/
def rNeOrd : R2 := fun x y H Q => ∃ (p q : Addr) (d d' : List Ln), x = .ref p ∧ y = .ref q ∧ OrdAt H p d ∧ OrdAt H q d' ∧ (∀ l ∈ d, Vd l) ∧ (∀ l ∈ d', Vd l) ∧ ∀ b : Bool, (b = true → ∀ n, cts n d = cts n d') → Q (.bl (!b)) H
theorem op_neOrd (hu : X.A.units + 100 < cLine) : OpR X (compareOp .NotEq) rNeOrd := by
  intro pins s σ H x y v u Q I rx ry h
  obtain ⟨p, q, d, d', rfl, rfl, ⟨ks, hk, tp⟩, ⟨ls, hl, tq⟩, hv, hv', q0⟩ := h
  cases rx
  cases ry
  obtain ⟨_, ya, va, ra, da⟩ := (show ObjOk X.prog X.w H s.heap p (.dK ks) from I.hok p _ tp.dc)
  obtain ⟨_, yb, vb, rb, db⟩ := (show ObjOk X.prog X.w H s.heap q (.dK ls) from I.hok q _ tq.dc)
  have nd : ∀ {kvs : List (Key × V)} {d : List Ln}, kvs.map (·.1) = (ddp (nms d)).map (fun n => (Sum.inr n : Key)) → (kvs.map (·.1)).Nodup := fun {kvs d} e => by
    rw [e]
    have h0 : List.Pairwise (fun a b : Key => a ≠ b) ((ddp (nms d)).map (fun n => (Sum.inr n : Key))) := by
      rw [List.pairwise_map]
      exact List.Pairwise.imp (fun hab z => hab (Sum.inr.inj z)) (ddp_nodup (nms d))
    exact h0
  have key : ∀ {kvs : List (Key × V)} {d : List Ln}, kvs.map (·.1) = (ddp (nms d)).map (fun n => (Sum.inr n : Key)) → ∀ pr ∈ kvs, ∃ n, pr.1 = .inr n ∧ Ln.head n ∈ d := fun {kvs d} e pr hp => by
    have : pr.1 ∈ kvs.map (·.1) := List.mem_map.mpr ⟨pr, hp, rfl⟩
    rw [e] at this
    obtain ⟨n, hn, e2⟩ := List.mem_map.mp this
    exact ⟨n, e2.symm, (nms_mem d n).mp hn⟩
  have dat : ∀ {kvs : List (Key × V)} {d : List Ln} {p : Addr}, Tab H p kvs (fun n => Ln.head n ∈ d) (fun H n xs => ∃ ts : List Addr, xs = ts.map V.ref ∧ Paired (DocAt H) ts (cts n d)) → ∀ n u, valV kvs (.inr n : Key) = some u → Dp X.K H u (dC n d) := fun {kvs d p} t n u e => by
    have hn : Ln.head n ∈ d := Classical.byContradiction fun z => by rw [t.no n z] at e; cases e
    obtain ⟨q2, h1, xs, h2, ts, h3, h4⟩ := t.has n hn
    rw [e] at h1
    cases h1
    subst h3
    exact dp_cts h2 h4
  obtain ⟨r, hr, hr2⟩ := hits_dp (A := X.A) I (by show X.A.units + 1 + 64 < cLine; omega) (F := fun pr => match pr.1 with | .inr n => dC n d | .inl _ => .none) (F' := fun k => match k with | .inr n => dC n d' | .inl _ => .none) rb (fun k u e => by
      cases k with
      | inr n => exact ⟨dat tq n u e, shp_dC hv'⟩
      | inl i =>
        have hm : ∃ pr ∈ ls, pr.1 = (.inl i : Key) := by
          unfold valV at e
          cases z : ls.find? (fun p => decide (p.1 = (.inl i : Key))) with
          | none => rw [z] at e; cases e
          | some pr => exact ⟨pr, List.mem_of_find?_eq_some z, of_decide_eq_true (by simpa using List.find?_some z)⟩
        obtain ⟨pr, hp, e2⟩ := hm
        obtain ⟨n, e3, _⟩ := key hl pr hp
        rw [e2] at e3
        cases e3) ra (fun pr hp => by
      obtain ⟨n, e, hn⟩ := key hk pr hp
      obtain ⟨k, v⟩ := pr
      cases e
      exact ⟨dat tp n v (val_mem (nd hk) hp), shp_dC hv⟩)
  refine PySem.W.keq_ne (knd := mixKind X.prog X.w) (r := r) ya yb da db (by omega) (fun _ => hr) ⟨.bl _, H, I, rfl, q0 (va.length == vb.length && r) fun z n => ?_⟩
  obtain ⟨z1, z2⟩ := Bool.and_eq_true_iff.mp z
  have all := hr2 z2
  have lenk : (ddp (nms d)).length = (ddp (nms d')).length := by
    have e1 := congrArg List.length hk
    have e2 := congrArg List.length hl
    rw [List.length_map, List.length_map] at e1 e2
    have e3 : va.length = vb.length := by simpa using z1
    have e4 := Paired.length ra
    have e5 := Paired.length rb
    omega
  have sub : ∀ m ∈ ddp (nms d), m ∈ ddp (nms d') ∧ cts m d = cts m d' := fun m hm => by
    have : (Sum.inr m : Key) ∈ ks.map (·.1) := by rw [hk]; exact List.mem_map.mpr ⟨m, hm, rfl⟩
    obtain ⟨pr, hp, e⟩ := List.mem_map.mp this
    obtain ⟨⟨u, hu2⟩, he⟩ := all pr hp
    obtain ⟨k, v⟩ := pr
    cases e
    have he2 : PyData.eqv (dC m d) (dC m d') = true := he
    rw [eqv_dC] at he2
    refine ⟨(nms_mem d' m).mpr (Classical.byContradiction fun z => ?_), of_decide_eq_true he2⟩
    have hu3 : valV ls (.inr m : Key) = some u := hu2
    rw [tq.no m z] at hu3
    cases hu3
  by_cases hn : n ∈ ddp (nms d)
  · exact (sub n hn).2
  · have hn' : n ∉ ddp (nms d') := fun hm => hn (nodup_full (ddp_nodup _) (fun m hm => (sub m hm).1) lenk hm)
    have e1 : cts n d = [] := Classical.byContradiction fun z => hn ((nms_mem d n).mpr ((head_cts n d).mpr z))
    have e2 : cts n d' = [] := Classical.byContradiction fun z => hn' ((nms_mem d' n).mpr ((head_cts n d').mpr z))
    rw [e1, e2]
end
end Wf

end
section
set_option maxHeartbeats 4000000
/-! W27b: move_section. -/
namespace Wf
open PySem PySem.Spec PyProof.Rows L2 Wr GxR Wg
theorem sec_at : ∀ (a : Nat) (d : List Ln) (k : Nat) (n : Str), d[k]? = some (.head n) → ∃ s ∈ secs a d, s.2.1 = a + k
  | a, [], k, n, h => by cases h
  | a, l :: d, 0, n, h => by
    have : l = .head n := Option.some.inj h
    subst this
    exact ⟨(n, a, a + 1 + (tw d).length), List.mem_cons_self, rfl⟩
  | a, l :: d, k + 1, n, h => by
    obtain ⟨s, hs, e⟩ := sec_at (a + 1) d k n h
    refine ⟨s, ?_, by rw [e]; omega⟩
    cases l with
    | head m => exact List.mem_cons_of_mem _ hs
    | _ => exact hs
theorem free_of {l : List Ln} (h : ∀ z, l[0]? = some z → z.own = false) : Free l := by
  cases l with
  | nil => trivial
  | cons z r =>
    have := h z rfl
    cases z with
    | use i m => cases this
    | code t => cases this
    | head n => trivial
    | prose t => trivial
/-- the document with a section cut out, and put in elsewhere -/
def cutS0 (d : List Ln) (i en : Nat) : List Ln := d.take i ++ d.drop en
def putS (d : List Ln) (i en pl : Nat) : List Ln := (cutS0 d i en).take pl ++ (d.drop i).take (en - i) ++ (cutS0 d i en).drop pl
theorem move_ok {d : List Ln} (ok : okd none d) {s : Sec} (hs : s ∈ secs 0 d) {t : Nat} (ht : t ≤ d.length) (ho : ownAt d (t : Int) = false) (hn : ¬ (s.2.1 ≤ t ∧ t ≤ s.2.2)) :
    okd none (putS d s.2.1 s.2.2 (if t < s.2.1 then t else t - (s.2.2 - s.2.1))) := by
  obtain ⟨x, r, e, e1, e2⟩ := sec_mem 0 d s hs
  obtain ⟨y, ey, fy⟩ := tw_prefix r
  have hx : d.take s.2.1 = x := by rw [e, e1]; simp
  have hd : d = x ++ (.head s.1 :: tw r) ++ y := by
    rw [e]
    conv => lhs; rw [ey]
    simp
  have hlen : s.2.2 = x.length + 1 + (tw r).length := by omega
  have hse : (d.drop s.2.1).take (s.2.2 - s.2.1) = .head s.1 :: tw r := by
    have : s.2.1 = x.length := by omega
    rw [hd, this, hlen]
    simp [List.append_assoc]
    rw [show x.length + 1 + (tw r).length - x.length = (tw r).length + 1 by omega, List.take_succ_cons, List.take_left]
  have hy : d.drop s.2.2 = y := by
    rw [hd, show s.2.2 = (x ++ (.head s.1 :: tw r)).length by simp; omega, List.drop_left]
  have hcut : cutS0 d s.2.1 s.2.2 = x ++ y := by unfold cutS0; rw [hx, hy]
  have okc : okd none (x ++ y) := okd_cut fy (by rw [← hd]; exact ok)
  unfold putS
  rw [hse, hcut]
  have hfree : Free ((x ++ y).drop (if t < s.2.1 then t else t - (s.2.2 - s.2.1))) := by
    refine free_of fun z hz => ?_
    rw [List.getElem?_drop, Nat.add_zero, ← hcut] at hz
    have hdt : d[t]? = some z := by
      rw [← hz]
      unfold cutS0
      have hb := sec_bound hs
      by_cases h : t < s.2.1
      · have hlt : t < (d.take s.2.1).length := by rw [List.length_take]; omega
        rw [if_pos h, List.getElem?_append_left hlt, List.getElem?_take, if_pos h]
      · have hlt : (d.take s.2.1).length ≤ t - (s.2.2 - s.2.1) := by rw [List.length_take]; omega
        rw [if_neg h, List.getElem?_append_right hlt, List.getElem?_drop, List.length_take]
        congr 1
        omega
    rw [ownAt_nat, hdt] at ho
    exact ho
  have e3 : (x ++ y).take (if t < s.2.1 then t else t - (s.2.2 - s.2.1)) ++ (x ++ y).drop (if t < s.2.1 then t else t - (s.2.2 - s.2.1)) = x ++ y := List.take_append_drop _ _
  exact okd_move hfree (by rw [e3]; exact okc) fun l hl => tw_mem hl
theorem putS_len {d : List Ln} {i en pl : Nat} (h1 : i ≤ en) (h2 : en ≤ d.length) : (putS d i en pl).length = d.length := by
  unfold putS cutS0
  simp only [List.length_append, List.length_take, List.length_drop]
  omega
theorem putS_mem {d : List Ln} {i en pl : Nat} : ∀ l ∈ putS d i en pl, l ∈ d := by
  intro l hl
  unfold putS cutS0 at hl
  rcases List.mem_append.mp hl with hl | hl
  · rcases List.mem_append.mp hl with hl | hl
    · rcases List.mem_append.mp (List.mem_of_mem_take hl) with hl | hl
      · exact List.mem_of_mem_take hl
      · exact List.mem_of_mem_drop hl
    · exact List.mem_of_mem_drop (List.mem_of_mem_take hl)
  · rcases List.mem_append.mp (List.mem_of_mem_drop hl) with hl | hl
    · exact List.mem_of_mem_take hl
    · exact List.mem_of_mem_drop hl
end Wf

end
section
set_option maxHeartbeats 4000000
/-! W27c: move_section. -/
namespace Wf
open PySem PySem.Spec PyProof.Rows L2 Wr GxR Wg
abbrev s27 : Stmt := topS 27
abbrev n27 : List Str := ["document", "at", "target", "end", "rest", "place", "made", "name", "head", "last"]
theorem sc27 : FnScope n27 ["document", "at", "target"] (defScope s27) := ⟨rfl, rfl, rfl, by decide +kernel, rfl, by decide +kernel, by decide +kernel⟩
def sp27 (e : Es) : Sp := fun vs H Q E => ∃ (a : Addr) (d : List Ln) (i t : Nat), vs = [.ref a, .int (i : Int), .int (t : Int)] ∧ DocAt H a d ∧ okd none d ∧ d.length ≤ 1000000 ∧ (∀ l ∈ d, Vd l) ∧ i < d.length ∧ t ≤ d.length ∧
  (∀ H' p d', Same H H' → okd none d' → (∀ l ∈ d', l ∈ d) → d'.length = d.length → (∀ n, cts n d' = cts n d) → DocAt H' p d' → Q (.ref p) H') ∧ (∀ H', Same H H' → E (.ref e.bp) none H')
theorem SecsAt.same {H H' : Hp} {p : Addr} {ss : List Sec} (h : SecsAt H p ss) (s : Same H H') : SecsAt H' p ss := let ⟨ts, h1, h2⟩ := h; ⟨ts, s _ _ h1, Paired.mono (fun _ _ z => s _ _ z) h2⟩
theorem hu100 {A : Around} {k : Nat} (r : Room k A) : A.units + 100 < cLine := by have := r.un; omega
theorem head_secs {d : List Ln} {i j : Nat} {s s' : Sec} (h : s ∈ secs 0 d) (h' : s' ∈ secs 0 d) (e : s.2.1 = i) (e' : s'.2.1 = i) : s.2.2 = s'.2.2 := by
  obtain ⟨x, r, e1, e2, e3⟩ := sec_mem 0 d s h
  obtain ⟨x', r', e1', e2', e3'⟩ := sec_mem 0 d s' h'
  have hx : x.length = x'.length := by omega
  rw [e1] at e1'
  obtain ⟨_, h2⟩ := List.append_inj e1' hx
  have : r = r' := (List.cons.inj h2).2
  rw [← this] at e3'
  omega
section
variable {P : Program} {w : World} {K : PySem.W.Frag} {mg : Str → Option Value} {base : Heap} {e : Es}
theorem ok27 (T : Ty P K mg base e) : Has P w K mg base (L2.CX P w) 3 "move_section" ["document", "at", "target"] (sp27 e) := by
  obtain ⟨f, fd, F, g⟩ := T.df 16 _ rfl
  refine ⟨f, fd, ?_, g, F.kp, F.binds fun _ _ _ _ _ _ us hl => match us, hl with | [_, _, _], _ => rfl⟩
  refine Fun.okX F sc27 (fun vs H Q E h => ?_) (fun cdv A outer s H vs Q E hr h => ?_)
  · obtain ⟨a, d, o, b, rfl, _⟩ := h
    rfl
  · obtain ⟨a, d, i0, t0, rfl, hd, okD, hlen, hvd, hi0, ht0, q1, q2⟩ := h
    obtain ⟨xs, hx, hxl⟩ := hd.len
    have hl0 : d[i0]? = some d[i0] := List.getElem?_eq_getElem hi0
    obtain ⟨ys, p0, hy, hp0, hat0⟩ := hd.get hl0
    obtain ⟨k, k0, kh, kp, ku, kc⟩ := k_head d[i0]
    -- behind the assignment of place
    obtain ⟨t3, hr3, fin3⟩ : ∃ tf, PSs (cxOf (L2.CX P w) P w K mg base n27 "move_section" (defScope s27) f cdv A outer s H E) (List.drop 6 (defBody s27)) tf ∧ ∀ (s0 : Sec) (H4 : Hp) (pr : Addr) (pl : Nat), s0 ∈ secs 0 d → s0.2.1 = i0 → pl = (if t0 < s0.2.1 then t0 else t0 - (s0.2.2 - s0.2.1)) → pl ≤ (cutS0 d s0.2.1 s0.2.2).length → okd none (putS d s0.2.1 s0.2.2 pl) → Same H H4 → DocAt H4 pr (cutS0 d s0.2.1 s0.2.2) →
        tf { nx := fun _ H' => Q .non H', rt := Q } [some (.ref a), some (.int (i0 : Int)), some (.int (t0 : Int)), some (.int ((s0.2.2 : Nat) : Int)), some (.ref pr), some (.int (pl : Int)), none, none, none, none] H4 := by
      refine ⟨_, pss_cons (ps_set (i := 6) sc27.nd rfl (.inl rfl) (pe_op op_catA (pe_op op_catA (pe_slice sl_tupA (pv 4) po_none (po_some (pv 5))) (pe_slice sl_tupA (pv 0) (po_some (pv 1)) (po_some (pv 3)))) (pe_slice sl_tupA (pv 4) (po_some (pv 5)) po_none)))
        (pss_cons (ps_if (pt_cmpR (op_neOrd (hu100 hr)) (pe_has (ok26 T.toTx) hr (by rfl) (pa_cons (pv 6) pa_nil)) (pe_has (ok26 T.toTx) hr (by rfl) (pa_cons (pv 0) pa_nil)) (nomark _))
            (pss_one (ps_raise rfl (takes_of rfl rfl rfl rfl) (pmk_own PySem.F.excBase_ValueError T.xBP T.gBP T.kBP (raises_own T.bBP T.tBP) rfl))) pss_nil)
        (pss_one (ps_ret (pv 6)))), fun s0 H4 pr pl hs0 hsi epl hpl okP s4 hpr => ?_⟩
      have hb := sec_bound hs0
      refine ⟨_, rfl, _, rfl, _, rfl, slA hpr fun H5 p5 s5 hp5 => ?_⟩
      rw [cutD_to _ hpl] at hp5
      have hlc : (cutS0 d s0.2.1 s0.2.2).length ≤ d.length := by unfold cutS0; rw [List.length_append, List.length_take, List.length_drop]; omega
      refine ⟨_, rfl, _, rfl, _, rfl, _, rfl, _, rfl, slA (hd.same (s4.trans s5)) fun H6 p6 s6 hp6 => ?_⟩
      rw [cutD_mid d (by omega) (by omega), ← hsi] at hp6
      refine catA (hp5.same s6) hp6 (by rw [List.length_take, List.length_take, List.length_drop]; omega) fun H7 p7 s7 hp7 => ?_
      refine ⟨_, rfl, _, rfl, _, rfl, ?_⟩
      dsimp only [tNoPart]
      refine slA (hpr.same (s5.trans (s6.trans s7))) fun H8 p8 s8 hp8 => ?_
      rw [cutD_from _ hpl] at hp8
      have hl2 := putS_len (d := d) (i := s0.2.1) (en := s0.2.2) (pl := pl) (by omega) (by omega)
      refine catA (hp7.same s8) hp8 (by have := hl2; unfold putS at this; rw [List.length_append] at this; omega) fun H9 p9 s9 hp9 => ?_
      have s49 := (s4.trans s5).trans ((s6.trans s7).trans (s8.trans s9))
      have hp9' : DocAt H9 p9 (putS d s0.2.1 s0.2.2 pl) := hp9
      refine ⟨_, rfl, p9, _, rfl, hp9', okP, by omega, fun H10 o1 s10 _ ho1 => ?_⟩
      refine ⟨_, rfl, a, d, rfl, hd.same (s49.trans s10), okD, hlen, fun H11 o2 s11 _ ho2 => ?_⟩
      refine ⟨o1, o2, _, d, rfl, rfl, ho1.same s11, ho2, fun l hl => hvd l (putS_mem l hl), hvd, fun bb hbb => ⟨_, rfl, ?_⟩⟩
      cases bb with
      | false => exact q2 _ ((s49.trans s10).trans s11)
      | true =>
        exact ⟨_, rfl, q1 _ p9 _ ((s49.trans s10).trans s11) okP (fun l hl => putS_mem l hl) hl2 (hbb rfl) (hp9'.same (s10.trans s11))⟩
    -- behind the first return
    obtain ⟨t2, hr2, fin2⟩ : ∃ tf, PSs (cxOf (L2.CX P w) P w K mg base n27 "move_section" (defScope s27) f cdv A outer s H E) (List.drop 4 (defBody s27)) tf ∧ ∀ (s0 : Sec) (H4 : Hp), s0 ∈ secs 0 d → s0.2.1 = i0 → ownAt d (t0 : Int) = false → ¬ (s0.2.1 ≤ t0 ∧ t0 ≤ s0.2.2) → Same H H4 →
        tf { nx := fun _ H' => Q .non H', rt := Q } [some (.ref a), some (.int (i0 : Int)), some (.int (t0 : Int)), some (.int ((s0.2.2 : Nat) : Int)), none, none, none, none, none, none] H4 := by
      refine ⟨_, pss_cons (ps_set (i := 4) sc27.nd rfl (.inl rfl) (pe_op op_catA (pe_slice sl_tupA (pv 0) po_none (po_some (pv 1))) (pe_slice sl_tupA (pv 0) (po_some (pv 3)) po_none)))
        (pss_cons (ps_set (i := 5) sc27.nd rfl (.inl rfl) (pe_ifExp (pt_cmpR op_lt (pv 2) (pv 1) (nomark _)) (pv 2) (pe_op op_sub (pv 2) (pe_op op_sub (pv 3) (pv 1))))) hr3), fun s0 H4 hs0 hsi ho hn s4 => ?_⟩
      have hb := sec_bound hs0
      have okP := move_ok okD hs0 ht0 ho hn
      refine ⟨_, rfl, _, rfl, _, rfl, slA (hd.same s4) fun H5 p5 s5 hp5 => ?_⟩
      rw [cutD_to _ (by omega), ← hsi] at hp5
      refine ⟨_, rfl, _, rfl, _, rfl, ?_⟩
      dsimp only [tNoPart]
      refine slA (hd.same (s4.trans s5)) fun H6 p6 s6 hp6 => ?_
      rw [cutD_from _ (by omega)] at hp6
      refine catA (hp5.same s6) hp6 (by rw [List.length_take, List.length_drop]; omega) fun H7 p7 s7 hp7 => ?_
      have s47 := (s4.trans s5).trans (s6.trans s7)
      have hp7' : DocAt H7 p7 (cutS0 d s0.2.1 s0.2.2) := hp7
      have hlc : (cutS0 d s0.2.1 s0.2.2).length = d.length - (s0.2.2 - s0.2.1) := by unfold cutS0; rw [List.length_append, List.length_take, List.length_drop]; omega
      refine ⟨_, rfl, _, rfl, _, _, rfl, rfl, _, rfl, ?_⟩
      refine if2 (fun h1 => ?_) (fun h1 => ?_)
      · rw [if_pos (by omega)] at okP
        exact ⟨_, rfl, fin3 s0 H7 p7 t0 hs0 hsi (by rw [if_pos (by omega)]) (by omega) okP s47 hp7'⟩
      · rw [if_neg (by omega)] at okP
        have e1 : ((t0 : Int) - (((s0.2.2 : Nat) : Int) - (i0 : Int))) = ((t0 - (s0.2.2 - s0.2.1) : Nat) : Int) := by omega
        refine ⟨_, rfl, _, rfl, _, rfl, _, _, rfl, rfl, _, _, rfl, rfl, ?_⟩
        have := fin3 s0 H7 p7 (t0 - (s0.2.2 - s0.2.1)) hs0 hsi (by rw [if_neg (by omega)]) (by omega) okP s47 hp7'
        rw [← e1] at this
        exact this
    -- behind the assignment of end
    obtain ⟨tf, hrest, fin⟩ : ∃ tf, PSs (cxOf (L2.CX P w) P w K mg base n27 "move_section" (defScope s27) f cdv A outer s H E) (List.drop 3 (defBody s27)) tf ∧ ∀ (s0 : Sec) (H4 : Hp), s0 ∈ secs 0 d → s0.2.1 = i0 → ownAt d (t0 : Int) = false → Same H H4 →
        tf { nx := fun _ H' => Q .non H', rt := Q } [some (.ref a), some (.int (i0 : Int)), some (.int (t0 : Int)), some (.int ((s0.2.2 : Nat) : Int)), none, none, none, none, none, none] H4 := by
      refine ⟨_, pss_cons (ps_if (pt_chain op_le op_le (pv 1) (pv 2) (pv 3)) (pss_one (ps_ret (pv 0))) pss_nil) hr2, fun s0 H4 hs0 hsi ho s4 => ?_⟩
      have hd4 := hd.same s4
      refine ⟨_, rfl, _, rfl, _, _, rfl, rfl, _, rfl, ?_⟩
      refine if2 (fun h1 => ?_) (fun h1 => ?_)
      · refine ⟨_, rfl, _, _, rfl, rfl, _, rfl, ?_⟩
        refine if2 (fun h2 => ?_) (fun h2 => ?_)
        · exact ⟨_, rfl, q1 H4 a d s4 okD (fun _ h => h) rfl (fun _ => rfl) hd4⟩
        · exact fin2 s0 H4 hs0 hsi ho (fun z => h2 (by omega)) s4
      · refine ⟨_, rfl, ?_⟩
        exact fin2 s0 H4 hs0 hsi ho (fun z => h1 (by omega)) s4
    refine ⟨_, pss_cons (ps_if (PW.pt (pw_or (pt_not (pt_chain op_le op_lt pe_int (pv 1) (pe_callB call_len_seq (by rfl) T.len PySem.boot_len (pa_cons (pv 0) pa_nil)))) (pw_or1 (pt_cmpR op_ne (pe_ix ix_tup (pe_ix ix_tup (pv 0) (pv 1) (fun _ _ => rfl)) pe_int (fun _ _ => rfl)) pe_str (nomark _)))))
          (pss_one (ps_raise rfl (takes_of rfl rfl rfl rfl) (pmk_own PySem.F.excBase_ValueError T.xBP T.gBP T.kBP (raises_own T.bBP T.tBP) rfl))) pss_nil)
      (pss_cons (ps_if (PW.pt (pw_or (pt_not (pt_chain op_le op_le pe_int (pv 2) (pe_callB call_len_seq (by rfl) T.len PySem.boot_len (pa_cons (pv 0) pa_nil)))) (pw_or1 (pt_val (pe_has (ok19 T.toTx) hr (by rfl) (pa_cons (pv 0) (pa_cons (pv 2) pa_nil)))))))
          (pss_one (ps_raise rfl (takes_of rfl rfl rfl rfl) (pmk_own PySem.F.excBase_ValueError T.xBP T.gBP T.kBP (raises_own T.bBP T.tBP) rfl))) pss_nil)
      (pss_cons (ps_set (i := 3) sc27.nd rfl (.inl rfl) (pe_ix ix_list (pe_lc (own := [("name", 7), ("head", 8), ("last", 9)]) (g := gTup K 3 (gCons (gName 7) (gCons (gName 8) (gCons (gName 9) gNil)))) rfl sc27.nd (pi_list (pe_has (ok10 T.toTx) hr (by rfl) (pa_cons (pv 0) pa_nil)))
          (blkOk_by (N := n27) (own := [("name", 7), ("head", 8), ("last", 9)]) (sc := defScope s27) (by decide +kernel))
          (fun _ _ _ _ _ => pg_tup rfl (pgs_cons (pg_name (i := 7) sc27.nd rfl (.inl rfl)) (pgs_cons (pg_name (i := 8) sc27.nd rfl (.inl rfl)) (pgs_cons (pg_name (i := 9) sc27.nd rfl (.inl rfl)) pgs_nil))))
          (fun _ _ _ _ _ => pts_one (pt_cmpR op_eq (pv 8) (pv 1) (nomark _))) (fun _ _ _ _ _ => pv 9)) pe_int (fun _ _ => rfl)))
      hrest)), ?_⟩
    refine ⟨_, rfl, _, _, rfl, rfl, _, rfl, ?_⟩
    refine ifY (by omega) ?_
    refine ⟨_, rfl, a, xs, rfl, .inr (.of hx), _, _, rfl, rfl, _, rfl, ?_⟩
    refine ifNN (by omega) ?_
    refine ⟨_, rfl, _, rfl, a, ys, _, _, rfl, rfl, .of hy, atI_nat hp0, p0, _, _, _, rfl, rfl, .of hat0, atI_nat (j := 0) k0, rfl, _, rfl, ?_⟩
    refine ifN2 (fun h1 => q2 H (Same.refl _)) (fun h1 => ?_)
    obtain ⟨nn, hnn⟩ := kh.mp (V.str.inj h1)
    refine ⟨_, rfl, _, _, rfl, rfl, _, rfl, ?_⟩
    refine ifY (by omega) ?_
    refine ⟨_, rfl, a, xs, rfl, .inr (.of hx), _, _, rfl, rfl, _, rfl, ?_⟩
    refine ifNN (by omega) ?_
    refine ⟨_, rfl, _, rfl, a, d, _, rfl, hd, fun H1 s1 => ⟨_, rfl, ?_⟩⟩
    cases how : ownAt d (t0 : Int) with
    | true => exact q2 H1 s1
    | false =>
      show if false = true then _ else _
      rw [if_neg Bool.false_ne_true]
      refine ⟨_, rfl, a, d, rfl, hd.same s1, okD, hlen, fun H2 p s2 np hs => ?_⟩
      obtain ⟨ts, hp, hl⟩ := hs.lst
      refine ⟨p, rfl, ⟨_, .of hp⟩, fun D nD => ?_⟩
      have s3 := same_upd (o := .lst []) nD
      have npD : p ≠ D := fun z => by rw [z, nD] at hp; cases hp
      refine lc_list (K := K) (a := p) (xs := ts.map V.ref) (fun i H4 => Keep D (upd H2 D (.lst [])) H4 ∧ H4 D = some (.lst ((((secs 0 d).take i).filter (fun s => decide (s.2.1 = i0))).map (fun s => V.int ((s.2.2 : Nat) : Int)))))
        ⟨Keep.of (Same.refl _), upd_same⟩ (fun i H4 _ ⟨k, _⟩ => .of (k _ _ npD (s3 _ _ hp))) ?_ ?_
      · rintro i x H4 hi ⟨k, ho⟩
        have hD1 : upd H2 D (.lst []) D = some (.lst []) := upd_same
        obtain ⟨t, sc, rfl, hsi, ht⟩ := ((SecsAt.same hs s3).keep k hD1 npD).at (k _ _ npD (s3 _ _ hp)) hi
        have hsn : (secs 0 d).take (i + 1) = (secs 0 d).take i ++ [sc] := by rw [List.take_add_one, hsi]; rfl
        refine ⟨t, _, rfl, .of ht, rfl, _, _, rfl, _, _, rfl, _, _, rfl, rfl, ?_⟩
        refine ⟨rfl, _, rfl, _, rfl, rfl, _, rfl, ?_⟩
        refine if2 (fun h2 => ?_) (fun h2 => ?_)
        · have e2 : sc.2.1 = i0 := by have := V.int.inj h2; omega
          have hln : (((secs 0 d).take i).filter (fun s => decide (s.2.1 = i0))).length ≤ 1000000 := by
            refine Nat.le_trans (List.length_filter_le _ _) ?_
            rw [List.length_take]
            have := secs_len 0 d
            omega
          refine ⟨_, rfl, _, ho, by rw [List.length_map]; exact small7 (by omega), k.trans .upd, ?_⟩
          rw [upd_same, hsn, List.filter_append, List.map_append]
          simp [e2]
        · have e2 : ¬ sc.2.1 = i0 := fun z => h2 (by rw [z])
          refine ⟨k, ?_⟩
          rw [ho, hsn, List.filter_append]
          simp [e2]
      · rintro H4 ⟨k, ho⟩
        have e1 : (secs 0 d).take (ts.map V.ref).length = secs 0 d := by rw [List.length_map, hl, List.take_length]
        rw [e1] at ho
        obtain ⟨sx, hsx, hsx2⟩ := sec_at 0 d i0 nn (by rw [hl0, hnn])
        cases hL : (secs 0 d).filter (fun s => decide (s.2.1 = i0)) with
        | nil =>
          have : sx ∈ (secs 0 d).filter (fun s => decide (s.2.1 = i0)) := List.mem_filter.mpr ⟨hsx, decide_eq_true (by omega)⟩
          rw [hL] at this
          cases this
        | cons s0 rr =>
          have hs0 : s0 ∈ (secs 0 d).filter (fun s => decide (s.2.1 = i0)) := by rw [hL]; exact List.mem_cons_self
          obtain ⟨m1, m2⟩ := List.mem_filter.mp hs0
          rw [hL] at ho
          refine ⟨D, _, _, _, rfl, rfl, .of ho, atI_nat (j := 0) rfl, ?_⟩
          exact fin s0 H4 m1 (of_decide_eq_true m2) how ((s1.trans s2).trans (Keep.same s3 nD k))
end
end Wf

end
section
set_option maxHeartbeats 4000000
/-! W37: texts_of, write_line, write. -/
namespace Wf
open PySem PySem.Spec PyProof.Rows L2 Wr GxR Wg
/-! ### texts_of -/
abbrev s45 : Stmt := topS 45
theorem sc45 : FnScope ["lines", "line"] ["lines"] (defScope s45) := ⟨rfl, rfl, rfl, by decide +kernel, rfl, by decide +kernel, by decide +kernel⟩
/-- the tuples of a program: the text first -/
def PgAt (H : Hp) (p : Addr) (t : Str) : Prop := ∃ v w, H p = some (.tup [.str t, v, w])
def sp45 : Sp := fun vs H Q _ => ∃ (a : Addr) (ps : List Addr) (ts : List Str), vs = [.ref a] ∧ H a = some (.lst (ps.map V.ref)) ∧ Paired (PgAt H) ps ts ∧ ts.length ≤ 1000000 ∧ ∀ H' p, Same H H' → H' p = some (.lst (strV ts)) → Q (.ref p) H'
theorem PgAt.keepL {o p : Addr} {H H' : Hp} {t : Str} {xs : List V} (h : PgAt H p t) (k : Keep o H H') (ho : H o = some (.lst xs)) : PgAt H' p t := by
  obtain ⟨v, w, e⟩ := h
  exact ⟨v, w, k _ _ (fun z => by rw [z, ho] at e; cases e) e⟩
section
variable {P : Program} {w : World} {K : PySem.W.Frag} {mg : Str → Option Value} {base : Heap} {e : Es}
theorem ok45 (T : Tx K mg) : Has P w K mg base CX0 1 "texts_of" ["lines"] sp45 := by
  obtain ⟨f, fd, F, g⟩ := T.df 29 _ rfl
  refine ⟨f, fd, ?_, g, F.kp, F.binds fun _ _ _ _ _ _ us hl => match us, hl with | [_], _ => rfl⟩
  refine Fun.ok F sc45 (fun vs H Q E h => ?_) (fun cdv A outer s H vs Q E hr h => ?_)
  · obtain ⟨a, d, o, rfl, _⟩ := h
    rfl
  · obtain ⟨a, ps, ts, rfl, ha, hp, hl, q⟩ := h
    refine ⟨_, pss_one (ps_ret (pe_lc (own := [("line", 1)]) (g := gName 1) rfl sc45.nd (pi_list (pv 0)) (blkOk_by (N := ["lines", "line"]) (own := [("line", 1)]) (sc := defScope s45) (by decide +kernel))
          (fun _ _ _ _ _ => pg_name (i := 1) sc45.nd rfl (Or.inl rfl)) (fun _ _ _ _ _ => pts_nil) (fun _ _ _ _ _ => pe_ix (r := rIxT K) ix_tup (pv 1) pe_int (fun _ _ => rfl)))), ?_⟩
    refine ⟨_, rfl, a, rfl, ⟨_, .of ha⟩, fun D nD => ?_⟩
    have s3 := same_upd (o := .lst []) nD
    have npD : a ≠ D := fun z => by rw [z, nD] at ha; cases ha
    refine lc_list (K := K) (a := a) (xs := ps.map V.ref) (fun i H4 => Keep D (upd H D (.lst [])) H4 ∧ H4 D = some (.lst (strV (ts.take i))))
      ⟨Keep.of (Same.refl _), upd_same⟩ (fun i H4 _ ⟨k, _⟩ => .of (k _ _ npD (s3 _ _ ha))) ?_ ?_
    · rintro i x H4 hi ⟨k, ho⟩
      rw [List.getElem?_map] at hi
      cases e3 : ps[i]? with
      | none => rw [e3] at hi; cases hi
      | some p =>
        rw [e3] at hi
        cases hi
        obtain ⟨t, g1, g2⟩ := Paired.get' hp e3
        have g3 : PgAt (upd H D (.lst [])) p t := by obtain ⟨v, w, e⟩ := g2; exact ⟨v, w, s3 _ _ e⟩
        obtain ⟨v, w', g4⟩ := g3.keepL k upd_same
        have hln : (ts.take i).length ≤ 1000000 := by rw [List.length_take]; omega
        refine ⟨rfl, _, rfl, p, _, _, _, rfl, rfl, .of g4, atI_nat (j := 0) rfl, _, ho, by unfold strV; rw [List.length_map]; exact small7 (by omega), k.trans .upd, ?_⟩
        rw [upd_same, List.take_add_one, g1]
        unfold strV
        rw [List.map_append]; rfl
    · rintro H4 ⟨k, ho⟩
      refine q H4 D (Keep.same s3 nD k) ?_
      rw [ho, List.length_map, hp.length, List.take_length]
end
/-! ### write_line -/
def wrL : Ln → Str
  | .head n => Str.ofString "= " ++ n
  | .use i n => Str.ofString "|" ++ spaces i.toNat ++ Str.ofString "<" ++ n ++ Str.ofString ">"
  | .code t => Str.ofString "|" ++ t
  | .prose t => t
abbrev s37 : Stmt := topS 37
theorem sc37 : FnScope ["line"] ["line"] (defScope s37) := ⟨rfl, rfl, rfl, by decide +kernel, rfl, by decide +kernel, by decide +kernel⟩
def sp37 : Sp := fun vs H Q _ => ∃ (p : Addr) (l : Ln), vs = [.ref p] ∧ At H p l ∧ Sml 20000 l ∧ Q (.str (wrL l)) H
theorem wr_len {l : Ln} (h : Sml 20000 l) : (wrL l).length ≤ 22000 := by
  have e1 : (Str.ofString "= ").length = 2 := by decide +kernel
  have e2 : (Str.ofString "|").length = 1 := by decide +kernel
  have e3 : (Str.ofString "<").length = 1 := by decide +kernel
  have e4 : (Str.ofString ">").length = 1 := by decide +kernel
  cases l with
  | prose t =>
    have : t.length ≤ 1000 := h
    show t.length ≤ _
    omega
  | head t =>
    have : t.length ≤ 1000 := h
    show (Str.ofString "= " ++ t).length ≤ _
    rw [len_app, e1]; omega
  | code t =>
    have : t.length ≤ 20000 := h
    show (Str.ofString "|" ++ t).length ≤ _
    rw [len_app, e2]; omega
  | use i n =>
    obtain ⟨h1, h2, h3⟩ := h
    show (Str.ofString "|" ++ spaces i.toNat ++ Str.ofString "<" ++ n ++ Str.ofString ">").length ≤ _
    rw [len_app, len_app, len_app, len_app, e2, e3, e4, len_sp]; omega
section
variable {P : Program} {w : World} {K : PySem.W.Frag} {mg : Str → Option Value} {base : Heap} {e : Es}
theorem ok37 (T : Tx K mg) : Has P w K mg base CX0 1 "write_line" ["line"] sp37 := by
  obtain ⟨f, fd, F, g⟩ := T.df 23 _ rfl
  refine ⟨f, fd, ?_, g, F.kp, F.binds fun _ _ _ _ _ _ us hl => match us, hl with | [_], _ => rfl⟩
  refine Fun.ok F sc37 (fun vs H Q E h => ?_) (fun cdv A outer s H vs Q E hr h => ?_)
  · obtain ⟨a, d, rfl, _⟩ := h
    rfl
  · obtain ⟨p, l, rfl, hat, hs, q⟩ := h
    refine ⟨_, pss_cons (ps_if (pt_cmpR op_eq (pe_ix ix_tup (pv 0) pe_int (fun _ _ => rfl)) pe_str (nomark _)) (pss_one (ps_ret (pe_op op_add_str pe_str (pe_ix ix_tup (pv 0) pe_int (fun _ _ => rfl))))) pss_nil)
      (pss_cons (ps_if (pt_cmpR op_eq (pe_ix ix_tup (pv 0) pe_int (fun _ _ => rfl)) pe_str (nomark _)) (pss_one (ps_ret (pe_op op_add_str (pe_op op_add_str (pe_op op_add_str (pe_op op_add_str pe_str (pe_op op_spaces pe_str (pe_ix ix_tup (pv 0) pe_int (fun _ _ => rfl)))) pe_str) (pe_ix ix_tup (pv 0) pe_int (fun _ _ => rfl))) pe_str))) pss_nil)
      (pss_cons (ps_if (pt_cmpR op_eq (pe_ix ix_tup (pv 0) pe_int (fun _ _ => rfl)) pe_str (nomark _)) (pss_one (ps_ret (pe_op op_add_str pe_str (pe_ix ix_tup (pv 0) pe_int (fun _ _ => rfl))))) pss_nil)
      (pss_one (ps_ret (pe_ix ix_tup (pv 0) pe_int (fun _ _ => rfl)))))), ?_⟩
    have e1 : (Str.ofString "= ").length = 2 := by decide +kernel
    have e2 : (Str.ofString "|").length = 1 := by decide +kernel
    have e3 : (Str.ofString "<").length = 1 := by decide +kernel
    have e4 : (Str.ofString ">").length = 1 := by decide +kernel
    have hw := wr_len hs
    have big : ∀ {n : Nat}, n ≤ 30000 → n ≤ sizeLine := fun h => Nat.le_trans h (by decide)
    cases l with
    | head n =>
      have h2 : n.length ≤ 1000 := hs
      refine ⟨_, rfl, p, _, _, _, rfl, rfl, .of hat, atI_nat (j := 0) rfl, rfl, _, rfl, ?_⟩
      refine ifY rfl ?_
      refine ⟨_, rfl, p, _, _, _, rfl, rfl, .of hat, atI_nat (j := 1) rfl, _, _, rfl, rfl, big (by rw [e1]; omega), q⟩
    | use i n =>
      obtain ⟨h1, h2, h3⟩ := _root_.id hs
      refine ⟨_, rfl, p, _, _, _, rfl, rfl, .of hat, atI_nat (j := 0) rfl, rfl, _, rfl, ?_⟩
      refine ifN nUH ?_
      refine ⟨_, rfl, p, _, _, _, rfl, rfl, .of hat, atI_nat (j := 0) rfl, rfl, _, rfl, ?_⟩
      refine ifY rfl ?_
      refine ⟨_, rfl, p, _, _, _, rfl, rfl, .of hat, atI_nat (j := 1) rfl, i, rfl, rfl, by omega, by omega, _, _, rfl, rfl, ?_, _, _, rfl, rfl, ?_, _, rfl, p, _, _, _, rfl, rfl, .of hat, atI_nat (j := 2) rfl, _, _, rfl, rfl, ?_, _, _, rfl, rfl, ?_, q⟩
      · rw [len_sp, e2]; exact big (by omega)
      · rw [len_app, len_sp, e2, e3]; exact big (by omega)
      · rw [len_app, len_app, len_sp, e2, e3]; exact big (by omega)
      · rw [len_app, len_app, len_app, len_sp, e2, e3, e4]; exact big (by omega)
    | code t =>
      have h2 : t.length ≤ 20000 := hs
      refine ⟨_, rfl, p, _, _, _, rfl, rfl, .of hat, atI_nat (j := 0) rfl, rfl, _, rfl, ?_⟩
      refine ifN nCH ?_
      refine ⟨_, rfl, p, _, _, _, rfl, rfl, .of hat, atI_nat (j := 0) rfl, rfl, _, rfl, ?_⟩
      refine ifN nCU ?_
      refine ⟨_, rfl, p, _, _, _, rfl, rfl, .of hat, atI_nat (j := 0) rfl, rfl, _, rfl, ?_⟩
      refine ifY rfl ?_
      refine ⟨_, rfl, p, _, _, _, rfl, rfl, .of hat, atI_nat (j := 1) rfl, _, _, rfl, rfl, big (by rw [e2]; omega), q⟩
    | prose t =>
      refine ⟨_, rfl, p, _, _, _, rfl, rfl, .of hat, atI_nat (j := 0) rfl, rfl, _, rfl, ?_⟩
      refine ifN nPH ?_
      refine ⟨_, rfl, p, _, _, _, rfl, rfl, .of hat, atI_nat (j := 0) rfl, rfl, _, rfl, ?_⟩
      refine ifN nPU ?_
      refine ⟨_, rfl, p, _, _, _, rfl, rfl, .of hat, atI_nat (j := 0) rfl, rfl, _, rfl, ?_⟩
      refine ifN nPC ?_
      exact ⟨_, rfl, p, _, _, _, rfl, rfl, .of hat, atI_nat (j := 1) rfl, q⟩
end
/-! ### write -/
abbrev s38 : Stmt := topS 38
theorem sc38 : FnScope ["document", "line"] ["document"] (defScope s38) := ⟨rfl, rfl, rfl, by decide +kernel, rfl, by decide +kernel, by decide +kernel⟩
def wrD (d : List Ln) : Str := Txt.join (Str.ofString "\n") (d.map wrL)
def sp38 : Sp := fun vs H Q _ => ∃ (a : Addr) (d : List Ln), vs = [.ref a] ∧ DocAt H a d ∧ d.length ≤ 300 ∧ (∀ l ∈ d, Sml 20000 l) ∧ ∀ H', Same H H' → Q (.str (wrD d)) H'
theorem wr_sum : ∀ {d : List Ln}, (∀ l ∈ d, Sml 20000 l) → ((d.map wrL).map (·.length)).sum ≤ 22000 * d.length
  | [], _ => Nat.le_refl _
  | l :: d, h => by
    have ih := wr_sum (d := d) fun x hx => h x (List.mem_cons_of_mem _ hx)
    have := wr_len (h l (by simp))
    simp only [List.map_cons, List.sum_cons, List.length_cons]
    omega
section
variable {P : Program} {w : World} {K : PySem.W.Frag} {mg : Str → Option Value} {base : Heap} {e : Es}
theorem ok38 (T : Tx K mg) : Has P w K mg base CX0 2 "write" ["document"] sp38 := by
  obtain ⟨f, fd, F, g⟩ := T.df 24 _ rfl
  refine ⟨f, fd, ?_, g, F.kp, F.binds fun _ _ _ _ _ _ us hl => match us, hl with | [_], _ => rfl⟩
  refine Fun.ok F sc38 (fun vs H Q E h => ?_) (fun cdv A outer s H vs Q E hr h => ?_)
  · obtain ⟨a, d, rfl, _⟩ := h
    rfl
  · obtain ⟨a, d, rfl, hd, hl, hs, q⟩ := h
    refine ⟨_, pss_one (ps_ret (pe_join pe_str (pe_lc (own := [("line", 1)]) (g := gName 1) rfl sc38.nd (pi_tup (pv 0)) (blkOk_by (N := ["document", "line"]) (own := [("line", 1)]) (sc := defScope s38) (by decide +kernel))
          (fun _ _ _ _ _ => pg_name (i := 1) sc38.nd rfl (Or.inl rfl)) (fun _ _ _ _ _ => pts_nil) (fun _ _ _ _ _ => pe_has (ok37 T) hr (by rfl) (pa_cons (pv 1) pa_nil))))), ?_⟩
    obtain ⟨ls, ha, hls⟩ := _root_.id hd
    refine ⟨⟨_, rfl⟩, _, rfl, a, rfl, ⟨_, .of ha⟩, fun D nD => ?_⟩
    have s3 := same_upd (o := .lst []) nD
    have npD : a ≠ D := fun z => by rw [z, nD] at ha; cases ha
    refine lc_tup (K := K) (a := a) (xs := ls.map V.ref) (fun i H4 => Keep D (upd H D (.lst [])) H4 ∧ H4 D = some (.lst (strV ((d.take i).map wrL))))
      ⟨Keep.of (Same.refl _), upd_same⟩ (fun i H4 _ ⟨k, _⟩ => .of (k _ _ npD (s3 _ _ ha))) ?_ ?_
    · rintro i x H4 hi ⟨k, ho⟩
      rw [List.getElem?_map] at hi
      cases e3 : ls[i]? with
      | none => rw [e3] at hi; cases hi
      | some p =>
        rw [e3] at hi
        cases hi
        obtain ⟨l, g1, g2⟩ := Paired.get' hls e3
        have g4 := At.keepL (show At (upd H D (.lst [])) p l from s3 _ _ g2) k upd_same
        have hln : ((d.take i).map wrL).length ≤ 1000000 := by rw [List.length_map, List.length_take]; omega
        refine ⟨rfl, _, rfl, p, l, rfl, g4, hs l (List.mem_of_getElem? g1), _, ho, by unfold strV; rw [List.length_map]; exact small7 (by omega), k.trans .upd, ?_⟩
        rw [upd_same, List.take_add_one, g1]
        unfold strV
        simp
    · rintro H4 ⟨k, ho⟩
      have e1 : d.take (ls.map V.ref).length = d := by rw [List.length_map, hls.length, List.take_length]
      rw [e1] at ho
      have hsum := wr_sum hs
      refine ⟨_, D, d.map wrL, rfl, rfl, .inl (.of ho), ?_, q H4 (Keep.same s3 nD k)⟩
      have e2 : (Str.ofString "\n").length = 1 := by decide +kernel
      rw [e2, List.length_map]
      omega
end
end Wf

end
section

/-! WM4: what is written reads back: texts. -/
namespace Wf
open PySem PySem.Spec PyProof.Rows L2 Wr
/-- a line that reads back as it is -/
def LnR : Ln → Prop
  | .head n => isName n = true
  | .use i n => 0 ≤ i ∧ isName n = true
  | .code t => CodeOk t
  | .prose t => 10 ∉ TL.tl t ∧ first1 t ≠ Str.ofString "=" ∧ first1 t ≠ Str.ofString "|"
theorem bar_S : (Str.ofString "|" : Str) = S [124] := code_S.1
theorem eq_S : (Str.ofString "= " : Str) = S [61, 32] := code_S.2.1
theorem len_S (l : List Nat) : (S l).length = l.length := by rw [TL.len_tl, tlS]
theorem first_of {c : Nat} {r : List Nat} {t : Str} (h : TL.tl t = c :: r) : first1 t = S [c] := by
  apply TL.ext_tl
  unfold first1
  have hl : t.length = r.length + 1 := by rw [TL.len_tl, h]; rfl
  rw [cutS_tl, HT.sIx_none, show (some (1 : Int)) = some ((1 : Nat) : Int) from rfl, HT.sIx_nat, hl, Nat.min_eq_left (by omega), h]
  rfl
theorem rest_of {c : Nat} {r : List Nat} {t : Str} (h : TL.tl t = c :: r) : cutS t (some 1) none = S r := by
  apply TL.ext_tl
  have hl : t.length = r.length + 1 := by rw [TL.len_tl, h]; rfl
  rw [cutS_tl, HT.sIx_none, show (some (1 : Int)) = some ((1 : Nat) : Int) from rfl, HT.sIx_nat, hl, Nat.min_eq_left (by omega), h]
  show r.take (r.length + 1 - 1) = r
  rw [Nat.add_sub_cancel, List.take_length]
theorem rest2_of {c c2 : Nat} {r : List Nat} {t : Str} (h : TL.tl t = c :: c2 :: r) : cutS t (some 2) none = S r := by
  apply TL.ext_tl
  have hl : t.length = r.length + 2 := by rw [TL.len_tl, h]; rfl
  rw [cutS_tl, HT.sIx_none, show (some (2 : Int)) = some ((2 : Nat) : Int) from rfl, HT.sIx_nat, hl, Nat.min_eq_left (by omega), h]
  show r.take (r.length + 2 - 2) = r
  rw [Nat.add_sub_cancel, List.take_length]
theorem mid2_of {c c2 : Nat} {r : List Nat} {t : Str} (h : TL.tl t = c :: c2 :: r) : cutS t (some 1) (some 2) = S [c2] := by
  apply TL.ext_tl
  have hl : t.length = r.length + 2 := by rw [TL.len_tl, h]; rfl
  rw [cutS_tl, show (some (1 : Int)) = some ((1 : Nat) : Int) from rfl, show (some (2 : Int)) = some ((2 : Nat) : Int) from rfl, HT.sIx_nat, HT.sIx_nat, hl, Nat.min_eq_left (by omega), Nat.min_eq_left (by omega), h]
  rfl
theorem S_tl (t : Str) : S (TL.tl t) = t := TL.ext_tl rfl
theorem tl_head (n : Str) : TL.tl (wrL (.head n)) = 61 :: 32 :: TL.tl n := by
  show TL.tl (Str.ofString "= " ++ n) = _
  rw [TL.tl_append, eq_S]
  rfl
theorem tl_code (t : Str) : TL.tl (wrL (.code t)) = 124 :: TL.tl t := by
  show TL.tl (Str.ofString "|" ++ t) = _
  rw [TL.tl_append, bar_S]
  rfl
theorem tl_use (i : Int) (n : Str) : TL.tl (wrL (.use i n)) = 124 :: TL.tl (spaces i.toNat ++ brk n) := by
  show TL.tl (Str.ofString "|" ++ spaces i.toNat ++ Str.ofString "<" ++ n ++ Str.ofString ">") = _
  rw [TL.tl_append, TL.tl_append, TL.tl_append, TL.tl_append, TL.tl_append, bar_S, code_S.2.2.1, code_S.2.2.2.1]
  show [124] ++ TL.tl (spaces i.toNat) ++ [60] ++ TL.tl n ++ [62] = 124 :: (TL.tl (spaces i.toNat) ++ ([60] ++ TL.tl n ++ [62]))
  simp
theorem lead_brk (k : Nat) (n : Str) : lead (spaces k ++ brk n) = k := by
  have h := len_lst (spaces k ++ brk n)
  rw [lst_brk, len_app, len_sp] at h
  omega
theorem sign10 : nameSign 10 = false := by decide +kernel
theorem name10 {n : Str} (h : isName n = true) : 10 ∉ TL.tl n := fun z => by
  have := (isName_len h).2.2 10 z
  rw [sign10] at this
  cases this
theorem no10 {l : Ln} (h : LnR l) : 10 ∉ TL.tl (wrL l) := by
  cases l with
  | head n =>
    rw [tl_head]
    intro z
    rcases List.mem_cons.mp z with z | z
    · exact absurd z (by decide)
    · rcases List.mem_cons.mp z with z | z
      · exact absurd z (by decide)
      · exact name10 h z
  | use i n =>
    rw [tl_use, TL.tl_append]
    intro z
    rcases List.mem_cons.mp z with z | z
    · exact absurd z (by decide)
    · rcases List.mem_append.mp z with z | z
      · exact absurd (List.eq_of_mem_replicate z) (by decide)
      · rcases List.mem_append.mp z with z | z
        · rcases List.mem_cons.mp z with z | z
          · exact absurd z (by decide)
          · exact name10 h.2 z
        · exact absurd (List.mem_singleton.mp z) (by decide)
  | code t =>
    rw [tl_code]
    intro z
    rcases List.mem_cons.mp z with z | z
    · exact absurd z (by decide)
    · exact h.2 z
  | prose t => exact h.1
theorem split_wr {d : List Ln} (hne : d ≠ []) (h : ∀ l ∈ d, LnR l) : Txt.split (wrD d) (Str.ofString "\n") = d.map wrL := by
  have e : TL.tl (Str.ofString "\n") = 10 :: [] := by rw [code_S.2.2.2.2.2]
  unfold wrD
  refine TL.split_join e (by decide +kernel) (fun z => hne (List.map_eq_nil_iff.mp z)) fun p hp => ?_
  obtain ⟨l, hl, rfl⟩ := List.mem_map.mp hp
  exact no10 (h l hl)
end Wf

end
section
set_option maxHeartbeats 4000000
/-! W34: head_fault, read_line. -/
namespace Wf
open PySem PySem.Spec PyProof.Rows L2 Wr GxR Wg
abbrev s34 : Stmt := topS 34
theorem sc34 : FnScope ["text", "name", "at", "sign"] ["text"] (defScope s34) := ⟨rfl, rfl, rfl, by decide +kernel, rfl, by decide +kernel, by decide +kernel⟩
def sp34 : Sp := fun vs H Q _ => ∃ (n : Str), vs = [.str (wrL (.head n))] ∧ isName n = true ∧ ∀ H', Same H H' → Q .non H'
theorem str_ne {a b : Str} (h : a ≠ b) : ¬ (V.str a = V.str b) := fun z => h (V.str.inj z)
section
variable {P : Program} {w : World} {K : PySem.W.Frag} {mg : Str → Option Value} {base : Heap} {e : Es}
theorem ok34 (T : Tx K mg) : Has P w K mg base CX0 2 "head_fault" ["text"] sp34 := by
  obtain ⟨f, fd, F, g⟩ := T.df 20 _ rfl
  obtain ⟨tk2, hnm⟩ := T.nmost
  refine ⟨f, fd, ?_, g, F.kp, F.binds fun _ _ _ _ _ _ us hl => match us, hl with | [_], _ => rfl⟩
  refine Fun.ok F sc34 (fun vs H Q E h => ?_) (fun cdv A outer s H vs Q E hr h => ?_)
  · obtain ⟨a, rfl, _⟩ := h
    rfl
  · obtain ⟨n, rfl, hn, q⟩ := h
    obtain ⟨n1, n2, n3⟩ := isName_len hn
    refine ⟨_, pss_cons (ps_if (pt_cmpR op_ne (pe_slice sl_str (pv 0) (po_some pe_int) (po_some pe_int)) pe_str (nomark _)) (pss_one (ps_ret (pe_tup (pa_cons pe_int (pa_cons pe_str pa_nil))))) pss_nil)
      (pss_cons (ps_set (i := 1) sc34.nd rfl (.inl rfl) (pe_slice sl_str (pv 0) (po_some pe_int) po_none))
      (pss_cons (ps_if (pt_cmpR op_eq (pv 1) pe_str (nomark _)) (pss_one (ps_ret (pe_tup (pa_cons pe_int (pa_cons pe_str pa_nil))))) pss_nil)
      (pss_cons (ps_for PassesOwn.never rfl (pi_enumS (by rfl) T.enm (pa_cons (pv 1) pa_nil)) (pg_tup rfl (pgs_cons (pg_name (i := 2) sc34.nd rfl (.inl rfl)) (pgs_cons (pg_name (i := 3) sc34.nd rfl (.inl rfl)) pgs_nil)))
        (pss_cons (ps_if (pt_not (pt_val (pe_has (ok31 T) hr (by rfl) (pa_cons (pv 3) pa_nil)))) (pss_one (ps_ret (pe_tup (pa_cons (pe_op op_add (pv 2) pe_int) (pa_cons pe_str pa_nil))))) pss_nil)
        (pss_one (ps_if (pt_cmpR op_eq (pv 2) (pe_glob (v := .int 20) (by rfl) hnm ⟨_, rfl⟩) (nomark _)) (pss_one (ps_ret (pe_tup (pa_cons (pe_op op_add (pv 2) pe_int) (pa_cons pe_str pa_nil))))) pss_nil))))
      (pss_one (ps_ret pe_non))))), ?_⟩
    have ht := tl_head n
    have hl : (wrL (.head n)).length ≤ 1000 := by rw [TL.len_tl, ht, List.length_cons, List.length_cons, ← TL.len_tl]; omega
    refine ⟨_, rfl, _, rfl, _, rfl, _, rfl, lim_line (by omega), rfl, _, rfl, ?_⟩
    rw [mid2_of ht]
    refine ifNN (by decide +kernel) ?_
    refine ⟨_, rfl, _, rfl, _, rfl, lim_line (by omega), ?_⟩
    rw [rest2_of ht, S_tl]
    refine ⟨_, rfl, rfl, _, rfl, ?_⟩
    refine ifN (fun z => ?_) ?_
    · have := (str_eq_mt n).mp z
      rw [eq_mt] at this
      omega
    refine ⟨_, rfl, n, rfl, ?_⟩
    refine for_it walk_enumS (fun i σ H2 => ∃ y2 y3, σ = [some (.str (wrL (.head n))), some (.str n), y2, y3] ∧ Same H H2)
      ⟨none, none, rfl, Same.refl _⟩ (fun _ _ _ _ _ => trivial) ?_ ?_
    · rintro i x σ H2 H3 hi ⟨y2, y3, rfl, s2⟩ ⟨T1, c, rfl, nT, rfl, hc⟩
      have s3 := same_upd (o := .tup [.int (i : Nat), .str ⟨#[c]⟩]) nT
      have hcm : c ∈ TL.tl n := by
        have : n.cps.toList[i]? = some c := by rw [Array.getElem?_toList]; exact hc
        exact List.mem_of_getElem? this
      refine ⟨T1, _, rfl, .of upd_same, rfl, _, _, rfl, _, _, rfl, rfl, ?_⟩
      refine ⟨_, rfl, c, rfl, ⟨_, rfl, ?_⟩⟩
      rw [n3 c hcm]
      show if (!true) = true then _ else _
      rw [if_neg (by decide)]
      refine ⟨_, rfl, rfl, _, rfl, ?_⟩
      have hlen : n.cps.size = n.length := rfl
      refine ifN (fun z => ?_) ⟨_, _, rfl, s2.trans s3⟩
      have := V.int.inj z
      omega
    · rintro σ H2 ⟨y2, y3, rfl, s2⟩
      exact q H2 s2
end
/-! ### read_line -/
abbrev s35 : Stmt := topS 35
theorem sc35 : FnScope ["text", "use"] ["text"] (defScope s35) := ⟨rfl, rfl, rfl, by decide +kernel, rfl, by decide +kernel, by decide +kernel⟩
def sp35 (e : Es) : Sp := fun vs H Q _ => ∃ (l : Ln), vs = [.str (wrL l)] ∧ Tabs e H ∧ LnR l ∧ Sml 20000 l ∧ ∀ H' r, Ke e H H' → At H' r l → Q (.ref r) H'
theorem cut1_ne {t : Str} {x : String} (h : first1 t ≠ Str.ofString x) : ¬ (V.str (cutS t none (some 1)) = V.str (Str.ofString x)) := fun z => h (V.str.inj z)
section
variable {P : Program} {w : World} {K : PySem.W.Frag} {mg : Str → Option Value} {base : Heap} {e : Es}
theorem ok35 (T : Ty P K mg base e) : Has P w K mg base CX0 4 "read_line" ["text"] (sp35 e) := by
  obtain ⟨f, fd, F, g⟩ := T.df 21 _ rfl
  refine ⟨f, fd, ?_, g, F.kp, F.binds fun _ _ _ _ _ _ us hl => match us, hl with | [_], _ => rfl⟩
  refine Fun.ok F sc35 (fun vs H Q E h => ?_) (fun cdv A outer s H vs Q E hr h => ?_)
  · obtain ⟨a, rfl, _⟩ := h
    rfl
  · obtain ⟨l, rfl, ht, hl, hs, q⟩ := h
    refine ⟨_, pss_cons (ps_if (pt_cmpR op_eq (pe_slice sl_str (pv 0) po_none (po_some pe_int)) pe_str (nomark _)) (pss_one (ps_ret (pe_tup (pa_cons pe_str (pa_cons (pe_slice sl_str (pv 0) (po_some pe_int) po_none) pa_nil))))) pss_nil)
      (pss_cons (ps_if (pt_cmpR op_ne (pe_slice sl_str (pv 0) po_none (po_some pe_int)) pe_str (nomark _)) (pss_one (ps_ret (pe_tup (pa_cons pe_str (pa_cons (pv 0) pa_nil))))) pss_nil)
      (pss_cons (ps_set (i := 1) sc35.nd rfl (.inl rfl) (pe_has (ok33 T) hr (by rfl) (pa_cons (pe_slice sl_str (pv 0) (po_some pe_int) po_none) pa_nil)))
      (pss_cons (ps_if (pt_cmp (pc_notN (pv 1))) (pss_one (ps_ret (pv 1))) pss_nil)
      (pss_one (ps_ret (pe_tup (pa_cons pe_str (pa_cons (pe_slice sl_str (pv 0) (po_some pe_int) po_none) pa_nil)))))))), ?_⟩
    have hw := wr_len hs
    refine ⟨_, rfl, _, rfl, _, rfl, lim_line (by omega), rfl, _, rfl, ?_⟩
    have nE : (S [124] : Str) ≠ Str.ofString "=" := by decide +kernel
    cases l with
    | head n =>
      have h0 : first1 (wrL (.head n)) = Str.ofString "=" := by rw [first_of (tl_head n)]; decide +kernel
      refine ifY (congrArg V.str h0) ?_
      refine ⟨_, rfl, _, rfl, _, rfl, lim_line (by omega), by show 2 ≤ sizeLine; decide, fun r nr => ?_⟩
      refine q _ r (Ke.of (same_upd nr)) ?_
      show upd H r (.tup [.str "head", .str (cutS (wrL (.head n)) (some 2) none)]) r = some (.tup [.str "head", .str n])
      rw [rest2_of (tl_head n), S_tl]
      exact upd_same
    | prose t =>
      refine ifN (cut1_ne hl.2.1) ?_
      refine ⟨_, rfl, _, rfl, _, rfl, lim_line (by omega), rfl, _, rfl, ?_⟩
      refine ifNY (cut1_ne hl.2.2) ?_
      refine ⟨_, rfl, by show 2 ≤ sizeLine; decide, fun r nr => ?_⟩
      exact q _ r (Ke.of (same_upd nr)) upd_same
    | use i n =>
      have ht2 := tl_use i n
      have f1 := first_of ht2
      have g1 := rest_of ht2
      rw [S_tl] at g1
      refine ifN (cut1_ne (by rw [f1]; exact nE)) ?_
      refine ⟨_, rfl, _, rfl, _, rfl, lim_line (by omega), rfl, _, rfl, ?_⟩
      refine ifNN (congrArg V.str (show first1 (wrL (.use i n)) = Str.ofString "|" by rw [f1, bar_S])) ?_
      have hlc : (spaces i.toNat ++ brk n).length ≤ 1000000 := by
        have h3 : (wrL (.use i n)).length = (spaces i.toNat ++ brk n).length + 1 := by rw [TL.len_tl, ht2, List.length_cons, ← TL.len_tl]
        omega
      obtain ⟨u1, u2⟩ := useR_brk hl.2
      refine ⟨_, rfl, _, rfl, _, rfl, lim_line (by omega), ?_⟩
      rw [g1]
      refine ⟨_, rfl, ht, hlc, fun H1 r k1 _ hat => ?_, fun H1 k1 hf => ?_⟩
      · refine ⟨_, rfl, ⟨_, rfl, ?_⟩⟩
        refine ifNY (fun z => by cases z) ?_
        refine ⟨_, rfl, q H1 r k1 ?_⟩
        rw [lead_brk, lst_brk, u2, show ((i.toNat : Nat) : Int) = i by have := hl.1; omega] at hat
        exact hat
      · rw [lst_brk, u1] at hf
        cases hf
    | code t =>
      have ht2 := tl_code t
      have f1 := first_of ht2
      have g1 := rest_of ht2
      rw [S_tl] at g1
      refine ifN (cut1_ne (by rw [f1]; exact nE)) ?_
      refine ⟨_, rfl, _, rfl, _, rfl, lim_line (by omega), rfl, _, rfl, ?_⟩
      refine ifNN (congrArg V.str (show first1 (wrL (.code t)) = Str.ofString "|" by rw [f1, bar_S])) ?_
      have hlc : t.length ≤ 20000 := hs
      refine ⟨_, rfl, _, rfl, _, rfl, lim_line (by omega), ?_⟩
      rw [g1]
      refine ⟨_, rfl, ht, by omega, fun H1 r k1 hu hat => ?_, fun H1 k1 hf => ?_⟩
      · rw [hl.1] at hu
        cases hu
      · refine ⟨_, rfl, ⟨_, rfl, ?_⟩⟩
        refine ifNN rfl ?_
        refine ⟨_, rfl, _, rfl, _, rfl, lim_line (by omega), by show 2 ≤ sizeLine; decide, fun r nr => ?_⟩
        refine q _ r (k1.trans (Ke.of (same_upd nr))) ?_
        show upd H1 r (.tup [.str "code", .str (cutS (wrL (.code t)) (some 1) none)]) r = some (.tup [.str "code", .str t])
        rw [g1]
        exact upd_same
end
end Wf

end
section
set_option maxHeartbeats 4000000
/-! W36: read. -/
namespace Wf
open PySem PySem.Spec PyProof.Rows L2 Wr GxR Wg
/-- all but what stands at o, and the tables -/
structure KeO (e : Es) (o : Addr) (H H' : Hp) : Prop where
  k : ∀ b x, b ≠ o → H b = some x → (∀ ps, x ≠ .tbl ps) → H' b = some x
  t : Tabs e H → Tabs e H'
theorem KeO.of {e : Es} {o : Addr} {H H' : Hp} (h : Ke e H H') : KeO e o H H' := ⟨fun b x _ hb n => h.k b x hb n, h.t⟩
theorem KeO.trans {e : Es} {o : Addr} {H H1 H2 : Hp} (a : KeO e o H H1) (b : KeO e o H1 H2) : KeO e o H H2 := ⟨fun c x hc h n => b.k c x hc (a.k c x hc h n) n, fun h => b.t (a.t h)⟩
theorem KeO.wr {e : Es} {o : Addr} {H : Hp} {xs : List V} {x : HO} (ho : H o = some (.lst xs)) : KeO e o H (upd H o x) := by
  refine ⟨fun b y hb h _ => by rw [upd_ne hb]; exact h, fun ht => ?_⟩
  have g : ∀ t, TabG H t → TabG (upd H o x) t := fun t ⟨ps, a, b⟩ => ⟨ps, by rw [upd_ne (fun z => by rw [z, ho] at a; cases a)]; exact a, b⟩
  exact ⟨g _ ht.1, g _ ht.2.1, g _ ht.2.2⟩
theorem KeO.ke {e : Es} {o : Addr} {H H0 H1 : Hp} (s : Ke e H H0) (no : H o = none) (k : KeO e o H0 H1) : Ke e H H1 := ⟨fun b x h n => k.k b x (ne_of_none h no) (s.k b x h n) n, fun h => k.t (s.t h)⟩
theorem At.keO {e : Es} {o p : Addr} {H H' : Hp} {l : Ln} {xs : List V} (h : At H p l) (k : KeO e o H H') (ho : H o = some (.lst xs)) : At H' p l := k.k _ _ (h.ne ho) h (fun _ z => by cases z)
theorem cu_take {d : List Ln} {i : Nat} {l : Ln} (h : d[i]? = some l) : cu none (d.take (i + 1)) = cu (cu none (d.take i)) [l] := by
  rw [List.take_add_one, h, cu_app]
  rfl
theorem okd_own_at {d : List Ln} (ok : okd none d) {i : Nat} {l : Ln} (h : d[i]? = some l) (ho : l.own = true) : (cu none (d.take i)).isSome = true := by
  have hlt : i < d.length := (List.getElem?_eq_some_iff.mp h).1
  have e : d = d.take i ++ (l :: d.drop (i + 1)) := by
    conv => lhs; rw [← List.take_append_drop i d]
    rw [List.drop_eq_getElem_cons hlt]
    congr 2
    exact Option.some.inj ((List.getElem?_eq_getElem hlt).symm.trans h)
  rw [e, okd_app] at ok
  have := ok.2
  cases l with
  | prose t => cases ho
  | head t => cases ho
  | use j m =>
    have h1 : cu none (d.take i) ≠ none := this.1
    cases z : cu none (d.take i) with
    | none => exact absurd z h1
    | some n => rfl
  | code t =>
    have h1 : cu none (d.take i) ≠ none := this.1
    cases z : cu none (d.take i) with
    | none => exact absurd z h1
    | some n => rfl
abbrev s36 : Stmt := topS 36
abbrev n36 : List Str := ["text", "document", "in_section", "number", "line", "fault"]
theorem sc36 : FnScope n36 ["text"] (defScope s36) := ⟨rfl, rfl, rfl, by decide +kernel, rfl, by decide +kernel, by decide +kernel⟩
def sp36 (e : Es) : Sp := fun vs H Q _ => ∃ (d : List Ln), vs = [.str (wrD d)] ∧ Tabs e H ∧ d ≠ [] ∧ d.length ≤ 300 ∧ okd none d ∧ (∀ l ∈ d, LnR l ∧ Sml 20000 l) ∧ ∀ H' p, Ke e H H' → DocAt H' p d → Q (.ref p) H'
theorem first_wr {l : Ln} (h : LnR l) : (first1 (wrL l) = Str.ofString "=" ↔ ∃ n, l = .head n) ∧ (first1 (wrL l) = Str.ofString "|" ↔ l.own = true) := by
  have n1 : ¬ (S [61] : Str) = Str.ofString "|" := by decide +kernel
  have n2 : ¬ (S [124] : Str) = Str.ofString "=" := by decide +kernel
  cases l with
  | head n =>
    rw [first_of (tl_head n)]
    exact ⟨⟨fun _ => ⟨n, rfl⟩, fun _ => by decide +kernel⟩, ⟨fun z => absurd z n1, fun z => by cases z⟩⟩
  | use i n =>
    rw [first_of (tl_use i n)]
    exact ⟨⟨fun z => absurd z n2, fun ⟨_, z⟩ => by cases z⟩, ⟨fun _ => rfl, fun _ => by decide +kernel⟩⟩
  | code t =>
    rw [first_of (tl_code t)]
    exact ⟨⟨fun z => absurd z n2, fun ⟨_, z⟩ => by cases z⟩, ⟨fun _ => rfl, fun _ => by decide +kernel⟩⟩
  | prose t => exact ⟨⟨fun z => absurd z h.2.1, fun ⟨_, z⟩ => by cases z⟩, ⟨fun z => absurd z h.2.2, fun z => by cases z⟩⟩
section
variable {P : Program} {w : World} {K : PySem.W.Frag} {mg : Str → Option Value} {base : Heap} {e : Es}
theorem ok36 (T : Ty P K mg base e) : Has P w K mg base CX0 5 "read" ["text"] (sp36 e) := by
  obtain ⟨f, fd, F, g⟩ := T.df 22 _ rfl
  refine ⟨f, fd, ?_, g, F.kp, F.binds fun _ _ _ _ _ _ us hl => match us, hl with | [_], _ => rfl⟩
  refine Fun.ok F sc36 (fun vs H Q E h => ?_) (fun cdv A outer s H vs Q E hr h => ?_)
  · obtain ⟨a, rfl, _⟩ := h
    rfl
  · obtain ⟨d, rfl, ht, hne, hlen, okD, hl, q⟩ := h
    refine ⟨_, pss_cons (ps_set (i := 1) sc36.nd rfl (.inl rfl) (pe_lst pa_nil))
      (pss_cons (ps_set (i := 2) sc36.nd rfl (.inl rfl) pe_bl)
      (pss_cons (ps_for PassesOwn.never rfl (pi_enum (by rfl) T.enm (pa_cons (pe_split (pv 0) pe_str) pa_nil)) (pg_tup rfl (pgs_cons (pg_name (i := 3) sc36.nd rfl (.inl rfl)) (pgs_cons (pg_name (i := 4) sc36.nd rfl (.inl rfl)) pgs_nil)))
        (pss_cons (ps_if (pt_cmpR op_eq (pe_slice sl_str (pv 4) po_none (po_some pe_int)) pe_str (nomark _))
            (pss_cons (ps_set (i := 5) sc36.nd rfl (.inl rfl) (pe_has (ok34 T.toTx) hr (by rfl) (pa_cons (pv 4) pa_nil)))
            (pss_cons (ps_if (pt_cmp (pc_notN (pv 5))) (pss_one ps_never) pss_nil)
            (pss_one (ps_set (i := 2) sc36.nd rfl (.inl rfl) pe_bl))))
            (pss_one (ps_if (pt_cmpR op_ne (pe_slice sl_str (pv 4) po_none (po_some pe_int)) pe_str (nomark _)) (pss_one (ps_set (i := 2) sc36.nd rfl (.inl rfl) pe_bl))
              (pss_one (ps_if (pt_not (pt_val (pv 2))) (pss_one ps_never) pss_nil)))))
        (pss_one (ps_expr (pe_bm PySem.F.plainAttrs_list PySem.F.slot_list_append PySem.F.type_list_append mt_append (pv 1) (pa_cons (pe_has (ok35 T) hr (by rfl) (pa_cons (pv 4) pa_nil)) pa_nil))))))
      (pss_one (ps_ret (pe_callTy call_tuple_of (by rfl) T.tup (by decide +kernel) (pa_cons (pv 1) pa_nil)))))), ?_⟩
    refine ⟨Nat.zero_le _, fun o no => ?_⟩
    have s0 := same_upd (o := .lst []) no
    have hsum := wr_sum fun l hl' => (hl l hl').2
    have hwl : (wrD d).length ≤ 7000000 := by
      unfold wrD
      rw [TL.join_eq]
      refine Nat.le_trans (StrLaws.join_length_le _ _) ?_
      have e2 : (Str.ofString "\n").length = 1 := by decide +kernel
      rw [e2, List.length_map]
      omega
    refine ⟨_, rfl, ⟨_, rfl⟩, _, _, rfl, rfl, by decide +kernel, ?_, fun pl npl => ?_⟩
    · exact Nat.le_trans (show (wrD d).length + 2 ≤ 8000000 by omega) (by decide)
    have s1 := same_upd (o := .lst ((Txt.split (wrD d) (Str.ofString "\n")).map V.str)) npl
    have hpl : upd (upd H o (.lst [])) pl (.lst ((Txt.split (wrD d) (Str.ofString "\n")).map V.str)) pl = some (.lst ((Txt.split (wrD d) (Str.ofString "\n")).map V.str)) := upd_same
    rw [split_wr hne fun l hl' => (hl l hl').1] at s1 hpl ⊢
    have ho1 : upd (upd H o (.lst [])) pl (.lst ((d.map wrL).map V.str)) o = some (.lst []) := s1 _ _ upd_same
    have npo : pl ≠ o := fun z => by rw [z, upd_same] at npl; cases npl
    generalize hH1 : upd (upd H o (.lst [])) pl (.lst ((d.map wrL).map V.str)) = H1 at *
    have hll : ((d.map wrL).map V.str).length = d.length := by rw [List.length_map, List.length_map]
    refine ⟨pl, _, rfl, .of hpl, ?_⟩
    refine for_it walk_enum (fun i σ H2 => ∃ y3 y4 y5 ls, σ = [some (.str (wrD d)), some (.ref o), some (.bl (cu none (d.take i)).isSome), y3, y4, y5] ∧ KeO e o H1 H2 ∧ H2 o = some (.lst (ls.map V.ref)) ∧ Paired (At H2) ls (d.take i))
      ⟨none, none, none, [], rfl, KeO.of (Ke.refl _ _), ho1, .nil⟩ (fun i σ H2 _ ⟨_, _, _, _, _, k, _⟩ => .of (k.k _ _ npo hpl (fun _ z => by cases z))) ?_ ?_
    · rintro i x σ H2 H3 hi ⟨y3, y4, y5, ls, rfl, k, ho, hls⟩ ⟨T1, x1, x2, rfl, nT, rfl, e1, e2⟩
      cases e1
      rw [hll] at hi
      have hdl : d[i]? = some d[i] := List.getElem?_eq_getElem hi
      have ex2 : x2 = .str (wrL d[i]) := by
        have e2' : ((d.map wrL).map V.str)[i]? = some x2 := e2
        rw [List.getElem?_map, List.getElem?_map, hdl] at e2'
        exact (Option.some.inj e2').symm
      subst ex2
      have s3 := same_upd (o := .tup [.int (i : Nat), .str (wrL d[i])]) nT
      obtain ⟨hr1, hs1⟩ := hl d[i] (List.getElem_mem hi)
      obtain ⟨f1, f2⟩ := first_wr hr1
      have hw := wr_len hs1
      have hT : upd H2 T1 (.tup [.int (i : Nat), .str (wrL d[i])]) T1 = some (.tup [.int (i : Nat), .str (wrL d[i])]) := upd_same
      have k3 := k.trans (KeO.of (o := o) (Ke.of s3))
      have ho3 := s3 _ _ ho
      have hls3 : Paired (At (upd H2 T1 (.tup [.int (i : Nat), .str (wrL d[i])]))) ls (d.take i) := Paired.mono (fun _ _ z => s3 _ _ z) hls
      generalize upd H2 T1 (.tup [.int (i : Nat), .str (wrL d[i])]) = H4 at *
      have hln : (ls.map V.ref).length < sizeLine := by
        rw [List.length_map, hls.length, List.length_take]
        exact small7 (by omega)
      have ht4 : Tabs e H4 := k3.t (by
        rw [← hH1]
        exact (ht.same s0).same (same_upd npl))
      have fin : ∀ (H5 H6 : Hp) (r : Addr) (b : Bool) (y3 y4 y5 : Option V), Same H4 H5 → Ke e H5 H6 → At H6 r d[i] → b = (cu none (d.take (i + 1))).isSome → ∃ z3 z4 z5 ls', [some (V.str (wrD d)), some (.ref o), some (.bl b), y3, y4, y5] = [some (.str (wrD d)), some (.ref o), some (.bl (cu none (d.take (i + 1))).isSome), z3, z4, z5] ∧ KeO e o H1 (upd H6 o (.lst (ls.map V.ref ++ [V.ref r]))) ∧ upd H6 o (.lst (ls.map V.ref ++ [V.ref r])) o = some (.lst (ls'.map V.ref)) ∧ Paired (At (upd H6 o (.lst (ls.map V.ref ++ [V.ref r])))) ls' (d.take (i + 1)) := fun H5 H6 r b y3 y4 y5 s5 k6 hr hb => by
        have k46 := (Ke.of (e := e) s5).trans k6
        have ho6 := k46.k _ _ ho3 (fun _ z => by cases z)
        refine ⟨_, _, _, ls ++ [r], by rw [hb], (k3.trans (KeO.of k46)).trans (KeO.wr ho6), by rw [upd_same, List.map_append]; rfl, ?_⟩
        rw [List.take_add_one, hdl]
        exact Paired.snoc' (Paired.mono (fun _ _ z => At.wr (show At H6 _ _ from k46.kt _ _ z) ho6) hls3) (hr.wr ho6)
      refine ⟨T1, _, rfl, .of hT, rfl, _, _, rfl, _, _, rfl, rfl, ?_⟩
      refine ⟨_, rfl, _, rfl, _, rfl, lim_line (by omega), rfl, _, rfl, ?_⟩
      refine if2 (fun h1 => ?_) (fun h1 => ?_)
      · obtain ⟨n, hn⟩ := f1.mp (V.str.inj h1)
        have hnn : isName n = true := by rw [hn] at hr1; exact hr1
        refine ⟨_, rfl, n, congrArg (fun l => [V.str (wrL l)]) hn, hnn, fun H5 s5 => ⟨_, rfl, ⟨_, rfl, ?_⟩⟩⟩
        refine ifNN rfl ?_
        refine ⟨_, rfl, .inl ⟨rfl, _, .of (s5 _ _ ho3)⟩, _, rfl, d[i], rfl, ht4.same s5, hr1, hs1, fun H6 r k6 hr6 => ⟨o, _, _, rfl, rfl, k6.k _ _ (s5 _ _ ho3) (fun _ z => by cases z), hln, ?_⟩⟩
        refine fin H5 H6 r true _ _ _ s5 k6 hr6 ?_
        rw [cu_take hdl, hn]
        rfl
      · have hnh : ∀ n, d[i] ≠ .head n := fun n z => h1 (congrArg V.str (f1.mpr ⟨n, z⟩))
        refine ⟨_, rfl, _, rfl, _, rfl, lim_line (by omega), rfl, _, rfl, ?_⟩
        refine ifN2 (fun h2 => ?_) (fun h2 => ?_)
        · have hno : d[i].own = false := by
            cases z : d[i].own with
            | false => rfl
            | true => exact absurd (congrArg V.str (f2.mpr z)) h2
          refine ⟨_, rfl, .inl ⟨rfl, _, .of ho3⟩, _, rfl, d[i], rfl, ht4, hr1, hs1, fun H6 r k6 hr6 => ⟨o, _, _, rfl, rfl, k6.k _ _ ho3 (fun _ z => by cases z), hln, ?_⟩⟩
          refine fin H4 H6 r false _ _ _ (Same.refl _) k6 hr6 ?_
          rw [cu_take hdl]
          cases z : d[i] with
          | head n => exact absurd z (hnh n)
          | prose t => rfl
          | use j m => rw [z] at hno; cases hno
          | code t => rw [z] at hno; cases hno
        · have hown := f2.mp (V.str.inj h2)
          have hop := okd_own_at okD hdl hown
          refine ⟨_, rfl, ⟨_, rfl, ?_⟩⟩
          rw [hop]
          show if (!true) = true then _ else _
          rw [if_neg (by decide)]
          refine ⟨_, rfl, .inl ⟨rfl, _, .of ho3⟩, _, rfl, d[i], rfl, ht4, hr1, hs1, fun H6 r k6 hr6 => ⟨o, _, _, rfl, rfl, k6.k _ _ ho3 (fun _ z => by cases z), hln, ?_⟩⟩
          refine fin H4 H6 r true _ _ _ (Same.refl _) k6 hr6 ?_
          rw [cu_take hdl]
          cases z : d[i] with
          | head n => exact absurd z (hnh n)
          | prose t => rw [z] at hown; cases hown
          | use j m => exact hop.symm
          | code t => exact hop.symm
    · rintro σ H2 ⟨y3, y4, y5, ls, rfl, k, ho, hls⟩
      have e1 : d.take ((d.map wrL).map V.str).length = d := by rw [hll, List.take_length]
      rw [e1] at hls
      have k2 : Ke e H H2 := by
        refine KeO.ke (H0 := H1) ⟨fun b x hb _ => ?_, fun h => ?_⟩ no k
        · rw [← hH1]
          exact same_upd npl _ _ (s0 _ _ hb)
        · rw [← hH1]
          exact (h.same s0).same (same_upd npl)
      refine ⟨_, rfl, o, _, rfl, .inl ⟨.of ho, fun r nr => ?_⟩⟩
      exact q _ r (k2.trans (Ke.of (same_upd nr))) ⟨ls, upd_same, Paired.mono (fun _ _ z => same_upd nr _ _ z) hls⟩
end
end Wf

end
section

/-! WM5: what a walk through the references tells. -/
namespace Wf
open PySem PySem.Spec PyProof.Rows L2
section
variable {d : List Ln}
def Conv (d : List Ln) (n : Str) : Prop := ∃ k ts, ev (body d) k n = .ok ts
abbrev it (d : List Ln) (n : Str) : List Ln := its n none d
theorem body_some {n : Str} (h : Ln.head n ∈ d) : body d n = some (it d n) := by unfold body; rw [if_pos h]
theorem body_none {n : Str} (h : ¬ Ln.head n ∈ d) : body d n = none := by unfold body; rw [if_neg h]
theorem ev_S {n : Str} (h : Ln.head n ∈ d) (k : Nat) : ev (body d) (k + 1) n = evs (ev (body d) k) (it d n) := by
  show (match body d n with | none => R.miss | some ls => evs (ev (body d) k) ls) = _
  rw [body_some h]
/-- fuel enough for all references of a list -/
theorem conv_list : ∀ ls : List Ln, (∀ i m, Ln.use i m ∈ ls → Conv d m) → ∃ K ts, evs (ev (body d) K) ls = .ok ts
  | [], _ => ⟨0, [], rfl⟩
  | l :: r, h => by
    obtain ⟨K, ts, e⟩ := conv_list r fun i m hm => h i m (List.mem_cons_of_mem _ hm)
    cases l with
    | code t => exact ⟨K, _, by show (R.ok [t]).seq (evs _ r) = _; rw [e]; rfl⟩
    | head t => exact ⟨K, ts, e⟩
    | prose t => exact ⟨K, ts, e⟩
    | use i m =>
      obtain ⟨k, us, e2⟩ := h i m (by simp)
      have h1 : evs (ev (body d) (max K k)) r = .ok ts := le_eq (evs_mono _ (Nat.le_max_left _ _) r) e (by intro z; cases z)
      have h2 : ev (body d) (max K k) m = .ok us := le_eq (ev_mono _ (Nat.le_max_right _ _) m) e2 (by intro z; cases z)
      refine ⟨max K k, us.map (shT i) ++ ts, ?_⟩
      show ((ev (body d) (max K k) m).sh i).seq (evs _ r) = _
      rw [h1, h2]
      rfl
theorem conv_of {n : Str} (h : Ln.head n ∈ d) (hc : ∀ i m, Ln.use i m ∈ it d n → Conv d m) : Conv d n := by
  obtain ⟨K, ts, e⟩ := conv_list (it d n) hc
  exact ⟨K + 1, ts, by rw [ev_S h, e]⟩
/-- for any fuel: out, or told -/
theorem conv_any : ∀ ls : List Ln, (∀ i m, Ln.use i m ∈ ls → Conv d m) → ∀ k, evs (ev (body d) k) ls = .out ∨ ∃ ts, evs (ev (body d) k) ls = .ok ts := fun ls h k => by
  obtain ⟨K, ts, e⟩ := conv_list ls h
  rcases evs_mono (body d) (Nat.le_max_left k K) ls with z | z
  · exact .inl z
  · refine .inr ⟨ts, ?_⟩
    rw [z]
    exact le_eq (evs_mono _ (Nat.le_max_right _ _) ls) e (by intro z; cases z)
def Pre (d : List Ln) (n : Str) (c : Nat) : Prop := ∀ j < c, ∀ i m, (it d n)[j]? = some (.use i m) → Conv d m
theorem pre_take {n : Str} {c : Nat} (h : Pre d n c) : ∀ i m, Ln.use i m ∈ (it d n).take c → Conv d m := fun i m hm => by
  obtain ⟨j, hj, e⟩ := List.getElem_of_mem hm
  have hj2 : j < c := by rw [List.length_take] at hj; omega
  refine h j hj2 i m ?_
  rw [List.getElem_take] at e
  rw [← e]
  exact List.getElem?_eq_getElem _
theorem it_split {n : Str} {c : Nat} {l : Ln} (h : (it d n)[c]? = some l) : it d n = (it d n).take c ++ l :: (it d n).drop (c + 1) := by
  have hlt : c < (it d n).length := (List.getElem?_eq_some_iff.mp h).1
  conv => lhs; rw [← List.take_append_drop c (it d n)]
  rw [List.drop_eq_getElem_cons hlt]
  congr 2
  exact Option.some.inj ((List.getElem?_eq_getElem hlt).symm.trans h)
/-- a reference whose piece has a class of error, behind such as converge -/
theorem miss_up {n m : Str} {c : Nat} {i : Int} (hn : Ln.head n ∈ d) (hp : Pre d n c) (hm : (it d n)[c]? = some (.use i m)) (h : ∃ k, ev (body d) k m = .miss) : ∃ k, ev (body d) k n = .miss := by
  obtain ⟨k, hk⟩ := h
  obtain ⟨K, ts, e⟩ := conv_list _ (pre_take hp)
  have h1 : evs (ev (body d) (max K k)) ((it d n).take c) = .ok ts := le_eq (evs_mono _ (Nat.le_max_left _ _) _) e (by intro z; cases z)
  have h2 : ev (body d) (max K k) m = .miss := le_eq (ev_mono _ (Nat.le_max_right _ _) m) hk (by intro z; cases z)
  refine ⟨max K k + 1, ?_⟩
  rw [ev_S hn, it_split hm, evs_append, h1]
  show (R.ok ts).seq (((ev (body d) (max K k) m).sh i).seq _) = _
  rw [h2]
  rfl
theorem out_up {n m : Str} {c k : Nat} {i : Int} (hn : Ln.head n ∈ d) (hp : Pre d n c) (hm : (it d n)[c]? = some (.use i m)) (h : ev (body d) k m = .out) : ev (body d) (k + 1) n = .out := by
  rw [ev_S hn, it_split hm, evs_append]
  rcases conv_any _ (pre_take hp) k with z | ⟨ts, z⟩
  · rw [z]; rfl
  · rw [z]
    show (R.ok ts).seq (((ev (body d) k m).sh i).seq _) = _
    rw [h]
    rfl
/-- the frames that are walked, the top one first; nx: what the one ahead is asked for -/
def Ch (d : List Ln) (root : Str) : Option Str → List (Str × Nat) → Prop
  | nx, [] => nx = none ∨ nx = some root
  | nx, (n, c) :: r => Ln.head n ∈ d ∧ c ≤ (it d n).length ∧ (match nx with | none => Pre d n c | some m => ∃ c' i, c = c' + 1 ∧ (it d n)[c']? = some (.use i m) ∧ Pre d n c') ∧ Ch d root (some n) r
theorem ch_miss {root m : Str} : ∀ {st : List (Str × Nat)}, Ch d root (some m) st → (∃ k, ev (body d) k m = .miss) → ∃ k, ev (body d) k root = .miss
  | [], h, hm => by
    rcases h with h | h
    · cases h
    · rw [← Option.some.inj h]; exact hm
  | (n, c) :: r, h, hm => by
    obtain ⟨h1, _, ⟨c', i, _, h3, h4⟩, h5⟩ := h
    exact ch_miss h5 (miss_up h1 h4 h3 hm)
/-- all frames' names, m too, go on for ever -/
theorem ch_out {root m : Str} {st : List (Str × Nat)} (h : Ch d root (some m) st) (hm : m ∈ st.map (·.1)) : ∀ k, ∀ n ∈ st.map (·.1), ev (body d) k n = .out := by
  intro k
  induction k with
  | zero => intro n _; rfl
  | succ k ih =>
    have go : ∀ (x : Str) (s : List (Str × Nat)), Ch d root (some x) s → ev (body d) k x = .out → (∀ n ∈ s.map (·.1), ev (body d) k n = .out) → ∀ n ∈ s.map (·.1), ev (body d) (k + 1) n = .out := by
      intro x s
      induction s generalizing x with
      | nil => intro _ _ _ n hn; cases hn
      | cons f r ihs =>
        intro hc hx ha n hn
        obtain ⟨f1, f2⟩ := f
        obtain ⟨h1, _, ⟨c', i, _, h3, h4⟩, h5⟩ := hc
        rcases List.mem_cons.mp hn with z | z
        · rw [z]
          exact out_up h1 h4 h3 hx
        · exact ihs f1 h5 (ha f1 (by simp)) (fun n hn => ha n (List.mem_cons_of_mem _ hn)) n z
    exact go m st h (ih m hm) ih
theorem ch_root {root m : Str} : ∀ {st : List (Str × Nat)} {nx : Option Str}, Ch d root nx st → st ≠ [] → root ∈ st.map (·.1)
  | [], _, _, h => absurd rfl h
  | (n, c) :: r, nx, h, _ => by
    obtain ⟨_, _, _, h5⟩ := h
    cases r with
    | nil =>
      rcases h5 with h5 | h5
      · cases h5
      · rw [Option.some.inj h5]; simp
    | cons f r =>
      have := ch_root (m := m) h5 (by simp)
      exact List.mem_cons_of_mem _ this
/-- a piece is done: it is told; the frame below goes on -/
theorem ch_pop {root n : Str} {c : Nat} {r : List (Str × Nat)} (h : Ch d root none ((n, c) :: r)) (hc : c = (it d n).length) : Conv d n ∧ Ch d root none r := by
  obtain ⟨h1, _, h3, h5⟩ := h
  have hv : Conv d n := by
    refine conv_of h1 fun i m hm => ?_
    obtain ⟨j, hj, e⟩ := List.getElem_of_mem hm
    exact h3 j (by omega) i m (by rw [← e]; exact List.getElem?_eq_getElem _)
  refine ⟨hv, ?_⟩
  cases r with
  | nil => exact .inl rfl
  | cons f r =>
    obtain ⟨f1, f2⟩ := f
    obtain ⟨g1, g2, ⟨c', i, e1, e2, e3⟩, g5⟩ := h5
    refine ⟨g1, g2, ?_, g5⟩
    show Pre d f1 f2
    intro j hj i2 m2 hm2
    by_cases z : j = c'
    · rw [z, e2] at hm2
      cases hm2
      exact hv
    · exact e3 j (by omega) i2 m2 hm2
/-- a line that is no reference, or one that is told already -/
theorem ch_step {root n : Str} {c : Nat} {l : Ln} {r : List (Str × Nat)} (h : Ch d root none ((n, c) :: r)) (hl : (it d n)[c]? = some l) (hc : ∀ i m, l = .use i m → Conv d m) : Ch d root none ((n, c + 1) :: r) := by
  obtain ⟨h1, _, h3, h5⟩ := h
  have hlt : c < (it d n).length := (List.getElem?_eq_some_iff.mp hl).1
  refine ⟨h1, hlt, ?_, h5⟩
  show Pre d n (c + 1)
  intro j hj i m hm
  by_cases z : j = c
  · rw [z, hl] at hm
    exact hc i m (Option.some.inj hm)
  · exact h3 j (by omega) i m hm
theorem ch_ask {root n m : Str} {c : Nat} {i : Int} {r : List (Str × Nat)} (h : Ch d root none ((n, c) :: r)) (hl : (it d n)[c]? = some (.use i m)) : Ch d root (some m) ((n, c + 1) :: r) := by
  obtain ⟨h1, _, h3, h5⟩ := h
  have hlt : c < (it d n).length := (List.getElem?_eq_some_iff.mp hl).1
  exact ⟨h1, hlt, ⟨c, i, rfl, hl, h3⟩, h5⟩
theorem ch_push {root m : Str} {st : List (Str × Nat)} (h : Ch d root (some m) st) (hm : Ln.head m ∈ d) : Ch d root none ((m, 0) :: st) := ⟨hm, Nat.zero_le _, (fun j hj => absurd hj (Nat.not_lt_zero j)), h⟩
theorem ch_first {root : Str} (hm : Ln.head root ∈ d) : Ch d root none [(root, 0)] := ⟨hm, Nat.zero_le _, (fun j hj => absurd hj (Nat.not_lt_zero j)), .inr rfl⟩
/-- all that is told or walked -/
structure Cl (d : List Ln) (root : Str) (order : List Str) (st : List (Str × Nat)) : Prop where
  ch : Ch d root none st
  nd : order.Nodup
  hd : ∀ n ∈ order, Ln.head n ∈ d
  root : root ∈ order
  sub : ∀ f ∈ st, f.1 ∈ order
  fin : ∀ n ∈ order, n ∉ st.map (·.1) → Conv d n
  nds : (st.map (·.1)).Nodup
/-- what is left to be done -/
def mu (d : List Ln) (order : List Str) (st : List (Str × Nat)) : Nat := ((ddp (nms d)).length - order.length) * (d.length + 2) + (st.map fun f => (it d f.1).length - f.2 + 1).sum
theorem it_len (n : Str) : (it d n).length ≤ d.length := by rw [← plc_its_len]; exact plc_length n none 0 d
theorem ord_len (d : List Ln) : (ddp (nms d)).length ≤ d.length := Nat.le_trans (ddp_len _) (by unfold nms; rw [List.length_map]; exact secs_len 0 d)
theorem cl_room {root : Str} {order : List Str} {st : List (Str × Nat)} (h : Cl d root order st) {m : Str} (hm : Ln.head m ∈ d) (ho : m ∉ order) : order.length + 1 ≤ (ddp (nms d)).length := by
  have h1 := nodup_le (m :: order) (ddp (nms d)) (List.nodup_cons.mpr ⟨ho, h.nd⟩) fun x hx => (nms_mem d x).mpr (by
    rcases List.mem_cons.mp hx with z | z
    · rw [z]; exact hm
    · exact h.hd x z)
  exact h1
end
end Wf

end
section
set_option maxHeartbeats 4000000
/-! W15: closure. -/
namespace Wf
open PySem PySem.Spec PyProof.Rows L2 Wr GxR Wg
/-- the lists of the walk -/
structure HS (d : List Ln) (H1 H : Hp) (ao ap al : Addr) (qs : List Addr) (order : List Str) (st : List (Str × Nat)) : Prop where
  s : Same H1 H
  o : H ao = some (.lst (strV order))
  p : H ap = some (.lst (strV (st.reverse.map (·.1))))
  l : H al = some (.lst (qs.map V.ref))
  q : Paired (fun (q : Addr) (f : Str × Nat) => H q = some (.lst (intV ((plc f.1 none 0 d).drop f.2)))) qs st.reverse
  nd : qs.Nodup
  new : ∀ q ∈ qs, H1 q = none ∧ q ≠ ao ∧ q ≠ ap ∧ q ≠ al
theorem Paired.snoc_inv {α β : Type} {F : α → β → Prop} : ∀ {xs : List α} {ys : List β} {y : β}, Paired F xs (ys ++ [y]) → ∃ xs' x, xs = xs' ++ [x] ∧ Paired F xs' ys ∧ F x y
  | _, [], _, .cons r .nil => ⟨[], _, rfl, .nil, r⟩
  | _, _ :: ys, _, .cons r t => by
    obtain ⟨xs', x, e, h1, h2⟩ := Paired.snoc_inv t
    exact ⟨_ :: xs', x, by rw [e]; rfl, .cons r h1, h2⟩
theorem Paired.memL {α β : Type} {F F' : α → β → Prop} : ∀ {xs : List α} {ys : List β}, Paired F xs ys → (∀ x ∈ xs, ∀ y, F x y → F' x y) → Paired F' xs ys
  | _, _, .nil, _ => .nil
  | _, _, .cons r t, h => .cons (h _ (by simp) _ r) (Paired.memL t fun x hx => h x (List.mem_cons_of_mem _ hx))
section
variable {d : List Ln} {H1 H : Hp} {ao ap al : Addr} {qs : List Addr} {order : List Str} {st : List (Str × Nat)} {f : Str × Nat} {r : List (Str × Nat)}
theorem HS.top (h : HS d H1 H ao ap al qs order (f :: r)) : ∃ qs' qt, qs = qs' ++ [qt] ∧ H qt = some (.lst (intV ((plc f.1 none 0 d).drop f.2))) := by
  have := h.q
  rw [List.reverse_cons] at this
  obtain ⟨qs', qt, e, _, h2⟩ := Paired.snoc_inv this
  exact ⟨qs', qt, e, h2⟩
theorem HS.pop (h : HS d H1 H ao ap al qs order (f :: r)) {qs' : List Addr} {qt : Addr} (e : qs = qs' ++ [qt]) (n1 : H1 ap = none) (n2 : H1 al = none) (d1 : ao ≠ ap) (d2 : ao ≠ al) (d3 : ap ≠ al) :
    HS d H1 (upd (upd H ap (.lst (strV ((f :: r).reverse.map (·.1))).dropLast)) al (.lst (qs.map V.ref).dropLast)) ao ap al qs' order r := by
  have hq := h.q
  rw [List.reverse_cons, e] at hq
  obtain ⟨qs2, qt2, e2, h1, h2⟩ := Paired.snoc_inv hq
  obtain ⟨rfl, _⟩ := List.append_inj' e2 rfl
  refine ⟨same_wr (same_wr h.s n1) n2, ?_, ?_, ?_, ?_, ?_, fun q hq => h.new q (by rw [e]; exact List.mem_append_left _ hq)⟩
  · rw [upd_ne d2, upd_ne d1]; exact h.o
  · rw [upd_ne d3, upd_same, List.reverse_cons]
    unfold strV
    rw [List.map_append, List.map_append]
    show some (HO.lst (_ ++ [_]).dropLast) = _
    rw [List.dropLast_concat]
  · rw [upd_same, e, List.map_append]
    show some (HO.lst (_ ++ [_]).dropLast) = _
    rw [List.dropLast_concat]
  · refine Paired.memL h1 fun q hq y hy => ?_
    obtain ⟨_, q1, q2, q3⟩ := h.new q (by rw [e]; exact List.mem_append_left _ hq)
    rw [upd_ne q3, upd_ne q2]
    exact hy
  · have := h.nd
    rw [e] at this
    exact (List.nodup_append.mp this).1
theorem HS.take {c : Nat} {n : Str} (h : HS d H1 H ao ap al qs order ((n, c) :: r)) {qs' : List Addr} {qt : Addr} (e : qs = qs' ++ [qt]) :
    HS d H1 (upd H qt (.lst (intV ((plc n none 0 d).drop (c + 1))))) ao ap al qs order ((n, c + 1) :: r) := by
  obtain ⟨q0, q1, q2, q3⟩ := h.new qt (by rw [e]; simp)
  have hq := h.q
  rw [List.reverse_cons, e] at hq
  obtain ⟨qs2, qt2, e2, h1, h2⟩ := Paired.snoc_inv hq
  obtain ⟨rfl, e3⟩ := List.append_inj' e2 rfl
  cases e3
  have nd := h.nd
  rw [e] at nd
  refine ⟨same_wr h.s q0, by rw [upd_ne q1.symm]; exact h.o, ?_, by rw [upd_ne q3.symm]; exact h.l, ?_, h.nd, h.new⟩
  · rw [upd_ne q2.symm, h.p]
    simp
  · rw [List.reverse_cons, e]
    refine Paired.app (Paired.memL h1 fun q hq y hy => ?_) (.cons upd_same .nil)
    have : q ≠ qt := (List.nodup_append.mp nd).2.2 q hq qt (by simp)
    rw [upd_ne this]
    exact hy
theorem HS.push (h : HS d H1 H ao ap al qs order st) (m : Str) {e : Addr} (n0 : H1 ao = none) (n1 : H1 ap = none) (n2 : H1 al = none) (d1 : ao ≠ ap) (d2 : ao ≠ al) (d3 : ap ≠ al) (he : H e = none) :
    HS d H1 (upd (upd (upd (upd H ao (.lst (strV order ++ [V.str m]))) ap (.lst (strV (st.reverse.map (·.1)) ++ [V.str m]))) e (.lst (intV (plc m none 0 d)))) al (.lst (qs.map V.ref ++ [V.ref e]))) ao ap al (qs ++ [e]) (order ++ [m]) ((m, 0) :: st) := by
  have he1 : H1 e = none := by
    cases z : H1 e with
    | none => rfl
    | some x => have := h.s _ _ z; rw [he] at this; cases this
  have eo : e ≠ ao := fun z => by rw [z, h.o] at he; cases he
  have ep : e ≠ ap := fun z => by rw [z, h.p] at he; cases he
  have el : e ≠ al := fun z => by rw [z, h.l] at he; cases he
  have eq : e ∉ qs := fun z => by
    obtain ⟨y, hy⟩ : ∃ y, H e = some (.lst y) := by
      have hq := h.q
      clear h
      generalize st.reverse = fs at hq
      induction hq with
      | nil => cases z
      | @cons q f qs fs r _ ih =>
        rcases List.mem_cons.mp z with z | z
        · rw [z]; exact ⟨_, r⟩
        · exact ih z
    rw [he] at hy; cases hy
  refine ⟨same_wr (same_wr (same_wr (same_wr h.s n0) n1) he1) n2, ?_, ?_, ?_, ?_, ?_, fun q hq => ?_⟩
  · rw [upd_ne d2, upd_ne eo.symm, upd_ne d1, upd_same]
    unfold strV
    rw [List.map_append]; rfl
  · rw [upd_ne d3, upd_ne ep.symm, upd_same, List.reverse_cons]
    unfold strV
    simp
  · rw [upd_same, List.map_append]; rfl
  · rw [List.reverse_cons]
    refine Paired.app (Paired.memL h.q fun q hq y hy => ?_) (.cons ?_ .nil)
    · obtain ⟨_, q1, q2, q3⟩ := h.new q hq
      rw [upd_ne q3, upd_ne (fun z => eq (by rw [← z]; exact hq)), upd_ne q2, upd_ne q1]
      exact hy
    · show upd _ al _ e = _
      rw [upd_ne el, upd_same, List.drop_zero]
  · rw [List.nodup_append]
    exact ⟨h.nd, by simp, fun a ha b hb => by rw [List.mem_singleton.mp hb]; intro z; rw [z] at ha; exact eq ha⟩
  · rcases List.mem_append.mp hq with z | z
    · exact h.new q z
    · rw [List.mem_singleton.mp z]; exact ⟨he1, eo, ep, el⟩
end
abbrev s15 : Stmt := topS 15
abbrev n15 : List Str := ["document", "root", "table", "order", "path", "left", "at", "name"]
theorem sc15 : FnScope n15 ["document", "root"] (defScope s15) := ⟨rfl, rfl, rfl, by decide +kernel, rfl, by decide +kernel, by decide +kernel⟩
def sp15 (e : Es) : Sp := fun vs H Q E => ∃ (a : Addr) (d : List Ln) (root : Str) (b : Nat), vs = [.ref a, .str root] ∧ DocAt H a d ∧ okd none d ∧ d.length ≤ 100000 ∧ (∀ l ∈ d, Sml b l) ∧ root.length ≤ 1000 ∧
  (∀ H' p order, Same H H' → H p = none → H' p = some (.lst (strV order)) → Ln.head root ∈ d → root ∈ order → (∀ n ∈ order, Ln.head n ∈ d ∧ Conv d n) → order.Nodup → Q (.ref p) H') ∧
  (∀ H' dd, Same H H' → (Ln.head root ∉ d → E (.ref e.np) (some dd) H') ∧ (Ln.head root ∈ d → (∃ k, ev (body d) k root = .miss) → E (.ref e.ms) (some dd) H') ∧ ((∀ k, ev (body d) k root = .out) → E (.ref e.rg) (some dd) H'))
/-- the table by a name -/
theorem TabAt.yes {H : Hp} {p : Addr} {d : List Ln} {n : Str} (h : TabAt H p d) (hn : Ln.head n ∈ d) : ∃ kvs q, H p = some (.dK kvs) ∧ valV kvs (.inr n : Key) = some (.ref q) ∧ H q = some (.lst (intV (plc n none 0 d))) := by
  obtain ⟨kvs, _, t⟩ := h
  obtain ⟨q, h1, xs, h2, h3⟩ := t.has n hn
  exact ⟨kvs, q, t.dc, h1, by rw [h2, h3]⟩
theorem TabAt.no {H : Hp} {p : Addr} {d : List Ln} {n : Str} (h : TabAt H p d) (hn : Ln.head n ∉ d) : ∃ kvs, H p = some (.dK kvs) ∧ valV kvs (.inr n : Key) = none := by
  obtain ⟨kvs, _, t⟩ := h
  exact ⟨kvs, t.dc, t.no n hn⟩
theorem TabAt.dget {H : Hp} {p : Addr} {d : List Ln} {n : Str} (h : TabAt H p d) : ∃ o, DGet H p (.str n) o ∧ (o.isSome = true ↔ Ln.head n ∈ d) ∧ (Ln.head n ∈ d → ∃ q, o = some (.ref q) ∧ H q = some (.lst (intV (plc n none 0 d)))) := by
  obtain ⟨kvs, _, t⟩ := h
  refine ⟨valV kvs (.inr n : Key), DGet.k (k := Sum.inr n) t.dc, ⟨fun z => ?_, fun hn => ?_⟩, fun hn => ?_⟩
  · exact Classical.byContradiction fun y => by rw [t.no n y] at z; cases z
  · obtain ⟨q, h1, _⟩ := t.has n hn
    rw [h1]; rfl
  · obtain ⟨q, h1, xs, h2, h3⟩ := t.has n hn
    exact ⟨q, h1, by rw [h2, h3]⟩
theorem TabAt.gets {H : Hp} {p : Addr} {d : List Ln} {n : Str} (h : TabAt H p d) (hn : Ln.head n ∈ d) : ∃ q, DGet H p (.str n) (some (.ref q)) ∧ H q = some (.lst (intV (plc n none 0 d))) := by
  obtain ⟨o, g1, _, g3⟩ := h.dget (n := n)
  obtain ⟨q, e, hq⟩ := g3 hn
  exact ⟨q, by rw [← e]; exact g1, hq⟩
theorem intV_drop {xs : List Nat} {c j : Nat} (h : xs[c]? = some j) : intV (xs.drop c) = .int (j : Int) :: intV (xs.drop (c + 1)) := by
  unfold intV
  have hlt : c < xs.length := (List.getElem?_eq_some_iff.mp h).1
  rw [List.drop_eq_getElem_cons hlt, List.map_cons]
  congr 3
  exact Option.some.inj ((List.getElem?_eq_getElem hlt).symm.trans h)
theorem mu_pop (d : List Ln) (order : List Str) (f : Str × Nat) (r : List (Str × Nat)) : mu d order r < mu d order (f :: r) := by
  unfold mu
  rw [List.map_cons, List.sum_cons]
  omega
theorem mu_take (d : List Ln) (order : List Str) (n : Str) (c : Nat) (r : List (Str × Nat)) (h : c < (it d n).length) : mu d order ((n, c + 1) :: r) < mu d order ((n, c) :: r) := by
  unfold mu
  rw [List.map_cons, List.sum_cons, List.map_cons, List.sum_cons]
  show _ + ((it d n).length - (c + 1) + 1 + _) < _ + ((it d n).length - c + 1 + _)
  omega
theorem mu_push (d : List Ln) (order : List Str) (m : Str) (st : List (Str × Nat)) (h : order.length + 1 ≤ (ddp (nms d)).length) : mu d (order ++ [m]) ((m, 0) :: st) < mu d order st := by
  unfold mu
  rw [List.map_cons, List.sum_cons, List.length_append, List.length_singleton]
  show _ + ((it d m).length - 0 + 1 + _) < _
  have := it_len (d := d) m
  obtain ⟨x, hx⟩ : ∃ x, (ddp (nms d)).length - order.length = x + 1 := ⟨(ddp (nms d)).length - order.length - 1, by omega⟩
  have h2 : (ddp (nms d)).length - (order.length + 1) = x := by omega
  rw [hx, h2, Nat.add_mul]
  omega
/-- the next line of the top piece -/
theorem plc_next {d : List Ln} {n : Str} {c : Nat} (h : c < (it d n).length) : ∃ j l, (plc n none 0 d)[c]? = some j ∧ (it d n)[c]? = some l ∧ d[j]? = some l ∧ l.own = true := by
  have hlt : c < (plc n none 0 d).length := by rw [plc_its_len]; exact h
  obtain ⟨l, h1, h2, h3⟩ := plc_its (List.getElem?_eq_getElem hlt)
  exact ⟨_, l, List.getElem?_eq_getElem hlt, h1, h2, h3⟩
section
variable {P : Program} {w : World} {K : PySem.W.Frag} {mg : Str → Option Value} {base : Heap} {e : Es}
theorem ok15 (T : Ty P K mg base e) : Has P w K mg base (L2.CX P w) 3 "closure" ["document", "root"] (sp15 e) := by
  obtain ⟨f, fd, F, g⟩ := T.df 5 _ rfl
  refine ⟨f, fd, ?_, g, F.kp, F.binds fun _ _ _ _ _ _ us hl => match us, hl with | [_, _], _ => rfl⟩
  refine Fun.okX F sc15 (fun vs H Q E h => ?_) (fun cdv A outer s H vs Q E hr h => ?_)
  · obtain ⟨a, d, r, b, rfl, _⟩ := h
    rfl
  · obtain ⟨a, d, root, b, rfl, hd, okD, hlen, hsm, hrl, q1, q2⟩ := h
    refine ⟨_, pss_cons (ps_set (i := 2) sc15.nd rfl (.inl rfl) (pe_has (ok13 T.toTx) hr (by rfl) (pa_cons (pv 0) pa_nil)))
      (pss_cons (ps_if (pt_cmp (pc_dnotin (hu_of hr) (pv 1) (pv 2))) (pss_one (ps_raise rfl (takes_of rfl rfl rfl rfl) (pmk_np T hr (by rfl) (pa_cons (pv 1) pa_nil)))) pss_nil)
      (pss_cons (ps_set (i := 3) sc15.nd rfl (.inl rfl) (pe_lst (pa_cons (pv 1) pa_nil)))
      (pss_cons (ps_set (i := 4) sc15.nd rfl (.inl rfl) (pe_lst (pa_cons (pv 1) pa_nil)))
      (pss_cons (ps_set (i := 5) sc15.nd rfl (.inl rfl) (pe_lst (pa_cons (pe_callTy call_list_of (by rfl) T.lst (by decide +kernel) (pa_cons (pe_dget (hu_of hr) (pv 2) (pv 1) (fun _ _ => rfl)) pa_nil)) pa_nil)))
      (pss_cons (ps_while (passes_of rfl) (pt_truth (pv 4) (fun _ => rfl))
        (pss_cons (ps_if (pt_not (pt_truth (pe_ix ix_list (pv 5) (pe_un un_neg pe_int) (fun _ _ => rfl)) (fun _ => rfl)))
          (pss_cons (ps_expr (pe_bm0 PySem.F.plainAttrs_list PySem.F.slot_list_pop PySem.F.type_list_pop mt_pop (pv 4)))
          (pss_cons (ps_expr (pe_bm0 PySem.F.plainAttrs_list PySem.F.slot_list_pop PySem.F.type_list_pop mt_pop (pv 5)))
          (pss_one ps_continue))) pss_nil)
        (pss_cons (ps_set (i := 6) sc15.nd rfl (.inl rfl) (pe_bm PySem.F.plainAttrs_list PySem.F.slot_list_pop PySem.F.type_list_pop mt_popAt (pe_ix ix_list (pv 5) (pe_un un_neg pe_int) (fun _ _ => rfl)) (pa_cons pe_int pa_nil)))
        (pss_cons (ps_if (pt_cmpR op_ne (pe_ix ix_tup (pe_ix ix_tup (pv 0) (pv 6) (fun _ _ => rfl)) pe_int (fun _ _ => rfl)) pe_str (nomark _)) (pss_one ps_continue) pss_nil)
        (pss_cons (ps_set (i := 7) sc15.nd rfl (.inl rfl) (pe_ix ix_tup (pe_ix ix_tup (pv 0) (pv 6) (fun _ _ => rfl)) pe_int (fun _ _ => rfl)))
        (pss_cons (ps_if (pt_cmp (pc_dnotin (hu_of hr) (pv 7) (pv 2))) (pss_one (ps_raise rfl (takes_of rfl rfl rfl rfl) (pmk_ms T hr (by rfl) (pa_cons (pv 6) (pa_cons (pv 7) pa_nil))))) pss_nil)
        (pss_cons (ps_if (pt_cmpR op_in_seq (pv 7) (pv 4) rfl) (pss_one (ps_raise rfl (takes_of rfl rfl rfl rfl) (pmk_rg T hr (by rfl) (pa_cons (pe_has (ok14 T.toTx) hr (by rfl) (pa_cons (pv 4) (pa_cons (pv 7) pa_nil))) pa_nil)))) pss_nil)
        (pss_one (ps_if (pt_cmpR op_notIn_seq (pv 7) (pv 3) rfl)
          (pss_cons (ps_expr (pe_bm PySem.F.plainAttrs_list PySem.F.slot_list_append PySem.F.type_list_append mt_append (pv 3) (pa_cons (pv 7) pa_nil)))
          (pss_cons (ps_expr (pe_bm PySem.F.plainAttrs_list PySem.F.slot_list_append PySem.F.type_list_append mt_append (pv 4) (pa_cons (pv 7) pa_nil)))
          (pss_one (ps_expr (pe_bm PySem.F.plainAttrs_list PySem.F.slot_list_append PySem.F.type_list_append mt_append (pv 5) (pa_cons (pe_callTy call_list_of (by rfl) T.lst (by decide +kernel) (pa_cons (pe_dget (hu_of hr) (pv 2) (pv 7) (fun _ _ => rfl)) pa_nil)) pa_nil)))))) pss_nil)))))))))
      (pss_one (ps_ret (pv 3)))))))), ?_⟩
    refine ⟨_, rfl, a, d, rfl, hd, okD, by omega, fun H1 p s1 np ht => ?_⟩
    obtain ⟨o, g1, g2, g3⟩ := TabAt.dget (n := root) ht
    refine ⟨_, rfl, _, rfl, p, o, rfl, g1, _, rfl, ?_⟩
    by_cases hn : Ln.head root ∈ d
    case neg => 
      have ho : o.isSome = false := by
        cases z : o.isSome with
        | false => rfl
        | true => exact absurd (g2.mp z) hn
      rw [ho]
      exact ⟨_, rfl, _, rfl, ⟨root, rfl, hrl⟩, fun dd => (q2 _ dd s1).1 hn⟩
    case pos =>
      rw [g2.mpr hn]
      refine ⟨_, rfl, by show 1 ≤ sizeLine; decide, fun ao nao => ?_⟩
      have t1 := same_upd (o := .lst [.str root]) nao
      refine ⟨_, rfl, by show 1 ≤ sizeLine; decide, fun ap nap => ?_⟩
      have t2 := same_upd (o := .lst [.str root]) nap
      have dop : ao ≠ ap := fun z => by rw [← z, upd_same] at nap; cases nap
      obtain ⟨q0, g0, hq0⟩ := ((ht.same t1).same t2).gets hn
      refine ⟨_, rfl, _, rfl, p, .ref q0, rfl, g0, q0, _, rfl, .inl (.of hq0), fun l1 nl1 => ⟨by show 1 ≤ sizeLine; decide, fun al nal => ?_⟩⟩
      have dal : ao ≠ al := ne_of_none (same_upd nl1 _ _ (t2 _ _ upd_same)) nal
      have dpl : ap ≠ al := ne_of_none (same_upd nl1 _ _ upd_same) nal
      have back : ∀ {A B : Hp} {x : Addr}, Same A B → B x = none → A x = none := fun {A B x} s hx => by
        cases z : A x with
        | none => rfl
        | some y => rw [s _ _ z] at hx; cases hx
      have n1p := back t1 nap
      have n1l1 := back (t1.trans t2) nl1
      have n1l := back ((t1.trans t2).trans (same_upd nl1)) nal
      have h0 : HS d H1 (upd (upd (upd (upd H1 ao (.lst [.str root])) ap (.lst [.str root])) l1 (.lst (intV (plc root none 0 d)))) al (.lst [.ref l1])) ao ap al [l1] [root] [(root, 0)] := by
        have l1o : l1 ≠ ao := fun z => by rw [z, t2 _ _ upd_same] at nl1; cases nl1
        have l1p : l1 ≠ ap := fun z => by rw [z, upd_same] at nl1; cases nl1
        have l1l : l1 ≠ al := fun z => by rw [z, upd_same] at nal; cases nal
        refine ⟨(t1.trans t2).trans ((same_upd nl1).trans (same_upd nal)), ?_, ?_, upd_same, .cons ?_ .nil, by simp, fun q hq => ?_⟩
        · rw [upd_ne dal, upd_ne l1o.symm, upd_ne dop, upd_same]; rfl
        · rw [upd_ne dpl, upd_ne l1p.symm, upd_same]; rfl
        · rw [upd_ne l1l, upd_same, List.drop_zero]
        · rw [List.mem_singleton.mp hq]; exact ⟨n1l1, l1o, l1p, l1l⟩
      generalize upd (upd (upd (upd H1 ao (.lst [.str root])) ap (.lst [.str root])) l1 (.lst (intV (plc root none 0 d)))) al (.lst [.ref l1]) = H5 at h0 ⊢
      have hd1 := hd.same s1
      have c0 : Cl d root [root] [(root, 0)] := ⟨ch_first hn, by simp, fun n hn' => by rw [List.mem_singleton.mp hn']; exact hn, by simp, fun f hf => by rw [List.mem_singleton.mp hf]; simp, fun n h1 h2 => absurd (by rw [List.mem_singleton.mp h1]; simp) h2, by simp⟩
      refine ⟨fun m σ H => ∃ order st qs y6 y7, σ = [some (.ref a), some (.str root), some (.ref p), some (.ref ao), some (.ref ap), some (.ref al), y6, y7] ∧ m = mu d order st ∧ Cl d root order st ∧ HS d H1 H ao ap al qs order st,
        ⟨_, [root], [(root, 0)], [l1], none, none, rfl, rfl, c0, h0⟩, ?_⟩
      rintro m σ H6 ⟨order, st, qs, y6, y7, rfl, rfl, C, S⟩
      refine ⟨_, rfl, _, .inl ⟨_, .of S.p, rfl⟩, ?_⟩
      cases st with
      | nil =>
        rw [show (!(strV (([] : List (Str × Nat)).reverse.map (·.1))).isEmpty) = false from rfl]
        refine ⟨_, rfl, ?_⟩
        exact q1 _ ao order (s1.trans S.s) (back s1 nao) S.o hn C.root (fun n h => ⟨C.hd n h, C.fin n h (by simp)⟩) C.nd
      | cons fr r =>
        obtain ⟨n, c⟩ := fr
        obtain ⟨qs', qt, eqs, hqt⟩ := S.top
        rw [show (!(strV ((((n, c) :: r)).reverse.map (·.1))).isEmpty) = true by
          rw [List.reverse_cons, List.map_append]
          unfold strV
          rw [List.map_append]
          show (!(_ ++ [_]).isEmpty) = true
          simp]
        refine ⟨fun σ' H' => ∃ m', m' < mu d order ((n, c) :: r) ∧ ∃ order st qs y6 y7, σ' = [some (.ref a), some (.str root), some (.ref p), some (.ref ao), some (.ref ap), some (.ref al), y6, y7] ∧ m' = mu d order st ∧ Cl d root order st ∧ HS d H1 H' ao ap al qs order st,
          fun _ _ z => z, ?_⟩
        have hnd := C.ch.1
        have atq : ∀ X : List V, atI (qs.map V.ref) (-1) = some (.ref qt) := fun _ => by rw [eqs, List.map_append]; exact atI_last _ _
        refine ⟨_, rfl, _, rfl, al, _, -1, .ref qt, rfl, rfl, .of S.l, atq [], _, .inl ⟨_, .of hqt, rfl⟩, ?_⟩
        by_cases hc : c = (it d n).length
        · have hem : intV ((plc n none 0 d).drop c) = [] := by rw [List.drop_eq_nil_of_le (by rw [plc_its_len]; exact Nat.le_of_eq hc.symm)]; rfl
          rw [hem]
          show if (!false) = true then _ else _
          rw [if_pos (by decide)]
          have hp1 : H6 ap = some (.lst (strV (((n, c) :: r).reverse.map (·.1)))) := S.p
          refine ⟨_, rfl, .inl ⟨rfl, _, .of hp1⟩, ap, _, .str n, rfl, rfl, hp1, ?_, ?_⟩
          · rw [List.reverse_cons, List.map_append]
            unfold strV
            rw [List.map_append]
            show (_ ++ [V.str n])[(_ ++ [V.str n]).length - 1]? = _
            rw [List.length_append]
            simp
          have hl1 : upd H6 ap (.lst (strV (((n, c) :: r).reverse.map (·.1))).dropLast) al = some (.lst (qs.map V.ref)) := by rw [upd_ne dpl.symm]; exact S.l
          refine ⟨_, rfl, .inl ⟨rfl, _, .of hl1⟩, al, _, .ref qt, rfl, rfl, hl1, ?_, ?_⟩
          · rw [eqs, List.map_append]
            show (_ ++ [V.ref qt])[(_ ++ [V.ref qt]).length - 1]? = _
            rw [List.length_append]
            simp
          obtain ⟨cv, ch'⟩ := ch_pop C.ch hc
          refine ⟨_, mu_pop d order (n, c) r, order, r, qs', _, _, rfl, rfl, ⟨ch', C.nd, C.hd, C.root, fun f hf => C.sub f (List.mem_cons_of_mem _ hf), fun n' h1 h2 => ?_, (List.nodup_cons.mp C.nds).2⟩, S.pop eqs n1p n1l dop dal dpl⟩
          by_cases e : n' = n
          · rw [e]; exact cv
          · exact C.fin n' h1 fun z => (List.mem_cons.mp z).elim e h2
        · have hc2 : c < (it d n).length := Nat.lt_of_le_of_ne C.ch.2.1 hc
          obtain ⟨j, l, hj, hl, hdl, hown⟩ := plc_next hc2
          rw [intV_drop hj]
          show if (!true) = true then _ else _
          rw [if_neg (by decide)]
          rw [intV_drop hj] at hqt
          have hz : seqIndex? 0 (V.int (j : Int) :: intV ((plc n none 0 d).drop (c + 1))).length = some 0 := seqIndex_of (by decide) (by simp only [List.length_cons]; omega)
          refine ⟨_, rfl, _, rfl, al, _, -1, .ref qt, rfl, rfl, .of S.l, atq [], .inl ⟨rfl, _, .of hqt⟩, qt, _, 0, 0, _, rfl, rfl, hqt, by decide, by decide, hz, rfl, ?_⟩
          have S' := S.take eqs
          have C' := C.ch
          show tSeq _ _ _ _ (upd H6 qt (.lst (intV ((plc n none 0 d).drop (c + 1)))))
          generalize upd H6 qt (.lst (intV ((plc n none 0 d).drop (c + 1)))) = H7 at S' ⊢
          have hd7 := hd1.same S'.s
          obtain ⟨xs, pl, ha7, hx, hat⟩ := hd7.get hdl
          obtain ⟨sk, k0, kh, kp, ku, kc⟩ := k_head l
          refine ⟨_, rfl, _, rfl, a, _, _, _, rfl, rfl, .of ha7, atI_nat hx, pl, _, _, _, rfl, rfl, .of hat, atI_nat (j := 0) k0, rfl, _, rfl, ?_⟩
          have stp : (∀ i m, l = .use i m → Conv d m) → ∀ y7, ∃ m', m' < mu d order ((n, c) :: r) ∧ ∃ order st qs y6 y7', [some (V.ref a), some (.str root), some (.ref p), some (.ref ao), some (.ref ap), some (.ref al), some (.int (j : Int)), y7] = [some (.ref a), some (.str root), some (.ref p), some (.ref ao), some (.ref ap), some (.ref al), y6, y7'] ∧ m' = mu d order st ∧ Cl d root order st ∧ HS d H1 H7 ao ap al qs order st := fun hv y7 =>
            ⟨_, mu_take d order n c r hc2, order, _, qs, _, _, rfl, rfl, ⟨ch_step C.ch hl hv, C.nd, C.hd, C.root, fun f hf => (List.mem_cons.mp hf).elim (fun z => by rw [z]; exact C.sub (n, c) (by simp)) fun z => C.sub f (List.mem_cons_of_mem _ z), fun n' h1 h2 => C.fin n' h1 h2, C.nds⟩, S'⟩
          refine ifN2 (fun h1 => ?_) (fun h1 => ?_)
          · exact stp (fun i m z => absurd (ku.mpr ⟨i, m, z⟩) (fun z => h1 (by rw [z]))) _
          obtain ⟨ii, mm, rfl⟩ := ku.mp (V.str.inj h1)
          have A' := ch_ask C.ch hl
          refine ⟨_, rfl, _, rfl, a, _, _, _, rfl, rfl, .of ha7, atI_nat hx, pl, _, _, _, rfl, rfl, .of hat, atI_nat (j := 2) rfl, ?_⟩
          obtain ⟨o2, g4, g5, g6⟩ := TabAt.dget (n := mm) (ht.same S'.s)
          refine ⟨_, rfl, _, rfl, p, o2, rfl, g4, _, rfl, ?_⟩
          have hjl : j < d.length := (List.getElem?_eq_some_iff.mp hdl).1
          have hml : mm.length ≤ 1000 := (hsm _ (List.mem_of_getElem? hdl)).2.2
          by_cases hm : Ln.head mm ∈ d
          case neg =>
            have ho : o2.isSome = false := by
              cases z : o2.isSome with
              | false => rfl
              | true => exact absurd (g5.mp z) hm
            rw [ho]
            refine ⟨_, rfl, _, rfl, _, _, rfl, ⟨⟨_, rfl, by omega⟩, mm, rfl, hml⟩, fun dd => (q2 _ dd (s1.trans S'.s)).2.1 hn (ch_miss A' ⟨1, ?_⟩)⟩
            show (match body d mm with | none => R.miss | some ls => evs (ev (body d) 0) ls) = _
            rw [body_none hm]
          case pos =>
            rw [g5.mpr hm]
            refine ⟨_, rfl, _, rfl, ap, _, rfl, .inl (.of S'.p), rfl, flat_strs _, _, rfl, ?_⟩
            rw [inV_str]
            refine if2 (fun h2 => ?_) (fun h2 => ?_)
            · have h2' : mm ∈ ((n, c + 1) :: r).map (·.1) := by
                rw [List.map_reverse, List.mem_reverse] at h2
                exact h2
              have out := ch_out A' h2'
              have hrt := ch_root (m := mm) A' (by simp)
              exact ⟨_, rfl, _, rfl, ap, _, mm, rfl, S'.p, h2, fun H8 pr s8 npr => ⟨_, rfl, trivial, fun dd => (q2 _ dd ((s1.trans S'.s).trans s8)).2.2 fun k => out k root hrt⟩⟩
            · have h2' : mm ∉ ((n, c + 1) :: r).map (·.1) := fun z => h2 (by
                rw [List.map_reverse, List.mem_reverse]
                exact z)
              refine ⟨_, rfl, _, rfl, ao, _, rfl, .inl (.of S'.o), rfl, flat_strs _, _, rfl, ?_⟩
              rw [inV_str]
              refine ifN2 (fun h3 => ?_) (fun h3 => ?_)
              · have room := cl_room C hm h3
                have hdl5 : (ddp (nms d)).length ≤ 100000 := Nat.le_trans (ord_len d) hlen
                have hqs : qs.length = r.length + 1 := by
                  have := S'.q.length
                  rw [List.length_reverse] at this
                  exact this
                have hstl : r.length + 1 ≤ order.length := by
                  have := nodup_le _ order C.nds fun m hm => by
                    obtain ⟨f, hf, z⟩ := List.mem_map.mp hm
                    rw [← z]
                    exact C.sub f hf
                  rw [List.length_map] at this
                  exact this
                have hol : (strV order).length < sizeLine := by unfold strV; rw [List.length_map]; exact small7 (by omega)
                have hpl : (strV (((n, c + 1) :: r).reverse.map (·.1))).length < sizeLine := by unfold strV; rw [List.length_map, List.length_map, List.length_reverse, List.length_cons]; exact small7 (by omega)
                have hll : (qs.map V.ref).length < sizeLine := by rw [List.length_map, hqs]; exact small7 (by omega)
                refine ⟨_, rfl, .inl ⟨rfl, _, .of S'.o⟩, _, rfl, ao, _, _, rfl, rfl, S'.o, hol, ?_⟩
                have hp8 : upd H7 ao (.lst (strV order ++ [V.str mm])) ap = some (.lst (strV (((n, c + 1) :: r).reverse.map (·.1)))) := by rw [upd_ne dop.symm]; exact S'.p
                refine ⟨_, rfl, .inl ⟨rfl, _, .of hp8⟩, _, rfl, ap, _, _, rfl, rfl, hp8, hpl, ?_⟩
                have s18 : Same H1 (upd (upd H7 ao (.lst (strV order ++ [V.str mm]))) ap (.lst (strV (((n, c + 1) :: r).reverse.map (·.1)) ++ [V.str mm]))) := same_wr (same_wr S'.s nao) n1p
                have hl8 : (upd (upd H7 ao (.lst (strV order ++ [V.str mm]))) ap (.lst (strV (((n, c + 1) :: r).reverse.map (·.1)) ++ [V.str mm]))) al = some (.lst (qs.map V.ref)) := by rw [upd_ne dpl.symm, upd_ne dal.symm]; exact S'.l
                obtain ⟨q9, g9, hq9⟩ := (ht.same s18).gets hm
                refine ⟨_, rfl, .inl ⟨rfl, _, .of hl8⟩, _, rfl, _, rfl, p, _, rfl, g9, q9, _, rfl, .inl (.of hq9), fun l2 nl2 => ?_⟩
                have hl9 := same_upd (o := .lst (intV (plc mm none 0 d))) nl2 _ _ hl8
                have nl7 : H7 l2 = none := by
                  have z1 : l2 ≠ ap := fun z => by rw [z, upd_same] at nl2; cases nl2
                  have z2 : l2 ≠ ao := fun z => by rw [z, upd_ne dop, upd_same] at nl2; cases nl2
                  rw [upd_ne z1, upd_ne z2] at nl2
                  exact nl2
                refine ⟨al, _, _, rfl, rfl, hl9, hll, ?_⟩
                have hlt := mu_take d order n c r hc2
                refine ⟨_, Nat.lt_trans (mu_push d order mm _ room) hlt, order ++ [mm], (mm, 0) :: (n, c + 1) :: r, qs ++ [l2], _, _, rfl, rfl, ⟨ch_push A' hm, ?_, ?_, ?_, ?_, ?_, List.nodup_cons.mpr ⟨h2', C.nds⟩⟩, S'.push mm nao n1p n1l dop dal dpl nl7⟩
                · rw [List.nodup_append]
                  exact ⟨C.nd, by simp, fun x hx y hy => by rw [List.mem_singleton.mp hy]; intro z; rw [z] at hx; exact h3 hx⟩
                · intro x hx
                  rcases List.mem_append.mp hx with z | z
                  · exact C.hd x z
                  · rw [List.mem_singleton.mp z]; exact hm
                · exact List.mem_append_left _ C.root
                · intro f hf
                  rcases List.mem_cons.mp hf with z | z
                  · rw [z]; simp
                  · refine List.mem_append_left _ ?_
                    rcases List.mem_cons.mp z with z | z
                    · rw [z]; exact C.sub (n, c) (by simp)
                    · exact C.sub f (List.mem_cons_of_mem _ z)
                · intro x hx hnx
                  rcases List.mem_append.mp hx with z | z
                  · exact C.fin x z fun y => hnx (List.mem_cons_of_mem _ y)
                  · exact absurd (by rw [List.mem_singleton.mp z]; simp) hnx
              · exact stp (fun i m z => by cases z; exact C.fin _ h3 h2') _
end
end Wf

end
section
set_option maxHeartbeats 4000000
/-! W41: lengths_of, length. -/
namespace Wf
open PySem PySem.Spec PyProof.Rows L2 Wr GxR Wg
def uN : Ln → Option Str
  | .use _ m => some m
  | _ => none
def usN (ls : List Ln) : List Str := ls.filterMap uN
theorem usN_mem {ls : List Ln} {m : Str} : m ∈ usN ls ↔ ∃ i, Ln.use i m ∈ ls := by
  unfold usN
  rw [List.mem_filterMap]
  constructor
  · rintro ⟨l, h1, h2⟩
    cases l with
    | use i n => cases h2; exact ⟨i, h1⟩
    | _ => cases h2
  · rintro ⟨i, h⟩
    exact ⟨_, h, rfl⟩
theorem ev_same {B : Bd} {j k : Nat} {n : Str} {ts us : List Str} (h1 : ev B j n = .ok ts) (h2 : ev B k n = .ok us) : ts = us := by
  have a := le_eq (ev_mono B (Nat.le_max_left j k) n) h1 (by intro z; cases z)
  have b := le_eq (ev_mono B (Nat.le_max_right j k) n) h2 (by intro z; cases z)
  rw [a] at b
  cases b
  rfl
theorem seq_ok {a b : R} {ts : List Str} (h : a.seq b = .ok ts) : ∃ us vs, a = .ok us ∧ b = .ok vs ∧ ts = us ++ vs := by
  cases a with
  | ok us =>
    cases b with
    | ok vs => cases h; exact ⟨us, vs, rfl, rfl, rfl⟩
    | miss => cases h
    | out => cases h
  | miss => cases h
  | out => cases h
theorem sh_ok {a : R} {i : Int} {ts : List Str} (h : a.sh i = .ok ts) : ∃ us, a = .ok us ∧ ts = us.map (shT i) := by
  cases a with
  | ok us => cases h; exact ⟨us, rfl, rfl⟩
  | miss => cases h
  | out => cases h
theorem evs_use {f : Str → R} : ∀ {ls : List Ln} {ts : List Str}, evs f ls = .ok ts → ∀ {i : Int} {m : Str}, Ln.use i m ∈ ls → ∃ us, f m = .ok us
  | .code t :: r, ts, h, i, m, hm => by
    obtain ⟨_, vs, _, h2, _⟩ := seq_ok (show (R.ok [t]).seq (evs f r) = _ from h)
    exact evs_use h2 ((List.mem_cons.mp hm).resolve_left fun z => by cases z)
  | .head t :: r, ts, h, i, m, hm => evs_use (show evs f r = _ from h) ((List.mem_cons.mp hm).resolve_left fun z => by cases z)
  | .prose t :: r, ts, h, i, m, hm => evs_use (show evs f r = _ from h) ((List.mem_cons.mp hm).resolve_left fun z => by cases z)
  | .use j n :: r, ts, h, i, m, hm => by
    obtain ⟨us, vs, h1, h2, _⟩ := seq_ok (show ((f n).sh j).seq (evs f r) = _ from h)
    rcases List.mem_cons.mp hm with z | z
    · cases z
      obtain ⟨us', h3, _⟩ := sh_ok h1
      exact ⟨us', h3⟩
    · exact evs_use h2 z
theorem evs_len {f : Str → R} {v : Str → Int} : ∀ {ls : List Ln} {ts : List Str}, (∀ l ∈ ls, l.own = true) → evs f ls = .ok ts → (∀ i m us, Ln.use i m ∈ ls → f m = .ok us → v m = (us.length : Int)) →
    (ls.length : Int) - (usN ls).length + ((usN ls).map v).sum = (ts.length : Int)
  | [], ts, _, h, _ => by cases h; rfl
  | .code t :: r, ts, ho, h, hv => by
    obtain ⟨us, vs, h1, h2, e⟩ := seq_ok (show (R.ok [t]).seq (evs f r) = _ from h)
    have ih := evs_len (fun l hl => ho l (List.mem_cons_of_mem _ hl)) h2 fun i m us hm => hv i m us (List.mem_cons_of_mem _ hm)
    cases h1
    rw [e]
    show ((r.length + 1 : Nat) : Int) - ((usN r).length : Int) + ((usN r).map v).sum = (([t] ++ vs).length : Int)
    rw [List.length_append, List.length_singleton]
    omega
  | .head t :: r, ts, ho, h, hv => by cases ho _ (List.mem_cons_self ..)
  | .prose t :: r, ts, ho, h, hv => by cases ho _ (List.mem_cons_self ..)
  | .use j n :: r, ts, ho, h, hv => by
    obtain ⟨us, vs, h1, h2, e⟩ := seq_ok (show ((f n).sh j).seq (evs f r) = _ from h)
    have ih := evs_len (fun l hl => ho l (List.mem_cons_of_mem _ hl)) h2 fun i m us hm => hv i m us (List.mem_cons_of_mem _ hm)
    obtain ⟨us', h3, h4⟩ := sh_ok h1
    have hn := hv j n us' (by simp) h3
    rw [e, h4]
    show ((r.length + 1 : Nat) : Int) - (((usN r).length + 1 : Nat) : Int) + (v n :: (usN r).map v).sum = ((us'.map (shT j) ++ vs).length : Int)
    rw [List.length_append, List.length_map, List.sum_cons, hn]
    omega
/-- the numbers known -/
structure Kn (d : List Ln) (kvs : List (Key × V)) (ns : List Str) : Prop where
  nd : ns.Nodup
  len : kvs.length = ns.length
  val : ∀ n ∈ ns, Ln.head n ∈ d ∧ ∃ k ts, ev (body d) k n = .ok ts ∧ valV kvs (.inr n : Key) = some (.int (ts.length : Int))
  no : ∀ n, n ∉ ns → valV kvs (.inr n : Key) = none
  cl : ∀ n ∈ ns, ∀ i m, Ln.use i m ∈ it d n → m ∈ ns
theorem Kn.put {d : List Ln} {kvs : List (Key × V)} {ns : List Str} {n : Str} {k : Nat} {ts : List Str} (h : Kn d kvs ns) (hn : n ∉ ns) (hd : Ln.head n ∈ d) (he : ev (body d) k n = .ok ts) (hc : ∀ i m, Ln.use i m ∈ it d n → m ∈ ns) :
    Kn d (putK kvs (.inr n : Key) (.int (ts.length : Int))) (ns ++ [n]) := by
  have hno := h.no n hn
  refine ⟨?_, ?_, fun m hm => ?_, fun m hm => ?_, fun m hm i o ho => ?_⟩
  · rw [List.nodup_append]
    exact ⟨h.nd, by simp, fun x hx y hy => by rw [List.mem_singleton.mp hy]; intro z; rw [z] at hx; exact hn hx⟩
  · rw [putK_new _ hno, List.length_append, List.length_append, h.len]; rfl
  · rw [valV_put]
    rcases List.mem_append.mp hm with z | z
    · obtain ⟨a, b⟩ := h.val m z
      rw [if_neg (fun y => hn (by cases y; exact z))]
      exact ⟨a, b⟩
    · rw [List.mem_singleton.mp z, if_pos rfl]
      exact ⟨hd, k, ts, he, rfl⟩
  · rw [valV_put, if_neg (fun y => hm (by cases y; simp))]
    exact h.no m fun z => hm (List.mem_append_left _ z)
  · rcases List.mem_append.mp hm with z | z
    · exact List.mem_append_left _ (h.cl m z i o ho)
    · rw [List.mem_singleton.mp z] at ho
      exact List.mem_append_left _ (hc i o ho)
theorem Kn.get {d : List Ln} {kvs : List (Key × V)} {ns : List Str} {n : Str} (h : Kn d kvs ns) {H : Hp} {p : Addr} (hp : H p = some (.dK kvs)) : ∃ o, DGet H p (.str n) o ∧ (o.isSome = true ↔ n ∈ ns) ∧ (n ∈ ns → ∃ k ts, ev (body d) k n = .ok ts ∧ o = some (.int (ts.length : Int))) := by
  refine ⟨valV kvs (.inr n : Key), DGet.k (k := Sum.inr n) hp, ⟨fun z => ?_, fun hn => ?_⟩, fun hn => ?_⟩
  · exact Classical.byContradiction fun y => by rw [h.no n y] at z; cases z
  · obtain ⟨_, k, ts, _, e⟩ := h.val n hn
    rw [e]; rfl
  · obtain ⟨_, k, ts, e1, e⟩ := h.val n hn
    exact ⟨k, ts, e1, e⟩
def vK (kvs : List (Key × V)) (n : Str) : Int := match valV kvs (.inr n : Key) with | some (.int i) => i | _ => 0
theorem Kn.dget {d : List Ln} {kvs : List (Key × V)} {ns : List Str} {n : Str} (h : Kn d kvs ns) (hn : n ∈ ns) {H : Hp} {p : Addr} (hp : H p = some (.dK kvs)) : DGet H p (.str n) (some (.int (vK kvs n))) ∧ ∃ k ts, ev (body d) k n = .ok ts ∧ vK kvs n = (ts.length : Int) := by
  obtain ⟨_, k, ts, e1, e⟩ := h.val n hn
  have ev : vK kvs n = (ts.length : Int) := by unfold vK; rw [e]
  refine ⟨?_, k, ts, e1, ev⟩
  have := DGet.k (k := (Sum.inr n : Key)) hp
  rw [e] at this
  rw [ev]
  exact this
theorem ev_head {d : List Ln} {k : Nat} {n : Str} {ts : List Str} (h : ev (body d) k n = .ok ts) : Ln.head n ∈ d := by
  cases k with
  | zero => cases h
  | succ k =>
    refine Classical.byContradiction fun z => ?_
    have : (match body d n with | none => R.miss | some ls => evs (ev (body d) k) ls) = _ := h
    rw [body_none z] at this
    cases this
/-- the stack of names with fuel, the top one first -/
def Lv (d : List Ln) (L : Nat) : List (Str × Nat) → Prop
  | [] => True
  | (n, k) :: r => r.length + 1 + k ≤ L ∧ Ln.head n ∈ d ∧ (∃ ts, ev (body d) k n = .ok ts) ∧ Lv d L r
theorem lv_of {d : List Ln} {k : Nat} : ∀ {ns : List Str}, (∀ n ∈ ns, Ln.head n ∈ d ∧ ∃ ts, ev (body d) k n = .ok ts) → ∀ {L : Nat}, ns.length + k ≤ L → Lv d L (ns.map fun n => (n, k))
  | [], _, _, _ => trivial
  | n :: r, h, L, hl => by
    rw [List.length_cons] at hl
    refine ⟨by rw [List.length_map]; exact hl, (h n (by simp)).1, (h n (by simp)).2, lv_of (fun m hm => h m (List.mem_cons_of_mem _ hm)) (by omega)⟩
theorem evs_all {f : Str → R} : ∀ ls : List Ln, (∀ i m, Ln.use i m ∈ ls → ∃ us, f m = .ok us) → ∃ ts, evs f ls = .ok ts
  | [], _ => ⟨[], rfl⟩
  | l :: r, h => by
    obtain ⟨ts, e⟩ := evs_all r fun i m hm => h i m (List.mem_cons_of_mem _ hm)
    cases l with
    | code t => exact ⟨_, by show (R.ok [t]).seq (evs f r) = _; rw [e]; rfl⟩
    | head t => exact ⟨ts, e⟩
    | prose t => exact ⟨ts, e⟩
    | use i m =>
      obtain ⟨us, e2⟩ := h i m (by simp)
      exact ⟨_, by show ((f m).sh i).seq (evs f r) = _; rw [e, e2]; rfl⟩
def Stb (d : List Ln) (k : Nat) : Prop := ∀ n ts, ev (body d) (k + 1) n = .ok ts → ∃ us, ev (body d) k n = .ok us
theorem stb {d : List Ln} {k : Nat} (h : Stb d k) : ∀ j, k ≤ j → ∀ n ts, ev (body d) j n = .ok ts → ∃ us, ev (body d) k n = .ok us := by
  intro j hj
  induction hj with
  | refl => intro n ts e; exact ⟨ts, e⟩
  | @step j _ ih =>
    intro n ts e
    have hn := ev_head e
    rw [ev_S hn] at e
    obtain ⟨us, e2⟩ := evs_all (f := ev (body d) k) (it d n) fun i m hm => by
      obtain ⟨vs, ev⟩ := evs_use e hm
      exact ih m vs ev
    exact h n us (by rw [ev_S hn, e2])
open Classical in
theorem stb_ex (d : List Ln) : ∀ k, (∃ j, j ≤ k ∧ Stb d j) ∨ k ≤ ((ddp (nms d)).filter fun n => decide (∃ ts, ev (body d) k n = .ok ts)).length
  | 0 => .inr (Nat.zero_le _)
  | k + 1 => by
    rcases stb_ex d k with ⟨j, h1, h2⟩ | h
    · exact .inl ⟨j, by omega, h2⟩
    · by_cases hs : Stb d k
      · exact .inl ⟨k, by omega, hs⟩
      · refine .inr ?_
        obtain ⟨n, hn⟩ := Classical.not_forall.mp hs
        obtain ⟨ts, hn⟩ := Classical.not_forall.mp hn
        obtain ⟨h1, h2⟩ := Classical.not_imp.mp hn
        refine Nat.le_trans (Nat.succ_le_succ h) (nodup_le (n :: (ddp (nms d)).filter fun n => decide (∃ ts, ev (body d) k n = .ok ts)) _ (List.nodup_cons.mpr ⟨fun z => ?_, (ddp_nodup _).filter _⟩) fun m hm => ?_)
        · exact h2 (of_decide_eq_true (List.mem_filter.mp z).2)
        · rcases List.mem_cons.mp hm with z | z
          · rw [z]; exact List.mem_filter.mpr ⟨(nms_mem d n).mpr (ev_head h1), decide_eq_true ⟨ts, h1⟩⟩
          · obtain ⟨z1, z2⟩ := List.mem_filter.mp z
            obtain ⟨us, z2⟩ := of_decide_eq_true z2
            exact List.mem_filter.mpr ⟨z1, decide_eq_true ⟨us, le_eq (ev_mono _ (Nat.le_succ _) m) z2 (by intro z; cases z)⟩⟩
theorem fuel_one {d : List Ln} {n : Str} (h : Conv d n) : ∃ ts, ev (body d) (d.length + 1) n = .ok ts := by
  obtain ⟨k, ts, e⟩ := h
  rcases stb_ex d (d.length + 1) with ⟨j, h1, h2⟩ | h
  · obtain ⟨us, e2⟩ : ∃ us, ev (body d) j n = .ok us := by
      by_cases hk : j ≤ k
      · exact stb h2 k hk n ts e
      · exact ⟨ts, le_eq (ev_mono _ (by omega) n) e (by intro z; cases z)⟩
    exact ⟨us, le_eq (ev_mono _ h1 n) e2 (by intro z; cases z)⟩
  · have := List.length_filter_le (fun n => @decide (∃ ts, ev (body d) (d.length + 1) n = .ok ts) (Classical.propDecidable _)) (ddp (nms d))
    have := ord_len d
    omega
theorem fuel_all {d : List Ln} (ns : List Str) (h : ∀ n ∈ ns, Conv d n) : ∃ k, k ≤ d.length + 1 ∧ ∀ n ∈ ns, ∃ ts, ev (body d) k n = .ok ts := ⟨_, Nat.le_refl _, fun n hn => fuel_one (h n hn)⟩
open Classical in
noncomputable def inner (L : Nat) (ns : List Str) : List (Str × Nat) → Nat
  | [] => 0
  | (n, k) :: r => if n ∈ ns then L + 1 + (r.length + 1) else k
theorem inner_in {L : Nat} {ns : List Str} {n : Str} {k : Nat} {r : List (Str × Nat)} (h : n ∈ ns) : inner L ns ((n, k) :: r) = L + 1 + (r.length + 1) := by
  dsimp only [inner]
  rw [if_pos h]
theorem inner_no {L : Nat} {ns : List Str} {n : Str} {k : Nat} {r : List (Str × Nat)} (h : n ∉ ns) : inner L ns ((n, k) :: r) = k := by
  dsimp only [inner]
  rw [if_neg h]
theorem inner_le {d : List Ln} {L : Nat} {ns : List Str} : ∀ {st : List (Str × Nat)}, Lv d L st → inner L ns st ≤ 2 * L + 1
  | [], _ => by show 0 ≤ _; omega
  | (n, k) :: r, h => by
    obtain ⟨h1, _⟩ := h
    by_cases e : n ∈ ns
    · rw [inner_in e]; omega
    · rw [inner_no e]; omega
noncomputable def mL (d : List Ln) (L : Nat) (ns : List Str) (st : List (Str × Nat)) : Nat := ((ddp (nms d)).length - ns.length) * (2 * L + 2) + inner L ns st
theorem mL_pop {d : List Ln} {L : Nat} {ns : List Str} {n : Str} {k : Nat} {r : List (Str × Nat)} (h : n ∈ ns) (hr : Lv d L r) : mL d L ns r < mL d L ns ((n, k) :: r) := by
  unfold mL
  rw [inner_in h]
  cases r with
  | nil => show _ + 0 < _; omega
  | cons f r =>
    obtain ⟨f1, f2⟩ := f
    obtain ⟨h1, _⟩ := hr
    have : inner L ns ((f1, f2) :: r) ≤ L + 1 + (r.length + 1) := by
      by_cases e : f1 ∈ ns
      · rw [inner_in e]; exact Nat.le_refl _
      · rw [inner_no e]; omega
    rw [List.length_cons]
    omega
theorem mL_push {d : List Ln} {L : Nat} {ns : List Str} {n m : Str} {k : Nat} {r : List (Str × Nat)} (h : n ∉ ns) (hm : m ∉ ns) : mL d L ns ((m, k) :: (n, k + 1) :: r) < mL d L ns ((n, k + 1) :: r) := by
  unfold mL
  rw [inner_no h, inner_no hm]
  omega
theorem mL_known {d : List Ln} {L : Nat} {ns : List Str} {n : Str} {k : Nat} {r : List (Str × Nat)} (hn : ns.length + 1 ≤ (ddp (nms d)).length) (hr : Lv d L r) : mL d L (ns ++ [n]) r < mL d L ns ((n, k) :: r) := by
  have := inner_le (ns := ns ++ [n]) hr
  unfold mL
  obtain ⟨x, hx⟩ : ∃ x, (ddp (nms d)).length - ns.length = x + 1 := ⟨(ddp (nms d)).length - ns.length - 1, by omega⟩
  rw [hx, List.length_append, List.length_singleton, show (ddp (nms d)).length - (ns.length + 1) = x by omega, Nat.add_mul]
  omega
theorem it_own {d : List Ln} {n : Str} : ∀ l ∈ it d n, l.own = true := fun l hl => by
  obtain ⟨i, hi, e⟩ := List.getElem_of_mem hl
  have hi2 : i < (plc n none 0 d).length := by rw [plc_its_len]; exact hi
  obtain ⟨l', h1, _, h3⟩ := plc_its (List.getElem?_eq_getElem hi2)
  rw [show (its n none d)[i]? = some (its n none d)[i] from List.getElem?_eq_getElem hi] at h1
  rw [← e, Option.some.inj h1]
  exact h3
abbrev s41 : Stmt := topS 41
abbrev n41 : List Str := ["document", "order", "table", "known", "waiting", "name", "needed", "unknown", "at", "other"]
theorem sc41 : FnScope n41 ["document", "order"] (defScope s41) := ⟨rfl, rfl, rfl, by decide +kernel, rfl, by decide +kernel, by decide +kernel⟩
def sp41 : Sp := fun vs H Q E => ∃ (a o : Addr) (d : List Ln) (order : List Str), vs = [.ref a, .ref o] ∧ DocAt H a d ∧ okd none d ∧ d.length ≤ 100000 ∧ H o = some (.lst (strV order)) ∧ order.length ≤ 100000 ∧ (∀ n ∈ order, Ln.head n ∈ d ∧ Conv d n) ∧
  ∀ H' p kvs ns, Same H H' → H p = none → H' p = some (.dK kvs) → Kn d kvs ns → (∀ n ∈ order, n ∈ ns) → Q (.ref p) H'
theorem last_ix (xs : List V) (x : V) : atI (xs ++ [x]) (-1) = some x := atI_last xs x
theorem strV_snoc (st : List (Str × Nat)) (f : Str × Nat) : strV ((f :: st).reverse.map (·.1)) = strV (st.reverse.map (·.1)) ++ [.str f.1] := by
  rw [List.reverse_cons, List.map_append]
  unfold strV
  rw [List.map_append]
  rfl
theorem str_ix {ns : List Str} {i : Nat} {x : V} (h : (strV ns)[i]? = some x) : ∃ n, x = .str n ∧ ns[i]? = some n := by
  unfold strV at h
  rw [List.getElem?_map] at h
  cases e : ns[i]? with
  | none => rw [e] at h; cases h
  | some n => rw [e] at h; exact ⟨n, (Option.some.inj h).symm, rfl⟩
section
variable {P : Program} {w : World} {K : PySem.W.Frag} {mg : Str → Option Value} {base : Heap}
open Classical in
theorem ok41 (T : Tx K mg) : Has P w K mg base CX0 3 "lengths_of" ["document", "order"] sp41 := by
  obtain ⟨f, fd, F, g⟩ := T.df 25 _ rfl
  refine ⟨f, fd, ?_, g, F.kp, F.binds fun _ _ _ _ _ _ us hl => match us, hl with | [_, _], _ => rfl⟩
  refine Fun.ok F sc41 (fun vs H Q E h => ?_) (fun cdv A outer s H vs Q E hr h => ?_)
  · obtain ⟨a, o, d, os, rfl, _⟩ := h
    rfl
  · obtain ⟨a, o, d, os, rfl, hd, okD, hlen, ho, hol, hos, q⟩ := h
    refine ⟨_, pss_cons (ps_set (i := 2) sc41.nd rfl (.inl rfl) (pe_has (ok13 T) hr (by rfl) (pa_cons (pv 0) pa_nil)))
      (pss_cons (ps_set (i := 3) sc41.nd rfl (.inr rfl) pe_dnewK)
      (pss_cons (ps_set (i := 4) sc41.nd rfl (.inl rfl) (pe_callTy call_list_of (by rfl) T.lst (by decide +kernel) (pa_cons (pv 1) pa_nil)))
      (pss_cons (ps_while PassesOwn.never (pt_truth (pv 4) (fun _ => rfl))
        (pss_cons (ps_set (i := 5) sc41.nd rfl (.inl rfl) (pe_ix ix_list (pv 4) (pe_un un_neg pe_int) (fun _ _ => rfl)))
        (pss_cons (ps_setLc (i := 6) (own := [("at", 8)]) (g := gName 8) rfl sc41.nd rfl rfl (sw_true rfl rfl rfl (by decide +kernel)) (pi_list (pe_dget (hu_of hr) (pv 2) (pv 5) (fun _ _ => rfl))) (blkOk_by (N := n41) (own := [("at", 8)]) (sc := defScope s41) (by decide +kernel))
          (fun _ _ _ _ _ => pg_name (i := 8) sc41.nd rfl (Or.inl rfl)) (fun _ _ _ _ _ => pts_one (pt_cmpR op_eq (pe_ix (r := rIxT K) ix_tup (pe_ix (r := rIxT K) ix_tup (pv 0) (pv 8) (fun _ _ => rfl)) pe_int (fun _ _ => rfl)) pe_str (nomark _))) (fun _ _ _ _ _ => pe_ix (r := rIxT K) ix_tup (pe_ix (r := rIxT K) ix_tup (pv 0) (pv 8) (fun _ _ => rfl)) pe_int (fun _ _ => rfl)))
        (pss_cons (ps_setLc (i := 7) (own := [("other", 9)]) (g := gName 9) rfl sc41.nd rfl rfl (sw_true rfl rfl rfl (by decide +kernel)) (pi_list (pv 6)) (blkOk_by (N := n41) (own := [("other", 9)]) (sc := defScope s41) (by decide +kernel))
          (fun _ _ _ _ _ => pg_name (i := 9) sc41.nd rfl (Or.inl rfl)) (fun _ _ _ _ _ => pts_one (pt_cmp (pc_dnotin (hu_of hr) (pv 9) (pv 3)))) (fun _ _ _ _ _ => pv 9))
        (pss_one (ps_if (pt_cmp (pc_din (hu_of hr) (pv 5) (pv 3)))
          (pss_one (ps_expr (pe_bm0 PySem.F.plainAttrs_list PySem.F.slot_list_pop PySem.F.type_list_pop mt_pop (pv 4))))
          (pss_one (ps_if (pt_truth (pv 7) (fun _ => rfl))
            (pss_one (ps_expr (pe_bm PySem.F.plainAttrs_list PySem.F.slot_list_append PySem.F.type_list_append mt_append (pv 4) (pa_cons (pe_ix ix_list (pv 7) pe_int (fun _ _ => rfl)) pa_nil))))
            (pss_cons (ps_dput (hu_of hr) (pv 3) (pv 5) (pe_op op_add (pe_op op_sub (pe_callB call_len_seq (by rfl) T.len PySem.boot_len (pa_cons (pe_dget (hu_of hr) (pv 2) (pv 5) (fun _ _ => rfl)) pa_nil)) (pe_callB call_len_seq (by rfl) T.len PySem.boot_len (pa_cons (pv 6) pa_nil)))
                (pe_callB (cr_sum rfl) (by rfl) T.sum PyProof.Rows.boot_sum (pa_cons (pe_lc (own := [("other", 9)]) (g := gName 9) rfl sc41.nd (pi_list (pv 6)) (blkOk_by (N := n41) (own := [("other", 9)]) (sc := defScope s41) (by decide +kernel))
                  (fun _ _ _ _ _ => pg_name (i := 9) sc41.nd rfl (Or.inl rfl)) (fun _ _ _ _ _ => pts_nil) (fun _ _ _ _ _ => pe_dget (hu_of hr) (pv 3) (pv 9) (fun _ _ => rfl))) pa_nil))) rfl)
              (pss_one (ps_expr (pe_bm0 PySem.F.plainAttrs_list PySem.F.slot_list_pop PySem.F.type_list_pop mt_pop (pv 4)))))))))))))
      (pss_one (ps_ret (pv 3)))))), ?_⟩
    refine ⟨_, rfl, a, d, rfl, hd, okD, by omega, fun H1 p s1 np ht => ?_⟩
    intro kp nkp
    have t1 := same_upd (o := .dK []) nkp
    refine ⟨_, rfl, o, _, rfl, .inl (.of (t1 _ _ (s1 _ _ ho))), fun wp nwp => ?_⟩
    have t2 := same_upd (o := .lst (strV os)) nwp
    have dkw : kp ≠ wp := fun z => by rw [← z, upd_same] at nwp; cases nwp
    have back : ∀ {A B : Hp} {x : Addr}, Same A B → B x = none → A x = none := fun {A B x} s hx => by
      cases z : A x with
      | none => rfl
      | some y => rw [s _ _ z] at hx; cases hx
    have n1w := back t1 nwp
    have hd1 := hd.same s1
    obtain ⟨k, hkl, hk⟩ := fuel_all os fun n hn => (hos n hn).2
    generalize hL : os.length + k = L
    have v0 : Lv d L (os.reverse.map fun n => (n, k)) := lv_of (fun n hn => ⟨(hos n (List.mem_reverse.mp hn)).1, hk n (List.mem_reverse.mp hn)⟩) (by rw [List.length_reverse]; omega)
    have n0 : Kn d [] [] := ⟨by simp, rfl, (fun n hn => by cases hn), fun _ _ => rfl, (fun n hn => by cases hn)⟩
    refine ⟨fun m σ H' => ∃ st kvs ns y5 y6 y7 y8 y9, σ = [some (.ref a), some (.ref o), some (.ref p), some (.ref kp), some (.ref wp), y5, y6, y7, y8, y9] ∧ m = mL d L ns st ∧ Lv d L st ∧ Kn d kvs ns ∧ Same H1 H' ∧ H' kp = some (.dK kvs) ∧ H' wp = some (.lst (strV (st.reverse.map (·.1)))) ∧ (∀ n ∈ os, n ∈ ns ∨ n ∈ st.map (·.1)),
      ⟨_, _, [], [], none, none, none, none, none, rfl, rfl, v0, n0, t1.trans t2, ?_, ?_, ?_⟩, ?_⟩
    · rw [upd_ne dkw, upd_same]
    · rw [upd_same, ← List.map_reverse, List.reverse_reverse, List.map_map]
      show _ = some (HO.lst (strV (os.map id)))
      rw [List.map_id]
    · intro n hn
      refine .inr ?_
      rw [List.map_map, List.map_reverse, List.mem_reverse]
      exact List.mem_map.mpr ⟨n, hn, rfl⟩
    rintro m σ H2 ⟨st, kvs, ns, y5, y6, y7, y8, y9, rfl, rfl, Lvs, KN, s12, hkp, hwp, hall⟩
    refine ⟨_, rfl, _, .inl ⟨_, .of hwp, rfl⟩, ?_⟩
    cases st with
    | nil =>
      rw [show (!(strV (([] : List (Str × Nat)).reverse.map (·.1))).isEmpty) = false from rfl]
      refine ⟨_, rfl, ?_⟩
      exact q _ kp kvs ns (s1.trans s12) (back s1 nkp) hkp KN fun n hn => (hall n hn).resolve_right (by simp)
    | cons fr r =>
      obtain ⟨n, kk⟩ := fr
      rw [strV_snoc] at hwp
      rw [show (!(strV ((((n, kk) :: r)).reverse.map (·.1))).isEmpty) = true by rw [strV_snoc]; simp]
      obtain ⟨hlv, hhd, ⟨ts, hts⟩, hlr⟩ := Lvs
      refine ⟨fun σ' H' => ∃ m', m' < mL d L ns ((n, kk) :: r) ∧ ∃ st kvs ns y5 y6 y7 y8 y9, σ' = [some (.ref a), some (.ref o), some (.ref p), some (.ref kp), some (.ref wp), y5, y6, y7, y8, y9] ∧ m' = mL d L ns st ∧ Lv d L st ∧ Kn d kvs ns ∧ Same H1 H' ∧ H' kp = some (.dK kvs) ∧ H' wp = some (.lst (strV (st.reverse.map (·.1)))) ∧ (∀ n ∈ os, n ∈ ns ∨ n ∈ st.map (·.1)),
        fun _ _ z => z, ?_⟩
      refine ⟨_, rfl, _, rfl, wp, _, -1, .str n, rfl, rfl, .of hwp, atI_last _ _, ?_⟩
      obtain ⟨tq, gq, htq⟩ := (ht.same s12).gets hhd
      refine ⟨_, rfl, _, rfl, p, _, rfl, gq, tq, rfl, ⟨_, .of htq⟩, fun D1 nD1 => ?_⟩
      have u1 := same_upd (o := .lst []) nD1
      have ntD : tq ≠ D1 := ne_of_none htq nD1
      refine lc_list (K := K) (a := tq) (xs := intV (plc n none 0 d)) (fun i H5 => Keep D1 (upd H2 D1 (.lst [])) H5 ∧ H5 D1 = some (.lst (strV (usN ((it d n).take i)))))
        ⟨Keep.of (Same.refl _), upd_same⟩ (fun i H5 _ ⟨k, _⟩ => .of (k _ _ ntD (u1 _ _ htq))) ?_ ?_
      · rintro i x H5 hi ⟨k5, ho5⟩
        obtain ⟨j, hj, rfl⟩ := intV_at hi
        obtain ⟨l, hli, hld, hlo⟩ := plc_its hj
        have s5 := Keep.same (s12.trans u1) (back s12 nD1) k5
        obtain ⟨xs, pl, ha5, hx, hat⟩ := (hd1.same s5).get hld
        obtain ⟨sk, k0, kh, kp', ku, kc⟩ := k_head l
        have hsn : usN ((it d n).take (i + 1)) = usN ((it d n).take i) ++ (uN l).toList := by
          rw [take_snoc (show (it d n)[i]? = some l from hli)]
          unfold usN
          rw [List.filterMap_append]
          cases z : uN l <;> simp [z]
        have hlen5 : (usN ((it d n).take i)).length ≤ 1000000 := by
          unfold usN
          refine Nat.le_trans (List.length_filterMap_le _ _) ?_
          have := it_len (d := d) n
          rw [List.length_take]
          omega
        refine ⟨rfl, _, rfl, _, rfl, a, _, _, _, rfl, rfl, .of ha5, atI_nat hx, pl, _, _, _, rfl, rfl, .of hat, atI_nat (j := 0) k0, rfl, _, rfl, ?_⟩
        refine if2 (fun h1 => ?_) (fun h1 => ?_)
        · obtain ⟨ii, mm, rfl⟩ := ku.mp (V.str.inj h1)
          refine ⟨_, rfl, _, rfl, a, _, _, _, rfl, rfl, .of ha5, atI_nat hx, pl, _, _, _, rfl, rfl, .of hat, atI_nat (j := 2) rfl, ?_⟩
          refine ⟨_, ho5, by unfold strV; rw [List.length_map]; exact small7 (by omega), k5.trans .upd, ?_⟩
          rw [upd_same, hsn]
          unfold strV
          rw [List.map_append]; rfl
        · refine ⟨k5, ?_⟩
          rw [ho5, hsn]
          have : uN l = none := by
            cases l with
            | use ii mm => exact absurd (congrArg V.str (ku.mpr ⟨ii, mm, rfl⟩)) h1
            | _ => rfl
          rw [this]
          simp
      · rintro H5 ⟨k5, ho5⟩
        have s25 := Keep.same u1 nD1 k5
        have s15 := s12.trans s25
        have e1 : (it d n).take (intV (plc n none 0 d)).length = it d n := by
          unfold intV
          rw [List.length_map, plc_its_len]
          exact List.take_length
        rw [e1] at ho5
        have hkp5 := s25 _ _ hkp
        have hwp5 := s25 _ _ hwp
        refine ⟨_, rfl, D1, rfl, ⟨_, .of ho5⟩, fun D2 nD2 => ?_⟩
        have u2 := same_upd (o := .lst []) nD2
        have n12 : D1 ≠ D2 := ne_of_none ho5 nD2
        have nk2 : kp ≠ D2 := ne_of_none hkp5 nD2
        refine lc_list (K := K) (a := D1) (xs := strV (usN (it d n))) (fun i H6 => Keep D2 (upd H5 D2 (.lst [])) H6 ∧ H6 D2 = some (.lst (strV (((usN (it d n)).take i).filter (fun m => decide (m ∉ ns))))))
          ⟨Keep.of (Same.refl _), upd_same⟩ (fun i H6 _ ⟨k, _⟩ => .of (k _ _ n12 (u2 _ _ ho5))) ?_ ?_
        · rintro i x H6 hi ⟨k6, ho6⟩
          obtain ⟨m, rfl, hm⟩ := str_ix hi
          obtain ⟨o6, g1, g2, g3⟩ := KN.get (n := m) (k6 _ _ nk2 (u2 _ _ hkp5))
          refine ⟨rfl, _, rfl, _, rfl, kp, o6, rfl, g1, _, rfl, ?_⟩
          have hsn : (usN (it d n)).take (i + 1) = (usN (it d n)).take i ++ [m] := by rw [List.take_add_one, hm]; rfl
          by_cases hmn : m ∈ ns
          · rw [g2.mpr hmn]
            refine ⟨k6, ?_⟩
            rw [ho6, hsn, List.filter_append]
            simp [hmn]
          · have : o6.isSome = false := by
              cases z : o6.isSome with
              | false => rfl
              | true => exact absurd (g2.mp z) hmn
            rw [this]
            have hl6 : (((usN (it d n)).take i).filter (fun m => decide (m ∉ ns))).length ≤ 1000000 := by
              refine Nat.le_trans (List.length_filter_le _ _) ?_
              rw [List.length_take]
              have : (usN (it d n)).length ≤ (it d n).length := List.length_filterMap_le _ _
              have := it_len (d := d) n
              omega
            refine ⟨_, rfl, _, ho6, by unfold strV; rw [List.length_map]; exact small7 (by omega), k6.trans .upd, ?_⟩
            rw [upd_same, hsn, List.filter_append]
            unfold strV
            rw [List.map_append]
            simp [hmn]
        · rintro H6 ⟨k6, ho6⟩
          have s56 := Keep.same u2 nD2 k6
          have s16 := s15.trans s56
          have e2 : (usN (it d n)).take (strV (usN (it d n))).length = usN (it d n) := by
            unfold strV
            rw [List.length_map]
            exact List.take_length
          rw [e2] at ho6
          have ho5 := s56 _ _ ho5
          have hkp6 := s56 _ _ hkp5
          have hwp6 := s56 _ _ hwp5
          obtain ⟨o6, g1, g2, g3⟩ := KN.get (n := n) hkp6
          refine ⟨_, rfl, _, rfl, kp, o6, rfl, g1, _, rfl, ?_⟩
          by_cases hn : n ∈ ns
          · rw [g2.mpr hn]
            show if true = true then _ else _
            rw [if_pos rfl]
            refine ⟨_, rfl, .inl ⟨rfl, _, .of hwp6⟩, wp, _, .str n, rfl, rfl, hwp6, ?_, ?_⟩
            · rw [List.length_append]; simp
            refine ⟨_, mL_pop hn hlr, r, kvs, ns, _, _, _, _, _, rfl, rfl, hlr, KN, same_wr s16 n1w, ?_, ?_, fun x hx => ?_⟩
            · rw [upd_ne dkw]; exact hkp6
            · rw [upd_same, List.dropLast_concat]
            · rcases hall x hx with z | z
              · exact .inl z
              · rcases List.mem_cons.mp z with y | y
                · rw [y]; exact .inl hn
                · exact .inr y
          · have : o6.isSome = false := by
              cases z : o6.isSome with
              | false => rfl
              | true => exact absurd (g2.mp z) hn
            rw [this]
            show if false = true then _ else _
            rw [if_neg (by decide)]
            obtain ⟨k', rfl⟩ : ∃ k', kk = k' + 1 := by
              cases kk with
              | zero => cases hts
              | succ k' => exact ⟨k', rfl⟩
            have hevs : evs (ev (body d) k') (it d n) = .ok ts := by rw [← ev_S hhd]; exact hts
            refine ⟨_, rfl, _, .inl ⟨_, .of ho6, rfl⟩, ?_⟩
            cases hf : (usN (it d n)).filter (fun m => decide (m ∉ ns)) with
            | cons m rest =>
              rw [hf] at ho6
              show if true = true then _ else _
              rw [if_pos rfl]
              have hmf : m ∈ (usN (it d n)).filter (fun m => decide (m ∉ ns)) := by rw [hf]; simp
              obtain ⟨hmu, hmn⟩ := List.mem_filter.mp hmf
              have hmn : m ∉ ns := of_decide_eq_true hmn
              obtain ⟨ii, hui⟩ := usN_mem.mp hmu
              obtain ⟨us, hus⟩ := evs_use hevs hui
              have hwl : (strV (r.reverse.map (·.1)) ++ [V.str n]).length < sizeLine := by
                unfold strV
                rw [List.length_append, List.length_map, List.length_map, List.length_reverse, List.length_singleton]
                exact small7 (by omega)
              refine ⟨_, rfl, .inl ⟨rfl, _, .of hwp6⟩, _, rfl, D2, _, _, _, rfl, rfl, .of ho6, atI_nat (j := 0) (v := .str m) rfl, wp, _, _, rfl, rfl, hwp6, hwl, ?_⟩
              refine ⟨_, mL_push (k := k') hn hmn, (m, k') :: (n, k' + 1) :: r, kvs, ns, _, _, _, _, _, rfl, rfl, ⟨by rw [List.length_cons]; omega, ev_head hus, ⟨us, hus⟩, hlv, hhd, ⟨ts, hts⟩, hlr⟩, KN, same_wr s16 n1w, ?_, ?_, fun x hx => ?_⟩
              · rw [upd_ne dkw]; exact hkp6
              · rw [upd_same, strV_snoc, strV_snoc]
              · rcases hall x hx with z | z
                · exact .inl z
                · exact .inr (List.mem_cons_of_mem _ z)
            | nil =>
              show if false = true then _ else _
              rw [if_neg (by decide)]
              have hall2 : ∀ i m, Ln.use i m ∈ it d n → m ∈ ns := fun i m hm => by
                refine Classical.byContradiction fun z => ?_
                have : m ∈ (usN (it d n)).filter (fun m => decide (m ∉ ns)) := List.mem_filter.mpr ⟨usN_mem.mpr ⟨i, hm⟩, decide_eq_true z⟩
                rw [hf] at this
                cases this
              obtain ⟨tq', gq', htq'⟩ := (ht.same s16).gets hhd
              refine ⟨_, rfl, _, rfl, p, _, rfl, gq', tq', _, rfl, .inl (.of htq'), _, rfl, D1, _, rfl, .inl (.of ho5), _, _, rfl, rfl, ?_⟩
              refine ⟨_, rfl, D1, rfl, ⟨_, .of ho5⟩, fun D3 nD3 => ?_⟩
              have u3 := same_upd (o := .lst []) nD3
              have n13 : D1 ≠ D3 := ne_of_none ho5 nD3
              have nk3 : kp ≠ D3 := ne_of_none hkp6 nD3
              refine lc_list (K := K) (a := D1) (xs := strV (usN (it d n))) (fun i H7 => Keep D3 (upd H6 D3 (.lst [])) H7 ∧ H7 D3 = some (.lst ((((usN (it d n)).take i).map (vK kvs)).map V.int)))
                ⟨Keep.of (Same.refl _), upd_same⟩ (fun i H6 _ ⟨k, _⟩ => .of (k _ _ n13 (u3 _ _ ho5))) ?_ ?_
              · rintro i x H7 hi ⟨k7, ho7⟩
                obtain ⟨m, rfl, hm⟩ := str_ix hi
                obtain ⟨iu, hu⟩ := usN_mem.mp (List.mem_of_getElem? hm)
                obtain ⟨g3, _⟩ := KN.dget (hall2 iu m hu) (k7 _ _ nk3 (u3 _ _ hkp6))
                have hl7 : ((usN (it d n)).take i).length ≤ 1000000 := by
                  rw [List.length_take]
                  have : (usN (it d n)).length ≤ (it d n).length := List.length_filterMap_le _ _
                  have := it_len (d := d) n
                  omega
                refine ⟨rfl, _, rfl, _, rfl, kp, _, rfl, g3, _, ho7, by rw [List.length_map, List.length_map]; exact small7 (by omega), k7.trans .upd, ?_⟩
                have hsn : (usN (it d n)).take (i + 1) = (usN (it d n)).take i ++ [m] := by rw [List.take_add_one, hm]; rfl
                rw [upd_same, hsn, List.map_append, List.map_append]
                rfl
              · rintro H7 ⟨k7, ho7⟩
                have s67 := Keep.same u3 nD3 k7
                rw [show (usN (it d n)).take (strV (usN (it d n))).length = usN (it d n) by
                  unfold strV
                  rw [List.length_map]
                  exact List.take_length] at ho7
                refine ⟨D3, _, rfl, .of ho7, _, _, rfl, rfl, ?_⟩
                have hkp7 := s67 _ _ hkp6
                have hval : ((intV (plc n none 0 d)).length : Int) - ((strV (usN (it d n))).length : Int) + ((usN (it d n)).map (vK kvs)).sum = (ts.length : Int) := by
                  have := evs_len (v := vK kvs) it_own hevs fun i m us hm hus => by
                    obtain ⟨_, k9, us9, e9, v9⟩ := KN.dget (hall2 i m hm) hkp7
                    rw [v9, ev_same e9 hus]
                  rw [← this]
                  unfold intV strV
                  rw [List.length_map, List.length_map, plc_its_len]
                have room : ns.length + 1 ≤ (ddp (nms d)).length := nodup_le (n :: ns) (ddp (nms d)) (List.nodup_cons.mpr ⟨hn, KN.nd⟩) fun x hx => (nms_mem d x).mpr (by
                  rcases List.mem_cons.mp hx with z | z
                  · rw [z]; exact hhd
                  · exact (KN.val x z).1)
                have hkl : kvs.length < sizeLine := by
                  rw [KN.len]
                  have := ord_len d
                  exact small7 (by omega)
                refine ⟨_, rfl, _, rfl, kp, upd H7 kp (.dK (putK kvs (Sum.inr n : Key) (.int (ts.length : Int)))), rfl, ?_, ?_⟩
                · show DPut H7 kp (.str n) (.int (((intV (plc n none 0 d)).length : Int) - ((strV (usN (it d n))).length : Int) + ((usN (it d n)).map (vK kvs)).sum)) _
                  rw [hval]
                  exact DPut.k (k := (Sum.inr n : Key)) hkp7 hkl
                have hwp8 : upd H7 kp (.dK (putK kvs (Sum.inr n : Key) (.int (ts.length : Int)))) wp = some (.lst (strV (r.reverse.map (·.1)) ++ [V.str n])) := by rw [upd_ne dkw.symm]; exact s67 _ _ hwp6
                refine ⟨_, rfl, .inl ⟨rfl, _, .of hwp8⟩, wp, _, .str n, rfl, rfl, hwp8, ?_, ?_⟩
                · rw [List.length_append]; simp
                refine ⟨_, mL_known (n := n) room hlr, r, _, ns ++ [n], _, _, _, _, _, rfl, rfl, hlr, KN.put hn hhd hts hall2, same_wr (same_wr (s16.trans s67) nkp) n1w, ?_, ?_, fun x hx => ?_⟩
                · rw [upd_ne dkw, upd_same]
                · rw [upd_same, List.dropLast_concat]
                · rcases hall x hx with z | z
                  · exact .inl (List.mem_append_left _ z)
                  · rcases List.mem_cons.mp z with y | y
                    · rw [y]; exact .inl (by simp)
                    · exact .inr y
end
end Wf

end
section
set_option maxHeartbeats 4000000
/-! W44: tangle, length. -/
namespace Wf
open PySem PySem.Spec PyProof.Rows L2 Wr GxR Wg
/-- a line to come: its index, its indent, the length of its path, fuel, its texts -/
structure Itm where
  at' : Nat
  ind : Int
  pl : Nat
  k : Nat
  us : List Str
def flt (st : List Itm) : List Str := st.flatMap fun f => f.us.map (shT f.ind)
/-- the line of an item -/
structure Gd (d : List Ln) (ns : List Str) (K b : Nat) (M : Int) (f : Itm) : Prop where
  i0 : 0 ≤ f.ind
  i1 : f.ind + (f.k : Int) * (b : Int) ≤ M
  p : f.pl + f.k ≤ K
  l : ∃ l, d[f.at']? = some l ∧ l.own = true ∧ evs (ev (body d) f.k) [l] = .ok f.us ∧ ∀ i m, l = .use i m → m ∈ ns
def Stk (d : List Ln) (ns : List Str) (K b : Nat) (M : Int) (L : Nat) : List Itm → Prop
  | [] => True
  | f :: r => r.length + 1 + f.k * d.length ≤ L ∧ Gd d ns K b M f ∧ Stk d ns K b M L r
theorem stk_app {d : List Ln} {ns : List Str} {K b : Nat} {M : Int} {L k : Nat} {r : List Itm} (hr : Stk d ns K b M L r) : ∀ xs : List Itm, (∀ f ∈ xs, Gd d ns K b M f ∧ f.k = k) → r.length + xs.length + k * d.length ≤ L → Stk d ns K b M L (xs ++ r)
  | [], _, _ => hr
  | f :: xs, h, hl => by
    rw [List.length_cons] at hl
    have h1 := h f (by simp)
    refine ⟨?_, h1.1, stk_app hr xs (fun g hg => h g (List.mem_cons_of_mem _ hg)) (by omega)⟩
    show (xs ++ r).length + 1 + f.k * d.length ≤ L
    rw [List.length_append, h1.2]
    omega
def wS (D : Nat) (st : List Itm) : Nat := (st.map fun f => (D + 1) ^ f.k).sum
theorem wS_app (D : Nat) (a b : List Itm) : wS D (a ++ b) = wS D a + wS D b := by unfold wS; rw [List.map_append, List.sum_append]
theorem wS_le {D k : Nat} : ∀ {xs : List Itm}, (∀ f ∈ xs, f.k = k) → wS D xs = xs.length * (D + 1) ^ k
  | [], _ => by simp [wS]
  | f :: xs, h => by
    have ih := wS_le (D := D) fun g hg => h g (List.mem_cons_of_mem _ hg)
    unfold wS at ih ⊢
    rw [List.map_cons, List.sum_cons, ih, h f (by simp), List.length_cons, Nat.add_mul]
    omega
theorem wS_lt {D k : Nat} {f : Itm} {xs r : List Itm} (h : ∀ g ∈ xs, g.k = k) (hf : f.k = k + 1) (hl : xs.length ≤ D) : wS D (xs ++ r) < wS D (f :: r) := by
  rw [wS_app, wS_le h]
  show _ < wS D (f :: r)
  have : wS D (f :: r) = (D + 1) ^ (k + 1) + wS D r := by unfold wS; rw [List.map_cons, List.sum_cons, hf]
  rw [this, Nat.pow_succ]
  have h1 : xs.length * (D + 1) ^ k ≤ D * (D + 1) ^ k := Nat.mul_le_mul_right _ hl
  have h2 : 0 < (D + 1) ^ k := Nat.pow_pos (by omega)
  have h3 : (D + 1) ^ k * (D + 1) = D * (D + 1) ^ k + (D + 1) ^ k := by rw [Nat.mul_add, Nat.mul_one, Nat.mul_comm]
  omega
theorem wS_pop {D : Nat} {f : Itm} {r : List Itm} : wS D r < wS D (f :: r) := by
  have : wS D (f :: r) = (D + 1) ^ f.k + wS D r := by unfold wS; rw [List.map_cons, List.sum_cons]
  rw [this]
  have h2 : 0 < (D + 1) ^ f.k := Nat.pow_pos (by omega)
  omega
/-- the texts, line by line -/
theorem evs_parts {f : Str → R} : ∀ {ls : List Ln} {ts : List Str}, evs f ls = .ok ts → ∃ uss : List (List Str), uss.length = ls.length ∧ (∀ (c : Nat) (l : Ln) (us : List Str), ls[c]? = some l → uss[c]? = some us → evs f [l] = .ok us) ∧ uss.flatten = ts
  | [], ts, h => by cases h; exact ⟨[], rfl, (fun c l us h => by cases h), rfl⟩
  | l :: r, ts, h => by
    rw [show l :: r = [l] ++ r from rfl, evs_append] at h
    obtain ⟨us, vs, h1, h2, e⟩ := seq_ok h
    obtain ⟨uss, l1, l2, l3⟩ := evs_parts h2
    refine ⟨us :: uss, by rw [List.length_cons, List.length_cons, l1], fun c l' us' h3 h4 => ?_, by rw [List.flatten_cons, l3, e]⟩
    cases c with
    | zero => cases h3; cases h4; exact h1
    | succ c => exact l2 c l' us' h3 h4
/-- the items of a piece's lines -/
def itms (ps : List Nat) (uss : List (List Str)) (ind : Int) (pl k : Nat) : List Itm := (ps.zip uss).map fun p => ⟨p.1, ind, pl, k, p.2⟩
theorem itms_len {ps : List Nat} {uss : List (List Str)} (h : uss.length = ps.length) (ind : Int) (pl k : Nat) : (itms ps uss ind pl k).length = ps.length := by
  unfold itms
  rw [List.length_map, List.length_zip, h, Nat.min_self]
theorem itms_flt (ind : Int) (pl k : Nat) : ∀ {ps : List Nat} {uss : List (List Str)}, uss.length = ps.length → flt (itms ps uss ind pl k) = uss.flatten.map (shT ind)
  | [], [], _ => rfl
  | p :: ps, us :: uss, h => by
    have ih := itms_flt ind pl k (ps := ps) (uss := uss) (by simpa using h)
    show us.map (shT ind) ++ flt (itms ps uss ind pl k) = _
    rw [ih, List.flatten_cons, List.map_append]
  | [], _ :: _, h => by cases h
  | _ :: _, [], h => by cases h
theorem itms_at {ps : List Nat} {uss : List (List Str)} {ind : Int} {pl k c j : Nat} {us : List Str} (h1 : ps[c]? = some j) (h2 : uss[c]? = some us) : (itms ps uss ind pl k)[c]? = some ⟨j, ind, pl, k, us⟩ := by
  unfold itms
  rw [List.getElem?_map, show (ps.zip uss)[c]? = some (j, us) from List.getElem?_zip_eq_some.mpr ⟨h1, h2⟩]
  rfl
theorem itms_mem {ps : List Nat} {uss : List (List Str)} {ind : Int} {pl k : Nat} {f : Itm} (h : f ∈ itms ps uss ind pl k) : ∃ c : Nat, ps[c]? = some f.at' ∧ uss[c]? = some f.us ∧ f.ind = ind ∧ f.pl = pl ∧ f.k = k := by
  unfold itms at h
  obtain ⟨p, hp, e⟩ := List.mem_map.mp h
  obtain ⟨c, hc, e2⟩ := List.getElem_of_mem hp
  have := List.getElem?_eq_getElem hc
  rw [e2] at this
  obtain ⟨z1, z2⟩ := List.getElem?_zip_eq_some.mp this
  rw [← e]
  exact ⟨c, z1, z2, rfl, rfl, rfl⟩
/-- the items of a told piece are good -/
theorem gd_itms {d : List Ln} {ns : List Str} {K b : Nat} {M ind : Int} {k pl : Nat} {m : Str} {uss : List (List Str)} (hi : 0 ≤ ind) (h1 : ind + (k : Int) * (b : Int) ≤ M) (hp : pl + k ≤ K)
    (hu : ∀ (c : Nat) (l : Ln) (us : List Str), (it d m)[c]? = some l → uss[c]? = some us → evs (ev (body d) k) [l] = .ok us) (hn : ∀ i x, Ln.use i x ∈ it d m → x ∈ ns) :
    ∀ f ∈ itms (plc m none 0 d) uss ind pl k, Gd d ns K b M f ∧ f.k = k := fun f hf => by
  obtain ⟨c, c1, c2, e1, e2, e3⟩ := itms_mem hf
  obtain ⟨l, l1, l2, l3⟩ := plc_its c1
  refine ⟨⟨by rw [e1]; exact hi, by rw [e1, e3]; exact h1, by rw [e2, e3]; exact hp, l, l2, l3, ?_, fun i x e => ?_⟩, e3⟩
  · rw [e3]; exact hu c l _ l1 c2
  · rw [e] at l1
    exact hn i x (List.mem_of_getElem? l1)
def ItAt (H : Hp) (q : Addr) (f : Itm) : Prop := ∃ pp xs, H q = some (.tup [.int (f.at' : Int), .int f.ind, .ref pp]) ∧ H pp = some (.tup xs) ∧ xs.length = f.pl
theorem ItAt.kt {H H' : Hp} {q : Addr} {f : Itm} (h : ItAt H q f) (k : KT H H') : ItAt H' q f := by
  obtain ⟨pp, xs, h1, h2, h3⟩ := h
  exact ⟨pp, xs, k _ _ h1, k _ _ h2, h3⟩
theorem PgAt.kt {H H' : Hp} {q : Addr} {t : Str} (h : PgAt H q t) (k : KT H H') : PgAt H' q t := by
  obtain ⟨v, w, e⟩ := h
  exact ⟨v, w, k _ _ e⟩
theorem catT {K : PySem.W.Frag} {H : Hp} {a b : Addr} {xs : List V} {y : V} {Q : VK} (hx : H a = some (.tup xs)) (hy : H b = some (.tup [y])) (hl : xs.length + 1 ≤ sizeLine)
    (h : ∀ H' p, Same H H' → H' p = some (.tup (xs ++ [y])) → Q (.ref p) H') : rCatA K (.ref a) (.ref b) H Q := by
  refine ⟨a, b, xs, [y], rfl, rfl, .of hx, .of hy, hl, fun e => ?_, fun _ e => (by cases e), fun _ _ p np => h _ p (same_upd np) upd_same⟩
  refine h H b (Same.refl _) ?_
  rw [e]
  exact hy
theorem drop_rev {α : Type} {xs : List α} {j : Nat} {x : α} (h : xs[j]? = some x) : (xs.drop j).reverse = (xs.drop (j + 1)).reverse ++ [x] := by
  have hlt : j < xs.length := (List.getElem?_eq_some_iff.mp h).1
  rw [List.drop_eq_getElem_cons hlt, List.reverse_cons]
  congr 2
  exact Option.some.inj ((List.getElem?_eq_getElem hlt).symm.trans h)
theorem intV_get {ps : List Nat} {j : Nat} {x : V} (h : (intV ps)[j]? = some x) : ∃ n, ps[j]? = some n ∧ x = .int (n : Int) := intV_at h
theorem KT.trans {H H1 H2 : Hp} (a : KT H H1) (b : KT H1 H2) : KT H H2 := fun c x h => b c x (a c x h)
theorem flt_app (a b : List Itm) : flt (a ++ b) = flt a ++ flt b := by unfold flt; rw [List.flatMap_append]
theorem flt_cons (f : Itm) (r : List Itm) : flt (f :: r) = f.us.map (shT f.ind) ++ flt r := by unfold flt; rw [List.flatMap_cons]
theorem TabAt.getsS {H : Hp} {p : Addr} {d : List Ln} {n : Str} (h : TabAt H p d) (hn : Ln.head n ∈ d) : ∃ q, H q = some (.lst (intV (plc n none 0 d))) ∧ ∀ H', Same H H' → DGet H' p (.str n) (some (.ref q)) := by
  obtain ⟨kvs, _, t⟩ := h
  obtain ⟨q, h1, xs, h2, h3⟩ := t.has n hn
  refine ⟨q, by rw [h2, h3], fun H' s => ?_⟩
  have := DGet.k (k := (Sum.inr n : Key)) (s _ _ t.dc)
  rw [h1] at this
  exact this
theorem shT_zero (t : Str) : shT 0 t = t := by
  unfold shT
  by_cases h : t = mt
  · rw [if_pos h, h]
  · rw [if_neg h]
    refine T.ext ?_
    rw [app_toList]
    rfl
abbrev s44 : Stmt := topS 44
abbrev n44 : List Str := ["document", "root", "known", "table", "program", "waiting", "at", "indent", "path", "line", "inner"]
theorem sc44 : FnScope n44 ["document", "root"] (defScope s44) := ⟨rfl, rfl, rfl, by decide +kernel, rfl, by decide +kernel, by decide +kernel⟩
def sp44 : Sp := fun vs H Q E => ∃ (a : Addr) (d : List Ln) (root : Str) (b k : Nat) (ts : List Str), vs = [.ref a, .str root] ∧ DocAt H a d ∧ okd none d ∧ d.length ≤ 120 ∧ (∀ l ∈ d, Sml b l) ∧ b ≤ 8192 ∧ root.length ≤ 1000 ∧ ev (body d) k root = .ok ts ∧ ts.length ≤ 2000 ∧
  ∀ H' p ps, Same H H' → H' p = some (.lst (ps.map V.ref)) → Paired (PgAt H') ps ts → Q (.ref p) H'
section
variable {P : Program} {w : World} {K : PySem.W.Frag} {mg : Str → Option Value} {base : Heap} {e : Es}
theorem ok44 (T : Ty P K mg base e) : Has P w K mg base (L2.CX P w) 4 "tangle" ["document", "root"] sp44 := by
  obtain ⟨f, fd, F, g⟩ := T.df 28 _ rfl
  refine ⟨f, fd, ?_, g, F.kp, F.binds fun _ _ _ _ _ _ us hl => match us, hl with | [_, _], _ => rfl⟩
  obtain ⟨tk2, hnm⟩ := T.lmost
  refine Fun.okX F sc44 (fun vs H Q E h => ?_) (fun cdv A outer s H vs Q E hr h => ?_)
  · obtain ⟨a, d, r, b, k, ts, rfl, _⟩ := h
    rfl
  · obtain ⟨a, d, root, b, k, ts, rfl, hd, okD, hlen, hsm, hb, hrl, hev, htl, q⟩ := h
    refine ⟨_, pss_cons (ps_set (i := 2) sc44.nd rfl (.inl rfl) (pe_has (ok41 T.toTx) hr (by rfl) (pa_cons (pv 0) (pa_cons (pe_hasX (E := E) (ok15 T) hr (by rfl) (passes_call (takes_of rfl rfl rfl rfl) (fun _ _ _ _ h => h)) (pa_cons (pv 0) (pa_cons (pv 1) pa_nil))) pa_nil))))
      (pss_cons (ps_if (pt_cmpR op_gt (pe_dget (hu_of hr) (pv 2) (pv 1) (fun _ _ => rfl)) (pe_glob (v := .int 2000) (by rfl) hnm ⟨_, rfl⟩) (nomark _)) (pss_one ps_never) pss_nil)
      (pss_cons (ps_set (i := 3) sc44.nd rfl (.inl rfl) (pe_has (ok13 T.toTx) hr (by rfl) (pa_cons (pv 0) pa_nil)))
      (pss_cons (ps_set (i := 4) sc44.nd rfl (.inl rfl) (pe_lst pa_nil))
      (pss_cons (ps_setLc (i := 5) (own := [("at", 6)]) (g := gName 6) rfl sc44.nd rfl rfl (sw_true rfl rfl rfl (by decide +kernel)) (RT.pi_revA (by rfl) T.rev (pe_dget (hu_of hr) (pv 3) (pv 1) (fun _ _ => rfl))) (blkOk_by (N := n44) (own := [("at", 6)]) (sc := defScope s44) (by decide +kernel))
          (fun _ _ _ _ _ => pg_name (i := 6) sc44.nd rfl (Or.inl rfl)) (fun _ _ _ _ _ => pts_nil) (fun _ _ _ _ _ => pe_tup (pa_cons (pv 6) (pa_cons pe_int (pa_cons (pe_tup pa_nil) pa_nil)))))
      (pss_cons (ps_while (passes_of rfl) (pt_truth (pv 5) (fun _ => rfl))
        (pss_cons (ps_asg (pe_bm0 PySem.F.plainAttrs_list PySem.F.slot_list_pop PySem.F.type_list_pop mt_pop (pv 5)) (pg_tup rfl (pgs_cons (pg_name (i := 6) sc44.nd rfl (.inl rfl)) (pgs_cons (pg_name (i := 7) sc44.nd rfl (.inl rfl)) (pgs_cons (pg_name (i := 8) sc44.nd rfl (.inl rfl)) pgs_nil)))))
        (pss_cons (ps_set (i := 9) sc44.nd rfl (.inl rfl) (pe_ix ix_tup (pv 0) (pv 6) (fun _ _ => rfl)))
        (pss_one (ps_if (pt_cmpR op_eq (pe_ix ix_tup (pv 9) pe_int (fun _ _ => rfl)) pe_str (nomark _))
          (pss_one (ps_expr (pe_bm PySem.F.plainAttrs_list PySem.F.slot_list_append PySem.F.type_list_append mt_append (pv 4) (pa_cons (pe_tup (pa_cons (pe_has (ok43 T.toTx) hr (by rfl) (pa_cons (pv 7) (pa_cons (pe_ix ix_tup (pv 9) pe_int (fun _ _ => rfl)) pa_nil))) (pa_cons (pv 6) (pa_cons (pv 8) pa_nil)))) pa_nil))))
          (pss_one (ps_if (pt_cmpR op_gt (pe_dget (hu_of hr) (pv 2) (pe_ix ix_tup (pv 9) pe_int (fun _ _ => rfl)) (fun _ _ => rfl)) pe_int (nomark _))
            (pss_one (ps_for (passes_of rfl) rfl (RT.pi_revA (by rfl) T.rev (pe_dget (hu_of hr) (pv 3) (pe_ix ix_tup (pv 9) pe_int (fun _ _ => rfl)) (fun _ _ => rfl))) (pg_name (i := 10) sc44.nd rfl (.inl rfl))
              (pss_one (ps_expr (pe_bm PySem.F.plainAttrs_list PySem.F.slot_list_append PySem.F.type_list_append mt_append (pv 5) (pa_cons (pe_tup (pa_cons (pv 10) (pa_cons (pe_op op_add (pv 7) (pe_ix ix_tup (pv 9) pe_int (fun _ _ => rfl))) (pa_cons (pe_op op_catA (pv 8) (pe_tup (pa_cons (pv 6) pa_nil))) pa_nil)))) pa_nil))))))
            pss_nil)))))))
      (pss_one (ps_ret (pv 4)))))))), ?_⟩
    have nmiss : ¬ ∃ k, ev (body d) k root = .miss := fun ⟨j, z⟩ => by
      have h1 := le_eq (ev_mono (body d) (Nat.le_max_left j k) root) z (by intro z; cases z)
      have h2 := le_eq (ev_mono (body d) (Nat.le_max_right j k) root) hev (by intro z; cases z)
      rw [h1] at h2; cases h2
    obtain ⟨us0, hus0⟩ := fuel_one ⟨k, ts, hev⟩
    have e0 : us0 = ts := ev_same hus0 hev
    rw [e0] at hus0
    have hhd := ev_head hev
    rw [ev_S hhd] at hus0
    refine ⟨_, rfl, _, rfl, _, rfl, a, d, root, b, rfl, hd, okD, by omega, hsm, hrl, fun H1 po order s1 npo hpo _ hro hall hnd => ?_, fun H' dd s => ⟨fun z => absurd hhd z, fun _ z => absurd z nmiss, fun z => by have := z k; rw [hev] at this; cases this⟩⟩
    have hol : order.length ≤ d.length := Nat.le_trans (nodup_le order (ddp (nms d)) hnd fun x hx => (nms_mem d x).mpr (hall x hx).1) (ord_len d)
    refine ⟨a, po, d, order, rfl, hd.same s1, okD, by omega, hpo, by omega, hall, fun H2 kp kvs ns s2 nkp hkp KN hns => ?_⟩
    have s02 := s1.trans s2
    have hrn := hns root hro
    obtain ⟨gk, kk, tk, ek, vk⟩ := KN.dget hrn hkp
    have ek2 : tk = ts := ev_same ek hev
    rw [ek2] at vk
    refine ⟨_, rfl, _, rfl, kp, _, rfl, gk, _, _, rfl, rfl, _, rfl, ?_⟩
    refine ifN (by omega) ?_
    refine ⟨_, rfl, a, d, rfl, hd.same s02, okD, by omega, fun H3 p s3 np ht => ?_⟩
    refine ⟨Nat.zero_le _, fun op nop => ?_⟩
    have t1 := same_upd (o := .lst []) nop
    obtain ⟨tq, gq, htq⟩ := (ht.same t1).gets hhd
    refine ⟨_, rfl, _, rfl, p, _, rfl, gq, tq, _, rfl, .inl ⟨.of htq, fun wp nwp => ?_⟩⟩
    have t2 := same_upd (o := .lst []) nwp
    have ntw : tq ≠ wp := ne_of_none htq nwp
    obtain ⟨uss, ul, up, uf⟩ := evs_parts hus0
    have hul : uss.length = (plc root none 0 d).length := by rw [ul, plc_its_len]
    have hgd := gd_itms (K := d.length) (b := b) (M := (d.length : Int) * (b : Int)) (ind := 0) (pl := 0) (m := root) (ns := ns) (Int.le_refl _) (by omega) (by omega) up (fun i x hx => KN.cl root hrn i x hx)
    have hil := itms_len (ps := plc root none 0 d) hul 0 0 d.length
    generalize hitm : itms (plc root none 0 d) uss 0 0 d.length = items at hgd hil
    have hflt0 := itms_flt 0 0 d.length hul
    rw [hitm, uf] at hflt0
    have hts0 : flt items = ts := by
      rw [hflt0]
      conv => rhs; rw [← List.map_id ts]
      exact List.map_congr_left fun t _ => shT_zero t
    have hpl := plc_length root none 0 d
    refine lc_it (G := fun H => SqL K H tq (intV (plc root none 0 d))) (n := (intV (plc root none 0 d)).length) walk_rev (fun i H5 => ∃ qs, Keep wp (upd (upd H3 op (.lst [])) wp (.lst [])) H5 ∧ H5 wp = some (.lst (qs.map V.ref)) ∧ Paired (ItAt H5) qs ((items.drop (items.length - i)).reverse))
      ⟨[], Keep.of (Same.refl _), upd_same, by rw [Nat.sub_zero, List.drop_length]; exact .nil⟩ (fun i H5 _ ⟨_, k, _⟩ => .of (k _ _ ntw (t2 _ _ htq))) ?_ ?_
    · rintro i x H5 H5' hi ⟨qs, k5, hw5, hq5⟩ ⟨rfl, hx⟩
      obtain ⟨j, hj, rfl⟩ := intV_get hx
      have hil2 : (intV (plc root none 0 d)).length = items.length := by unfold intV; rw [List.length_map, hil]
      rw [hil2] at hi hj
      have hit : ∃ us, items[items.length - 1 - i]? = some ⟨j, 0, 0, d.length, us⟩ := by
        have hlt : items.length - 1 - i < uss.length := by rw [hul, ← hil]; omega
        rw [← hitm] at hj ⊢
        exact ⟨_, itms_at hj (List.getElem?_eq_getElem (by rw [hitm]; exact hlt))⟩
      obtain ⟨us, hit⟩ := hit
      refine ⟨rfl, _, rfl, by show 0 ≤ sizeLine; decide, fun r1 nr1 => ⟨by show 3 ≤ sizeLine; decide, fun r2 nr2 => ?_⟩⟩
      have v1 := same_upd (o := .tup []) nr1
      have v2 := same_upd (o := .tup [.int (j : Int), .int 0, .ref r1]) nr2
      have hw6 := v2 _ _ (v1 _ _ hw5)
      have hql := hq5.length
      rw [List.length_reverse, List.length_drop] at hql
      refine ⟨_, hw6, by rw [List.length_map]; exact small7 (by omega), qs ++ [r2], (k5.trans (Keep.of (v1.trans v2))).trans .upd, by rw [upd_same, List.map_append]; rfl, ?_⟩
      have kt : KT H5' (upd (upd (upd H5' r1 (.tup [])) r2 (.tup [.int (j : Int), .int 0, .ref r1])) wp (.lst (qs.map V.ref ++ [.ref r2]))) := KT.wr (KT.of (v1.trans v2)) hw6 (by intro ys z; cases z)
      rw [show items.length - (i + 1) = items.length - 1 - i by omega, drop_rev hit, show items.length - 1 - i + 1 = items.length - i by omega]
      have n2w : r2 ≠ wp := fun z => by rw [z, v1 _ _ hw5] at nr2; cases nr2
      have n1w : r1 ≠ wp := fun z => by rw [z, hw5] at nr1; cases nr1
      refine Paired.snoc' (Paired.mono (fun _ _ z => z.kt kt) hq5) ⟨r1, [], ?_, ?_, rfl⟩
      · rw [upd_ne n2w, upd_same]
      · rw [upd_ne n1w]; exact v2 _ _ upd_same
    · rintro H5 ⟨qs0, k5, hw5, hq5⟩
      have hil2 : (intV (plc root none 0 d)).length = items.length := by unfold intV; rw [List.length_map, hil]
      rw [hil2, Nat.sub_self, List.drop_zero] at hq5
      have s35 : Same H3 H5 := Keep.same (t1.trans t2) (by
        cases z : H3 wp with
        | none => rfl
        | some y => rw [t1 _ _ z] at nwp; cases nwp) k5
      have hop5 : H5 op = some (.lst []) := k5 _ _ (fun z => by rw [← z, upd_same] at nwp; cases nwp) (t2 _ _ upd_same)
      have dow : op ≠ wp := fun z => by rw [← z, upd_same] at nwp; cases nwp
      have n3w : H3 wp = none := by
        cases z : H3 wp with
        | none => rfl
        | some y => rw [t1 _ _ z] at nwp; cases nwp
      generalize hL : d.length + d.length * d.length = L
      have k0 : Stk d ns d.length b ((d.length : Int) * (b : Int)) L items := by
        have := stk_app (L := L) (r := []) (k := d.length) trivial items (fun f hf => hgd f hf) (by show 0 + items.length + _ ≤ _; omega)
        rw [List.append_nil] at this
        exact this
      have hLs : L ≤ 14520 := by
        have : d.length * d.length ≤ 120 * 120 := Nat.mul_le_mul hlen hlen
        omega
      have hMs : (d.length : Int) * (b : Int) ≤ 983040 := by
        have : d.length * b ≤ 120 * 8192 := Nat.mul_le_mul hlen hb
        have h2 : ((d.length * b : Nat) : Int) ≤ ((120 * 8192 : Nat) : Int) := by omega
        rw [Int.natCast_mul] at h2
        exact h2
      generalize hM : (d.length : Int) * (b : Int) = M at *
      have hd3 := hd.same (s02.trans s3)
      refine ⟨fun m σ H' => ∃ out st ps qs y6 y7 y8 y9 y10, σ = [some (.ref a), some (.str root), some (.ref kp), some (.ref p), some (.ref op), some (.ref wp), y6, y7, y8, y9, y10] ∧ m = wS d.length st ∧ Stk d ns d.length b M L st ∧ out ++ flt st = ts ∧ Same H3 H' ∧ H' op = some (.lst (ps.map V.ref)) ∧ Paired (PgAt H') ps out ∧ H' wp = some (.lst (qs.map V.ref)) ∧ Paired (ItAt H') qs st.reverse,
        ⟨_, [], items, [], qs0, none, none, none, none, none, rfl, rfl, k0, hts0, s35, hop5, .nil, hw5, hq5⟩, ?_⟩
      rintro m σ H6 ⟨out, st, ps, qs, y6, y7, y8, y9, y10, rfl, rfl, hS, hts, s36, hop, hps, hwp, hqs⟩
      refine ⟨_, rfl, _, .inl ⟨_, .of hwp, rfl⟩, ?_⟩
      cases st with
      | nil =>
        cases hqs
        show if false = true then _ else _
        rw [if_neg (by decide)]
        refine ⟨_, rfl, ?_⟩
        have : out = ts := by rw [← hts]; exact (List.append_nil out).symm
        rw [this] at hps
        exact q _ op ps ((s02.trans s3).trans s36) hop hps
      | cons f r =>
        rw [List.reverse_cons] at hqs
        obtain ⟨qs', qt, rfl, hq1, hq2⟩ := Paired.snoc_inv hqs
        rw [show (!((qs' ++ [qt]).map V.ref).isEmpty) = true by rw [List.map_append]; simp]
        rw [List.map_append] at hwp
        obtain ⟨hsl, hG, hSr⟩ := hS
        obtain ⟨l, hdl, hown, hevl, hus⟩ := hG.l
        have hjl : f.at' < d.length := (List.getElem?_eq_some_iff.mp hdl).1
        refine ⟨fun σ' H' => ∃ m', m' < wS d.length (f :: r) ∧ ∃ out st ps qs y6 y7 y8 y9 y10, σ' = [some (.ref a), some (.str root), some (.ref kp), some (.ref p), some (.ref op), some (.ref wp), y6, y7, y8, y9, y10] ∧ m' = wS d.length st ∧ Stk d ns d.length b M L st ∧ out ++ flt st = ts ∧ Same H3 H' ∧ H' op = some (.lst (ps.map V.ref)) ∧ Paired (PgAt H') ps out ∧ H' wp = some (.lst (qs.map V.ref)) ∧ Paired (ItAt H') qs st.reverse,
          fun _ _ z => z, ?_⟩
        refine ⟨_, rfl, .inl ⟨rfl, _, .of hwp⟩, wp, _, .ref qt, rfl, rfl, hwp, ?_, ?_⟩
        · show (qs'.map V.ref ++ [V.ref qt])[(qs'.map V.ref ++ [V.ref qt]).length - 1]? = _
          rw [List.length_append]; simp
        have kt : KT H6 (upd H6 wp (.lst (qs'.map V.ref ++ [V.ref qt]).dropLast)) := KT.wr (KT.of (Same.refl _)) hwp (by intro ys z; cases z)
        have s37 : Same H3 (upd H6 wp (.lst (qs'.map V.ref ++ [V.ref qt]).dropLast)) := same_wr s36 n3w
        have hop7 : upd H6 wp (.lst (qs'.map V.ref ++ [V.ref qt]).dropLast) op = some (.lst (ps.map V.ref)) := by rw [upd_ne dow]; exact hop
        have hwp7 : upd H6 wp (.lst (qs'.map V.ref ++ [V.ref qt]).dropLast) wp = some (.lst (qs'.map V.ref)) := by rw [upd_same, List.dropLast_concat]
        have hps7 : Paired (PgAt (upd H6 wp (.lst (qs'.map V.ref ++ [V.ref qt]).dropLast))) ps out := Paired.mono (fun _ _ z => z.kt kt) hps
        have hq17 : Paired (ItAt (upd H6 wp (.lst (qs'.map V.ref ++ [V.ref qt]).dropLast))) qs' r.reverse := Paired.mono (fun _ _ z => z.kt kt) hq1
        obtain ⟨pp, xs, hq27, hpp7, hxl⟩ := ItAt.kt hq2 kt
        show gTup _ _ _ _ _ (upd H6 wp (.lst (qs'.map V.ref ++ [V.ref qt]).dropLast)) _
        generalize upd H6 wp (.lst (qs'.map V.ref ++ [V.ref qt]).dropLast) = H7 at *
        refine ⟨qt, _, rfl, .of hq27, rfl, ?_⟩
        obtain ⟨zs, pl, ha7, hx, hat⟩ := (hd3.same s37).get hdl
        obtain ⟨sk, l0, kh, kp', ku, kc⟩ := k_head l
        refine ⟨_, _, rfl, _, _, rfl, _, _, rfl, rfl, ?_⟩
        refine ⟨_, rfl, _, rfl, a, _, _, _, rfl, rfl, .of ha7, atI_nat hx, ?_⟩
        refine ⟨_, rfl, pl, _, _, _, rfl, rfl, .of hat, atI_nat (j := 0) l0, rfl, _, rfl, ?_⟩
        have hsl2 := hsm l (List.mem_of_getElem? hdl)
        have hib : f.ind ≤ 1000000 := by
          have := hG.i1
          have h2 : 0 ≤ (f.k : Int) * (b : Int) := Int.mul_nonneg (by omega) (by omega)
          omega
        have hxs : xs.length ≤ 120 := by
          have := hG.p
          omega
        refine if2 (fun h1 => ?_) (fun h1 => ?_)
        · obtain ⟨t, rfl⟩ := kc.mp (V.str.inj h1)
          have hus1 : f.us = [t] := by
            have : R.ok ([t] ++ []) = .ok f.us := hevl
            exact (R.ok.inj this).symm
          have htb : t.length ≤ b := hsl2
          refine ⟨_, rfl, .inl ⟨rfl, _, .of hop7⟩, _, rfl, _, rfl, pl, _, _, _, rfl, rfl, .of hat, atI_nat (j := 1) rfl, f.ind, t, rfl, hG.i0, hib, by omega, ?_⟩
          refine ⟨_, rfl, _, rfl, by show 3 ≤ sizeLine; decide, fun r2 nr2 => ?_⟩
          have v2 := same_upd (o := .tup [.str (shT f.ind t), .int (f.at' : Int), .ref pp]) nr2
          have hop8 := v2 _ _ hop7
          have hpl8 : out.length ≤ 2000 := by rw [← hts, List.length_append] at htl; omega
          have n2o : r2 ≠ op := fun z => by rw [z, hop7] at nr2; cases nr2
          refine ⟨op, _, _, rfl, rfl, hop8, by rw [List.length_map, hps7.length]; exact small7 (by omega), ?_⟩
          have kt8 : KT H7 (upd (upd H7 r2 (.tup [.str (shT f.ind t), .int (f.at' : Int), .ref pp])) op (.lst (ps.map V.ref ++ [.ref r2]))) := KT.wr (KT.of v2) hop8 (by intro ys z; cases z)
          refine ⟨_, wS_pop, out ++ [shT f.ind t], r, ps ++ [r2], qs', _, _, _, _, _, rfl, rfl, hSr, ?_, same_wr (s37.trans v2) (by
            cases z : H3 op with
            | none => rfl
            | some y => rw [nop] at z; cases z), by rw [upd_same, List.map_append]; rfl, ?_, by rw [upd_ne dow.symm]; exact v2 _ _ hwp7, Paired.mono (fun _ _ z => z.kt kt8) hq17⟩
          · rw [← hts, flt_cons, hus1, List.append_assoc]; rfl
          · exact Paired.snoc' (Paired.mono (fun _ _ z => z.kt kt8) hps7) ⟨_, _, by rw [upd_ne n2o, upd_same]⟩
        · obtain ⟨ii, mm, rfl⟩ : ∃ i m, l = .use i m := by
            cases l with
            | use i m => exact ⟨i, m, rfl⟩
            | code t => exact absurd (congrArg V.str (kc.mpr ⟨t, rfl⟩)) h1
            | head t => cases hown
            | prose t => cases hown
          obtain ⟨i0, i1, i2⟩ : 0 ≤ ii ∧ ii ≤ (b : Int) ∧ mm.length ≤ 1000 := hsl2
          have hmn := hus ii mm rfl
          obtain ⟨us', us2, hh1, hh2, hh3⟩ := seq_ok (show ((ev (body d) f.k mm).sh ii).seq (R.ok []) = .ok f.us from hevl)
          cases hh2
          rw [List.append_nil] at hh3
          obtain ⟨vs, hvs, hvs2⟩ := sh_ok hh1
          rw [hvs2] at hh3
          have hmd := ev_head hvs
          obtain ⟨k', hk'⟩ : ∃ k', f.k = k' + 1 := by
            cases z : f.k with
            | zero => rw [z] at hvs; cases hvs
            | succ k' => exact ⟨k', rfl⟩
          have hevs : evs (ev (body d) k') (it d mm) = .ok vs := by rw [← ev_S hmd, ← hk']; exact hvs
          have s27 := s3.trans s37
          obtain ⟨gm, km, tm, em, vm⟩ := KN.dget hmn (s27 _ _ hkp)
          have etm : tm = vs := ev_same em hvs
          rw [etm] at vm
          have hfm : f.us.map (shT f.ind) = vs.map (shT (f.ind + ii)) := by
            rw [hh3, List.map_map]
            refine List.map_congr_left fun t _ => ?_
            show shT f.ind (shT ii t) = _
            rw [shT_shT hG.i0 i0, Int.add_comm]
          refine ⟨_, rfl, _, rfl, pl, _, _, _, rfl, rfl, .of hat, atI_nat (j := 2) rfl, kp, _, rfl, gm, _, _, rfl, rfl, _, rfl, ?_⟩
          refine if2 (fun h2 => ?_) (fun h2 => ?_)
          · obtain ⟨t9', ht9, g9⟩ := ht.getsS hmd
            have g9' := g9 _ s37
            have ht9' := s37 _ _ ht9
            refine ⟨_, rfl, _, rfl, pl, _, _, _, rfl, rfl, .of hat, atI_nat (j := 2) rfl, p, _, rfl, g9', t9', _, rfl, .inl ⟨.of ht9', ?_⟩⟩
            obtain ⟨uss2, ul2, up2, uf2⟩ := evs_parts hevs
            have hul2 : uss2.length = (plc mm none 0 d).length := by rw [ul2, plc_its_len]
            have hkb : f.ind + ii + (k' : Int) * (b : Int) ≤ M := by
              have := hG.i1
              rw [hk', Int.natCast_add, Int.add_mul] at this
              have e : ((1 : Nat) : Int) * (b : Int) = (b : Int) := Int.one_mul _
              rw [e] at this
              omega
            have hgd2 := gd_itms (K := d.length) (b := b) (M := M) (ind := f.ind + ii) (pl := f.pl + 1) (m := mm) (ns := ns) (k := k') (by have := hG.i0; omega) hkb (by have := hG.p; omega) up2 (fun i x hx => KN.cl mm hmn i x hx)
            have hil2 := itms_len (ps := plc mm none 0 d) hul2 (f.ind + ii) (f.pl + 1) k'
            have hflt2 := itms_flt (f.ind + ii) (f.pl + 1) k' hul2
            rw [uf2] at hflt2
            have hpl2 := plc_length mm none 0 d
            generalize hitm2 : itms (plc mm none 0 d) uss2 (f.ind + ii) (f.pl + 1) k' = items2 at hgd2 hil2 hflt2
            have hiv : (intV (plc mm none 0 d)).length = items2.length := by unfold intV; rw [List.length_map, hil2]
            have hrl : r.length + 1 + (k' + 1) * d.length ≤ L := by rw [← hk']; exact hsl
            have hrL : r.length + items2.length + k' * d.length ≤ L := by
              rw [Nat.add_mul] at hrl
              omega
            refine for_it (G := fun H => SqL K H t9' (intV (plc mm none 0 d))) (n := (intV (plc mm none 0 d)).length) walk_rev (fun i σ H8 => ∃ y10 qs, σ = [some (.ref a), some (.str root), some (.ref kp), some (.ref p), some (.ref op), some (.ref wp), some (.int (f.at' : Int)), some (.int f.ind), some (.ref pp), some (.ref pl), y10] ∧ KT H7 H8 ∧ Same H3 H8 ∧ H8 op = some (.lst (ps.map V.ref)) ∧ H8 wp = some (.lst (qs.map V.ref)) ∧ Paired (ItAt H8) qs (r.reverse ++ (items2.drop (items2.length - i)).reverse))
              ⟨_, qs', rfl, KT.of (Same.refl _), s37, hop7, hwp7, by rw [Nat.sub_zero, List.drop_length, List.reverse_nil, List.append_nil]; exact hq17⟩ (fun i σ H8 _ ⟨_, _, _, _, s, _⟩ => .of (s _ _ ht9)) ?_ ?_
            · rintro i x σ H8 H8' hi ⟨y10, qs, rfl, kt8, s38, hop8, hwp8, hq8⟩ ⟨rfl, hx8⟩
              obtain ⟨j, hj, rfl⟩ := intV_get hx8
              rw [hiv] at hi hj
              obtain ⟨us, hit⟩ : ∃ us, items2[items2.length - 1 - i]? = some ⟨j, f.ind + ii, f.pl + 1, k', us⟩ := by
                have hlt : items2.length - 1 - i < uss2.length := by rw [hul2, ← hil2]; omega
                rw [← hitm2] at hj ⊢
                exact ⟨_, itms_at hj (List.getElem?_eq_getElem (by rw [hitm2]; exact hlt))⟩
              have hql := hq8.length
              rw [List.length_append, List.length_reverse, List.length_reverse, List.length_drop] at hql
              refine ⟨_, rfl, .inl ⟨rfl, _, .of hwp8⟩, _, rfl, _, rfl, _, rfl, pl, _, _, _, rfl, rfl, .of (kt8 _ _ hat), atI_nat (j := 1) rfl, _, _, rfl, rfl, ?_⟩
              refine ⟨_, rfl, _, rfl, by show 1 ≤ sizeLine; decide, fun r1 nr1 => ?_⟩
              have v1 := same_upd (o := .tup [.int (f.at' : Int)]) nr1
              refine catT (v1 _ _ (kt8 _ _ hpp7)) upd_same (by exact Nat.le_trans (show xs.length + 1 ≤ 121 by omega) (by decide)) fun H9 p9 s9 hp9 => ⟨by show 3 ≤ sizeLine; decide, fun r2 nr2 => ?_⟩
              have v2 := same_upd (o := .tup [.int (j : Int), .int (f.ind + ii), .ref p9]) nr2
              have s89 := v1.trans (s9.trans v2)
              have hwp9 := s89 _ _ hwp8
              refine ⟨wp, _, _, rfl, rfl, hwp9, by rw [List.length_map]; exact small7 (by omega), ?_⟩
              have kt9 : KT H8' (upd (upd H9 r2 (.tup [.int (j : Int), .int (f.ind + ii), .ref p9])) wp (.lst (qs.map V.ref ++ [.ref r2]))) := KT.wr (KT.of s89) hwp9 (by intro ys z; cases z)
              refine ⟨_, qs ++ [r2], rfl, kt8.trans kt9, same_wr (s38.trans s89) n3w, by rw [upd_ne dow]; exact s89 _ _ hop8, by rw [upd_same, List.map_append]; rfl, ?_⟩
              rw [show items2.length - (i + 1) = items2.length - 1 - i by omega, drop_rev hit, show items2.length - 1 - i + 1 = items2.length - i by omega, ← List.append_assoc]
              have n2w : r2 ≠ wp := fun z => by rw [z, s9 _ _ (v1 _ _ hwp8)] at nr2; cases nr2
              have n9w : p9 ≠ wp := fun z => by rw [z, s9 _ _ (v1 _ _ hwp8)] at hp9; cases hp9
              refine Paired.snoc' (Paired.mono (fun _ _ z => z.kt kt9) hq8) ⟨p9, xs ++ [.int (f.at' : Int)], ?_, ?_, ?_⟩
              · rw [upd_ne n2w, upd_same]
              · rw [upd_ne n9w]; exact v2 _ _ hp9
              · rw [List.length_append, hxl]; rfl
            · rintro σ H8 ⟨y10, qs, rfl, kt8, s38, hop8, hwp8, hq8⟩
              rw [hiv, Nat.sub_self, List.drop_zero, ← List.reverse_append] at hq8
              refine ⟨_, wS_lt (k := k') (fun g hg => (hgd2 g hg).2) hk' (by rw [hil2]; exact hpl2), out, items2 ++ r, ps, qs, _, _, _, _, _, rfl, rfl, stk_app hSr items2 hgd2 hrL, ?_, s38, hop8, Paired.mono (fun _ _ z => z.kt kt8) hps7, hwp8, hq8⟩
              rw [← hts, flt_app, hflt2, flt_cons, hfm]
          · have : vs = [] := by
              cases vs with
              | nil => rfl
              | cons x y => rw [vm, List.length_cons] at h2; omega
            refine ⟨_, wS_pop, out, r, ps, qs', _, _, _, _, _, rfl, rfl, hSr, ?_, s37, hop7, hps7, hwp7, hq17⟩
            rw [← hts, flt_cons, hfm, this]; rfl
end
abbrev s42 : Stmt := topS 42
theorem sc42 : FnScope ["document", "root"] ["document", "root"] (defScope s42) := ⟨rfl, rfl, rfl, by decide +kernel, rfl, by decide +kernel, by decide +kernel⟩
def sp42 (e : Es) : Sp := fun vs H Q E => ∃ (a : Addr) (d : List Ln) (root : Str) (b : Nat), vs = [.ref a, .str root] ∧ DocAt H a d ∧ okd none d ∧ d.length ≤ 100000 ∧ (∀ l ∈ d, Sml b l) ∧ root.length ≤ 1000 ∧
  (∀ H' k ts, Same H H' → ev (body d) k root = .ok ts → Q (.int (ts.length : Int)) H') ∧
  (∀ H' dd, Same H H' → (Ln.head root ∉ d → E (.ref e.np) (some dd) H') ∧ (Ln.head root ∈ d → (∃ k, ev (body d) k root = .miss) → E (.ref e.ms) (some dd) H') ∧ ((∀ k, ev (body d) k root = .out) → E (.ref e.rg) (some dd) H'))
section
variable {P : Program} {w : World} {K : PySem.W.Frag} {mg : Str → Option Value} {base : Heap} {e : Es}
theorem ok42 (T : Ty P K mg base e) : Has P w K mg base (L2.CX P w) 4 "length" ["document", "root"] (sp42 e) := by
  obtain ⟨f, fd, F, g⟩ := T.df 26 _ rfl
  refine ⟨f, fd, ?_, g, F.kp, F.binds fun _ _ _ _ _ _ us hl => match us, hl with | [_, _], _ => rfl⟩
  refine Fun.okX F sc42 (fun vs H Q E h => ?_) (fun cdv A outer s H vs Q E hr h => ?_)
  · obtain ⟨a, d, r, b, rfl, _⟩ := h
    rfl
  · obtain ⟨a, d, root, b, rfl, hd, okD, hlen, hsm, hrl, q1, q2⟩ := h
    refine ⟨_, pss_one (ps_ret (pe_dget (hu_of hr) (pe_has (ok41 T.toTx) hr (by rfl) (pa_cons (pv 0) (pa_cons (pe_hasX (E := E) (ok15 T) hr (by rfl) (passes_call (takes_of rfl rfl rfl rfl) (fun _ _ _ _ h => h)) (pa_cons (pv 0) (pa_cons (pv 1) pa_nil))) pa_nil))) (pv 1) (fun _ _ => rfl))), ?_⟩
    refine ⟨_, rfl, _, rfl, _, rfl, a, d, root, b, rfl, hd, okD, hlen, hsm, hrl, fun H1 po order s1 npo hpo hhd hro hall hnd => ?_, fun H' dd s => q2 H' dd s⟩
    have hol : order.length ≤ d.length := Nat.le_trans (nodup_le order (ddp (nms d)) hnd fun x hx => (nms_mem d x).mpr (hall x hx).1) (ord_len d)
    refine ⟨a, po, d, order, rfl, hd.same s1, okD, by omega, hpo, by omega, hall, fun H2 kp kvs ns s2 nkp hkp KN hns => ?_⟩
    obtain ⟨gk, kk, tk, ek, vk⟩ := KN.dget (hns root hro) hkp
    refine ⟨_, rfl, kp, _, rfl, gk, ?_⟩
    rw [vk]
    exact q1 _ kk tk (s1.trans s2) ek
end
end Wf

end
section
set_option maxHeartbeats 4000000
/-! W47: the law's cells, draws, texts. -/
namespace Wf
open PySem PySem.Spec PyProof.Rows L2 Wr GxR Wg
def natV (xs : List Nat) : List V := xs.map fun (n : Nat) => V.int (n : Int)
abbrev s47 : Stmt := topS 47
theorem sc47 : FnScope ["_law_script", "_law_k"] ["_law_script", "_law_k"] (defScope s47) := ⟨rfl, rfl, rfl, by decide +kernel, rfl, by decide +kernel, by decide +kernel⟩
def sp47 (K : PySem.W.Frag) : Sp := fun vs H Q E => ∃ (a : Addr) (ns : List Int) (j : Nat), vs = [.ref a, .int (j : Int)] ∧ SqL K H a (ns.map V.int) ∧ ∀ c : Int, Q (.int c) H
abbrev s48 : Stmt := topS 48
abbrev n48 : List Str := ["_law_cell_here", "_law_count", "_law_found", "_law_is_wide", "_law_k", "_law_mixed"]
theorem sc48 : FnScope n48 ["_law_cell_here", "_law_count"] (defScope s48) := ⟨rfl, rfl, rfl, by decide +kernel, rfl, by decide +kernel, by decide +kernel⟩
def sp48 : Sp := fun vs H Q E => ∃ (c : Int) (n : Nat), vs = [.int c, .int (n : Int)] ∧ n ≤ 100 ∧ ∀ H' p (xs : List Nat), Same H H' → H p = none → xs.length = n → H' p = some (.lst (natV xs)) → Q (.ref p) H'
def TX : List Str := ["", "x", "  y", "x y", "<a", "z>", " ", "if <b> x", "    ", "w", "x", "=q"]
abbrev s49 : Stmt := topS 49
theorem sc49 : FnScope ["_law_draw"] ["_law_draw"] (defScope s49) := ⟨rfl, rfl, rfl, by decide +kernel, rfl, by decide +kernel, by decide +kernel⟩
def sp49 : Sp := fun vs H Q E => ∃ (n : Nat), vs = [.int (n : Int)] ∧ ∀ H' t, Same H H' → t ∈ TX → Q (.str t) H'
section
variable {P : Program} {w : World} {K : PySem.W.Frag} {mg : Str → Option Value} {base : Heap}
theorem ok47 (T : Tx K mg) : Has P w K mg base CX0 1 "_law_cell" ["_law_script", "_law_k"] (sp47 K) := by
  obtain ⟨f, fd, F, g⟩ := T.df 30 _ rfl
  refine ⟨f, fd, ?_, g, F.kp, F.binds fun _ _ _ _ _ _ us hl => match us, hl with | [_, _], _ => rfl⟩
  refine Fun.ok F sc47 (fun vs H Q E h => ?_) (fun cdv A outer s H vs Q E hr h => ?_)
  · obtain ⟨a, ns, j, rfl, _⟩ := h
    rfl
  · obtain ⟨a, ns, j, rfl, hs, q⟩ := h
    refine ⟨_, pss_cons (ps_if (pt_cmpR op_lt (pv 1) (pe_callB call_len_seq (by rfl) T.len PySem.boot_len (pa_cons (pv 0) pa_nil)) (nomark _)) (pss_one (ps_ret (pe_ix ix_list (pv 0) (pv 1) (fun _ _ => rfl)))) pss_nil)
      (pss_one (ps_ret pe_int)), ?_⟩
    refine ⟨_, rfl, _, rfl, a, _, rfl, .inl hs, _, _, rfl, rfl, _, rfl, ?_⟩
    refine if2 (fun h1 => ?_) (fun h1 => ?_)
    · have hj : j < ns.length := by rw [List.length_map] at h1; omega
      exact ⟨_, rfl, _, rfl, a, _, _, _, rfl, rfl, hs, atI_nat (by rw [List.getElem?_map, List.getElem?_eq_getElem hj]; rfl), q _⟩
    · exact q 0
theorem mod_nat {i : Int} {n : Int} (h : 0 < n) : ∃ m : Nat, i % n = (m : Int) ∧ (m : Int) < n := ⟨(i % n).toNat, (Int.toNat_of_nonneg (Int.emod_nonneg i (by omega))).symm, by rw [Int.toNat_of_nonneg (Int.emod_nonneg i (by omega))]; exact Int.emod_lt_of_pos i h⟩
theorem ok48 (T : Tx K mg) : Has P w K mg base CX0 1 "_law_draws" ["_law_cell_here", "_law_count"] sp48 := by
  obtain ⟨f, fd, F, g⟩ := T.df 31 _ rfl
  refine ⟨f, fd, ?_, g, F.kp, F.binds fun _ _ _ _ _ _ us hl => match us, hl with | [_, _], _ => rfl⟩
  refine Fun.ok F sc48 (fun vs H Q E h => ?_) (fun cdv A outer s H vs Q E hr h => ?_)
  · obtain ⟨a, ns, rfl, _⟩ := h
    rfl
  · obtain ⟨c, n, rfl, hn, q⟩ := h
    refine ⟨_, pss_cons (ps_set (i := 2) sc48.nd rfl (.inl rfl) (pe_lst pa_nil))
      (pss_cons (ps_set (i := 3) sc48.nd rfl (.inl rfl) (pe_cmpR op_ge (pv 0) (pe_op op_pow pe_int pe_int) (nomark _)))
      (pss_cons (ps_for PassesOwn.never rfl (pi_range1 (by rfl) T.rng (pa_cons (pv 1) pa_nil)) (pg_name (i := 4) sc48.nd rfl (.inl rfl))
        (pss_one (ps_if (pt_val (pv 3))
          (pss_cons (ps_expr (pe_bm PySem.F.plainAttrs_list PySem.F.slot_list_append PySem.F.type_list_append mt_append (pv 2) (pa_cons (pe_op op_mod (pv 0) pe_int) pa_nil)))
          (pss_one (ps_set (i := 0) sc48.nd rfl (.inl rfl) (pe_op op_fdiv (pv 0) pe_int))))
          (pss_cons (ps_set (i := 5) sc48.nd rfl (.inl rfl) (pe_op op_mod (pe_op op_add (pe_op op_mul (pv 0) pe_int) (pe_op op_mul (pv 4) pe_int)) pe_int))
          (pss_one (ps_expr (pe_bm PySem.F.plainAttrs_list PySem.F.slot_list_append PySem.F.type_list_append mt_append (pv 2) (pa_cons (pe_op op_mod (pe_op op_add (pe_op op_add (pe_op op_mul (pv 5) (pv 5)) (pe_op op_mul (pv 0) pe_int)) (pv 4)) pe_int) pa_nil))))))))
      (pss_one (ps_ret (pv 2))))), ?_⟩
    refine ⟨Nat.zero_le _, fun D nD => ?_⟩
    have s1 := same_upd (o := .lst []) nD
    refine ⟨_, rfl, _, _, rfl, rfl, ⟨by decide, by decide, by decide⟩, _, _, rfl, rfl, ?_⟩
    refine ⟨_, rfl, (n : Int), rfl, by omega, by omega, ?_⟩
    refine for_range (lo := 0) (n := ((n : Int)).toNat) (fun i σ H2 => ∃ c b y4 y5 xs, σ = [some (.int c), some (.int (n : Int)), some (.ref D), some (.bl b), y4, y5] ∧ Same H H2 ∧ xs.length = i ∧ H2 D = some (.lst (natV xs)))
      ⟨c, _, none, none, [], rfl, s1, rfl, upd_same⟩ ?_ ?_
    · rintro i σ H2 hi ⟨c, b, y4, y5, xs, rfl, s2, hl, hD⟩
      have hi2 : i < n := by omega
      have hln : (natV xs).length < sizeLine := by unfold natV; rw [List.length_map]; exact small7 (by omega)
      have fin : ∀ (z : Int) (m : Nat), z = (m : Int) → Same H (upd H2 D (.lst (natV xs ++ [V.int z]))) ∧ (xs ++ [m]).length = i + 1 ∧ upd H2 D (.lst (natV xs ++ [V.int z])) D = some (.lst (natV (xs ++ [m]))) := fun z m hz => by
        refine ⟨same_wr s2 nD, by rw [List.length_append, hl]; rfl, ?_⟩
        rw [upd_same, hz]
        unfold natV
        rw [List.map_append]; rfl
      refine ⟨_, rfl, b, rfl, ?_⟩
      cases b with
      | true =>
        obtain ⟨m, hm, _⟩ := mod_nat (i := c) (n := 1009) (by decide)
        obtain ⟨f1, f2, f3⟩ := fin _ m hm
        refine ⟨_, rfl, .inl ⟨rfl, _, .of hD⟩, _, rfl, _, _, rfl, rfl, (show (0 : Int) < 1009 by decide), D, _, _, rfl, rfl, hD, hln, ?_⟩
        refine ⟨_, rfl, _, _, rfl, rfl, ⟨by decide, by decide⟩, ?_⟩
        exact ⟨_, _, _, _, _, rfl, f1, f2, f3⟩
      | false =>
        have hi4 : (0 : Int) + (i : Int) < 2 ^ 64 := by omega
        refine ⟨_, rfl, _, _, rfl, rfl, .inr ⟨by decide, by decide⟩, _, rfl, _, _, rfl, rfl, .inr ⟨by decide, by decide⟩, _, _, rfl, rfl, _, _, rfl, rfl, (show (0 : Int) < 2147483647 by decide), ?_⟩
        obtain ⟨m0, hm0, hm1⟩ := mod_nat (i := c * 48271 + (0 + (i : Int)) * 69621) (n := 2147483647) (by decide)
        have hmx : (c * 48271 + (0 + (i : Int)) * 69621) % 2147483647 < 2 ^ 64 ∧ -(2 ^ 64) < (c * 48271 + (0 + (i : Int)) * 69621) % 2147483647 := by rw [hm0]; omega
        obtain ⟨m, hm, _⟩ := mod_nat (i := (c * 48271 + (0 + (i : Int)) * 69621) % 2147483647 * ((c * 48271 + (0 + (i : Int)) * 69621) % 2147483647) + c * 31 + (0 + (i : Int))) (n := 1000003) (by decide)
        obtain ⟨f1, f2, f3⟩ := fin _ m hm
        refine ⟨_, rfl, .inl ⟨rfl, _, .of hD⟩, _, rfl, _, rfl, _, _, rfl, rfl, .inr ⟨hmx.2, hmx.1⟩, _, rfl, _, _, rfl, rfl, .inr ⟨by decide, by decide⟩, _, _, rfl, rfl, _, rfl, _, _, rfl, rfl, _, _, rfl, rfl, (show (0 : Int) < 1000003 by decide), D, _, _, rfl, rfl, hD, hln, ?_⟩
        exact ⟨_, _, _, _, _, rfl, f1, f2, f3⟩
    · rintro σ H2 ⟨c, b, y4, y5, xs, rfl, s2, hl, hD⟩
      exact ⟨_, rfl, q _ D xs s2 nD (by rw [hl]; omega) hD⟩
theorem ok49 (T : Tx K mg) : Has P w K mg base CX0 1 "_law_text" ["_law_draw"] sp49 := by
  obtain ⟨f, fd, F, g⟩ := T.df 32 _ rfl
  refine ⟨f, fd, ?_, g, F.kp, F.binds fun _ _ _ _ _ _ us hl => match us, hl with | [_], _ => rfl⟩
  refine Fun.ok F sc49 (fun vs H Q E h => ?_) (fun cdv A outer s H vs Q E hr h => ?_)
  · obtain ⟨a, rfl, _⟩ := h
    rfl
  · obtain ⟨n, rfl, q⟩ := h
    refine ⟨_, pss_one (ps_ret (pe_ix ix_list (pe_lst (pa_cons pe_str (pa_cons pe_str (pa_cons pe_str (pa_cons pe_str (pa_cons pe_str (pa_cons pe_str (pa_cons pe_str (pa_cons pe_str (pa_cons pe_str (pa_cons pe_str (pa_cons pe_str (pa_cons pe_str pa_nil))))))))))))) (pe_op op_mod (pv 0) pe_int) (fun _ _ => rfl))), ?_⟩
    refine ⟨by show 12 ≤ sizeLine; decide, fun l nl => ?_⟩
    obtain ⟨m, hm, hm2⟩ := mod_nat (i := (n : Int)) (n := 12) (by decide)
    have hml : m < TX.length := by show m < 12; omega
    refine ⟨_, rfl, _, _, rfl, rfl, (show (0 : Int) < 12 by decide), l, TX.map V.str, _, .str TX[m], rfl, rfl, .of upd_same, ?_, q _ _ (same_upd nl) (List.getElem_mem hml)⟩
    show atI (TX.map V.str) ((n : Int) % 12) = _
    rw [hm]
    exact atI_nat (by rw [List.getElem?_map, List.getElem?_eq_getElem hml]; rfl)
end
def lt1 (k : Nat) : Str := ⟨#[97 + k]⟩
def PX : List Str := ["", "words", "more words", " <a>"]
/-- a line of the law's documents -/
def LL : Ln → Prop
  | .prose t => t ∈ PX
  | .head n => ∃ k, k < 5 ∧ n = lt1 k
  | .use i n => 0 ≤ i ∧ i ≤ 4 ∧ ∃ k, k < 6 ∧ n = lt1 k
  | .code t => t ∈ TX
def ifB : Stmt → List Stmt
  | .If _ b _ _ => b
  | _ => []
abbrev s50 : Stmt := topS 50
abbrev n50 : List Str := ["_law_draws_here", "_law_current", "_law_calm", "_law_kind", "_law_name"]
theorem sc50 : FnScope n50 ["_law_draws_here", "_law_current", "_law_calm"] (defScope s50) := ⟨rfl, rfl, rfl, by decide +kernel, rfl, by decide +kernel, by decide +kernel⟩
def sp50 : Sp := fun vs H Q E => ∃ (a : Addr) (xs : List Nat) (c : Nat) (b : Bool), vs = [.ref a, .int (c : Int), .bl b] ∧ H a = some (.lst (natV xs)) ∧ xs.length = 5 ∧ c ≤ 4 ∧ ∀ H' p l, Same H H' → At H' p l → LL l → Q (.ref p) H'
theorem nat_at {xs : List Nat} {j : Nat} (h : j < xs.length) : (natV xs)[j]? = some (.int (xs[j] : Int)) := by unfold natV; rw [List.getElem?_map, List.getElem?_eq_getElem h]; rfl
theorem abc5 {k : Nat} (h : k < 5) : atI (Str.ofString "abcde").cps.toList (k : Int) = some (97 + k) := by
  have : ∀ k, k < 5 → (Str.ofString "abcde").cps.toList[k]? = some (97 + k) := by decide +kernel
  exact atI_nat (this k h)
theorem abc6 {k : Nat} (h : k < 6) : atI (Str.ofString "abcdef").cps.toList (k : Int) = some (97 + k) := by
  have : ∀ k, k < 6 → (Str.ofString "abcdef").cps.toList[k]? = some (97 + k) := by decide +kernel
  exact atI_nat (this k h)
def IX : List Int := [0, 0, 2, 4, 1]
theorem ix_ok : ∀ i ∈ IX, 0 ≤ i ∧ i ≤ 4 := by decide
section
variable {P : Program} {w : World} {K : PySem.W.Frag} {mg : Str → Option Value} {base : Heap}
theorem ok50 (T : Tx K mg) : Has P w K mg base CX0 2 "_law_line" ["_law_draws_here", "_law_current", "_law_calm"] sp50 := by
  obtain ⟨f, fd, F, g⟩ := T.df 33 _ rfl
  refine ⟨f, fd, ?_, g, F.kp, F.binds fun _ _ _ _ _ _ us hl => match us, hl with | [_, _, _], _ => rfl⟩
  refine Fun.ok F sc50 (fun vs H Q E h => ?_) (fun cdv A outer s H vs Q E hr h => ?_)
  · obtain ⟨a, _, _, _, rfl, _⟩ := h
    rfl
  · obtain ⟨a, xs, c, b, rfl, ha, hl, hc, q⟩ := h
    have hcode : ∃ tf, PSs (cxOf CX0 P w K mg base n50 "_law_line" (defScope s50) f cdv A outer s H E).nox (List.drop 4 (defBody s50)) tf ∧ ∀ y4 y5, tf { nx := fun _ H' => Q .non H', rt := Q } [some (.ref a), some (.int (c : Int)), some (.bl b), y4, y5] H := by
      refine ⟨_, pss_one (ps_ret (pe_tup (pa_cons pe_str (pa_cons (pe_has (ok49 T) hr (by rfl) (pa_cons (pe_ix ix_list (pv 0) pe_int (fun _ _ => rfl)) pa_nil)) pa_nil)))), fun y4 y5 => ?_⟩
      refine ⟨_, rfl, a, _, _, _, rfl, rfl, .of ha, atI_nat (j := 4) (nat_at (by omega)), _, rfl, fun H1 t s1 ht => ⟨by show 2 ≤ sizeLine; decide, fun p np => ?_⟩⟩
      exact q _ p (.code t) (s1.trans (same_upd np)) upd_same ht
    obtain ⟨tf, hrest, fin⟩ := hcode
    have lenAt : ∀ {j : Nat} (hj : j < xs.length), atI (natV xs) (j : Int) = some (.int (xs[j] : Int)) := fun hj => atI_nat (nat_at hj)
    have z5 : (Str.ofString "abcde").length ≤ sizeLine := by decide +kernel
    have z6 : (Str.ofString "abcdef").length ≤ sizeLine := by decide +kernel
    have hre : ∃ tr, PSs (cxOf CX0 P w K mg base n50 "_law_line" (defScope s50) f cdv A outer s H E).nox (ifB ((ifB ((defBody s50).getD 3 (.Pass ⟨0, 0, 0, 0⟩))).getD 2 (.Pass ⟨0, 0, 0, 0⟩))) tr ∧ ∀ (D : Ends) (y3 : Option V) (nm : Nat), D.rt = Q → nm < 6 → tr D [some (.ref a), some (.int (c : Int)), some (.bl b), y3, some (.int (nm : Int))] H := by
      refine ⟨_, (pss_one (ps_ret (pe_tup (pa_cons pe_str (pa_cons (pe_ix ix_list (pe_lst (pa_cons pe_int (pa_cons pe_int (pa_cons pe_int (pa_cons pe_int (pa_cons pe_int pa_nil)))))) (pe_op op_mod (pe_ix ix_list (pv 0) pe_int (fun _ _ => rfl)) pe_int) (fun _ _ => rfl)) (pa_cons (pe_ix ix_str pe_str (pv 4) (fun _ _ => rfl)) pa_nil)))))), fun D y3 nm hD hn => ?_⟩
      refine ⟨by show 5 ≤ sizeLine; decide, fun l nl => ?_⟩
      have s1 := same_upd (o := .lst (IX.map V.int)) nl
      obtain ⟨m, hm, hm2⟩ := mod_nat (i := (xs[3] : Int)) (n := 5) (by decide)
      have hml : m < IX.length := by show m < 5; omega
      refine ⟨_, rfl, a, _, _, _, rfl, rfl, .of (s1 _ _ ha), lenAt (j := 3) (by omega), _, _, rfl, rfl, (show (0 : Int) < 5 by decide), l, IX.map V.int, _, .int IX[m], rfl, rfl, .of upd_same, ?_, ?_⟩
      · show atI (IX.map V.int) ((xs[3] : Int) % 5) = _
        rw [hm]
        exact atI_nat (by rw [List.getElem?_map, List.getElem?_eq_getElem hml]; rfl)
      refine ⟨_, rfl, _, _, 97 + nm, rfl, rfl, z6, abc6 hn, by show 3 ≤ sizeLine; decide, fun p np => ?_⟩
      obtain ⟨i1, i2⟩ := ix_ok _ (List.getElem_mem hml)
      show D.rt _ _
      rw [hD]
      exact q _ p (.use IX[m] (lt1 nm)) (s1.trans (same_upd np)) upd_same ⟨i1, i2, nm, hn, rfl⟩
    obtain ⟨tr, hret, fr⟩ := hre
    have hus : ∃ tu, PSs (cxOf CX0 P w K mg base n50 "_law_line" (defScope s50) f cdv A outer s H E).nox (List.drop 2 (ifB ((defBody s50).getD 3 (.Pass ⟨0, 0, 0, 0⟩)))) tu ∧ ∀ (D : Ends) (y3 : Option V) (x : Int) (nm : Nat), D.rt = Q → x = (nm : Int) → D.nx [some (.ref a), some (.int (c : Int)), some (.bl b), y3, some (.int x)] H → tu D [some (.ref a), some (.int (c : Int)), some (.bl b), y3, some (.int x)] H := by
      refine ⟨_, pss_one (ps_if (PW.pt (pw_and (pt_cmpR op_lt (pv 4) pe_int (nomark _)) (pw_and1 (PW.pt (pw_or (pt_cmpR op_lt (pv 4) pe_int (nomark _)) (pw_or1 (pt_not (pt_val (pv 2)))))))))
          hret pss_nil), fun D y3 x nm hD hx hn => ?_⟩
      rw [hx] at hn ⊢
      have hn6 : ∀ y3, nm < 6 → tr D [some (.ref a), some (.int (c : Int)), some (.bl b), y3, some (.int (nm : Int))] H := fun y3 h => fr D y3 nm hD h
      refine ⟨_, rfl, _, _, rfl, rfl, _, rfl, ?_⟩
      refine if2 (fun h1 => ?_) (fun h1 => hn)
      refine ⟨_, rfl, _, _, rfl, rfl, _, rfl, ?_⟩
      refine if2 (fun h2 => hn6 _ (by omega)) (fun h2 => ?_)
      refine ⟨_, rfl, b, rfl, ?_⟩
      cases b with
      | false => exact hn6 _ (by omega)
      | true => exact hn
    obtain ⟨tu, huse, fu⟩ := hus
    refine ⟨_, pss_cons (ps_set (i := 3) sc50.nd rfl (.inl rfl) (pe_op op_mod (pe_ix ix_list (pv 0) pe_int (fun _ _ => rfl)) pe_int))
      (pss_cons (ps_if (pt_cmpR op_lt (pv 3) pe_int (nomark _)) (pss_one (ps_ret (pe_tup (pa_cons pe_str (pa_cons (pe_ix ix_list (pe_lst (pa_cons pe_str (pa_cons pe_str (pa_cons pe_str (pa_cons pe_str pa_nil))))) (pe_op op_mod (pe_ix ix_list (pv 0) pe_int (fun _ _ => rfl)) pe_int) (fun _ _ => rfl)) pa_nil))))) pss_nil)
      (pss_cons (ps_if (pt_cmpR op_lt (pv 3) pe_int (nomark _)) (pss_one (ps_ret (pe_tup (pa_cons pe_str (pa_cons (pe_ix ix_str pe_str (pe_op op_mod (pe_ix ix_list (pv 0) pe_int (fun _ _ => rfl)) pe_int) (fun _ _ => rfl)) pa_nil))))) pss_nil)
      (pss_cons (ps_if (pt_cmpR op_lt (pv 3) pe_int (nomark _))
        (pss_cons (ps_set (i := 4) sc50.nd rfl (.inl rfl) (pe_op op_mod (pe_ix ix_list (pv 0) pe_int (fun _ _ => rfl)) pe_int))
        (pss_cons (ps_if (pt_val (pv 2)) (pss_one (ps_set (i := 4) sc50.nd rfl (.inl rfl) (pe_op op_add (pe_op op_add (pv 1) pe_int) (pe_op op_mod (pe_ix ix_list (pv 0) pe_int (fun _ _ => rfl)) pe_int)))) pss_nil)
        huse)) pss_nil)
      hrest))), ?_⟩
    refine ⟨_, rfl, a, _, _, _, rfl, rfl, .of ha, lenAt (j := 0) (by omega), _, _, rfl, rfl, (show (0 : Int) < 11 by decide), ?_⟩
    refine ⟨_, rfl, _, _, rfl, rfl, _, rfl, ?_⟩
    refine if2 (fun h1 => ?_) (fun h1 => ?_)
    · refine ⟨by show 4 ≤ sizeLine; decide, fun l nl => ?_⟩
      have s1 := same_upd (o := .lst (PX.map V.str)) nl
      obtain ⟨m, hm, hm2⟩ := mod_nat (i := (xs[1] : Int)) (n := 4) (by decide)
      have hml : m < PX.length := by show m < 4; omega
      refine ⟨_, rfl, a, _, _, _, rfl, rfl, .of (s1 _ _ ha), lenAt (j := 1) (by omega), _, _, rfl, rfl, (show (0 : Int) < 4 by decide), l, PX.map V.str, _, .str PX[m], rfl, rfl, .of upd_same, ?_, ?_⟩
      · show atI (PX.map V.str) ((xs[1] : Int) % 4) = _
        rw [hm]
        exact atI_nat (by rw [List.getElem?_map, List.getElem?_eq_getElem hml]; rfl)
      refine ⟨by show 2 ≤ sizeLine; decide, fun p np => ?_⟩
      exact q _ p (.prose PX[m]) (s1.trans (same_upd np)) upd_same (List.getElem_mem hml)
    refine ⟨_, rfl, _, _, rfl, rfl, _, rfl, ?_⟩
    refine if2 (fun h2 => ?_) (fun h2 => ?_)
    · obtain ⟨m, hm, hm2⟩ := mod_nat (i := (xs[1] : Int)) (n := 5) (by decide)
      refine ⟨_, rfl, a, _, _, _, rfl, rfl, .of ha, lenAt (j := 1) (by omega), _, _, rfl, rfl, (show (0 : Int) < 5 by decide), _, _, 97 + m, rfl, rfl, z5, ?_, ?_⟩
      · show atI _ ((xs[1] : Int) % 5) = _
        rw [hm]
        exact abc5 (by omega)
      refine ⟨by show 2 ≤ sizeLine; decide, fun p np => ?_⟩
      exact q _ p (.head (lt1 m)) (same_upd np) upd_same ⟨m, by omega, rfl⟩
    refine ⟨_, rfl, _, _, rfl, rfl, _, rfl, ?_⟩
    refine if2 (fun h3 => ?_) (fun h3 => fin _ _)
    obtain ⟨m6, hm6, hm62⟩ := mod_nat (i := (xs[2] : Int)) (n := 6) (by decide)
    obtain ⟨m2, hm2, hm22⟩ := mod_nat (i := (xs[2] : Int)) (n := 2) (by decide)
    refine ⟨_, rfl, a, _, _, _, rfl, rfl, .of ha, lenAt (j := 2) (by omega), _, _, rfl, rfl, (show (0 : Int) < 6 by decide), ?_⟩
    refine ⟨_, rfl, b, rfl, ?_⟩
    cases b with
    | false => exact fu _ _ _ m6 rfl hm6 (fin _ _)
    | true =>
      refine ⟨_, rfl, _, _, rfl, rfl, _, rfl, a, _, _, _, rfl, rfl, .of ha, lenAt (j := 2) (by omega), _, _, rfl, rfl, (show (0 : Int) < 2 by decide), _, _, rfl, rfl, ?_⟩
      exact fu _ _ _ (c + 1 + m2) rfl (by show (c : Int) + 1 + (xs[2] : Int) % 2 = _; rw [hm2]; omega) (fin _ _)
end
end Wf

end
section
set_option maxHeartbeats 4000000
/-! W51: the law's documents. -/
namespace Wf
open PySem PySem.Spec PyProof.Rows L2 Wr GxR Wg
theorem k_own {l : Ln} {sk : Str} (h : (lnV l)[0]? = some (.str sk)) : inV (V.str sk) [V.str (Str.ofString "code"), V.str (Str.ofString "use")] = l.own := by
  show ((Str.ofString "code" == sk) || ((Str.ofString "use" == sk) || false)) = l.own
  rw [Bool.or_false]
  cases l with
  | prose t =>
    rw [← V.str.inj (Option.some.inj h)]
    show _ = false
    decide +kernel
  | head t =>
    rw [← V.str.inj (Option.some.inj h)]
    show _ = false
    decide +kernel
  | use j t =>
    rw [← V.str.inj (Option.some.inj h)]
    show _ = true
    decide +kernel
  | code t =>
    rw [← V.str.inj (Option.some.inj h)]
    show _ = true
    decide +kernel
theorem find5 : ∀ k, k < 5 → Txt.find (Str.ofString "abcde") (lt1 k) = (k : Int) := by decide +kernel
abbrev s51 : Stmt := topS 51
abbrev n51 : List Str := ["_law_script", "_law_at", "_law_count", "_law_calm", "_law_document_here", "_law_current", "_law_is_open", "_law_k", "_law_line_here"]
theorem sc51 : FnScope n51 ["_law_script", "_law_at", "_law_count", "_law_calm"] (defScope s51) := ⟨rfl, rfl, rfl, by decide +kernel, rfl, by decide +kernel, by decide +kernel⟩
def sp51 (K : PySem.W.Frag) : Sp := fun vs H Q E => ∃ (a : Addr) (ns : List Int) (j n : Nat) (b : Bool), vs = [.ref a, .int (j : Int), .int (n : Int), .bl b] ∧ SqL K H a (ns.map V.int) ∧ n ≤ 100 ∧
  ∀ H' p d, Same H H' → DocAt H' p d → okd none d → d.length = n + 1 → (∀ l ∈ d, LL l) → Q (.ref p) H'
def forB : Stmt → List Stmt
  | .For _ _ b _ _ => b
  | _ => []
def opn : Ln → Bool
  | .prose _ => false
  | _ => true
theorem SqL.sm {K : PySem.W.Frag} {H H' : Hp} {a : Addr} {xs : List V} (h : SqL K H a xs) (s : Same H H') : SqL K H' a xs := h.elim (fun h => .inl (h.elim (fun h => .inl (s _ _ h)) fun ⟨o, h⟩ => .inr ⟨o, s _ _ h⟩)) fun h => .inr h
section
variable {P : Program} {w : World} {K : PySem.W.Frag} {mg : Str → Option Value} {base : Heap}
theorem ok51 (T : Tx K mg) : Has P w K mg base CX0 3 "_law_document" ["_law_script", "_law_at", "_law_count", "_law_calm"] (sp51 K) := by
  obtain ⟨f, fd, F, g⟩ := T.df 34 _ rfl
  refine ⟨f, fd, ?_, g, F.kp, F.binds fun _ _ _ _ _ _ us hl => match us, hl with | [_, _, _, _], _ => rfl⟩
  refine Fun.ok F sc51 (fun vs H Q E h => ?_) (fun cdv A outer s H vs Q E hr h => ?_)
  · obtain ⟨a, _, _, _, _, rfl, _⟩ := h
    rfl
  · obtain ⟨a, ns, j, n, b, rfl, ha, hn, q⟩ := h
    have hre : ∃ tf, PSs (cxOf CX0 P w K mg base n51 "_law_document" (defScope s51) f cdv A outer s H E).nox (List.drop 2 (forB ((defBody s51).getD 3 (.Pass ⟨0, 0, 0, 0⟩)))) tf ∧ ∀ (Dn : Ends) (H5 : Hp) (D : Addr) (xs : List V) (cu' : Nat) (op : Bool) (y7 : Option V) (pl : Addr) (l : Ln), At H5 pl l → LL l → cu' ≤ 4 → H5 D = some (.lst xs) → xs.length < sizeLine →
        (∀ cu2 : Nat, cu2 ≤ 4 → Dn.nx [some (.ref a), some (.int (j : Int)), some (.int (n : Int)), some (.bl b), some (.ref D), some (.int (cu2 : Int)), some (.bl (opn l)), y7, some (.ref pl)] (upd H5 D (.lst (xs ++ [.ref pl])))) →
        tf Dn [some (.ref a), some (.int (j : Int)), some (.int (n : Int)), some (.bl b), some (.ref D), some (.int (cu' : Int)), some (.bl op), y7, some (.ref pl)] H5 := by
      refine ⟨_, pss_cons (ps_set (i := 6) sc51.nd rfl (.inl rfl) (pe_cmpR op_ne (pe_ix ix_tup (pv 8) pe_int (fun _ _ => rfl)) pe_str (nomark _)))
        (pss_cons (ps_if (pt_cmpR op_eq (pe_ix ix_tup (pv 8) pe_int (fun _ _ => rfl)) pe_str (nomark _)) (pss_one (ps_set (i := 5) sc51.nd rfl (.inl rfl) (pe_m1 PySem.F.slot_str_find PySem.F.type_str_find mt_find pe_str (pe_ix ix_tup (pv 8) pe_int (fun _ _ => rfl))))) pss_nil)
        (pss_one (ps_expr (pe_bm PySem.F.plainAttrs_list PySem.F.slot_list_append PySem.F.type_list_append mt_append (pv 4) (pa_cons (pv 8) pa_nil))))), fun Dn H5 D xs cu' op y7 pl l hat hl hcu hD hx hn => ?_⟩
      obtain ⟨sk, k0, kh, kp', ku, kc⟩ := k_head l
      refine ⟨_, rfl, pl, _, _, _, rfl, rfl, .of hat, atI_nat (j := 0) k0, rfl, ?_⟩
      have e1 : (!decide (V.str sk = V.str (Str.ofString "prose"))) = opn l := by
        cases l with
        | prose t =>
          have : sk = Str.ofString "prose" := kp'.mpr ⟨t, rfl⟩
          rw [this]; simp [opn]
        | head t => rw [decide_eq_false (fun z => by obtain ⟨t, e⟩ := kp'.mp (V.str.inj z); cases e)]; rfl
        | use i t => rw [decide_eq_false (fun z => by obtain ⟨t, e⟩ := kp'.mp (V.str.inj z); cases e)]; rfl
        | code t => rw [decide_eq_false (fun z => by obtain ⟨t, e⟩ := kp'.mp (V.str.inj z); cases e)]; rfl
      show tSeq _ _ Dn [some (.ref a), some (.int (j : Int)), some (.int (n : Int)), some (.bl b), some (.ref D), some (.int (cu' : Int)), some (.bl (!decide (V.str sk = V.str (Str.ofString "prose")))), y7, some (.ref pl)] H5
      rw [e1]
      refine ⟨_, rfl, pl, _, _, _, rfl, rfl, .of hat, atI_nat (j := 0) k0, rfl, _, rfl, ?_⟩
      refine if2 (fun h1 => ?_) (fun h1 => ?_)
      · obtain ⟨nm, rfl⟩ := kh.mp (V.str.inj h1)
        obtain ⟨k, hk, rfl⟩ := hl
        refine ⟨⟨_, rfl⟩, _, rfl, pl, _, _, _, rfl, rfl, .of hat, atI_nat (j := 1) rfl, _, _, rfl, rfl, ?_⟩
        rw [find5 k hk]
        exact ⟨_, rfl, .inl ⟨rfl, _, .of hD⟩, _, rfl, D, _, _, rfl, rfl, hD, hx, hn k (by omega)⟩
      · exact ⟨_, rfl, .inl ⟨rfl, _, .of hD⟩, _, rfl, D, _, _, rfl, rfl, hD, hx, hn cu' hcu⟩
    obtain ⟨tf, hrest, fr⟩ := hre
    refine ⟨_, pss_cons (ps_set (i := 4) sc51.nd rfl (.inl rfl) (pe_lst (pa_cons (pe_tup (pa_cons pe_str (pa_cons pe_str pa_nil))) pa_nil)))
      (pss_cons (ps_set (i := 5) sc51.nd rfl (.inl rfl) pe_int)
      (pss_cons (ps_set (i := 6) sc51.nd rfl (.inl rfl) pe_bl)
      (pss_cons (ps_for PassesOwn.never rfl (pi_range1 (by rfl) T.rng (pa_cons (pv 2) pa_nil)) (pg_name (i := 7) sc51.nd rfl (.inl rfl))
        (pss_cons (ps_set (i := 8) sc51.nd rfl (.inl rfl) (pe_has (ok50 T) hr (by rfl) (pa_cons (pe_has (ok48 T) hr (by rfl) (pa_cons (pe_has (ok47 T) hr (by rfl) (pa_cons (pv 0) (pa_cons (pe_op op_add (pv 1) (pv 7)) pa_nil))) (pa_cons pe_int pa_nil))) (pa_cons (pv 5) (pa_cons (pv 3) pa_nil)))))
        (pss_cons (ps_if (PW.pt (pw_and (pt_not (pt_val (pv 6))) (pw_and1 (pt_cmpR op_in_seq (pe_ix ix_tup (pv 8) pe_int (fun _ _ => rfl)) (pe_tup (pa_cons pe_str (pa_cons pe_str pa_nil))) rfl))))
            (pss_one (ps_set (i := 8) sc51.nd rfl (.inl rfl) (pe_tup (pa_cons pe_str (pa_cons (pe_ix ix_str pe_str (pe_op op_mod (pe_has (ok47 T) hr (by rfl) (pa_cons (pv 0) (pa_cons (pe_op op_add (pv 1) (pv 7)) pa_nil))) pe_int) (fun _ _ => rfl)) pa_nil))))) pss_nil)
        hrest)))
      (pss_one (ps_ret (pe_callTy call_tuple_of (by rfl) T.tup (by decide +kernel) (pa_cons (pv 4) pa_nil))))))), ?_⟩
    refine ⟨by show 2 ≤ sizeLine; decide, fun r0 nr0 => ⟨by show 1 ≤ sizeLine; decide, fun D nD => ?_⟩⟩
    have s1 := same_upd (o := .tup [.str "head", .str "a"]) nr0
    have s2 := same_upd (o := .lst [.ref r0]) nD
    have nD0 : H D = none := by
      cases z : H D with
      | none => rfl
      | some y => rw [s1 _ _ z] at nD; cases nD
    refine ⟨_, rfl, (n : Int), rfl, by omega, by omega, ?_⟩
    refine for_range (lo := 0) (n := ((n : Int)).toNat) (fun i σ H2 => ∃ (cu' : Nat) (op : Bool) (y7 y8 : Option V) (ls : List Addr) (ds : List Ln), σ = [some (.ref a), some (.int (j : Int)), some (.int (n : Int)), some (.bl b), some (.ref D), some (.int (cu' : Int)), some (.bl op), y7, y8] ∧ Same H H2 ∧ H2 D = some (.lst (ls.map V.ref)) ∧ Paired (At H2) ls ds ∧ ds.length = i + 1 ∧ okd none ds ∧ op = (cu none ds).isSome ∧ (∀ l ∈ ds, LL l) ∧ cu' ≤ 4)
      ⟨0, true, none, none, [r0], [.head (lt1 0)], rfl, s1.trans s2, upd_same, .cons (s2 _ _ upd_same) .nil, rfl, trivial, rfl, fun l hl => by rw [List.mem_singleton.mp hl]; exact ⟨0, by omega, rfl⟩, by omega⟩ ?_ ?_
    · rintro i σ H2 hi ⟨cu', op, y7, y8, ls, ds, rfl, s3, hD, hls, hl, okD, hop, hLL, hcu⟩
      have hi2 : i < n := by omega
      have ha2 := SqL.sm ha s3
      refine ⟨_, rfl, _, rfl, _, rfl, _, _, rfl, rfl, ?_⟩
      have ej : (j : Int) + (0 + (i : Int)) = ((j + i : Nat) : Int) := by omega
      refine ⟨a, ns, j + i, congrArg (fun z : Int => [V.ref a, V.int z]) ej, ha2, fun c => ⟨c, 5, rfl, by omega, fun H3 p xs s4 np hxl hp => ⟨_, rfl, _, rfl, p, xs, cu', b, rfl, hp, hxl, hcu, fun H4 pl l s5 hat hl1 => ?_⟩⟩⟩
      have s35 := s4.trans s5
      have hD4 := s35 _ _ hD
      have hlen : (ls.map V.ref).length < sizeLine := by rw [List.length_map, hls.length, hl]; exact small7 (by omega)
      have fin : ∀ (H5 : Hp) (pl : Addr) (l : Ln), Same H4 H5 → At H5 pl l → LL l → (op = false → l.own = false) → ∀ y7 cu2, cu2 ≤ 4 → ∃ (cu' : Nat) (op : Bool) (y7' y8 : Option V) (ls' : List Addr) (ds : List Ln), [some (.ref a), some (.int (j : Int)), some (.int (n : Int)), some (.bl b), some (.ref D), some (.int ((cu2 : Nat) : Int)), some (.bl (opn l)), y7, some (.ref pl)] = [some (.ref a), some (.int (j : Int)), some (.int (n : Int)), some (.bl b), some (.ref D), some (.int (cu' : Int)), some (.bl op), y7', y8] ∧ Same H (upd H5 D (.lst (ls.map V.ref ++ [V.ref pl]))) ∧ upd H5 D (.lst (ls.map V.ref ++ [V.ref pl])) D = some (.lst (ls'.map V.ref)) ∧ Paired (At (upd H5 D (.lst (ls.map V.ref ++ [V.ref pl])))) ls' ds ∧ ds.length = i + 1 + 1 ∧ okd none ds ∧ op = (cu none ds).isSome ∧ (∀ l ∈ ds, LL l) ∧ cu' ≤ 4 := fun H5 pl l s6 hat hl1 hown y7 cu2 h2 => by
        have hD5 := s6 _ _ hD4
        refine ⟨cu2, opn l, y7, _, ls ++ [pl], ds ++ [l], rfl, same_wr ((s3.trans s35).trans s6) nD0, by rw [upd_same, List.map_append]; rfl, Paired.snoc' (Paired.mono (fun _ _ z => At.wr ((s35.trans s6) _ _ z) hD5) hls) (hat.wr hD5), by rw [List.length_append, hl]; rfl, ?_, ?_, ?_, h2⟩
        · rw [okd_app]
          refine ⟨okD, ?_⟩
          cases l with
          | prose t => exact trivial
          | head t => exact trivial
          | use x y =>
            refine ⟨fun z => ?_, trivial⟩
            rw [z] at hop
            cases hown hop
          | code t =>
            refine ⟨fun z => ?_, trivial⟩
            rw [z] at hop
            cases hown hop
        · rw [cu_app]
          cases l with
          | prose t => rfl
          | head t => rfl
          | use x y =>
            show true = (cu none ds).isSome
            rw [← hop]
            cases op with
            | true => rfl
            | false => cases hown rfl
          | code t =>
            show true = (cu none ds).isSome
            rw [← hop]
            cases op with
            | true => rfl
            | false => cases hown rfl
        · intro x hx
          rcases List.mem_append.mp hx with z | z
          · exact hLL x z
          · rw [List.mem_singleton.mp z]; exact hl1
      refine ⟨_, rfl, _, rfl, ?_⟩
      cases op with
      | true => exact fr _ _ D _ cu' true _ pl l hat hl1 hcu hD4 hlen fun cu2 h2 => fin H4 pl l (Same.refl _) hat hl1 (fun z => by cases z) _ cu2 h2
      | false =>
        obtain ⟨sk, k0, kh, kp', ku, kc⟩ := k_head l
        refine ⟨_, rfl, pl, _, _, _, rfl, rfl, .of hat, atI_nat (j := 0) k0, by show 2 ≤ sizeLine; decide, fun t nt => ⟨t, _, rfl, .inr (.of upd_same), rfl, rfl, _, rfl, ?_⟩⟩
        have st := same_upd (o := .tup [.str "code", .str "use"]) nt
        show if inV (V.str sk) [V.str (Str.ofString "code"), V.str (Str.ofString "use")] = true then _ else _
        rw [k_own k0]
        cases how : l.own with
        | false => exact fr _ _ D _ cu' false _ pl l (st _ _ hat) hl1 hcu (st _ _ hD4) hlen fun cu2 h2 => fin _ pl l st (st _ _ hat) hl1 (fun _ => how) _ cu2 h2
        | true =>
          refine ⟨_, rfl, _, rfl, _, rfl, _, _, rfl, rfl, a, ns, j + i, congrArg (fun z : Int => [V.ref a, V.int z]) ej, SqL.sm ha ((s3.trans s35).trans st), fun c2 => ?_⟩
          obtain ⟨m, hm, hm2⟩ := mod_nat (i := c2) (n := 5) (by decide)
          have z5 : (Str.ofString "abcde").length ≤ sizeLine := by decide +kernel
          refine ⟨_, _, rfl, rfl, (show (0 : Int) < 5 by decide), _, _, 97 + m, rfl, rfl, z5, ?_, ?_⟩
          · show atI _ (c2 % 5) = _
            rw [hm]
            exact abc5 (by omega)
          refine ⟨by show 2 ≤ sizeLine; decide, fun p2 np2 => ?_⟩
          have s7 := st.trans (same_upd (o := .tup [.str "head", .str (lt1 m)]) np2)
          exact fr _ _ D _ cu' false _ p2 (.head (lt1 m)) upd_same ⟨m, by omega, rfl⟩ hcu (s7 _ _ hD4) hlen fun cu2 h2 => fin _ p2 (.head (lt1 m)) s7 upd_same ⟨m, by omega, rfl⟩ (fun _ => rfl) _ cu2 h2
    · rintro σ H2 ⟨cu', op, y7, y8, ls, ds, rfl, s3, hD, hls, hl, okD, hop, hLL, hcu⟩
      refine ⟨_, rfl, D, _, rfl, .inl ⟨.of hD, fun r nr => ?_⟩⟩
      have s4 := same_upd (o := .tup (ls.map V.ref)) nr
      exact q _ r ds (s3.trans s4) ⟨ls, upd_same, Paired.mono (fun _ _ z => s4 _ _ z) hls⟩ okD (by rw [hl]; omega) hLL
end
end Wf

end
section
set_option maxHeartbeats 4000000
/-! W52: what a piece shows. -/
namespace Wf
open PySem PySem.Spec PyProof.Rows L2 Wr GxR Wg
/-- which error is which -/
structure Tz (P : Program) (K : PySem.W.Frag) (mg : Str → Option Value) (base : Heap) (e : Es) : Prop extends Ty P K mg base e where
  gWE : mg "WeftError" = some (.ref e.we)
  mWE : ∀ c ∈ [e.np, e.rg, e.tk, e.bp], PySem.W.exmOne K (.ref c) (.ref e.we) = some true
  mNN : PySem.W.exmOne K (.ref e.np) (.ref e.np) = some true
  mMN : PySem.W.exmOne K (.ref e.ms) (.ref e.np) = some false
  mRN : PySem.W.exmOne K (.ref e.rg) (.ref e.np) = some false
  mMM : PySem.W.exmOne K (.ref e.ms) (.ref e.ms) = some true
  mRM : PySem.W.exmOne K (.ref e.rg) (.ref e.ms) = some false
  mRR : PySem.W.exmOne K (.ref e.rg) (.ref e.rg) = some true
inductive Oc where
  | texts (ts : List Str)
  | long
  | none
  | missing
  | ring
def ocR (B : Bd) (n : Str) : Oc → Prop
  | .texts ts => ts.length ≤ 150 ∧ ∃ k, ev B k n = .ok ts
  | .long => ∃ k ts, ev B k n = .ok ts ∧ 150 < ts.length
  | .none => B n = Option.none
  | .missing => B n ≠ Option.none ∧ ∃ k, ev B k n = .miss
  | .ring => ∀ k, ev B k n = .out
def OcAt (H : Hp) (p : Addr) : Oc → Prop
  | .texts ts => H p = some (.lst (strV ts))
  | .long => H p = some (.tup [.str "long"])
  | .none => H p = some (.tup [.str "none"])
  | .missing => H p = some (.tup [.str "missing"])
  | .ring => H p = some (.tup [.str "ring"])
theorem ev_two {B : Bd} {j k : Nat} {n : Str} {r r' : R} (h1 : ev B j n = r) (h2 : ev B k n = r') (n1 : r ≠ .out) (n2 : r' ≠ .out) : r = r' := by
  have a := le_eq (ev_mono B (Nat.le_max_left j k) n) h1 n1
  have b := le_eq (ev_mono B (Nat.le_max_right j k) n) h2 n2
  rw [← a, ← b]
theorem oc_one {B : Bd} {n : Str} {o o' : Oc} (h : ocR B n o) (h' : ocR B n o') : o = o' := by
  have nk : ∀ ts : List Str, R.ok ts ≠ .out := fun _ z => by cases z
  have nm : R.miss ≠ .out := fun z => by cases z
  have nn : B n = Option.none → ∀ k r, ev B k n = r → r ≠ .out → r = .miss := fun hn k r hk hr => by
    cases k with
    | zero => exact absurd hk.symm hr
    | succ k =>
      have : (match B n with | Option.none => R.miss | some ls => evs (ev B k) ls) = r := hk
      rw [hn] at this
      exact this.symm
  cases o <;> cases o'
  case texts.texts ts us => 
    obtain ⟨_, k, e⟩ := h; obtain ⟨_, k', e'⟩ := h'
    have := ev_two e e' (nk _) (nk _)
    cases this; rfl
  case texts.long ts =>
    obtain ⟨h1, k, e⟩ := h; obtain ⟨k', us, e', h2⟩ := h'
    have := ev_two e e' (nk _) (nk _)
    cases this; omega
  case long.texts ts =>
    obtain ⟨h1, k, e⟩ := h'; obtain ⟨k', us, e', h2⟩ := h
    have := ev_two e e' (nk _) (nk _)
    cases this; omega
  case texts.none ts => obtain ⟨h1, k, e⟩ := h; cases nn h' k _ e (nk _)
  case none.texts ts => obtain ⟨h1, k, e⟩ := h'; cases nn h k _ e (nk _)
  case texts.missing ts => obtain ⟨h1, k, e⟩ := h; obtain ⟨_, k', e'⟩ := h'; cases ev_two e e' (nk _) nm
  case missing.texts ts => obtain ⟨h1, k, e⟩ := h'; obtain ⟨_, k', e'⟩ := h; cases ev_two e e' (nk _) nm
  case texts.ring ts => obtain ⟨h1, k, e⟩ := h; rw [h' k] at e; cases e
  case ring.texts ts => obtain ⟨h1, k, e⟩ := h'; rw [h k] at e; cases e
  case long.long => rfl
  case long.none => obtain ⟨k, ts, e, _⟩ := h; cases nn h' k _ e (nk _)
  case none.long => obtain ⟨k, ts, e, _⟩ := h'; cases nn h k _ e (nk _)
  case long.missing => obtain ⟨k, ts, e, _⟩ := h; obtain ⟨_, k', e'⟩ := h'; cases ev_two e e' (nk _) nm
  case missing.long => obtain ⟨k, ts, e, _⟩ := h'; obtain ⟨_, k', e'⟩ := h; cases ev_two e e' (nk _) nm
  case long.ring => obtain ⟨k, ts, e, _⟩ := h; rw [h' k] at e; cases e
  case ring.long => obtain ⟨k, ts, e, _⟩ := h'; rw [h k] at e; cases e
  case none.none => rfl
  case none.missing => exact absurd h h'.1
  case missing.none => exact absurd h' h.1
  case none.ring =>
    have e := h' 1
    have : (match B n with | Option.none => R.miss | some ls => evs (ev B 0) ls) = .out := e
    rw [h] at this; cases this
  case ring.none =>
    have e := h 1
    have : (match B n with | Option.none => R.miss | some ls => evs (ev B 0) ls) = .out := e
    rw [h'] at this; cases this
  case missing.missing => rfl
  case missing.ring => obtain ⟨_, k, e⟩ := h; rw [h' k] at e; cases e
  case ring.missing => obtain ⟨_, k, e⟩ := h'; rw [h k] at e; cases e
  case ring.ring => rfl
theorem oc_sm {B B' : Bd} {n n' : Str} {o : Oc} (s : Sm B n B' n') (h : ocR B n o) : ocR B' n' o := by
  have nk : ∀ ts : List Str, R.ok ts ≠ .out := fun _ z => by cases z
  have nm : R.miss ≠ .out := fun z => by cases z
  cases o with
  | texts ts => exact ⟨h.1, (s.2 _ (nk _)).mp h.2⟩
  | long =>
    obtain ⟨k, ts, e, l⟩ := h
    obtain ⟨k', e'⟩ := (s.2 _ (nk _)).mp ⟨k, e⟩
    exact ⟨k', ts, e', l⟩
  | none => exact s.1.mp h
  | missing => exact ⟨fun z => h.1 (s.1.mpr z), (s.2 _ nm).mp h.2⟩
  | ring =>
    intro k
    cases z : ev B' k n' with
    | out => rfl
    | ok ts => obtain ⟨k', e'⟩ := (s.2 _ (nk _)).mpr ⟨k, z⟩; rw [h k'] at e'; cases e'
    | miss => obtain ⟨k', e'⟩ := (s.2 _ nm).mpr ⟨k, z⟩; rw [h k'] at e'; cases e'
section
variable {X : Cx} {CX : CXT} {k : Nat} {ps : List Str} {sp : Sp} {E : L2.St → XK} {x : Str} {p pos : PySem.Pos} {e : Expr} {es : List Expr} {t : TA}
theorem pe_hasS {j : Nat} (h : Has X.prog X.w X.K X.mg X.base CX k x ps sp) (hr : Room j X.A) (hg : Gl X x) (hx : ∀ σ, PassesAt CX X σ (E σ)) (ha : PA X (e :: es) t) (hjk : k ≤ j := by decide)
    (hdb : (x == ("__debug__" : Str)) = false := by decide) (he : starEach (e :: es) X.env = (false, eval e X.env) :: starEach es X.env := by rfl) (hpl : (backTo pos (starEach es X.env)).any (·.1) = false := by rfl) :
    PE X (.Call (.Name x p) (e :: es) [] pos) (tCallS sp E t) := by
  obtain ⟨f, fd, F, g, kp, b⟩ := h
  exact pe_callS F (hr.mono hjk) hg g kp b hx ha hdb he hpl
end
abbrev s52 : Stmt := topS 52
theorem sc52 : FnScope ["_law_document_here", "_law_root"] ["_law_document_here", "_law_root"] (defScope s52) := ⟨rfl, rfl, rfl, by decide +kernel, rfl, by decide +kernel, by decide +kernel⟩
def sp52 : Sp := fun vs H Q E => ∃ (a : Addr) (d : List Ln) (root : Str) (b : Nat), vs = [.ref a, .str root] ∧ DocAt H a d ∧ okd none d ∧ d.length ≤ 120 ∧ (∀ l ∈ d, Sml b l) ∧ b ≤ 8192 ∧ root.length ≤ 1000 ∧
  ∀ H' p o, Same H H' → OcAt H' p o → ocR (body d) root o → Q (.ref p) H'
section
variable {P : Program} {w : World} {K : PySem.W.Frag} {mg : Str → Option Value} {base : Heap} {e : Es}
theorem ok52 (T : Tz P K mg base e) : Has P w K mg base CX0 5 "_law_shown" ["_law_document_here", "_law_root"] sp52 := by
  obtain ⟨f, fd, F, g⟩ := T.df 35 _ rfl
  refine ⟨f, fd, ?_, g, F.kp, F.binds fun _ _ _ _ _ _ us hl => match us, hl with | [_, _], _ => rfl⟩
  refine Fun.ok F sc52 (fun vs H Q E h => ?_) (fun cdv A outer s H vs Q E hr h => ?_)
  · obtain ⟨a, _, _, _, rfl, _⟩ := h
    rfl
  · obtain ⟨a, d, root, b, rfl, hd, okD, hlen, hsm, hb, hrl, q⟩ := h
    refine ⟨_, pss_one (ps_try_many rfl rfl takes_none5 (fun W pn xe tk _ =>
        pss_cons (ps_if (pt_cmpR op_gt (pe_hasS (ok42 T.toTy) hr (by rfl) (fun σ => passAt tk σ) (pa_cons (pv 0) (pa_cons (pv 1) pa_nil))) pe_int (nomark _)) (pss_one (ps_ret (pe_tup (pa_cons pe_str pa_nil)))) pss_nil)
        (pss_one (ps_ret (pe_has (ok45 T.toTx) hr (by rfl) (pa_cons (pe_hasS (ok44 T.toTy) hr (by rfl) (fun σ => passAt tk σ) (pa_cons (pv 0) (pa_cons (pv 1) pa_nil))) pa_nil)))))
      (.cons ⟨by rfl, by decide, .inl T.eNP.g⟩ (fun _ _ _ _ _ _ _ => pss_one (ps_ret (pe_tup (pa_cons pe_str pa_nil))))
        (.cons ⟨by rfl, by decide, .inl T.eMS.g⟩ (fun _ _ _ _ _ _ _ => pss_one (ps_ret (pe_tup (pa_cons pe_str pa_nil))))
          (.cons ⟨by rfl, by decide, .inl T.eRG.g⟩ (fun _ _ _ _ _ _ _ => pss_one (ps_ret (pe_tup (pa_cons pe_str pa_nil)))) .nil)))), ?_⟩
    have fin : ∀ (H' : Hp) (r : Addr) (o : Oc) (x : Str), Same H H' → H' r = none → (∀ H2, H2 r = some (.tup [.str x]) → OcAt H2 r o) → ocR (body d) root o → Q (.ref r) (upd H' r (.tup [.str x])) := fun H' r o x s nr ho hr' =>
      q _ r o (s.trans (same_upd nr)) (ho _ upd_same) hr'
    refine ⟨_, rfl, _, rfl, a, d, root, b, rfl, hd, okD, by omega, hsm, hrl, fun H1 k ts s1 hev => ?_, fun H' dd s => ⟨fun hn => ?_, fun hn hm => ?_, fun ho => ?_⟩⟩
    · refine ⟨_, _, rfl, rfl, _, rfl, ?_⟩
      refine if2 (fun h1 => ?_) (fun h1 => ?_)
      · exact ⟨by show 1 ≤ sizeLine; decide, fun r nr => fin _ r .long _ s1 nr (fun _ z => z) ⟨k, ts, hev, by omega⟩⟩
      · refine ⟨_, rfl, _, rfl, a, d, root, b, k, ts, rfl, hd.same s1, okD, hlen, hsm, hb, hrl, hev, by omega, fun H2 p ps s2 hp hps => ?_⟩
        refine ⟨p, ps, ts, rfl, hp, hps, by omega, fun H3 p3 s3 hp3 => ?_⟩
        exact q _ p3 (.texts ts) ((s1.trans s2).trans s3) hp3 ⟨by omega, k, hev⟩
    · refine ⟨true, T.mNN, fun _ a' ha' => ⟨by show 1 ≤ sizeLine; decide, fun r nr => fin _ r .none _ s nr (fun _ z => z) (body_none hn)⟩, (fun z => by cases z)⟩
    · refine ⟨false, T.mMN, (fun z => by cases z), fun _ => ⟨true, T.mMM, fun _ a' ha' => ⟨by show 1 ≤ sizeLine; decide, fun r nr => fin _ r .missing _ s nr (fun _ z => z) ⟨fun z => (by rw [body_some hn] at z; cases z), hm⟩⟩, (fun z => by cases z)⟩⟩
    · refine ⟨false, T.mRN, (fun z => by cases z), fun _ => ⟨false, T.mRM, (fun z => by cases z), fun _ => ⟨true, T.mRR, fun _ a' ha' => ⟨by show 1 ≤ sizeLine; decide, fun r nr => fin _ r .ring _ s nr (fun _ z => z) ho⟩, (fun z => by cases z)⟩⟩⟩
end
end Wf

end
section
set_option maxHeartbeats 4000000
/-! W53: what the turnings keep. -/
namespace Wf
open PySem PySem.Spec PyProof.Rows L2 Wr GxR Wg
structure LnI (b : Nat) (l : Ln) : Prop where
  r : LnR l
  s : Sml b l
  v : Vd l
theorem ll_lni {l : Ln} (h : LL l) : LnI 8 l := by
  have tx : ∀ t ∈ TX, CodeOk t ∧ t.length ≤ 8 ∧ PyData.strOk t = true := by
    have : ∀ t ∈ TX, (useR (lst t) = false ∧ 10 ∉ TL.tl t) ∧ t.length ≤ 8 ∧ PyData.strOk t = true := by decide +kernel
    exact this
  have px : ∀ t ∈ PX, (10 ∉ TL.tl t ∧ first1 t ≠ Str.ofString "=" ∧ first1 t ≠ Str.ofString "|") ∧ t.length ≤ 1000 ∧ PyData.strOk t = true := by decide +kernel
  have nx : ∀ k, k < 6 → isName (lt1 k) = true ∧ (lt1 k).length ≤ 1000 ∧ PyData.strOk (lt1 k) = true := by decide +kernel
  cases l with
  | prose t => obtain ⟨a, b, c⟩ := px t h; exact ⟨a, b, c⟩
  | head n => obtain ⟨k, hk, rfl⟩ := h; obtain ⟨a, b, c⟩ := nx k (by omega); exact ⟨a, b, c⟩
  | use i n => obtain ⟨h0, h1, k, hk, rfl⟩ := h; obtain ⟨a, b, c⟩ := nx k hk; exact ⟨⟨h0, a⟩, ⟨h0, by omega, b⟩, c⟩
  | code t => obtain ⟨a, b, c⟩ := tx t h; exact ⟨a, b, c⟩
theorem LnI.up {b c : Nat} {l : Ln} (h : LnI b l) (hb : b ≤ c) : LnI c l := by
  obtain ⟨r, s, v⟩ := h
  refine ⟨r, ?_, v⟩
  cases l with
  | prose t => exact s
  | head n => exact s
  | use i n => exact ⟨s.1, by have := s.2.1; omega, s.2.2⟩
  | code t => exact Nat.le_trans s hb
theorem sok_tl (t : Str) : PyData.strOk t = (TL.tl t).all (fun c => decide (c < 0x110000)) := by
  unfold PyData.strOk
  rw [← Array.all_toList]
theorem lni_sh {b : Nat} {l : Ln} {j : Int} (h : LnI b l) (h0 : 0 ≤ j) (hj : j ≤ (b : Int)) : LnI (2 * b) (shL j l) := by
  cases l with
  | prose t => exact h.up (by omega)
  | head n => exact h.up (by omega)
  | use i n =>
    obtain ⟨r, s, v⟩ := h
    obtain ⟨s0, s1, s2⟩ := s
    exact ⟨⟨by show 0 ≤ i + j; omega, r.2⟩, ⟨by show 0 ≤ i + j; omega, by show i + j ≤ ((2 * b : Nat) : Int); omega, s2⟩, v⟩
  | code t =>
    obtain ⟨r, s, v⟩ := h
    refine ⟨CodeOk.sh r j, ?_, ?_⟩
    · show (shT j t).length ≤ 2 * b
      have s' : t.length ≤ b := s
      unfold shT
      by_cases e : t = mt
      · rw [if_pos e]; omega
      · rw [if_neg e, We.len_app, len_sp]; omega
    · show PyData.strOk (shT j t) = true
      have v' : PyData.strOk t = true := v
      unfold shT
      by_cases e : t = mt
      · rw [if_pos e]; exact v'
      · rw [if_neg e, sok_tl, TL.tl_append, List.all_append]
        rw [sok_tl] at v'
        rw [v', Bool.and_true, List.all_eq_true]
        intro c hc
        have : c ∈ List.replicate j.toNat 32 := hc
        rw [(List.mem_replicate.mp this).2]
        rfl
theorem lni_cut {b : Nat} {l : Ln} {g : Int} (h : LnI b l) (h0 : 0 ≤ g) (ho : l.own = true) (hg : ∀ v, bl l = some v → g ≤ v) : LnI b (shB (-g) l) := by
  cases l with
  | prose t => cases ho
  | head n => cases ho
  | use i n =>
    obtain ⟨r, s, v⟩ := h
    obtain ⟨s0, s1, s2⟩ := s
    have := hg i rfl
    exact ⟨⟨by show 0 ≤ i + -g; omega, r.2⟩, ⟨by show 0 ≤ i + -g; omega, by show i + -g ≤ (b : Int); omega, s2⟩, v⟩
  | code t =>
    obtain ⟨r, s, v⟩ := h
    by_cases e : t = mt
    · have : shB (-g) (.code t) = .code t := by
        show (if t = mt then Ln.code t else _) = _
        rw [if_pos e]
      rw [this]; exact ⟨r, s, v⟩
    · by_cases e2 : -g < 0
      · have e3 : shB (-g) (.code t) = .code (cut0 (- -g).toNat t) := by
          show (if t = mt then Ln.code t else if -g < 0 then Ln.code (cut0 (- -g).toNat t) else _) = _
          rw [if_neg e, if_pos e2]
        rw [e3]
        have hb : bl (.code t) = some (min (lead t : Int) ((t.length : Int) - 1)) := by
          show (if t = mt then none else some (min (lead t : Int) ((t.length : Int) - 1))) = _
          rw [if_neg e]
        have hg2 := hg _ hb
        have hl : (- -g).toNat ≤ lead t := by omega
        refine ⟨CodeOk.cut r hl, ?_, ?_⟩
        · show (cut0 (- -g).toNat t).length ≤ b
          have s' : t.length ≤ b := s
          rw [TL.len_tl, tl_cut0, List.length_drop, ← TL.len_tl]
          omega
        · show PyData.strOk (cut0 (- -g).toNat t) = true
          have v' : PyData.strOk t = true := v
          rw [sok_tl] at v' ⊢
          rw [tl_cut0, List.all_eq_true]
          intro c hc
          exact List.all_eq_true.mp v' c (List.mem_of_mem_drop hc)
      · have e3 : shB (-g) (.code t) = shL (-g) (.code t) := shB_pos (by omega) _
        have e4 : -g = 0 := by omega
        rw [e3, e4]
        show LnI b (.code (shT 0 t))
        rw [shT_zero]
        exact ⟨r, s, v⟩
def okNm (n : Str) : Prop := isName n = true ∧ n.length ≤ 1000 ∧ PyData.strOk n = true
theorem lni_rn {b : Nat} {l : Ln} {o n : Str} (h : LnI b l) (hn : okNm n) : LnI b (rnL o n l) := by
  obtain ⟨n1, n2, n3⟩ := hn
  obtain ⟨r, s, v⟩ := h
  have key : ∀ m, okNm m → okNm (rn o n m) := fun m hm => by
    unfold rn
    split
    · exact ⟨n1, n2, n3⟩
    · exact hm
  cases l with
  | prose t => exact ⟨r, s, v⟩
  | head m => obtain ⟨a, b, c⟩ := key m ⟨r, s, v⟩; exact ⟨a, b, c⟩
  | use i m => obtain ⟨a, b, c⟩ := key m ⟨r.2, s.2.2, v⟩; exact ⟨⟨r.1, a⟩, ⟨s.1, s.2.1, b⟩, c⟩
  | code t => exact ⟨r, s, v⟩
def nN (k : Nat) : Str := Str.ofString "n" ++ (toString (k : Int) : Str)
def tN (k : Nat) : Str := Str.ofString "t" ++ (toString (k : Int) : Str)
def NmK (k : Nat) (s : Str) : Prop := (∃ j, j < 5 ∧ s = lt1 j) ∨ ∃ j, j < k ∧ s = nN j
theorem n_ok : ∀ k, k < 10 → okNm (nN k) := by
  have : ∀ k, k < 10 → isName (nN k) = true ∧ (nN k).length ≤ 1000 ∧ PyData.strOk (nN k) = true := by decide +kernel
  exact this
theorem t_ok : ∀ k, k < 10 → okNm (tN k) := by
  have : ∀ k, k < 10 → isName (tN k) = true ∧ (tN k).length ≤ 1000 ∧ PyData.strOk (tN k) = true := by decide +kernel
  exact this
theorem l_ok : ∀ k, k < 5 → okNm (lt1 k) := by
  have : ∀ k, k < 5 → isName (lt1 k) = true ∧ (lt1 k).length ≤ 1000 ∧ PyData.strOk (lt1 k) = true := by decide +kernel
  exact this
theorem n_inj : ∀ j, j < 10 → ∀ k, k < 10 → nN j = nN k → j = k := by decide +kernel
theorem l_inj : ∀ j, j < 5 → ∀ k, k < 5 → lt1 j = lt1 k → j = k := by decide +kernel
theorem n_ne_l : ∀ j, j < 10 → ∀ k, k < 5 → nN j ≠ lt1 k := by decide +kernel
theorem t_ne_l : ∀ j, j < 10 → ∀ k, k < 5 → tN j ≠ lt1 k := by decide +kernel
theorem t_ne_n : ∀ j, j < 10 → ∀ k, k < 10 → tN j ≠ nN k := by decide +kernel
theorem nmk_ok {k : Nat} {s : Str} (h : NmK k s) (hk : k ≤ 10) : okNm s := by
  rcases h with ⟨j, hj, rfl⟩ | ⟨j, hj, rfl⟩
  · exact l_ok j hj
  · exact n_ok j (by omega)
theorem nmk_ne {k : Nat} {s : Str} (h : NmK k s) (hk : k < 10) : s ≠ nN k := by
  rcases h with ⟨j, hj, rfl⟩ | ⟨j, hj, rfl⟩
  · exact fun z => n_ne_l k hk j hj z.symm
  · exact fun z => by have := n_inj j (by omega) k hk z; omega
theorem nmk_nt {k i : Nat} {s : Str} (h : NmK k s) (hk : k ≤ 10) (hi : i < 10) : s ≠ tN i := by
  rcases h with ⟨j, hj, rfl⟩ | ⟨j, hj, rfl⟩
  · exact fun z => t_ne_l i hi j hj z.symm
  · exact fun z => t_ne_n i hi j (by omega) z.symm
theorem NmK.up {k : Nat} {s : Str} (h : NmK k s) : NmK (k + 1) s := by
  rcases h with h | ⟨j, hj, e⟩
  · exact .inl h
  · exact .inr ⟨j, by omega, e⟩
structure TSt (B0 : Bd) (k : Nat) (d : List Ln) (nm : Nat → Str) : Prop where
  ok : okd none d
  ne : d ≠ []
  ln : ∀ l ∈ d, LnI (8 * 2 ^ k) l
  nk : ∀ j, j < 5 → NmK k (nm j)
  inj : ∀ i j, i < 5 → j < 5 → nm i = nm j → i = j
  sm : ∀ j, j < 5 → Sm B0 (lt1 j) (body d) (nm j)
section
variable {B0 : Bd} {k : Nat} {d d' : List Ln} {nm : Nat → Str}
theorem TSt.pos (h : TSt B0 k d nm) : PosU d := fun i m hm => (h.ln _ hm).s.1
/-- a turning that renames nothing -/
theorem TSt.step (h : TSt B0 k d nm) (ok : okd none d') (ne : d' ≠ []) (ln : ∀ l ∈ d', LnI (2 * (8 * 2 ^ k)) l) (sm : ∀ n, (∀ j, j < 5 → n = nm j → Sm (body d) n (body d') n)) : TSt B0 (k + 1) d' nm :=
  ⟨ok, ne, fun l hl => by rw [Nat.pow_succ]; exact (ln l hl).up (by omega), fun j hj => (h.nk j hj).up, h.inj, fun j hj => (h.sm j hj).trans (sm _ j hj rfl)⟩
theorem TSt.up (h : TSt B0 k d nm) : TSt B0 (k + 1) d nm := h.step h.ok h.ne (fun l hl => (h.ln l hl).up (by omega)) fun n _ _ _ => Sm.refl _ n
theorem TSt.same (h : TSt B0 k d nm) (ok : okd none d') (ne : d' ≠ []) (ln : ∀ l ∈ d', LnI (8 * 2 ^ k) l) (e : body d' = body d) : TSt B0 (k + 1) d' nm :=
  h.step ok ne (fun l hl => (ln l hl).up (by omega)) fun n _ _ _ => by rw [e]; exact Sm.refl _ n
theorem st_move (h : TSt B0 k d nm) (ok : okd none d') (hm : ∀ l ∈ d', l ∈ d) (hl : d'.length = d.length) (hc : ∀ n, cts n d' = cts n d) : TSt B0 (k + 1) d' nm :=
  h.same ok (fun z => by rw [z] at hl; exact h.ne (List.eq_nil_of_length_eq_zero hl.symm)) (fun l hl => h.ln l (hm l hl)) (body_move hc)
theorem st_split (h : TSt B0 k d nm) {i : Nat} {n : Str} (hc : cu none (d.take i) = some n) : TSt B0 (k + 1) (d.take i ++ [.prose mt, .head n] ++ d.drop i) nm := by
  have e : d.take i ++ d.drop i = d := List.take_append_drop i d
  have hn : Ln.head n ∈ d := List.mem_of_mem_take ((cu_head hc).resolve_left (fun z => by cases z))
  refine h.same (okd_split hc (by rw [e]; exact h.ok)) (by simp) (fun l hl => ?_) (by rw [body_split hc, e])
  rcases List.mem_append.mp hl with hl | hl
  · rcases List.mem_append.mp hl with hl | hl
    · exact h.ln l (List.mem_of_mem_take hl)
    · rcases List.mem_cons.mp hl with z | z
      · rw [z]
        exact ⟨⟨by decide +kernel, by decide +kernel, by decide +kernel⟩, by show mt.length ≤ 1000; decide +kernel, by show PyData.strOk mt = true; decide +kernel⟩
      · rw [List.mem_singleton.mp z]; exact h.ln _ hn
  · exact h.ln l (List.mem_of_mem_drop hl)
theorem st_join (h : TSt B0 k d nm) {i j : Nat} {n : Str} (hj : j ≤ i) (hp : ∀ l ∈ (d.drop j).take (i - j), l = .prose mt) (hi : d[i]? = some (.head n)) (hc : cu none (d.take j) = some n) : TSt B0 (k + 1) (d.take j ++ d.drop (i + 1)) nm := by
  have hlt : i < d.length := (List.getElem?_eq_some_iff.mp hi).1
  have e : d = d.take j ++ (d.drop j).take (i - j) ++ [.head n] ++ d.drop (i + 1) := by
    have e1 : d.take j ++ (d.drop j).take (i - j) = d.take i := by
      have := List.take_add (l := d) (i := j) (j := i - j)
      rw [show j + (i - j) = i by omega] at this
      exact this.symm
    rw [e1]
    have e2 : d.take i ++ [.head n] = d.take (i + 1) := by rw [List.take_add_one, hi]; rfl
    rw [e2, List.take_append_drop]
  have hp2 : ∀ l ∈ (d.drop j).take (i - j), ∃ t, l = .prose t := fun l hl => ⟨_, hp l hl⟩
  refine h.same (okd_join hc (by rw [← e]; exact h.ok)) ?_ (fun l hl => ?_) (by rw [body_join hc hp2, ← e])
  · intro z
    have : d.take j = [] := (List.append_eq_nil_iff.mp z).1
    rw [this] at hc
    cases hc
  · rcases List.mem_append.mp hl with hl | hl
    · exact h.ln l (List.mem_of_mem_take hl)
    · exact h.ln l (List.mem_of_mem_drop hl)
theorem split_at {i : Nat} {l : Ln} (h : d[i]? = some l) : d = d.take i ++ [l] ++ d.drop (i + 1) := by
  have e2 : d.take i ++ [l] = d.take (i + 1) := by rw [List.take_add_one, h]; rfl
  rw [e2, List.take_append_drop]
theorem st_put (h : TSt B0 k d nm) {i : Nat} {j : Int} {m : Str} (hi : d[i]? = some (.use j m)) (hm : Ln.head m ∈ d) (hp : i ∉ plc m none 0 d) : TSt B0 (k + 1) (d.take i ++ (its m none d).map (shL j) ++ d.drop (i + 1)) nm := by
  obtain ⟨p, hc⟩ := Option.isSome_iff_exists.mp (okd_own_at h.ok hi rfl)
  have hmp : m ≠ p := fun z => hp ((plc_mem m none 0 d i).mpr ⟨i, _, by omega, hi, rfl, by rw [hc, z]⟩)
  have e := split_at hi
  have hu := h.ln _ (List.mem_of_getElem? hi)
  refine h.step ?_ ?_ (fun l hl => ?_) fun n _ _ _ => ?_
  · exact okd_putin hc (by rw [← e]; exact h.ok) fun l hl => by
      obtain ⟨l', h1, rfl⟩ := List.mem_map.mp hl
      have := it_own (d := d) (n := m) l' h1
      cases l' with
      | prose t => cases this
      | head t => cases this
      | use a b => rfl
      | code t => rfl
  · intro z
    have : d.take i = [] := (List.append_eq_nil_iff.mp (List.append_eq_nil_iff.mp z).1).1
    rw [this] at hc
    cases hc
  · rcases List.mem_append.mp hl with hl | hl
    · rcases List.mem_append.mp hl with hl | hl
      · exact (h.ln l (List.mem_of_mem_take hl)).up (by omega)
      · obtain ⟨l', h1, rfl⟩ := List.mem_map.mp hl
        obtain ⟨c, hc1, hc2⟩ := List.getElem_of_mem h1
        have hi2 : c < (plc m none 0 d).length := by rw [plc_its_len]; exact hc1
        obtain ⟨l'', z1, z2, _⟩ := plc_its (List.getElem?_eq_getElem hi2)
        rw [List.getElem?_eq_getElem hc1, hc2] at z1
        cases z1
        exact lni_sh (h.ln _ (List.mem_of_getElem? z2)) hu.s.1 hu.s.2.1
    · exact (h.ln l (List.mem_of_mem_drop hl)).up (by omega)
  · have := putin (b := d.drop (i + 1)) hc hmp (by rw [← e]; exact hm) (by rw [← e]; exact h.pos) n
    rw [← e] at this
    exact this
theorem split_mid {i j : Nat} (h : i ≤ j) : d.take i ++ (d.drop i).take (j + 1 - i) ++ d.drop (j + 1) = d := by
  have e1 : d.take i ++ (d.drop i).take (j + 1 - i) = d.take (j + 1) := by
    have := List.take_add (l := d) (i := i) (j := j + 1 - i)
    rw [show i + (j + 1 - i) = j + 1 by omega] at this
    exact this.symm
  rw [e1, List.take_append_drop]
theorem st_take (h : TSt B0 k d nm) (hk : k < 10) {i j : Nat} {g : Int} (hij : i ≤ j) (hj : j < d.length) (ho : ∀ l ∈ (d.drop i).take (j + 1 - i), l.own = true) (hf : Fresh (tN k) d) (g0 : 0 ≤ g) (gb : g ≤ ((8 * 2 ^ k : Nat) : Int))
    (hg : ∀ l ∈ (d.drop i).take (j + 1 - i), ∀ v, bl l = some v → g ≤ v) :
    TSt B0 (k + 1) (d.take i ++ [.use g (tN k)] ++ d.drop (j + 1) ++ [.prose mt, .head (tN k)] ++ ((d.drop i).take (j + 1 - i)).map (shB (-g))) nm := by
  have e := split_mid (d := d) hij
  have hi : d[i]? = some d[i] := List.getElem?_eq_getElem (by omega)
  have hio : d[i].own = true := ho _ (by
    refine List.mem_of_getElem? (i := 0) ?_
    rw [List.getElem?_take_of_lt (by omega), List.getElem?_drop]
    exact hi)
  obtain ⟨p, hc⟩ := Option.isSome_iff_exists.mp (okd_own_at h.ok hi hio)
  have hmem : ∀ l ∈ (d.drop i).take (j + 1 - i), l ∈ d := fun l hl => List.mem_of_mem_drop (List.mem_of_mem_take hl)
  have ho' : ∀ l ∈ ((d.drop i).take (j + 1 - i)).map (shB (-g)), l.own = true := fun l hl => by
    obtain ⟨l', h1, rfl⟩ := List.mem_map.mp hl
    exact shB_own _ (ho l' h1)
  have hln' : ∀ l ∈ ((d.drop i).take (j + 1 - i)).map (shB (-g)), LnI (8 * 2 ^ k) l := fun l hl => by
    obtain ⟨l', h1, rfl⟩ := List.mem_map.mp hl
    exact lni_cut (h.ln l' (hmem l' h1)) g0 (ho l' h1) (hg l' h1)
  have hs : (((d.drop i).take (j + 1 - i)).map (shB (-g))).map (shL g) = (d.drop i).take (j + 1 - i) := by
    rw [List.map_map]
    conv => rhs; rw [← List.map_id ((d.drop i).take (j + 1 - i))]
    exact List.map_congr_left fun l hl => unsh g0 (hg l hl) (ho l hl)
  obtain ⟨t1, t2, t3⟩ := t_ok k hk
  refine h.step ?_ (by simp) (fun l hl => ?_) fun n hn0 hn1 hn2 => ?_
  · exact okd_takeout hc ho ho' (by rw [e]; exact h.ok)
  · have up : LnI (8 * 2 ^ k) l → LnI (2 * (8 * 2 ^ k)) l := fun z => z.up (by omega)
    refine up ?_
    rcases List.mem_append.mp hl with hl | hl
    · rcases List.mem_append.mp hl with hl | hl
      · rcases List.mem_append.mp hl with hl | hl
        · rcases List.mem_append.mp hl with hl | hl
          · exact h.ln l (List.mem_of_mem_take hl)
          · rw [List.mem_singleton.mp hl]; exact ⟨⟨g0, t1⟩, ⟨g0, gb, t2⟩, t3⟩
        · exact h.ln l (List.mem_of_mem_drop hl)
      · rcases List.mem_cons.mp hl with z | z
        · rw [z]
          exact ⟨⟨by decide +kernel, by decide +kernel, by decide +kernel⟩, by show mt.length ≤ 1000; decide +kernel, by show PyData.strOk mt = true; decide +kernel⟩
        · rw [List.mem_singleton.mp z]; exact ⟨t1, t2, t3⟩
    · exact hln' l hl
  · have := takeout (t := mt) (b := d.drop (j + 1)) hc g0 ho ho' hs (fun i m hm => (hln' _ hm).s.1) (by rw [e]; exact hf) n (by rw [hn2]; exact nmk_nt (h.nk hn0 hn1) (by omega) hk)
    rw [e] at this
    exact this
theorem st_ren (h : TSt B0 k d nm) (hk : k < 10) {j0 : Nat} (hj0 : j0 < 5) (hf : Fresh (nN k) d) : TSt B0 (k + 1) (d.map (rnL (nm j0) (nN k))) (fun j => if j = j0 then nN k else nm j) := by
  refine ⟨okd_rn none none d (fun z => absurd rfl z) h.ok, fun z => h.ne (List.map_eq_nil_iff.mp z), fun l hl => ?_, fun j hj => ?_, fun i j hi hj he => ?_, fun j hj => ?_⟩
  · obtain ⟨l', h1, rfl⟩ := List.mem_map.mp hl
    rw [Nat.pow_succ]
    exact (lni_rn (h.ln l' h1) (n_ok k hk)).up (by omega)
  · by_cases e : j = j0
    · rw [if_pos e]; exact .inr ⟨k, by omega, rfl⟩
    · rw [if_neg e]; exact (h.nk j hj).up
  · by_cases e1 : i = j0
    · by_cases e2 : j = j0
      · rw [e1, e2]
      · rw [if_pos e1, if_neg e2] at he
        exact absurd he.symm (nmk_ne (h.nk j hj) hk)
    · by_cases e2 : j = j0
      · rw [if_neg e1, if_pos e2] at he
        exact absurd he (nmk_ne (h.nk i hi) hk)
      · rw [if_neg e1, if_neg e2] at he
        exact h.inj i j hi hj he
  · refine (h.sm j hj).trans ?_
    have := renamed (a := nm j0) hf (nm j) (nmk_ne (h.nk j hj) hk)
    by_cases e : j = j0
    · rw [if_pos e]
      rw [e] at this ⊢
      unfold rn at this
      rw [if_pos rfl] at this
      exact this
    · rw [if_neg e]
      unfold rn at this
      rw [if_neg (fun z => e (h.inj j j0 hj hj0 z))] at this
      exact this
end
end Wf

end
section
set_option maxHeartbeats 4000000
/-! W54: one turning. -/
namespace Wf
open PySem PySem.Spec PyProof.Rows L2 Wr GxR Wg
def nmV (nm : Nat → Str) : List (Key × V) := [(.inr (lt1 0), .str (nm 0)), (.inr (lt1 1), .str (nm 1)), (.inr (lt1 2), .str (nm 2)), (.inr (lt1 3), .str (nm 3)), (.inr (lt1 4), .str (nm 4))]
theorem nm_get (nm : Nat → Str) : ∀ j, j < 5 → valV (nmV nm) (.inr (lt1 j) : Key) = some (.str (nm j))
  | 0, _ => rfl
  | 1, _ => rfl
  | 2, _ => rfl
  | 3, _ => rfl
  | 4, _ => rfl
theorem nm_put (nm : Nat → Str) (x : Str) : ∀ j, j < 5 → putK (nmV nm) (.inr (lt1 j) : Key) (.str x) = nmV (fun i => if i = j then x else nm i)
  | 0, _ => rfl
  | 1, _ => rfl
  | 2, _ => rfl
  | 3, _ => rfl
  | 4, _ => rfl
theorem KeO.wrK {e : Es} {o : Addr} {H : Hp} {kvs : List (Key × V)} {x : HO} (ho : H o = some (.dK kvs)) : KeO e o H (upd H o x) := by
  refine ⟨fun b y hb h _ => by rw [upd_ne hb]; exact h, fun ht => ?_⟩
  have g : ∀ t, TabG H t → TabG (upd H o x) t := fun t ⟨ps, a, b⟩ => ⟨ps, by rw [upd_ne (fun z => by rw [z, ho] at a; cases a)]; exact a, b⟩
  exact ⟨g _ ht.1, g _ ht.2.1, g _ ht.2.2⟩
theorem n_len : ∀ k : Nat, k < 10 → (Str.ofString "n").length + (toString (k : Int) : Str).length ≤ 100 ∧ (Str.ofString "t").length + (toString (k : Int) : Str).length ≤ 100 := by decide +kernel
abbrev s53 : Stmt := topS 53
abbrev n53 : List Str := ["_law_document_here", "_law_draws_here", "_law_names", "_law_k", "_law_kind", "_law_at", "_law_turn", "_law_old", "_law_new", "_law_made"]
theorem sc53 : FnScope n53 ["_law_document_here", "_law_draws_here", "_law_names", "_law_k"] (defScope s53) := ⟨rfl, rfl, rfl, by decide +kernel, rfl, by decide +kernel, by decide +kernel⟩
def sp53 (e : Es) : Sp := fun vs H Q E => ∃ (a pd pn : Addr) (d : List Ln) (xs : List Nat) (nm : Nat → Str) (k : Nat) (B0 : Bd), vs = [.ref a, .ref pd, .ref pn, .int (k : Int)] ∧ Tabs e H ∧ DocAt H a d ∧ H pd = some (.lst (natV xs)) ∧ xs.length = 4 ∧ H pn = some (.dK (nmV nm)) ∧ k < 9 ∧ TSt B0 k d nm ∧ d.length ≤ 120 ∧
  (∀ H' p d' nm', KeO e pn H H' → DocAt H' p d' → H' pn = some (.dK (nmV nm')) → TSt B0 (k + 1) d' nm' → Q (.ref p) H') ∧ (∀ H' c dd, Ke e H H' → c ∈ [e.np, e.rg, e.tk, e.bp] → E (.ref c) dd H')
section
variable {P : Program} {w : World} {K : PySem.W.Frag} {mg : Str → Option Value} {base : Heap} {e : Es}
theorem ok53 (T : Ty P K mg base e) : Has P w K mg base (L2.CX P w) 5 "_law_turned" ["_law_document_here", "_law_draws_here", "_law_names", "_law_k"] (sp53 e) := by
  obtain ⟨f, fd, F, g⟩ := T.df 36 _ rfl
  refine ⟨f, fd, ?_, g, F.kp, F.binds fun _ _ _ _ _ _ us hl => match us, hl with | [_, _, _, _], _ => rfl⟩
  refine Fun.okX F sc53 (fun vs H Q E h => ?_) (fun cdv A outer s H vs Q E hr h => ?_)
  · obtain ⟨a, _, _, _, _, _, _, _, rfl, _⟩ := h
    rfl
  · obtain ⟨a, pd, pn, d, xs, nm, k, B0, rfl, ht, hd, hpd, hxl, hpn, hk, hT, hlen, q1, q2⟩ := h
    refine ⟨_, pss_cons (ps_set (i := 4) sc53.nd rfl (.inl rfl) (pe_op op_mod (pe_ix ix_list (pv 1) pe_int (fun _ _ => rfl)) pe_int))
      (pss_cons (ps_set (i := 5) sc53.nd rfl (.inl rfl) (pe_op op_mod (pe_ix ix_list (pv 1) pe_int (fun _ _ => rfl)) (pe_callB call_len_seq (by rfl) T.len PySem.boot_len (pa_cons (pv 0) pa_nil))))
      (pss_cons (ps_for (passes_of rfl) rfl (pi_range1 (by rfl) T.rng (pa_cons (pe_op op_mod (pe_ix ix_list (pv 1) pe_int (fun _ _ => rfl)) pe_int) pa_nil)) (pg_name (i := 6) sc53.nd rfl (.inl rfl))
        (pss_one (ps_if (PW.pt (pw_and (pt_cmpR op_lt (pe_op op_add (pv 5) pe_int) (pe_callB call_len_seq (by rfl) T.len PySem.boot_len (pa_cons (pv 0) pa_nil)) (nomark _))
            (pw_and (pt_cmpR op_in_seq (pe_ix ix_tup (pe_ix ix_tup (pv 0) (pv 5) (fun _ _ => rfl)) pe_int (fun _ _ => rfl)) (pe_tup (pa_cons pe_str (pa_cons pe_str pa_nil))) rfl)
              (pw_and1 (pt_cmpR op_in_seq (pv 4) (pe_tup (pa_cons pe_int (pa_cons pe_int (pa_cons pe_int pa_nil)))) rfl)))))
          (pss_one (ps_set (i := 5) sc53.nd rfl (.inl rfl) (pe_op op_add (pv 5) pe_int))) pss_nil)))
      (pss_cons (ps_if (pt_cmpR op_eq (pv 4) pe_int (nomark _))
        (pss_cons (ps_set (i := 7) sc53.nd rfl (.inl rfl) (pe_ix ix_str pe_str (pe_op op_mod (pe_ix ix_list (pv 1) pe_int (fun _ _ => rfl)) pe_int) (fun _ _ => rfl)))
        (pss_cons (ps_set (i := 8) sc53.nd rfl (.inl rfl) (pe_op op_add_str pe_str (pe_callTy call_str_int (by rfl) T.str (by decide +kernel) (pa_cons (pv 3) pa_nil))))
        (pss_cons (ps_set (i := 9) sc53.nd rfl (.inl rfl) (pe_hasX (E := E) (ok18 T) hr (by rfl) (passes_call (takes_of rfl rfl rfl rfl) (fun _ _ _ _ h => h)) (pa_cons (pv 0) (pa_cons (pe_dget (hu_of hr) (pv 2) (pv 7) (fun _ _ => rfl)) (pa_cons (pv 8) pa_nil)))))
        (pss_cons (ps_dput (hu_of hr) (pv 2) (pv 7) (pv 8) rfl)
        (pss_one (ps_ret (pv 9))))))) pss_nil)
      (pss_cons (ps_if (pt_cmpR op_eq (pv 4) pe_int (nomark _))
        (pss_one (ps_ret (pe_hasX (E := E) (ok22 T) hr (by rfl) (passes_call (takes_of rfl rfl rfl rfl) (fun _ _ _ _ h => h)) (pa_cons (pv 0) (pa_cons (pv 5) (pa_cons (pe_callB (call_min2 rfl) (by rfl) T.min (by decide +kernel) (pa_cons (pe_op op_sub (pe_callB call_len_seq (by rfl) T.len PySem.boot_len (pa_cons (pv 0) pa_nil)) pe_int) (pa_cons (pe_op op_add (pv 5) (pe_op op_mod (pe_ix ix_list (pv 1) pe_int (fun _ _ => rfl)) pe_int)) pa_nil)))
            (pa_cons (pe_op op_add_str pe_str (pe_callTy call_str_int (by rfl) T.str (by decide +kernel) (pa_cons (pv 3) pa_nil))) pa_nil))))))) pss_nil)
      (pss_cons (ps_if (pt_cmpR op_eq (pv 4) pe_int (nomark _)) (pss_one (ps_ret (pe_hasX (E := E) (ok23 T) hr (by rfl) (passes_call (takes_of rfl rfl rfl rfl) (fun _ _ _ _ h => h)) (pa_cons (pv 0) (pa_cons (pv 5) pa_nil))))) pss_nil)
      (pss_cons (ps_if (pt_cmpR op_eq (pv 4) pe_int (nomark _)) (pss_one (ps_ret (pe_hasX (E := E) (ok24 T) hr (by rfl) (passes_call (takes_of rfl rfl rfl rfl) (fun _ _ _ _ h => h)) (pa_cons (pv 0) (pa_cons (pv 5) pa_nil))))) pss_nil)
      (pss_cons (ps_if (pt_cmpR op_eq (pv 4) pe_int (nomark _)) (pss_one (ps_ret (pe_hasX (E := E) (ok25 T) hr (by rfl) (passes_call (takes_of rfl rfl rfl rfl) (fun _ _ _ _ h => h)) (pa_cons (pv 0) (pa_cons (pv 5) pa_nil))))) pss_nil)
      (pss_one (ps_ret (pe_hasX (E := E) (ok27 T) hr (by rfl) (passes_call (takes_of rfl rfl rfl rfl) (fun _ _ _ _ h => h)) (pa_cons (pv 0) (pa_cons (pv 5) (pa_cons (pe_op op_mod (pe_ix ix_list (pv 1) pe_int (fun _ _ => rfl)) (pe_op op_add (pe_callB call_len_seq (by rfl) T.len PySem.boot_len (pa_cons (pv 0) pa_nil)) pe_int)) pa_nil))))))))))))), ?_⟩
    have lenAt : ∀ {j : Nat} (hj : j < xs.length), atI (natV xs) (j : Int) = some (.int (xs[j] : Int)) := fun hj => atI_nat (nat_at hj)
    obtain ⟨ls, ha, hls⟩ := _root_.id hd
    have hll : (ls.map V.ref).length = d.length := len_ls hls
    have hd0 : 0 < d.length := Nat.pos_of_ne_zero fun z => hT.ne (List.eq_nil_of_length_eq_zero z)
    have hl0 : (0 : Int) < ((ls.map V.ref).length : Int) := by rw [hll]; omega
    obtain ⟨at0, hat0, hat1⟩ := mod_nat (i := (xs[1] : Int)) hl0
    obtain ⟨tn, htn, htn2⟩ := mod_nat (i := (xs[2] : Int)) (n := 9) (by decide)
    refine ⟨_, rfl, pd, _, _, _, rfl, rfl, .of hpd, lenAt (j := 0) (by omega), _, _, rfl, rfl, (show (0 : Int) < 6 by decide), ?_⟩
    refine ⟨_, rfl, pd, _, _, _, rfl, rfl, .of hpd, lenAt (j := 1) (by omega), _, rfl, a, _, rfl, .inr (.of ha), _, _, rfl, rfl, hl0, ?_⟩
    refine ⟨_, rfl, pd, _, _, _, rfl, rfl, .of hpd, lenAt (j := 2) (by omega), _, _, rfl, rfl, (show (0 : Int) < 9 by decide), _, rfl, by rw [htn]; omega, by rw [htn]; omega, ?_⟩
    obtain ⟨kd, hkd⟩ : ∃ z : Int, z = (xs[0] : Int) % 6 := ⟨_, rfl⟩
    refine for_range (lo := 0) (fun i σ H2 => ∃ (at' : Nat) (y6 : Option V), σ = [some (.ref a), some (.ref pd), some (.ref pn), some (.int (k : Int)), some (.int kd), some (.int (at' : Int)), y6, none, none, none] ∧ at' < d.length ∧ Same H H2)
      ⟨at0, none, (by
        show [some (V.ref a), some (.ref pd), some (.ref pn), some (.int (k : Int)), some (.int ((xs[0] : Int) % 6)), some (.int ((xs[1] : Int) % ((ls.map V.ref).length : Int))), none, none, none, none] = _
        rw [hat0, hkd]), by rw [hll] at hat1; omega, Same.refl _⟩ ?_ ?_
    · rintro i σ H2 _ ⟨at', y6, rfl, hat', s2⟩
      have hd2 := hd.same s2
      obtain ⟨l, hl⟩ : ∃ l, d[at']? = some l := ⟨_, List.getElem?_eq_getElem hat'⟩
      obtain ⟨ys, pl, ha2, hx, hatl⟩ := hd2.get hl
      obtain ⟨sk, k0, _⟩ := k_head l
      have hyl : ys.length = d.length := by
        have := s2 _ _ ha
        rw [ha2] at this
        cases this
        exact hll
      refine ⟨_, rfl, _, _, rfl, rfl, _, rfl, a, _, rfl, .inr (.of ha2), _, _, rfl, rfl, _, rfl, ?_⟩
      refine if2 (fun h1 => ?_) (fun h1 => ⟨at', _, rfl, hat', s2⟩)
      refine ⟨_, rfl, _, rfl, a, _, _, _, rfl, rfl, .of ha2, atI_nat hx, pl, _, _, _, rfl, rfl, .of hatl, atI_nat (j := 0) k0, by show 2 ≤ sizeLine; decide, fun t nt => ⟨t, _, rfl, .inr (.of upd_same), rfl, rfl, _, rfl, ?_⟩⟩
      have s3 := s2.trans (same_upd (o := .tup [.str "prose", .str "head"]) nt)
      show if inV (V.str sk) [V.str (Str.ofString "prose"), V.str (Str.ofString "head")] = true then _ else _
      cases inV (V.str sk) [V.str (Str.ofString "prose"), V.str (Str.ofString "head")] with
      | false => exact ⟨at', _, rfl, hat', s3⟩
      | true =>
        refine ⟨_, rfl, by show 3 ≤ sizeLine; decide, fun t2 nt2 => ⟨t2, _, rfl, .inr (.of upd_same), rfl, rfl, _, rfl, ?_⟩⟩
        have s4 := s3.trans (same_upd (o := .tup [.int 1, .int 2, .int 3]) nt2)
        show if inV (V.int kd) [V.int 1, V.int 2, V.int 3] = true then _ else _
        cases inV (V.int kd) [V.int 1, V.int 2, V.int 3] with
        | false => exact ⟨at', _, rfl, hat', s4⟩
        | true => exact ⟨_, rfl, _, _, rfl, rfl, at' + 1, _, rfl, by omega, s4⟩
    · rintro σ H2 ⟨at', y6, rfl, hat', s2⟩
      have hd2 := hd.same s2
      have ht2 := ht.same s2
      have hpd2 := s2 _ _ hpd
      have hpn2 := s2 _ _ hpn
      have ha2 := s2 _ _ ha
      have k02 : Ke e H H2 := Ke.of s2
      have hsm : ∀ l ∈ d, Sml (8 * 2 ^ k) l := fun l hl => (hT.ln l hl).s
      have hvd : ∀ l ∈ d, Vd l := fun l hl => (hT.ln l hl).v
      have hbk : 8 * 2 ^ k ≤ 2048 := by
        have : 2 ^ k ≤ 2 ^ 8 := Nat.pow_le_pow_right (by decide) (by omega)
        omega
      have keep : ∀ {H' : Hp}, Ke e H2 H' → H' pn = some (.dK (nmV nm)) := fun s => s.k _ _ hpn2 (fun _ z => by cases z)
      have hlog : ((k : Int)).natAbs.log2 < 1920 := Nat.lt_of_le_of_lt (Nat.log2_le_self _) (by omega)
      refine ⟨_, rfl, rfl, _, rfl, ?_⟩
      refine if2 (fun h1 => ?_) (fun h1 => ?_)
      · obtain ⟨m, hm, hm2⟩ := mod_nat (i := (xs[1] : Int)) (n := 5) (by decide)
        have hm5 : m < 5 := by omega
        have z5 : (Str.ofString "abcde").length ≤ sizeLine := by decide +kernel
        refine ⟨_, rfl, pd, _, _, _, rfl, rfl, .of hpd2, lenAt (j := 1) (by omega), _, _, rfl, rfl, (show (0 : Int) < 5 by decide), _, _, 97 + m, rfl, rfl, z5, ?_, ?_⟩
        · show atI _ ((xs[1] : Int) % 5) = _
          rw [hm]
          exact abc5 hm5
        refine ⟨_, rfl, k, rfl, hlog, _, _, rfl, rfl, Nat.le_trans (n_len k (by omega)).1 (by decide), ?_⟩
        obtain ⟨o1, o2, o3⟩ := nmk_ok (hT.nk m hm5) (by omega)
        have dg : DGet H2 pn (.str (lt1 m)) (some (.str (nm m))) := by
          have := DGet.k (k := (Sum.inr (lt1 m) : Key)) hpn2
          rw [nm_get nm m hm5] at this
          exact this
        refine ⟨_, rfl, _, rfl, _, rfl, pn, _, rfl, dg, _, rfl, a, d, nm m, nN k, rfl, ht2, hd2, hT.ok, by omega, hvd, o3, o2, (n_ok k (by omega)).2.1, fun H3 p s3 hh hf hp => ?_, fun H3 dd s3 => ⟨q2 _ _ _ (k02.trans s3) (by simp), q2 _ _ _ (k02.trans s3) (by simp)⟩⟩
        have hpn3 := keep s3
        refine ⟨_, rfl, _, rfl, _, rfl, pn, _, rfl, DPut.k (k := (Sum.inr (lt1 m) : Key)) hpn3 (by show 5 < sizeLine; decide), ?_⟩
        refine ⟨_, rfl, q1 _ p _ (fun j => if j = m then nN k else nm j) ((KeO.of (k02.trans s3)).trans (KeO.wrK hpn3)) (DocAt.kt (KT.wr (KT.of (Same.refl _)) hpn3 (by intro ys z; cases z)) hp) ?_ (st_ren hT (by omega) hm5 hf)⟩
        rw [upd_same]
        exact congrArg (fun z => some (HO.dK z)) (nm_put nm (nN k) m hm5)
      refine ⟨_, rfl, rfl, _, rfl, ?_⟩
      refine if2 (fun h1 => ?_) (fun h1 => ?_)
      · obtain ⟨m3, hm3, hm33⟩ := mod_nat (i := (xs[3] : Int)) (n := 3) (by decide)
        refine ⟨_, rfl, _, rfl, _, rfl, a, _, rfl, .inr (.of ha2), _, _, rfl, rfl, _, rfl, _, rfl, pd, _, _, _, rfl, rfl, .of hpd2, lenAt (j := 3) (by omega), _, _, rfl, rfl, (show (0 : Int) < 3 by decide), _, _, rfl, rfl, _, _, rfl, ?_⟩
        obtain ⟨jj, hjj, hjl⟩ : ∃ jj : Nat, (if ((at' : Int) + (xs[3] : Int) % 3) < ((ls.map V.ref).length : Int) - 1 then (at' : Int) + (xs[3] : Int) % 3 else ((ls.map V.ref).length : Int) - 1) = (jj : Int) ∧ jj < d.length := by
          rw [hll, hm3]
          by_cases z : (at' : Int) + (m3 : Int) < (d.length : Int) - 1
          · rw [if_pos z]; exact ⟨at' + m3, by omega, by omega⟩
          · rw [if_neg z]; exact ⟨d.length - 1, by omega, by omega⟩
        refine ⟨_, rfl, k, rfl, hlog, _, _, rfl, rfl, Nat.le_trans (n_len k (by omega)).2 (by decide), ?_⟩
        refine ⟨a, d, at', jj, _, tN k, congrArg (fun z : Int => [V.ref a, .int (at' : Int), .int z, .str (tN k)]) hjj, ht2, hd2, hT.ok, by omega, hsm, by omega, hat', hjl, (t_ok k (by omega)).2.1, fun H3 p g s3 e1 e2 e3 e4 e5 e6 hp => q1 H3 p _ nm (KeO.of (k02.trans s3)) hp (keep s3) (st_take hT (by omega) e1 hjl e2 e3 e4 e5 e6), fun H3 dd s3 => ⟨q2 _ _ _ (k02.trans s3) (by simp), q2 _ _ _ (k02.trans s3) (by simp)⟩⟩
      refine ⟨_, rfl, rfl, _, rfl, ?_⟩
      refine if2 (fun h1 => ?_) (fun h1 => ?_)
      · refine ⟨_, rfl, _, rfl, a, d, at', _, rfl, hd2, hT.ok, by omega, hsm, by omega, hat', fun H3 p j m s3 e1 e2 e3 hp => q1 H3 p _ nm ?_ hp (keep (Ke.of s3)) (st_put hT e1 e2 e3), fun H3 dd s3 => ⟨q2 _ _ _ (k02.trans (Ke.of s3)) (by simp), q2 _ _ _ (k02.trans (Ke.of s3)) (by simp), q2 _ _ _ (k02.trans (Ke.of s3)) (by simp)⟩⟩
        exact KeO.of (k02.trans (Ke.of s3))
      refine ⟨_, rfl, rfl, _, rfl, ?_⟩
      refine if2 (fun h1 => ?_) (fun h1 => ?_)
      · refine ⟨_, rfl, _, rfl, a, d, at', rfl, hd2, hT.ok, by omega, fun H3 p n s3 e1 e2 hp => q1 H3 p _ nm ?_ hp (keep (Ke.of s3)) (st_split hT e2), fun H3 s3 => q2 _ _ _ (k02.trans (Ke.of s3)) (by simp)⟩
        exact KeO.of (k02.trans (Ke.of s3))
      refine ⟨_, rfl, rfl, _, rfl, ?_⟩
      refine if2 (fun h1 => ?_) (fun h1 => ?_)
      · refine ⟨_, rfl, _, rfl, a, d, at', rfl, hd2, hT.ok, by omega, hvd, hat', fun H3 p n j s3 e1 e2 e3 e4 hp => q1 H3 p _ nm ?_ hp (keep (Ke.of s3)) (st_join hT e1 e2 e3 e4), fun H3 s3 => q2 _ _ _ (k02.trans (Ke.of s3)) (by simp)⟩
        exact KeO.of (k02.trans (Ke.of s3))
      have hl1 : (0 : Int) < ((ls.map V.ref).length : Int) + 1 := by omega
      obtain ⟨tg, htg, htg2⟩ := mod_nat (i := (xs[3] : Int)) hl1
      refine ⟨_, rfl, _, rfl, _, rfl, pd, _, _, _, rfl, rfl, .of hpd2, lenAt (j := 3) (by omega), _, rfl, a, _, rfl, .inr (.of ha2), _, _, rfl, rfl, _, _, rfl, rfl, hl1, ?_⟩
      refine ⟨a, d, at', tg, congrArg (fun z : Int => [V.ref a, .int (at' : Int), .int z]) htg, hd2, hT.ok, by omega, hvd, hat', by rw [hll] at htg2; omega, fun H3 p d' s3 e1 e2 e3 e4 hp => q1 H3 p d' nm ?_ hp (keep (Ke.of s3)) (st_move hT e1 e2 e3 e4), fun H3 s3 => q2 _ _ _ (k02.trans (Ke.of s3)) (by simp)⟩
      exact KeO.of (k02.trans (Ke.of s3))
end
end Wf

end
section
set_option maxHeartbeats 4000000
/-! W55: the law. -/
namespace Wf
open PySem PySem.Spec PyProof.Rows L2 Wr GxR Wg
def ocD : Oc → PyData
  | .texts ts => .list (ts.map PyData.str)
  | .long => .tuple [.str "long"]
  | .none => .tuple [.str "none"]
  | .missing => .tuple [.str "missing"]
  | .ring => .tuple [.str "ring"]
section
variable {K : PySem.W.Frag} {H : Hp}
theorem dp_strs : ∀ ts : List Str, DpAll K H (strV ts) (ts.map PyData.str)
  | [] => .nil
  | t :: r => .cons (.str t) (dp_strs r)
theorem dp_oc {p : Addr} {o : Oc} (h : OcAt H p o) : Dp K H (.ref p) (ocD o) := by
  cases o with
  | texts ts => exact .lst (.of h) (dp_strs ts)
  | long => exact .tup (.of h) (.cons (.str _) .nil)
  | none => exact .tup (.of h) (.cons (.str _) .nil)
  | missing => exact .tup (.of h) (.cons (.str _) .nil)
  | ring => exact .tup (.of h) (.cons (.str _) .nil)
end
theorem eqv_strs : ∀ ts : List Str, PyData.eqvAll (ts.map PyData.str) (ts.map PyData.str) = true
  | [] => rfl
  | t :: r => by
    show (PyData.eqv (.str t) (.str t) && PyData.eqvAll (r.map PyData.str) (r.map PyData.str)) = true
    rw [eqv_str, eqv_strs r]
    simp
theorem eqv_oc (o : Oc) : PyData.eqv (ocD o) (ocD o) = true := by
  cases o with
  | texts ts => exact eqv_strs ts
  | long => decide +kernel
  | none => decide +kernel
  | missing => decide +kernel
  | ring => decide +kernel
theorem sok_sh {t : Str} (h : PyData.strOk t = true) (i : Int) : PyData.strOk (shT i t) = true := by
  unfold shT
  by_cases e : t = mt
  · rw [if_pos e]; exact h
  · rw [if_neg e, sok_tl, TL.tl_append, List.all_append]
    rw [sok_tl] at h
    rw [h, Bool.and_true, List.all_eq_true]
    intro c hc
    have : c ∈ List.replicate i.toNat 32 := hc
    rw [(List.mem_replicate.mp this).2]
    rfl
theorem evs_sok {f : Str → R} (hf : ∀ n ts, f n = .ok ts → ∀ t ∈ ts, PyData.strOk t = true) : ∀ {ls : List Ln} {ts : List Str}, (∀ l ∈ ls, Vd l) → evs f ls = .ok ts → ∀ t ∈ ts, PyData.strOk t = true
  | [], ts, _, h => by cases h; intro t ht; cases ht
  | .code u :: r, ts, hv, h => by
    obtain ⟨us, vs, h1, h2, e⟩ := seq_ok (show (R.ok [u]).seq (evs f r) = _ from h)
    cases h1
    have ih := evs_sok hf (fun l hl => hv l (List.mem_cons_of_mem _ hl)) h2
    rw [e]
    intro t ht
    rcases List.mem_append.mp ht with z | z
    · rw [List.mem_singleton.mp z]; exact hv _ (List.mem_cons_self ..)
    · exact ih t z
  | .head u :: r, ts, hv, h => evs_sok hf (fun l hl => hv l (List.mem_cons_of_mem _ hl)) (show evs f r = _ from h)
  | .prose u :: r, ts, hv, h => evs_sok hf (fun l hl => hv l (List.mem_cons_of_mem _ hl)) (show evs f r = _ from h)
  | .use i m :: r, ts, hv, h => by
    obtain ⟨us, vs, h1, h2, e⟩ := seq_ok (show ((f m).sh i).seq (evs f r) = _ from h)
    obtain ⟨us', h3, h4⟩ := sh_ok h1
    have ih := evs_sok hf (fun l hl => hv l (List.mem_cons_of_mem _ hl)) h2
    rw [e, h4]
    intro t ht
    rcases List.mem_append.mp ht with z | z
    · obtain ⟨t', z1, z2⟩ := List.mem_map.mp z
      rw [← z2]
      exact sok_sh (hf m us' h3 t' z1) i
    · exact ih t z
theorem ev_sok {d : List Ln} (hv : ∀ l ∈ d, Vd l) : ∀ (k : Nat) (n : Str) (ts : List Str), ev (body d) k n = .ok ts → ∀ t ∈ ts, PyData.strOk t = true
  | 0, n, ts, h => by cases h
  | k + 1, n, ts, h => by
    have hn := ev_head h
    rw [ev_S hn] at h
    refine evs_sok (ev_sok hv k) (fun l hl => ?_) h
    obtain ⟨c, hc1, hc2⟩ := List.getElem_of_mem hl
    have hi2 : c < (plc n none 0 d).length := by rw [plc_its_len]; exact hc1
    obtain ⟨l'', z1, z2, _⟩ := plc_its (List.getElem?_eq_getElem hi2)
    rw [List.getElem?_eq_getElem hc1, hc2] at z1
    cases z1
    exact hv _ (List.mem_of_getElem? z2)
theorem lay_strs : ∀ {ts : List Str}, (∀ t ∈ ts, PyData.strOk t = true) → PyData.canLayAll0 (ts.map PyData.str) = true ∧ PyData.depthAll (ts.map PyData.str) ≤ 1
  | [], _ => ⟨rfl, Nat.zero_le _⟩
  | t :: r, h => by
    obtain ⟨a, b⟩ := lay_strs fun x hx => h x (List.mem_cons_of_mem _ hx)
    rw [List.map_cons, PyData.canLayAll0, PyData.depthAll]
    refine ⟨?_, ?_⟩
    · rw [a, Bool.and_true]
      exact h t (List.mem_cons_self ..)
    · have : (PyData.str t).depth = 0 := by simp [PyData.depth]
      rw [this]; omega
theorem shp_oc {d : List Ln} {n : Str} {o : Oc} (hv : ∀ l ∈ d, Vd l) (h : ocR (body d) n o) : SeqAt.shaped (ocD o) = true := by
  cases o with
  | texts ts => 
    obtain ⟨hl, k, e⟩ := h
    obtain ⟨a, b⟩ := lay_strs (ev_sok hv k n ts e)
    show (PyData.canLay0 (.list (ts.map PyData.str)) && decide (PyData.depth (.list (ts.map PyData.str)) ≤ 64)) = true
    rw [PyData.canLay0, a, PyData.depth, decide_eq_true (by omega)]
    rfl
  | long => decide +kernel
  | none => decide +kernel
  | missing => decide +kernel
  | ring => decide +kernel
theorem OcAt.same {H H' : Hp} {p : Addr} {o : Oc} (h : OcAt H p o) (s : Same H H') : OcAt H' p o := by
  cases o <;> exact s _ _ h
theorem SqL.keO {K : PySem.W.Frag} {e : Es} {H0 H H' : Hp} {o a : Addr} {xs : List V} (h : SqL K H0 a xs) (s : Same H0 H) (no : H0 o = none) (k : KeO e o H H') : SqL K H' a xs := by
  refine h.elim (fun h => .inl (h.elim (fun h => .inl ?_) fun ⟨ob, h⟩ => .inr ⟨ob, ?_⟩)) fun h => .inr h
  · exact k.k _ _ (ne_of_none h no) (s _ _ h) (fun _ z => by cases z)
  · exact k.k _ _ (ne_of_none h no) (s _ _ h) (fun _ z => by cases z)
theorem DocAt.keO {e : Es} {H0 H H' : Hp} {o a : Addr} {d : List Ln} (h : DocAt H0 a d) (s : Same H0 H) (no : H0 o = none) (k : KeO e o H H') : DocAt H' a d := by
  obtain ⟨ls, h1, h2⟩ := h
  have g : ∀ b ys, H0 b = some (.tup ys) → H' b = some (.tup ys) := fun b ys z => k.k _ _ (ne_of_none z no) (s _ _ z) (fun _ z => by cases z)
  exact ⟨ls, g _ _ h1, Paired.mono (fun _ _ z => g _ _ z) h2⟩
def LV : List V := [.str (lt1 0), .str (lt1 1), .str (lt1 2), .str (lt1 3), .str (lt1 4)]
theorem lv_ix : ∀ {i : Nat} {x : V}, LV[i]? = some x → i < 5 ∧ x = .str (lt1 i)
  | 0, _, h => by cases h; exact ⟨by decide, rfl⟩
  | 1, _, h => by cases h; exact ⟨by decide, rfl⟩
  | 2, _, h => by cases h; exact ⟨by decide, rfl⟩
  | 3, _, h => by cases h; exact ⟨by decide, rfl⟩
  | 4, _, h => by cases h; exact ⟨by decide, rfl⟩
  | n + 5, _, h => by cases h
theorem l0 : (Str.ofString "a" : Str) = lt1 0 := by decide +kernel
theorem l1 : (Str.ofString "b" : Str) = lt1 1 := by decide +kernel
theorem l2 : (Str.ofString "c" : Str) = lt1 2 := by decide +kernel
theorem l3 : (Str.ofString "d" : Str) = lt1 3 := by decide +kernel
theorem l4 : (Str.ofString "e" : Str) = lt1 4 := by decide +kernel
theorem lv_eq : [V.str (Str.ofString "a"), .str (Str.ofString "b"), .str (Str.ofString "c"), .str (Str.ofString "d"), .str (Str.ofString "e")] = LV := by rw [l0, l1, l2, l3, l4]; rfl
theorem nm_eq : [(V.str (Str.ofString "a"), V.str (Str.ofString "a")), (.str (Str.ofString "b"), .str (Str.ofString "b")), (.str (Str.ofString "c"), .str (Str.ofString "c")), (.str (Str.ofString "d"), .str (Str.ofString "d")), (.str (Str.ofString "e"), .str (Str.ofString "e"))] = (nmV lt1).map (fun kv => (kV kv.1, kv.2)) := by rw [l0, l1, l2, l3, l4]; rfl
abbrev s54 : Stmt := topS 54
abbrev n54 : List Str := ["_law_script", "_law_start", "_law_names", "_law_document_here", "_law_k", "_law_draws_here", "_law_made", "_law_root"]
theorem sc54 : FnScope n54 ["_law_script"] (defScope s54) := ⟨rfl, rfl, rfl, by decide +kernel, rfl, by decide +kernel, by decide +kernel⟩
def sp54 (K : PySem.W.Frag) (e : Es) : Sp := fun vs H Q _ => ∃ (a : Addr) (ns : List Int), vs = [.ref a] ∧ SqL K H a (ns.map V.int) ∧ Tabs e H ∧ ∀ H', Q (.bl true) H'
section
variable {P : Program} {w : World} {K : PySem.W.Frag} {mg : Str → Option Value} {base : Heap} {e : Es}
theorem ok54 (T : Tz P K mg base e) {f : Addr} {fd : FuncData} (F : Fun K "law" "law" (topS 54) f fd) : FnOk P w K mg base CX0 6 f fd ["_law_script"] (sp54 K e) := by
  refine Fun.ok F sc54 (fun vs H Q E h => ?_) (fun cdv A outer s H vs Q E hr h => ?_)
  · obtain ⟨a, _, rfl, _⟩ := h
    rfl
  · obtain ⟨a, ns, rfl, ha, ht, q⟩ := h
    have hre : ∃ tf, PSs (cxOf CX0 P w K mg base n54 "law" (defScope s54) f cdv A outer s H E).nox (List.drop 2 (forB ((defBody s54).getD 3 (.Pass ⟨0, 0, 0, 0⟩)))) tf ∧ ∀ (D : Ends) (x0 x1 x2 x3 x4 x5 x7 : Option V) (H4 : Hp) (p : Addr) (d' : List Ln), D.rt = Q → DocAt H4 p d' →
        (d'.length ≤ 120 → D.nx [x0, x1, x2, some (.ref p), x4, x5, some (.ref p), x7] H4) → tf D [x0, x1, x2, x3, x4, x5, some (.ref p), x7] H4 := by
      refine ⟨_, pss_cons (ps_if (PW.pt (pw_or (pt_not (pt_val (pe_callB call_isi (by rfl) T.isi (by decide +kernel) (pa_cons (pv 6) (pa_cons (pe_bltn (v := .ty "tuple") (by rfl) T.tup (by decide +kernel) rfl) pa_nil)))))
              (pw_or1 (pt_cmpR op_gt (pe_callB call_len_seq (by rfl) T.len PySem.boot_len (pa_cons (pv 6) pa_nil)) pe_int (nomark _)))))
            (pss_one (ps_ret (pe_callB call_isi (by rfl) T.isi (by decide +kernel) (pa_cons (pv 6) (pa_cons (pe_bltn (v := .ty "tuple") (by rfl) T.tup (by decide +kernel) rfl) pa_nil))))) pss_nil)
        (pss_one (ps_set (i := 3) sc54.nd rfl (.inl rfl) (pv 6))), fun D x0 x1 x2 x3 x4 x5 x7 H4 p d' hD hd' hn => ?_⟩
      obtain ⟨ls, ha', hls⟩ := _root_.id hd'
      have hll := len_ls hls
      refine ⟨_, rfl, _, _, _, _, true, rfl, .ty "tuple", .base (.tup ha'), kit_ty (by decide +kernel), true, rfl, ?_⟩
      show if (!true) = true then _ else _
      rw [if_neg (by decide)]
      refine ⟨_, rfl, p, _, rfl, .inr (.of ha'), _, _, rfl, rfl, _, rfl, ?_⟩
      refine if2 (fun h1 => ?_) (fun h1 => ?_)
      · refine ⟨_, rfl, _, _, _, _, true, rfl, .ty "tuple", .base (.tup ha'), kit_ty (by decide +kernel), ?_⟩
        show D.rt _ _
        rw [hD]
        exact q _
      · exact ⟨_, rfl, hn (by rw [hll] at h1; omega)⟩
    obtain ⟨tf, hrest, fr⟩ := hre
    refine ⟨_, pss_cons (ps_set (i := 1) sc54.nd rfl (.inl rfl) (pe_has (ok51 T.toTx) hr (by rfl) (pa_cons (pv 0) (pa_cons pe_int (pa_cons (pe_op op_add pe_int (pe_op op_mod (pe_has (ok47 T.toTx) hr (by rfl) (pa_cons (pv 0) (pa_cons pe_int pa_nil))) pe_int))
        (pa_cons (pe_cmpR op_gt (pe_op op_mod (pe_has (ok47 T.toTx) hr (by rfl) (pa_cons (pv 0) (pa_cons pe_int pa_nil))) pe_int) pe_int (nomark _)) pa_nil))))))
      (pss_cons (ps_set (i := 2) sc54.nd rfl (.inl rfl) (pe_disp (pps_cons pe_str pe_str (pps_cons pe_str pe_str (pps_cons pe_str pe_str (pps_cons pe_str pe_str (pps_cons pe_str pe_str pps_nil))))) (by rfl) (by rfl) (fun z => by cases z) (by decide)))
      (pss_cons (ps_set (i := 3) sc54.nd rfl (.inl rfl) (pv 1))
      (pss_cons (ps_for PassesOwn.never rfl (pi_range1 (by rfl) T.rng (pa_cons (pe_op op_mod (pe_has (ok47 T.toTx) hr (by rfl) (pa_cons (pv 0) (pa_cons pe_int pa_nil))) pe_int) pa_nil)) (pg_name (i := 4) sc54.nd rfl (.inl rfl))
        (pss_cons (ps_set (i := 5) sc54.nd rfl (.inl rfl) (pe_has (ok48 T.toTx) hr (by rfl) (pa_cons (pe_has (ok47 T.toTx) hr (by rfl) (pa_cons (pv 0) (pa_cons (pe_op op_add pe_int (pv 4)) pa_nil))) (pa_cons pe_int pa_nil))))
        (pss_cons (ps_try_only rfl rfl ⟨by rfl, by decide, .inl T.gWE⟩ takes_none5 (fun W pn xe tk _ => pss_one (ps_set (i := 6) sc54.nd rfl (.inl rfl) (pe_hasS (ok53 T.toTy) hr (by rfl) (fun σ => passAt tk σ) (pa_cons (pv 3) (pa_cons (pv 5) (pa_cons (pv 2) (pa_cons (pv 4) pa_nil)))))))
            (fun _ _ _ _ _ _ _ => pss_one (ps_set (i := 6) sc54.nd rfl (.inl rfl) (pv 3))))
        hrest)))
      (pss_cons (ps_for PassesOwn.never rfl (pi_list (pe_lst (pa_cons pe_str (pa_cons pe_str (pa_cons pe_str (pa_cons pe_str (pa_cons pe_str pa_nil))))))) (pg_name (i := 7) sc54.nd rfl (.inl rfl))
        (pss_one (ps_if (pt_cmpR (op_neD hr.units) (pe_has (ok52 T) hr (by rfl) (pa_cons (pv 1) (pa_cons (pv 7) pa_nil))) (pe_has (ok52 T) hr (by rfl) (pa_cons (pv 3) (pa_cons (pe_dget (hu_of hr) (pv 2) (pv 7) (fun _ _ => rfl)) pa_nil))) (nomark _)) (pss_one (ps_ret pe_bl)) pss_nil)))
      (pss_one (ps_ret (pe_cmpR (op_eqD hr.units) (pe_has (ok36 T.toTy) hr (by rfl) (pa_cons (pe_has (ok38 T.toTx) hr (by rfl) (pa_cons (pv 3) pa_nil)) pa_nil)) (pv 3) (nomark _)))))))), ?_⟩
    refine ⟨_, rfl, _, rfl, a, ns, 0, rfl, ha, fun c0 => ⟨_, _, rfl, rfl, (show (0 : Int) < 20 by decide), _, _, rfl, rfl, _, rfl, a, ns, 1, rfl, ha, fun c1 => ⟨_, _, rfl, rfl, (show (0 : Int) < 3 by decide), _, _, rfl, rfl, ?_⟩⟩⟩
    obtain ⟨m0, hm0, hm1⟩ := mod_nat (i := c0) (n := 20) (by decide)
    refine ⟨a, ns, 3, 1 + m0, _, congrArg (fun z : Int => [V.ref a, .int 3, .int z, .bl (decide (0 < c1 % 3))]) (show 1 + c0 % 20 = ((1 + m0 : Nat) : Int) by rw [hm0]; omega), ha, by omega, fun H1 s0 d0 s1 hd0 ok0 hl0 hLL => ?_⟩
    intro pn npn
    refine ⟨upd_same, nmV lt1, nm_eq, by decide, ?_⟩
    have sb : Same H1 (upd (upd H1 pn (.dK [])) pn (.dK (mergeK [] (nmV lt1)))) := same_wr (same_upd npn) npn
    have hpb : upd (upd H1 pn (.dK [])) pn (.dK (mergeK [] (nmV lt1))) pn = some (.dK (nmV lt1)) := upd_same
    generalize upd (upd H1 pn (.dK [])) pn (.dK (mergeK [] (nmV lt1))) = Hb at sb hpb ⊢
    have ha1 : SqL K H1 a (ns.map V.int) := SqL.sm ha s1
    have st0 : TSt (body d0) 0 d0 lt1 := ⟨ok0, (fun z => by rw [z] at hl0; cases hl0), fun l hl => ll_lni (hLL l hl), fun j hj => .inl ⟨j, hj, rfl⟩, fun i j hi hj he => l_inj i hi j hj he, fun j _ => Sm.refl _ _⟩
    have ht1 : Tabs e Hb := (ht.same s1).same sb
    refine ⟨_, rfl, ?_⟩
    refine ⟨_, rfl, a, ns, 2, rfl, SqL.sm ha1 sb, fun c2 => ?_⟩
    obtain ⟨n0, hn0, hn1⟩ := mod_nat (i := c2) (n := 10) (by decide)
    refine ⟨_, _, rfl, rfl, (show (0 : Int) < 10 by decide), _, rfl, by rw [hn0]; omega, by rw [hn0]; omega, ?_⟩
    have hn9 : (c2 % 10).toNat ≤ 9 := by rw [hn0]; omega
    refine for_range (lo := 0) (fun i σ H2 => ∃ (dd : Addr) (d : List Ln) (nm : Nat → Str) (y4 y5 y6 : Option V), σ = [some (.ref a), some (.ref s0), some (.ref pn), some (.ref dd), y4, y5, y6, none] ∧ KeO e pn Hb H2 ∧ DocAt H2 dd d ∧ H2 pn = some (.dK (nmV nm)) ∧ TSt (body d0) i d nm ∧ d.length ≤ 120)
      ⟨s0, d0, lt1, none, none, none, rfl, KeO.of (Ke.refl _ _), hd0.same sb, hpb, st0, by omega⟩ ?_ ?_
    · rintro i σ H2 hi ⟨dd, d, nm, y4, y5, y6, rfl, k2, hd2, hpn2, st, hdl⟩
      have hi9 : i < 9 := by omega
      refine ⟨_, rfl, _, rfl, _, _, rfl, rfl, a, ns, 25 + i, congrArg (fun z : Int => [V.ref a, .int z]) (show (25 : Int) + (0 + (i : Int)) = ((25 + i : Nat) : Int) by omega), SqL.keO ha1 sb npn k2, fun c => ⟨c, 4, rfl, by omega, fun H3 pd xs s3 npd hxl hp => ?_⟩⟩
      have ht3 := (k2.t ht1).same s3
      have hd3 := hd2.same s3
      have hpn3 := s3 _ _ hpn2
      have k3 := k2.trans (KeO.of (o := pn) (Ke.of s3))
      refine ⟨_, rfl, _, rfl, _, rfl, _, rfl, dd, pd, pn, d, xs, nm, i, body d0, congrArg (fun z : Int => [V.ref dd, .ref pd, .ref pn, .int z]) (show (0 : Int) + (i : Int) = (i : Int) by omega), ht3, hd3, hp, hxl, hpn3, hi9, st, hdl, fun H4 p d' nm' k4 hd4 hpn4 st4 => ?_, fun H4 cc dx k4 hc => ⟨true, T.mWE cc hc, fun _ a' _ => ⟨_, rfl, ?_⟩, fun z => by cases z⟩⟩
      · exact fr _ _ _ _ _ _ _ _ H4 p d' rfl hd4 fun hl => ⟨p, d', nm', _, _, _, rfl, k3.trans k4, hd4, hpn4, st4, hl⟩
      · exact fr _ _ _ _ _ _ _ _ H4 dd d rfl (hd3.ke k4) fun hl => ⟨dd, d, nm, _, _, _, rfl, k3.trans (KeO.of k4), hd3.ke k4, k4.k _ _ hpn3 (fun _ z => by cases z), st.up, hl⟩
    · rintro σ H2 ⟨dd, d, nm, y4, y5, y6, rfl, k2, hd2, hpn2, st, hdl⟩
      have hbb : 8 * 2 ^ (c2 % 10).toNat ≤ 4096 := by
        have : 2 ^ (c2 % 10).toNat ≤ 2 ^ 9 := Nat.pow_le_pow_right (by decide) hn9
        omega
      have hs0 : DocAt H2 s0 d0 := DocAt.keO hd0 sb npn k2
      have hL8 : ∀ l ∈ d0, LnI 8 l := fun l hl => ll_lni (hLL l hl)
      refine ⟨by show 5 ≤ sizeLine; decide, fun L nL => ⟨L, rfl, ⟨_, .of upd_same⟩, ?_⟩⟩
      have sL := same_upd (o := .lst [V.str (Str.ofString "a"), .str (Str.ofString "b"), .str (Str.ofString "c"), .str (Str.ofString "d"), .str (Str.ofString "e")]) nL
      have hL : upd H2 L (.lst [V.str (Str.ofString "a"), .str (Str.ofString "b"), .str (Str.ofString "c"), .str (Str.ofString "d"), .str (Str.ofString "e")]) L = some (.lst LV) := by rw [upd_same, lv_eq]
      refine for_list (K := K) (a := L) (xs := LV) (fun i σ H5 => ∃ y7, σ = [some (.ref a), some (.ref s0), some (.ref pn), some (.ref dd), y4, y5, y6, y7] ∧ Same (upd H2 L (.lst [V.str (Str.ofString "a"), .str (Str.ofString "b"), .str (Str.ofString "c"), .str (Str.ofString "d"), .str (Str.ofString "e")])) H5)
        ⟨none, rfl, Same.refl _⟩ (fun i σ H5 _ ⟨_, _, s⟩ => .of (s _ _ hL)) ?_ ?_
      · rintro i x σ H5 hx ⟨y7, rfl, s5⟩
        obtain ⟨hi, rfl⟩ := lv_ix hx
        have s25 := sL.trans s5
        obtain ⟨n1, n2, n3⟩ := nmk_ok (st.nk i hi) (by omega)
        have dg : ∀ {H6 : Hp}, H6 pn = some (.dK (nmV nm)) → DGet H6 pn (.str (lt1 i)) (some (.str (nm i))) := fun {H6} h => by
          have := DGet.k (k := (Sum.inr (lt1 i) : Key)) h
          rw [nm_get nm i hi] at this
          exact this
        refine ⟨_, rfl, _, rfl, s0, d0, lt1 i, 8, rfl, hs0.same s25, ok0, by omega, fun l hl => (hL8 l hl).s, by omega, (l_ok i hi).2.1, fun H6 p1 o1 s6 hp1 hr1 => ?_⟩
        have s26 := s25.trans s6
        refine ⟨_, rfl, _, rfl, _, rfl, pn, _, rfl, dg (s26 _ _ hpn2), dd, d, nm i, _, rfl, hd2.same s26, st.ok, hdl, fun l hl => (st.ln l hl).s, by omega, n2, fun H7 p2 o2 s7 hp2 hr2 => ?_⟩
        have eo := oc_one (oc_sm (st.sm i hi) hr1) hr2
        refine ⟨ocD o1, ocD o2, dp_oc (hp1.same s7), dp_oc hp2, shp_oc (fun l hl => (hL8 l hl).v) hr1, shp_oc (fun l hl => (st.ln l hl).v) hr2, _, rfl, ?_⟩
        rw [eo, eqv_oc]
        show if (!true) = true then _ else _
        rw [if_neg (by decide)]
        exact ⟨_, rfl, (s5.trans s6).trans s7⟩
      · rintro σ H5 ⟨y7, rfl, s5⟩
        have s25 := sL.trans s5
        have hd5 := hd2.same s25
        have ht5 := (k2.t ht1).same s25
        have hup : ∀ l ∈ d, LnI 20000 l := fun l hl => (st.ln l hl).up (by omega)
        refine ⟨_, rfl, dd, d, rfl, hd5, by omega, fun l hl => (hup l hl).s, fun H6 s6 => ⟨d, rfl, ht5.same s6, st.ne, by omega, st.ok, fun l hl => ⟨(hup l hl).r, (hup l hl).s⟩, fun H7 p7 k7 hd7 => ?_⟩⟩
        have hv : ∀ l ∈ d, Vd l := fun l hl => (st.ln l hl).v
        refine ⟨_, rfl, dD d, dD d, dp_doc hd7, dp_doc ((hd5.same s6).ke k7), shp_dD hv, shp_dD hv, ?_⟩
        rw [eqv_dD, decide_eq_true rfl]
        exact q _
end
end Wf

end
section
set_option maxHeartbeats 4000000
/-! WH: what the top has left: the hook. -/
namespace Wf
open PySem PySem.Spec PyProof.Rows L2 Wr GxR Wg PySem.W
/-! ### the error classes -/
def clsB (K : Frag) (C : Addr) : Bool := match K.lookup C with
  | some ⟨.type "type", _, .cls cd, sl⟩ => (match cd.mro, sl.toList with
    | .ref C' :: bm, [_, _, _, _, some (.builtin n), _] => C' == C && n == "ValueError.__new__" && !cd.hasDel && cd.hasDict && PySem.HandSPX.refsVE bm
    | _, _ => false)
  | _ => false
theorem clsB_ok {K : Frag} {C : Addr} (q : clsB K C = true) : ∃ nm q N bs bm sn sub ab col dd k0 k1 k2 k3 k5, K.lookup C = some (excClassObj nm q C N bs bm true sn sub ab col dd k0 k1 k2 k3 k5 "ValueError.__new__") ∧ PySem.HandSPX.refsVE bm = true := by
  unfold clsB at q
  split at q
  · rename_i dd cd sl ho
    split at q
    · rename_i C' bm k0 k1 k2 k3 n k5 hm hs
      simp only [Bool.and_eq_true, beq_iff_eq, Bool.not_eq_true'] at q
      obtain ⟨⟨⟨⟨rfl, rfl⟩, hdel⟩, hdi⟩, ht⟩ := q
      obtain ⟨nm, bs, mro, ns, qn, hd, sn, sub, ab, col, del⟩ := cd
      dsimp only at hm hdel hdi
      subst hm hdel hdi
      have hsl : sl = #[k0, k1, k2, k3, some (.builtin "ValueError.__new__"), k5] := by
        obtain ⟨l⟩ := sl
        simp only at hs
        rw [hs]
      subst hsl
      exact ⟨nm, qn, ns, bs, bm, sn, sub, ab, col, dd, k0, k1, k2, k3, k5, ho, ht⟩
    · cases q
  · cases q
abbrev iA (K : Frag) (x : Str) : Addr := He.ma K (He.ga K x) "__init__"
abbrev InW : Type := Option (Arguments × FuncBody × Scope × Addr × List Str × Addr)
def iniW (K : Frag) (x : Str) : InW := match K.lookup (iA K x) with
  | some ⟨_, _, .func fd, _⟩ => some (fd.params, fd.body, fd.scope, fd.globals, fd.closure.map (·.1), fd.builtins)
  | _ => none
def iniV (i : Nat) : InW := some (defArgs (initS i), .stmts (defBody (initS i)), defScope (initS i), mainGlobals, ["__class__"], builtinsNs)
def cellB (K : Frag) (cc C : Addr) : Bool := match K.lookup cc with
  | some ⟨_, _, .cell (some (.ref C')), _⟩ => C' == C
  | _ => false
def fileB (K : Frag) (cda : Addr) (file : Str) : Bool := match K.lookup cda with
  | some ⟨_, _, .fields vs, _⟩ => (match (vs[2]? : Option Value) with
    | some (.str z _) => decide (z = file)
    | _ => false)
  | _ => false
def fnB (K : Frag) (x : Str) (file : Str) : Bool := match K.lookup (iA K x) with
  | some ⟨_, _, .func fd, _⟩ => (match fd.defaults, fd.code, fd.closure with
    | .none, .ref cda, [(_, cc)] => codeIn K (.ref cda) fd.qualname && fileB K cda file && cellB K cc (He.ga K x)
    | _, _, _ => false)
  | _ => false
def erB (K : Frag) (file : Str) (x : Str) (fs : List Str) : Bool :=
  He.eqO (nsIn K mainGlobals x) (some (some (.ref (He.ga K x)))) && (clsB K (He.ga K x) && (He.eqO (findIn K (.ref (He.ga K x)) "__setattr__") (some (some (.builtin "object.__setattr__"))) &&
    (decide (subIn K (.ref (He.ga K x)) (.type "BaseException") = some true) && (decide (typeIn K (.ref (He.ga K x)) = some (.type "type")) && (keepIn K (.ref (He.ga K x)) &&
    (He.eqO (findIn K (.ref (He.ga K x)) "__init__") (some (some (.ref (iA K x)))) && (decide (typeIn K (.ref (iA K x)) = some (.type "function")) && (fnB K x file &&
    (He.eqO (ks_superIn K (He.ga K x) (He.ga K x) "__init__") (some (some (.builtin "ValueError.__init__"))) && (decide (subIn K (.ref (He.ga K x)) (.type "ValueError") = some true) &&
    (decide (mroIn K (He.ga K x) (.ref (He.ga K x)) = some true) && fs.all fun f => He.eqO (findIn K (.ref (He.ga K x)) f) (some none))))))))))))
theorem er_of {P : Program} {K : Frag} {h : Heap} {mg : Str → Option Value} {x : Str} {i : Nat} {fs : List Str} (X : K.In h) (G : h.Ns mainGlobals mg) (c : erB K (P.main.file : Str) x fs = true) (e : iniW K x = iniV i) (ha : nsIn K cStatics "thirdparty.any" = some none) :
    Er P K mg x i fs (He.ga K x) := by
  obtain ⟨c1, c⟩ := He.ba c
  obtain ⟨c2, c⟩ := He.ba c
  obtain ⟨c3, c⟩ := He.ba c
  obtain ⟨c4, c⟩ := He.ba c
  obtain ⟨c5, c⟩ := He.ba c
  obtain ⟨c6, c⟩ := He.ba c
  obtain ⟨c7, c⟩ := He.ba c
  obtain ⟨c8, c⟩ := He.ba c
  obtain ⟨c9, c⟩ := He.ba c
  obtain ⟨c10, c⟩ := He.ba c
  obtain ⟨c11, c⟩ := He.ba c
  obtain ⟨c12, c13⟩ := He.ba c
  refine ⟨mg_of X G (He.eqO_ok c1), ?_, fun f hf => He.eqO_ok (List.all_eq_true.mp c13 f hf)⟩
  unfold fnB at c9
  unfold iniW iniV at e
  split at c9
  · rename_i oc od fd osl lk
    rw [lk] at e
    obtain ⟨n1, n2, n3, n4, n5, n6, n7, n8, n9, n10, n11, n12, n13, n14, n15⟩ := fd
    simp only [Option.some.injEq, Prod.mk.injEq] at e
    obtain ⟨e1, e2, e3, e4, e5, e6⟩ := e
    subst e1 e2 e3 e4 e6
    split at c9
    · rename_i cda nm cc h1 h2 h3
      subst h1 h2 h3
      simp only [Bool.and_eq_true] at c9
      obtain ⟨⟨d1, d2⟩, d3⟩ := c9
      have e5' : nm = ("__class__" : Str) := by simpa using e5
      subst e5'
      refine ⟨iA K x, cda, cc, ⟨⟨clsB_ok c2, He.eqO_ok c3, of_decide_eq_true c4, of_decide_eq_true c5, c6⟩, He.eqO_ok c7, of_decide_eq_true c8, ⟨oc, od, osl, n1, n2, n9, n10, n11, n12, n14, lk, d1⟩, ?_, ?_, He.eqO_ok c10, of_decide_eq_true c11, of_decide_eq_true c12, ha⟩⟩
      · unfold fileB at d2
        split at d2
        · rename_i o1 o2 vs o3 l2
          split at d2
          · rename_i z tz hz
            exact ⟨o1, o2, vs, o3, tz, l2, by rw [hz, of_decide_eq_true d2]⟩
          · cases d2
        · cases d2
      · unfold cellB at d3
        split at d3
        · rename_i o1 o2 C' o3 l2
          refine ⟨o1, o2, o3, ?_⟩
          rw [l2, eq_of_beq d3]
        · cases d3
    · cases c9
  · cases c9
end Wf

end
section
set_option maxHeartbeats 4000000
/-! WI: the hook, the facts. -/
namespace Wf
open PySem PySem.Spec PyProof.Rows L2 Wr GxR Wg PySem.W
def errs : List (Str × Nat × List Str) := [("NoPiece", 3, ["name"]), ("Missing", 4, ["line", "name"]), ("Ring", 5, ["names"]), ("Taken", 7, ["name"])]
def fnL : List He.DefD := dfs.map fun p => ⟨(p.1, none), p.1, p.1, defArgs (topS p.2), defBody (topS p.2), defScope (topS p.2), [], []⟩
def faL : List He.Fa := [.free "len", .free "range", .free "list", .free "tuple", .free "min", .free "any", .free "all", .free "enumerate", .free "reversed", .free "sum", .free "isinstance", .free "str", .free "super",
  .int "NAME_MOST" 20, .str "NAME_SIGNS" "-_.", .int "MOST_LINES" 2000, .glo "BadPlace", .glo "WeftError", .exc "BadPlace",
  .exm "NoPiece" "WeftError" true, .exm "Ring" "WeftError" true, .exm "Taken" "WeftError" true, .exm "BadPlace" "WeftError" true,
  .exm "NoPiece" "NoPiece" true, .exm "Missing" "NoPiece" false, .exm "Ring" "NoPiece" false, .exm "Missing" "Missing" true, .exm "Ring" "Missing" false, .exm "Ring" "Ring" true] ++ dfs.map fun p => .glo p.1
def tfL : List He.Defn := [("check_free", none), ("take_out", none), ("is_name", none)]
def fileS : Str := (PySem.Challenge.pw_weft_k73_whole_turnings_keep_programs.main.file : Str)
def exL (K : Frag) : Bool := He.eqO (nsIn K cStatics "thirdparty.any") (some none) && errs.all fun p => erB K fileS p.1 p.2.2
def asW (g : Addr → Option Obj) (n : Nat) : List Addr := He.asD g n ++ [cStatics]
abbrev AlY : Type := He.AlX × List InW
def obsY (n : Nat) (g : Addr → Option Obj) : AlY := ((He.obsT faL fnL [] (He.frT g (asW g n)), exL (He.frT g (asW g n)) && He.tabsB g tfL (He.frT g (asW g n))), errs.map fun p => iniW (He.frT g (asW g n)) p.1)
def valY (w : World) : AlY := (He.valX fnL [] w, errs.map fun p => iniV p.2.1)
structure SaysY (w : World) (h : Heap) (K : Frag) : Prop where
  x : He.SaysX faL fnL [] tfL exL w h K
  ini : errs.map (fun p => iniW K p.1) = errs.map fun p => iniV p.2.1
theorem saysY_of {n : Nat} {w : World} {h : Heap} (e : obsY n h.get? = valY w) : SaysY w h (He.frT h.get? (asW h.get? n)) := by
  have e0 : ((He.obsT faL fnL [] (He.frT h.get? (asW h.get? n)), exL (He.frT h.get? (asW h.get? n)) && He.tabsB h.get? tfL (He.frT h.get? (asW h.get? n))) : He.AlX) = He.valX fnL [] w := congrArg (fun z : AlY => z.1) e
  have e1 : He.obsT faL fnL [] (He.frT h.get? (asW h.get? n)) = He.valT fnL [] w := congrArg (fun z : He.AlX => z.1) e0
  have e2 : (exL (He.frT h.get? (asW h.get? n)) && He.tabsB h.get? tfL (He.frT h.get? (asW h.get? n))) = true := congrArg (fun z : He.AlX => z.2) e0
  obtain ⟨h1, h2⟩ := He.ba e2
  have key : ∀ p ∈ tfL, codeHdIn (He.frT h.get? (asW h.get? n)) (He.cT (He.frT h.get? (asW h.get? n)) p).1 (He.cT (He.frT h.get? (asW h.get? n)) p).2 = true ∧ ∃ o, h.get? (He.cT (He.frT h.get? (asW h.get? n)) p).2 = some o ∧ He.emptyTab o = true := fun p hp => by
    obtain ⟨h3, h4⟩ := He.ba (List.all_eq_true.mp h2 p hp)
    refine ⟨h3, ?_⟩
    cases q : h.get? (He.cT (He.frT h.get? (asW h.get? n)) p).2 with
    | none =>
      rw [q] at h4
      cases h4
    | some o =>
      rw [q] at h4
      exact ⟨o, rfl, h4⟩
  exact ⟨⟨e1, h1, fun p hp => (key p hp).1, fun p hp => by
    obtain ⟨_, o, q, z⟩ := key p hp
    exact He.frT_none q z, fun p hp => by
    obtain ⟨_, o, q, z⟩ := key p hp
    rw [q, He.emptyTab_eq z]⟩, congrArg (fun z : AlY => z.2) e⟩
def hookY (n : Nat) : Hook where
  α := AlY
  obs := fun s => obsY n s.heap.get?
  val := fun w => valY w
  says := fun w h => ∃ K : Frag, K.In h ∧ SaysY w h K
  of := fun _ _ e => ⟨_, He.frT_in, saysY_of e⟩
  keeps := fun _ _ _ ⟨K, hK, c⟩ k => ⟨K, Frag.In.keeps hK k, ⟨⟨c.x.t, c.x.more, c.x.hd, c.x.out, fun p hp => k _ _ (c.x.empty p hp)⟩, c.ini⟩⟩
theorem obsY_eq {n : Nat} {g : Addr → Option Obj} {s : Shared} (h : ∀ a, g a = s.heap.get? a) : obsY n g = (hookY n).obs s := by
  have e : g = s.heap.get? := funext h
  rw [e] <;> rfl
def esOf (K : Frag) : Es := ⟨He.ga K "WeftError", He.ga K "NoPiece", He.ga K "Missing", He.ga K "Ring", He.ga K "Taken", He.ga K "BadPlace", (He.cT K ("check_free", none)).2, (He.cT K ("take_out", none)).2, (He.cT K ("is_name", none)).2⟩
section
variable {P : Program} {w : World} {K : Frag} {h base : Heap} {mg : Str → Option Value}
theorem tx_of (X : K.In h) (G : h.Ns mainGlobals mg) (c : SaysY w h K) : Tx K mg := by
  have d := c.x.t.d
  have fr : ∀ (i : Nat) (x : Str), faL[i]? = some (.free x) → mg x = none := fun i x e => He.free_ok X G (d.fact i e)
  refine ⟨fun i p e => ?_, fr 0 _ rfl, fr 1 _ rfl, fr 2 _ rfl, fr 3 _ rfl, fr 4 _ rfl, fr 5 _ rfl, fr 6 _ rfl, fr 7 _ rfl, fr 8 _ rfl, fr 9 _ rfl, fr 10 _ rfl, fr 11 _ rfl,
    He.int_ok X G (d.fact 13 (f := .int "NAME_MOST" 20) rfl), He.str_ok X G (d.fact 14 (f := .str "NAME_SIGNS" "-_.") rfl), He.int_ok X G (d.fact 15 (f := .int "MOST_LINES" 2000) rfl)⟩
  have hm : p ∈ dfs := List.mem_of_getElem? e
  obtain ⟨fd, F⟩ := d.defs (d := ⟨(p.1, none), p.1, p.1, defArgs (topS p.2), defBody (topS p.2), defScope (topS p.2), [], []⟩) (List.mem_map.mpr ⟨p, hm, rfl⟩)
  have hg := He.glo_ok X G (d.facts (f := .glo p.1) (List.mem_append_right _ (List.mem_map.mpr ⟨p, hm, rfl⟩)))
  obtain ⟨oc, od, dV, kV, doc, pm, an, cdv, ct, osl, e1, lk, hcd, hdf, _⟩ := F.ex
  have edV : dV = .none := hdf.elim (fun z => z.2) fun z => absurd rfl z.1
  subst edV
  exact ⟨He.ga K p.1, fd, ⟨⟨oc, od, kV, doc, pm, an, cdv, ct, osl, e1, lk, hcd⟩, F.kp⟩, hg⟩
theorem tz_of (X : K.In h) (G : h.Ns mainGlobals mg) (c : SaysY w h K) (hP : P = PySem.Challenge.pw_weft_k73_whole_turnings_keep_programs) (TB : ∀ p ∈ tfL.map (He.cT K), TabB base mg p.1 p.2) : Tz P K mg base (esOf K) := by
  have d := c.x.t.d
  have T := tx_of X G c
  obtain ⟨ha, hx⟩ := He.ba c.x.more
  have hal := List.all_eq_true.mp hx
  have hini : ∀ (i : Nat) (p : Str × Nat × List Str), errs[i]? = some p → iniW K p.1 = iniV p.2.1 := fun i p e => by
    have e2 : (errs.map fun p => iniW K p.1)[i]? = (errs.map fun p => iniV p.2.1)[i]? := by rw [c.ini]
    rw [List.getElem?_map, List.getElem?_map, e] at e2
    exact Option.some.inj e2
  have er : ∀ (i : Nat) (x : Str) (j : Nat) (fs : List Str), errs[i]? = some (x, j, fs) → Er P K mg x j fs (He.ga K x) := fun i x j fs e => by
    subst hP
    exact er_of X G (hal _ (List.mem_of_getElem? e)) (hini i _ e) (He.eqO_ok ha)
  have xm : ∀ (i : Nat) (x y : Str) (b : Bool), faL[i]? = some (.exm x y b) → exmOne K (.ref (He.ga K x)) (.ref (He.ga K y)) = some b := fun i x y b e => He.exm_ok (d.fact i e)
  obtain ⟨x1, x2, x3, x4⟩ := He.exc_ok (d.fact 18 (f := .exc "BadPlace") rfl)
  refine ⟨⟨T, fun x t hm f oc od fd osl hf lk => ?_, He.free_ok X G (d.fact 12 (f := .free "super") rfl), ?_, er 0 _ _ _ rfl, er 1 _ _ _ rfl, er 2 _ _ _ rfl, er 3 _ _ _ rfl, He.glo_ok X G (d.fact 16 (f := .glo "BadPlace") rfl), x1, x2, x3, x4⟩,
    He.glo_ok X G (d.fact 17 (f := .glo "WeftError") rfl), ?_, xm 23 _ _ _ rfl, xm 24 _ _ _ rfl, xm 25 _ _ _ rfl, xm 26 _ _ _ rfl, xm 27 _ _ _ rfl, xm 28 _ _ _ rfl⟩
  · have one : ∀ (x : Str) (i : Nat) (p : Str × Nat), dfs[i]? = some p → p.1 = x → (x, none) ∈ tfL → ∀ (f : Addr) (oc : Value) (od : Option Addr) (fd : FuncData) (osl : Array (Option Value)), mg x = some (.ref f) → K.lookup f = some ⟨oc, od, .func fd, osl⟩ → ∃ c, fd.code = .ref c ∧ TabB base mg c (He.cT K (x, none)).2 := fun x i p e ex hm f oc od fd osl hf lk => by
      subst ex
      have hp : p ∈ dfs := List.mem_of_getElem? e
      obtain ⟨fd', F⟩ := d.defs (d := ⟨(p.1, none), p.1, p.1, defArgs (topS p.2), defBody (topS p.2), defScope (topS p.2), [], []⟩) (List.mem_map.mpr ⟨p, hp, rfl⟩)
      have hg := He.glo_ok X G (d.facts (f := .glo p.1) (List.mem_append_right _ (List.mem_map.mpr ⟨p, hp, rfl⟩)))
      have ef : f = He.ga K p.1 := by
        rw [hf] at hg
        cases hg
        rfl
      subst ef
      obtain ⟨oc', od', dV, kV, doc, pm, an, cdv, ct, osl', e1, lk', hcd, _⟩ := F.ex
      have lk2 : K.lookup (He.ga K p.1) = some ⟨oc', od', .func fd', osl'⟩ := lk'
      rw [lk] at lk2
      have efd : fd = fd' := by
        have := congrArg Obj.data (Option.some.inj lk2)
        cases this
        rfl
      rw [← efd] at e1
      obtain ⟨cc, hc⟩ := He.codeIn_ref hcd
      have hcode : fd.code = .ref cc := by rw [e1]; exact hc
      have := TB (He.cT K (p.1, none)) (List.mem_map.mpr ⟨_, hm, rfl⟩)
      have e3 : (He.cT K (p.1, none)).1 = cc := He.codeOf_eq (p := (p.1, none)) lk hcode
      rw [e3] at this
      exact ⟨cc, hcode, this⟩
    simp only [List.mem_cons, List.not_mem_nil, or_false, Prod.mk.injEq] at hm
    rcases hm with ⟨rfl, rfl⟩ | ⟨rfl, rfl⟩ | ⟨rfl, rfl⟩
    · exact one _ 6 _ rfl rfl (by simp [tfL]) f oc od fd osl hf lk
    · exact one _ 11 _ rfl rfl (by simp [tfL]) f oc od fd osl hf lk
    · exact one _ 18 _ rfl rfl (by simp [tfL]) f oc od fd osl hf lk
  · subst hP
    decide +kernel
  · intro cl hm
    simp only [List.mem_cons, List.not_mem_nil, or_false] at hm
    rcases hm with rfl | rfl | rfl | rfl
    · exact xm 19 _ _ _ rfl
    · exact xm 20 _ _ _ rfl
    · exact xm 21 _ _ _ rfl
    · exact xm 22 _ _ _ rfl
end
end Wf

end
section
set_option maxHeartbeats 0
/-! WJ: the run of the top. -/
namespace Wf
open PySem PySem.W PySem.Calls PyProof.Rows
abbrev RR : OpenRow := OpenLaw.row PySem.Challenge.rw_weft_k73_whole_turnings_keep_programs
abbrev qv : Program := view RR.prog [54]
def names1 : List PySem.Str := ["WeftError", "BadDocument", "NoPiece", "Missing", "Ring", "TooLong", "Taken", "BadPlace", "sections", "piece_names", "piece_lines", "table_of", "ring_from", "closure", "check_free", "rename", "is_own", "blanks_of", "shifted", "take_out", "put_in", "split", "join", "order_of", "move_section", "NAME_MOST"]
def names2 : List PySem.Str := ["NAME_SIGNS", "is_name_sign", "is_name", "use_of", "head_fault", "read_line", "read", "write_line", "write", "MOST_LINES", "lengths_of", "length", "shown", "tangle", "texts_of", "_law_cell", "_law_draws", "_law_text", "_law_line", "_law_document", "_law_shown", "_law_turned"]
def loose : List PySem.Str := names1 ++ names2
abbrev hkY : Hook := hookY 5
def ob (s : SharedT) : AlY := obsY 5 (HandSHeadRun.getT s)
theorem ob_eq (s : SharedT) : ob s = hkY.obs s.abs := obsY_eq (HandSHeadRun.getT_eq s)
theorem run (w : World) : HandSHeadRun.RunEq RR qv hkY ob 6000 loose w := by
  intro os
  kernel_rfl
end Wf

end
section
set_option maxHeartbeats 0
/-! WZ: the law. -/
namespace Wf
open PySem PySem.Spec PyProof.Rows L2 Wr GxR Wg PySem.W
theorem law_at {w : World} {mg : Str → Option Value} {fa : Addr} {h : Heap} {K : Frag} (X : K.In h) (G : h.Ns mainGlobals mg) (hmg : mg ("law" : Str) = some (.ref fa)) (c : SaysY w h K) :
    LamX.LawAtS PySem.Challenge.rw_weft_k73_whole_turnings_keep_programs w K CX0 6 63 "_law_script" mg fa h := by
  have T := tx_of X G c
  have d := c.x.t.d
  obtain ⟨f, fd, F, g⟩ := T.df 37 _ rfl
  have ef : f = fa := by
    have g' : mg ("law" : Str) = some (.ref f) := g
    rw [hmg] at g'
    cases g'
    rfl
  subst ef
  refine ⟨fd, tfL.map (He.cT K), sp54 K (esOf K), fun p hp => ?_, fun p hp => ?_, fun p hp => ?_, fun s v => ?_, fun H a ns _ _ hT hS => ⟨a, ns, rfl, hS, ⟨?_, ?_, ?_⟩, fun _ => rfl⟩, fun base X2 G2 TB => ?_⟩
  · obtain ⟨q, hq, rfl⟩ := List.mem_map.mp hp
    exact c.x.empty q hq
  · obtain ⟨q, hq, rfl⟩ := List.mem_map.mp hp
    exact c.x.out q hq
  · obtain ⟨q, hq, rfl⟩ := List.mem_map.mp hp
    exact codeHd_of_K X (c.x.hd q hq)
  · obtain ⟨oc, od, kV, doc, pm, an, cdv, ct, osl, e1, _, _⟩ := F.ex
    subst e1
    exact BindsTo.of_eq rfl
  · exact ⟨#[], hT (He.cT K ("check_free", none)) (by simp [tfL]), trivial⟩
  · exact ⟨#[], hT (He.cT K ("take_out", none)) (by simp [tfL]), trivial⟩
  · exact ⟨#[], hT (He.cT K ("is_name", none)) (by simp [tfL]), trivial⟩
  · exact ok54 (tz_of (P := (PySem.Challenge.rw_weft_k73_whole_turnings_keep_programs).prog) X G c rfl fun p hp => ⟨(TB p hp).code, (TB p hp).bm, (TB p hp).gP⟩) F
end Wf
open PySem PySem.W PySem.Calls PyProof.Rows
theorem PySem.Challenge.cw_weft_k73_whole_turnings_keep_programs_holds : PySem.Challenge.rw_weft_k73_whole_turnings_keep_programs.Holds := by
  w_on; o_law
  refine HandSHeadRun.head_any (r := OpenLaw.row PySem.Challenge.rw_weft_k73_whole_turnings_keep_programs) (q := view (OpenLaw.row PySem.Challenge.rw_weft_k73_whole_turnings_keep_programs).prog [54]) (H := Wf.hkY) (ob := Wf.ob) (M := 6000) (loose := Wf.loose) (d := HandSHeadRun.topDef (OpenLaw.row PySem.Challenge.rw_weft_k73_whole_turnings_keep_programs).prog 54) (kwd := [])
    Wf.ob_eq (by kernel_rfl) (fun s => by kernel_rfl) Wf.run (by kernel_rfl) (by kernel_rfl) (by kernel_rfl) (by rfl) (by first | assumption | decide +kernel) (by decide +kernel) ⟨rfl, rfl, rfl, rfl, rfl, by decide +kernel⟩ ?hw ?hc
  case hw => w_witness2
  case hc =>
    refine LamX.walk_ofTsE (l := PySem.Challenge.rw_weft_k73_whole_turnings_keep_programs) (n := 63) (k := 6) (x := "_law_script") (CX := fun _ => L2.CX0) rfl (by decide) (by kernel_rfl) ⟨rfl, by decide, by decide⟩ ?F (fun _ _ _ _ _ z => z)
    intro w mg fa h Y G hmg0
    obtain ⟨K, KX, c⟩ := Y
    have hmg : mg ("law" : PySem.Str) = some (.ref fa) := by
      have e : (HandSHeadRun.topDef (OpenLaw.row PySem.Challenge.rw_weft_k73_whole_turnings_keep_programs).prog 54).name = ("law" : PySem.Str) := by kernel_rfl
      rw [← e]
      exact hmg0
    exact ⟨K, KX, Wf.law_at KX G hmg c⟩

end
