import PyProof.Rows.All
import PySem.Str
import Wide.All
import OpenK.AllK
import Wide.FinOn
import HandS.ForMost
import HandS.ForExc
import HandS.IsInst
import HandS.ExcIs
import HandS.TupAny
import HandS.Wide
import HandS.Flow
import HandS.Codes
import PySem.Challenge.RW_lotsight_k43_met_sides
set_option Elab.async false
set_option linter.all false
set_option maxRecDepth 100000
set_option maxHeartbeats 4000000
/-! The plain law of law_k43_met_sides: terms, rows, what a way takes. No program in sight. -/
namespace Lot
open PySem

/-! ### terms -/
inductive Tm where
  | num (n : Int)
  | name (x : Str)
  | una (t : Tm)
  | bin (o : Str) (t u : Tm)
  | pick (t u v : Tm)

/-- 10 ** 30 -/
def big : Int := 1000000000000000000000000000000
def clamp (n : Int) : Int := if n > big then big else if n < -big then -big else n
theorem clamp_lo (n : Int) : -big ≤ clamp n := by
  unfold clamp big; split <;> try split
  all_goals omega
theorem clamp_hi (n : Int) : clamp n ≤ big := by
  unfold clamp big; split <;> try split
  all_goals omega
/-- max(-(10 ** 30), min(10 ** 30, n)) -/
theorem clamp_mm (n : Int) : (if (if n < big then n else big) > -big then (if n < big then n else big) else -big) = clamp n := by
  unfold clamp big
  repeat' split
  all_goals omega

def b2n (b : Bool) : Int := if b then 1 else 0
theorem b2n_lo (b : Bool) : 0 ≤ b2n b := by cases b <;> decide
theorem b2n_hi (b : Bool) : b2n b ≤ 1 := by cases b <;> decide

/-- the program's reckoned_of_two -/
def rk (o : Str) (a b : Int) : Int :=
  if o = "add" then clamp (a + b)
  else if o = "sub" then clamp (a - b)
  else if o = "mul" then clamp (a * b)
  else if o = "less" then b2n (decide (a < b))
  else if o = "same" then b2n (decide (a = b))
  else if o = "both" then b2n (!decide (a = 0) && !decide (b = 0))
  else b2n (!decide (a = 0) || !decide (b = 0))
theorem rk_lo (o : Str) (a b : Int) : -big ≤ rk o a b := by
  unfold rk
  repeat' split
  all_goals first | exact clamp_lo _ | (have h := b2n_lo; unfold big; exact Int.le_trans (by decide) (h _))
theorem rk_hi (o : Str) (a b : Int) : rk o a b ≤ big := by
  unfold rk
  repeat' split
  all_goals first | exact clamp_hi _ | (have h := b2n_hi; unfold big; exact Int.le_trans (h _) (by decide))

abbrev Rm := Str → Int
def put (ρ : Rm) (x : Str) (i : Int) : Rm := fun y => if y = x then i else ρ y
def wor (ρ : Rm) : Tm → Int
  | .num n => n
  | .name x => ρ x
  | .una t => b2n (decide (wor ρ t = 0))
  | .bin o t u => rk o (wor ρ t) (wor ρ u)
  | .pick t u v => if wor ρ t = 0 then wor ρ v else wor ρ u

def InB (i : Int) : Prop := -big ≤ i ∧ i ≤ big
def RmB (ρ : Rm) : Prop := ∀ x, InB (ρ x)
theorem RmB.put {ρ : Rm} {x : Str} {i : Int} (h : RmB ρ) (hi : InB i) : RmB (put ρ x i) := fun y => by
  show InB (if y = x then i else ρ y)
  split
  · exact hi
  · exact h y
theorem RmB.zero : RmB fun _ => 0 := fun _ => (by decide : -big ≤ 0 ∧ (0 : Int) ≤ big)

def ops7 : List Str := ["add", "sub", "mul", "less", "same", "both", "any"]
/-- a term that the law can make: nums and ops right -/
def TmOk : Tm → Prop
  | .num n => InB n
  | .name _ => True
  | .una t => TmOk t
  | .bin o t u => o ∈ ops7 ∧ TmOk t ∧ TmOk u
  | .pick t u v => TmOk t ∧ TmOk u ∧ TmOk v
def dep : Tm → Nat
  | .num _ => 1
  | .name _ => 1
  | .una t => dep t + 1
  | .bin _ t u => max (dep t) (dep u) + 1
  | .pick t u v => max (dep t) (max (dep u) (dep v)) + 1
theorem dep_pos : ∀ t : Tm, 1 ≤ dep t
  | .num _ => Nat.le_refl _
  | .name _ => Nat.le_refl _
  | .una _ => Nat.le_add_left _ _
  | .bin _ _ _ => Nat.le_add_left _ _
  | .pick _ _ _ => Nat.le_add_left _ _
theorem InB.b2n (b : Bool) : InB (b2n b) := ⟨Int.le_trans (by decide) (b2n_lo b), Int.le_trans (b2n_hi b) (by decide)⟩
theorem wor_in {ρ : Rm} (h : RmB ρ) : ∀ t : Tm, TmOk t → InB (wor ρ t)
  | .num _, k => k
  | .name x, _ => h x
  | .una _, _ => InB.b2n _
  | .bin o t u, _ => ⟨rk_lo _ _ _, rk_hi _ _ _⟩
  | .pick t u v, k => by
    show InB (if wor ρ t = 0 then wor ρ v else wor ρ u)
    split
    · exact wor_in h v k.2.2
    · exact wor_in h u k.2.1

/-! ### rows -/
abbrev Sds := List (Int × Int)
inductive Rws where
  | nil
  | draw (x : Str) (sd : Sds) (r : Rws)
  | sset (x : Str) (t : Tm) (r : Rws)
  | see (t : Tm) (r : Rws)
  | ite (t : Tm) (a b : Rws) (r : Rws)
  | rep (n : Nat) (a : Rws) (r : Rws)

/-- rows behind rows -/
def app : Rws → Rws → Rws
  | .nil, q => q
  | .draw x sd r, q => .draw x sd (app r q)
  | .sset x t r, q => .sset x t (app r q)
  | .see t r, q => .see t (app r q)
  | .ite t a b r, q => .ite t a b (app r q)
  | .rep n a r, q => .rep n a (app r q)
/-- all draws, repeats written out -/
def drw : Rws → List Sds
  | .nil => []
  | .draw _ sd r => sd :: drw r
  | .sset _ _ r => drw r
  | .see _ r => drw r
  | .ite _ a b r => drw a ++ drw b ++ drw r
  | .rep n a r => (List.replicate n (drw a)).flatten ++ drw r
/-- how long, repeats written out -/
def wl : Rws → Nat
  | .nil => 0
  | .draw _ _ r => 1 + wl r
  | .sset _ _ r => 1 + wl r
  | .see _ r => 1 + wl r
  | .ite _ a b r => 1 + (wl a + wl b) + wl r
  | .rep n a r => 1 + n * wl a + wl r
/-- how deep blocks stand within one another -/
def lev : Rws → Nat
  | .nil => 0
  | .draw _ _ r => lev r
  | .sset _ _ r => lev r
  | .see _ r => lev r
  | .ite _ a b r => max (max (lev a) (lev b) + 1) (lev r)
  | .rep _ a r => max (lev a + 1) (lev r)

def SdOk (sd : Sds) : Prop := 1 ≤ sd.length ∧ sd.length ≤ 6 ∧ ∀ p ∈ sd, InB p.1 ∧ 1 ≤ p.2 ∧ p.2 ≤ big
/-- rows that the law can make -/
def RwOk : Rws → Prop
  | .nil => True
  | .draw _ sd r => SdOk sd ∧ RwOk r
  | .sset _ t r => TmOk t ∧ dep t ≤ 4 ∧ RwOk r
  | .see t r => TmOk t ∧ dep t ≤ 4 ∧ RwOk r
  | .ite t a b r => TmOk t ∧ dep t ≤ 4 ∧ RwOk a ∧ RwOk b ∧ RwOk r
  | .rep n a r => n ≤ 60 ∧ RwOk a ∧ RwOk r
theorem app_nil : ∀ r : Rws, app r .nil = r
  | .nil => rfl
  | .draw x sd r => congrArg (Rws.draw x sd) (app_nil r)
  | .sset x t r => congrArg (Rws.sset x t) (app_nil r)
  | .see t r => congrArg (Rws.see t) (app_nil r)
  | .ite t a b r => congrArg (Rws.ite t a b) (app_nil r)
  | .rep n a r => congrArg (Rws.rep n a) (app_nil r)
theorem app_assoc : ∀ p q r : Rws, app (app p q) r = app p (app q r)
  | .nil, _, _ => rfl
  | .draw x sd p, q, r => congrArg (Rws.draw x sd) (app_assoc p q r)
  | .sset x t p, q, r => congrArg (Rws.sset x t) (app_assoc p q r)
  | .see t p, q, r => congrArg (Rws.see t) (app_assoc p q r)
  | .ite t a b p, q, r => congrArg (Rws.ite t a b) (app_assoc p q r)
  | .rep n a p, q, r => congrArg (Rws.rep n a) (app_assoc p q r)
theorem wl_app : ∀ p q : Rws, wl (app p q) = wl p + wl q
  | .nil, q => by show wl q = 0 + wl q; omega
  | .draw x sd p, q => by have h := wl_app p q; show 1 + wl (app p q) = 1 + wl p + wl q; omega
  | .sset x t p, q => by have h := wl_app p q; show 1 + wl (app p q) = 1 + wl p + wl q; omega
  | .see t p, q => by have h := wl_app p q; show 1 + wl (app p q) = 1 + wl p + wl q; omega
  | .ite t a b p, q => by have h := wl_app p q; show 1 + (wl a + wl b) + wl (app p q) = 1 + (wl a + wl b) + wl p + wl q; omega
  | .rep n a p, q => by have h := wl_app p q; show 1 + n * wl a + wl (app p q) = 1 + n * wl a + wl p + wl q; omega
theorem lev_app : ∀ p q : Rws, lev (app p q) = max (lev p) (lev q)
  | .nil, q => by show lev q = max 0 (lev q); omega
  | .draw x sd p, q => lev_app p q
  | .sset x t p, q => lev_app p q
  | .see t p, q => lev_app p q
  | .ite t a b p, q => by have h := lev_app p q; show max (max (lev a) (lev b) + 1) (lev (app p q)) = max (max (max (lev a) (lev b) + 1) (lev p)) (lev q); omega
  | .rep n a p, q => by have h := lev_app p q; show max (lev a + 1) (lev (app p q)) = max (max (lev a + 1) (lev p)) (lev q); omega
theorem RwOk_app : ∀ p q : Rws, RwOk p → RwOk q → RwOk (app p q)
  | .nil, _, _, k => k
  | .draw _ _ p, q, h, k => ⟨h.1, RwOk_app p q h.2 k⟩
  | .sset _ _ p, q, h, k => ⟨h.1, h.2.1, RwOk_app p q h.2.2 k⟩
  | .see _ p, q, h, k => ⟨h.1, h.2.1, RwOk_app p q h.2.2 k⟩
  | .ite _ _ _ p, q, h, k => ⟨h.1, h.2.1, h.2.2.1, h.2.2.2.1, RwOk_app p q h.2.2.2.2 k⟩
  | .rep _ _ p, q, h, k => ⟨h.1, h.2.1, RwOk_app p q h.2.2 k⟩
theorem flat_len {α : Type} (n : Nat) (l : List α) : (List.replicate n l).flatten.length = n * l.length := by
  induction n with
  | zero => simp
  | succ n ih => rw [List.replicate_succ, List.flatten_cons, List.length_append, ih, Nat.succ_mul, Nat.add_comm]
/-- draws_in -/
def nd (r : Rws) : Nat := (drw r).length
theorem nd_wl : ∀ r : Rws, nd r ≤ wl r
  | .nil => Nat.le_refl _
  | .draw _ sd r => by have h := nd_wl r; show (drw r).length + 1 ≤ 1 + wl r; unfold nd at h; omega
  | .sset _ _ r => by have h := nd_wl r; show nd r ≤ 1 + wl r; omega
  | .see _ r => by have h := nd_wl r; show nd r ≤ 1 + wl r; omega
  | .ite _ a b r => by
    have h := nd_wl r; have ha := nd_wl a; have hb := nd_wl b
    show (drw a ++ drw b ++ drw r).length ≤ 1 + (wl a + wl b) + wl r
    unfold nd at h ha hb
    rw [List.length_append, List.length_append]; omega
  | .rep n a r => by
    have h := nd_wl r; have ha := nd_wl a
    show ((List.replicate n (drw a)).flatten ++ drw r).length ≤ 1 + n * wl a + wl r
    unfold nd at h ha
    rw [List.length_append, flat_len]
    have := Nat.mul_le_mul_left n ha
    omega

/-! ### what the program does with the sides left: come through, shut, no side left, a bad side -/
inductive Res where
  | go (ρ : Rm) (left : List Int) (out : List (Option Int))
  | shut (ρ : Rm) (left : List Int) (out : List (Option Int))
  | opn (m : Nat)
  | bad
def Res.pre (o : List (Option Int)) : Res → Res
  | .go ρ l p => .go ρ l (o ++ p)
  | .shut ρ l p => .shut ρ l (o ++ p)
  | .opn m => .opn m
  | .bad => .bad
def Res.bnd (r : Res) (f : Rm → List Int → Res) : Res := match r with
  | .go ρ l o => (f ρ l).pre o
  | .shut ρ l o => .shut ρ l o
  | .opn m => .opn m
  | .bad => .bad
theorem Res.pre_pre (o p : List (Option Int)) (r : Res) : (r.pre p).pre o = r.pre (o ++ p) := by
  cases r <;> simp [Res.pre]
theorem Res.pre_nil (r : Res) : r.pre [] = r := by cases r <;> rfl
theorem Res.bnd_pre (r : Res) (o : List (Option Int)) (f : Rm → List Int → Res) : (r.pre o).bnd f = (r.bnd f).pre o := by
  cases r with
  | go ρ l p => show (f ρ l).pre (o ++ p) = ((f ρ l).pre p).pre o; rw [Res.pre_pre]
  | shut ρ l p => rfl
  | opn m => rfl
  | bad => rfl
theorem Res.bnd_assoc (r : Res) (f g : Rm → List Int → Res) : (r.bnd f).bnd g = r.bnd fun ρ l => (f ρ l).bnd g := by
  cases r with
  | go ρ l p => exact Res.bnd_pre _ _ _
  | shut ρ l p => rfl
  | opn m => rfl
  | bad => rfl
theorem Res.bnd_go (r : Res) : r.bnd (fun ρ l => .go ρ l []) = r := by
  cases r with
  | go ρ l p => show Res.go ρ l (p ++ []) = _; rw [List.append_nil]
  | shut ρ l p => rfl
  | opn m => rfl
  | bad => rfl
def many (f : Rm → List Int → Res) : Nat → Rm → List Int → Res
  | 0, ρ, l => .go ρ l []
  | n + 1, ρ, l => (f ρ l).bnd fun ρ' l' => many f n ρ' l'
def nones (n : Nat) : List (Option Int) := List.replicate n none
/-- a draw -/
def one (x : Str) (sd : Sds) (ρ : Rm) : List Int → Res
  | [] => .opn sd.length
  | s :: l => if s < 0 ∨ (sd.length : Int) ≤ s then .bad else .go (put ρ x (sd.getD s.toNat (0, 0)).1) l [some s]
def ugo : Rws → Rm → List Int → Res
  | .nil, ρ, l => .go ρ l []
  | .draw x sd r, ρ, l => (one x sd ρ l).bnd (ugo r)
  | .sset x t r, ρ, l => ugo r (put ρ x (wor ρ t)) l
  | .see t r, ρ, l => if wor ρ t = 0 then .shut ρ l [] else ugo r ρ l
  | .ite t a b r, ρ, l =>
    (if wor ρ t = 0 then (ugo b ρ l).pre (nones (nd a)) else (ugo a ρ l).bnd fun ρ' l' => .go ρ' l' (nones (nd b))).bnd (ugo r)
  | .rep n a r, ρ, l => (many (ugo a) n ρ l).bnd (ugo r)

/-! ### what the law's own way does: a side for every draw of the net, by its place -/
structure Way where
  ok : Bool
  ρ : Rm
  out : List (Option Int)
def Way.bnd (w : Way) (f : Rm → Nat → Way) (pos : Nat) : Way :=
  if w.ok then (let v := f w.ρ (pos + w.out.length); ⟨v.ok, v.ρ, w.out ++ v.out⟩) else w
def manyL (f : Rm → Nat → Way) : Nat → Rm → Nat → Way
  | 0, ρ, _ => ⟨true, ρ, []⟩
  | n + 1, ρ, pos => (f ρ pos).bnd (manyL f n) pos
def lgo (ss : List Int) : Rws → Rm → Nat → Way
  | .nil, ρ, _ => ⟨true, ρ, []⟩
  | .draw x sd r, ρ, pos =>
    Way.bnd ⟨true, put ρ x (sd.getD (ss.getD pos 0).toNat (0, 0)).1, [some (ss.getD pos 0)]⟩ (lgo ss r) pos
  | .sset x t r, ρ, pos => lgo ss r (put ρ x (wor ρ t)) pos
  | .see t r, ρ, pos => if wor ρ t = 0 then ⟨false, ρ, []⟩ else lgo ss r ρ pos
  | .ite t a b r, ρ, pos =>
    (if wor ρ t = 0 then Way.bnd ⟨true, ρ, nones (nd a)⟩ (lgo ss b) pos
      else (lgo ss a ρ pos).bnd (fun ρ' _ => ⟨true, ρ', nones (nd b)⟩) pos).bnd (lgo ss r) pos
  | .rep n a r, ρ, pos => (manyL (lgo ss a) n ρ pos).bnd (lgo ss r) pos

/-! ### the two agree -/
/-- the sides taken -/
def used (o : List (Option Int)) : List Int := o.filterMap id
/-- how many sides the draws have that were met -/
def cnt : List Sds → List (Option Int) → List Nat
  | d :: ds, some _ :: o => d.length :: cnt ds o
  | _ :: ds, none :: o => cnt ds o
  | _, _ => []
theorem used_app (a b : List (Option Int)) : used (a ++ b) = used a ++ used b := by unfold used; rw [List.filterMap_append]
theorem used_nones (n : Nat) : used (nones n) = [] := by
  unfold used nones
  induction n with
  | zero => rfl
  | succ n ih => rw [List.replicate_succ, List.filterMap_cons]; exact ih
theorem cnt_nones : ∀ (ds : List Sds) (n : Nat), cnt ds (nones n) = []
  | [], 0 => rfl
  | [], _ + 1 => rfl
  | _ :: _, 0 => rfl
  | _ :: ds, n + 1 => cnt_nones ds n
theorem cnt_app : ∀ (ds es : List Sds) (o p : List (Option Int)), o.length = ds.length → cnt (ds ++ es) (o ++ p) = cnt ds o ++ cnt es p
  | [], es, [], p, _ => rfl
  | [], _, _ :: _, _, h => by simp at h
  | _ :: _, _, [], _, h => by simp at h
  | d :: ds, es, some s :: o, p, h => congrArg (d.length :: ·) (cnt_app ds es o p (by simpa using h))
  | d :: ds, es, none :: o, p, h => cnt_app ds es o p (by simpa using h)
theorem cnt_more : ∀ (ds es : List Sds) (o : List (Option Int)), o.length ≤ ds.length → cnt (ds ++ es) o = cnt ds o
  | [], [], [], _ => rfl
  | [], _ :: _, [], _ => rfl
  | [], _, _ :: _, h => by simp at h
  | _ :: _, _, [], _ => rfl
  | d :: ds, es, some s :: o, h => congrArg (d.length :: ·) (cnt_more ds es o (by simpa using h))
  | d :: ds, es, none :: o, h => cnt_more ds es o (by simpa using h)
theorem cnt_len : ∀ (ds : List Sds) (o : List (Option Int)), o.length ≤ ds.length → (cnt ds o).length = (used o).length
  | [], [], _ => rfl
  | [], _ :: _, h => by simp at h
  | _ :: _, [], _ => rfl
  | d :: ds, some s :: o, h => congrArg (· + 1) (cnt_len ds o (by simpa using h))
  | d :: ds, none :: o, h => cnt_len ds o (by simpa using h)

/-- the rows with the draws ds, gone through by f, take the way w -/
structure Fits (ds : List Sds) (f : List Int → Res) (w : Way) : Prop where
  le : w.out.length ≤ ds.length
  eq : w.ok = true → w.out.length = ds.length
  thru : ∀ rest, f (used w.out ++ rest) = if w.ok then .go w.ρ rest w.out else .shut w.ρ rest w.out
  open_ : ∀ n, n < (used w.out).length → ∃ m, f ((used w.out).take n) = .opn m
  bad : ∀ n x rest, n < (used w.out).length → (x < 0 ∨ ∃ c : Nat, (cnt ds w.out)[n]? = some c ∧ (c : Int) ≤ x) → f ((used w.out).take n ++ x :: rest) = .bad

theorem Fits.seq {ds es : List Sds} {f : List Int → Res} {g : Rm → List Int → Res} {w : Way} {h : Rm → Nat → Way} {pos : Nat}
    (a : Fits ds f w) (b : w.ok = true → Fits es (g w.ρ) (h w.ρ (pos + w.out.length))) :
    Fits (ds ++ es) (fun l => (f l).bnd g) (w.bnd h pos) := by
  obtain ⟨ok, ρ, out⟩ := w
  cases ok with
  | false =>
    have e : Way.bnd ⟨false, ρ, out⟩ h pos = ⟨false, ρ, out⟩ := rfl
    rw [e]
    have al : out.length ≤ ds.length := a.le
    refine ⟨?_, (fun z => nomatch z), fun rest => ?_, fun n hn => ?_, fun n x rest hn hx => ?_⟩
    · show out.length ≤ (ds ++ es).length
      rw [List.length_append]; omega
    · have q := a.thru rest
      show (f (used out ++ rest)).bnd g = _
      rw [q]; rfl
    · obtain ⟨m, q⟩ := a.open_ n hn
      refine ⟨m, ?_⟩
      show (f ((used out).take n)).bnd g = _
      rw [q]; rfl
    · rw [cnt_more _ _ _ al] at hx
      have q := a.bad n x rest hn hx
      show (f ((used out).take n ++ x :: rest)).bnd g = _
      rw [q]; rfl
  | true =>
    have b' : Fits es (g ρ) (h ρ (pos + out.length)) := b rfl
    have e : Way.bnd ⟨true, ρ, out⟩ h pos = ⟨(h ρ (pos + out.length)).ok, (h ρ (pos + out.length)).ρ, out ++ (h ρ (pos + out.length)).out⟩ := rfl
    rw [e]
    generalize h ρ (pos + out.length) = v at b' ⊢
    have al : out.length = ds.length := a.eq rfl
    have thr : ∀ rest, f (used out ++ rest) = .go ρ rest out := fun rest => a.thru rest
    have bl := b'.le
    refine ⟨?_, fun z => ?_, fun rest => ?_, fun n hn => ?_, fun n x rest hn hx => ?_⟩
    · show (out ++ v.out).length ≤ (ds ++ es).length
      rw [List.length_append, List.length_append]; omega
    · have q := b'.eq z
      show (out ++ v.out).length = (ds ++ es).length
      rw [List.length_append, List.length_append]; omega
    · have q := b'.thru rest
      show (f (used (out ++ v.out) ++ rest)).bnd g = _
      rw [used_app, List.append_assoc, thr]
      show (g ρ (used v.out ++ rest)).pre out = _
      rw [q]
      show Res.pre out (if v.ok = true then _ else _) = (if v.ok = true then _ else _)
      cases v.ok <;> rfl
    · have hn' : n < (used (out ++ v.out)).length := hn
      show ∃ m, (f ((used (out ++ v.out)).take n)).bnd g = .opn m
      rw [used_app] at hn' ⊢
      by_cases c : n < (used out).length
      · obtain ⟨m, q⟩ := a.open_ n c
        refine ⟨m, ?_⟩
        rw [List.take_append_of_le_length (Nat.le_of_lt c), q]; rfl
      · have c2 : (used out).length ≤ n := Nat.not_lt.mp c
        rw [List.length_append] at hn'
        obtain ⟨m, q⟩ := b'.open_ (n - (used out).length) (by omega)
        refine ⟨m, ?_⟩
        rw [List.take_append, List.take_of_length_le c2, thr]
        show (g ρ ((used v.out).take (n - (used out).length))).pre out = _
        rw [q]; rfl
    · have hn' : n < (used (out ++ v.out)).length := hn
      have hx' : x < 0 ∨ ∃ c : Nat, (cnt (ds ++ es) (out ++ v.out))[n]? = some c ∧ (c : Int) ≤ x := hx
      show (f ((used (out ++ v.out)).take n ++ x :: rest)).bnd g = .bad
      rw [cnt_app _ _ _ _ al] at hx'
      have cl : (cnt ds out).length = (used out).length := cnt_len _ _ (Nat.le_of_eq al)
      rw [used_app] at hn' ⊢
      by_cases c : n < (used out).length
      · have q := a.bad n x rest c (by
          rcases hx' with z | ⟨k, z1, z2⟩
          · exact .inl z
          · refine .inr ⟨k, ?_, z2⟩
            rw [List.getElem?_append_left (by omega)] at z1
            exact z1)
        rw [List.take_append_of_le_length (Nat.le_of_lt c)]
        have q' : f ((used out).take n ++ x :: rest) = .bad := q
        rw [q']; rfl
      · have c2 : (used out).length ≤ n := Nat.not_lt.mp c
        rw [List.length_append] at hn'
        have q := b'.bad (n - (used out).length) x rest (by omega) (by
          rcases hx' with z | ⟨k, z1, z2⟩
          · exact .inl z
          · refine .inr ⟨k, ?_, z2⟩
            rw [List.getElem?_append_right (by omega), cl] at z1
            exact z1)
        rw [List.take_append, List.take_of_length_le c2, List.append_assoc, thr]
        show (g ρ ((used v.out).take (n - (used out).length) ++ x :: rest)).pre out = .bad
        rw [q]; rfl

theorem Fits.cong {ds : List Sds} {f g : List Int → Res} {w : Way} (a : Fits ds f w) (e : ∀ l, f l = g l) : Fits ds g w := by
  have : f = g := funext e
  rw [← this]; exact a
/-- nothing is met -/
theorem Fits.none_ {ds : List Sds} {ρ : Rm} {n : Nat} (h : n = ds.length) : Fits ds (fun l => .go ρ l (nones n)) ⟨true, ρ, nones n⟩ := by
  refine ⟨?_, fun _ => ?_, fun rest => ?_, fun k hk => ?_, fun k x rest hk _ => ?_⟩
  · show (nones n).length ≤ ds.length
    unfold nones; rw [List.length_replicate]; omega
  · show (nones n).length = ds.length
    unfold nones; rw [List.length_replicate]; omega
  · show Res.go ρ (used (nones n) ++ rest) (nones n) = .go ρ rest (nones n)
    rw [used_nones]; rfl
  · have hk' : k < (used (nones n)).length := hk
    rw [used_nones] at hk'; exact absurd hk' (Nat.not_lt_zero _)
  · have hk' : k < (used (nones n)).length := hk
    rw [used_nones] at hk'; exact absurd hk' (Nat.not_lt_zero _)
theorem Fits.empty {ρ : Rm} : Fits [] (fun l => .go ρ l []) ⟨true, ρ, []⟩ := Fits.none_ (n := 0) rfl
theorem Fits.shut {ρ : Rm} {ds : List Sds} : Fits ds (fun l => .shut ρ l []) ⟨false, ρ, []⟩ :=
  ⟨Nat.zero_le _, (fun z => nomatch z), fun _ => rfl, fun _ h => absurd h (Nat.not_lt_zero _), fun _ _ _ h => absurd h (Nat.not_lt_zero _)⟩
/-- one draw, by a side that it has -/
theorem Fits.one {x : Str} {sd : Sds} {ρ : Rm} {s : Int} (h0 : 0 ≤ s) (h1 : s < (sd.length : Int)) :
    Fits [sd] (one x sd ρ) ⟨true, put ρ x (sd.getD s.toNat (0, 0)).1, [some s]⟩ := by
  refine ⟨Nat.le_refl _, fun _ => rfl, fun rest => ?_, fun n hn => ?_, fun n y rest hn hy => ?_⟩
  · show (if s < 0 ∨ (sd.length : Int) ≤ s then Res.bad else .go (put ρ x (sd.getD s.toNat (0, 0)).1) rest [some s]) = .go _ rest [some s]
    rw [if_neg (by omega)]
  · have hn' : n < 1 := hn
    have e : n = 0 := by omega
    subst e
    exact ⟨sd.length, rfl⟩
  · have hn' : n < 1 := hn
    have e : n = 0 := by omega
    subst e
    show (if y < 0 ∨ (sd.length : Int) ≤ y then Res.bad else _) = .bad
    rw [if_pos]
    rcases hy with z | ⟨c, z1, z2⟩
    · exact .inl z
    · have e : sd.length = c := Option.some.inj z1
      exact .inr (by omega)
/-- the sides from pos on are sides of the draws ds -/
def Sided (ss : List Int) (pos : Nat) (ds : List Sds) : Prop := ∀ i (d : Sds), ds[i]? = some d → 0 ≤ ss.getD (pos + i) 0 ∧ ss.getD (pos + i) 0 < (d.length : Int)
theorem Sided.left {ss : List Int} {pos : Nat} {ds es : List Sds} (h : Sided ss pos (ds ++ es)) : Sided ss pos ds := fun i d e =>
  h i d (by rw [List.getElem?_append_left (List.getElem?_eq_some_iff.mp e).1]; exact e)
theorem Sided.right {ss : List Int} {pos : Nat} {ds es : List Sds} (h : Sided ss pos (ds ++ es)) : Sided ss (pos + ds.length) es := fun i d e => by
  have q := h (ds.length + i) d (by rw [List.getElem?_append_right (Nat.le_add_right _ _), Nat.add_sub_cancel_left]; exact e)
  rw [Nat.add_assoc]
  exact q
theorem fits_many {ss : List Int} {ds : List Sds} {f : Rm → List Int → Res} {h : Rm → Nat → Way} (H : ∀ ρ pos, Sided ss pos ds → Fits ds (f ρ) (h ρ pos)) :
    ∀ (n : Nat) (ρ : Rm) (pos : Nat), Sided ss pos (List.replicate n ds).flatten → Fits (List.replicate n ds).flatten (many f n ρ) (manyL h n ρ pos)
  | 0, ρ, pos, _ => Fits.empty
  | n + 1, ρ, pos, hs => by
    rw [List.replicate_succ, List.flatten_cons] at hs ⊢
    have a := H ρ pos hs.left
    exact Fits.seq a fun z => by
      rw [a.eq z]
      exact fits_many H n _ _ hs.right
theorem fits (ss : List Int) : ∀ (r : Rws) (ρ : Rm) (pos : Nat), Sided ss pos (drw r) → Fits (drw r) (ugo r ρ) (lgo ss r ρ pos)
  | .nil, ρ, pos, _ => Fits.empty
  | .draw x sd r, ρ, pos, hs => by
    have hs' : Sided ss pos ([sd] ++ drw r) := hs
    have q := hs'.left 0 sd rfl
    rw [Nat.add_zero] at q
    exact Fits.seq (Fits.one q.1 q.2) fun _ => fits ss r _ _ hs'.right
  | .sset x t r, ρ, pos, hs => fits ss r _ pos hs
  | .see t r, ρ, pos, hs => by
    show Fits (drw r) (fun l => if wor ρ t = 0 then .shut ρ l [] else ugo r ρ l) (if wor ρ t = 0 then _ else _)
    by_cases c : wor ρ t = 0
    · simp only [if_pos c]; exact Fits.shut
    · simp only [if_neg c]; exact fits ss r ρ pos hs
  | .ite t a b r, ρ, pos, hs => by
    have hs' : Sided ss pos (drw a ++ drw b ++ drw r) := hs
    have m : Fits (drw a ++ drw b) (fun l => if wor ρ t = 0 then (ugo b ρ l).pre (nones (nd a)) else (ugo a ρ l).bnd fun ρ' l' => .go ρ' l' (nones (nd b)))
        (if wor ρ t = 0 then Way.bnd ⟨true, ρ, nones (nd a)⟩ (lgo ss b) pos else (lgo ss a ρ pos).bnd (fun ρ' _ => ⟨true, ρ', nones (nd b)⟩) pos) := by
      by_cases c : wor ρ t = 0
      · simp only [if_pos c]
        have ln : (nones (nd a)).length = (drw a).length := by unfold nones nd; rw [List.length_replicate]
        refine (Fits.seq (g := ugo b) (Fits.none_ (ds := drw a) (ρ := ρ) (n := nd a) rfl) fun _ => ?_).cong fun l => rfl
        show Fits (drw b) (ugo b ρ) (lgo ss b ρ (pos + (nones (nd a)).length))
        rw [ln]
        exact fits ss b ρ _ hs'.left.right
      · simp only [if_neg c]
        exact Fits.seq (fits ss a ρ pos hs'.left.left) fun _ => Fits.none_ rfl
    refine Fits.seq m fun z => ?_
    rw [m.eq z]
    exact fits ss r _ _ hs'.right
  | .rep n a r, ρ, pos, hs => by
    have hs' : Sided ss pos ((List.replicate n (drw a)).flatten ++ drw r) := hs
    have m := fits_many (f := ugo a) (h := lgo ss a) (fun ρ pos h => fits ss a ρ pos h) n ρ pos hs'.left
    refine Fits.seq m fun z => ?_
    rw [m.eq z]
    exact fits ss r _ _ hs'.right

/-- padded to all draws -/
def pad (ds : List Sds) (o : List (Option Int)) : List (Option Int) := o ++ nones (ds.length - o.length)
theorem used_pad (ds : List Sds) (o : List (Option Int)) : used (pad ds o) = used o := by
  unfold pad; rw [used_app, used_nones, List.append_nil]
end Lot

/-! What stands in the heap: terms, sides, rows; a callable def; small words. -/
namespace Lot
open PySem L2

/-! ### the text by places -/
def top (i : Nat) : Stmt := PySem.Challenge.pw_lotsight_k43_met_sides.main.body.getD i (.Pass ⟨0, 0, 0, 0⟩)

/-! ### a def that may be called -/
structure Cal (P : Program) (w : World) (K : PySem.W.Frag) (mg : Str → Option Value) (base : Heap) (CX : CXT) (k : Nat) (x : Str) (ps : List Str) (sp : Sp) : Prop where
  ex : ∃ (f : Addr) (fd : FuncData), FnOk P w K mg base CX k f fd ps sp ∧ mg x = some (.ref f) ∧ PySem.W.keepIn K (.ref f) = true ∧ Binds K fd ps []
/-- a def as the top has left it -/
structure Df (K : PySem.W.Frag) (mg : Str → Option Value) (x : Str) (st : Stmt) (ps : List Str) (f : Addr) (fd : FuncData) : Prop where
  fn : Fun K x x st f fd
  mg : mg x = some (.ref f)
  bi : Binds K fd ps []
section
variable {X : Cx} {CX : CXT} {k : Nat} {sp : Sp} {E : XK} {x : Str} {ps : List Str} {p pos : Pos} {e : Expr} {es : List Expr} {t : TA}
theorem pe_cal (C : Cal X.prog X.w X.K X.mg X.base CX k x ps sp) (hr : Room k X.A) (hg : Gl X x) (hx : Passes CX X E) (ha : PA X (e :: es) t) (hdb : (x == ("__debug__" : Str)) = false := by decide)
    (he : starEach (e :: es) X.env = (false, eval e X.env) :: starEach es X.env := by rfl) (hpl : (backTo pos (starEach es X.env)).any (·.1) = false := by rfl) :
    PE X (.Call (.Name x p) (e :: es) [] pos) (tCall sp [] E t) := by
  obtain ⟨f, fd, F, hm, hk, hb⟩ := C.ex
  exact pe_call F hr hg hm hk hb .nil hx ha hdb he hpl
end
section
variable {P : Program} {w : World} {K : PySem.W.Frag} {mg : Str → Option Value} {base : Heap} {CX : CXT} {k j : Nat} {x : Str} {ps : List Str} {sp sp' : Sp} {st : Stmt} {f : Addr} {fd : FuncData}
theorem Df.cal (D : Df K mg x st ps f fd) (F : FnOk P w K mg base CX k f fd ps sp) : Cal P w K mg base CX k x ps sp := ⟨f, fd, F, D.mg, D.fn.kp, D.bi⟩
theorem Cal.mono (C : Cal P w K mg base CX j x ps sp) (h : j ≤ k) : Cal P w K mg base CX k x ps sp := by
  obtain ⟨f, fd, F, r⟩ := C.ex
  exact ⟨f, fd, F.mono h, r⟩
theorem Cal.imp (C : Cal P w K mg base CX k x ps sp) (h : ∀ vs H Q E, sp' vs H Q E → sp vs H Q E) : Cal P w K mg base CX k x ps sp' := by
  obtain ⟨f, fd, F, r⟩ := C.ex
  exact ⟨f, fd, F.imp h, r⟩
/-- a promise that asks what cannot be -/
theorem Df.never (D : Df K mg x st ps f fd) (no : ∀ vs H Q E, ¬ sp vs H Q E) : Cal P w K mg base CX k x ps sp :=
  D.cal ⟨fun vs H Q E h => absurd h (no vs H Q E), fun A outer s H args us vs Q E _ _ _ _ h => absurd h (no vs H Q E)⟩
end

/-! ### the built-in names -/
structure Bl (mg : Str → Option Value) : Prop where
  int : mg "int" = none
  tuple : mg "tuple" = none
  list : mg "list" = none
  range : mg "range" = none
  len : mg "len" = none
  sum : mg "sum" = none
  abs : mg "abs" = none
  max : mg "max" = none
  min : mg "min" = none
  isinstance : mg "isinstance" = none
  bool : mg "bool" = none
  str : mg "str" = none

/-! ### small words -/
theorem ifT {c : Bool} {A B : Prop} (h : c = true) (x : A) : if c = true then A else B := by rw [if_pos h]; exact x
theorem ifF {c : Bool} {A B : Prop} (h : c = false) (x : B) : if c = true then A else B := by rw [if_neg (by rw [h]; exact Bool.false_ne_true)]; exact x
theorem if2 {p A B : Prop} [Decidable p] (h1 : p → A) (h2 : ¬ p → B) : if decide p = true then A else B := by
  by_cases h : p
  · exact ifT (decide_eq_true h) (h1 h)
  · exact ifF (decide_eq_false h) (h2 h)
theorem str_dec (a b : Str) : decide (V.str a = V.str b) = decide (a = b) := by
  by_cases h : a = b
  · rw [decide_eq_true h, decide_eq_true (congrArg V.str h)]
  · rw [decide_eq_false h, decide_eq_false fun q => h (V.str.inj q)]
theorem int_dec (a b : Int) : decide (V.int a = V.int b) = decide (a = b) := by
  by_cases h : a = b
  · rw [decide_eq_true h, decide_eq_true (congrArg V.int h)]
  · rw [decide_eq_false h, decide_eq_false fun q => h (V.int.inj q)]
theorem size1000 {n : Nat} (h : n ≤ 1000) : n ≤ sizeLine := Nat.le_of_lt (small1000 h)
theorem same_new {H : Hp} {p : Addr} (h : H p = none) (o : HO) : Same H (upd H p o) := fun b u q => by rw [upd_ne (ne_of_none q h)]; exact q

/-- tuples stay -/
def Kp (H H' : Hp) : Prop := ∀ a xs, H a = some (.tup xs) → H' a = some (.tup xs)
theorem Kp.refl (H : Hp) : Kp H H := fun _ _ h => h
theorem Kp.trans {H H1 H2 : Hp} (a : Kp H H1) (b : Kp H1 H2) : Kp H H2 := fun c o h => b c o (a c o h)
theorem Kp.of {H H' : Hp} (s : Same H H') : Kp H H' := fun a xs h => s a _ h
theorem Kp.upd {H : Hp} {a : Addr} {o u : HO} (h : H a = some o) (hn : ∀ xs, o ≠ .tup xs) : Kp H (upd H a u) := fun b xs e => by
  rw [upd_ne (ne_of e h fun z => hn xs z.symm)]; exact e
theorem Kp.new {H : Hp} {a : Addr} {u : HO} (h : H a = none) : Kp H (L2.upd H a u) := Kp.of (same_new h u)

/-! ### terms in the heap -/
def TmAt (H : Hp) : V → Tm → Prop
  | v, .num n => ∃ a, v = .ref a ∧ H a = some (.tup [.str "num", .int n])
  | v, .name x => ∃ a, v = .ref a ∧ H a = some (.tup [.str "name", .str x])
  | v, .una t => ∃ a b, v = .ref a ∧ H a = some (.tup [.str "not", b]) ∧ TmAt H b t
  | v, .bin o t u => ∃ a b c, v = .ref a ∧ H a = some (.tup [.str o, b, c]) ∧ TmAt H b t ∧ TmAt H c u
  | v, .pick t u z => ∃ a b c d, v = .ref a ∧ H a = some (.tup [.str "pick", b, c, d]) ∧ TmAt H b t ∧ TmAt H c u ∧ TmAt H d z
theorem TmAt.keep {H H' : Hp} (k : Kp H H') : ∀ {t : Tm} {v : V}, TmAt H v t → TmAt H' v t
  | .num n, v, ⟨a, e, h⟩ => ⟨a, e, k _ _ h⟩
  | .name x, v, ⟨a, e, h⟩ => ⟨a, e, k _ _ h⟩
  | .una t, v, ⟨a, b, e, h, ht⟩ => ⟨a, b, e, k _ _ h, ht.keep k⟩
  | .bin o t u, v, ⟨a, b, c, e, h, ht, hu⟩ => ⟨a, b, c, e, k _ _ h, ht.keep k, hu.keep k⟩
  | .pick t u z, v, ⟨a, b, c, d, e, h, ht, hu, hz⟩ => ⟨a, b, c, d, e, k _ _ h, ht.keep k, hu.keep k, hz.keep k⟩

/-! ### rooms -/
/-- the dict's pairs are the room -/
def RmIs (kvs : List (Key × V)) (ρ : Rm) : Prop := ∀ x : Str, (valV kvs (Sum.inr x : Key)).getD (.int 0) = .int (ρ x)
theorem RmIs.nil : RmIs [] fun _ => 0 := fun _ => rfl
theorem RmIs.put {kvs : List (Key × V)} {ρ : Rm} (h : RmIs kvs ρ) (x : Str) (i : Int) : RmIs (putK kvs (Sum.inr x) (.int i)) (put ρ x i) := fun y => by
  rw [valV_put]
  show Option.getD _ _ = V.int (if y = x then i else ρ y)
  by_cases e : y = x
  · subst e
    rw [if_pos rfl, if_pos rfl]; rfl
  · rw [if_neg e, if_neg fun q => e (Sum.inr.inj q)]
    exact h y
theorem putK_len1 {kvs : List (Key × V)} {k : Key} {v : V} : (putK kvs k v).length ≤ kvs.length + 1 := by
  unfold putK
  split
  · rw [List.length_map]; omega
  · rw [List.length_append]; exact Nat.le_refl _

/-! ### sides in the heap -/
def SdV (H : Hp) (vs : List V) (sd : Sds) : Prop := vs.length = sd.length ∧ ∀ (i : Nat) (a b : Int), sd[i]? = some (a, b) → ∃ q, vs[i]? = some (V.ref q) ∧ H q = some (.tup [.int a, .int b])
def SdAt (H : Hp) (v : V) (sd : Sds) : Prop := ∃ a vs, v = .ref a ∧ H a = some (.tup vs) ∧ SdV H vs sd
theorem SdV.keep {H H' : Hp} (k : Kp H H') {vs : List V} {sd : Sds} (h : SdV H vs sd) : SdV H' vs sd :=
  ⟨h.1, fun i a b e => let ⟨q, e1, e2⟩ := h.2 i a b e; ⟨q, e1, k _ _ e2⟩⟩
theorem SdAt.keep {H H' : Hp} (k : Kp H H') {v : V} {sd : Sds} (h : SdAt H v sd) : SdAt H' v sd :=
  let ⟨a, vs, e, h1, h2⟩ := h; ⟨a, vs, e, k _ _ h1, h2.keep k⟩

/-! ### rows in the heap -/
def RwsAt (H : Hp) : List V → Rws → Prop
  | vs, .nil => vs = []
  | vs, .draw x sd r => ∃ a s vs', vs = .ref a :: vs' ∧ H a = some (.tup [.str "draw", .str x, s]) ∧ SdAt H s sd ∧ RwsAt H vs' r
  | vs, .sset x t r => ∃ a b vs', vs = .ref a :: vs' ∧ H a = some (.tup [.str "set", .str x, b]) ∧ TmAt H b t ∧ RwsAt H vs' r
  | vs, .see t r => ∃ a b vs', vs = .ref a :: vs' ∧ H a = some (.tup [.str "see", b]) ∧ TmAt H b t ∧ RwsAt H vs' r
  | vs, .ite t p q r => ∃ a b pa pv qa qv vs', vs = .ref a :: vs' ∧ H a = some (.tup [.str "if", b, .ref pa, .ref qa]) ∧ TmAt H b t ∧
      H pa = some (.tup pv) ∧ RwsAt H pv p ∧ H qa = some (.tup qv) ∧ RwsAt H qv q ∧ RwsAt H vs' r
  | vs, .rep n p r => ∃ a pa pv vs', vs = .ref a :: vs' ∧ H a = some (.tup [.str "repeat", .int n, .ref pa]) ∧ H pa = some (.tup pv) ∧ RwsAt H pv p ∧ RwsAt H vs' r
theorem RwsAt.keep {H H' : Hp} (k : Kp H H') : ∀ {r : Rws} {vs : List V}, RwsAt H vs r → RwsAt H' vs r
  | .nil, _, e => e
  | .draw x sd r, _, ⟨a, s, vs', e, h, hs, hr⟩ => ⟨a, s, vs', e, k _ _ h, hs.keep k, hr.keep k⟩
  | .sset x t r, _, ⟨a, s, vs', e, h, hs, hr⟩ => ⟨a, s, vs', e, k _ _ h, hs.keep k, hr.keep k⟩
  | .see t r, _, ⟨a, s, vs', e, h, hs, hr⟩ => ⟨a, s, vs', e, k _ _ h, hs.keep k, hr.keep k⟩
  | .ite t p q r, _, ⟨a, b, pa, pv, qa, qv, vs', e, h, ht, h1, h2, h3, h4, hr⟩ => ⟨a, b, pa, pv, qa, qv, vs', e, k _ _ h, ht.keep k, k _ _ h1, h2.keep k, k _ _ h3, h4.keep k, hr.keep k⟩
  | .rep n p r, _, ⟨a, pa, pv, vs', e, h, h1, h2, hr⟩ => ⟨a, pa, pv, vs', e, k _ _ h, k _ _ h1, h2.keep k, hr.keep k⟩
theorem RwsAt.app {H : Hp} : ∀ {p q : Rws} {vs ws : List V}, RwsAt H vs p → RwsAt H ws q → RwsAt H (vs ++ ws) (app p q)
  | .nil, q, vs, ws, e, h => by cases (show vs = [] from e); exact h
  | .draw x sd r, q, vs, ws, ⟨a, s, vs', e, h, hs, hr⟩, hq => ⟨a, s, vs' ++ ws, by rw [e]; rfl, h, hs, hr.app hq⟩
  | .sset x t r, q, vs, ws, ⟨a, s, vs', e, h, hs, hr⟩, hq => ⟨a, s, vs' ++ ws, by rw [e]; rfl, h, hs, hr.app hq⟩
  | .see t r, q, vs, ws, ⟨a, s, vs', e, h, hs, hr⟩, hq => ⟨a, s, vs' ++ ws, by rw [e]; rfl, h, hs, hr.app hq⟩
  | .ite t p1 p2 r, q, vs, ws, ⟨a, b, pa, pv, qa, qv, vs', e, h, ht, h1, h2, h3, h4, hr⟩, hq => ⟨a, b, pa, pv, qa, qv, vs' ++ ws, by rw [e]; rfl, h, ht, h1, h2, h3, h4, hr.app hq⟩
  | .rep n p1 r, q, vs, ws, ⟨a, pa, pv, vs', e, h, h1, h2, hr⟩, hq => ⟨a, pa, pv, vs' ++ ws, by rw [e]; rfl, h, h1, h2, hr.app hq⟩
end Lot

/-! held, reckoned_of_two, reckoned, worth -/
namespace Lot
open PySem L2
abbrev sHeld : Stmt := top 8
abbrev sRk2 : Stmt := top 9
abbrev sRk : Stmt := top 10
abbrev sWorth : Stmt := top 11
section
variable {P : Program} {w : World} {K : PySem.W.Frag} {mg : Str → Option Value} {base : Heap}
def spHeld : Sp := fun vs H Q _ => ∃ n : Int, vs = [.int n] ∧ Q (.int (clamp n)) H
theorem scHeld : FnScope ["n"] ["n"] (defScope sHeld) := ⟨rfl, rfl, rfl, by decide +kernel, rfl, by decide +kernel, by decide +kernel⟩
theorem ok_held {f : Addr} {fd : FuncData} {tk : Tok} (D : Df K mg "held" sHeld ["n"] f fd) (mB : mg "BIG" = some (.int big tk)) : Cal P w K mg base CX0 1 "held" ["n"] spHeld := by
  refine D.cal (D.fn.ok scHeld (fun vs H Q E h => ?_) (fun cdv A outer s H vs Q E hr h => ?_))
  · obtain ⟨n, rfl, _⟩ := h
    rfl
  obtain ⟨n, rfl, q⟩ := h
  refine ⟨_, pss_cons (ps_if (pt_cmpR op_gt (pv 0) (pe_glob (v := .int big) rfl mB ⟨_, rfl⟩) (nomark _)) (pss_one (ps_ret (pe_glob (v := .int big) rfl mB ⟨_, rfl⟩))) pss_nil)
    (pss_cons (ps_if (pt_cmpR op_lt (pv 0) (pe_un un_neg (pe_glob (v := .int big) rfl mB ⟨_, rfl⟩)) (nomark _)) (pss_one (ps_ret (pe_un un_neg (pe_glob (v := .int big) rfl mB ⟨_, rfl⟩)))) pss_nil)
    (pss_one (ps_ret (pv 0)))), ?_⟩
  refine ⟨_, rfl, _, _, rfl, rfl, _, rfl, if2 (fun c => ?_) (fun c => ?_)⟩
  · have e : clamp n = big := by unfold clamp; rw [if_pos c]
    rw [e] at q
    exact q
  refine ⟨_, rfl, _, rfl, _, _, rfl, rfl, _, rfl, if2 (fun d => ?_) (fun d => ?_)⟩
  · have e : clamp n = -big := by unfold clamp; rw [if_neg c, if_pos d]
    rw [e] at q
    exact ⟨_, rfl, q⟩
  · have e : clamp n = n := by unfold clamp; rw [if_neg c, if_neg d]
    rw [e] at q
    exact ⟨_, rfl, q⟩

theorem big_lt : big.natAbs < 2 ^ 100 := by decide
theorem InB.lt {i : Int} (h : InB i) : i.natAbs < 2 ^ 100 := by
  have h1 := h.1
  have h2 := h.2
  have h3 := big_lt
  have h4 : i.natAbs ≤ big.natAbs := by
    unfold big at *
    omega
  exact Nat.lt_of_le_of_lt h4 h3
def spRk2 : Sp := fun vs H Q _ => ∃ (o : Str) (a b : Int), vs = [.str o, .int a, .int b] ∧ InB a ∧ InB b ∧ Q (.int (rk o a b)) H
theorem scRk2 : FnScope ["op", "one", "two"] ["op", "one", "two"] (defScope sRk2) := ⟨rfl, rfl, rfl, by decide +kernel, rfl, by decide +kernel, by decide +kernel⟩
theorem ok_rk2 {f : Addr} {fd : FuncData} (D : Df K mg "reckoned_of_two" sRk2 ["op", "one", "two"] f fd) (B : Bl mg) (G : Cal P w K mg base CX0 1 "held" ["n"] spHeld) :
    Cal P w K mg base CX0 2 "reckoned_of_two" ["op", "one", "two"] spRk2 := by
  refine D.cal (D.fn.ok scRk2 (fun vs H Q E h => ?_) (fun cdv A outer s H vs Q E hr h => ?_))
  · obtain ⟨o, a, b, rfl, _⟩ := h
    rfl
  obtain ⟨o, a, b, rfl, ha, hb, q⟩ := h
  refine ⟨_, pss_cons (ps_if (pt_cmpR op_eq (pv 0) pe_str (nomark _)) (pss_one (ps_ret (pe_cal G hr rfl pass0 (pa_cons (pe_op op_add (pv 1) (pv 2)) pa_nil)))) pss_nil)
    (pss_cons (ps_if (pt_cmpR op_eq (pv 0) pe_str (nomark _)) (pss_one (ps_ret (pe_cal G hr rfl pass0 (pa_cons (pe_op op_sub (pv 1) (pv 2)) pa_nil)))) pss_nil)
    (pss_cons (ps_if (pt_cmpR op_eq (pv 0) pe_str (nomark _)) (pss_one (ps_ret (pe_cal G hr rfl pass0 (pa_cons (pe_op op_mulW (pv 1) (pv 2)) pa_nil)))) pss_nil)
    (pss_cons (ps_if (pt_cmpR op_eq (pv 0) pe_str (nomark _)) (pss_one (ps_ret (pe_callTy call_int1 (by rfl) B.int (by decide +kernel) (pa_cons (pe_cmp (pc_lt (pv 1) (pv 2))) pa_nil)))) pss_nil)
    (pss_cons (ps_if (pt_cmpR op_eq (pv 0) pe_str (nomark _)) (pss_one (ps_ret (pe_callTy call_int1 (by rfl) B.int (by decide +kernel) (pa_cons (pe_cmp (pc_eqI (pv 1) (pv 2))) pa_nil)))) pss_nil)
    (pss_cons (ps_if (pt_cmpR op_eq (pv 0) pe_str (nomark _)) (pss_one (ps_ret (pe_callTy call_int1 (by rfl) B.int (by decide +kernel) (pa_cons (pe_and (pe_cmp (pc_neI (pv 1) pe_int)) (pe_one (pe_cmp (pc_neI (pv 2) pe_int)))) pa_nil)))) pss_nil)
    (pss_one (ps_ret (pe_callTy call_int1 (by rfl) B.int (by decide +kernel) (pa_cons (pe_or (pe_cmp (pc_neI (pv 1) pe_int)) (pe_one (pe_cmp (pc_neI (pv 2) pe_int)))) pa_nil))))))))), ?_⟩
  have q : Q (V.int (if o = "add" then clamp (a + b) else if o = "sub" then clamp (a - b) else if o = "mul" then clamp (a * b) else if o = "less" then b2n (decide (a < b)) else if o = "same" then b2n (decide (a = b))
    else if o = "both" then b2n (!decide (a = 0) && !decide (b = 0)) else b2n (!decide (a = 0) || !decide (b = 0)))) H := q
  refine ⟨_, rfl, rfl, _, rfl, ?_⟩
  rw [str_dec]
  refine if2 (fun c => ?_) (fun c => ?_)
  · rw [if_pos c] at q
    exact ⟨_, rfl, _, rfl, _, _, rfl, rfl, _, rfl, q⟩
  rw [if_neg c] at q
  refine ⟨_, rfl, rfl, _, rfl, ?_⟩
  rw [str_dec]
  refine if2 (fun c => ?_) (fun c => ?_)
  · rw [if_pos c] at q
    exact ⟨_, rfl, _, rfl, _, _, rfl, rfl, _, rfl, q⟩
  rw [if_neg c] at q
  refine ⟨_, rfl, rfl, _, rfl, ?_⟩
  rw [str_dec]
  refine if2 (fun c => ?_) (fun c => ?_)
  · rw [if_pos c] at q
    exact ⟨_, rfl, _, rfl, _, _, rfl, rfl, wide_mul ha.lt hb.lt (by decide) (by decide) (by decide), _, rfl, q⟩
  rw [if_neg c] at q
  refine ⟨_, rfl, rfl, _, rfl, ?_⟩
  rw [str_dec]
  refine if2 (fun c => ?_) (fun c => ?_)
  · rw [if_pos c] at q
    exact ⟨_, rfl, _, rfl, _, _, rfl, rfl, .inr ⟨_, rfl, q⟩⟩
  rw [if_neg c] at q
  refine ⟨_, rfl, rfl, _, rfl, ?_⟩
  rw [str_dec]
  refine if2 (fun c => ?_) (fun c => ?_)
  · rw [if_pos c] at q
    exact ⟨_, rfl, _, rfl, _, _, rfl, rfl, .inr ⟨_, rfl, q⟩⟩
  rw [if_neg c] at q
  refine ⟨_, rfl, rfl, _, rfl, ?_⟩
  rw [str_dec]
  refine if2 (fun c => ?_) (fun c => ?_)
  · rw [if_pos c] at q
    refine ⟨_, rfl, _, _, rfl, rfl, _, rfl, ?_⟩
    by_cases d : a = 0
    · refine ifF (show (!decide (a = 0)) = false by rw [decide_eq_true d]; rfl) (.inr ⟨_, rfl, ?_⟩)
      rw [decide_eq_true d] at q
      exact q
    · refine ifT (show (!decide (a = 0)) = true by rw [decide_eq_false d]; rfl) ⟨_, rfl, _, _, rfl, rfl, .inr ⟨_, rfl, ?_⟩⟩
      rw [decide_eq_false d] at q
      exact q
  · rw [if_neg c] at q
    refine ⟨_, rfl, _, _, rfl, rfl, _, rfl, ?_⟩
    by_cases d : a = 0
    · refine ifF (show (!decide (a = 0)) = false by rw [decide_eq_true d]; rfl) ⟨_, rfl, _, _, rfl, rfl, .inr ⟨_, rfl, ?_⟩⟩
      rw [decide_eq_true d] at q
      exact q
    · refine ifT (show (!decide (a = 0)) = true by rw [decide_eq_false d]; rfl) (.inr ⟨_, rfl, ?_⟩)
      rw [decide_eq_false d] at q
      exact q

/-! ### compound terms -/
def comp : Tm → Bool
  | .num _ => false
  | .name _ => false
  | _ => true
def opn : Tm → Str
  | .num _ => "num"
  | .name _ => "name"
  | .una _ => "not"
  | .bin o _ _ => o
  | .pick _ _ _ => "pick"
def parts : Tm → List Tm
  | .num _ => []
  | .name _ => []
  | .una t => [t]
  | .bin _ t u => [t, u]
  | .pick t u z => [t, u, z]
/-- what an op makes of the numbers of its parts -/
def rec' (o : Str) (xs : List Int) : Int :=
  if o = "not" then b2n (decide (xs.getD 0 0 = 0))
  else if o = "pick" then (if xs.getD 0 0 = 0 then xs.getD 2 0 else xs.getD 1 0)
  else rk o (xs.getD 0 0) (xs.getD 1 0)
theorem ops7_no {o : Str} (h : o ∈ ops7) : ¬ o = "num" ∧ ¬ o = "name" ∧ ¬ o = "not" ∧ ¬ o = "pick" := by
  have q : ops7.all (fun o => !decide (o = "num") && !decide (o = "name") && !decide (o = "not") && !decide (o = "pick")) = true := by decide +kernel
  have z := List.all_eq_true.mp q o h
  simpa [and_assoc] using z
theorem opn_no {t : Tm} (h : comp t = true) (k : TmOk t) : ¬ opn t = "num" ∧ ¬ opn t = "name" := by
  cases t with
  | num _ => cases h
  | name _ => cases h
  | una t => exact (by decide +kernel : ¬ ("not" : Str) = "num" ∧ ¬ ("not" : Str) = "name")
  | bin o t u => exact ⟨(ops7_no k.1).1, (ops7_no k.1).2.1⟩
  | pick t u v => exact (by decide +kernel : ¬ ("pick" : Str) = "num" ∧ ¬ ("pick" : Str) = "name")
theorem wor_comp (ρ : Rm) {t : Tm} (h : comp t = true) (k : TmOk t) : wor ρ t = rec' (opn t) ((parts t).map (wor ρ)) := by
  cases t with
  | num _ => cases h
  | name _ => cases h
  | una t =>
    show b2n _ = if ("not" : Str) = "not" then _ else _
    rw [if_pos rfl]; rfl
  | bin o t u =>
    show rk o _ _ = rec' o _
    unfold rec'
    rw [if_neg (ops7_no k.1).2.2.1, if_neg (ops7_no k.1).2.2.2]; rfl
  | pick t u v =>
    unfold rec'
    have e : opn (.pick t u v) = "pick" := rfl
    rw [e, if_neg (show ¬ ("pick" : Str) = "not" by decide +kernel), if_pos (show ("pick" : Str) = "pick" from rfl)]; rfl
/-- as many parts as the op wants -/
def Fit (o : Str) (xs : List Int) : Prop := 1 ≤ xs.length ∧ (o = "pick" → 3 ≤ xs.length) ∧ (¬ o = "not" → 2 ≤ xs.length)
theorem fit_comp (ρ : Rm) {t : Tm} (h : comp t = true) (k : TmOk t) : Fit (opn t) ((parts t).map (wor ρ)) := by
  cases t with
  | num _ => cases h
  | name _ => cases h
  | una t => exact ⟨Nat.le_refl _, fun z => absurd z (show ¬ ("not" : Str) = "pick" by decide +kernel), fun z => absurd rfl z⟩
  | bin o t u => exact ⟨by show 1 ≤ 2; decide, fun z => absurd z (ops7_no k.1).2.2.2, fun _ => Nat.le_refl _⟩
  | pick t u v => exact ⟨by show 1 ≤ 3; decide, fun _ => Nat.le_refl _, fun _ => by show 2 ≤ 3; decide⟩
theorem parts_ok {t : Tm} (k : TmOk t) : ∀ u ∈ parts t, TmOk u ∧ dep u + 1 ≤ dep t := by
  intro u hu
  cases t with
  | num _ => exact absurd hu List.not_mem_nil
  | name _ => exact absurd hu List.not_mem_nil
  | una t =>
    cases List.mem_singleton.mp hu
    exact ⟨k, Nat.le_refl _⟩
  | bin o a b =>
    have hu' : u ∈ [a, b] := hu
    simp only [List.mem_cons, List.not_mem_nil, or_false] at hu'
    show _ ∧ _ ≤ max (dep a) (dep b) + 1
    rcases hu' with rfl | rfl
    · exact ⟨k.2.1, by omega⟩
    · exact ⟨k.2.2, by omega⟩
  | pick a b c =>
    have hu' : u ∈ [a, b, c] := hu
    simp only [List.mem_cons, List.not_mem_nil, or_false] at hu'
    show _ ∧ _ ≤ max (dep a) (max (dep b) (dep c)) + 1
    rcases hu' with rfl | rfl | rfl
    · exact ⟨k.1, by omega⟩
    · exact ⟨k.2.1, by omega⟩
    · exact ⟨k.2.2, by omega⟩
/-- a compound term in the heap: its op, its parts -/
def PtAt (H : Hp) (vs : List V) (ts : List Tm) : Prop := vs.length = ts.length ∧ ∀ (i : Nat) (t : Tm), ts[i]? = some t → ∃ v : V, vs[i]? = some v ∧ TmAt H v t
theorem PtAt.nil {H : Hp} : PtAt H [] [] := ⟨rfl, fun i t e => by simp at e⟩
theorem PtAt.cons {H : Hp} {v : V} {vs : List V} {t : Tm} {ts : List Tm} (h : TmAt H v t) (r : PtAt H vs ts) : PtAt H (v :: vs) (t :: ts) :=
  ⟨by rw [List.length_cons, List.length_cons, r.1], fun i u e => by
    cases i with
    | zero => exact ⟨v, rfl, by cases (Option.some.inj e); exact h⟩
    | succ i => exact r.2 i u e⟩
theorem TmAt.comp {H : Hp} {v : V} {t : Tm} (h : TmAt H v t) (c : comp t = true) : ∃ (a : Addr) (vs : List V), v = .ref a ∧ H a = some (.tup (.str (opn t) :: vs)) ∧ PtAt H vs (parts t) := by
  cases t with
  | num _ => cases c
  | name _ => cases c
  | una t => obtain ⟨a, b, e, h, h1⟩ := h; exact ⟨a, [b], e, h, PtAt.nil.cons h1⟩
  | bin o t u => obtain ⟨a, b, c, e, h, h1, h2⟩ := h; exact ⟨a, [b, c], e, h, (PtAt.nil.cons h2).cons h1⟩
  | pick t u z => obtain ⟨a, b, c, d, e, h, h1, h2, h3⟩ := h; exact ⟨a, [b, c, d], e, h, ((PtAt.nil.cons h3).cons h2).cons h1⟩

/-! ### reckoned -/
def spRk : Sp := fun vs H Q _ => ∃ (o : Str) (a : Addr) (xs : List Int), vs = [.str o, .ref a] ∧ H a = some (.tup (xs.map V.int)) ∧ Fit o xs ∧ (∀ i ∈ xs, InB i) ∧ Q (.int (rec' o xs)) H
theorem scRk : FnScope ["op", "parts"] ["op", "parts"] (defScope sRk) := ⟨rfl, rfl, rfl, by decide +kernel, rfl, by decide +kernel, by decide +kernel⟩
theorem at_map {xs : List Int} {j : Nat} (h : j < xs.length) : atI (xs.map V.int) ((j : Nat) : Int) = some (.int (xs.getD j 0)) := atI_nat (by
  rw [List.getElem?_map, List.getElem?_eq_getElem h, List.getD_eq_getElem?_getD, List.getElem?_eq_getElem h]; rfl)
theorem getD_in {xs : List Int} {j : Nat} (h : j < xs.length) (k : ∀ i ∈ xs, InB i) : InB (xs.getD j 0) := by
  rw [List.getD_eq_getElem?_getD, List.getElem?_eq_getElem h]
  exact k _ (List.getElem_mem h)
theorem ok_rk {f : Addr} {fd : FuncData} (D : Df K mg "reckoned" sRk ["op", "parts"] f fd) (B : Bl mg) (G : Cal P w K mg base CX0 2 "reckoned_of_two" ["op", "one", "two"] spRk2) :
    Cal P w K mg base CX0 3 "reckoned" ["op", "parts"] spRk := by
  refine D.cal (D.fn.ok scRk (fun vs H Q E h => ?_) (fun cdv A outer s H vs Q E hr h => ?_))
  · obtain ⟨o, a, xs, rfl, _⟩ := h
    rfl
  obtain ⟨o, a, xs, rfl, ha, hf, hb, q⟩ := h
  have q : Q (V.int (if o = "not" then b2n (decide (xs.getD 0 0 = 0)) else if o = "pick" then (if xs.getD 0 0 = 0 then xs.getD 2 0 else xs.getD 1 0) else rk o (xs.getD 0 0) (xs.getD 1 0))) H := q
  have a0 : atI (xs.map V.int) 0 = some (.int (xs.getD 0 0)) := at_map (j := 0) hf.1
  refine ⟨_, pss_cons (ps_if (pt_cmpR op_eq (pv 0) pe_str (nomark _)) (pss_one (ps_ret (pe_callTy call_int1 (by rfl) B.int (by decide +kernel) (pa_cons (pe_cmp (pc_eqI (pe_ix ix_tup (pv 1) pe_int (fun _ _ => rfl)) pe_int)) pa_nil)))) pss_nil)
    (pss_cons (ps_if (pt_cmpR op_eq (pv 0) pe_str (nomark _)) (pss_cons (ps_if (pt_cmpR op_ne (pe_ix ix_tup (pv 1) pe_int (fun _ _ => rfl)) pe_int (nomark _)) (pss_one (ps_ret (pe_ix ix_tup (pv 1) pe_int (fun _ _ => rfl)))) pss_nil)
      (pss_one (ps_ret (pe_ix ix_tup (pv 1) pe_int (fun _ _ => rfl))))) pss_nil)
    (pss_one (ps_ret (pe_cal G hr rfl pass0 (pa_cons (pv 0) (pa_cons (pe_ix ix_tup (pv 1) pe_int (fun _ _ => rfl)) (pa_cons (pe_ix ix_tup (pv 1) pe_int (fun _ _ => rfl)) pa_nil))))))), ?_⟩
  refine ⟨_, rfl, rfl, _, rfl, ?_⟩
  rw [str_dec]
  refine if2 (fun c => ?_) (fun c => ?_)
  · rw [if_pos c] at q
    exact ⟨_, rfl, a, _, _, _, rfl, rfl, SqT.of ha, a0, _, _, rfl, rfl, .inr ⟨_, rfl, q⟩⟩
  rw [if_neg c] at q
  refine ⟨_, rfl, rfl, _, rfl, ?_⟩
  rw [str_dec]
  have a1 : atI (xs.map V.int) 1 = some (.int (xs.getD 1 0)) := at_map (j := 1) (hf.2.2 c)
  refine if2 (fun d => ?_) (fun d => ?_)
  · rw [if_pos d] at q
    have a2 : atI (xs.map V.int) 2 = some (.int (xs.getD 2 0)) := at_map (j := 2) (hf.2.1 d)
    refine ⟨_, rfl, a, _, _, _, rfl, rfl, SqT.of ha, a0, rfl, _, rfl, ?_⟩
    rw [int_dec]
    by_cases z : xs.getD 0 0 = 0
    · rw [if_pos z] at q
      exact ifF (by rw [decide_eq_true z]; rfl) ⟨_, rfl, a, _, _, _, rfl, rfl, SqT.of ha, a2, q⟩
    · rw [if_neg z] at q
      exact ifT (by rw [decide_eq_false z]; rfl) ⟨_, rfl, a, _, _, _, rfl, rfl, SqT.of ha, a1, q⟩
  · rw [if_neg d] at q
    exact ⟨_, rfl, _, rfl, a, _, _, _, rfl, rfl, SqT.of ha, a0, _, rfl, a, _, _, _, rfl, rfl, SqT.of ha, a1, o, _, _, rfl, getD_in hf.1 hb, getD_in (hf.2.2 c) hb, q⟩

/-! ### worth -/
/-- a room stands at a -/
def RoomAt (H : Hp) (a : Addr) (ρ : Rm) : Prop := ∃ kvs, H a = some (.dK kvs) ∧ RmIs kvs ρ
theorem RoomAt.same {H H' : Hp} {a : Addr} {ρ : Rm} (s : Same H H') (h : RoomAt H a ρ) : RoomAt H' a ρ := let ⟨k, e, r⟩ := h; ⟨k, s _ _ e, r⟩
def spWorth (j : Nat) : Sp := fun vs H Q _ => ∃ (v : V) (ra : Addr) (t : Tm) (ρ : Rm), vs = [v, .ref ra] ∧ TmAt H v t ∧ TmOk t ∧ dep t ≤ j ∧ RoomAt H ra ρ ∧ RmB ρ ∧ ∀ H', Same H H' → Q (.int (wor ρ t)) H'
theorem scWorth : FnScope ["term", "room", "part"] ["term", "room"] (defScope sWorth) := ⟨rfl, rfl, rfl, by decide +kernel, rfl, by decide +kernel, by decide +kernel⟩
theorem cut1 (x : V) (vs : List V) : cutV (x :: vs) (some 1) none = vs := by
  unfold cutV
  have e : HT.sIx (x :: vs).length 0 (some 1) = 1 := by
    have := HT.sIx_nat (x :: vs).length 0 1
    rw [List.length_cons] at this
    rw [show ((1 : Nat) : Int) = 1 from rfl] at this
    rw [List.length_cons, this]; omega
  rw [e]
  show (vs.take _) = vs
  rw [HT.sIx_none]
  exact List.take_of_length_le (by rw [List.length_cons]; omega)
theorem ok_worth1 {f : Addr} {fd : FuncData} {j k : Nat} (D : Df K mg "worth" sWorth ["term", "room"] f fd) (B : Bl mg) (GR : Cal P w K mg base CX0 k "reckoned" ["op", "parts"] spRk)
    (GW : Cal P w K mg base CX0 k "worth" ["term", "room"] (spWorth j)) : Cal P w K mg base CX0 (k + 1) "worth" ["term", "room"] (spWorth (j + 1)) := by
  refine D.cal (D.fn.ok scWorth (fun vs H Q E h => ?_) (fun cdv A outer s H vs Q E hr h => ?_))
  · obtain ⟨v, ra, t, ρ, rfl, _⟩ := h
    rfl
  obtain ⟨v, ra, t, ρ, rfl, ht, ok, hd, hR, hB, q⟩ := h
  have hu := hu_of hr
  refine ⟨_, pss_cons (ps_if (pt_cmpR op_eq (pe_ix ix_tup (pv 0) pe_int (fun _ _ => rfl)) pe_str (nomark _)) (pss_one (ps_ret (pe_ix ix_tup (pv 0) pe_int (fun _ _ => rfl)))) pss_nil)
    (pss_cons (ps_if (pt_cmpR op_eq (pe_ix ix_tup (pv 0) pe_int (fun _ _ => rfl)) pe_str (nomark _)) (pss_one (ps_ret (pe_dget2 hu (pv 1) (pe_ix ix_tup (pv 0) pe_int (fun _ _ => rfl)) pe_int ⟨by rfl, by rfl, by rfl, by rfl⟩))) pss_nil)
    (pss_one (ps_ret (pe_cal GR hr rfl pass0 (pa_cons (pe_ix ix_tup (pv 0) pe_int (fun _ _ => rfl)) (pa_cons (pe_callTy call_tuple_of (by rfl) B.tuple (by decide +kernel) (pa_cons
      (pe_lc (own := [("part", 2)]) (g := gName 2) (tt := tYes) rfl scWorth.nd (pi_tup (pe_slice sl_tup (pv 0) (po_some pe_int) po_none)) (blkOk_by (own := [("part", 2)]) (N := ["term", "room", "part"]) (sc := defScope sWorth) (by decide +kernel))
        (fun _ _ _ _ _ => pg_name (i := 2) scWorth.nd rfl (Or.inl rfl)) (fun _ _ _ _ _ => pts_nil) (fun _ _ _ _ _ => pe_cal GW hr rfl pass0 (pa_cons (pv 2) (pa_cons (pv 1) pa_nil)))) pa_nil)) pa_nil)))))), ?_⟩
  cases hc : comp t with
  | false =>
    cases t with
    | num n =>
      obtain ⟨a, rfl, ha⟩ := ht
      exact ⟨_, rfl, a, _, _, _, rfl, rfl, SqT.of ha, rfl, rfl, _, rfl, ifT (by decide +kernel) ⟨_, rfl, a, _, _, _, rfl, rfl, SqT.of ha, rfl, q H (Same.refl H)⟩⟩
    | name x =>
      obtain ⟨a, rfl, ha⟩ := ht
      obtain ⟨kvs, hk, hm⟩ := hR
      refine ⟨_, rfl, a, _, _, _, rfl, rfl, SqT.of ha, rfl, rfl, _, rfl, ifF (by decide +kernel) ⟨_, rfl, a, _, _, _, rfl, rfl, SqT.of ha, rfl, rfl, _, rfl, ifT (by decide +kernel) ?_⟩⟩
      refine ⟨_, rfl, ra, rfl, .inl ⟨_, .inl hk⟩, _, rfl, a, _, _, _, rfl, rfl, SqT.of ha, rfl, _, DGet.k (k := Sum.inr x) hk, ?_⟩
      have z := q H (Same.refl H)
      rw [show wor ρ (.name x) = ρ x from rfl, ← hm x] at z
      exact z
    | una _ => cases hc
    | bin _ _ _ => cases hc
    | pick _ _ _ => cases hc
  | true =>
    obtain ⟨a, vs, rfl, ha, hl, hp⟩ := ht.comp hc
    obtain ⟨n1, n2⟩ := opn_no hc ok
    have i0 : atI (V.str (opn t) :: vs) 0 = some (.str (opn t)) := atI_nat (j := 0) rfl
    refine ⟨_, rfl, a, _, _, _, rfl, rfl, SqT.of ha, i0, rfl, _, rfl, ifF (by rw [str_dec]; exact decide_eq_false n1) ⟨_, rfl, a, _, _, _, rfl, rfl, SqT.of ha, i0, rfl, _, rfl, ifF (by rw [str_dec]; exact decide_eq_false n2) ?_⟩⟩
    refine ⟨_, rfl, a, _, _, _, rfl, rfl, SqT.of ha, i0, _, rfl, _, rfl, a, _, rfl, SqT.of ha, ?_, fun p np => ?_⟩
    · intro z
      have e := z.1
      have := HT.sIx_nat (V.str (opn t) :: vs).length 0 1
      rw [show ((1 : Nat) : Int) = 1 from rfl, List.length_cons] at this
      rw [List.length_cons, this] at e
      omega
    rw [cut1]
    have s0 : Same H (upd H p (.tup vs)) := same_new np _
    refine ⟨p, rfl, ⟨_, SqT.of upd_same⟩, fun L hL => ?_⟩
    have s1 : Same (upd H p (.tup vs)) (upd (upd H p (.tup vs)) L (.lst [])) := same_new hL _
    have hLH : H L = none := s0.free hL
    refine lc_tup (K := K) (a := p) (xs := vs) (fun i H1 => Same H (upd H1 L (.lst [])) ∧ H1 p = some (.tup vs) ∧ H1 L = some (.lst (((parts t).take i).map fun u => V.int (wor ρ u))))
      ⟨?_, by rw [upd_ne (ne_of_none upd_same hL)]; exact upd_same, upd_same⟩ (fun i H1 _ h => SqT.of h.2.1) ?_ ?_
    · rw [upd_upd]; exact s0.trans s1
    · rintro i x H1 hx ⟨g1, g2, g3⟩
      have hi : i < (parts t).length := by rw [← hl]; exact (List.getElem?_eq_some_iff.mp hx).1
      have e1 : (parts t)[i]? = some (parts t)[i] := List.getElem?_eq_getElem hi
      obtain ⟨v', ev, tv⟩ := hp i _ e1
      rw [ev] at hx
      cases hx
      have sH : Same H H1 := fun b o z => by
        have y := g1 b o z
        rw [upd_ne (ne_of_none z hLH)] at y
        exact y
      obtain ⟨ok', hd'⟩ := parts_ok ok _ (List.getElem_mem hi)
      refine ⟨rfl, ?_⟩
      rw [show tYes = fun (_ : St) H (Q : Bool → Hp → Prop) => Q true H from rfl]
      refine ifT rfl ?_
      refine ⟨_, rfl, _, rfl, x, ra, _, ρ, rfl, tv.keep (Kp.of sH), ok', by omega, hR.same sH, hB, fun H2 g4 => ?_⟩
      refine ⟨_, g4 _ _ g3, ?_, ?_, ?_, ?_⟩
      · rw [List.length_map, List.length_take]
        exact small1000 (by have h4 : (parts t).length ≤ 3 := (by cases t <;> simp [parts]); omega)
      · rw [upd_upd]
        exact fun b o z => by
          rw [upd_ne (ne_of_none z hLH)]
          exact g4 _ _ (sH b o z)
      · rw [upd_ne (ne_of g2 g3 (by intro z; cases z))]
        exact g4 _ _ g2
      · rw [upd_same, List.take_add_one, e1, List.map_append]
        rfl
    · rintro H1 ⟨g1, g2, g3⟩
      rw [hl, List.take_length] at g3
      have sH : Same H H1 := fun b o z => by
        have y := g1 b o z
        rw [upd_ne (ne_of_none z hLH)] at y
        exact y
      refine ⟨L, _, rfl, .inl ⟨SqL.of g3, fun r nr => ?_⟩⟩
      have s2 := same_new nr (.tup ((parts t).map fun u => V.int (wor ρ u)))
      refine ⟨opn t, r, (parts t).map (wor ρ), rfl, ?_, fit_comp ρ hc ok, fun i hi => ?_, ?_⟩
      · rw [upd_same, List.map_map]; rfl
      · obtain ⟨u, hu, rfl⟩ := List.mem_map.mp hi
        exact wor_in hB u (parts_ok ok u hu).1
      · rw [← wor_comp ρ hc ok]
        exact q _ (sH.trans s2)
theorem ok_worth {f : Addr} {fd : FuncData} (D : Df K mg "worth" sWorth ["term", "room"] f fd) (B : Bl mg) (GR : Cal P w K mg base CX0 3 "reckoned" ["op", "parts"] spRk) :
    ∀ j : Nat, Cal P w K mg base CX0 (3 + j) "worth" ["term", "room"] (spWorth j)
  | 0 => D.never fun vs H Q E h => by
    obtain ⟨v, ra, t, ρ, _, _, _, hd, _⟩ := h
    have := dep_pos t
    omega
  | j + 1 => ok_worth1 D B (GR.mono (Nat.le_add_right 3 j)) (ok_worth D B GR j)
end
end Lot

/-! common, share, times -/
namespace Lot
open PySem L2
abbrev sCommon : Stmt := top 13
abbrev sShare : Stmt := top 14
abbrev sTimes : Stmt := top 15
section
variable {P : Program} {w : World} {K : PySem.W.Frag} {mg : Str → Option Value} {base : Heap}
def spCommon : Sp := fun vs H Q _ => ∃ n m : Nat, vs = [.int n, .int m] ∧ Q (.int ((Nat.gcd n m : Nat) : Int)) H
theorem scCommon : FnScope ["a", "b", "rest"] ["a", "b"] (defScope sCommon) := ⟨rfl, rfl, rfl, by decide +kernel, rfl, by decide +kernel, by decide +kernel⟩
theorem fmod_nat (n m : Nat) : Int.fmod (n : Int) (m : Int) = ((n % m : Nat) : Int) := by
  rw [Int.fmod_eq_emod_of_nonneg _ (Int.natCast_nonneg m)]
  exact (Int.natCast_emod n m).symm
theorem ok_common {f : Addr} {fd : FuncData} (D : Df K mg "common" sCommon ["a", "b"] f fd) : Cal P w K mg base CX0 1 "common" ["a", "b"] spCommon := by
  refine D.cal (D.fn.ok scCommon (fun vs H Q E h => ?_) (fun cdv A outer s H vs Q E hr h => ?_))
  · obtain ⟨n, m, rfl, _⟩ := h
    rfl
  obtain ⟨n, m, rfl, q⟩ := h
  refine ⟨_, pss_cons (ps_while PassesOwn.never (pt_cmp (pc_neI (pv 1) pe_int))
      (pss_cons (ps_set (i := 2) scCommon.nd rfl (.inl rfl) (pe_op op_modN (pv 0) (pv 1)))
      (pss_cons (ps_set (i := 0) scCommon.nd rfl (.inl rfl) (pv 1))
      (pss_one (ps_set (i := 1) scCommon.nd rfl (.inl rfl) (pv 2))))))
    (pss_one (ps_ret (pv 0))), ?_⟩
  refine while_by (fun σ H' => H' = H ∧ ∃ (x y : Nat) (r : Option V), σ = [some (.int x), some (.int y), r] ∧ Nat.gcd x y = Nat.gcd n m)
    (fun σ _ => match σ with | [_, some (.int y), _] => y.toNat | _ => 0) ⟨rfl, n, m, none, rfl, rfl⟩ ?_ ?_
  · rintro σ H' ⟨rfl, x, y, r, rfl, e⟩
    refine ⟨_, rfl, _, _, rfl, rfl, _, rfl, ?_⟩
    by_cases c : y = 0
    · subst c
      refine ifF (by simp) ⟨_, rfl, ?_⟩
      rw [Nat.gcd_zero_right] at e
      rw [e]
      exact q
    · refine ifT (by simp [c]) ?_
      refine ⟨_, rfl, _, rfl, _, _, rfl, rfl, by omega, _, rfl, _, rfl, ⟨rfl, y, x % y, some (.int ((x % y : Nat) : Int)), ?_, ?_⟩, ?_⟩
      · show [some (V.int y), some (V.int (Int.fmod (x : Int) (y : Int))), some (V.int (Int.fmod (x : Int) (y : Int)))] = _
        rw [fmod_nat]
      · rw [← e, Nat.gcd_comm x y, Nat.gcd_rec y x, Nat.gcd_comm]
      · show (Int.fmod (x : Int) (y : Int)).toNat < ((y : Nat) : Int).toNat
        rw [fmod_nat]
        have := Nat.mod_lt x (Nat.pos_of_ne_zero c)
        omega
  · rintro σ H' Q1 Q2 h ⟨v, e, i, j, e1, e2, c, e3, z⟩
    exact ⟨v, e, i, j, e1, e2, c, e3, h _ _ z⟩

/-- a share: two numbers from nought on, the second above it -/
def spShare : Sp := fun vs H Q _ => ∃ a b : Nat, vs = [.int a, .int b] ∧ 0 < b ∧ b < 2 ^ 8900 ∧
  ∀ (H' : Hp) (p : Addr) (x y : Nat), Same H H' → H' p = some (.tup [.int x, .int y]) → x ≤ a → 0 < y → y ≤ b → Q (.ref p) H'
theorem scShare : FnScope ["a", "b", "part"] ["a", "b"] (defScope sShare) := ⟨rfl, rfl, rfl, by decide +kernel, rfl, by decide +kernel, by decide +kernel⟩
theorem ok_share {f : Addr} {fd : FuncData} (D : Df K mg "share" sShare ["a", "b"] f fd) (B : Bl mg) (G : Cal P w K mg base CX0 1 "common" ["a", "b"] spCommon) : Cal P w K mg base CX0 2 "share" ["a", "b"] spShare := by
  refine D.cal (D.fn.ok scShare (fun vs H Q E h => ?_) (fun cdv A outer s H vs Q E hr h => ?_))
  · obtain ⟨n, m, rfl, _⟩ := h
    rfl
  obtain ⟨a, b, rfl, hb, hz, q⟩ := h
  refine ⟨_, pss_cons (ps_if (pt_cmpR op_eq (pv 1) pe_int (nomark _)) (pss_one ps_never) pss_nil)
    (pss_cons (ps_if (pt_cmpR op_lt (pv 1) pe_int (nomark _)) (pss_cons (ps_set (i := 0) scShare.nd rfl (.inl rfl) (pe_un un_neg (pv 0))) (pss_one (ps_set (i := 1) scShare.nd rfl (.inl rfl) (pe_un un_neg (pv 1))))) pss_nil)
    (pss_cons (ps_set (i := 2) scShare.nd rfl (.inl rfl) (pe_cal G hr rfl pass0 (pa_cons (pe_callB call_abs (by rfl) B.abs (by decide +kernel) (pa_cons (pv 0) pa_nil)) (pa_cons (pv 1) pa_nil))))
    (pss_one (ps_ret (pe_tup (pa_cons (pe_op op_fdivW (pv 0) (pv 2)) (pa_cons (pe_op op_fdivW (pv 1) (pv 2)) pa_nil))))))), ?_⟩
  refine ⟨_, rfl, rfl, _, rfl, ?_⟩
  rw [int_dec]
  refine if2 (fun c => absurd c (by omega)) fun _ => ?_
  refine ⟨_, rfl, _, _, rfl, rfl, _, rfl, if2 (fun c => absurd c (by omega)) fun _ => ?_⟩
  refine ⟨_, rfl, _, rfl, _, rfl, a, b, ?_, ?_⟩
  · show [V.int (if (a : Int) < 0 then -(a : Int) else a), V.int b] = [V.int a, V.int b]
    rw [if_neg (by omega)]
  have gp : 0 < Nat.gcd a b := Nat.gcd_pos_of_pos_right a hb
  have gl : Nat.gcd a b ≤ b := Nat.gcd_le_right a hb
  have gz : (((Nat.gcd a b : Nat) : Int)).natAbs < 2 ^ 8900 := by
    rw [Int.natAbs_natCast]
    exact Nat.lt_of_le_of_lt gl hz
  have g0 : (0 : Int) < ((Nat.gcd a b : Nat) : Int) := by omega
  have cd : ∀ i : Int, CDivW i ((Nat.gcd a b : Nat) : Int) := fun i => wide_div g0 gz (by decide) (by decide)
  refine ⟨_, rfl, _, rfl, _, _, rfl, rfl, cd _, _, rfl, _, rfl, _, _, rfl, rfl, cd _, (by show 2 ≤ sizeLine; decide), fun p hp => ?_⟩
  refine q _ p (a / Nat.gcd a b) (b / Nat.gcd a b) (same_new hp _) ?_ (Nat.div_le_self _ _) (Nat.div_pos gl gp) (Nat.div_le_self _ _)
  rw [upd_same, Int.natCast_ediv, Int.natCast_ediv]

def spTimes : Sp := fun vs H Q _ => ∃ (xa ya : Addr) (a b c d m n : Nat), vs = [.ref xa, .ref ya] ∧ H xa = some (.tup [.int a, .int b]) ∧ H ya = some (.tup [.int c, .int d]) ∧
  a < 2 ^ m ∧ 0 < b ∧ b < 2 ^ m ∧ c < 2 ^ n ∧ 0 < d ∧ d < 2 ^ n ∧ 0 < m ∧ 0 < n ∧ m + n ≤ 8900 ∧
  ∀ (H' : Hp) (p : Addr) (x y : Nat), Same H H' → H' p = some (.tup [.int x, .int y]) → x < 2 ^ (m + n) → 0 < y → y < 2 ^ (m + n) → Q (.ref p) H'
theorem scTimes : FnScope ["x", "y"] ["x", "y"] (defScope sTimes) := ⟨rfl, rfl, rfl, by decide +kernel, rfl, by decide +kernel, by decide +kernel⟩
theorem mul_lt2 {a c m n : Nat} (h : a < 2 ^ m) (k : c < 2 ^ n) : a * c < 2 ^ (m + n) := by
  rw [Nat.pow_add]
  exact Nat.mul_lt_mul'' h k
theorem ok_times {f : Addr} {fd : FuncData} (D : Df K mg "times" sTimes ["x", "y"] f fd) (G : Cal P w K mg base CX0 2 "share" ["a", "b"] spShare) : Cal P w K mg base CX0 3 "times" ["x", "y"] spTimes := by
  refine D.cal (D.fn.ok scTimes (fun vs H Q E h => ?_) (fun cdv A outer s H vs Q E hr h => ?_))
  · obtain ⟨xa, ya, a, b, c, d, m, n, rfl, _⟩ := h
    rfl
  obtain ⟨xa, ya, a, b, c, d, m, n, rfl, hx, hy, h1, h2, h3, h4, h5, h6, hm, hn, hmn, q⟩ := h
  refine ⟨_, pss_one (ps_ret (pe_cal G hr rfl pass0 (pa_cons (pe_op op_mulW (pe_ix ix_tup (pv 0) pe_int (fun _ _ => rfl)) (pe_ix ix_tup (pv 1) pe_int (fun _ _ => rfl)))
    (pa_cons (pe_op op_mulW (pe_ix ix_tup (pv 0) pe_int (fun _ _ => rfl)) (pe_ix ix_tup (pv 1) pe_int (fun _ _ => rfl))) pa_nil)))), ?_⟩
  have cm : ∀ {i j : Nat}, i < 2 ^ m → j < 2 ^ n → CMulW (i : Int) (j : Int) := fun {i j} hi hj => wide_mul (a := m) (b := n) (by rw [Int.natAbs_natCast]; exact hi) (by rw [Int.natAbs_natCast]; exact hj) hm hn (by omega)
  refine ⟨_, rfl, xa, _, _, _, rfl, rfl, SqT.of hx, rfl, _, rfl, ya, _, _, _, rfl, rfl, SqT.of hy, rfl, _, _, rfl, rfl, cm h1 h4, ?_⟩
  refine ⟨_, rfl, xa, _, _, _, rfl, rfl, SqT.of hx, rfl, _, rfl, ya, _, _, _, rfl, rfl, SqT.of hy, rfl, _, _, rfl, rfl, cm h3 h6, ?_⟩
  refine ⟨a * c, b * d, ?_, Nat.mul_pos h2 h5, Nat.lt_of_lt_of_le (mul_lt2 h3 h6) (Nat.pow_le_pow_right (by decide) hmn), fun H' p x y g1 g2 g3 g4 g5 => ?_⟩
  · rw [Int.natCast_mul, Int.natCast_mul]; rfl
  · exact q H' p x y g1 g2 (Nat.lt_of_le_of_lt g3 (mul_lt2 h1 h4)) g4 (Nat.lt_of_le_of_lt g5 (mul_lt2 h3 h6))
end
end Lot

/-! Walk, side_taken -/
namespace Lot
open PySem L2
abbrev sInit : Stmt := inClass (top 17) 0
abbrev sSide : Stmt := inClass (top 17) 1
section
variable {P : Program} {w : World} {K : PySem.W.Frag} {mg : Str → Option Value} {base : Heap}

/-! ### what the classes are -/
abbrev bmVE : List Value := [.type "ValueError", .type "Exception", .type "BaseException", .type "object"]
structure Tw (K : PySem.W.Frag) (mg : Str → Option Value) (C cN : Addr) : Prop where
  cl : Cls K C
  n1 : NoAttr K C "ahead"
  n2 : NoAttr K C "filling"
  n3 : NoAttr K C "taken"
  n4 : NoAttr K C "counts"
  n5 : NoAttr K C "sure"
  n6 : NoAttr K C "room"
  n7 : NoAttr K C "end"
  gW : mg "Walk" = some (.ref C)
  xN : PySem.W.excIn K cN bmVE "ValueError.__new__" = true
  gN : mg "NoSide" = some (.ref cN)
  kN : PySem.W.keepIn K (.ref cN) = true
  bN : PySem.W.subIn K (.ref cN) (.type "BaseException") = some true
  tN : PySem.W.typeIn K (.ref cN) = some (.type "type")

/-! ### a walk in the heap -/
def wf (ah tk ct sa ra : Addr) (e : V) : List (Str × V) :=
  [("ahead", .ref ah), ("filling", .bl false), ("taken", .ref tk), ("counts", .ref ct), ("sure", .ref sa), ("room", .ref ra), ("end", e)]
theorem same_own {H0 H : Hp} {x : Addr} {o : HO} (s : Same H0 H) (h : H0 x = none) : Same H0 (upd H x o) := fun b u e => by
  rw [upd_ne (ne_of_none e h)]; exact s b u e
structure WF (C : Addr) (H0 H : Hp) (wk dx ah tk ct sa ra : Addr) (us : List Int) (tks cts : List V) (kvs : List (Key × V)) (p q : Nat) (e : V) : Prop where
  same : Same H0 H
  o1 : H0 wk = none
  o2 : H0 tk = none
  o3 : H0 ct = none
  o4 : H0 ra = none
  ne : tk ≠ ct
  h1 : H wk = some (.ins C dx (wf ah tk ct sa ra e))
  h2 : H ah = some (.tup (us.map V.int))
  h3 : H tk = some (.lst tks)
  h4 : H ct = some (.lst cts)
  h5 : H ra = some (.dK kvs)
  h6 : H sa = some (.tup [.int p, .int q])
section
variable {C : Addr} {H0 H H' : Hp} {wk dx ah tk ct sa ra : Addr} {us : List Int} {tks cts : List V} {kvs : List (Key × V)} {p q : Nat} {e : V}
theorem WF.step (W : WF C H0 H wk dx ah tk ct sa ra us tks cts kvs p q e) (s : Same H H') : WF C H0 H' wk dx ah tk ct sa ra us tks cts kvs p q e :=
  ⟨W.same.trans s, W.o1, W.o2, W.o3, W.o4, W.ne, s _ _ W.h1, s _ _ W.h2, s _ _ W.h3, s _ _ W.h4, s _ _ W.h5, s _ _ W.h6⟩
theorem WF.taken (W : WF C H0 H wk dx ah tk ct sa ra us tks cts kvs p q e) (ts : List V) : WF C H0 (upd H tk (.lst ts)) wk dx ah tk ct sa ra us ts cts kvs p q e :=
  ⟨same_own W.same W.o2, W.o1, W.o2, W.o3, W.o4, W.ne, by rw [upd_ne (ne_of W.h1 W.h3 (by intro z; cases z))]; exact W.h1, by rw [upd_ne (ne_of W.h2 W.h3 (by intro z; cases z))]; exact W.h2,
    upd_same, by rw [upd_ne W.ne.symm]; exact W.h4, by rw [upd_ne (ne_of W.h5 W.h3 (by intro z; cases z))]; exact W.h5, by rw [upd_ne (ne_of W.h6 W.h3 (by intro z; cases z))]; exact W.h6⟩
theorem WF.counts (W : WF C H0 H wk dx ah tk ct sa ra us tks cts kvs p q e) (ts : List V) : WF C H0 (upd H ct (.lst ts)) wk dx ah tk ct sa ra us tks ts kvs p q e :=
  ⟨same_own W.same W.o3, W.o1, W.o2, W.o3, W.o4, W.ne, by rw [upd_ne (ne_of W.h1 W.h4 (by intro z; cases z))]; exact W.h1, by rw [upd_ne (ne_of W.h2 W.h4 (by intro z; cases z))]; exact W.h2,
    by rw [upd_ne W.ne]; exact W.h3, upd_same, by rw [upd_ne (ne_of W.h5 W.h4 (by intro z; cases z))]; exact W.h5, by rw [upd_ne (ne_of W.h6 W.h4 (by intro z; cases z))]; exact W.h6⟩
theorem WF.room (W : WF C H0 H wk dx ah tk ct sa ra us tks cts kvs p q e) (ks : List (Key × V)) : WF C H0 (upd H ra (.dK ks)) wk dx ah tk ct sa ra us tks cts ks p q e :=
  ⟨same_own W.same W.o4, W.o1, W.o2, W.o3, W.o4, W.ne, by rw [upd_ne (ne_of W.h1 W.h5 (by intro z; cases z))]; exact W.h1, by rw [upd_ne (ne_of W.h2 W.h5 (by intro z; cases z))]; exact W.h2,
    by rw [upd_ne (ne_of W.h3 W.h5 (by intro z; cases z))]; exact W.h3, by rw [upd_ne (ne_of W.h4 W.h5 (by intro z; cases z))]; exact W.h4, upd_same, by rw [upd_ne (ne_of W.h6 W.h5 (by intro z; cases z))]; exact W.h6⟩
theorem WF.fld {sa' : Addr} {p' q' : Nat} {e' : V} (W : WF C H0 H wk dx ah tk ct sa ra us tks cts kvs p q e) (hs : H sa' = some (.tup [.int p', .int q'])) :
    WF C H0 (upd H wk (.ins C dx (wf ah tk ct sa' ra e'))) wk dx ah tk ct sa' ra us tks cts kvs p' q' e' :=
  ⟨same_own W.same W.o1, W.o1, W.o2, W.o3, W.o4, W.ne, upd_same, by rw [upd_ne (ne_of W.h2 W.h1 (by intro z; cases z))]; exact W.h2,
    by rw [upd_ne (ne_of W.h3 W.h1 (by intro z; cases z))]; exact W.h3, by rw [upd_ne (ne_of W.h4 W.h1 (by intro z; cases z))]; exact W.h4,
    by rw [upd_ne (ne_of W.h5 W.h1 (by intro z; cases z))]; exact W.h5, by rw [upd_ne (ne_of hs W.h1 (by intro z; cases z))]; exact hs⟩
end
/-- a walk at wk behind the heap H0: the sides left, its room, how it ended, a bound of all its sizes -/
def WAt (C : Addr) (H0 H : Hp) (wk : Addr) (us left : List Int) (ρ : Rm) (e : V) (b : Nat) : Prop :=
  ∃ (dx ah tk ct sa ra : Addr) (tks cts : List V) (kvs : List (Key × V)) (p q : Nat), WF C H0 H wk dx ah tk ct sa ra us tks cts kvs p q e ∧
    us.drop tks.length = left ∧ tks.length ≤ b ∧ cts.length ≤ b ∧ kvs.length ≤ b ∧ RmIs kvs ρ ∧ p < 2 ^ (105 * (b + 1)) ∧ 0 < q ∧ q < 2 ^ (105 * (b + 1))
theorem pow_mono {b c : Nat} (h : b ≤ c) : 2 ^ (105 * (b + 1)) ≤ 2 ^ (105 * (c + 1)) := Nat.pow_le_pow_right (by decide) (by omega)
theorem WAt.mono {C : Addr} {H0 H : Hp} {wk : Addr} {us left : List Int} {ρ : Rm} {e : V} {b c : Nat} (W : WAt C H0 H wk us left ρ e b) (h : b ≤ c) : WAt C H0 H wk us left ρ e c := by
  obtain ⟨dx, ah, tk, ct, sa, ra, tks, cts, kvs, p, q, F, r0, r1, r2, r3, r4, r5, r6, r7⟩ := W
  exact ⟨dx, ah, tk, ct, sa, ra, tks, cts, kvs, p, q, F, r0, by omega, by omega, by omega, r4, Nat.lt_of_lt_of_le r5 (pow_mono h), r6, Nat.lt_of_lt_of_le r7 (pow_mono h)⟩
theorem WAt.step {C : Addr} {H0 H H' : Hp} {wk : Addr} {us left : List Int} {ρ : Rm} {e : V} {b : Nat} (W : WAt C H0 H wk us left ρ e b) (s : Same H H') : WAt C H0 H' wk us left ρ e b := by
  obtain ⟨dx, ah, tk, ct, sa, ra, tks, cts, kvs, p, q, F, r⟩ := W
  exact ⟨dx, ah, tk, ct, sa, ra, tks, cts, kvs, p, q, F.step s, r⟩
theorem WAt.same {C : Addr} {H0 H : Hp} {wk : Addr} {us left : List Int} {ρ : Rm} {e : V} {b : Nat} (W : WAt C H0 H wk us left ρ e b) : Same H0 H := by
  obtain ⟨dx, ah, tk, ct, sa, ra, tks, cts, kvs, p, q, F, r⟩ := W
  exact F.same
/-- a tuple that begins with the word -/
def EndAt (H : Hp) (v : V) (s : Str) : Prop := ∃ a xs, v = .ref a ∧ H a = some (.tup (.str s :: xs))
/-- what is wanted behind, by how the program's way over the sides left goes -/
def Aft (C cN : Addr) (H0 : Hp) (wk : Addr) (us : List Int) (b : Nat) (Q : VK) (E : XK) : Res → Prop
  | .go ρ l _ => ∀ H', WAt C H0 H' wk us l ρ .non b → Q .non H'
  | .shut _ _ _ => ∀ H' v ρ l, EndAt H' v "shut" → WAt C H0 H' wk us l ρ v b → Q .non H'
  | .opn _ => ∀ H' v ρ l, EndAt H' v "open" → WAt C H0 H' wk us l ρ v b → Q .non H'
  | .bad => ∀ H', Same H0 H' → E (.ref cN) none H'
theorem Aft.mono {C cN : Addr} {H0 : Hp} {wk : Addr} {us : List Int} {b c : Nat} {Q : VK} {E : XK} (h : b ≤ c) : ∀ {r : Res}, Aft C cN H0 wk us c Q E r → Aft C cN H0 wk us b Q E r
  | .go ρ l _, k => fun H' W => k H' (W.mono h)
  | .shut _ _ _, k => fun H' v ρ l e W => k H' v ρ l e (W.mono h)
  | .opn _, k => fun H' v ρ l e W => k H' v ρ l e (W.mono h)
  | .bad, k => k

/-! ### __init__ -/
def spInit (C : Addr) : Sp := fun vs H Q _ => ∃ (H0 : Hp) (p dx ah : Addr) (us : List Int), vs = [.ref p, .ref ah, .bl false] ∧ Same H0 H ∧ H0 p = none ∧ H p = some (.ins C dx []) ∧ H ah = some (.tup (us.map V.int)) ∧
  ∀ H', WAt C H0 H' p us us (fun _ => 0) .non 0 → Q .non H'
theorem scInit : FnScope ["self", "sides", "filling"] ["self", "sides", "filling"] (defScope sInit) := ⟨rfl, rfl, rfl, by decide +kernel, rfl, by decide +kernel, by decide +kernel⟩
theorem ok_init {f C cN : Addr} {fd : FuncData} (F : Fun K "__init__" "Walk.__init__" sInit f fd) (T : Tw K mg C cN) : FnOk P w K mg base CX0 1 f fd ["self", "sides", "filling"] (spInit C) := by
  refine F.ok scInit (fun vs H Q E h => ?_) (fun cdv A outer s H vs Q E hr h => ?_)
  · obtain ⟨H0, p, dx, ah, us, rfl, _⟩ := h
    rfl
  obtain ⟨H0, p, dx, ah, us, rfl, s0, p0, hp, ha, k⟩ := h
  refine ⟨_, pss_cons (ps_fld (pv 0) (pv 1) rfl) (pss_cons (ps_fld (pv 0) (pv 2) rfl) (pss_cons (ps_fld (pv 0) (pe_lst pa_nil) rfl) (pss_cons (ps_fld (pv 0) (pe_lst pa_nil) rfl)
    (pss_cons (ps_fld (pv 0) (pe_tup (pa_cons pe_int (pa_cons pe_int pa_nil))) rfl) (pss_cons (ps_fld (pv 0) pe_dnewK rfl) (pss_one (ps_fld (pv 0) pe_non rfl))))))), ?_⟩
  have npa : p ≠ ah := ne_of hp ha (by intro z; cases z)
  refine ⟨_, rfl, _, rfl, p, C, dx, [], rfl, hp, T.cl, T.n1, (by show 0 < 1000; decide), ?_⟩
  refine ⟨_, rfl, _, rfl, p, C, dx, _, rfl, upd_same, T.cl, T.n2, (by show 1 < 1000; decide), ?_⟩
  rw [upd_upd]
  refine ⟨Nat.zero_le _, fun tk htk => ?_⟩
  have n1 : p ≠ tk := ne_of_none upd_same htk
  refine ⟨_, rfl, p, C, dx, _, rfl, (by rw [upd_ne n1]; exact upd_same), T.cl, T.n3, (by show 2 < 1000; decide), ?_⟩
  refine ⟨Nat.zero_le _, fun ct hct => ?_⟩
  have n2 : p ≠ ct := ne_of_none upd_same hct
  refine ⟨_, rfl, p, C, dx, _, rfl, (by rw [upd_ne n2]; exact upd_same), T.cl, T.n4, (by show 3 < 1000; decide), ?_⟩
  refine ⟨(by show 2 ≤ sizeLine; decide), fun sa hsa => ?_⟩
  have n3 : p ≠ sa := ne_of_none upd_same hsa
  refine ⟨_, rfl, p, C, dx, _, rfl, (by rw [upd_ne n3]; exact upd_same), T.cl, T.n5, (by show 4 < 1000; decide), ?_⟩
  intro ra hra
  have n4 : p ≠ ra := ne_of_none upd_same hra
  refine ⟨_, rfl, p, C, dx, _, rfl, (by rw [upd_ne n4]; exact upd_same), T.cl, T.n6, (by show 5 < 1000; decide), ?_⟩
  refine ⟨_, rfl, p, C, dx, _, rfl, upd_same, T.cl, T.n7, (by show 6 < 1000; decide), ?_⟩
  have e1 : tk ≠ ct := fun z => by
    subst z
    rw [upd_ne n1.symm, upd_same] at hct
    cases hct
  have e2 : tk ≠ sa := fun z => by
    subst z
    rw [upd_ne n1.symm, upd_ne e1, upd_ne n1.symm, upd_same] at hsa
    cases hsa
  have e3 : ct ≠ sa := fun z => by
    subst z
    rw [upd_ne n2.symm, upd_same] at hsa
    cases hsa
  have e4 : tk ≠ ra := fun z => by
    subst z
    rw [upd_ne n1.symm, upd_ne e2, upd_ne n1.symm, upd_ne e1, upd_ne n1.symm, upd_same] at hra
    cases hra
  have e5 : ct ≠ ra := fun z => by
    subst z
    rw [upd_ne n2.symm, upd_ne e3, upd_ne n2.symm, upd_same] at hra
    cases hra
  have e6 : sa ≠ ra := fun z => by
    subst z
    rw [upd_ne n3.symm, upd_same] at hra
    cases hra
  have atk : H tk = none := by rw [upd_ne n1.symm] at htk; exact htk
  have act : H ct = none := by rw [upd_ne n2.symm, upd_ne e1.symm, upd_ne n2.symm] at hct; exact hct
  have ara : H ra = none := by rw [upd_ne n4.symm, upd_ne e6.symm, upd_ne n4.symm, upd_ne e5.symm, upd_ne n4.symm, upd_ne e4.symm, upd_ne n4.symm] at hra; exact hra
  have asa : H sa = none := by rw [upd_ne n3.symm, upd_ne e3.symm, upd_ne n3.symm, upd_ne e2.symm, upd_ne n3.symm] at hsa; exact hsa
  have c1 : ah ≠ tk := ne_of_none ha atk
  have c2 : ah ≠ ct := ne_of_none ha act
  have c3 : ah ≠ sa := ne_of_none ha asa
  have c4 : ah ≠ ra := ne_of_none ha ara
  refine k _ ⟨dx, ah, tk, ct, sa, ra, [], [], [], 1, 1, ⟨?_, p0, s0.free atk, s0.free act, s0.free ara, e1, upd_same, ?_, ?_, ?_, ?_, ?_⟩, rfl, Nat.le_refl _, Nat.le_refl _, Nat.le_refl _, RmIs.nil, by decide, by decide, by decide⟩
  · exact same_own (same_own (same_own (same_own (same_own (same_own (same_own (same_own (same_own (same_own s0 p0) (s0.free atk)) p0) (s0.free act)) p0) (s0.free asa)) p0) (s0.free ara)) p0) p0
  · rw [upd_ne npa.symm, upd_ne npa.symm, upd_ne c4, upd_ne npa.symm, upd_ne c3, upd_ne npa.symm, upd_ne c2, upd_ne npa.symm, upd_ne c1, upd_ne npa.symm]
    exact ha
  · rw [upd_ne n1.symm, upd_ne n1.symm, upd_ne e4, upd_ne n1.symm, upd_ne e2, upd_ne n1.symm, upd_ne e1, upd_ne n1.symm, upd_same]
  · rw [upd_ne n2.symm, upd_ne n2.symm, upd_ne e5, upd_ne n2.symm, upd_ne e3, upd_ne n2.symm, upd_same]
  · rw [upd_ne n4.symm, upd_ne n4.symm, upd_same]
  · rw [upd_ne n3.symm, upd_ne n3.symm, upd_ne e6, upd_ne n3.symm, upd_same]
    rfl
end
end Lot

/-! side_taken -/
namespace Lot
open PySem L2
section
variable {P : Program} {w : World} {K : PySem.W.Frag} {mg : Str → Option Value} {base : Heap}
/-- an exception of a callee goes on -/
abbrev Lets (X : Cx) (E : XK) : Prop := Passes (L2.CX X.prog X.w) X E

def spSide (C cN : Addr) : Sp := fun vs H Q E => ∃ (H0 : Hp) (wk : Addr) (us left : List Int) (ρ : Rm) (b : Nat) (x : Str) (s : V) (sd : Sds), vs = [.ref wk, .str x, s] ∧ WAt C H0 H wk us left ρ .non b ∧ SdAt H0 s sd ∧ SdOk sd ∧ b + 1 ≤ 80 ∧ us.length ≤ 1000 ∧
  Aft C cN H0 wk us (b + 1) Q E (one x sd ρ left)
theorem scSide : FnScope ["self", "name", "sides", "at", "full", "value", "weight"] ["self", "name", "sides"] (defScope sSide) := ⟨rfl, rfl, rfl, by decide +kernel, rfl, by decide +kernel, by decide +kernel⟩
/-- the weights, one by one -/
def wts (sd : Sds) : List Int := sd.map (·.2)
theorem wts_sum : ∀ sd : Sds, (∀ p ∈ sd, InB p.1 ∧ 1 ≤ p.2 ∧ p.2 ≤ big) → (sd.length : Int) ≤ (wts sd).sum ∧ (wts sd).sum ≤ sd.length * big
  | [], _ => ⟨Int.le_refl _, by decide⟩
  | p :: r, h => by
    obtain ⟨h1, h2⟩ := wts_sum r fun q hq => h q (List.mem_cons_of_mem _ hq)
    obtain ⟨_, h3, h4⟩ := h p List.mem_cons_self
    show (((r.length + 1 : Nat)) : Int) ≤ (p.2 :: wts r).sum ∧ (p.2 :: wts r).sum ≤ ((r.length + 1 : Nat) : Int) * big
    rw [List.sum_cons]
    have e : ((r.length + 1 : Nat) : Int) * big = r.length * big + big := by rw [Int.natCast_add, Int.add_mul]; simp
    rw [e]
    omega
theorem wts_lt {sd : Sds} (h : SdOk sd) : ∃ n : Nat, (wts sd).sum = (n : Int) ∧ 0 < n ∧ n < 2 ^ 105 := by
  obtain ⟨h0, h6, hp⟩ := h
  obtain ⟨h1, h2⟩ := wts_sum sd hp
  have h3 : (sd.length : Int) * big ≤ 6 * big := Int.mul_le_mul_of_nonneg_right (by omega) (by decide)
  have h4 : 6 * big < 2 ^ 105 := by decide
  refine ⟨(wts sd).sum.toNat, by omega, by omega, ?_⟩
  have e : ((2 ^ 105 : Nat) : Int) = (2 : Int) ^ 105 := by norm_cast
  omega
theorem sd_item {H : Hp} {vs : List V} {sd : Sds} (h : SdV H vs sd) {i : Nat} (hi : i < sd.length) : ∃ q, vs[i]? = some (V.ref q) ∧ H q = some (.tup [.int (sd[i]).1, .int (sd[i]).2]) :=
  h.2 i _ _ (by rw [List.getElem?_eq_getElem hi])
abbrev nSide : List Str := ["self", "name", "sides", "at", "full", "value", "weight"]
theorem ok_side {f C cN : Addr} {fd : FuncData} (F : Fun K "side_taken" "Walk.side_taken" sSide f fd) (T : Tw K mg C cN) (B : Bl mg) (GT : Cal P w K mg base CX0 3 "times" ["x", "y"] spTimes) (GS : Cal P w K mg base CX0 2 "share" ["a", "b"] spShare) :
    FnOk P w K mg base (L2.CX P w) 4 f fd ["self", "name", "sides"] (spSide C cN) := by
  refine F.okX scSide (fun vs H Q E h => ?_) (fun cdv A outer s H vs Q E hr h => ?_)
  · obtain ⟨H0, wk, us, left, ρ, b, x, sv, sd, rfl, _⟩ := h
    rfl
  obtain ⟨H0, wk, us, left, ρ, b, x, sv, sd, rfl, W, hsd, ok, hb, hus, k⟩ := h
  have hu := hu_of hr
  have hrS : Room 2 _ := hr.mono (by decide)
  refine ⟨_, pss_cons (ps_set (i := 3) scSide.nd rfl (.inl rfl) pe_int)
    (pss_cons (ps_if (pt_cmpR op_lt (pe_callB call_len_seq (by rfl) B.len PySem.boot_len (pa_cons (pe_fld (pv 0) rfl) pa_nil)) (pe_callB call_len_seq (by rfl) B.len PySem.boot_len (pa_cons (pe_fld (pv 0) rfl) pa_nil)) (nomark _))
        (pss_one (ps_set (i := 3) scSide.nd rfl (.inl rfl) (pe_ix ix_tup (pe_fld (pv 0) rfl) (pe_callB call_len_seq (by rfl) B.len PySem.boot_len (pa_cons (pe_fld (pv 0) rfl) pa_nil)) (fun _ _ => rfl))))
        (pss_one (ps_if (pt_not (pt_val (pe_fld (pv 0) rfl)))
          (pss_cons (ps_fld (pv 0) (pe_tup (pa_cons pe_str (pa_cons (pe_callB call_len_seq (by rfl) B.len PySem.boot_len (pa_cons (pv 2) pa_nil)) pa_nil))) rfl) (pss_one ps_retN)) pss_nil)))
    (pss_cons (ps_if (PW.pt (pw_or (pt_cmpR op_lt (pv 3) pe_int (nomark _)) (pw_or1 (pt_cmpR op_ge (pv 3) (pe_callB call_len_seq (by rfl) B.len PySem.boot_len (pa_cons (pv 2) pa_nil)) (nomark _)))))
        (pss_one (ps_raise rfl (takes_of rfl rfl rfl rfl) (pmk_own PySem.F.excBase_ValueError T.xN T.gN T.kN (raises_own T.bN T.tN) rfl))) pss_nil)
    (pss_cons (ps_set (i := 4) scSide.nd rfl (.inl rfl) (pe_callB (cr_sum rfl) (by rfl) B.sum (by decide +kernel) (pa_cons
        (pe_lc (own := [("value", 5), ("weight", 6)]) (g := gTup K 2 (gCons (gName 5) (gCons (gName 6) gNil))) (tt := tYes) rfl scSide.nd (pi_tup (pv 2)) (blkOk_by (own := [("value", 5), ("weight", 6)]) (N := nSide) (sc := defScope sSide) (by decide +kernel))
          (fun _ _ _ _ _ => pg_tup rfl (pgs_cons (pg_name (i := 5) scSide.nd rfl (Or.inl rfl)) (pgs_cons (pg_name (i := 6) scSide.nd rfl (Or.inl rfl)) pgs_nil))) (fun _ _ _ _ _ => pts_nil) (fun _ _ _ _ _ => pv 6)) pa_nil)))
    (pss_cons (ps_expr (pe_bm PySem.F.plainAttrs_list PySem.F.slot_list_append PySem.F.type_list_append mt_append (pe_fld (pv 0) rfl) (pa_cons (pv 3) pa_nil)))
    (pss_cons (ps_expr (pe_bm PySem.F.plainAttrs_list PySem.F.slot_list_append PySem.F.type_list_append mt_append (pe_fld (pv 0) rfl) (pa_cons (pe_callB call_len_seq (by rfl) B.len PySem.boot_len (pa_cons (pv 2) pa_nil)) pa_nil)))
    (pss_cons (ps_fld (pv 0) (pe_cal GT hr rfl pass0 (pa_cons (pe_fld (pv 0) rfl) (pa_cons (pe_cal GS hrS rfl pass0 (pa_cons (pe_ix ix_tup (pe_ix ix_tup (pv 2) (pv 3) (fun _ _ => rfl)) pe_int (fun _ _ => rfl)) (pa_cons (pv 4) pa_nil))) pa_nil))) rfl)
    (pss_one (ps_dput hu (pe_fld (pv 0) rfl) (pv 1) (pe_ix ix_tup (pe_ix ix_tup (pv 2) (pv 3) (fun _ _ => rfl)) pe_int (fun _ _ => rfl)) rfl)))))))), ?_⟩
  obtain ⟨dx, ah, tk, ct, sa, ra, tks, cts, kvs, p, q, W, r0, r1, r2, r3, r4, r5, r6, r7⟩ := W
  obtain ⟨sa', sv', rfl, hS, sV⟩ := hsd
  have hSH : H sa' = some (.tup sv') := W.same _ _ hS
  have hsl : sv'.length = sd.length := sV.1
  -- at = 0; len(self.taken) < len(self.ahead)
  refine ⟨_, rfl, wk, C, dx, _, _, rfl, W.h1, T.cl, T.n3, rfl, tk, _, rfl, .inl (SqL.of W.h3), _, rfl, wk, C, dx, _, _, rfl, W.h1, T.cl, T.n1, rfl, ah, _, rfl, .inr (SqT.of W.h2), _, _, rfl, rfl, _, rfl, ?_⟩
  rw [List.length_map]
  refine if2 (fun c => ?_) (fun c => ?_)
  · -- a side is left
    have hlt : tks.length < us.length := by omega
    have el : left = us[tks.length] :: us.drop (tks.length + 1) := by rw [← r0]; exact List.drop_eq_getElem_cons hlt
    refine ⟨_, rfl, wk, C, dx, _, _, rfl, W.h1, T.cl, T.n1, rfl, _, rfl, wk, C, dx, _, _, rfl, W.h1, T.cl, T.n3, rfl, tk, _, rfl, .inl (SqL.of W.h3), ?_⟩
    refine ⟨ah, _, _, .int us[tks.length], rfl, rfl, SqT.of W.h2, atI_nat (by rw [List.getElem?_map, List.getElem?_eq_getElem hlt]; rfl), ?_⟩
    generalize us[tks.length] = at_ at el
    have eone : one x sd ρ left = if at_ < 0 ∨ (sd.length : Int) ≤ at_ then .bad else .go (put ρ x (sd.getD at_.toNat (0, 0)).1) (us.drop (tks.length + 1)) [some at_] := by rw [el]; rfl
    rw [eone] at k
    refine ⟨_, rfl, _, _, rfl, rfl, _, rfl, ?_⟩
    by_cases c1 : at_ < 0
    · refine ifT (decide_eq_true c1) (ifT rfl ?_)
      rw [if_pos (.inl c1)] at k
      exact k _ W.same
    refine ifF (decide_eq_false c1) ⟨_, rfl, _, rfl, sa', _, rfl, .inr (SqT.of hSH), _, _, rfl, rfl, _, rfl, ?_⟩
    rw [hsl]
    by_cases c2 : at_ ≥ (sd.length : Int)
    · refine ifT (decide_eq_true c2) ?_
      rw [if_pos (.inr c2)] at k
      exact k _ W.same
    refine ifF (decide_eq_false c2) ?_
    rw [if_neg (by omega)] at k
    have hi : at_.toNat < sd.length := by omega
    obtain ⟨sp, es, hsp⟩ := sd_item sV hi
    have ea : atI sv' at_ = some (.ref sp) := at_of (j := at_.toNat) (by omega) es
    -- full = sum(..)
    refine ⟨_, rfl, sa', rfl, ⟨_, SqT.of hSH⟩, fun L hL => ?_⟩
    have back : ∀ {H1 : Hp}, Same H (upd H1 L (.lst [])) → Same H H1 := fun {H1} g b o z => by
      have y := g b o z
      rw [upd_ne (ne_of_none z hL)] at y
      exact y
    refine lc_tup (K := K) (a := sa') (xs := sv') (fun i H1 => Same H (upd H1 L (.lst [])) ∧ H1 L = some (.lst (((wts sd).take i).map V.int)))
      ⟨by rw [upd_upd]; exact same_new hL _, upd_same⟩ (fun i H1 _ h => SqT.of (back h.1 _ _ hSH)) ?_ ?_
    · rintro i y H1 hy ⟨g1, g2⟩
      have hi1 : i < sd.length := by rw [← hsl]; exact (List.getElem?_eq_some_iff.mp hy).1
      obtain ⟨q1, e1, hq1⟩ := sd_item sV hi1
      rw [e1] at hy
      cases hy
      refine ⟨q1, _, rfl, SqT.of (back g1 _ _ (W.same _ _ hq1)), rfl, _, _, rfl, _, _, rfl, rfl, rfl, ?_⟩
      rw [show tYes = fun (_ : St) H (Q : Bool → Hp → Prop) => Q true H from rfl]
      refine ifT rfl ⟨_, rfl, _, g2, ?_, ?_, ?_⟩
      · rw [List.length_map, List.length_take]
        unfold wts
        rw [List.length_map]
        exact small1000 (by have := ok.2.1; omega)
      · rw [upd_upd]
        exact g1
      · rw [upd_same, List.take_add_one, List.map_append]
        unfold wts
        rw [List.getElem?_map, List.getElem?_eq_getElem hi1]
        rfl
    · rintro H1 ⟨g1, g2⟩
      have s1 := back g1
      have W1 := W.step s1
      have lw : (wts sd).length = sd.length := by unfold wts; rw [List.length_map]
      rw [hsl, ← lw, List.take_length] at g2
      refine ⟨L, wts sd, rfl, SqL.of g2, ?_⟩
      obtain ⟨full, efull, hf0, hf1⟩ := wts_lt ok
      rw [efull]
      -- self.taken.append(at)
      refine ⟨_, rfl, wk, C, dx, _, _, rfl, W1.h1, T.cl, T.n3, rfl, .inl ⟨rfl, _, SqL.of W1.h3⟩, _, rfl, tk, _, _, rfl, rfl, W1.h3, small1000 (by omega), ?_⟩
      have W2 := W1.taken (tks ++ [.int at_])
      have hS2 := W2.same _ _ hS
      -- self.counts.append(len(sides))
      refine ⟨_, rfl, wk, C, dx, _, _, rfl, W2.h1, T.cl, T.n4, rfl, .inl ⟨rfl, _, SqL.of W2.h4⟩, _, rfl, sa', _, rfl, .inr (SqT.of hS2), ct, _, _, rfl, rfl, W2.h4, small1000 (by omega), ?_⟩
      have W3 := W2.counts (cts ++ [.int (sv'.length : Int)])
      have hS3 := W3.same _ _ hS
      have hsp3 := W3.same _ _ hsp
      have osp := ok.2.2 (sd[at_.toNat]) (List.getElem_mem hi)
      obtain ⟨wn, ewn⟩ : ∃ n : Nat, sd[at_.toNat].2 = (n : Int) := ⟨sd[at_.toNat].2.toNat, by have := osp.2.1; omega⟩
      have hwn : wn < 2 ^ 105 := by
        have h1 : (wn : Int) ≤ big := by rw [← ewn]; exact osp.2.2
        have h2 : big < ((2 ^ 105 : Nat) : Int) := by decide
        omega
      -- self.sure = times(self.sure, share(sides[at][1], full))
      refine ⟨_, rfl, wk, C, dx, _, _, rfl, W3.h1, T.cl, T.n5, rfl, _, rfl, _, rfl, sa', _, _, _, rfl, rfl, SqT.of hS3, ea, sp, _, _, _, rfl, rfl, SqT.of hsp3, rfl, _, rfl, wn, full, by rw [ewn]; rfl, hf0, ?_, fun H4 pa xa ya g4 e4 b1 b2 b3 => ?_⟩
      · exact Nat.lt_of_lt_of_le hf1 (Nat.pow_le_pow_right (by decide) (by decide))
      have W4 := W3.step g4
      refine ⟨sa, pa, p, q, xa, ya, 105 * (b + 1), 105, rfl, W4.h6, e4, r5, r6, r7, Nat.lt_of_le_of_lt b1 hwn, b2, Nat.lt_of_le_of_lt b3 hf1, by omega, by decide, by omega, fun H5 sn pn qn g5 e5 b4 b5 b6 => ?_⟩
      have W5 := W4.step g5
      refine ⟨_, rfl, wk, C, dx, _, rfl, W5.h1, T.cl, T.n5, (by show 7 < 1000; decide), ?_⟩
      have W6 : WF C H0 _ wk dx ah tk ct sn ra us _ _ kvs pn qn .non := W5.fld (e' := .non) e5
      have hS6 := W6.same _ _ hS
      have hsp6 := W6.same _ _ hsp
      -- self.room[name] = sides[at][0]
      refine ⟨_, rfl, _, rfl, sa', _, _, _, rfl, rfl, SqT.of hS6, ea, sp, _, _, _, rfl, rfl, SqT.of hsp6, rfl, _, rfl, wk, C, dx, _, _, rfl, W6.h1, T.cl, T.n6, rfl, _, rfl, ra, _, rfl, DPut.k (k := Sum.inr x) W6.h5 (small1000 (by omega)), ?_⟩
      have W7 := W6.room (putK kvs (Sum.inr x) (.int sd[at_.toNat].1))
      have esd : sd.getD at_.toNat (0, 0) = sd[at_.toNat] := by rw [List.getD_eq_getElem?_getD, List.getElem?_eq_getElem hi]; rfl
      rw [esd] at k
      refine k _ ⟨dx, ah, tk, ct, sn, ra, _, _, _, pn, qn, W7, ?_, ?_, ?_, ?_, r4.put x _, ?_, b5, ?_⟩
      · rw [List.length_append]; rfl
      · rw [List.length_append, List.length_singleton]; omega
      · rw [List.length_append, List.length_singleton]; omega
      · exact Nat.le_trans putK_len1 (by omega)
      · exact Nat.lt_of_lt_of_le b4 (Nat.pow_le_pow_right (by decide) (by omega))
      · exact Nat.lt_of_lt_of_le b6 (Nat.pow_le_pow_right (by decide) (by omega))
  · -- no side is left
    have hge : us.length ≤ tks.length := by omega
    have el : left = [] := by rw [← r0]; exact List.drop_eq_nil_of_le hge
    rw [el] at k
    refine ⟨_, rfl, wk, C, dx, _, _, rfl, W.h1, T.cl, T.n2, rfl, false, rfl, ?_⟩
    refine ifT rfl ⟨_, rfl, sa', _, rfl, .inr (SqT.of hSH), (by show 2 ≤ sizeLine; decide), fun z hz => ?_⟩
    have W1 := W.step (same_new hz (.tup [.str "open", .int (sv'.length : Int)]))
    refine ⟨_, rfl, wk, C, dx, _, rfl, W1.h1, T.cl, T.n7, (by show 7 < 1000; decide), ?_⟩
    have W2 : WF C H0 _ wk dx ah tk ct sa ra us tks cts kvs p q (.ref z) := W1.fld (e' := .ref z) W1.h6
    have nz : z ≠ wk := ne_of upd_same W1.h1 (by intro y; cases y)
    refine k _ (.ref z) ρ [] ⟨z, [.int (sv'.length : Int)], rfl, ?_⟩ ⟨dx, ah, tk, ct, sa, ra, _, _, _, p, q, W2, by rw [r0, el], by omega, by omega, by omega, r4, Nat.lt_of_lt_of_le r5 (pow_mono (by omega)), r6, Nat.lt_of_lt_of_le r7 (pow_mono (by omega))⟩
    rw [upd_ne nz, upd_same]
end
end Lot

/-! row_gone, rows_gone -/
namespace Lot
open PySem L2

/-! ### rows: the first one, the others -/
def hd : Rws → Rws
  | .nil => .nil
  | .draw x sd _ => .draw x sd .nil
  | .sset x t _ => .sset x t .nil
  | .see t _ => .see t .nil
  | .ite t a b _ => .ite t a b .nil
  | .rep n a _ => .rep n a .nil
def tl : Rws → Rws
  | .nil => .nil
  | .draw _ _ r => r
  | .sset _ _ r => r
  | .see _ r => r
  | .ite _ _ _ r => r
  | .rep _ _ r => r
theorem wl_hd (r : Rws) : wl r = wl (hd r) + wl (tl r) := by
  cases r <;> simp [wl, hd, tl]
theorem lev_hd (r : Rws) : lev (hd r) ≤ lev r ∧ lev (tl r) ≤ lev r := by
  cases r <;> simp only [lev, hd, tl] <;> omega
theorem RwOk_hd {r : Rws} (h : RwOk r) : RwOk (hd r) ∧ RwOk (tl r) := by
  cases r with
  | nil => exact ⟨trivial, trivial⟩
  | draw x sd r => exact ⟨⟨h.1, trivial⟩, h.2⟩
  | sset x t r => exact ⟨⟨h.1, h.2.1, trivial⟩, h.2.2⟩
  | see t r => exact ⟨⟨h.1, h.2.1, trivial⟩, h.2.2⟩
  | ite t a b r => exact ⟨⟨h.1, h.2.1, h.2.2.1, h.2.2.2.1, trivial⟩, h.2.2.2.2⟩
  | rep n a r => exact ⟨⟨h.1, h.2.1, trivial⟩, h.2.2⟩
theorem ugo_nil : ugo .nil = fun ρ l => .go ρ l [] := rfl
theorem bnd_nil (r : Res) : r.bnd (ugo .nil) = r := by rw [ugo_nil, Res.bnd_go]
theorem ugo_hd (r : Rws) (ρ : Rm) (l : List Int) : ugo r ρ l = (ugo (hd r) ρ l).bnd (ugo (tl r)) := by
  cases r with
  | nil => rfl
  | draw x sd r => show (one x sd ρ l).bnd (ugo r) = ((one x sd ρ l).bnd (ugo .nil)).bnd (ugo r); rw [bnd_nil]
  | sset x t r => show ugo r _ l = (Res.go _ l []).bnd (ugo r); exact (Res.pre_nil _).symm
  | see t r =>
    show (if wor ρ t = 0 then Res.shut ρ l [] else ugo r ρ l) = (if wor ρ t = 0 then Res.shut ρ l [] else Res.go ρ l []).bnd (ugo r)
    by_cases c : wor ρ t = 0
    · rw [if_pos c, if_pos c]; rfl
    · rw [if_neg c, if_neg c]; exact (Res.pre_nil _).symm
  | ite t a b r => show Res.bnd _ (ugo r) = (Res.bnd _ (ugo .nil)).bnd (ugo r); rw [bnd_nil]
  | rep n a r => show Res.bnd _ (ugo r) = (Res.bnd _ (ugo .nil)).bnd (ugo r); rw [bnd_nil]
theorem RwsAt.cons {H : Hp} {v : V} {vs : List V} {r : Rws} (h : RwsAt H (v :: vs) r) : ∃ a : Addr, v = .ref a ∧ RwsAt H [.ref a] (hd r) ∧ RwsAt H vs (tl r) := by
  cases r with
  | nil => cases (show v :: vs = [] from h)
  | draw x sd r =>
    obtain ⟨a, s, vs', e, h1, h2, h3⟩ := h
    cases e
    exact ⟨a, rfl, ⟨a, s, [], rfl, h1, h2, rfl⟩, h3⟩
  | sset x t r =>
    obtain ⟨a, s, vs', e, h1, h2, h3⟩ := h
    cases e
    exact ⟨a, rfl, ⟨a, s, [], rfl, h1, h2, rfl⟩, h3⟩
  | see t r =>
    obtain ⟨a, s, vs', e, h1, h2, h3⟩ := h
    cases e
    exact ⟨a, rfl, ⟨a, s, [], rfl, h1, h2, rfl⟩, h3⟩
  | ite t p q r =>
    obtain ⟨a, b, pa, pv, qa, qv, vs', e, h1, h2, h3, h4, h5, h6, h7⟩ := h
    cases e
    exact ⟨a, rfl, ⟨a, b, pa, pv, qa, qv, [], rfl, h1, h2, h3, h4, h5, h6, rfl⟩, h7⟩
  | rep n p r =>
    obtain ⟨a, pa, pv, vs', e, h1, h2, h3, h4⟩ := h
    cases e
    exact ⟨a, rfl, ⟨a, pa, pv, [], rfl, h1, h2, h3, rfl⟩, h4⟩
theorem RwsAt.none {H : Hp} {r : Rws} (h : RwsAt H [] r) : r = .nil := by
  cases r with
  | nil => rfl
  | draw x sd r => obtain ⟨a, s, vs', e, _⟩ := h; cases e
  | sset x t r => obtain ⟨a, s, vs', e, _⟩ := h; cases e
  | see t r => obtain ⟨a, s, vs', e, _⟩ := h; cases e
  | ite t p q r => obtain ⟨a, b, pa, pv, qa, qv, vs', e, _⟩ := h; cases e
  | rep n p r => obtain ⟨a, pa, pv, vs', e, _⟩ := h; cases e
/-- the room stays within bounds -/
def Gd : Res → Prop
  | .go ρ _ _ => RmB ρ
  | .shut ρ _ _ => RmB ρ
  | .opn _ => True
  | .bad => True
theorem Gd.pre {o : List (Option Int)} : ∀ {r : Res}, Gd r → Gd (r.pre o)
  | .go _ _ _, h => h
  | .shut _ _ _, h => h
  | .opn _, h => h
  | .bad, h => h
theorem Gd.bnd {r : Res} {f : Rm → List Int → Res} (h : Gd r) (k : ∀ ρ l, RmB ρ → Gd (f ρ l)) : Gd (r.bnd f) := by
  cases r with
  | go ρ l o => exact (k ρ l h).pre
  | shut ρ l o => exact h
  | opn m => exact h
  | bad => exact h
theorem gd_many {f : Rm → List Int → Res} (k : ∀ ρ l, RmB ρ → Gd (f ρ l)) : ∀ (n : Nat) (ρ : Rm) (l : List Int), RmB ρ → Gd (many f n ρ l)
  | 0, ρ, l, h => h
  | n + 1, ρ, l, h => (k ρ l h).bnd fun ρ' l' h' => gd_many k n ρ' l' h'
theorem gd_one {x : Str} {sd : Sds} (ok : SdOk sd) {ρ : Rm} (h : RmB ρ) : ∀ l, Gd (one x sd ρ l)
  | [] => trivial
  | s :: l => by
    show Gd (if s < 0 ∨ (sd.length : Int) ≤ s then .bad else .go (put ρ x (sd.getD s.toNat (0, 0)).1) l [some s])
    by_cases c : s < 0 ∨ (sd.length : Int) ≤ s
    · rw [if_pos c]; trivial
    · rw [if_neg c]
      have hi : s.toNat < sd.length := by omega
      refine h.put ?_
      rw [List.getD_eq_getElem?_getD, List.getElem?_eq_getElem hi]
      exact (ok.2.2 _ (List.getElem_mem hi)).1
theorem gd : ∀ (r : Rws) (ρ : Rm) (l : List Int), RwOk r → RmB ρ → Gd (ugo r ρ l)
  | .nil, ρ, l, _, h => h
  | .draw x sd r, ρ, l, k, h => (gd_one k.1 h l).bnd fun ρ' l' h' => gd r ρ' l' k.2 h'
  | .sset x t r, ρ, l, k, h => gd r _ l k.2.2 (h.put (wor_in h t k.1))
  | .see t r, ρ, l, k, h => by
    show Gd (if wor ρ t = 0 then Res.shut ρ l [] else ugo r ρ l)
    by_cases c : wor ρ t = 0
    · rw [if_pos c]; exact h
    · rw [if_neg c]; exact gd r ρ l k.2.2 h
  | .ite t a b r, ρ, l, k, h => by
    refine Gd.bnd ?_ fun ρ' l' h' => gd r ρ' l' k.2.2.2.2 h'
    by_cases c : wor ρ t = 0
    · rw [if_pos c]; exact (gd b ρ l k.2.2.2.1 h).pre
    · rw [if_neg c]; exact (gd a ρ l k.2.2.1 h).bnd fun _ _ h' => h'
  | .rep n a r, ρ, l, k, h => (gd_many (fun ρ l h => gd a ρ l k.2.1 h) n ρ l h).bnd fun ρ' l' h' => gd r ρ' l' k.2.2 h'
theorem many_nil : ∀ (n : Nat) (ρ : Rm) (l : List Int), many (ugo .nil) n ρ l = .go ρ l []
  | 0, _, _ => rfl
  | n + 1, ρ, l => by
    show (Res.go ρ l []).bnd (many (ugo .nil) n) = _
    show (many (ugo .nil) n ρ l).pre [] = _
    rw [many_nil n, Res.pre_nil]

section
variable {C cN : Addr} {H0 : Hp} {wk : Addr} {us : List Int} {b c : Nat} {Q Q' : VK} {E : XK}
theorem Aft.pre {o : List (Option Int)} : ∀ {r : Res}, Aft C cN H0 wk us b Q E (r.pre o) ↔ Aft C cN H0 wk us b Q E r
  | .go _ _ _ => Iff.rfl
  | .shut _ _ _ => Iff.rfl
  | .opn _ => Iff.rfl
  | .bad => Iff.rfl
theorem Aft.bgo {o : List (Option Int)} : ∀ {r : Res}, Aft C cN H0 wk us b Q E (r.bnd fun ρ l => .go ρ l o) ↔ Aft C cN H0 wk us b Q E r
  | .go _ _ _ => Iff.rfl
  | .shut _ _ _ => Iff.rfl
  | .opn _ => Iff.rfl
  | .bad => Iff.rfl
theorem Aft.split {r : Res} {g : Rm → List Int → Res} (h : Aft C cN H0 wk us c Q E (r.bnd g)) (hb : b ≤ c)
    (hgo : ∀ ρ l o, r = .go ρ l o → Aft C cN H0 wk us c Q E (g ρ l) → ∀ H', WAt C H0 H' wk us l ρ .non b → Q' .non H')
    (hend : ∀ H' v ρ l, v ≠ .non → WAt C H0 H' wk us l ρ v b → Q .non H' → Q' .non H') : Aft C cN H0 wk us b Q' E r := by
  have nn : ∀ {H : Hp} {v : V} {s : Str}, EndAt H v s → v ≠ .non := fun {H v s} ⟨a, xs, e, _⟩ z => by rw [e] at z; cases z
  cases r with
  | go ρ l o => exact fun H' W => hgo ρ l o rfl (Aft.pre.mp h) H' W
  | shut ρ l o => exact fun H' v ρ' l' e W => hend H' v ρ' l' (nn e) W (h H' v ρ' l' e (W.mono hb))
  | opn m => exact fun H' v ρ' l' e W => hend H' v ρ' l' (nn e) W (h H' v ρ' l' e (W.mono hb))
  | bad => exact h
end

/-! ### row[2] != () -/
def rNeNil (K : PySem.W.Frag) : R2 := fun x y H Q => ∃ a b xs, x = .ref a ∧ y = .ref b ∧ SqT K H a xs ∧ SqT K H b [] ∧ Q (.bl (!xs.isEmpty)) H
theorem op_neNil {X : Cx} (hu : X.A.units < cLine) : OpR X (compareOp .NotEq) (rNeNil X.K) := by
  intro pins s σ H x y v u Q I rx ry h
  obtain ⟨a, b, xs, rfl, rfl, ha, hb, q⟩ := h
  cases rx
  cases ry
  obtain ⟨its, r1, p1, _⟩ := I.tuple ha
  obtain ⟨its2, r2, p2, _⟩ := I.tuple hb
  cases r2
  have n := PySem.SeqAt.RcNeAt.tuples (A := X.A) (s := s) (l := a) (b := b) (items := its.toArray) (items2 := ([] : List Value).toArray) (e := fun _ => true) p1 p2 hu (fun j h1 h2 => absurd h2 (by simp))
  refine n X.prog X.w X.xe _ ⟨.bl (!xs.isEmpty), H, I, ?_, q⟩
  have e : xs.length = its.length := r1.length
  have e2 : (its.length == 0) = xs.isEmpty := by rw [← e]; cases xs <;> rfl
  show Value.bool _ = Value.bool _
  congr 1
  have h0 : min its.toArray.size ([] : List Value).toArray.size = 0 := by simp
  rw [h0]
  show (!(true && (its.toArray.size == ([] : List Value).toArray.size))) = !xs.isEmpty
  rw [← e2]
  simp

section
variable {P : Program} {w : World} {K : PySem.W.Frag} {mg : Str → Option Value} {base : Heap}
abbrev sRow : Stmt := top 18
abbrev sRows : Stmt := top 19
def spRow (C cN : Addr) (j : Nat) : Sp := fun vs H Q E => ∃ (H0 : Hp) (wk : Addr) (us : List Int) (a : Addr) (q : Rws) (b Bd : Nat) (left : List Int) (ρ : Rm), vs = [.ref wk, .ref a] ∧ RwsAt H0 [.ref a] q ∧ q ≠ .nil ∧ RwOk q ∧ lev q ≤ j ∧ RmB ρ ∧
  WAt C H0 H wk us left ρ .non b ∧ b + wl q ≤ Bd ∧ Bd ≤ 79 ∧ us.length ≤ 1000 ∧ Aft C cN H0 wk us Bd Q E (ugo q ρ left)
def spRows (C cN : Addr) (j : Nat) : Sp := fun vs H Q E => ∃ (H0 : Hp) (wk : Addr) (us : List Int) (pr : Addr) (vs0 : List V) (b : Nat) (left : List Int) (ρ : Rm), vs = [.ref wk, .ref pr] ∧ H0 pr = some (.tup vs0) ∧ 0 < j ∧
  ((∃ (r : Rws) (Bd : Nat), RwsAt H0 vs0 r ∧ RwOk r ∧ lev r < j ∧ RmB ρ ∧ WAt C H0 H wk us left ρ .non b ∧ b + wl r ≤ Bd ∧ Bd ≤ 79 ∧ us.length ≤ 1000 ∧ Aft C cN H0 wk us Bd Q E (ugo r ρ left)) ∨
   (∃ v, v ≠ .non ∧ WAt C H0 H wk us left ρ v b ∧ Q .non H))
theorem scRows : FnScope ["walk", "rows", "row"] ["walk", "rows"] (defScope sRows) := ⟨rfl, rfl, rfl, by decide +kernel, rfl, by decide +kernel, by decide +kernel⟩
theorem notN {v : V} (h : v ≠ .non) : (!decide (v = V.non)) = true := by rw [decide_eq_false h]; rfl
theorem ok_rows1 {f C cN : Addr} {fd : FuncData} {j k : Nat} (D : Df K mg "rows_gone" sRows ["walk", "rows"] f fd) (T : Tw K mg C cN) (GR : Cal P w K mg base (L2.CX P w) k "row_gone" ["walk", "row"] (spRow C cN j)) :
    Cal P w K mg base (L2.CX P w) (k + 1) "rows_gone" ["walk", "rows"] (spRows C cN (j + 1)) := by
  refine D.cal (D.fn.okX scRows (fun vs H Q E h => ?_) (fun cdv A outer s H vs Q E hr h => ?_))
  · obtain ⟨H0, wk, us, pr, vs0, b, left, ρ, rfl, _⟩ := h
    rfl
  obtain ⟨H0, wk, us, pr, vs0, b, left, ρ, rfl, hp, _, h⟩ := h
  refine ⟨_, pss_one (ps_for (passes_of rfl) rfl (pi_tup (pv 1)) (pg_name (i := 2) scRows.nd rfl (.inl rfl))
    (pss_cons (ps_if (pt_cmp (pc_notN (pe_fld (pv 0) rfl))) (pss_one ps_retN) pss_nil)
    (pss_one (ps_expr (pe_cal GR hr rfl (passes_call (takes_of rfl rfl rfl rfl) (fun _ _ _ _ h => h)) (pa_cons (pv 0) (pa_cons (pv 2) pa_nil))))))), ?_⟩
  have hs0 : Same H0 H := by
    rcases h with ⟨_, _, _, _, _, _, W, _⟩ | ⟨_, _, W, _⟩
    · exact W.same
    · exact W.same
  refine ⟨_, rfl, pr, rfl, ⟨_, SqT.of (hs0 _ _ hp)⟩, ?_⟩
  refine for_tup (K := K) (a := pr) (xs := vs0) (fun i σ H' => (∃ o, σ = [some (.ref wk), some (.ref pr), o]) ∧
      ((∃ (r : Rws) (Bd b : Nat) (left : List Int) (ρ : Rm), RwsAt H0 (vs0.drop i) r ∧ RwOk r ∧ lev r < j + 1 ∧ RmB ρ ∧ WAt C H0 H' wk us left ρ .non b ∧ b + wl r ≤ Bd ∧ Bd ≤ 79 ∧ us.length ≤ 1000 ∧ Aft C cN H0 wk us Bd Q E (ugo r ρ left)) ∨
       (∃ v b left ρ, v ≠ .non ∧ WAt C H0 H' wk us left ρ v b ∧ Q .non H'))) ?_ ?_ ?_ ?_
  · refine ⟨⟨_, rfl⟩, ?_⟩
    rcases h with ⟨r, Bd, h1, h2, h3, h4, W, h5, h6, h7, h8⟩ | ⟨v, h1, W, q⟩
    · exact .inl ⟨r, Bd, b, left, ρ, h1, h2, h3, h4, W, h5, h6, h7, h8⟩
    · exact .inr ⟨v, b, left, ρ, h1, W, q⟩
  · rintro i σ H' _ ⟨_, ⟨_, _, _, _, _, _, _, _, _, W, _⟩ | ⟨_, _, _, _, _, W, _⟩⟩
    · exact SqT.of (W.same _ _ hp)
    · exact SqT.of (W.same _ _ hp)
  · rintro i y σ H' hy ⟨⟨o, rfl⟩, m⟩
    rcases m with ⟨r, Bd, b', left', ρ', h1, h2, h3, h4, W, h5, h6, h7, h8⟩ | ⟨v, b', left', ρ', nv, W, q⟩
    · obtain ⟨dx, ah, tk, ct, sa, ra, tks, cts, kvs, p, q, F, rst⟩ := id W
      refine ⟨_, rfl, wk, C, dx, _, _, rfl, F.h1, T.cl, T.n7, rfl, _, rfl, ifF (by decide) ?_⟩
      have hi : i < vs0.length := (List.getElem?_eq_some_iff.mp hy).1
      have ed : vs0.drop i = y :: vs0.drop (i + 1) := by
        rw [List.drop_eq_getElem_cons hi]
        rw [List.getElem?_eq_getElem hi] at hy
        rw [Option.some.inj hy]
      rw [ed] at h1
      obtain ⟨a, ey, h10, h11⟩ := h1.cons
      subst ey
      have hw := wl_hd r
      have hl := lev_hd r
      have nn : hd r ≠ .nil := fun z => by
        rw [z] at h10
        cases (show [V.ref a] = [] from h10)
      rw [ugo_hd] at h8
      refine ⟨_, rfl, _, rfl, H0, wk, us, a, hd r, b', b' + wl (hd r), left', ρ', rfl, h10, nn, (RwOk_hd h2).1, by omega, h4, W, Nat.le_refl _, by omega, h7, ?_⟩
      have g0 := gd (hd r) ρ' left' (RwOk_hd h2).1 h4
      refine Aft.split h8 (by omega) (fun ρ1 l1 o1 e1 h9 H1 W1 => ?_) (fun H1 v ρ1 l1 nv W1 q => ?_)
      · rw [e1] at g0
        exact ⟨⟨_, rfl⟩, .inl ⟨tl r, Bd, _, l1, ρ1, h11, (RwOk_hd h2).2, by omega, g0, W1, by omega, h6, h7, h9⟩⟩
      · exact ⟨⟨_, rfl⟩, .inr ⟨v, _, l1, ρ1, nv, W1, q⟩⟩
    · obtain ⟨dx, ah, tk, ct, sa, ra, tks, cts, kvs, p, qq, F, rst⟩ := id W
      exact ⟨_, rfl, wk, C, dx, _, _, rfl, F.h1, T.cl, T.n7, rfl, _, rfl, ifT (notN nv) q⟩
  · rintro σ H' ⟨⟨o, rfl⟩, m⟩
    rcases m with ⟨r, Bd, b', left', ρ', h1, h2, h3, h4, W, h5, h6, h7, h8⟩ | ⟨v, b', left', ρ', nv, W, q⟩
    · rw [List.drop_length] at h1
      cases h1.none
      exact h8 _ (W.mono (by omega))
    · exact q

theorem scRow : FnScope ["walk", "row", "k"] ["walk", "row"] (defScope sRow) := ⟨rfl, rfl, rfl, by decide +kernel, rfl, by decide +kernel, by decide +kernel⟩
theorem ok_row1 {f C cN fS : Addr} {fd fdS : FuncData} {j k : Nat} (D : Df K mg "row_gone" sRow ["walk", "row"] f fd) (T : Tw K mg C cN) (B : Bl mg) (mS : Meth K C "side_taken" fS) (bS : Binds K fdS ["self", "name", "sides"] [])
    (GS : FnOk P w K mg base (L2.CX P w) 4 fS fdS ["self", "name", "sides"] (spSide C cN)) (GW : Cal P w K mg base CX0 7 "worth" ["term", "room"] (spWorth 4)) (hk : 7 ≤ k)
    (GR : Cal P w K mg base (L2.CX P w) k "rows_gone" ["walk", "rows"] (spRows C cN j)) :
    Cal P w K mg base (L2.CX P w) (k + 1) "row_gone" ["walk", "row"] (spRow C cN j) := by
  refine D.cal (D.fn.okX scRow (fun vs H Q E h => ?_) (fun cdv A outer s H vs Q E hr h => ?_))
  · obtain ⟨H0, wk, us, a, q, b, Bd, left, ρ, rfl, _⟩ := h
    rfl
  obtain ⟨H0, wk, us, a, q, b, Bd, left, ρ, rfl, hq, nq, ok, hl, hB, W, hb, hBd, hus, k8⟩ := h
  have hu := hu_of hr
  have hr4 : Room 4 _ := hr.mono (show 4 ≤ k by omega)
  have hr7 : Room 7 _ := hr.mono hk
  refine ⟨_, pss_one (ps_if (pt_cmpR op_eq (pe_ix ix_tup (pv 1) pe_int (fun _ _ => rfl)) pe_str (nomark _))
      (pss_one (ps_expr (pe_meth (pv 0) T.cl mS GS hr4 bS .nil (passes_call (takes_of rfl rfl rfl rfl) (fun _ _ _ _ h => h)) (pa_cons (pe_ix ix_tup (pv 1) pe_int (fun _ _ => rfl)) (pa_cons (pe_ix ix_tup (pv 1) pe_int (fun _ _ => rfl)) pa_nil)))))
    (pss_one (ps_if (pt_cmpR op_eq (pe_ix ix_tup (pv 1) pe_int (fun _ _ => rfl)) pe_str (nomark _))
      (pss_one (ps_dput hu (pe_fld (pv 0) rfl) (pe_ix ix_tup (pv 1) pe_int (fun _ _ => rfl)) (pe_cal GW hr7 rfl pass0 (pa_cons (pe_ix ix_tup (pv 1) pe_int (fun _ _ => rfl)) (pa_cons (pe_fld (pv 0) rfl) pa_nil))) rfl))
    (pss_one (ps_if (pt_cmpR op_eq (pe_ix ix_tup (pv 1) pe_int (fun _ _ => rfl)) pe_str (nomark _))
      (pss_one (ps_if (pt_cmpR op_eq (pe_cal GW hr7 rfl pass0 (pa_cons (pe_ix ix_tup (pv 1) pe_int (fun _ _ => rfl)) (pa_cons (pe_fld (pv 0) rfl) pa_nil))) pe_int (nomark _))
        (pss_one (ps_fld (pv 0) (pe_tup (pa_cons pe_str (pa_cons (pe_callB call_len_seq (by rfl) B.len PySem.boot_len (pa_cons (pe_fld (pv 0) rfl) pa_nil)) (pa_cons (pe_fld (pv 0) rfl) pa_nil)))) rfl)) pss_nil))
    (pss_one (ps_if (pt_cmpR op_eq (pe_ix ix_tup (pv 1) pe_int (fun _ _ => rfl)) pe_str (nomark _))
      (pss_one (ps_if (pt_cmpR op_ne (pe_cal GW hr7 rfl pass0 (pa_cons (pe_ix ix_tup (pv 1) pe_int (fun _ _ => rfl)) (pa_cons (pe_fld (pv 0) rfl) pa_nil))) pe_int (nomark _))
        (pss_one (ps_expr (pe_cal GR hr rfl (passes_call (takes_of rfl rfl rfl rfl) (fun _ _ _ _ h => h)) (pa_cons (pv 0) (pa_cons (pe_ix ix_tup (pv 1) pe_int (fun _ _ => rfl)) pa_nil)))))
        (pss_one (ps_expr (pe_cal GR hr rfl (passes_call (takes_of rfl rfl rfl rfl) (fun _ _ _ _ h => h)) (pa_cons (pv 0) (pa_cons (pe_ix ix_tup (pv 1) pe_int (fun _ _ => rfl)) pa_nil)))))))
    (pss_one (ps_if (pt_cmpR (op_neNil hr.units0) (pe_ix ix_tup (pv 1) pe_int (fun _ _ => rfl)) (pe_tup pa_nil) (nomark _))
      (pss_one (ps_for (passes_of rfl) rfl (pi_range1 (by rfl) B.range (pa_cons (pe_ix ix_tup (pv 1) pe_int (fun _ _ => rfl)) pa_nil)) (pg_name (i := 2) scRow.nd rfl (.inl rfl))
        (pss_one (ps_expr (pe_cal GR hr rfl (passes_call (takes_of rfl rfl rfl rfl) (fun _ _ _ _ h => h)) (pa_cons (pv 0) (pa_cons (pe_ix ix_tup (pv 1) pe_int (fun _ _ => rfl)) pa_nil)))))))
      pss_nil))))))))), ?_⟩
  obtain ⟨dx, ah, tk, ct, sa, ra, tks, cts, kvs, p, qd, F, r0, r1, r2, r3, r4, r5, r6, r7⟩ := id W
  have s0 := W.same
  cases q with
  | nil => exact absurd rfl nq
  | draw x sd r =>
    obtain ⟨a', sv, vs', e, h1, h2, h3⟩ := hq
    cases e
    cases h3.none
    have h1H := s0 _ _ h1
    have hw : b + 1 ≤ Bd := by simp only [wl] at hb; omega
    refine ⟨_, rfl, a, _, _, _, rfl, rfl, SqT.of h1H, rfl, rfl, _, rfl, ifT (by decide +kernel) ?_⟩
    refine ⟨_, rfl, wk, dx, _, rfl, F.h1, rfl, _, rfl, a, _, _, _, rfl, rfl, SqT.of h1H, rfl, _, rfl, a, _, _, _, rfl, rfl, SqT.of h1H, rfl, H0, wk, us, left, ρ, b, x, sv, sd, rfl, W, h2, ok.1, by omega, hus, ?_⟩
    have k9 : Aft C cN H0 wk us Bd Q E ((one x sd ρ left).bnd (ugo .nil)) := k8
    rw [bnd_nil] at k9
    exact k9.mono hw
  | sset x t r =>
    obtain ⟨a', tv, vs', e, h1, h2, h3⟩ := hq
    cases e
    cases h3.none
    have h1H := s0 _ _ h1
    have hw : b + 1 ≤ Bd := by simp only [wl] at hb; omega
    refine ⟨_, rfl, a, _, _, _, rfl, rfl, SqT.of h1H, rfl, rfl, _, rfl, ifF (by decide +kernel) ⟨_, rfl, a, _, _, _, rfl, rfl, SqT.of h1H, rfl, rfl, _, rfl, ifT (by decide +kernel) ?_⟩⟩
    refine ⟨_, rfl, a, _, _, _, rfl, rfl, SqT.of h1H, rfl, _, rfl, wk, C, dx, _, _, rfl, F.h1, T.cl, T.n6, rfl, tv, ra, t, ρ, rfl, h2.keep (Kp.of s0), ok.1, ok.2.1, ⟨kvs, F.h5, r4⟩, hB, fun H1 g1 => ?_⟩
    have F1 := F.step g1
    refine ⟨_, rfl, wk, C, dx, _, _, rfl, F1.h1, T.cl, T.n6, rfl, _, rfl, a, _, _, _, rfl, rfl, SqT.of (g1 _ _ h1H), rfl, ra, _, rfl, DPut.k (k := Sum.inr x) F1.h5 (small1000 (by omega)), ?_⟩
    have k9 : Aft C cN H0 wk us Bd Q E (.go (put ρ x (wor ρ t)) left []) := k8
    refine k9 _ ⟨dx, ah, tk, ct, sa, ra, _, _, _, p, qd, F1.room _, r0, by omega, by omega, Nat.le_trans putK_len1 (by omega), r4.put x _, Nat.lt_of_lt_of_le r5 (pow_mono (by omega)), r6, Nat.lt_of_lt_of_le r7 (pow_mono (by omega))⟩
  | see t r =>
    obtain ⟨a', tv, vs', e, h1, h2, h3⟩ := hq
    cases e
    cases h3.none
    have h1H := s0 _ _ h1
    have hw : b + 1 ≤ Bd := by simp only [wl] at hb; omega
    refine ⟨_, rfl, a, _, _, _, rfl, rfl, SqT.of h1H, rfl, rfl, _, rfl, ifF (by decide +kernel) ⟨_, rfl, a, _, _, _, rfl, rfl, SqT.of h1H, rfl, rfl, _, rfl, ifF (by decide +kernel)
      ⟨_, rfl, a, _, _, _, rfl, rfl, SqT.of h1H, rfl, rfl, _, rfl, ifT (by decide +kernel) ?_⟩⟩⟩
    refine ⟨_, rfl, a, _, _, _, rfl, rfl, SqT.of h1H, rfl, _, rfl, wk, C, dx, _, _, rfl, F.h1, T.cl, T.n6, rfl, tv, ra, t, ρ, rfl, h2.keep (Kp.of s0), ok.1, ok.2.1, ⟨kvs, F.h5, r4⟩, hB, fun H1 g1 => ?_⟩
    have F1 := F.step g1
    have k9 : Aft C cN H0 wk us Bd Q E (if wor ρ t = 0 then Res.shut ρ left [] else Res.go ρ left []) := k8
    refine ⟨rfl, _, rfl, ?_⟩
    rw [int_dec]
    refine if2 (fun c => ?_) (fun c => ?_)
    · rw [if_pos c] at k9
      refine ⟨_, rfl, wk, C, dx, _, _, rfl, F1.h1, T.cl, T.n3, rfl, tk, _, rfl, .inl (SqL.of F1.h3), _, rfl, wk, C, dx, _, _, rfl, F1.h1, T.cl, T.n5, rfl, (by show 3 ≤ sizeLine; decide), fun z hz => ?_⟩
      have F2 := F1.step (same_new hz (.tup [.str "shut", .int (tks.length : Int), .ref sa]))
      refine ⟨_, rfl, wk, C, dx, _, rfl, F2.h1, T.cl, T.n7, (by show 7 < 1000; decide), ?_⟩
      have F3 : WF C H0 _ wk dx ah tk ct sa ra us tks cts kvs p qd (.ref z) := F2.fld (e' := .ref z) F2.h6
      have nz : z ≠ wk := ne_of upd_same F2.h1 (by intro y; cases y)
      refine k9 _ (.ref z) ρ left ⟨z, [.int (tks.length : Int), .ref sa], rfl, ?_⟩ ⟨dx, ah, tk, ct, sa, ra, _, _, _, p, qd, F3, r0, by omega, by omega, by omega, r4, Nat.lt_of_lt_of_le r5 (pow_mono (by omega)), r6, Nat.lt_of_lt_of_le r7 (pow_mono (by omega))⟩
      rw [upd_ne nz, upd_same]
    · rw [if_neg c] at k9
      exact k9 _ ((W.step g1).mono (by omega))
  | ite t x y r =>
    obtain ⟨a', tv, pa, pv', qa, qv, vs', e, h1, h2, h3, h4, h5, h6, h7⟩ := hq
    cases e
    cases h7.none
    have h1H := s0 _ _ h1
    have hw : b + (1 + (wl x + wl y)) ≤ Bd := by simp only [wl] at hb; omega
    have hl2 : lev x < j ∧ lev y < j := by simp only [lev] at hl; omega
    refine ⟨_, rfl, a, _, _, _, rfl, rfl, SqT.of h1H, rfl, rfl, _, rfl, ifF (by decide +kernel) ⟨_, rfl, a, _, _, _, rfl, rfl, SqT.of h1H, rfl, rfl, _, rfl, ifF (by decide +kernel)
      ⟨_, rfl, a, _, _, _, rfl, rfl, SqT.of h1H, rfl, rfl, _, rfl, ifF (by decide +kernel) ⟨_, rfl, a, _, _, _, rfl, rfl, SqT.of h1H, rfl, rfl, _, rfl, ifT (by decide +kernel) ?_⟩⟩⟩⟩
    refine ⟨_, rfl, a, _, _, _, rfl, rfl, SqT.of h1H, rfl, _, rfl, wk, C, dx, _, _, rfl, F.h1, T.cl, T.n6, rfl, tv, ra, t, ρ, rfl, h2.keep (Kp.of s0), ok.1, ok.2.1, ⟨kvs, F.h5, r4⟩, hB, fun H1 g1 => ?_⟩
    have k9 : Aft C cN H0 wk us Bd Q E ((if wor ρ t = 0 then (ugo y ρ left).pre (nones (nd x)) else (ugo x ρ left).bnd fun ρ' l' => .go ρ' l' (nones (nd y))).bnd (ugo .nil)) := k8
    rw [bnd_nil] at k9
    refine ⟨rfl, _, rfl, ?_⟩
    rw [int_dec]
    have W1 := W.step g1
    by_cases c : wor ρ t = 0
    · rw [if_pos c] at k9
      refine ifF (by rw [decide_eq_true c]; rfl) ?_
      exact ⟨_, rfl, _, rfl, a, _, _, _, rfl, rfl, SqT.of (g1 _ _ h1H), rfl, H0, wk, us, qa, qv, b, left, ρ, rfl, h5, by omega, .inl ⟨y, Bd, h6, ok.2.2.2.1, hl2.2, hB, W1, by omega, hBd, hus, Aft.pre.mp k9⟩⟩
    · rw [if_neg c] at k9
      refine ifT (by rw [decide_eq_false c]; rfl) ?_
      exact ⟨_, rfl, _, rfl, a, _, _, _, rfl, rfl, SqT.of (g1 _ _ h1H), rfl, H0, wk, us, pa, pv', b, left, ρ, rfl, h3, by omega, .inl ⟨x, Bd, h4, ok.2.2.1, hl2.1, hB, W1, by omega, hBd, hus, Aft.bgo.mp k9⟩⟩
  | rep n x r =>
    obtain ⟨a', pa, pv', vs', e, h1, h2, h3, h4⟩ := hq
    cases e
    cases h4.none
    have h1H := s0 _ _ h1
    have hw : b + (1 + n * wl x) ≤ Bd := by simp only [wl] at hb; omega
    have hl2 : lev x < j := by simp only [lev] at hl; omega
    have k9 : Aft C cN H0 wk us Bd Q E ((many (ugo x) n ρ left).bnd (ugo .nil)) := k8
    rw [bnd_nil] at k9
    refine ⟨_, rfl, a, _, _, _, rfl, rfl, SqT.of h1H, rfl, rfl, _, rfl, ifF (by decide +kernel) ⟨_, rfl, a, _, _, _, rfl, rfl, SqT.of h1H, rfl, rfl, _, rfl, ifF (by decide +kernel)
      ⟨_, rfl, a, _, _, _, rfl, rfl, SqT.of h1H, rfl, rfl, _, rfl, ifF (by decide +kernel) ⟨_, rfl, a, _, _, _, rfl, rfl, SqT.of h1H, rfl, rfl, _, rfl, ifF (by decide +kernel) ?_⟩⟩⟩⟩
    refine ⟨_, rfl, a, _, _, _, rfl, rfl, SqT.of h1H, rfl, Nat.zero_le _, fun z hz => ?_⟩
    have g1 := same_new hz (.tup [])
    have W1 := W.step g1
    refine ⟨pa, z, pv', rfl, rfl, SqT.of (W1.same _ _ h2), SqT.of upd_same, _, rfl, ?_⟩
    cases pv' with
    | nil =>
      refine ifF rfl ?_
      cases h3.none
      rw [many_nil] at k9
      exact k9 _ (W1.mono (by omega))
    | cons v0 vr =>
      refine ifT rfl ?_
      have hn60 : n ≤ 60 := ok.1
      refine ⟨_, rfl, a, _, _, _, rfl, rfl, SqT.of (g1 _ _ h1H), rfl, (n : Int), rfl, by omega, by omega, ?_⟩
      refine for_range (n := (n : Int).toNat) (fun i σ H' => (∃ o, σ = [some (.ref wk), some (.ref a), o]) ∧
        ((∃ (b' : Nat) (l' : List Int) (ρ' : Rm), RmB ρ' ∧ WAt C H0 H' wk us l' ρ' .non b' ∧ b' + (n - i) * wl x ≤ Bd ∧ Aft C cN H0 wk us Bd Q E (many (ugo x) (n - i) ρ' l')) ∨
         (∃ v b left ρ, v ≠ .non ∧ WAt C H0 H' wk us left ρ v b ∧ Q .non H'))) ⟨⟨_, rfl⟩, .inl ⟨b, left, ρ, hB, W1, by rw [Nat.sub_zero]; omega, k9⟩⟩ ?_ ?_
      · rintro i σ H' hi ⟨⟨o, rfl⟩, m⟩
        have hi' : i < n := by omega
        rcases m with ⟨b', l', ρ', hB', W', hb', k'⟩ | ⟨v, b', l', ρ', nv, W', q⟩
        · have em : n - i = (n - (i + 1)) + 1 := by omega
          rw [em] at k' hb'
          rw [Nat.succ_mul] at hb'
          have k2 : Aft C cN H0 wk us Bd Q E ((ugo x ρ' l').bnd (many (ugo x) (n - (i + 1)))) := k'
          refine ⟨_, rfl, _, rfl, a, _, _, _, rfl, rfl, SqT.of (W'.same _ _ h1), rfl, H0, wk, us, pa, v0 :: vr, b', l', ρ', rfl, h2, by omega, .inl ⟨x, b' + wl x, h3, ok.2.1, hl2, hB', W', Nat.le_refl _, by omega, hus, ?_⟩⟩
          have g0 := gd x ρ' l' ok.2.1 hB'
          refine Aft.split k2 (by omega) (fun ρ1 l1 o1 e1 h9 H1 W1 => ?_) (fun H1 v ρ1 l1 nv W1 q => ?_)
          · rw [e1] at g0
            exact ⟨⟨_, rfl⟩, .inl ⟨_, l1, ρ1, g0, W1, by omega, h9⟩⟩
          · exact ⟨⟨_, rfl⟩, .inr ⟨v, _, l1, ρ1, nv, W1, q⟩⟩
        · exact ⟨_, rfl, _, rfl, a, _, _, _, rfl, rfl, SqT.of (W'.same _ _ h1), rfl, H0, wk, us, pa, v0 :: vr, b', l', ρ', rfl, h2, by omega, .inr ⟨v, nv, W', ⟨_, rfl⟩, .inr ⟨v, b', l', ρ', nv, W', q⟩⟩⟩
      · rintro σ H' ⟨⟨o, rfl⟩, m⟩
        rcases m with ⟨b', l', ρ', hB', W', hb', k'⟩ | ⟨v, b', l', ρ', nv, W', q⟩
        · have e0 : n - (n : Int).toNat = 0 := by omega
          rw [e0] at k'
          exact k' _ (W'.mono (by omega))
        · exact q
end
end Lot

/-! rows_gone at every depth, gone, tour -/
namespace Lot
open PySem L2
section
variable {P : Program} {w : World} {K : PySem.W.Frag} {mg : Str → Option Value} {base : Heap}
theorem ok_rows {f g C cN fS : Addr} {fd gd fdS : FuncData} (D : Df K mg "rows_gone" sRows ["walk", "rows"] f fd) (DR : Df K mg "row_gone" sRow ["walk", "row"] g gd) (T : Tw K mg C cN) (B : Bl mg) (mS : Meth K C "side_taken" fS) (bS : Binds K fdS ["self", "name", "sides"] [])
    (GS : FnOk P w K mg base (L2.CX P w) 4 fS fdS ["self", "name", "sides"] (spSide C cN)) (GW : Cal P w K mg base CX0 7 "worth" ["term", "room"] (spWorth 4)) :
    ∀ j : Nat, Cal P w K mg base (L2.CX P w) (7 + 2 * j) "rows_gone" ["walk", "rows"] (spRows C cN j)
  | 0 => D.never fun vs H Q E h => by
    obtain ⟨H0, wk, us, pr, vs0, b, left, ρ, _, _, hj, _⟩ := h
    exact absurd hj (Nat.lt_irrefl 0)
  | j + 1 => ok_rows1 D T (ok_row1 DR T B mS bS GS GW (Nat.le_add_right 7 (2 * j)) (ok_rows D DR T B mS bS GS GW j))
abbrev sGone : Stmt := top 20
abbrev sTour : Stmt := top 21
/-- a program in the heap -/
structure PgAt (H : Hp) (pa : Addr) (r : Rws) (t : Tm) : Prop where
  ex : ∃ (pr : Addr) (tv : V) (vs0 : List V), H pa = some (.tup [.ref pr, tv]) ∧ H pr = some (.tup vs0) ∧ RwsAt H vs0 r ∧ TmAt H tv t
  ok : RwOk r
  lv : lev r < 6
  wlr : wl r ≤ 70
  tok : TmOk t
  td : dep t ≤ 4
theorem PgAt.keep {H H' : Hp} (k : Kp H H') {pa : Addr} {r : Rws} {t : Tm} (h : PgAt H pa r t) : PgAt H' pa r t :=
  ⟨let ⟨pr, tv, vs0, h1, h2, h3, h4⟩ := h.ex; ⟨pr, tv, vs0, k _ _ h1, k _ _ h2, h3.keep k, h4.keep k⟩, h.ok, h.lv, h.wlr, h.tok, h.td⟩
/-- the outcome of a tour: how it ends -/
def Ends' (cN : Addr) (H : Hp) (Z : Hp → Str → Prop) (E : XK) : Res → Prop
  | .go _ _ _ => ∀ H' s, Same H H' → ¬ s = ("open" : Str) → Z H' s
  | .shut _ _ _ => ∀ H' s, Same H H' → ¬ s = ("open" : Str) → Z H' s
  | .opn _ => ∀ H', Same H H' → Z H' "open"
  | .bad => ∀ H', Same H H' → E (.ref cN) none H'
def spGone (C cN : Addr) : Sp := fun vs H Q E => ∃ (pa ah : Addr) (us : List Int) (r : Rws) (t : Tm), vs = [.ref pa, .ref ah, .bl false] ∧ PgAt H pa r t ∧ H ah = some (.tup (us.map V.int)) ∧ us.length ≤ 1000 ∧
  Ends' cN H (fun H' s => ∀ wk dx fs a xs, H' wk = some (.ins C dx fs) → fs.lookup ("end" : Str) = some (.ref a) → H' a = some (.tup (.str s :: xs)) → Q (.ref wk) H') E (ugo r (fun _ => 0) us)
theorem scGone : FnScope ["program", "sides", "filling", "walk"] ["program", "sides", "filling"] (defScope sGone) := ⟨rfl, rfl, rfl, by decide +kernel, rfl, by decide +kernel, by decide +kernel⟩
theorem ok_gone {f C cN fI : Addr} {fd fdI : FuncData} (D : Df K mg "gone" sGone ["program", "sides", "filling"] f fd) (T : Tw K mg C cN) (B : Bl mg) (M : Mk K C fI) (bI : Binds K fdI ["self", "sides", "filling"] [])
    (GI : FnOk P w K mg base CX0 1 fI fdI ["self", "sides", "filling"] (spInit C)) (GW : Cal P w K mg base CX0 7 "worth" ["term", "room"] (spWorth 4)) (GR : Cal P w K mg base (L2.CX P w) 19 "rows_gone" ["walk", "rows"] (spRows C cN 6)) :
    Cal P w K mg base (L2.CX P w) 20 "gone" ["program", "sides", "filling"] (spGone C cN) := by
  refine D.cal (D.fn.okX scGone (fun vs H Q E h => ?_) (fun cdv A outer s H vs Q E hr h => ?_))
  · obtain ⟨pa, ah, us, r, t, rfl, _⟩ := h
    rfl
  obtain ⟨pa, ah, us, r, t, rfl, Pg, hah, hus, q⟩ := h
  have hr2 : Room 2 _ := hr.mono (by decide)
  have hr7 : Room 7 _ := hr.mono (by decide)
  refine ⟨_, pss_cons (ps_set (i := 3) scGone.nd rfl (.inl rfl) (pe_make M GI hr2 rfl T.gW bI .nil pass0 (pa_cons (pv 1) (pa_cons (pv 2) pa_nil))))
    (pss_cons (ps_expr (pe_cal GR hr rfl (passes_call (takes_of rfl rfl rfl rfl) (fun _ _ _ _ h => h)) (pa_cons (pv 3) (pa_cons (pe_ix ix_tup (pv 0) pe_int (fun _ _ => rfl)) pa_nil))))
    (pss_cons (ps_if (pt_cmp (pc_isN (pe_fld (pv 3) rfl)))
      (pss_one (ps_fld (pv 3) (pe_tup (pa_cons pe_str (pa_cons (pe_callB call_len_seq (by rfl) B.len PySem.boot_len (pa_cons (pe_fld (pv 3) rfl) pa_nil)) (pa_cons (pe_fld (pv 3) rfl)
        (pa_cons (pe_cal GW hr7 rfl pass0 (pa_cons (pe_ix ix_tup (pv 0) pe_int (fun _ _ => rfl)) (pa_cons (pe_fld (pv 3) rfl) pa_nil))) pa_nil))))) rfl)) pss_nil)
    (pss_one (ps_ret (pv 3))))), ?_⟩
  obtain ⟨pr, tv, vs0, h1, h2, h3, h4⟩ := Pg.ex
  refine ⟨_, rfl, _, rfl, fun wk dx hwk hdx hne => ?_⟩
  have s0 : Same H (upd (upd H dx (.own wk)) wk (.ins C dx [])) := fun b o e => by
    rw [upd_ne (ne_of_none e hwk), upd_ne (ne_of_none e hdx)]
    exact e
  refine ⟨H, wk, dx, ah, us, rfl, s0, hwk, upd_same, s0 _ _ hah, fun H1 W1 => ⟨rfl, ?_⟩⟩
  have h1' := W1.same _ _ h1
  refine ⟨_, rfl, _, rfl, pa, _, _, _, rfl, rfl, SqT.of h1', rfl, H, wk, us, pr, vs0, 0, us, fun _ => 0, rfl, h2, by decide, .inl ⟨r, wl r, h3, Pg.ok, Pg.lv, RmB.zero, W1, by omega, by have := Pg.wlr; omega, hus, ?_⟩⟩
  have g0 := gd r (fun _ => 0) us Pg.ok RmB.zero
  generalize ugo r (fun _ => 0) us = R at q g0
  cases R with
  | go ρ l o =>
    intro H2 W2
    obtain ⟨dx2, ah2, tk, ct, sa, ra, tks, cts, kvs, p, qd, F, r0, r1, r2, r3, r4, r5, r6, r7⟩ := id W2
    refine ⟨_, rfl, wk, C, dx2, _, _, rfl, F.h1, T.cl, T.n7, rfl, _, rfl, ifT (by decide) ?_⟩
    refine ⟨_, rfl, wk, C, dx2, _, _, rfl, F.h1, T.cl, T.n3, rfl, tk, _, rfl, .inl (SqL.of F.h3), _, rfl, wk, C, dx2, _, _, rfl, F.h1, T.cl, T.n5, rfl, ?_⟩
    refine ⟨_, rfl, pa, _, _, _, rfl, rfl, SqT.of (F.same _ _ h1), rfl, _, rfl, wk, C, dx2, _, _, rfl, F.h1, T.cl, T.n6, rfl, tv, ra, t, ρ, rfl, h4.keep (Kp.of F.same), Pg.tok, Pg.td, ⟨kvs, F.h5, r4⟩, g0, fun H3 g3 => ?_⟩
    refine ⟨(by show 4 ≤ sizeLine; decide), fun z hz => ?_⟩
    have F1 := F.step (g3.trans (same_new hz (.tup [.str "came", .int (tks.length : Int), .ref sa, .int (wor ρ t)])))
    refine ⟨_, rfl, wk, C, dx2, _, rfl, F1.h1, T.cl, T.n7, (by show 7 < 1000; decide), _, rfl, ?_⟩
    have nz : z ≠ wk := ne_of upd_same F1.h1 (by intro y; cases y)
    have F2 : WF C H _ wk dx2 ah2 tk ct sa ra us tks cts kvs p qd (.ref z) := F1.fld (e' := .ref z) F1.h6
    exact q _ "came" F2.same (by decide +kernel) wk dx2 _ z _ F2.h1 rfl (by rw [upd_ne nz]; exact upd_same)
  | shut ρ l o =>
    intro H2 v ρ2 l2 ev W2
    obtain ⟨a, xs, rfl, ha⟩ := ev
    obtain ⟨dx2, ah2, tk, ct, sa, ra, tks, cts, kvs, p, qd, F, _⟩ := id W2
    refine ⟨_, rfl, wk, C, dx2, _, _, rfl, F.h1, T.cl, T.n7, rfl, _, rfl, ifF rfl ⟨_, rfl, ?_⟩⟩
    exact q _ "shut" F.same (by decide +kernel) wk dx2 _ a _ F.h1 rfl ha
  | opn m =>
    intro H2 v ρ2 l2 ev W2
    obtain ⟨a, xs, rfl, ha⟩ := ev
    obtain ⟨dx2, ah2, tk, ct, sa, ra, tks, cts, kvs, p, qd, F, _⟩ := id W2
    refine ⟨_, rfl, wk, C, dx2, _, _, rfl, F.h1, T.cl, T.n7, rfl, _, rfl, ifF rfl ⟨_, rfl, ?_⟩⟩
    exact q _ F.same wk dx2 _ a _ F.h1 rfl ha
  | bad => exact q

def spTour (cN : Addr) : Sp := fun vs H Q E => ∃ (pa ah : Addr) (us : List Int) (r : Rws) (t : Tm), vs = [.ref pa, .ref ah] ∧ PgAt H pa r t ∧ H ah = some (.tup (us.map V.int)) ∧ us.length ≤ 1000 ∧
  Ends' cN H (fun H' s => ∀ a xs, H' a = some (.tup (.str s :: xs)) → Q (.ref a) H') E (ugo r (fun _ => 0) us)
theorem scTour : FnScope ["program", "sides"] ["program", "sides"] (defScope sTour) := ⟨rfl, rfl, rfl, by decide +kernel, rfl, by decide +kernel, by decide +kernel⟩
theorem Ends'.imp {cN : Addr} {H : Hp} {Z Z' : Hp → Str → Prop} {E : XK} (h : ∀ H' s, Z H' s → Z' H' s) : ∀ {R : Res}, Ends' cN H Z E R → Ends' cN H Z' E R
  | .go _ _ _, k => fun H' s g n => h _ _ (k H' s g n)
  | .shut _ _ _, k => fun H' s g n => h _ _ (k H' s g n)
  | .opn _, k => fun H' g => h _ _ (k H' g)
  | .bad, k => k
theorem ok_tour {f C cN : Addr} {fd : FuncData} (D : Df K mg "tour" sTour ["program", "sides"] f fd) (T : Tw K mg C cN) (G : Cal P w K mg base (L2.CX P w) 20 "gone" ["program", "sides", "filling"] (spGone C cN)) :
    Cal P w K mg base (L2.CX P w) 21 "tour" ["program", "sides"] (spTour cN) := by
  refine D.cal (D.fn.okX scTour (fun vs H Q E h => ?_) (fun cdv A outer s H vs Q E hr h => ?_))
  · obtain ⟨pa, ah, us, r, t, rfl, _⟩ := h
    rfl
  obtain ⟨pa, ah, us, r, t, rfl, Pg, hah, hus, q⟩ := h
  refine ⟨_, pss_one (ps_ret (pe_fld (pe_cal G hr rfl (passes_call (takes_of rfl rfl rfl rfl) (fun _ _ _ _ h => h)) (pa_cons (pv 0) (pa_cons (pv 1) (pa_cons pe_bl pa_nil)))) rfl)), ?_⟩
  refine ⟨_, rfl, _, rfl, pa, ah, us, r, t, rfl, Pg, hah, hus, q.imp fun H' s z wk dx fs a xs h1 h2 h3 => ?_⟩
  exact ⟨wk, C, dx, fs, _, rfl, h1, T.cl, T.n7, h2, z a xs h3⟩
end
end Lot

/-! draws_in, met_rows, met_block, met_sides -/
namespace Lot
open PySem L2
abbrev sDraws : Stmt := top 23
abbrev sMetR : Stmt := top 24
abbrev sMetB : Stmt := top 25
abbrev sMetS : Stmt := top 26
theorem nd_draw (x : Str) (sd : Sds) (r : Rws) : nd (.draw x sd r) = 1 + nd r := by show (sd :: drw r).length = _; rw [List.length_cons]; unfold nd; omega
theorem nd_sset (x : Str) (t : Tm) (r : Rws) : nd (.sset x t r) = nd r := rfl
theorem nd_see (t : Tm) (r : Rws) : nd (.see t r) = nd r := rfl
theorem nd_ite (t : Tm) (a b r : Rws) : nd (.ite t a b r) = nd a + nd b + nd r := by show (drw a ++ drw b ++ drw r).length = _; rw [List.length_append, List.length_append]; rfl
theorem nd_rep (n : Nat) (a r : Rws) : nd (.rep n a r) = n * nd a + nd r := by show ((List.replicate n (drw a)).flatten ++ drw r).length = _; rw [List.length_append, flat_len]; rfl
section
variable {P : Program} {w : World} {K : PySem.W.Frag} {mg : Str → Option Value} {base : Heap}
def spDraws (j : Nat) : Sp := fun vs H Q _ => ∃ (pr : Addr) (vs0 : List V) (r : Rws), vs = [.ref pr] ∧ H pr = some (.tup vs0) ∧ RwsAt H vs0 r ∧ RwOk r ∧ lev r < j ∧ Q (.int (nd r : Int)) H
theorem scDraws : FnScope ["rows", "many", "row"] ["rows"] (defScope sDraws) := ⟨rfl, rfl, rfl, by decide +kernel, rfl, by decide +kernel, by decide +kernel⟩
theorem ok_draws1 {f : Addr} {fd : FuncData} {j k : Nat} (D : Df K mg "draws_in" sDraws ["rows"] f fd) (G : Cal P w K mg base CX0 k "draws_in" ["rows"] (spDraws j)) :
    Cal P w K mg base CX0 (k + 1) "draws_in" ["rows"] (spDraws (j + 1)) := by
  refine D.cal (D.fn.ok scDraws (fun vs H Q E h => ?_) (fun cdv A outer s H vs Q E hr h => ?_))
  · obtain ⟨pr, vs0, r, rfl, _⟩ := h
    rfl
  obtain ⟨pr, vs0, r, rfl, hp, hR, ok, hl, q⟩ := h
  refine ⟨_, pss_cons (ps_set (i := 1) scDraws.nd rfl (.inl rfl) pe_int)
    (pss_cons (ps_for PassesOwn.never rfl (pi_tup (pv 0)) (pg_name (i := 2) scDraws.nd rfl (.inl rfl))
      (pss_one (ps_if (pt_cmpR op_eq (pe_ix ix_tup (pv 2) pe_int (fun _ _ => rfl)) pe_str (nomark _)) (pss_one (ps_set (i := 1) scDraws.nd rfl (.inl rfl) (pe_op op_add (pv 1) pe_int)))
      (pss_one (ps_if (pt_cmpR op_eq (pe_ix ix_tup (pv 2) pe_int (fun _ _ => rfl)) pe_str (nomark _))
        (pss_one (ps_set (i := 1) scDraws.nd rfl (.inl rfl) (pe_op op_add (pe_op op_add (pv 1) (pe_cal G hr rfl pass0 (pa_cons (pe_ix ix_tup (pv 2) pe_int (fun _ _ => rfl)) pa_nil))) (pe_cal G hr rfl pass0 (pa_cons (pe_ix ix_tup (pv 2) pe_int (fun _ _ => rfl)) pa_nil)))))
      (pss_one (ps_if (pt_cmpR op_eq (pe_ix ix_tup (pv 2) pe_int (fun _ _ => rfl)) pe_str (nomark _))
        (pss_one (ps_set (i := 1) scDraws.nd rfl (.inl rfl) (pe_op op_add (pv 1) (pe_op op_mul (pe_ix ix_tup (pv 2) pe_int (fun _ _ => rfl)) (pe_cal G hr rfl pass0 (pa_cons (pe_ix ix_tup (pv 2) pe_int (fun _ _ => rfl)) pa_nil))))))
        pss_nil)))))))
    (pss_one (ps_ret (pv 1)))), ?_⟩
  refine ⟨_, rfl, pr, rfl, ⟨_, SqT.of hp⟩, ?_⟩
  refine for_tup (K := K) (a := pr) (xs := vs0) (fun i σ H' => H' = H ∧ ∃ (o : Option V) (m : Nat) (r' : Rws), σ = [some (.ref pr), some (.int m), o] ∧ RwsAt H (vs0.drop i) r' ∧ RwOk r' ∧ lev r' < j + 1 ∧ m + nd r' = nd r)
    ⟨rfl, none, 0, r, rfl, hR, ok, hl, Nat.zero_add _⟩ (fun i σ H' _ h => by rw [h.1]; exact SqT.of hp) ?_ ?_
  · rintro i y σ H' hy ⟨rfl, o, m, r', rfl, h1, h2, h3, h4⟩
    have hi : i < vs0.length := (List.getElem?_eq_some_iff.mp hy).1
    have ed : vs0.drop i = y :: vs0.drop (i + 1) := by
      rw [List.drop_eq_getElem_cons hi]
      rw [List.getElem?_eq_getElem hi] at hy
      rw [Option.some.inj hy]
    rw [ed] at h1
    cases r' with
    | nil => cases (show y :: _ = [] from h1)
    | draw x sd r2 =>
      obtain ⟨a, sv, vs', e, g1, g2, g3⟩ := h1
      cases e
      rw [nd_draw] at h4
      refine ⟨_, rfl, a, _, _, _, rfl, rfl, SqT.of g1, rfl, rfl, _, rfl, ifT (by decide +kernel) ?_⟩
      exact ⟨_, rfl, _, _, rfl, rfl, rfl, some (.ref a), m + 1, r2, by simp, g3, h2.2, h3, by omega⟩
    | sset x t r2 =>
      obtain ⟨a, sv, vs', e, g1, g2, g3⟩ := h1
      cases e
      rw [nd_sset] at h4
      exact ⟨_, rfl, a, _, _, _, rfl, rfl, SqT.of g1, rfl, rfl, _, rfl, ifF (by decide +kernel) ⟨_, rfl, a, _, _, _, rfl, rfl, SqT.of g1, rfl, rfl, _, rfl, ifF (by decide +kernel)
        ⟨_, rfl, a, _, _, _, rfl, rfl, SqT.of g1, rfl, rfl, _, rfl, ifF (by decide +kernel) ⟨rfl, _, m, r2, rfl, g3, h2.2.2, h3, h4⟩⟩⟩⟩
    | see t r2 =>
      obtain ⟨a, sv, vs', e, g1, g2, g3⟩ := h1
      cases e
      rw [nd_see] at h4
      exact ⟨_, rfl, a, _, _, _, rfl, rfl, SqT.of g1, rfl, rfl, _, rfl, ifF (by decide +kernel) ⟨_, rfl, a, _, _, _, rfl, rfl, SqT.of g1, rfl, rfl, _, rfl, ifF (by decide +kernel)
        ⟨_, rfl, a, _, _, _, rfl, rfl, SqT.of g1, rfl, rfl, _, rfl, ifF (by decide +kernel) ⟨rfl, _, m, r2, rfl, g3, h2.2.2, h3, h4⟩⟩⟩⟩
    | ite t p p2 r2 =>
      obtain ⟨a, b, pa, pv', qa, qv, vs', e, g1, g2, g3, g4, g5, g6, g7⟩ := h1
      cases e
      rw [nd_ite] at h4
      have hl2 : lev p < j ∧ lev p2 < j ∧ lev r2 < j + 1 := by simp only [lev] at h3; omega
      refine ⟨_, rfl, a, _, _, _, rfl, rfl, SqT.of g1, rfl, rfl, _, rfl, ifF (by decide +kernel) ⟨_, rfl, a, _, _, _, rfl, rfl, SqT.of g1, rfl, rfl, _, rfl, ifT (by decide +kernel) ?_⟩⟩
      refine ⟨_, rfl, _, rfl, a, _, _, _, rfl, rfl, SqT.of g1, rfl, pa, pv', p, rfl, g3, g4, h2.2.2.1, hl2.1, _, _, rfl, rfl, ?_⟩
      refine ⟨_, rfl, a, _, _, _, rfl, rfl, SqT.of g1, rfl, qa, qv, p2, rfl, g5, g6, h2.2.2.2.1, hl2.2.1, _, _, rfl, rfl, ?_⟩
      exact ⟨rfl, some (.ref a), m + nd p + nd p2, r2, by simp, g7, h2.2.2.2.2, hl2.2.2, by omega⟩
    | rep n p r2 =>
      obtain ⟨a, pa, pv', vs', e, g1, g2, g3, g4⟩ := h1
      cases e
      rw [nd_rep] at h4
      have hl2 : lev p < j ∧ lev r2 < j + 1 := by simp only [lev] at h3; omega
      have hn := h2.1
      refine ⟨_, rfl, a, _, _, _, rfl, rfl, SqT.of g1, rfl, rfl, _, rfl, ifF (by decide +kernel) ⟨_, rfl, a, _, _, _, rfl, rfl, SqT.of g1, rfl, rfl, _, rfl, ifF (by decide +kernel)
        ⟨_, rfl, a, _, _, _, rfl, rfl, SqT.of g1, rfl, rfl, _, rfl, ifT (by decide +kernel) ?_⟩⟩⟩
      refine ⟨_, rfl, _, rfl, a, _, _, _, rfl, rfl, SqT.of g1, rfl, _, rfl, a, _, _, _, rfl, rfl, SqT.of g1, rfl, pa, pv', p, rfl, g2, g3, h2.2.1, hl2.1, _, _, rfl, rfl, .inl ⟨by omega, by omega⟩, _, _, rfl, rfl, ?_⟩
      exact ⟨rfl, some (.ref a), m + n * nd p, r2, by simp, g4, h2.2.2, hl2.2, by omega⟩
  · rintro σ H' ⟨rfl, o, m, r', rfl, h1, h2, h3, h4⟩
    rw [List.drop_length] at h1
    cases h1.none
    have e : m = nd r := h4
    subst e
    exact ⟨_, rfl, q⟩
theorem ok_draws {f : Addr} {fd : FuncData} (D : Df K mg "draws_in" sDraws ["rows"] f fd) : ∀ j : Nat, Cal P w K mg base CX0 j "draws_in" ["rows"] (spDraws j)
  | 0 => D.never fun vs H Q E h => by
    obtain ⟨pr, vs0, r, _, _, _, _, hl, _⟩ := h
    exact absurd hl (Nat.not_lt_zero _)
  | j + 1 => ok_draws1 D (ok_draws D j)

/-! ### met_rows -/
def ov : Option Int → V
  | none => .non
  | some i => .int i
theorem ov_nones (n : Nat) : (nones n).map ov = List.replicate n .non := by unfold nones; rw [List.map_replicate]; rfl
structure MF (H0 H : Hp) (ra la ma : Addr) (kvs : List (Key × V)) (left : List Int) (m : List (Option Int)) : Prop where
  same : Same H0 H
  o1 : H0 ra = none
  o2 : H0 la = none
  o3 : H0 ma = none
  ne : la ≠ ma
  h1 : H ra = some (.dK kvs)
  h2 : H la = some (.lst (left.map V.int))
  h3 : H ma = some (.lst (m.map ov))
section
variable {H0 H H' : Hp} {ra la ma : Addr} {kvs : List (Key × V)} {left : List Int} {m : List (Option Int)}
theorem MF.step (F : MF H0 H ra la ma kvs left m) (s : Same H H') : MF H0 H' ra la ma kvs left m := ⟨F.same.trans s, F.o1, F.o2, F.o3, F.ne, s _ _ F.h1, s _ _ F.h2, s _ _ F.h3⟩
theorem MF.room (F : MF H0 H ra la ma kvs left m) (ks : List (Key × V)) : MF H0 (upd H ra (.dK ks)) ra la ma ks left m :=
  ⟨same_own F.same F.o1, F.o1, F.o2, F.o3, F.ne, upd_same, by rw [upd_ne (ne_of F.h2 F.h1 (by intro z; cases z))]; exact F.h2, by rw [upd_ne (ne_of F.h3 F.h1 (by intro z; cases z))]; exact F.h3⟩
theorem MF.lft (F : MF H0 H ra la ma kvs left m) (l : List Int) : MF H0 (upd H la (.lst (l.map V.int))) ra la ma kvs l m :=
  ⟨same_own F.same F.o2, F.o1, F.o2, F.o3, F.ne, by rw [upd_ne (ne_of F.h1 F.h2 (by intro z; cases z))]; exact F.h1, upd_same, by rw [upd_ne F.ne.symm]; exact F.h3⟩
theorem MF.met (F : MF H0 H ra la ma kvs left m) (n : List (Option Int)) : MF H0 (upd H ma (.lst (n.map ov))) ra la ma kvs left n :=
  ⟨same_own F.same F.o3, F.o1, F.o2, F.o3, F.ne, by rw [upd_ne (ne_of F.h1 F.h3 (by intro z; cases z))]; exact F.h1, by rw [upd_ne F.ne]; exact F.h2, upd_same⟩
end
def MAt (H0 H : Hp) (ra la ma : Addr) (ρ : Rm) (left : List Int) (m : List (Option Int)) (b : Nat) : Prop := ∃ kvs, MF H0 H ra la ma kvs left m ∧ RmIs kvs ρ ∧ kvs.length ≤ b ∧ m.length ≤ b
theorem MAt.mono {H0 H : Hp} {ra la ma : Addr} {ρ : Rm} {left : List Int} {m : List (Option Int)} {b c : Nat} (M : MAt H0 H ra la ma ρ left m b) (h : b ≤ c) : MAt H0 H ra la ma ρ left m c :=
  let ⟨kvs, F, r, h1, h2⟩ := M; ⟨kvs, F, r, Nat.le_trans h1 h, Nat.le_trans h2 h⟩
theorem MAt.step {H0 H H' : Hp} {ra la ma : Addr} {ρ : Rm} {left : List Int} {m : List (Option Int)} {b : Nat} (M : MAt H0 H ra la ma ρ left m b) (s : Same H H') : MAt H0 H' ra la ma ρ left m b :=
  let ⟨kvs, F, r⟩ := M; ⟨kvs, F.step s, r⟩
theorem MAt.same {H0 H : Hp} {ra la ma : Addr} {ρ : Rm} {left : List Int} {m : List (Option Int)} {b : Nat} (M : MAt H0 H ra la ma ρ left m b) : Same H0 H :=
  let ⟨_, F, _⟩ := M; F.same
def Met (H0 : Hp) (ra la ma : Addr) (m : List (Option Int)) (b : Nat) (Q : VK) : Res → Prop
  | .go ρ l o => ∀ H', MAt H0 H' ra la ma ρ l (m ++ o) b → Q (.bl true) H'
  | .shut ρ l o => ∀ H', MAt H0 H' ra la ma ρ l (m ++ o) b → Q (.bl false) H'
  | .opn _ => False
  | .bad => False
section
variable {H0 : Hp} {ra la ma : Addr} {m o : List (Option Int)} {b c : Nat} {Q Q' : VK}
theorem Met.pre : ∀ {r : Res}, Met H0 ra la ma m b Q (r.pre o) ↔ Met H0 ra la ma (m ++ o) b Q r
  | .go _ _ _ => by simp only [Met, Res.pre, List.append_assoc]
  | .shut _ _ _ => by simp only [Met, Res.pre, List.append_assoc]
  | .opn _ => Iff.rfl
  | .bad => Iff.rfl
theorem Met.split {r : Res} {g : Rm → List Int → Res} (h : Met H0 ra la ma m c Q (r.bnd g)) (hb : b ≤ c)
    (hgo : ∀ ρ l o, r = .go ρ l o → Met H0 ra la ma (m ++ o) c Q (g ρ l) → ∀ H', MAt H0 H' ra la ma ρ l (m ++ o) b → Q' (.bl true) H')
    (hsh : ∀ H', Q (.bl false) H' → Q' (.bl false) H') : Met H0 ra la ma m b Q' r := by
  cases r with
  | go ρ l o => exact fun H' M => hgo ρ l o rfl (Met.pre.mp h) H' M
  | shut ρ l o => exact fun H' M => hsh H' (h H' (M.mono hb))
  | opn m => exact h
  | bad => exact h
end
def spMetR (j : Nat) : Sp := fun vs H Q _ => ∃ (H0 : Hp) (pr ra la ma : Addr) (vs0 : List V) (r : Rws) (ρ : Rm) (left : List Int) (m : List (Option Int)) (b Bd : Nat), vs = [.ref pr, .ref ra, .ref la, .ref ma] ∧
  H0 pr = some (.tup vs0) ∧ RwsAt H0 vs0 r ∧ RwOk r ∧ lev r < j ∧ RmB ρ ∧ MAt H0 H ra la ma ρ left m b ∧ b + wl r ≤ Bd ∧ Bd ≤ 900 ∧ Met H0 ra la ma m Bd Q (ugo r ρ left)
def isBlk : Rws → Bool
  | .ite _ _ _ _ => true
  | .rep _ _ _ => true
  | _ => false
def spMetB (j : Nat) : Sp := fun vs H Q _ => ∃ (H0 : Hp) (a ra la ma : Addr) (r : Rws) (ρ : Rm) (left : List Int) (m : List (Option Int)) (b Bd : Nat), vs = [.ref a, .ref ra, .ref la, .ref ma] ∧
  RwsAt H0 [.ref a] r ∧ isBlk r = true ∧ RwOk r ∧ lev r ≤ j ∧ RmB ρ ∧ MAt H0 H ra la ma ρ left m b ∧ b + wl r ≤ Bd ∧ Bd ≤ 900 ∧ Met H0 ra la ma m Bd Q (ugo r ρ left)
theorem scMetR : FnScope ["rows", "room", "left", "met", "row"] ["rows", "room", "left", "met"] (defScope sMetR) := ⟨rfl, rfl, rfl, by decide +kernel, rfl, by decide +kernel, by decide +kernel⟩
theorem ok_metR1 {f : Addr} {fd : FuncData} {j k : Nat} (D : Df K mg "met_rows" sMetR ["rows", "room", "left", "met"] f fd) (hk : 7 ≤ k) (GW : Cal P w K mg base CX0 7 "worth" ["term", "room"] (spWorth 4))
    (GB : Cal P w K mg base CX0 k "met_block" ["row", "room", "left", "met"] (spMetB j)) :
    Cal P w K mg base CX0 (k + 1) "met_rows" ["rows", "room", "left", "met"] (spMetR (j + 1)) := by
  refine D.cal (D.fn.ok scMetR (fun vs H Q E h => ?_) (fun cdv A outer s H vs Q E hr h => ?_))
  · obtain ⟨H0, pr, ra, la, ma, vs0, r, ρ, left, m, b, Bd, rfl, _⟩ := h
    rfl
  obtain ⟨H0, pr, ra, la, ma, vs0, r, ρ, left, m, b, Bd, rfl, hp, hR, ok, hl, hB, M, hb, hBd, q⟩ := h
  have hu := hu_of hr
  have hr7 : Room 7 _ := hr.mono hk
  refine ⟨_, pss_cons (ps_for PassesOwn.never rfl (pi_tup (pv 0)) (pg_name (i := 4) scMetR.nd rfl (.inl rfl))
      (pss_one (ps_if (pt_cmpR op_eq (pe_ix ix_tup (pv 4) pe_int (fun _ _ => rfl)) pe_str (nomark _))
        (pss_cons (ps_expr (pe_bm PySem.F.plainAttrs_list PySem.F.slot_list_append PySem.F.type_list_append mt_append (pv 3) (pa_cons (pe_bm PySem.F.plainAttrs_list PySem.F.slot_list_pop PySem.F.type_list_pop mt_popAt (pv 2) (pa_cons pe_int pa_nil)) pa_nil)))
        (pss_one (ps_dput hu (pv 1) (pe_ix ix_tup (pv 4) pe_int (fun _ _ => rfl)) (pe_ix ix_tup (pe_ix ix_tup (pe_ix ix_tup (pv 4) pe_int (fun _ _ => rfl)) (pe_ix ix_list (pv 3) (pe_un un_neg pe_int) (fun _ _ => rfl)) (fun _ _ => rfl)) pe_int (fun _ _ => rfl)) rfl)))
      (pss_one (ps_if (pt_cmpR op_eq (pe_ix ix_tup (pv 4) pe_int (fun _ _ => rfl)) pe_str (nomark _))
        (pss_one (ps_dput hu (pv 1) (pe_ix ix_tup (pv 4) pe_int (fun _ _ => rfl)) (pe_cal GW hr7 rfl pass0 (pa_cons (pe_ix ix_tup (pv 4) pe_int (fun _ _ => rfl)) (pa_cons (pv 1) pa_nil))) rfl))
      (pss_one (ps_if (pt_cmpR op_eq (pe_ix ix_tup (pv 4) pe_int (fun _ _ => rfl)) pe_str (nomark _))
        (pss_one (ps_if (pt_cmpR op_eq (pe_cal GW hr7 rfl pass0 (pa_cons (pe_ix ix_tup (pv 4) pe_int (fun _ _ => rfl)) (pa_cons (pv 1) pa_nil))) pe_int (nomark _)) (pss_one (ps_ret pe_bl)) pss_nil))
      (pss_one (ps_if (pt_not (pt_val (pe_cal GB hr rfl pass0 (pa_cons (pv 4) (pa_cons (pv 1) (pa_cons (pv 2) (pa_cons (pv 3) pa_nil))))))) (pss_one (ps_ret pe_bl)) pss_nil)))))))))
    (pss_one (ps_ret pe_bl)), ?_⟩
  refine ⟨_, rfl, pr, rfl, ⟨_, SqT.of (M.same _ _ hp)⟩, ?_⟩
  refine for_tup (K := K) (a := pr) (xs := vs0) (fun i σ H' => ∃ (o : Option V) (r : Rws) (ρ : Rm) (left : List Int) (m : List (Option Int)) (b : Nat), σ = [some (.ref pr), some (.ref ra), some (.ref la), some (.ref ma), o] ∧
      RwsAt H0 (vs0.drop i) r ∧ RwOk r ∧ lev r < j + 1 ∧ RmB ρ ∧ MAt H0 H' ra la ma ρ left m b ∧ b + wl r ≤ Bd ∧ Met H0 ra la ma m Bd Q (ugo r ρ left))
    ⟨none, r, ρ, left, m, b, rfl, hR, ok, hl, hB, M, hb, q⟩ ?_ ?_ ?_
  · rintro i σ H' _ ⟨_, _, _, _, _, _, _, _, _, _, _, M, _⟩
    exact SqT.of (M.same _ _ hp)
  · clear q hR ok hl hB M hb
    rintro i y σ H' hy ⟨o, r, ρ, left, m, b, rfl, h1, ok, hl, hB, M, hb, q⟩
    have hi : i < vs0.length := (List.getElem?_eq_some_iff.mp hy).1
    have ed : vs0.drop i = y :: vs0.drop (i + 1) := by
      rw [List.drop_eq_getElem_cons hi]
      rw [List.getElem?_eq_getElem hi] at hy
      rw [Option.some.inj hy]
    rw [ed] at h1
    have s0 := M.same
    obtain ⟨kvs, F, mr, mk, mm⟩ := id M
    cases r with
    | nil => cases (show y :: _ = [] from h1)
    | draw x sd r2 =>
      obtain ⟨a, sv, vs', e, g1, g2, g3⟩ := h1
      cases e
      have g1' := s0 _ _ g1
      have hw : b + 1 + wl r2 ≤ Bd := by simp only [wl] at hb; omega
      refine ⟨_, rfl, a, _, _, _, rfl, rfl, SqT.of g1', rfl, rfl, _, rfl, ifT (by decide +kernel) ?_⟩
      cases left with
      | nil => exact False.elim q
      | cons s l =>
        have q1 : Met H0 ra la ma m Bd Q ((if s < 0 ∨ (sd.length : Int) ≤ s then Res.bad else .go (put ρ x (sd.getD s.toNat (0, 0)).1) l [some s]).bnd (ugo r2)) := q
        by_cases c : s < 0 ∨ (sd.length : Int) ≤ s
        · rw [if_pos c] at q1
          exact False.elim q1
        rw [if_neg c] at q1
        have q2 : Met H0 ra la ma m Bd Q ((ugo r2 (put ρ x (sd.getD s.toNat (0, 0)).1) l).pre [some s]) := q1
        rw [Met.pre] at q2
        -- met.append(left.pop(0))
        refine ⟨_, rfl, .inl ⟨rfl, _, SqL.of F.h3⟩, _, rfl, .inl ⟨rfl, _, SqL.of F.h2⟩, la, _, 0, 0, .int s, rfl, rfl, F.h2, by decide, by decide, ?_, rfl, ?_⟩
        · simp [seqIndex?]
        have F1 : MF H0 (upd H' la (.lst (((s :: l).map V.int).eraseIdx 0))) ra la ma kvs l m := F.lft l
        refine ⟨ma, _, _, rfl, rfl, F1.h3, small1000 (by rw [List.length_map]; omega), ?_⟩
        have F2 : MF H0 (upd (upd H' la (.lst (((s :: l).map V.int).eraseIdx 0))) ma (.lst (m.map ov ++ [.int s]))) ra la ma kvs l (m ++ [some s]) := by
          have z := F1.met (m ++ [some s])
          rw [List.map_append] at z
          exact z
        have s2 := F2.same
        obtain ⟨sa', sv', rfl, hS, sV⟩ := g2
        have hi2 : s.toNat < sd.length := by omega
        obtain ⟨sp, es, hsp⟩ := sd_item sV hi2
        have ea : atI sv' s = some (.ref sp) := at_of (j := s.toNat) (by omega) es
        refine ⟨_, rfl, a, _, _, _, rfl, rfl, SqT.of (s2 _ _ g1), rfl, _, rfl, _, rfl, ma, _, _, .int s, rfl, rfl, SqL.of F2.h3, (by rw [List.map_append]; exact atI_last _ _), ?_⟩
        refine ⟨sa', _, _, _, rfl, rfl, SqT.of (s2 _ _ hS), ea, sp, _, _, _, rfl, rfl, SqT.of (s2 _ _ hsp), rfl, _, rfl, _, rfl, a, _, _, _, rfl, rfl, SqT.of (s2 _ _ g1), rfl, ra, _, rfl, DPut.k (k := Sum.inr x) F2.h1 (small1000 (by omega)), ?_⟩
        have esd : sd.getD s.toNat (0, 0) = sd[s.toNat] := by rw [List.getD_eq_getElem?_getD, List.getElem?_eq_getElem hi2]; rfl
        rw [esd] at q2
        exact ⟨_, r2, _, l, m ++ [some s], b + 1, rfl, g3, ok.2, hl, hB.put (ok.1.2.2 _ (List.getElem_mem hi2)).1, ⟨_, F2.room _, mr.put x _, Nat.le_trans putK_len1 (by omega), by rw [List.length_append, List.length_singleton]; omega⟩, hw, q2⟩
    | sset x t r2 =>
      obtain ⟨a, tv, vs', e, g1, g2, g3⟩ := h1
      cases e
      have g1' := s0 _ _ g1
      have hw : b + 1 + wl r2 ≤ Bd := by simp only [wl] at hb; omega
      refine ⟨_, rfl, a, _, _, _, rfl, rfl, SqT.of g1', rfl, rfl, _, rfl, ifF (by decide +kernel) ⟨_, rfl, a, _, _, _, rfl, rfl, SqT.of g1', rfl, rfl, _, rfl, ifT (by decide +kernel) ?_⟩⟩
      refine ⟨_, rfl, a, _, _, _, rfl, rfl, SqT.of g1', rfl, _, rfl, tv, ra, t, ρ, rfl, g2.keep (Kp.of s0), ok.1, ok.2.1, ⟨kvs, F.h1, mr⟩, hB, fun H1 s1 => ?_⟩
      have F1 := F.step s1
      refine ⟨_, rfl, _, rfl, a, _, _, _, rfl, rfl, SqT.of (s1 _ _ g1'), rfl, ra, _, rfl, DPut.k (k := Sum.inr x) F1.h1 (small1000 (by omega)), ?_⟩
      exact ⟨_, r2, _, left, m, b + 1, rfl, g3, ok.2.2, hl, hB.put (wor_in hB t ok.1), ⟨_, F1.room _, mr.put x _, Nat.le_trans putK_len1 (by omega), by omega⟩, hw, q⟩
    | see t r2 =>
      obtain ⟨a, tv, vs', e, g1, g2, g3⟩ := h1
      cases e
      have g1' := s0 _ _ g1
      have hw : b + 1 + wl r2 ≤ Bd := by simp only [wl] at hb; omega
      refine ⟨_, rfl, a, _, _, _, rfl, rfl, SqT.of g1', rfl, rfl, _, rfl, ifF (by decide +kernel) ⟨_, rfl, a, _, _, _, rfl, rfl, SqT.of g1', rfl, rfl, _, rfl, ifF (by decide +kernel)
        ⟨_, rfl, a, _, _, _, rfl, rfl, SqT.of g1', rfl, rfl, _, rfl, ifT (by decide +kernel) ?_⟩⟩⟩
      have q1 : Met H0 ra la ma m Bd Q (if wor ρ t = 0 then Res.shut ρ left [] else ugo r2 ρ left) := q
      refine ⟨_, rfl, a, _, _, _, rfl, rfl, SqT.of g1', rfl, _, rfl, tv, ra, t, ρ, rfl, g2.keep (Kp.of s0), ok.1, ok.2.1, ⟨kvs, F.h1, mr⟩, hB, fun H1 s1 => ?_⟩
      refine ⟨rfl, _, rfl, ?_⟩
      rw [int_dec]
      refine if2 (fun c => ?_) (fun c => ?_)
      · rw [if_pos c] at q1
        exact q1 _ ((by rw [List.append_nil]; exact (M.step s1).mono (by omega)))
      · rw [if_neg c] at q1
        exact ⟨_, r2, ρ, left, m, b, rfl, g3, ok.2.2, hl, hB, M.step s1, by omega, q1⟩
    | ite t p p2 r2 =>
      obtain ⟨a, ey, h10, h11⟩ := h1.cons
      subst ey
      obtain ⟨a', bv, pa, pv', qa, qv, vs', e, g1, _⟩ := id h10
      cases e
      have g1' := s0 _ _ g1
      have hw := wl_hd (.ite t p p2 r2)
      have hl2 := lev_hd (.ite t p p2 r2)
      refine ⟨_, rfl, a, _, _, _, rfl, rfl, SqT.of g1', rfl, rfl, _, rfl, ifF (by decide +kernel) ⟨_, rfl, a, _, _, _, rfl, rfl, SqT.of g1', rfl, rfl, _, rfl, ifF (by decide +kernel)
        ⟨_, rfl, a, _, _, _, rfl, rfl, SqT.of g1', rfl, rfl, _, rfl, ifF (by decide +kernel) ?_⟩⟩⟩
      rw [ugo_hd] at q
      refine ⟨_, rfl, _, rfl, _, rfl, _, rfl, H0, a, ra, la, ma, _, ρ, left, m, b, b + wl (hd (.ite t p p2 r2)), rfl, h10, rfl, (RwOk_hd ok).1, by omega, hB, M, Nat.le_refl _, by omega, ?_⟩
      have g0 := gd (hd (.ite t p p2 r2)) ρ left (RwOk_hd ok).1 hB
      refine Met.split q (by omega) (fun ρ1 l1 o1 e1 h9 H1 M1 => ?_) (fun H1 z => ⟨false, rfl, ifT rfl z⟩)
      rw [e1] at g0
      exact ⟨true, rfl, ifF rfl ⟨_, tl (.ite t p p2 r2), ρ1, l1, m ++ o1, _, rfl, h11, (RwOk_hd ok).2, by omega, g0, M1, by omega, h9⟩⟩
    | rep n p r2 =>
      obtain ⟨a, ey, h10, h11⟩ := h1.cons
      subst ey
      obtain ⟨a', pa, pv', vs', e, g1, _⟩ := id h10
      cases e
      have g1' := s0 _ _ g1
      have hw := wl_hd (.rep n p r2)
      have hl2 := lev_hd (.rep n p r2)
      refine ⟨_, rfl, a, _, _, _, rfl, rfl, SqT.of g1', rfl, rfl, _, rfl, ifF (by decide +kernel) ⟨_, rfl, a, _, _, _, rfl, rfl, SqT.of g1', rfl, rfl, _, rfl, ifF (by decide +kernel)
        ⟨_, rfl, a, _, _, _, rfl, rfl, SqT.of g1', rfl, rfl, _, rfl, ifF (by decide +kernel) ?_⟩⟩⟩
      rw [ugo_hd] at q
      refine ⟨_, rfl, _, rfl, _, rfl, _, rfl, H0, a, ra, la, ma, _, ρ, left, m, b, b + wl (hd (.rep n p r2)), rfl, h10, rfl, (RwOk_hd ok).1, by omega, hB, M, Nat.le_refl _, by omega, ?_⟩
      have g0 := gd (hd (.rep n p r2)) ρ left (RwOk_hd ok).1 hB
      refine Met.split q (by omega) (fun ρ1 l1 o1 e1 h9 H1 M1 => ?_) (fun H1 z => ⟨false, rfl, ifT rfl z⟩)
      rw [e1] at g0
      exact ⟨true, rfl, ifF rfl ⟨_, tl (.rep n p r2), ρ1, l1, m ++ o1, _, rfl, h11, (RwOk_hd ok).2, by omega, g0, M1, by omega, h9⟩⟩
  · clear q hR ok hl hB M hb
    rintro σ H' ⟨o, r, ρ, left, m, b, rfl, h1, ok, hl, hB, M, hb, q⟩
    rw [List.drop_length] at h1
    cases h1.none
    exact q _ (by rw [List.append_nil]; exact M.mono (by omega))
end
end Lot

/-! met_block, met_rows at every depth, met_sides -/
namespace Lot
open PySem L2
section
variable {P : Program} {w : World} {K : PySem.W.Frag} {mg : Str → Option Value} {base : Heap}
theorem at0 (x : V) (xs : List V) : atI (x :: xs) 0 = some x := atI_nat (j := 0) rfl
theorem flat_non (n : Nat) : (List.replicate n [V.non]).flatten = List.replicate n V.non := by
  induction n with
  | zero => rfl
  | succ n ih => rw [List.replicate_succ, List.flatten_cons, ih]; rfl
theorem Met.bgo {H0 : Hp} {ra la ma : Addr} {m : List (Option Int)} {b c : Nat} {Q Q' : VK} {r : Res} {o : List (Option Int)} (h : Met H0 ra la ma m c Q (r.bnd fun ρ l => .go ρ l o)) (hb : b ≤ c)
    (hgo : ∀ ρ l p, r = .go ρ l p → (∀ H', MAt H0 H' ra la ma ρ l (m ++ p ++ o) c → Q (.bl true) H') → ∀ H', MAt H0 H' ra la ma ρ l (m ++ p) b → Q' (.bl true) H')
    (hsh : ∀ H', Q (.bl false) H' → Q' (.bl false) H') : Met H0 ra la ma m b Q' r :=
  Met.split h hb (fun ρ l p e k H' M => hgo ρ l p e k H' M) hsh
theorem scMetB : FnScope ["row", "room", "left", "met", "k"] ["row", "room", "left", "met"] (defScope sMetB) := ⟨rfl, rfl, rfl, by decide +kernel, rfl, by decide +kernel, by decide +kernel⟩
theorem ok_metB1 {f : Addr} {fd : FuncData} {j k : Nat} (D : Df K mg "met_block" sMetB ["row", "room", "left", "met"] f fd) (B : Bl mg) (hk : 7 ≤ k) (hj : j ≤ k) (GW : Cal P w K mg base CX0 7 "worth" ["term", "room"] (spWorth 4)) (GD : Cal P w K mg base CX0 j "draws_in" ["rows"] (spDraws j))
    (GR : Cal P w K mg base CX0 k "met_rows" ["rows", "room", "left", "met"] (spMetR j)) :
    Cal P w K mg base CX0 (k + 1) "met_block" ["row", "room", "left", "met"] (spMetB j) := by
  refine D.cal (D.fn.ok scMetB (fun vs H Q E h => ?_) (fun cdv A outer s H vs Q E hr h => ?_))
  · obtain ⟨H0, a, ra, la, ma, r, ρ, left, m, b, Bd, rfl, _⟩ := h
    rfl
  obtain ⟨H0, a, ra, la, ma, r, ρ, left, m, b, Bd, rfl, hR, hblk, ok, hl, hB, M, hb, hBd, q⟩ := h
  have hr7 : Room 7 _ := hr.mono hk
  have hrD : Room j _ := hr.mono hj
  refine ⟨_, pss_cons (ps_if (pt_cmpR op_eq (pe_ix ix_tup (pv 0) pe_int (fun _ _ => rfl)) pe_str (nomark _))
      (pss_cons (ps_for PassesOwn.never rfl (pi_range1 (by rfl) B.range (pa_cons (pe_ix ix_tup (pv 0) pe_int (fun _ _ => rfl)) pa_nil)) (pg_name (i := 4) scMetB.nd rfl (.inl rfl))
        (pss_one (ps_if (pt_not (pt_val (pe_cal GR hr rfl pass0 (pa_cons (pe_ix ix_tup (pv 0) pe_int (fun _ _ => rfl)) (pa_cons (pv 1) (pa_cons (pv 2) (pa_cons (pv 3) pa_nil))))))) (pss_one (ps_ret pe_bl)) pss_nil)))
      (pss_one (ps_ret pe_bl))) pss_nil)
    (pss_cons (ps_if (pt_cmpR op_ne (pe_cal GW hr7 rfl pass0 (pa_cons (pe_ix ix_tup (pv 0) pe_int (fun _ _ => rfl)) (pa_cons (pv 1) pa_nil))) pe_int (nomark _))
      (pss_cons (ps_if (pt_not (pt_val (pe_cal GR hr rfl pass0 (pa_cons (pe_ix ix_tup (pv 0) pe_int (fun _ _ => rfl)) (pa_cons (pv 1) (pa_cons (pv 2) (pa_cons (pv 3) pa_nil))))))) (pss_one (ps_ret pe_bl)) pss_nil)
      (pss_cons (ps_expr (pe_bm PySem.F.plainAttrs_list PySem.F.slot_list_extend PySem.F.type_list_extend mt_extend (pv 3) (pa_cons (pe_op op_rep (pe_lst (pa_cons pe_non pa_nil)) (pe_cal GD hrD rfl pass0 (pa_cons (pe_ix ix_tup (pv 0) pe_int (fun _ _ => rfl)) pa_nil))) pa_nil)))
      (pss_one (ps_ret pe_bl)))) pss_nil)
    (pss_cons (ps_expr (pe_bm PySem.F.plainAttrs_list PySem.F.slot_list_extend PySem.F.type_list_extend mt_extend (pv 3) (pa_cons (pe_op op_rep (pe_lst (pa_cons pe_non pa_nil)) (pe_cal GD hrD rfl pass0 (pa_cons (pe_ix ix_tup (pv 0) pe_int (fun _ _ => rfl)) pa_nil))) pa_nil)))
    (pss_one (ps_ret (pe_cal GR hr rfl pass0 (pa_cons (pe_ix ix_tup (pv 0) pe_int (fun _ _ => rfl)) (pa_cons (pv 1) (pa_cons (pv 2) (pa_cons (pv 3) pa_nil))))))))), ?_⟩
  have s0 := M.same
  obtain ⟨kvs, F, mr, mk, mm⟩ := id M
  cases r with
  | nil => cases hblk
  | draw _ _ _ => cases hblk
  | sset _ _ _ => cases hblk
  | see _ _ => cases hblk
  | ite t x y r2 =>
    obtain ⟨a', bv, pa, pv', qa, qv, vs', e, g1, g2, g3, g4, g5, g6, g7⟩ := hR
    cases e
    cases g7.none
    have g1' := s0 _ _ g1
    have hw : b + (1 + (wl x + wl y)) ≤ Bd := by simp only [wl] at hb; omega
    have hl2 : lev x < j ∧ lev y < j := by simp only [lev] at hl; omega
    have dx := nd_wl x
    have dy := nd_wl y
    have q1 : Met H0 ra la ma m Bd Q ((if wor ρ t = 0 then (ugo y ρ left).pre (nones (nd x)) else (ugo x ρ left).bnd fun ρ' l' => .go ρ' l' (nones (nd y))).bnd (ugo .nil)) := q
    rw [bnd_nil] at q1
    refine ⟨_, rfl, a, _, _, _, rfl, rfl, SqT.of g1', rfl, rfl, _, rfl, ifF (by decide +kernel) ?_⟩
    refine ⟨_, rfl, a, _, _, _, rfl, rfl, SqT.of g1', rfl, _, rfl, bv, ra, t, ρ, rfl, g2.keep (Kp.of s0), ok.1, ok.2.1, ⟨kvs, F.h1, mr⟩, hB, fun H1 s1 => ?_⟩
    have M1 := M.step s1
    have F1 := F.step s1
    refine ⟨rfl, _, rfl, ?_⟩
    rw [int_dec]
    by_cases c : wor ρ t = 0
    · rw [if_pos c] at q1
      rw [Met.pre] at q1
      refine ifF (by rw [decide_eq_true c]; rfl) ?_
      -- met.extend([None] * draws_in(row[2]))
      refine ⟨_, rfl, .inl ⟨rfl, _, SqL.of F1.h3⟩, (by show 1 ≤ sizeLine; decide), fun p hp => ?_⟩
      have s2 := same_new hp (.lst [.non])
      have F2 := F1.step s2
      refine ⟨_, rfl, a, _, _, _, rfl, rfl, SqT.of (F2.same _ _ g1), rfl, pa, pv', x, rfl, F2.same _ _ g3, g4.keep (Kp.of F2.same), ok.2.2.1, hl2.1, ?_⟩
      refine ⟨p, _, [.non], rfl, rfl, upd_same, by omega, by omega, ?_, fun p2 hp2 => ?_⟩
      · show 1 * (((nd x : Nat) : Int)).toNat ≤ sizeLine
        exact size1000 (by omega)
      have s3 := same_new hp2 (.lst (List.replicate (((nd x : Nat) : Int)).toNat [V.non]).flatten)
      have F3 := F2.step s3
      refine ⟨ma, p2, _, _, rfl, rfl, F3.h3, upd_same, ?_, ?_⟩
      · rw [flat_non, List.length_map, List.length_replicate]
        exact size1000 (by omega)
      have F4 := F3.met (m ++ nones (nd x))
      have e4 : (m ++ nones (nd x)).map ov = m.map ov ++ (List.replicate (((nd x : Nat) : Int)).toNat [V.non]).flatten := by rw [List.map_append, flat_non, ov_nones, Int.toNat_natCast]
      rw [e4] at F4
      have s4 := F4.same
      refine ⟨_, rfl, a, _, _, _, rfl, rfl, SqT.of (s4 _ _ g1), rfl, _, rfl, _, rfl, _, rfl, H0, qa, ra, la, ma, qv, y, ρ, left, m ++ nones (nd x), b + nd x, Bd, rfl, g5, g6, ok.2.2.2.1, hl2.2, hB, ⟨kvs, F4, mr, by omega, ?_⟩, by omega, hBd, q1⟩
      have ln : (nones (nd x)).length = nd x := by unfold nones; rw [List.length_replicate]
      rw [List.length_append, ln]; omega
    · rw [if_neg c] at q1
      refine ifT (by rw [decide_eq_false c]; rfl) ?_
      refine ⟨_, rfl, a, _, _, _, rfl, rfl, SqT.of (F1.same _ _ g1), rfl, _, rfl, _, rfl, _, rfl, H0, pa, ra, la, ma, pv', x, ρ, left, m, b, b + wl x, rfl, g3, g4, ok.2.2.1, hl2.1, hB, M1, Nat.le_refl _, by omega, ?_⟩
      refine Met.bgo q1 (by omega) (fun ρ1 l1 o1 e1 h9 H2 M2 => ?_) (fun H1 z => ⟨false, rfl, ifT rfl z⟩)
      obtain ⟨kvs2, F2, mr2, mk2, mm2⟩ := M2
      refine ⟨true, rfl, ifF rfl ?_⟩
      refine ⟨_, rfl, .inl ⟨rfl, _, SqL.of F2.h3⟩, (by show 1 ≤ sizeLine; decide), fun p hp => ?_⟩
      have F3 := F2.step (same_new hp (.lst [.non]))
      refine ⟨_, rfl, a, _, _, _, rfl, rfl, SqT.of (F3.same _ _ g1), rfl, qa, qv, y, rfl, F3.same _ _ g5, g6.keep (Kp.of F3.same), ok.2.2.2.1, hl2.2, ?_⟩
      refine ⟨p, _, [.non], rfl, rfl, upd_same, by omega, by omega, ?_, fun p2 hp2 => ?_⟩
      · show 1 * (((nd y : Nat) : Int)).toNat ≤ sizeLine
        exact size1000 (by omega)
      have F4 := F3.step (same_new hp2 (.lst (List.replicate (((nd y : Nat) : Int)).toNat [V.non]).flatten))
      refine ⟨ma, p2, _, _, rfl, rfl, F4.h3, upd_same, ?_, ?_⟩
      · rw [flat_non, List.length_map, List.length_replicate]
        exact size1000 (by omega)
      have F5 := F4.met (m ++ o1 ++ nones (nd y))
      have e4 : (m ++ o1 ++ nones (nd y)).map ov = (m ++ o1).map ov ++ (List.replicate (((nd y : Nat) : Int)).toNat [V.non]).flatten := by rw [List.map_append, flat_non, ov_nones, Int.toNat_natCast]
      rw [e4] at F5
      refine h9 _ ⟨kvs2, F5, mr2, by omega, ?_⟩
      have ln : (nones (nd y)).length = nd y := by unfold nones; rw [List.length_replicate]
      rw [List.length_append, ln]; omega
  | rep n x r2 =>
    obtain ⟨a', pa, pv', vs', e, g1, g2, g3, g4⟩ := hR
    cases e
    cases g4.none
    have g1' := s0 _ _ g1
    have hw : b + (1 + n * wl x) ≤ Bd := by simp only [wl] at hb; omega
    have hl2 : lev x < j := by simp only [lev] at hl; omega
    have hn60 : n ≤ 60 := ok.1
    have q1 : Met H0 ra la ma m Bd Q ((many (ugo x) n ρ left).bnd (ugo .nil)) := q
    rw [bnd_nil] at q1
    refine ⟨_, rfl, a, _, _, _, rfl, rfl, SqT.of g1', rfl, rfl, _, rfl, ifT (by decide +kernel) ?_⟩
    refine ⟨_, rfl, a, _, _, _, rfl, rfl, SqT.of g1', rfl, (n : Int), rfl, by omega, by omega, ?_⟩
    refine for_range (n := (n : Int).toNat) (fun i σ H' => ∃ (o : Option V) (ρ : Rm) (left : List Int) (m : List (Option Int)) (b : Nat), σ = [some (.ref a), some (.ref ra), some (.ref la), some (.ref ma), o] ∧
        RmB ρ ∧ MAt H0 H' ra la ma ρ left m b ∧ b + (n - i) * wl x ≤ Bd ∧ Met H0 ra la ma m Bd Q (many (ugo x) (n - i) ρ left)) ⟨none, ρ, left, m, b, rfl, hB, M, by rw [Nat.sub_zero]; omega, q1⟩ ?_ ?_
    · clear q q1 hB M hb hw F mr mk mm
      rintro i σ H' hi ⟨o, ρ, left, m, b, rfl, hB, M, hb, q⟩
      have em : n - i = (n - (i + 1)) + 1 := by omega
      rw [em] at q hb
      rw [Nat.succ_mul] at hb
      have q2 : Met H0 ra la ma m Bd Q ((ugo x ρ left).bnd (many (ugo x) (n - (i + 1)))) := q
      refine ⟨_, rfl, a, _, _, _, rfl, rfl, SqT.of (M.same _ _ g1), rfl, _, rfl, _, rfl, _, rfl, H0, pa, ra, la, ma, pv', x, ρ, left, m, b, b + wl x, rfl, g2, g3, ok.2.1, hl2, hB, M, Nat.le_refl _, by omega, ?_⟩
      have g0 := gd x ρ left ok.2.1 hB
      refine Met.split q2 (by omega) (fun ρ1 l1 o1 e1 h9 H1 M1 => ?_) (fun H1 z => ⟨false, rfl, ifT rfl z⟩)
      rw [e1] at g0
      exact ⟨true, rfl, ifF rfl ⟨_, ρ1, l1, m ++ o1, _, rfl, g0, M1, by omega, h9⟩⟩
    · clear q q1 hB M hb hw F mr mk mm
      rintro σ H' ⟨o, ρ, left, m, b, rfl, hB, M, hb, q⟩
      have e0 : n - (n : Int).toNat = 0 := by omega
      rw [e0] at q
      exact q _ (by rw [List.append_nil]; exact M.mono (by omega))
theorem ok_metR {f g gd' : Addr} {fd gd gdd : FuncData} (D : Df K mg "met_rows" sMetR ["rows", "room", "left", "met"] f fd) (DB : Df K mg "met_block" sMetB ["row", "room", "left", "met"] g gd) (DD : Df K mg "draws_in" sDraws ["rows"] gd' gdd) (B : Bl mg)
    (GW : Cal P w K mg base CX0 7 "worth" ["term", "room"] (spWorth 4)) : ∀ j : Nat, Cal P w K mg base CX0 (7 + 2 * j) "met_rows" ["rows", "room", "left", "met"] (spMetR j)
  | 0 => D.never fun vs H Q E h => by
    obtain ⟨H0, pr, ra, la, ma, vs0, r, ρ, left, m, b, Bd, _, _, _, _, hl, _⟩ := h
    exact absurd hl (Nat.not_lt_zero _)
  | j + 1 => ok_metR1 D (Nat.le_trans (Nat.le_add_right 7 (2 * j)) (Nat.le_succ _)) GW (ok_metB1 DB B (Nat.le_add_right 7 (2 * j)) (show j ≤ 7 + 2 * j by omega) GW (ok_draws DD j) (ok_metR D DB DD B GW j))

/-! ### met_sides -/
def Told (cN : Addr) (H : Hp) (ds : List Sds) (Q : VK) (E : XK) : Res → Prop
  | .go _ _ o => ∀ H' p, Same H H' → H p = none → H' p = some (.lst ((pad ds o).map ov)) → Q (.ref p) H'
  | .shut _ _ o => ∀ H' p, Same H H' → H p = none → H' p = some (.lst ((pad ds o).map ov)) → Q (.ref p) H'
  | .opn _ => ∀ H', Same H H' → E (.ref cN) none H'
  | .bad => ∀ H', Same H H' → E (.ref cN) none H'
def spMetS (cN : Addr) : Sp := fun vs H Q E => ∃ (pa ah : Addr) (us : List Int) (r : Rws) (t : Tm), vs = [.ref pa, .ref ah] ∧ PgAt H pa r t ∧ H ah = some (.tup (us.map V.int)) ∧ us.length ≤ 1000 ∧
  Told cN H (drw r) Q E (ugo r (fun _ => 0) us)
theorem scMetS : FnScope ["program", "sides", "met"] ["program", "sides"] (defScope sMetS) := ⟨rfl, rfl, rfl, by decide +kernel, rfl, by decide +kernel, by decide +kernel⟩
theorem ok_metS {f C cN : Addr} {fd : FuncData} (D : Df K mg "met_sides" sMetS ["program", "sides"] f fd) (T : Tw K mg C cN) (B : Bl mg) (GT : Cal P w K mg base (L2.CX P w) 21 "tour" ["program", "sides"] (spTour cN))
    (GD : Cal P w K mg base CX0 6 "draws_in" ["rows"] (spDraws 6)) (GR : Cal P w K mg base CX0 19 "met_rows" ["rows", "room", "left", "met"] (spMetR 6)) :
    Cal P w K mg base (L2.CX P w) 22 "met_sides" ["program", "sides"] (spMetS cN) := by
  refine D.cal (D.fn.okX scMetS (fun vs H Q E h => ?_) (fun cdv A outer s H vs Q E hr h => ?_))
  · obtain ⟨pa, ah, us, r, t, rfl, _⟩ := h
    rfl
  obtain ⟨pa, ah, us, r, t, rfl, Pg, hah, hus, q⟩ := h
  have hrD : Room 6 _ := hr.mono (by decide)
  have hrR : Room 19 _ := hr.mono (by decide)
  refine ⟨_, pss_cons (ps_if (pt_cmpR op_eq (pe_ix ix_tup (pe_cal GT hr rfl (passes_call (takes_of rfl rfl rfl rfl) (fun _ _ _ _ h => h)) (pa_cons (pv 0) (pa_cons (pv 1) pa_nil))) pe_int (fun _ _ => rfl)) pe_str (nomark _))
      (pss_one (ps_raise rfl (takes_of rfl rfl rfl rfl) (pmk_own PySem.F.excBase_ValueError T.xN T.gN T.kN (raises_own T.bN T.tN) rfl))) pss_nil)
    (pss_cons (ps_set (i := 2) scMetS.nd rfl (.inl rfl) (pe_lst pa_nil))
    (pss_cons (ps_expr (pe_cal GR hrR rfl pass0 (pa_cons (pe_ix ix_tup (pv 0) pe_int (fun _ _ => rfl)) (pa_cons pe_dnewK (pa_cons (pe_callTy call_list_of (by rfl) B.list (by decide +kernel) (pa_cons (pv 1) pa_nil)) (pa_cons (pv 2) pa_nil))))))
    (pss_one (ps_ret (pe_op op_cat (pv 2) (pe_op op_rep (pe_lst (pa_cons pe_non pa_nil)) (pe_op op_sub (pe_cal GD hrD rfl pass0 (pa_cons (pe_ix ix_tup (pv 0) pe_int (fun _ _ => rfl)) pa_nil)) (pe_callB call_len_seq (by rfl) B.len PySem.boot_len (pa_cons (pv 2) pa_nil))))))))), ?_⟩
  obtain ⟨pr, tv, vs0, h1, h2, h3, h4⟩ := Pg.ex
  -- what follows the test, where the way comes through or is shut
  refine ⟨_, rfl, _, rfl, pa, ah, us, r, t, rfl, Pg, hah, hus, ?_⟩
  have wlr := Pg.wlr
  have key : ∀ (H1 : Hp), Same H H1 → (∀ (ma ra la : Addr) (H4 : Hp) (ρ' : Rm) (l' : List Int) (o : List (Option Int)), H ma = none → MAt H1 H4 ra la ma ρ' l' o 900 →
      ((∃ ρ l, ugo r (fun _ => 0) us = .go ρ l o) ∨ (∃ ρ l, ugo r (fun _ => 0) us = .shut ρ l o)) → ∀ p1, H4 p1 = none → ∀ p2, (upd H4 p1 (.lst [V.non])) p2 = none → ∀ p3, (upd (upd H4 p1 (.lst [V.non])) p2 (.lst (List.replicate ((nd r : Int) - ((o.map ov).length : Int)).toNat [V.non]).flatten)) p3 = none →
      Q (.ref p3) (upd (upd (upd H4 p1 (.lst [V.non])) p2 (.lst (List.replicate ((nd r : Int) - ((o.map ov).length : Int)).toNat [V.non]).flatten)) p3 (.lst (o.map ov ++ (List.replicate ((nd r : Int) - ((o.map ov).length : Int)).toNat [V.non]).flatten)))) := by
    intro H1 g1 ma ra la H4 ρ' l' o nma M hres p1 n1 p2 n2 p3 n3
    have s4 : Same H H4 := g1.trans M.same
    have s5 := s4.trans (same_new n1 (.lst [V.non]))
    have s6 := s5.trans (same_new n2 (.lst (List.replicate ((nd r : Int) - ((o.map ov).length : Int)).toNat [V.non]).flatten))
    have s7 := s6.trans (same_new n3 (.lst (o.map ov ++ (List.replicate ((nd r : Int) - ((o.map ov).length : Int)).toNat [V.non]).flatten)))
    have e : o.map ov ++ (List.replicate ((nd r : Int) - ((o.map ov).length : Int)).toNat [V.non]).flatten = (pad (drw r) o).map ov := by
      unfold pad
      rw [List.map_append, flat_non, ov_nones, List.length_map]
      congr 1
      congr 1
      unfold nd
      omega
    have np : H p3 = none := s6.free n3
    rcases hres with ⟨ρ, l, er⟩ | ⟨ρ, l, er⟩
    · rw [er] at q
      exact q _ p3 s7 np (by rw [upd_same, e])
    · rw [er] at q
      exact q _ p3 s7 np (by rw [upd_same, e])
  cases er : ugo r (fun _ => 0) us with
  | bad => rw [er] at q; exact q
  | opn m =>
    rw [er] at q
    intro H1 g1 a xs ha
    exact ⟨a, _, _, _, rfl, rfl, SqT.of ha, at0 _ _, rfl, _, rfl, ifT (by decide +kernel) (q _ g1)⟩
  | go ρ l o =>
    intro H1 s g1 ns a xs ha
    refine ⟨a, _, _, _, rfl, rfl, SqT.of ha, at0 _ _, rfl, _, rfl, ifF (by rw [str_dec]; exact decide_eq_false ns) ?_⟩
    refine ⟨Nat.zero_le _, fun ma hma => ?_⟩
    have s2 := g1.trans (same_new hma (.lst []))
    refine ⟨_, rfl, pa, _, _, _, rfl, rfl, SqT.of (s2 _ _ h1), rfl, ?_⟩
    intro ra hra
    have s3 := s2.trans (same_new hra (.dK []))
    refine ⟨_, rfl, ah, _, rfl, .inr (SqT.of (s3 _ _ hah)), fun la hla => ?_⟩
    have nra : ra ≠ ma := (ne_of_none upd_same hra).symm
    have nla : la ≠ ma := fun z => by
      subst z
      rw [upd_ne nra.symm, upd_same] at hla
      cases hla
    have nlr : la ≠ ra := fun z => by
      subst z
      rw [upd_same] at hla
      cases hla
    have ora : H1 ra = none := by rw [upd_ne nra] at hra; exact hra
    have ola : H1 la = none := by rw [upd_ne nlr, upd_ne nla] at hla; exact hla
    have F : MF H1 (upd (upd (upd H1 ma (.lst [])) ra (.dK [])) la (.lst (us.map V.int))) ra la ma [] us [] :=
      ⟨same_own (same_own (same_own (Same.refl H1) hma) ora) ola, ora, ola, hma, nla, by rw [upd_ne nlr.symm, upd_same], upd_same, by rw [upd_ne nla.symm, upd_ne nra.symm, upd_same]; rfl⟩
    refine ⟨_, rfl, H1, pr, ra, la, ma, vs0, r, fun _ => 0, us, [], 0, 900, rfl, g1 _ _ h2, h3.keep (Kp.of g1), Pg.ok, Pg.lv, RmB.zero, ⟨[], F, RmIs.nil, by decide, by decide⟩, by omega, by omega, ?_⟩
    rw [er]
    intro H4 M4
    rw [List.nil_append] at M4
    obtain ⟨kvs, F4, r4, k4, m4⟩ := id M4
    have s4 := g1.trans M4.same
    refine ⟨_, rfl, (by show 1 ≤ sizeLine; decide), fun p1 hp1 => ?_⟩
    have s5 := s4.trans (same_new hp1 (.lst [V.non]))
    have F5 := F4.step (same_new hp1 (.lst [V.non]))
    refine ⟨_, rfl, pa, _, _, _, rfl, rfl, SqT.of (s5 _ _ h1), rfl, pr, vs0, r, rfl, s5 _ _ h2, h3.keep (Kp.of s5), Pg.ok, Pg.lv, ?_⟩
    refine ⟨_, rfl, ma, _, rfl, .inl (SqL.of F5.h3), _, _, rfl, rfl, ?_⟩
    have hnd := nd_wl r
    refine ⟨p1, _, [.non], rfl, rfl, upd_same, by rw [List.length_map]; omega, by rw [List.length_map]; omega, ?_, fun p2 hp2 => ?_⟩
    · show 1 * ((nd r : Int) - ((o.map ov).length : Int)).toNat ≤ sizeLine
      exact size1000 (by omega)
    have F6 := F5.step (same_new hp2 (.lst (List.replicate ((nd r : Int) - ((o.map ov).length : Int)).toNat [V.non]).flatten))
    refine ⟨ma, p2, _, _, rfl, rfl, F6.h3, upd_same, ?_, fun p3 hp3 => ?_⟩
    · rw [flat_non, List.length_map, List.length_replicate]
      exact Nat.le_trans (show _ ≤ 1000 + 900 by omega) (by decide)
    exact key H1 g1 ma ra la H4 ρ l o (g1.free hma) M4 (.inl ⟨ρ, l, er⟩) p1 hp1 p2 hp2 p3 hp3
  | shut ρ l o =>
    intro H1 s g1 ns a xs ha
    refine ⟨a, _, _, _, rfl, rfl, SqT.of ha, at0 _ _, rfl, _, rfl, ifF (by rw [str_dec]; exact decide_eq_false ns) ?_⟩
    refine ⟨Nat.zero_le _, fun ma hma => ?_⟩
    have s2 := g1.trans (same_new hma (.lst []))
    refine ⟨_, rfl, pa, _, _, _, rfl, rfl, SqT.of (s2 _ _ h1), rfl, ?_⟩
    intro ra hra
    have s3 := s2.trans (same_new hra (.dK []))
    refine ⟨_, rfl, ah, _, rfl, .inr (SqT.of (s3 _ _ hah)), fun la hla => ?_⟩
    have nra : ra ≠ ma := (ne_of_none upd_same hra).symm
    have nla : la ≠ ma := fun z => by
      subst z
      rw [upd_ne nra.symm, upd_same] at hla
      cases hla
    have nlr : la ≠ ra := fun z => by
      subst z
      rw [upd_same] at hla
      cases hla
    have ora : H1 ra = none := by rw [upd_ne nra] at hra; exact hra
    have ola : H1 la = none := by rw [upd_ne nlr, upd_ne nla] at hla; exact hla
    have F : MF H1 (upd (upd (upd H1 ma (.lst [])) ra (.dK [])) la (.lst (us.map V.int))) ra la ma [] us [] :=
      ⟨same_own (same_own (same_own (Same.refl H1) hma) ora) ola, ora, ola, hma, nla, by rw [upd_ne nlr.symm, upd_same], upd_same, by rw [upd_ne nla.symm, upd_ne nra.symm, upd_same]; rfl⟩
    refine ⟨_, rfl, H1, pr, ra, la, ma, vs0, r, fun _ => 0, us, [], 0, 900, rfl, g1 _ _ h2, h3.keep (Kp.of g1), Pg.ok, Pg.lv, RmB.zero, ⟨[], F, RmIs.nil, by decide, by decide⟩, by omega, by omega, ?_⟩
    rw [er]
    intro H4 M4
    rw [List.nil_append] at M4
    obtain ⟨kvs, F4, r4, k4, m4⟩ := id M4
    have s4 := g1.trans M4.same
    refine ⟨_, rfl, (by show 1 ≤ sizeLine; decide), fun p1 hp1 => ?_⟩
    have s5 := s4.trans (same_new hp1 (.lst [V.non]))
    have F5 := F4.step (same_new hp1 (.lst [V.non]))
    refine ⟨_, rfl, pa, _, _, _, rfl, rfl, SqT.of (s5 _ _ h1), rfl, pr, vs0, r, rfl, s5 _ _ h2, h3.keep (Kp.of s5), Pg.ok, Pg.lv, ?_⟩
    refine ⟨_, rfl, ma, _, rfl, .inl (SqL.of F5.h3), _, _, rfl, rfl, ?_⟩
    have hnd := nd_wl r
    refine ⟨p1, _, [.non], rfl, rfl, upd_same, by rw [List.length_map]; omega, by rw [List.length_map]; omega, ?_, fun p2 hp2 => ?_⟩
    · show 1 * ((nd r : Int) - ((o.map ov).length : Int)).toNat ≤ sizeLine
      exact size1000 (by omega)
    have F6 := F5.step (same_new hp2 (.lst (List.replicate ((nd r : Int) - ((o.map ov).length : Int)).toNat [V.non]).flatten))
    refine ⟨ma, p2, _, _, rfl, rfl, F6.h3, upd_same, ?_, fun p3 hp3 => ?_⟩
    · rw [flat_non, List.length_map, List.length_replicate]
      exact Nat.le_trans (show _ ≤ 1000 + 900 by omega) (by decide)
    exact key H1 g1 ma ra la H4 ρ l o (g1.free hma) M4 (.inr ⟨ρ, l, er⟩) p1 hp1 p2 hp2 p3 hp3
end
end Lot

/-! the law's small helpers: numbers, sides -/
namespace Lot
open PySem L2
abbrev sCell : Stmt := top 28
abbrev sNum : Stmt := top 29
abbrev sSds : Stmt := top 30
abbrev sRaised : Stmt := top 34
abbrev sAgain : Stmt := top 38
section
variable {P : Program} {w : World} {K : PySem.W.Frag} {mg : Str → Option Value} {base : Heap}
theorem item_map {ns : List Int} {i : Nat} (h : i < ns.length) : atI (ns.map V.int) ((i : Nat) : Int) = some (.int ns[i]) := atI_nat (by
  rw [List.getElem?_map, List.getElem?_eq_getElem h]; rfl)
/-! ### _law_cell -/
def spCell (K : PySem.W.Frag) : Sp := fun vs H Q _ => ∃ (a : Addr) (ns : List Int) (k : Nat), vs = [.ref a, .int k] ∧ SqL K H a (ns.map V.int) ∧ ∀ i : Int, Q (.int i) H
theorem scCell : FnScope ["script", "k"] ["script", "k"] (defScope sCell) := ⟨rfl, rfl, rfl, by decide +kernel, rfl, by decide +kernel, by decide +kernel⟩
theorem ok_cell {f : Addr} {fd : FuncData} (D : Df K mg "_law_cell" sCell ["script", "k"] f fd) (B : Bl mg) : Cal P w K mg base CX0 1 "_law_cell" ["script", "k"] (spCell K) := by
  refine D.cal (D.fn.ok scCell (fun vs H Q E h => ?_) (fun cdv A outer s H vs Q E hr h => ?_))
  · obtain ⟨a, ns, k, rfl, _⟩ := h
    rfl
  obtain ⟨a, ns, k, rfl, hS, q⟩ := h
  refine ⟨_, pss_cons (ps_if (pt_cmpR op_lt (pv 1) (pe_callB call_len_seq (by rfl) B.len PySem.boot_len (pa_cons (pv 0) pa_nil)) (nomark _)) (pss_one (ps_ret (pe_ix ix_list (pv 0) (pv 1) (fun _ _ => rfl)))) pss_nil)
    (pss_one (ps_ret pe_int)), ?_⟩
  refine ⟨_, rfl, _, rfl, a, _, rfl, .inl hS, _, _, rfl, rfl, _, rfl, ?_⟩
  rw [List.length_map]
  refine if2 (fun c => ?_) (fun c => q 0)
  exact ⟨_, rfl, _, rfl, a, _, _, _, rfl, rfl, hS, item_map (by omega), q _⟩
/-! ### _law_number -/
def spNum : Sp := fun vs H Q _ => ∃ c : Int, vs = [.int c] ∧ ∀ i : Int, InB i → Q (.int i) H
theorem scNum : FnScope ["cell"] ["cell"] (defScope sNum) := ⟨rfl, rfl, rfl, by decide +kernel, rfl, by decide +kernel, by decide +kernel⟩
theorem ten30 : (10 : Int) ^ (30 : Int).toNat = big := by decide
theorem ok_num {f : Addr} {fd : FuncData} (D : Df K mg "_law_number" sNum ["cell"] f fd) : Cal P w K mg base CX0 1 "_law_number" ["cell"] spNum := by
  refine D.cal (D.fn.ok scNum (fun vs H Q E h => ?_) (fun cdv A outer s H vs Q E hr h => ?_))
  · obtain ⟨c, rfl, _⟩ := h
    rfl
  obtain ⟨c, rfl, q⟩ := h
  refine ⟨_, pss_cons (ps_if (pt_cmpR op_eq (pe_op op_mod (pv 0) pe_int) pe_int (nomark _))
      (pss_one (ps_ret (pe_op op_sub (pe_op op_mod (pe_op op_fdiv (pv 0) pe_int) (pe_op op_add (pe_op op_mul pe_int (pe_op op_pow pe_int pe_int)) pe_int)) (pe_op op_pow pe_int pe_int)))) pss_nil)
    (pss_one (ps_ret (pe_op op_sub (pe_op op_mod (pe_op op_fdiv (pv 0) pe_int) pe_int) pe_int))), ?_⟩
  refine ⟨_, rfl, _, _, rfl, rfl, (by show (0 : Int) < 5; decide), rfl, _, rfl, ?_⟩
  refine ite2 (fun _ => ?_) (fun _ => ?_)
  · refine ⟨_, rfl, _, _, rfl, rfl, ⟨by decide, by decide⟩, _, _, rfl, rfl, ⟨by decide, by decide, by decide⟩, _, _, rfl, rfl, .inl ⟨by decide, by decide⟩, _, _, rfl, rfl, _, _, rfl, rfl, ?_, _, _, rfl, rfl, ⟨by decide, by decide, by decide⟩, _, _, rfl, rfl, ?_⟩
    · show (0 : Int) < _
      rw [ten30]; decide
    · rw [ten30]
      refine q _ ?_
      have h1 := Int.emod_nonneg (c / 5) (show (2 * big + 1 : Int) ≠ 0 by decide)
      have h2 := Int.emod_lt_of_pos (c / 5) (show (0 : Int) < 2 * big + 1 by decide)
      show -big ≤ _ ∧ _ ≤ big
      generalize c / 5 % (2 * big + 1) = z at h1 h2 ⊢
      omega
  · refine ⟨_, rfl, _, _, rfl, rfl, ⟨by decide, by decide⟩, _, _, rfl, rfl, (by show (0 : Int) < 7; decide), _, _, rfl, rfl, q _ ?_⟩
    show -big ≤ _ ∧ _ ≤ big
    unfold big
    omega
/-! ### _law_again -/
def agn (r : Int) : Int := if r / 4 % 5 = 1 then r / 20 % 61 else r % 4
theorem agn_lo (r : Int) : 0 ≤ agn r := by unfold agn; split <;> omega
theorem agn_hi (r : Int) : agn r ≤ 60 := by unfold agn; split <;> omega
def spAgain : Sp := fun vs H Q _ => ∃ r : Int, vs = [.int r] ∧ Q (.int (agn r)) H
theorem scAgain : FnScope ["rest"] ["rest"] (defScope sAgain) := ⟨rfl, rfl, rfl, by decide +kernel, rfl, by decide +kernel, by decide +kernel⟩
theorem ok_again {f : Addr} {fd : FuncData} (D : Df K mg "_law_again" sAgain ["rest"] f fd) : Cal P w K mg base CX0 1 "_law_again" ["rest"] spAgain := by
  refine D.cal (D.fn.ok scAgain (fun vs H Q E h => ?_) (fun cdv A outer s H vs Q E hr h => ?_))
  · obtain ⟨c, rfl, _⟩ := h
    rfl
  obtain ⟨r, rfl, q⟩ := h
  refine ⟨_, pss_cons (ps_if (pt_cmpR op_eq (pe_op op_mod (pe_op op_fdiv (pv 0) pe_int) pe_int) pe_int (nomark _))
      (pss_one (ps_ret (pe_op op_mod (pe_op op_fdiv (pv 0) pe_int) pe_int))) pss_nil) (pss_one (ps_ret (pe_op op_mod (pv 0) pe_int))), ?_⟩
  have q : Q (.int (if r / 4 % 5 = 1 then r / 20 % 61 else r % 4)) H := q
  refine ⟨_, rfl, _, _, rfl, rfl, ⟨by decide, by decide⟩, _, _, rfl, rfl, (by show (0 : Int) < 5; decide), rfl, _, rfl, ?_⟩
  rw [int_dec]
  refine if2 (fun c => ?_) (fun c => ?_)
  · rw [if_pos c] at q
    exact ⟨_, rfl, _, _, rfl, rfl, ⟨by decide, by decide⟩, _, _, rfl, rfl, (by show (0 : Int) < 61; decide), q⟩
  · rw [if_neg c] at q
    exact ⟨_, rfl, _, _, rfl, rfl, (by show (0 : Int) < 4; decide), q⟩
/-! ### _law_raised -/
def spRaised : Sp := fun vs H Q _ => ∃ m n : Nat, vs = [.int m, .int n] ∧ m ≤ 6 ∧ n ≤ 1000 ∧ Q (.int ((m ^ n : Nat) : Int)) H
theorem scRaised : FnScope ["many", "factor", "found", "k"] ["many", "factor"] (defScope sRaised) := ⟨rfl, rfl, rfl, by decide +kernel, rfl, by decide +kernel, by decide +kernel⟩
theorem ok_raised {f : Addr} {fd : FuncData} (D : Df K mg "_law_raised" sRaised ["many", "factor"] f fd) (B : Bl mg) : Cal P w K mg base CX0 1 "_law_raised" ["many", "factor"] spRaised := by
  refine D.cal (D.fn.ok scRaised (fun vs H Q E h => ?_) (fun cdv A outer s H vs Q E hr h => ?_))
  · obtain ⟨m, n, rfl, _⟩ := h
    rfl
  obtain ⟨m, n, rfl, hm, hn, q⟩ := h
  refine ⟨_, pss_cons (ps_set (i := 2) scRaised.nd rfl (.inl rfl) pe_int)
    (pss_cons (ps_for PassesOwn.never rfl (pi_range1 (by rfl) B.range (pa_cons (pv 1) pa_nil)) (pg_name (i := 3) scRaised.nd rfl (.inl rfl)) (pss_one (ps_set (i := 2) scRaised.nd rfl (.inl rfl) (pe_op op_mul (pv 2) (pv 0)))))
    (pss_one (ps_ret (pv 2)))), ?_⟩
  refine ⟨_, rfl, (n : Int), rfl, by omega, by omega, ?_⟩
  refine for_range (n := (n : Int).toNat) (fun i σ H' => H' = H ∧ ∃ o : Option V, σ = [some (.int m), some (.int n), some (.int ((m ^ i : Nat) : Int)), o]) ⟨rfl, none, by rw [Nat.pow_zero]; rfl⟩ ?_ ?_
  · rintro i σ H' hi ⟨rfl, o, rfl⟩
    refine ⟨_, rfl, _, rfl, _, _, rfl, rfl, .inr ⟨by omega, by omega⟩, rfl, some (.int (0 + (i : Int))), ?_⟩
    rw [Nat.pow_succ, Int.natCast_mul]
    rfl
  · rintro σ H' ⟨rfl, o, rfl⟩
    rw [Int.toNat_natCast]
    exact ⟨_, rfl, q⟩
/-! ### _law_sides -/
theorem cut_drop (xs : List V) (t : Nat) : cutV xs (some (t : Int)) none = xs.drop t := by
  unfold cutV
  rw [HT.sIx_nat, HT.sIx_none]
  rcases Nat.le_total t xs.length with h | h
  · rw [Nat.min_eq_left h]
    exact List.take_of_length_le (by rw [List.length_drop]; omega)
  · rw [Nat.min_eq_right h, List.drop_eq_nil_of_le (Nat.le_refl _), List.drop_eq_nil_of_le h]
    simp
theorem cut_take (xs : List V) (t : Nat) : cutV xs none (some (t : Int)) = xs.take t := by
  unfold cutV
  rw [HT.sIx_nat, HT.sIx_none, List.drop_zero, Nat.sub_zero]
  rcases Nat.le_total t xs.length with h | h
  · rw [Nat.min_eq_left h]
  · rw [Nat.min_eq_right h, List.take_of_length_le (Nat.le_refl _), List.take_of_length_le h]
theorem SdV.nil {H : Hp} : SdV H [] [] := ⟨rfl, fun i a b e => by simp at e⟩
theorem SdV.snoc {H : Hp} {vs : List V} {sd : Sds} {q : Addr} {a b : Int} (h : SdV H vs sd) (hq : H q = some (.tup [.int a, .int b])) : SdV H (vs ++ [.ref q]) (sd ++ [(a, b)]) := by
  refine ⟨by rw [List.length_append, List.length_append, h.1]; rfl, fun i x y e => ?_⟩
  by_cases hi : i < sd.length
  · rw [List.getElem?_append_left hi] at e
    obtain ⟨p, e1, e2⟩ := h.2 i x y e
    exact ⟨p, by rw [List.getElem?_append_left (by rw [h.1]; exact hi)]; exact e1, e2⟩
  · have hl := (List.getElem?_eq_some_iff.mp e).1
    rw [List.length_append, List.length_singleton] at hl
    have ei : i = sd.length := by omega
    subst ei
    rw [List.getElem?_append_right (Nat.le_refl _), Nat.sub_self] at e
    cases e
    exact ⟨q, by rw [← h.1, List.getElem?_append_right (Nat.le_refl _), Nat.sub_self]; rfl, hq⟩
theorem SdV.turn {H : Hp} {vs : List V} {sd : Sds} (h : SdV H vs sd) (t : Nat) (ht : t ≤ sd.length) : SdV H (vs.drop t ++ vs.take t) (sd.drop t ++ sd.take t) := by
  have hl := h.1
  refine ⟨by simp [hl], fun i x y e => ?_⟩
  by_cases hi : i < sd.length - t
  · rw [List.getElem?_append_left (by rw [List.length_drop]; exact hi), List.getElem?_drop] at e
    obtain ⟨p, e1, e2⟩ := h.2 _ x y e
    exact ⟨p, by rw [List.getElem?_append_left (by rw [List.length_drop]; omega), List.getElem?_drop]; exact e1, e2⟩
  · rw [List.getElem?_append_right (by rw [List.length_drop]; omega), List.length_drop] at e
    have hk := (List.getElem?_eq_some_iff.mp e).1
    rw [List.length_take] at hk
    rw [List.getElem?_take_of_lt (by omega)] at e
    obtain ⟨p, e1, e2⟩ := h.2 _ x y e
    exact ⟨p, by rw [List.getElem?_append_right (by rw [List.length_drop]; omega), List.length_drop, hl, List.getElem?_take_of_lt (by omega)]; exact e1, e2⟩
def spSds : Sp := fun vs H Q _ => ∃ (n : Int) (m : Nat), vs = [.int n, .int m] ∧ 1 ≤ m ∧ m ≤ 6 ∧ ∀ (H' : Hp) (v : V) (sd : Sds), Same H H' → SdAt H' v sd → SdOk sd → Q v H'
abbrev nSds : List Str := ["number", "many", "first", "gap", "sides", "rest", "k", "weight", "turn"]
theorem scSds : FnScope nSds ["number", "many"] (defScope sSds) := ⟨rfl, rfl, rfl, by decide +kernel, rfl, by decide +kernel, by decide +kernel⟩
/-- how far the values go -/
def GapOk (a g : Int) : Prop := InB a ∧ ((0 < a ∧ -(10 ^ 29) ≤ g ∧ g ≤ -1) ∨ (a ≤ 0 ∧ 1 ≤ g ∧ g ≤ 10 ^ 29))
theorem gap_in {a g : Int} (h : GapOk a g) {k : Nat} (hk : k ≤ 5) : InB (a + (k : Int) * g) := by
  obtain ⟨⟨h1, h2⟩, h⟩ := h
  show -big ≤ _ ∧ _ ≤ big
  unfold big at *
  rcases h with ⟨h3, h4, h5⟩ | ⟨h3, h4, h5⟩
  · have e1 : (k : Int) * g ≤ 0 := Int.mul_nonpos_of_nonneg_of_nonpos (by omega) (by omega)
    have e2 : (k : Int) * (-(10 ^ 29)) ≤ (k : Int) * g := Int.mul_le_mul_of_nonneg_left h4 (by omega)
    omega
  · have e1 : 0 ≤ (k : Int) * g := Int.mul_nonneg (by omega) (by omega)
    have e2 : (k : Int) * g ≤ (k : Int) * 10 ^ 29 := Int.mul_le_mul_of_nonneg_left h5 (by omega)
    omega
theorem ok_sds {f : Addr} {fd : FuncData} (D : Df K mg "_law_sides" sSds ["number", "many"] f fd) (B : Bl mg) (G_law_number : Cal P w K mg base CX0 1 "_law_number" ["cell"] spNum) : Cal P w K mg base CX0 2 "_law_sides" ["number", "many"] spSds := by
  refine D.cal (D.fn.ok scSds (fun vs H Q E h => ?_) (fun cdv A outer s H vs Q E hr h => ?_))
  · obtain ⟨m, n, rfl, _⟩ := h
    rfl
  obtain ⟨n, m, rfl, hm1, hm6, q⟩ := h
  refine ⟨_, (pss_cons (ps_set (i := 2) scSds.nd rfl (.inl rfl) (pe_cal G_law_number hr rfl pass0 (pa_cons (pv 0) pa_nil)))
    (pss_cons (ps_set (i := 3) scSds.nd rfl (.inl rfl) pe_int)
    (C8.pss_cut (ps_if (pt_cmpR op_eq (pe_op op_mod (pe_op op_fdiv (pv 0) pe_int) pe_int) pe_int (nomark _))
      (pss_one (ps_set (i := 3) scSds.nd rfl (.inl rfl) (pe_op op_add pe_int (pe_op op_mod (pe_op op_fdiv (pv 0) pe_int) (pe_op op_pow pe_int pe_int)))))
      pss_nil)
    (C8.pss_cut (ps_if (pt_cmpR op_gt (pv 2) pe_int (nomark _))
      (pss_one (ps_set (i := 3) scSds.nd rfl (.inl rfl) (pe_un un_neg (pv 3))))
      pss_nil)
    (pss_cons (ps_set (i := 4) scSds.nd rfl (.inl rfl) (pe_lst pa_nil))
    (pss_cons (ps_set (i := 5) scSds.nd rfl (.inl rfl) (pe_op op_fdiv (pv 0) pe_int))
    (pss_cons (ps_for PassesOwn.never rfl (pi_range1 (by rfl) B.range (pa_cons (pv 1) pa_nil)) (pg_name (i := 6) scSds.nd rfl (.inl rfl))
      (pss_cons (ps_set (i := 7) scSds.nd rfl (.inl rfl) (pe_op op_add pe_int (pe_op op_mod (pv 5) pe_int)))
      (C8.pss_cut (ps_if (pt_cmpR op_eq (pe_op op_mod (pv 0) pe_int) pe_int (nomark _))
        (pss_one (ps_set (i := 7) scSds.nd rfl (.inl rfl) (pe_op op_add pe_int (pe_op op_mod (pv 5) (pe_op op_pow pe_int pe_int)))))
        pss_nil)
      (pss_cons (ps_expr (pe_bm PySem.F.plainAttrs_list PySem.F.slot_list_append PySem.F.type_list_append mt_append (pv 4) (pa_cons (pe_tup (pa_cons (pe_op op_add (pv 2) (pe_op op_mul (pv 6) (pv 3))) (pa_cons (pv 7) pa_nil))) pa_nil)))
      (pss_one (ps_set (i := 5) scSds.nd rfl (.inl rfl) (pe_op op_fdiv (pv 5) pe_int)))))))
    (pss_cons (ps_set (i := 8) scSds.nd rfl (.inl rfl) (pe_op op_modN (pe_op op_fdiv (pv 0) pe_int) (pv 1)))
    (pss_one (ps_ret (pe_callTy call_tuple_of (by rfl) B.tuple (by decide +kernel) (pa_cons (pe_op op_cat (pe_slice sl_list (pv 4) (po_some (pv 8)) po_none) (pe_slice sl_list (pv 4) po_none (po_some (pv 8)))) pa_nil)))))))))))), ?_⟩
  refine ⟨_, rfl, n, rfl, fun a ha => ?_⟩
  -- the gap
  refine ⟨fun σ H' => H' = H ∧ ∃ g : Int, 1 ≤ g ∧ g ≤ 10 ^ 29 ∧ σ = [some (.int n), some (.int m), some (.int a), some (.int g), none, none, none, none, none], ?_, ?_⟩
  · refine ⟨_, rfl, _, _, rfl, rfl, ⟨by decide, by decide⟩, _, _, rfl, rfl, (by show (0 : Int) < 4; decide), rfl, _, rfl, ?_⟩
    refine ite2 (fun _ => ?_) (fun _ => ?_)
    · refine ⟨_, rfl, _, _, rfl, rfl, ⟨by decide, by decide⟩, _, _, rfl, rfl, ⟨by decide, by decide, by decide⟩, _, _, rfl, rfl, (show (0 : Int) < 10 ^ (29 : Int).toNat by decide), _, _, rfl, rfl, rfl, _, ?_, ?_, rfl⟩
      · have h1 := Int.emod_nonneg (n / 20) (show (10 : Int) ^ (29 : Int).toNat ≠ 0 by decide)
        omega
      · have h2 := Int.emod_lt_of_pos (n / 20) (show (0 : Int) < 10 ^ (29 : Int).toNat by decide)
        have e : (10 : Int) ^ (29 : Int).toNat = 10 ^ 29 := by decide
        rw [e] at h2 ⊢
        omega
    · exact ⟨rfl, 1, by decide, by decide, rfl⟩
  rintro σ H' ⟨rfl, g0, hg1, hg2, rfl⟩
  refine ⟨fun σ H'' => H'' = H' ∧ ∃ g : Int, GapOk a g ∧ σ = [some (.int n), some (.int m), some (.int a), some (.int g), none, none, none, none, none], ?_, ?_⟩
  · refine ⟨_, rfl, _, _, rfl, rfl, _, rfl, if2 (fun c => ?_) (fun c => ?_)⟩
    · exact ⟨_, rfl, _, rfl, rfl, _, ⟨ha, .inl ⟨c, by omega, by omega⟩⟩, rfl⟩
    · exact ⟨rfl, _, ⟨ha, .inr ⟨by omega, by omega, by omega⟩⟩, rfl⟩
  rintro σ H ⟨rfl, g, hg, rfl⟩
  refine ⟨Nat.zero_le _, fun L hL => ?_⟩
  refine ⟨_, rfl, _, _, rfl, rfl, ⟨by decide, by decide⟩, ?_⟩
  refine ⟨_, rfl, (m : Int), rfl, by omega, by omega, ?_⟩
  refine for_range (n := (m : Int).toNat) (fun i σ H' => ∃ (r : Int) (o1 o2 : Option V) (vs : List V) (sd : Sds), σ = [some (.int n), some (.int m), some (.int a), some (.int g), some (.ref L), some (.int r), o1, o2, none] ∧
      Same H H' ∧ H' L = some (.lst vs) ∧ SdV H' vs sd ∧ sd.length = i ∧ ∀ p ∈ sd, InB p.1 ∧ 1 ≤ p.2 ∧ p.2 ≤ big)
    ⟨_, none, none, [], [], rfl, same_new hL _, upd_same, SdV.nil, rfl, fun p hp => absurd hp List.not_mem_nil⟩ ?_ ?_
  · rintro i σ H' hi ⟨r, o1, o2, vs, sd, rfl, s1, hl, hv, hn, hok⟩
    have hi' : i < m := by omega
    -- the weight
    refine ⟨_, rfl, _, _, rfl, rfl, (by show (0 : Int) < 5; decide), _, _, rfl, rfl, ?_⟩
    refine ⟨fun σ H'' => H'' = H' ∧ ∃ z : Int, 1 ≤ z ∧ z ≤ big ∧ σ = [some (.int n), some (.int m), some (.int a), some (.int g), some (.ref L), some (.int r), some (.int (0 + (i : Int))), some (.int z), none], ?_, ?_⟩
    · refine ⟨_, rfl, _, _, rfl, rfl, (by show (0 : Int) < 3; decide), rfl, _, rfl, ite2 (fun _ => ?_) (fun _ => ?_)⟩
      · refine ⟨_, rfl, _, _, rfl, rfl, ⟨by decide, by decide, by decide⟩, _, _, rfl, rfl, (show (0 : Int) < 10 ^ (30 : Int).toNat by decide), _, _, rfl, rfl, rfl, _, ?_, ?_, rfl⟩
        · rw [ten30]
          have h1 := Int.emod_nonneg r (show big ≠ 0 by decide)
          omega
        · rw [ten30]
          have h2 := Int.emod_lt_of_pos r (show (0 : Int) < big by decide)
          omega
      · exact ⟨rfl, _, by omega, by unfold big; omega, rfl⟩
    rintro σ H'' ⟨rfl, z, hz1, hz2, rfl⟩
    refine ⟨_, rfl, .inl ⟨rfl, _, SqL.of hl⟩, _, rfl, _, rfl, _, rfl, _, _, rfl, rfl, .inl ⟨by omega, by omega⟩, _, _, rfl, rfl, _, rfl, (by show 2 ≤ sizeLine; decide), fun p hp => ?_⟩
    have s2 := s1.trans (same_new hp (.tup [.int (a + (0 + (i : Int)) * g), .int z]))
    have nLp : L ≠ p := ne_of_none hl hp
    refine ⟨L, _, _, rfl, rfl, (by rw [upd_ne nLp]; exact hl), small1000 (by rw [hv.1]; omega), ?_⟩
    refine ⟨_, rfl, _, _, rfl, rfl, ⟨by decide, by decide⟩, ?_⟩
    have k1 : Kp H'' (upd (upd H'' p (.tup [.int (a + (0 + (i : Int)) * g), .int z])) L (.lst (vs ++ [.ref p]))) := (Kp.new hp).trans (Kp.upd (o := .lst vs) (by rw [upd_ne nLp]; exact hl) (by intro xs e; cases e))
    refine ⟨_, _, _, _, sd ++ [(a + (0 + (i : Int)) * g, z)], rfl, same_own s2 hL, upd_same, (hv.keep k1).snoc (by rw [upd_ne nLp.symm, upd_same]), by rw [List.length_append, hn]; rfl, fun p' hp' => ?_⟩
    rcases List.mem_append.mp hp' with h | h
    · exact hok p' h
    · rw [List.mem_singleton.mp h]
      refine ⟨?_, hz1, hz2⟩
      have := gap_in hg (k := i) (by omega)
      rw [Int.zero_add]
      exact this
  · rintro σ H' ⟨r, o1, o2, vs, sd, rfl, s1, hl, hv, hn, hok⟩
    have hn' : sd.length = m := by omega
    refine ⟨_, rfl, _, _, rfl, rfl, ⟨by decide, by decide⟩, _, rfl, _, _, rfl, rfl, (show ((m : Nat) : Int) ≠ 0 by omega), ?_⟩
    have h1 := Int.emod_nonneg (n / 11) (show (m : Int) ≠ 0 by omega)
    have h2 := Int.emod_lt_of_pos (n / 11) (show (0 : Int) < (m : Int) by omega)
    obtain ⟨t, et⟩ : ∃ t : Nat, n / 11 % (m : Int) = (t : Int) := ⟨(n / 11 % (m : Int)).toNat, by omega⟩
    rw [et] at h2
    have ef : Int.fmod (n / 11) (m : Int) = (t : Int) := by rw [Int.fmod_eq_emod_of_nonneg _ (Int.natCast_nonneg m)]; exact et
    rw [show ((fun i j : Int => V.int (i.fmod j)) (n / 11) (m : Int)) = V.int (t : Int) from congrArg V.int ef]
    refine ⟨_, rfl, _, rfl, _, rfl, L, _, rfl, SqL.of hl, fun p hp => ?_⟩
    rw [cut_drop]
    have nLp : L ≠ p := ne_of_none hl hp
    have hl2 : (upd H' p (.lst (vs.drop t))) L = some (.lst vs) := by rw [upd_ne nLp]; exact hl
    refine ⟨_, rfl, _, rfl, _, rfl, L, _, rfl, SqL.of hl2, fun p2 hp2 => ?_⟩
    rw [cut_take]
    have n2 : p ≠ p2 := ne_of_none upd_same hp2
    have hlv := hv.1
    refine ⟨p, p2, _, _, rfl, rfl, (by rw [upd_ne n2]; exact upd_same), upd_same, ?_, fun p3 hp3 => ?_⟩
    · rw [List.length_drop, List.length_take]
      exact size1000 (by omega)
    refine ⟨p3, _, rfl, .inl ⟨SqL.of upd_same, fun p4 hp4 => ?_⟩⟩
    have s5 := (((same_new hp (.lst (vs.drop t))).trans (same_new hp2 (.lst (vs.take t)))).trans (same_new hp3 (.lst (vs.drop t ++ vs.take t)))).trans (same_new hp4 (.tup (vs.drop t ++ vs.take t)))
    refine q _ _ (sd.drop t ++ sd.take t) (s1.trans s5) ⟨p4, _, rfl, upd_same, (hv.keep (Kp.of s5)).turn t (by omega)⟩ ⟨by rw [List.length_append, List.length_drop, List.length_take]; omega, by rw [List.length_append, List.length_drop, List.length_take]; omega, fun x hx => ?_⟩
    rcases List.mem_append.mp hx with h | h
    · exact hok x (List.mem_of_mem_drop h)
    · exact hok x (List.mem_of_mem_take h)
end
end Lot

/-! names, atoms, terms, deeds -/
namespace Lot
open PySem L2
abbrev sNames : Stmt := top 31
abbrev sAtom : Stmt := top 32
abbrev sTerm : Stmt := top 33
abbrev sDeed : Stmt := top 37
section
variable {P : Program} {w : World} {K : PySem.W.Frag} {mg : Str → Option Value} {base : Heap}
/-! ### _law_names -/
theorem str_at (z : Str) (i : Int) (h0 : 0 ≤ i) (h1 : i < (z.cps.toList.length : Int)) : ∃ c, atI z.cps.toList i = some c := by
  obtain ⟨k, rfl⟩ := Int.eq_ofNat_of_zero_le h0
  have hk : k < z.cps.toList.length := by omega
  exact ⟨_, atI_nat (List.getElem?_eq_getElem hk)⟩
abbrev tLast : Str := "abcghijlmnopqrsuvxyz"
abbrev tEvery : Str := "abcdefghijklmnopqrstuvwxyz"
theorem last_len : tLast.cps.toList.length = 20 := by decide +kernel
theorem every_len : tEvery.cps.toList.length = 26 := by decide +kernel
theorem last_at (x : Int) : ∃ c, atI tLast.cps.toList (x % 20) = some c := str_at _ _ (by omega) (by rw [last_len]; omega)
theorem every_at (x : Int) : ∃ c, atI tEvery.cps.toList (x % 26) = some c := str_at _ _ (by omega) (by rw [every_len]; omega)
theorem last_sz : tLast.length ≤ sizeLine := by
  have e : tLast.length = 20 := by decide +kernel
  rw [e]; exact size1000 (by decide)
theorem every_sz : tEvery.length ≤ sizeLine := by
  have e : tEvery.length = 26 := by decide +kernel
  rw [e]; exact size1000 (by decide)
theorem one_len (c : Nat) : (⟨#[c]⟩ : Str).length = 1 := rfl
/-- a list of n texts -/
def NmAt (H : Hp) (a : Addr) : Prop := ∃ ss : List Str, H a = some (.lst (ss.map V.str)) ∧ ss.length = 4
def spNames : Sp := fun vs H Q _ => ∃ c : Int, vs = [.int c] ∧ ∀ (H' : Hp) (a : Addr), Same H H' → NmAt H' a → Q (.ref a) H'
abbrev nNames : List Str := ["cell", "every", "last", "step", "at", "word", "k", "mid", "names", "head", "tail"]
theorem scNames : FnScope nNames ["cell"] (defScope sNames) := ⟨rfl, rfl, rfl, by decide +kernel, rfl, by decide +kernel, by decide +kernel⟩
theorem ok_names {f : Addr} {fd : FuncData} (D : Df K mg "_law_names" sNames ["cell"] f fd) (B : Bl mg) : Cal P w K mg base CX0 1 "_law_names" ["cell"] spNames := by
  refine D.cal (D.fn.ok scNames (fun vs H Q E h => ?_) (fun cdv A outer s H vs Q E hr h => ?_))
  · obtain ⟨n, rfl, _⟩ := h
    rfl
  obtain ⟨n, rfl, q⟩ := h
  refine ⟨_, (pss_cons (ps_set (i := 1) scNames.nd rfl (.inl rfl) pe_str)
    (pss_cons (ps_set (i := 2) scNames.nd rfl (.inl rfl) pe_str)
    (pss_cons (ps_set (i := 3) scNames.nd rfl (.inl rfl) (pe_op op_add pe_int (pe_op op_mod (pe_op op_fdiv (pv 0) pe_int) pe_int)))
    (pss_cons (ps_set (i := 4) scNames.nd rfl (.inl rfl) (pe_op op_fdiv (pv 0) pe_int))
    (pss_cons (ps_set (i := 5) scNames.nd rfl (.inl rfl) pe_str)
    (pss_cons (ps_for PassesOwn.never rfl (pi_range1 (by rfl) B.range (pa_cons pe_int pa_nil)) (pg_name (i := 6) scNames.nd rfl (.inl rfl))
      (pss_one (ps_set (i := 5) scNames.nd rfl (.inl rfl) (pe_op op_add_str (pv 5) (pe_ix ix_str (pv 2) (pe_op op_mod (pe_op op_fdivN (pv 4) (pe_op op_add (pv 6) pe_int)) pe_int) (fun _ _ => rfl))))))
    (pss_cons (ps_set (i := 7) scNames.nd rfl (.inl rfl) (pe_ix ix_str (pv 1) (pe_op op_mod (pe_op op_fdiv (pv 4) pe_int) pe_int) (fun _ _ => rfl)))
    (pss_cons (ps_set (i := 8) scNames.nd rfl (.inl rfl) (pe_lst pa_nil))
    (pss_cons (ps_for PassesOwn.never rfl (pi_range1 (by rfl) B.range (pa_cons pe_int pa_nil)) (pg_name (i := 6) scNames.nd rfl (.inl rfl))
      (pss_one (ps_if (pt_cmpR op_eq (pe_op op_mod (pv 0) pe_int) pe_int (nomark _))
        (pss_one (ps_expr (pe_bm PySem.F.plainAttrs_list PySem.F.slot_list_append PySem.F.type_list_append mt_append (pv 8) (pa_cons (pe_ix ix_str (pv 2) (pe_op op_mod (pe_op op_add (pv 4) (pe_op op_mul (pv 3) (pv 6))) pe_int) (fun _ _ => rfl)) pa_nil))))
        (pss_one (ps_if (pt_cmpR op_eq (pe_op op_mod (pv 0) pe_int) pe_int (nomark _))
          (pss_cons (ps_set (i := 9) scNames.nd rfl (.inl rfl) (pe_ix ix_str (pv 1) (pe_op op_mod (pe_op op_add (pv 4) (pe_op op_mul (pe_op op_mul pe_int (pv 3)) (pv 6))) pe_int) (fun _ _ => rfl)))
          (pss_one (ps_expr (pe_bm PySem.F.plainAttrs_list PySem.F.slot_list_append PySem.F.type_list_append mt_append (pv 8) (pa_cons (pe_op op_add_str (pe_op op_add_str (pv 9) (pv 7)) (pe_ix ix_str (pv 2) (pe_op op_mod (pe_op op_fdiv (pv 4) pe_int) pe_int) (fun _ _ => rfl))) pa_nil)))))
          (pss_one (ps_if (pt_cmpR op_eq (pe_op op_mod (pv 0) pe_int) pe_int (nomark _))
            (pss_cons (ps_set (i := 10) scNames.nd rfl (.inl rfl) (pe_ix ix_str (pv 2) (pe_op op_mod (pe_op op_add (pe_op op_fdiv (pv 4) pe_int) (pe_op op_mul (pv 3) (pv 6))) pe_int) (fun _ _ => rfl)))
            (pss_one (ps_expr (pe_bm PySem.F.plainAttrs_list PySem.F.slot_list_append PySem.F.type_list_append mt_append (pv 8) (pa_cons (pe_op op_add_str (pe_op op_add_str (pe_ix ix_str (pv 1) (pe_op op_mod (pv 4) pe_int) (fun _ _ => rfl)) (pv 7)) (pv 10)) pa_nil)))))
            (pss_one (ps_expr (pe_bm PySem.F.plainAttrs_list PySem.F.slot_list_append PySem.F.type_list_append mt_append (pv 8) (pa_cons (pe_slice sl_str (pv 5) po_none (po_some (pe_op op_add (pe_op op_mul pe_int (pv 6)) pe_int))) pa_nil)))))))))))
    (pss_one (ps_ret (pv 8)))))))))))), ?_⟩
  -- step, at
  refine ⟨_, rfl, _, _, rfl, rfl, ⟨by decide, by decide⟩, _, _, rfl, rfl, (by show (0 : Int) < 4; decide), _, _, rfl, rfl, ?_⟩
  refine ⟨_, rfl, _, _, rfl, rfl, ⟨by decide, by decide⟩, ?_⟩
  obtain ⟨st, est⟩ : ∃ st : Int, st = 1 + n / 4 % 4 := ⟨_, rfl⟩
  obtain ⟨at_, eat⟩ : ∃ at_ : Int, at_ = n / 16 := ⟨_, rfl⟩
  have hst : 0 ≤ st ∧ st ≤ 4 := by omega
  -- word
  refine ⟨8, rfl, by decide, by decide, ?_⟩
  refine for_range (n := (8 : Int).toNat) (fun i σ H' => H' = H ∧ ∃ (z : Str) (o : Option V), z.length = i ∧ σ = [some (.int n), some (.str tEvery), some (.str tLast), some (.int st), some (.int at_), some (.str z), o, none, none, none, none])
    ⟨rfl, "", none, by decide +kernel, by rw [est, eat]; rfl⟩ ?_ ?_
  · rintro i σ H' hi ⟨rfl, z, o, hz, rfl⟩
    have hi8 : i < 8 := hi
    refine ⟨_, rfl, _, rfl, _, rfl, _, rfl, _, _, rfl, rfl, _, _, rfl, rfl, ⟨(show (0 : Int) + i + 1 ≠ 0 by omega), (show ((0 : Int) + i + 1).natAbs < _ by omega)⟩, _, _, rfl, rfl, (by show (0 : Int) < 20; decide), ?_⟩
    obtain ⟨c, hc⟩ := last_at (at_.fdiv (0 + (i : Int) + 1))
    refine ⟨_, _, c, rfl, rfl, last_sz, hc, _, _, rfl, rfl, ?_, rfl, _, _, ?_, rfl⟩
    · rw [hz, one_len]; exact size1000 (by omega)
    · rw [Str.length_append, hz, one_len]
  rintro σ H' ⟨rfl, z, o, hz, rfl⟩
  -- mid, names
  obtain ⟨cm, hcm⟩ := every_at (at_ / 26)
  refine ⟨_, rfl, _, rfl, _, _, rfl, rfl, ⟨by decide, by decide⟩, _, _, rfl, rfl, (by show (0 : Int) < 26; decide), _, _, cm, rfl, rfl, every_sz, hcm, ?_⟩
  refine ⟨Nat.zero_le _, fun L hL => ?_⟩
  refine ⟨4, rfl, by decide, by decide, ?_⟩
  refine for_range (n := (4 : Int).toNat) (fun i σ H1 => Same H' H1 ∧ ∃ (ss : List Str) (o o1 o2 : Option V), H1 L = some (.lst (ss.map V.str)) ∧ ss.length = i ∧ σ = [some (.int n), some (.str tEvery), some (.str tLast), some (.int st), some (.int at_), some (.str z), o, some (.str ⟨#[cm]⟩), some (.ref L), o1, o2])
    ⟨same_new hL _, [], o, none, none, upd_same, rfl, rfl⟩ ?_ ?_
  · rintro i σ H1 hi ⟨s1, ss, o, o1, o2, hl, hn, rfl⟩
    have hi4 : i < 4 := hi
    have more : ∀ (y : Str) (o1 o2 : Option V), Same H' (upd H1 L (.lst (ss.map V.str ++ [.str y]))) ∧ ∃ (ss' : List Str) (o o1' o2' : Option V), (upd H1 L (.lst (ss.map V.str ++ [.str y]))) L = some (.lst (ss'.map V.str)) ∧ ss'.length = i + 1 ∧
        [some (V.int n), some (.str tEvery), some (.str tLast), some (.int st), some (.int at_), some (.str z), some (.int (0 + (i : Int))), some (.str ⟨#[cm]⟩), some (.ref L), o1, o2] = [some (.int n), some (.str tEvery), some (.str tLast), some (.int st), some (.int at_), some (.str z), o, some (.str ⟨#[cm]⟩), some (.ref L), o1', o2'] := fun y o1 o2 =>
      ⟨same_own s1 hL, ss ++ [y], _, _, _, by rw [upd_same, List.map_append]; rfl, by rw [List.length_append, hn]; rfl, rfl⟩
    have sz : (ss.map V.str).length < sizeLine := small1000 (by rw [List.length_map]; omega)
    refine ⟨_, rfl, _, _, rfl, rfl, (by show (0 : Int) < 4; decide), rfl, _, rfl, ite2 (fun _ => ?_) (fun _ => ?_)⟩
    · obtain ⟨c, hc⟩ := last_at (at_ + st * (0 + (i : Int)))
      refine ⟨_, rfl, .inl ⟨rfl, _, SqL.of hl⟩, _, rfl, _, rfl, _, rfl, _, rfl, _, _, rfl, rfl, .inl ⟨by omega, by omega⟩, _, _, rfl, rfl, _, _, rfl, rfl, (by show (0 : Int) < 20; decide), _, _, c, rfl, rfl, last_sz, hc, L, _, _, rfl, rfl, hl, sz, more _ _ _⟩
    refine ⟨_, rfl, _, _, rfl, rfl, (by show (0 : Int) < 4; decide), rfl, _, rfl, ite2 (fun _ => ?_) (fun _ => ?_)⟩
    · obtain ⟨c, hc⟩ := every_at (at_ + 5 * st * (0 + (i : Int)))
      obtain ⟨c2, hc2⟩ := last_at (at_ / 676)
      refine ⟨_, rfl, _, rfl, _, rfl, _, _, rfl, rfl, .inl ⟨by omega, by omega⟩, _, rfl, _, _, rfl, rfl, .inr ⟨by omega, by omega⟩, _, _, rfl, rfl, _, _, rfl, rfl, (by show (0 : Int) < 26; decide), _, _, c, rfl, rfl, every_sz, hc, ?_⟩
      refine ⟨_, rfl, .inl ⟨rfl, _, SqL.of hl⟩, _, rfl, _, rfl, _, _, rfl, rfl, (by rw [one_len, one_len]; exact size1000 (by decide)), _, rfl, _, rfl, _, _, rfl, rfl, ⟨by decide, by decide⟩, _, _, rfl, rfl, (by show (0 : Int) < 20; decide), _, _, c2, rfl, rfl, last_sz, hc2, _, _, rfl, rfl, ?_, L, _, _, rfl, rfl, hl, sz, more _ _ _⟩
      rw [Str.length_append, one_len, one_len, one_len]; exact size1000 (by decide)
    refine ⟨_, rfl, _, _, rfl, rfl, (by show (0 : Int) < 4; decide), rfl, _, rfl, ite2 (fun _ => ?_) (fun _ => ?_)⟩
    · obtain ⟨c, hc⟩ := last_at (at_ / 676 + st * (0 + (i : Int)))
      obtain ⟨c2, hc2⟩ := every_at at_
      refine ⟨_, rfl, _, rfl, _, _, rfl, rfl, ⟨by decide, by decide⟩, _, rfl, _, rfl, _, _, rfl, rfl, .inl ⟨by omega, by omega⟩, _, _, rfl, rfl, _, _, rfl, rfl, (by show (0 : Int) < 20; decide), _, _, c, rfl, rfl, last_sz, hc, ?_⟩
      refine ⟨_, rfl, .inl ⟨rfl, _, SqL.of hl⟩, _, rfl, _, rfl, _, _, rfl, rfl, (by show (0 : Int) < 26; decide), _, _, c2, rfl, rfl, every_sz, hc2, _, rfl, _, _, rfl, rfl, (by rw [one_len, one_len]; exact size1000 (by decide)), _, rfl, _, _, rfl, rfl, ?_, L, _, _, rfl, rfl, hl, sz, more _ _ _⟩
      rw [Str.length_append, one_len, one_len, one_len]; exact size1000 (by decide)
    · refine ⟨_, rfl, .inl ⟨rfl, _, SqL.of hl⟩, _, rfl, _, rfl, _, _, rfl, rfl, .inl ⟨by decide, by decide⟩, _, _, rfl, rfl, _, rfl, z, rfl, ?_, L, _, _, rfl, rfl, hl, sz, more _ _ _⟩
      rw [hz]; exact size1000 (by decide)
  · rintro σ H1 ⟨s1, ss, o, o1, o2, hl, hn, rfl⟩
    exact ⟨_, rfl, q _ L s1 ⟨ss, hl, hn⟩⟩

/-! ### _law_atom -/
def spAtom : Sp := fun vs H Q _ => ∃ (n : Int) (a : Addr), vs = [.int n, .ref a] ∧ NmAt H a ∧ ∀ (H' : Hp) (v : V) (t : Tm), Same H H' → TmAt H' v t → TmOk t → dep t = 1 → Q v H'
theorem scAtom : FnScope ["number", "names"] ["number", "names"] (defScope sAtom) := ⟨rfl, rfl, rfl, by decide +kernel, rfl, by decide +kernel, by decide +kernel⟩
theorem ok_atom {f : Addr} {fd : FuncData} (D : Df K mg "_law_atom" sAtom ["number", "names"] f fd) (G_law_number : Cal P w K mg base CX0 1 "_law_number" ["cell"] spNum) : Cal P w K mg base CX0 2 "_law_atom" ["number", "names"] spAtom := by
  refine D.cal (D.fn.ok scAtom (fun vs H Q E h => ?_) (fun cdv A outer s H vs Q E hr h => ?_))
  · obtain ⟨n, a, rfl, _⟩ := h
    rfl
  obtain ⟨n, a, rfl, ⟨ss, ha, hs⟩, q⟩ := h
  refine ⟨_, (pss_cons (ps_if (pt_cmpR op_lt (pe_op op_mod (pv 0) pe_int) pe_int (nomark _))
      (pss_one (ps_ret (pe_tup (pa_cons pe_str (pa_cons (pe_ix ix_list (pv 1) (pe_op op_mod (pv 0) pe_int) (fun _ _ => rfl)) pa_nil)))))
      pss_nil)
    (pss_one (ps_ret (pe_tup (pa_cons pe_str (pa_cons (pe_cal G_law_number hr rfl pass0 (pa_cons (pe_op op_fdiv (pv 0) pe_int) pa_nil)) pa_nil)))))), ?_⟩
  refine ⟨_, rfl, _, _, rfl, rfl, (by show (0 : Int) < 6; decide), _, _, rfl, rfl, _, rfl, if2 (fun c => ?_) (fun c => ?_)⟩
  · have h0 : 0 ≤ n % 6 := by omega
    obtain ⟨k, ek⟩ := Int.eq_ofNat_of_zero_le h0
    have hk : k < ss.length := by omega
    refine ⟨_, rfl, _, rfl, _, _, rfl, rfl, (by show (0 : Int) < 6; decide), a, _, _, .str ss[k], rfl, rfl, SqL.of ha, ?_, (by show 2 ≤ sizeLine; decide), fun p hp => ?_⟩
    · exact at_of ek (by rw [List.getElem?_map, List.getElem?_eq_getElem hk]; rfl)
    exact q _ _ (.name ss[k]) (same_new hp _) ⟨p, rfl, upd_same⟩ trivial rfl
  · refine ⟨_, rfl, _, _, rfl, rfl, ⟨by decide, by decide⟩, _, rfl, fun i hi => ⟨(by show 2 ≤ sizeLine; decide), fun p hp => ?_⟩⟩
    exact q _ _ (.num i) (same_new hp _) ⟨p, rfl, upd_same⟩ hi rfl

/-! ### _law_term -/
def spTerm : Sp := fun vs H Q _ => ∃ (n : Int) (a : Addr), vs = [.int n, .ref a] ∧ NmAt H a ∧ ∀ (H' : Hp) (v : V) (t : Tm), Same H H' → TmAt H' v t → TmOk t → dep t ≤ 4 → Q v H'
abbrev nTerm : List Str := ["number", "names", "ops", "term", "deep", "k", "way", "other", "third"]
theorem scTerm : FnScope nTerm ["number", "names"] (defScope sTerm) := ⟨rfl, rfl, rfl, by decide +kernel, rfl, by decide +kernel, by decide +kernel⟩
theorem NmAt.same {H H' : Hp} {a : Addr} (s : Same H H') (h : NmAt H a) : NmAt H' a := let ⟨ss, h1, h2⟩ := h; ⟨ss, s _ _ h1, h2⟩
theorem op_item {i : Int} (h0 : 0 ≤ i) (h1 : i < 7) : ∃ o : Str, atI (ops7.map V.str) i = some (.str o) ∧ o ∈ ops7 := by
  obtain ⟨k, rfl⟩ := Int.eq_ofNat_of_zero_le h0
  have hk : k < ops7.length := by show k < 7; omega
  exact ⟨ops7[k], atI_nat (by rw [List.getElem?_map, List.getElem?_eq_getElem hk]; rfl), List.getElem_mem hk⟩
theorem ok_term {f : Addr} {fd : FuncData} (D : Df K mg "_law_term" sTerm ["number", "names"] f fd) (B : Bl mg) (G_law_atom : Cal P w K mg base CX0 2 "_law_atom" ["number", "names"] spAtom) : Cal P w K mg base CX0 3 "_law_term" ["number", "names"] spTerm := by
  refine D.cal (D.fn.ok scTerm (fun vs H Q E h => ?_) (fun cdv A outer s H vs Q E hr h => ?_))
  · obtain ⟨n, a, rfl, _⟩ := h
    rfl
  obtain ⟨n, a, rfl, hN, q⟩ := h
  refine ⟨_, (pss_cons (ps_set (i := 2) scTerm.nd rfl (.inl rfl) (pe_lst (pa_cons pe_str (pa_cons pe_str (pa_cons pe_str (pa_cons pe_str (pa_cons pe_str (pa_cons pe_str (pa_cons pe_str pa_nil)))))))))
    (pss_cons (ps_set (i := 3) scTerm.nd rfl (.inl rfl) (pe_cal G_law_atom hr rfl pass0 (pa_cons (pe_op op_fdiv (pv 0) pe_int) (pa_cons (pv 1) pa_nil))))
    (pss_cons (ps_set (i := 4) scTerm.nd rfl (.inl rfl) (pe_op op_mod (pv 0) pe_int))
    (pss_cons (ps_set (i := 0) scTerm.nd rfl (.inl rfl) (pe_op op_fdiv (pv 0) pe_int))
    (pss_cons (ps_for PassesOwn.never rfl (pi_range1 (by rfl) B.range (pa_cons (pv 4) pa_nil)) (pg_name (i := 5) scTerm.nd rfl (.inl rfl))
      (pss_cons (ps_set (i := 6) scTerm.nd rfl (.inl rfl) (pe_op op_mod (pv 0) pe_int))
      (pss_cons (ps_set (i := 7) scTerm.nd rfl (.inl rfl) (pe_cal G_law_atom hr rfl pass0 (pa_cons (pe_op op_fdiv (pv 0) pe_int) (pa_cons (pv 1) pa_nil))))
      (pss_cons (ps_set (i := 8) scTerm.nd rfl (.inl rfl) (pe_cal G_law_atom hr rfl pass0 (pa_cons (pe_op op_fdiv (pv 0) pe_int) (pa_cons (pv 1) pa_nil))))
      (C8.pss_cut (ps_if (pt_cmpR op_eq (pv 6) pe_int (nomark _))
        (pss_one (ps_set (i := 3) scTerm.nd rfl (.inl rfl) (pe_tup (pa_cons pe_str (pa_cons (pv 3) pa_nil)))))
        (pss_one (ps_if (pt_cmpR op_eq (pv 6) pe_int (nomark _))
          (pss_one (ps_set (i := 3) scTerm.nd rfl (.inl rfl) (pe_tup (pa_cons pe_str (pa_cons (pv 3) (pa_cons (pv 7) (pa_cons (pv 8) pa_nil)))))))
          (pss_one (ps_if (pt_cmpR op_eq (pv 6) pe_int (nomark _))
            (pss_one (ps_set (i := 3) scTerm.nd rfl (.inl rfl) (pe_tup (pa_cons pe_str (pa_cons (pv 7) (pa_cons (pv 3) (pa_cons (pv 8) pa_nil)))))))
            (pss_one (ps_if (pt_cmpR op_eq (pv 6) pe_int (nomark _))
              (pss_one (ps_set (i := 3) scTerm.nd rfl (.inl rfl) (pe_tup (pa_cons pe_str (pa_cons (pv 7) (pa_cons (pv 8) (pa_cons (pv 3) pa_nil)))))))
              (pss_one (ps_if (pt_cmpR op_lt (pv 6) pe_int (nomark _))
                (pss_one (ps_set (i := 3) scTerm.nd rfl (.inl rfl) (pe_tup (pa_cons (pe_ix ix_list (pv 2) (pe_op op_sub (pv 6) pe_int) (fun _ _ => rfl)) (pa_cons (pv 3) (pa_cons (pv 7) pa_nil))))))
                (pss_one (ps_set (i := 3) scTerm.nd rfl (.inl rfl) (pe_tup (pa_cons (pe_ix ix_list (pv 2) (pe_op op_sub (pv 6) pe_int) (fun _ _ => rfl)) (pa_cons (pv 7) (pa_cons (pv 3) pa_nil)))))))))))))))
      (pss_one (ps_set (i := 0) scTerm.nd rfl (.inl rfl) (pe_op op_fdiv (pv 0) pe_int))))))))
    (pss_one (ps_ret (pv 3)))))))), ?_⟩
  refine ⟨(by show 7 ≤ sizeLine; decide), fun ol hol => ?_⟩
  have s0 := same_new hol (.lst (ops7.map V.str))
  refine ⟨_, rfl, _, _, rfl, rfl, ⟨by decide, by decide⟩, _, rfl, n / 4, a, rfl, hN.same s0, fun H1 v1 t1 g1 h1 o1 d1 => ?_⟩
  refine ⟨_, rfl, _, _, rfl, rfl, (by show (0 : Int) < 4; decide), ?_⟩
  refine ⟨_, rfl, _, _, rfl, rfl, ⟨by decide, by decide⟩, ?_⟩
  have hd0 : 0 ≤ n % 4 ∧ n % 4 < 4 := by omega
  refine ⟨_, rfl, n % 4, rfl, by omega, by omega, ?_⟩
  refine for_range (n := (n % 4).toNat) (fun i σ H' => ∃ (m : Int) (v : V) (t : Tm) (p1 p2 p3 p4 : Option V), σ = [some (.int m), some (.ref a), some (.ref ol), some v, some (.int (n % 4)), p1, p2, p3, p4] ∧ Same H H' ∧ H' ol = some (.lst (ops7.map V.str)) ∧ TmAt H' v t ∧ TmOk t ∧ dep t ≤ 1 + i)
    ⟨_, v1, t1, none, none, none, none, rfl, s0.trans g1, g1 _ _ upd_same, h1, o1, by omega⟩ ?_ ?_
  · rintro i σ H' hi ⟨m, v, t, p1, p2, p3, p4, rfl, s1, hl, ht, ot, dt⟩
    -- way, other, third
    refine ⟨_, rfl, _, _, rfl, rfl, (by show (0 : Int) < 18; decide), ?_⟩
    refine ⟨_, rfl, _, _, rfl, rfl, ⟨by decide, by decide⟩, _, rfl, m / 18, a, rfl, hN.same s1, fun H2 v2 t2 g2 h2 o2 d2 => ?_⟩
    refine ⟨_, rfl, _, _, rfl, rfl, ⟨by decide, by decide⟩, _, rfl, m / 108, a, rfl, hN.same (s1.trans g2), fun H3 v3 t3 g3 h3 o3 d3 => ?_⟩
    have s3 := s1.trans (g2.trans g3)
    have ht3 := ht.keep (Kp.of (g2.trans g3))
    have h23 := h2.keep (Kp.of g3)
    have hl3 := g3 _ _ (g2 _ _ hl)
    -- behind the choice
    refine ⟨fun σ H'' => ∃ (v' : V) (t' : Tm), σ = [some (.int m), some (.ref a), some (.ref ol), some v', some (.int (n % 4)), some (.int (0 + (i : Int))), some (.int (m % 18)), some v2, some v3] ∧ Same H3 H'' ∧ TmAt H'' v' t' ∧ TmOk t' ∧ dep t' ≤ 1 + (i + 1), ?_, ?_⟩
    · refine ⟨_, rfl, rfl, _, rfl, ?_⟩
      rw [int_dec]
      refine if2 (fun _ => ?_) (fun c0 => ?_)
      · refine ⟨_, rfl, (by show 2 ≤ sizeLine; decide), fun p hp => ⟨_, .una t, rfl, same_new hp _, ⟨p, v, rfl, upd_same, ht3.keep (Kp.new hp)⟩, ot, ?_⟩⟩
        show dep t + 1 ≤ _
        omega
      refine ⟨_, rfl, rfl, _, rfl, ?_⟩
      rw [int_dec]
      refine if2 (fun _ => ?_) (fun c1 => ?_)
      · refine ⟨_, rfl, _, rfl, _, rfl, (by show 4 ≤ sizeLine; decide), fun p hp => ⟨_, .pick t t2 t3, rfl, same_new hp _, ⟨p, v, v2, v3, rfl, upd_same, ht3.keep (Kp.new hp), h23.keep (Kp.new hp), h3.keep (Kp.new hp)⟩, ⟨ot, o2, o3⟩, ?_⟩⟩
        show max (dep t) (max (dep t2) (dep t3)) + 1 ≤ _
        omega
      refine ⟨_, rfl, rfl, _, rfl, ?_⟩
      rw [int_dec]
      refine if2 (fun _ => ?_) (fun c2 => ?_)
      · refine ⟨_, rfl, _, rfl, _, rfl, (by show 4 ≤ sizeLine; decide), fun p hp => ⟨_, .pick t2 t t3, rfl, same_new hp _, ⟨p, v2, v, v3, rfl, upd_same, h23.keep (Kp.new hp), ht3.keep (Kp.new hp), h3.keep (Kp.new hp)⟩, ⟨o2, ot, o3⟩, ?_⟩⟩
        show max (dep t2) (max (dep t) (dep t3)) + 1 ≤ _
        omega
      refine ⟨_, rfl, rfl, _, rfl, ?_⟩
      rw [int_dec]
      refine if2 (fun _ => ?_) (fun c3 => ?_)
      · refine ⟨_, rfl, _, rfl, _, rfl, (by show 4 ≤ sizeLine; decide), fun p hp => ⟨_, .pick t2 t3 t, rfl, same_new hp _, ⟨p, v2, v3, v, rfl, upd_same, h23.keep (Kp.new hp), h3.keep (Kp.new hp), ht3.keep (Kp.new hp)⟩, ⟨o2, o3, ot⟩, ?_⟩⟩
        show max (dep t2) (max (dep t3) (dep t)) + 1 ≤ _
        omega
      have hm : 0 ≤ m % 18 ∧ m % 18 < 18 := by omega
      refine ⟨_, rfl, _, _, rfl, rfl, _, rfl, if2 (fun c4 => ?_) (fun c4 => ?_)⟩
      · obtain ⟨o, eo, ho⟩ := op_item (i := m % 18 - 4) (by omega) (by omega)
        refine ⟨_, rfl, _, rfl, _, _, rfl, rfl, ol, _, _, _, rfl, rfl, SqL.of hl3, eo, _, rfl, _, rfl, (by show 3 ≤ sizeLine; decide), fun p hp => ⟨_, .bin o t t2, rfl, same_new hp _, ⟨p, v, v2, rfl, upd_same, ht3.keep (Kp.new hp), h23.keep (Kp.new hp)⟩, ⟨ho, ot, o2⟩, ?_⟩⟩
        show max (dep t) (dep t2) + 1 ≤ _
        omega
      · obtain ⟨o, eo, ho⟩ := op_item (i := m % 18 - 11) (by omega) (by omega)
        refine ⟨_, rfl, _, rfl, _, _, rfl, rfl, ol, _, _, _, rfl, rfl, SqL.of hl3, eo, _, rfl, _, rfl, (by show 3 ≤ sizeLine; decide), fun p hp => ⟨_, .bin o t2 t, rfl, same_new hp _, ⟨p, v2, v, rfl, upd_same, h23.keep (Kp.new hp), ht3.keep (Kp.new hp)⟩, ⟨ho, o2, ot⟩, ?_⟩⟩
        show max (dep t2) (dep t) + 1 ≤ _
        omega
    rintro σ H'' ⟨v', t', rfl, g4, h4, o4, d4⟩
    exact ⟨_, rfl, _, _, rfl, rfl, ⟨by decide, by decide⟩, _, v', t', _, _, _, _, rfl, s3.trans g4, g4 _ _ hl3, h4, o4, d4⟩
  · rintro σ H' ⟨m, v, t, p1, p2, p3, p4, rfl, s1, hl, ht, ot, dt⟩
    exact ⟨_, rfl, q _ v t s1 ht ot (by omega)⟩

/-! ### _law_deed -/
def spDeed : Sp := fun vs H Q _ => ∃ (k r : Int) (a : Addr) (m : Nat), vs = [.int k, .int r, .ref a, .int m] ∧ 1 ≤ m ∧ m ≤ 6 ∧ NmAt H a ∧ ∀ (H' : Hp) (p : Addr) (q : Rws), Same H H' → RwsAt H' [.ref p] q → RwOk q → wl q = 1 → lev q = 0 → Q (.ref p) H'
theorem scDeed : FnScope ["kind", "rest", "names", "many"] ["kind", "rest", "names", "many"] (defScope sDeed) := ⟨rfl, rfl, rfl, by decide +kernel, rfl, by decide +kernel, by decide +kernel⟩
theorem nm_at {ss : List Str} {x : Int} (h : ss.length = 4) : ∃ y : Str, atI (ss.map V.str) (x % 4) = some (.str y) := by
  have h0 : 0 ≤ x % 4 := by omega
  obtain ⟨k, ek⟩ := Int.eq_ofNat_of_zero_le h0
  have hk : k < ss.length := by omega
  exact ⟨ss[k], at_of ek (by rw [List.getElem?_map, List.getElem?_eq_getElem hk]; rfl)⟩
theorem ok_deed {f : Addr} {fd : FuncData} (D : Df K mg "_law_deed" sDeed ["kind", "rest", "names", "many"] f fd) (G_law_sides : Cal P w K mg base CX0 2 "_law_sides" ["number", "many"] spSds) (G_law_term : Cal P w K mg base CX0 3 "_law_term" ["number", "names"] spTerm) :
    Cal P w K mg base CX0 4 "_law_deed" ["kind", "rest", "names", "many"] spDeed := by
  refine D.cal (D.fn.ok scDeed (fun vs H Q E h => ?_) (fun cdv A outer s H vs Q E hr h => ?_))
  · obtain ⟨k, r, a, m, rfl, _⟩ := h
    rfl
  obtain ⟨k, r, a, m, rfl, hm1, hm6, ⟨ss, ha, hs⟩, q⟩ := h
  have hr2 : Room 2 _ := hr.mono (by decide)
  have hN : NmAt H a := ⟨ss, ha, hs⟩
  refine ⟨_, (pss_cons (ps_if (pt_cmpR op_lt (pv 0) pe_int (nomark _))
      (pss_one (ps_ret (pe_tup (pa_cons pe_str (pa_cons (pe_ix ix_list (pv 2) (pe_op op_mod (pe_op op_fdiv (pv 1) pe_int) pe_int) (fun _ _ => rfl)) (pa_cons (pe_cal G_law_sides hr2 rfl pass0 (pa_cons (pe_op op_fdiv (pv 1) pe_int) (pa_cons (pv 3) pa_nil))) pa_nil))))))
      pss_nil)
    (pss_cons (ps_if (pt_cmpR op_eq (pv 0) pe_int (nomark _))
      (pss_one (ps_ret (pe_tup (pa_cons pe_str (pa_cons (pe_cal G_law_term hr rfl pass0 (pa_cons (pv 1) (pa_cons (pv 2) pa_nil))) pa_nil)))))
      pss_nil)
    (pss_one (ps_ret (pe_tup (pa_cons pe_str (pa_cons (pe_ix ix_list (pv 2) (pe_op op_mod (pv 1) pe_int) (fun _ _ => rfl)) (pa_cons (pe_cal G_law_term hr rfl pass0 (pa_cons (pe_op op_fdiv (pv 1) pe_int) (pa_cons (pv 2) pa_nil))) pa_nil)))))))), ?_⟩
  refine ⟨_, rfl, _, _, rfl, rfl, _, rfl, if2 (fun _ => ?_) (fun _ => ?_)⟩
  · obtain ⟨y, ey⟩ := nm_at (x := r / 6) hs
    refine ⟨_, rfl, _, rfl, _, _, rfl, rfl, ⟨by decide, by decide⟩, _, _, rfl, rfl, (by show (0 : Int) < 4; decide), a, _, _, _, rfl, rfl, SqL.of ha, ey, ?_⟩
    refine ⟨_, rfl, _, _, rfl, rfl, ⟨by decide, by decide⟩, _, rfl, r / 24, m, rfl, hm1, hm6, fun H1 v sd g1 h1 o1 => ⟨(by show 3 ≤ sizeLine; decide), fun p hp => ?_⟩⟩
    exact q _ p (.draw y sd .nil) (g1.trans (same_new hp _)) ⟨p, v, [], rfl, upd_same, h1.keep (Kp.new hp), rfl⟩ ⟨o1, trivial⟩ rfl rfl
  refine ⟨_, rfl, rfl, _, rfl, ite2 (fun _ => ?_) (fun _ => ?_)⟩
  · refine ⟨_, rfl, _, rfl, r, a, rfl, hN, fun H1 v t g1 h1 o1 d1 => ⟨(by show 2 ≤ sizeLine; decide), fun p hp => ?_⟩⟩
    exact q _ p (.see t .nil) (g1.trans (same_new hp _)) ⟨p, v, [], rfl, upd_same, h1.keep (Kp.new hp), rfl⟩ ⟨o1, d1, trivial⟩ rfl rfl
  · obtain ⟨y, ey⟩ := nm_at (x := r) hs
    refine ⟨_, rfl, _, rfl, _, _, rfl, rfl, (by show (0 : Int) < 4; decide), a, _, _, _, rfl, rfl, SqL.of ha, ey, ?_⟩
    refine ⟨_, rfl, _, _, rfl, rfl, ⟨by decide, by decide⟩, _, rfl, r / 4, a, rfl, hN, fun H1 v t g1 h1 o1 d1 => ⟨(by show 3 ≤ sizeLine; decide), fun p hp => ?_⟩⟩
    exact q _ p (.sset y t .nil) (g1.trans (same_new hp _)) ⟨p, v, [], rfl, upd_same, h1.keep (Kp.new hp), rfl⟩ ⟨o1, d1, trivial⟩ rfl rfl
end
end Lot

/-! the stack of open blocks: _law_factor, _law_shut -/
namespace Lot
open PySem L2
abbrev sShut : Stmt := top 35
abbrev sFactor : Stmt := top 36

/-! ### blocks, the innermost first -/
inductive Kd where
  | top | iff | els | rep
  deriving DecidableEq
structure Blk where
  kd : Kd
  t : Tm
  n : Nat
  first : Rws
  rs : Rws
  ba : Addr
  la : Addr
  fa : Addr
  tv : V
def fct (b : Blk) : Nat := match b.kd with | .rep => b.n | _ => 1
def hb (b : Blk) : Nat := match b.kd with | .top => 0 | _ => 1
def bw (b : Blk) : Nat := wl b.first + wl b.rs
def fac : List Blk → Nat
  | [] => 1
  | b :: r => fct b * fac r
def wtR : List Blk → Nat
  | [] => 0
  | b :: r => wtR r + fac r * (hb b + fct b * bw b)
def rowOf (b : Blk) : Rws := match b.kd with
  | .top => .nil
  | .iff => .ite b.t b.rs .nil .nil
  | .els => .ite b.t b.first b.rs .nil
  | .rep => .rep b.n b.rs .nil
def addRow (b : Blk) (q : Rws) : Blk := { b with rs := app b.rs q }
/-- how many rows there are, blocks as one -/
def it : Rws → Nat
  | .nil => 0
  | .draw _ _ r => it r + 1
  | .sset _ _ r => it r + 1
  | .see _ r => it r + 1
  | .ite _ _ _ r => it r + 1
  | .rep _ _ r => it r + 1
theorem it_app : ∀ p q : Rws, it (app p q) = it p + it q
  | .nil, q => (Nat.zero_add _).symm
  | .draw x sd p, q => by have h := it_app p q; show it (app p q) + 1 = it p + 1 + it q; omega
  | .sset x t p, q => by have h := it_app p q; show it (app p q) + 1 = it p + 1 + it q; omega
  | .see t p, q => by have h := it_app p q; show it (app p q) + 1 = it p + 1 + it q; omega
  | .ite t a b p, q => by have h := it_app p q; show it (app p q) + 1 = it p + 1 + it q; omega
  | .rep n a p, q => by have h := it_app p q; show it (app p q) + 1 = it p + 1 + it q; omega
theorem it_row (b : Blk) : it (rowOf b) ≤ 1 := by
  unfold rowOf
  split <;> simp [it]
/-- d: how deep it stands; m: most rows -/
structure BOk (m : Nat) (b : Blk) (d : Nat) : Prop where
  rs : RwOk b.rs
  first : RwOk b.first
  nof : b.kd ≠ .els → b.first = .nil
  tm : TmOk b.t
  td : dep b.t ≤ 4
  n : b.n ≤ 60
  l1 : lev b.rs + d ≤ 5
  l2 : lev b.first + d ≤ 5
  im : it b.rs ≤ m
theorem BOk.mono {m k : Nat} {b : Blk} {d : Nat} (h : BOk m b d) (l : m ≤ k) : BOk k b d := ⟨h.rs, h.first, h.nof, h.tm, h.td, h.n, h.l1, h.l2, Nat.le_trans h.im l⟩
def SOk (m : Nat) : List Blk → Prop
  | [] => False
  | [b] => b.kd = .top ∧ BOk m b 0
  | b :: c :: r => b.kd ≠ .top ∧ BOk m b (r.length + 1) ∧ SOk m (c :: r)
theorem SOk.mono {m k : Nat} (l : m ≤ k) : ∀ {bs : List Blk}, SOk m bs → SOk k bs
  | [], h => h
  | [b], h => ⟨h.1, h.2.mono l⟩
  | b :: c :: r, h => ⟨h.1, h.2.1.mono l, SOk.mono l h.2.2⟩
theorem SOk.head {m : Nat} {b : Blk} {r : List Blk} (h : SOk m (b :: r)) : BOk m b r.length := by
  cases r with
  | nil => exact h.2
  | cons c r => exact h.2.1
theorem SOk.len {m : Nat} {b : Blk} {r : List Blk} (h : SOk m (b :: r)) : r.length ≤ 5 := by
  have := h.head.l1
  omega
theorem SOk.set {m : Nat} {b b' : Blk} {r : List Blk} (h : SOk m (b :: r)) (hk : b'.kd = .top ↔ b.kd = .top) (ho : BOk m b' r.length) : SOk m (b' :: r) := by
  cases r with
  | nil => exact ⟨hk.mpr h.1, ho⟩
  | cons c r => exact ⟨fun z => h.1 (hk.mp z), ho, h.2.2⟩
theorem SOk.push {m : Nat} {b : Blk} {r : List Blk} (h : SOk m r) (hk : b.kd ≠ .top) (ho : BOk m b r.length) : SOk m (b :: r) := by
  cases r with
  | nil => exact absurd h id
  | cons c r => exact ⟨hk, ho, h⟩
theorem wl_row {m : Nat} {b : Blk} {d : Nat} (h : b.kd ≠ .top) (ok : BOk m b d) : wl (rowOf b) = hb b + fct b * bw b := by
  obtain ⟨kd, t, n, first, rs, ba, la, fa, tv⟩ := b
  have nof := ok.nof
  cases kd with
  | top => exact absurd rfl h
  | iff =>
    cases (show first = .nil from nof (fun z => by cases z))
    show 1 + (wl rs + wl .nil) + wl .nil = 1 + 1 * (wl .nil + wl rs)
    simp only [wl]; omega
  | els =>
    show 1 + (wl first + wl rs) + wl .nil = 1 + 1 * (wl first + wl rs)
    simp only [wl]; omega
  | rep =>
    cases (show first = .nil from nof (fun z => by cases z))
    show 1 + n * wl rs + wl .nil = 1 + n * (wl .nil + wl rs)
    simp only [wl, Nat.zero_add]; omega
theorem row_ok {m : Nat} {b : Blk} {d : Nat} (ok : BOk m b d) : RwOk (rowOf b) := by
  obtain ⟨kd, t, n, first, rs, ba, la, fa, tv⟩ := b
  cases kd with
  | top => exact trivial
  | iff => exact ⟨ok.tm, ok.td, ok.rs, trivial, trivial⟩
  | els => exact ⟨ok.tm, ok.td, ok.first, ok.rs, trivial⟩
  | rep => exact ⟨ok.n, ok.rs, trivial⟩
theorem row_lev {m : Nat} {b : Blk} {d : Nat} (ok : BOk m b (d + 1)) : lev (rowOf b) + d ≤ 5 := by
  obtain ⟨kd, t, n, first, rs, ba, la, fa, tv⟩ := b
  have h1 := ok.l1
  have h2 := ok.l2
  simp only at h1 h2
  cases kd <;> simp only [rowOf, lev] <;> omega
theorem wt_add (b : Blk) (q : Rws) (r : List Blk) : wtR (addRow b q :: r) = wtR (b :: r) + fac (b :: r) * wl q := by
  show wtR r + fac r * (hb b + fct b * (wl b.first + wl (app b.rs q))) = wtR r + fac r * (hb b + fct b * (wl b.first + wl b.rs)) + fct b * fac r * wl q
  rw [wl_app]
  have e : fct b * (wl b.first + (wl b.rs + wl q)) = fct b * (wl b.first + wl b.rs) + fct b * wl q := by rw [← Nat.mul_add, Nat.add_assoc]
  rw [e, ← Nat.add_assoc, Nat.mul_add (fac r) _ (fct b * wl q), Nat.mul_comm (fct b) (fac r), Nat.mul_assoc, Nat.add_assoc]
theorem wt_shut {m : Nat} {b c : Blk} {r : List Blk} (h : SOk m (b :: c :: r)) : wtR (addRow c (rowOf b) :: r) = wtR (b :: c :: r) := by
  rw [wt_add, wl_row h.1 h.2.1]
  rfl
theorem SOk.shut {m : Nat} {b c : Blk} {r : List Blk} (h : SOk m (b :: c :: r)) : SOk (m + 1) (addRow c (rowOf b) :: r) := by
  have hb := h.2.1
  have hc := h.2.2.head
  refine SOk.set (SOk.mono (Nat.le_succ m) h.2.2) Iff.rfl ⟨RwOk_app _ _ hc.rs (row_ok hb), hc.first, hc.nof, hc.tm, hc.td, hc.n, ?_, hc.l2, ?_⟩
  · show lev (app c.rs (rowOf b)) + r.length ≤ 5
    rw [lev_app]
    have h1 := hc.l1
    have h2 := row_lev hb
    omega
  · show it (app c.rs (rowOf b)) ≤ m + 1
    rw [it_app]
    have h1 := hc.im
    have h2 := it_row b
    omega
theorem SOk.all {m : Nat} : ∀ {bs : List Blk}, SOk m bs → ∀ b ∈ bs, b.n ≤ 60
  | [], h, _, _ => h.elim
  | [b], h, c, hc => by rw [List.mem_singleton.mp hc]; exact h.2.n
  | b :: c :: r, h, d, hd => by
    rcases List.mem_cons.mp hd with z | z
    · rw [z]; exact h.2.1.n
    · exact SOk.all h.2.2 d z
theorem fac_shut {b c : Blk} {r : List Blk} : fac (addRow c (rowOf b) :: r) = fac (c :: r) := rfl

/-! ### blocks in the heap -/
def its (b : Blk) : List V := match b.kd with
  | .top => [.str "rows", .int 0, .ref b.la]
  | .iff => [.str "if", b.tv, .ref b.la]
  | .els => [.str "if", b.tv, .ref b.fa, .ref b.la]
  | .rep => [.str "repeat", .int b.n, .ref b.la]
def own (b : Blk) : List Addr := match b.kd with
  | .els => [b.ba, b.la, b.fa]
  | _ => [b.ba, b.la]
theorem own_ba (b : Blk) : b.ba ∈ own b := by unfold own; split <;> simp
theorem own_la (b : Blk) : b.la ∈ own b := by unfold own; split <;> simp
theorem own_fa {b : Blk} (h : b.kd = .els) : b.fa ∈ own b := by unfold own; rw [h]; simp
theorem own_add (b : Blk) (q : Rws) : own (addRow b q) = own b := rfl
structure BlkAt (H : Hp) (b : Blk) : Prop where
  h1 : H b.ba = some (.lst (its b))
  h2 : ∃ vs, H b.la = some (.lst vs) ∧ RwsAt H vs b.rs
  h3 : b.kd = .iff ∨ b.kd = .els → TmAt H b.tv b.t
  h4 : b.kd = .els → ∃ vs, H b.fa = some (.lst vs) ∧ RwsAt H vs b.first
theorem BlkAt.keep {H H' : Hp} {b : Blk} (h : BlkAt H b) (k : Kp H H') (s : ∀ a ∈ own b, ∀ o, H a = some o → H' a = some o) : BlkAt H' b :=
  ⟨s _ (own_ba b) _ h.h1, let ⟨vs, e, r⟩ := h.h2; ⟨vs, s _ (own_la b) _ e, r.keep k⟩, fun z => (h.h3 z).keep k, fun z => let ⟨vs, e, r⟩ := h.h4 z; ⟨vs, s _ (own_fa z) _ e, r.keep k⟩⟩
/-- every address of a block holds a list -/
theorem BlkAt.lst {H : Hp} {b : Blk} (h : BlkAt H b) : ∀ a ∈ own b, ∃ xs, H a = some (.lst xs) := by
  intro a ha
  unfold own at ha
  split at ha
  · rename_i e
    simp only [List.mem_cons, List.not_mem_nil, or_false] at ha
    rcases ha with rfl | rfl | rfl
    · exact ⟨_, h.h1⟩
    · obtain ⟨vs, e, _⟩ := h.h2; exact ⟨_, e⟩
    · obtain ⟨vs, e, _⟩ := h.h4 e; exact ⟨_, e⟩
  · simp only [List.mem_cons, List.not_mem_nil, or_false] at ha
    rcases ha with rfl | rfl
    · exact ⟨_, h.h1⟩
    · obtain ⟨vs, e, _⟩ := h.h2; exact ⟨_, e⟩
def owns (bs : List Blk) : List Addr := bs.flatMap own
theorem mem_owns {b : Blk} {bs : List Blk} {a : Addr} (hb : b ∈ bs) (ha : a ∈ own b) : a ∈ owns bs := List.mem_flatMap.mpr ⟨b, hb, ha⟩
structure StAt (H0 H : Hp) (S : Addr) (bs : List Blk) : Prop where
  same : Same H0 H
  h1 : H S = some (.lst (bs.reverse.map fun b => V.ref b.ba))
  h2 : ∀ b ∈ bs, BlkAt H b
  nd : (S :: owns bs).Nodup
  fr : ∀ a ∈ S :: owns bs, H0 a = none
theorem StAt.step {H0 H H' : Hp} {S : Addr} {bs : List Blk} (h : StAt H0 H S bs) (s : Same H H') : StAt H0 H' S bs :=
  ⟨h.same.trans s, s _ _ h.h1, fun b hb => (h.h2 b hb).keep (Kp.of s) fun a _ o e => s a o e, h.nd, h.fr⟩
theorem StAt.disj {H0 H : Hp} {S : Addr} {b : Blk} {r : List Blk} (h : StAt H0 H S (b :: r)) : ∀ a ∈ own b, a ≠ S ∧ ∀ c ∈ r, a ∉ own c := by
  have nd := h.nd
  intro a ha
  obtain ⟨n1, n2⟩ := List.nodup_cons.mp nd
  refine ⟨fun e => n1 (e ▸ mem_owns List.mem_cons_self ha), fun c hc hac => ?_⟩
  have e : owns (b :: r) = own b ++ owns r := List.flatMap_cons
  rw [e] at n2
  exact (List.nodup_append.mp n2).2.2 a ha a (mem_owns hc hac) rfl
theorem StAt.own_nd {H0 H : Hp} {S : Addr} {b : Blk} {r : List Blk} (h : StAt H0 H S (b :: r)) : (own b).Nodup := by
  obtain ⟨n1, n2⟩ := List.nodup_cons.mp h.nd
  have e : owns (b :: r) = own b ++ owns r := List.flatMap_cons
  rw [e] at n2
  exact (List.nodup_append.mp n2).1
theorem la_ba {b : Blk} (h : (own b).Nodup) : b.la ≠ b.ba := by
  unfold own at h
  split at h
  · intro e; rw [e] at h; simp at h
  · intro e; rw [e] at h; simp at h
theorem la_fa {b : Blk} (h : (own b).Nodup) (k : b.kd = .els) : b.la ≠ b.fa := by
  unfold own at h
  rw [k] at h
  intro e; rw [e] at h; simp at h
theorem RwsAt.len {H : Hp} : ∀ {r : Rws} {vs : List V}, RwsAt H vs r → vs.length = it r
  | .nil, vs, e => by cases (show vs = [] from e); rfl
  | .draw x sd r, _, ⟨a, s, vs', e, _, _, h⟩ => by have := h.len; rw [e, List.length_cons, this]; rfl
  | .sset x t r, _, ⟨a, s, vs', e, _, _, h⟩ => by have := h.len; rw [e, List.length_cons, this]; rfl
  | .see t r, _, ⟨a, s, vs', e, _, _, h⟩ => by have := h.len; rw [e, List.length_cons, this]; rfl
  | .ite t p q r, _, ⟨a, b, pa, pv, qa, qv, vs', e, _, _, _, _, _, _, h⟩ => by have := h.len; rw [e, List.length_cons, this]; rfl
  | .rep n p r, _, ⟨a, pa, pv, vs', e, _, _, _, h⟩ => by have := h.len; rw [e, List.length_cons, this]; rfl
theorem rev_last (b : Blk) (r : List Blk) : (b :: r).reverse.map (fun b => V.ref b.ba) = (r.reverse.map fun b => V.ref b.ba) ++ [V.ref b.ba] := by rw [List.reverse_cons, List.map_append]; rfl
/-- a row is put behind the innermost block's rows -/
theorem StAt.add {H0 H : Hp} {S p : Addr} {b : Blk} {r : List Blk} {q : Rws} {vs : List V} (h : StAt H0 H S (b :: r)) (hv : H b.la = some (.lst vs)) (hR : RwsAt H vs b.rs) (hq : RwsAt H [.ref p] q) :
    StAt H0 (upd H b.la (.lst (vs ++ [.ref p]))) S (addRow b q :: r) := by
  have k : Kp H (upd H b.la (.lst (vs ++ [.ref p]))) := Kp.upd hv (by intro xs e; cases e)
  have dj := h.disj b.la (own_la b)
  have nb := h.h2 b List.mem_cons_self
  refine ⟨same_own h.same (h.fr _ (List.mem_cons_of_mem _ (mem_owns List.mem_cons_self (own_la b)))), by rw [upd_ne dj.1.symm, rev_last]; have z := h.h1; rw [rev_last] at z; exact z, fun c hc => ?_, h.nd, h.fr⟩
  rcases List.mem_cons.mp hc with rfl | hc
  · refine ⟨?_, ⟨_, upd_same, (hR.app hq).keep k⟩, fun z => (nb.h3 z).keep k, fun z => ?_⟩
    · show upd H b.la _ b.ba = _
      rw [upd_ne (la_ba h.own_nd).symm]
      exact nb.h1
    · obtain ⟨vs', e, r'⟩ := nb.h4 z
      refine ⟨vs', ?_, r'.keep k⟩
      show upd H b.la _ b.fa = _
      rw [upd_ne (la_fa h.own_nd z).symm]
      exact e
  · exact (h.h2 c (List.mem_cons_of_mem _ hc)).keep k fun a ha o e => by
      rw [upd_ne fun z => dj.2 c hc (by rw [← z]; exact ha)]
      exact e
/-- a new address is none of theirs -/
theorem StAt.new {H0 H : Hp} {S a : Addr} {bs : List Blk} (h : StAt H0 H S bs) (ha : H a = none) : H0 a = none ∧ a ≠ S ∧ a ∉ owns bs := by
  refine ⟨h.same.free ha, (ne_of_none h.h1 ha).symm, fun z => ?_⟩
  obtain ⟨b, hb, hab⟩ := List.mem_flatMap.mp z
  obtain ⟨xs, e⟩ := (h.h2 b hb).lst a hab
  rw [e] at ha
  cases ha
/-- the innermost block, an if, gets its second rows -/
def toEls (b : Blk) (l : Addr) : Blk := { b with kd := .els, first := b.rs, fa := b.la, la := l, rs := .nil }
theorem StAt.els {H0 H : Hp} {S l : Addr} {b : Blk} {r : List Blk} (h : StAt H0 H S (b :: r)) (hk : b.kd = .iff) (hl : H l = some (.lst [])) (hn : H0 l = none ∧ l ≠ S ∧ l ∉ owns (b :: r)) :
    StAt H0 (upd H b.ba (.lst (its b ++ [.ref l]))) S (toEls b l :: r) := by
  have nb := h.h2 b List.mem_cons_self
  have k : Kp H (upd H b.ba (.lst (its b ++ [.ref l]))) := Kp.upd nb.h1 (by intro xs e; cases e)
  have dj := h.disj b.ba (own_ba b)
  have eo : own b = [b.ba, b.la] := by unfold own; rw [hk]
  have ed : own (toEls b l) = [b.ba, l, b.la] := rfl
  have e : owns (b :: r) = own b ++ owns r := List.flatMap_cons
  have e' : owns (toEls b l :: r) = own (toEls b l) ++ owns r := List.flatMap_cons
  have lb : l ≠ b.ba := fun z => hn.2.2 (z ▸ mem_owns List.mem_cons_self (own_ba b))
  have ll : l ≠ b.la := fun z => hn.2.2 (z ▸ mem_owns List.mem_cons_self (own_la b))
  have nba := la_ba h.own_nd
  have lr : l ∉ owns r := fun z => hn.2.2 (by rw [e]; exact List.mem_append_right _ z)
  refine ⟨same_own h.same (h.fr _ (List.mem_cons_of_mem _ (mem_owns List.mem_cons_self (own_ba b)))), by rw [upd_ne dj.1.symm, rev_last]; have z := h.h1; rw [rev_last] at z; exact z, fun c hc => ?_, ?_, fun a ha => ?_⟩
  · rcases List.mem_cons.mp hc with rfl | hc
    · obtain ⟨vs, g1, g2⟩ := nb.h2
      refine ⟨?_, ⟨[], by show upd H b.ba _ l = _; rw [upd_ne lb]; exact hl, rfl⟩, fun _ => (nb.h3 (.inl hk)).keep k, fun _ => ⟨vs, by show upd H b.ba _ b.la = _; rw [upd_ne nba]; exact g1, g2.keep k⟩⟩
      show upd H b.ba _ b.ba = _
      rw [upd_same]
      unfold its
      rw [hk]
      rfl
    · exact (h.h2 c (List.mem_cons_of_mem _ hc)).keep k fun a ha o ea => by
        rw [upd_ne fun z => dj.2 c hc (by rw [← z]; exact ha)]
        exact ea
  · obtain ⟨n1, n2⟩ := List.nodup_cons.mp h.nd
    rw [e, eo] at n1 n2
    rw [e', ed]
    simp only [List.cons_append, List.nil_append, List.nodup_cons, List.mem_cons, List.mem_append, List.not_mem_nil, or_false, not_or] at n1 n2 ⊢
    exact ⟨⟨n1.1, hn.2.1.symm, n1.2.1, n1.2.2⟩, ⟨lb.symm, n2.1.1, n2.1.2⟩, ⟨ll, lr⟩, n2.2.1, n2.2.2⟩
  · rw [e', ed] at ha
    simp only [List.cons_append, List.nil_append, List.mem_cons] at ha
    rcases ha with z | z | z | z | z
    · exact h.fr a (List.mem_cons.mpr (.inl z))
    · exact h.fr a (List.mem_cons.mpr (.inr (by rw [e, eo, z]; simp)))
    · rw [z]; exact hn.1
    · exact h.fr a (List.mem_cons.mpr (.inr (by rw [e, eo, z]; simp)))
    · exact h.fr a (List.mem_cons.mpr (.inr (by rw [e]; exact List.mem_append_right _ z)))
/-- the innermost block is taken off -/
theorem StAt.pop {H0 H : Hp} {S : Addr} {b c : Blk} {r : List Blk} (h : StAt H0 H S (b :: c :: r)) : StAt H0 (upd H S (.lst ((c :: r).reverse.map fun b => V.ref b.ba))) S (c :: r) ∧ BlkAt (upd H S (.lst ((c :: r).reverse.map fun b => V.ref b.ba))) b := by
  have k : Kp H (upd H S (.lst ((c :: r).reverse.map fun b => V.ref b.ba))) := Kp.upd h.h1 (by intro xs e; cases e)
  obtain ⟨n1, n2⟩ := List.nodup_cons.mp h.nd
  have e : owns (b :: c :: r) = own b ++ owns (c :: r) := List.flatMap_cons
  have nS : ∀ d ∈ b :: c :: r, ∀ a ∈ own d, a ≠ S := fun d hd a ha z => n1 (z ▸ mem_owns hd ha)
  have kb : ∀ d ∈ b :: c :: r, BlkAt (upd H S (.lst ((c :: r).reverse.map fun b => V.ref b.ba))) d := fun d hd => (h.h2 d hd).keep k fun a ha o ea => by rw [upd_ne (nS d hd a ha)]; exact ea
  refine ⟨⟨same_own h.same (h.fr S List.mem_cons_self), upd_same, fun d hd => kb d (List.mem_cons_of_mem _ hd), ?_, fun a ha => h.fr a ?_⟩, kb b List.mem_cons_self⟩
  · rw [e] at n1 n2
    exact List.nodup_cons.mpr ⟨fun z => n1 (List.mem_append_right _ z), (List.nodup_append.mp n2).2.1⟩
  · rcases List.mem_cons.mp ha with z | z
    · exact List.mem_cons.mpr (.inl z)
    · exact List.mem_cons.mpr (.inr (by rw [e]; exact List.mem_append_right _ z))
/-- a new block is laid on top -/
theorem StAt.push {H0 H : Hp} {S : Addr} {b : Blk} {r : List Blk} (h : StAt H0 H S r) (hb : BlkAt H b) (nd : (own b).Nodup) (ho : ∀ a ∈ own b, H0 a = none ∧ a ≠ S ∧ a ∉ owns r) :
    StAt H0 (upd H S (.lst ((b :: r).reverse.map fun b => V.ref b.ba))) S (b :: r) := by
  have k : Kp H (upd H S (.lst ((b :: r).reverse.map fun b => V.ref b.ba))) := Kp.upd h.h1 (by intro xs e; cases e)
  obtain ⟨n1, n2⟩ := List.nodup_cons.mp h.nd
  have e : owns (b :: r) = own b ++ owns r := List.flatMap_cons
  refine ⟨same_own h.same (h.fr S List.mem_cons_self), upd_same, fun d hd => ?_, ?_, fun a ha => ?_⟩
  · rcases List.mem_cons.mp hd with rfl | hd
    · exact hb.keep k fun a ha o ea => by rw [upd_ne (ho a ha).2.1]; exact ea
    · exact (h.h2 d hd).keep k fun a ha o ea => by rw [upd_ne fun (z : a = S) => n1 (z ▸ mem_owns hd ha)]; exact ea
  · rw [e]
    refine List.nodup_cons.mpr ⟨fun z => ?_, List.nodup_append.mpr ⟨nd, n2, fun a ha a' ha' z => (ho a ha).2.2 (z ▸ ha')⟩⟩
    rcases List.mem_append.mp z with z | z
    · exact (ho S z).2.1 rfl
    · exact n1 z
  · rcases List.mem_cons.mp ha with z | z
    · exact h.fr a (List.mem_cons.mpr (.inl z))
    · rw [e] at z
      rcases List.mem_append.mp z with z | z
      · exact (ho a z).1
      · exact h.fr a (List.mem_cons_of_mem _ z)

section
variable {P : Program} {w : World} {K : PySem.W.Frag} {mg : Str → Option Value} {base : Heap}
/-! ### _law_factor -/
def spFactor : Sp := fun vs H Q _ => ∃ (H0 : Hp) (S : Addr) (bs : List Blk), vs = [.ref S] ∧ StAt H0 H S bs ∧ (∀ b ∈ bs, b.n ≤ 60) ∧ Q (.int (fac bs : Int)) H
theorem scFactor : FnScope ["stack", "factor", "block"] ["stack"] (defScope sFactor) := ⟨rfl, rfl, rfl, by decide +kernel, rfl, by decide +kernel, by decide +kernel⟩
theorem fac_snoc : ∀ (r : List Blk) (b : Blk), fac (r ++ [b]) = fac r * fct b
  | [], b => by show fct b * 1 = 1 * fct b; omega
  | c :: r, b => by show fct c * fac (r ++ [b]) = fct c * fac r * fct b; rw [fac_snoc r b, Nat.mul_assoc]
theorem fac_rev : ∀ r : List Blk, fac r.reverse = fac r
  | [] => rfl
  | b :: r => by rw [List.reverse_cons, fac_snoc, fac_rev r]; exact Nat.mul_comm _ _
theorem ok_factor {f : Addr} {fd : FuncData} (D : Df K mg "_law_factor" sFactor ["stack"] f fd) : Cal P w K mg base CX0 1 "_law_factor" ["stack"] spFactor := by
  refine D.cal (D.fn.ok scFactor (fun vs H Q E h => ?_) (fun cdv A outer s H vs Q E hr h => ?_))
  · obtain ⟨H0, S, bs, rfl, _⟩ := h
    rfl
  obtain ⟨H0, S, bs, rfl, St, hn, q⟩ := h
  refine ⟨_, (pss_cons (ps_set (i := 1) scFactor.nd rfl (.inl rfl) pe_int)
    (pss_cons (ps_for PassesOwn.never rfl (pi_list (pv 0)) (pg_name (i := 2) scFactor.nd rfl (.inl rfl))
      (pss_one (ps_if (pt_cmpR op_eq (pe_ix ix_list (pv 2) pe_int (fun _ _ => rfl)) pe_str (nomark _))
        (pss_one (ps_set (i := 1) scFactor.nd rfl (.inl rfl) (pe_op op_mul (pv 1) (pe_ix ix_list (pv 2) pe_int (fun _ _ => rfl)))))
        pss_nil)))
    (pss_one (ps_ret (pv 1))))), ?_⟩
  refine ⟨_, rfl, S, rfl, ⟨_, SqL.of St.h1⟩, ?_⟩
  refine for_list (K := K) (a := S) (xs := bs.reverse.map fun b => V.ref b.ba) (fun i σ H' => H' = H ∧ ∃ o : Option V, σ = [some (.ref S), some (.int (fac (bs.reverse.take i) : Int)), o])
    ⟨rfl, none, rfl⟩ (fun i σ H' _ h => by rw [h.1]; exact SqL.of St.h1) ?_ ?_
  · rintro i y σ H' hy ⟨rfl, o, rfl⟩
    rw [List.getElem?_map] at hy
    have hi : i < bs.reverse.length := by
      cases e : bs.reverse[i]? with
      | none => rw [e] at hy; cases hy
      | some b => exact (List.getElem?_eq_some_iff.mp e).1
    rw [List.getElem?_eq_getElem hi] at hy
    have ey : V.ref bs.reverse[i].ba = y := Option.some.inj hy
    subst ey
    have hm : bs.reverse[i] ∈ bs := List.mem_reverse.mp (List.getElem_mem hi)
    have hb := St.h2 _ hm
    have hn' := hn _ hm
    have et : bs.reverse.take (i + 1) = bs.reverse.take i ++ [bs.reverse[i]] := by rw [List.take_add_one, List.getElem?_eq_getElem hi]; rfl
    rw [et, fac_snoc]
    generalize bs.reverse[i] = b at hb hn'
    obtain ⟨kd, t, n, first, rs, ba, la, fa, tv⟩ := b
    have h1 := hb.h1
    cases kd with
    | rep =>
      refine ⟨_, rfl, ba, _, _, _, rfl, rfl, SqL.of h1, rfl, rfl, _, rfl, ifT (by decide +kernel) ?_⟩
      refine ⟨_, rfl, _, rfl, ba, _, _, _, rfl, rfl, SqL.of h1, rfl, _, _, rfl, rfl, .inr ⟨by have h60 : n ≤ 60 := hn'; show _ < ((n : Nat) : Int); omega, by have h60 : n ≤ 60 := hn'; show ((n : Nat) : Int) < _; omega⟩, rfl, some (.ref ba), ?_⟩
      show [some (V.ref S), some (V.int ((fac (bs.reverse.take i) : Int) * (n : Int))), some (V.ref ba)] = [some (V.ref S), some (V.int ((fac (bs.reverse.take i) * n : Nat) : Int)), some (V.ref ba)]
      rw [Int.natCast_mul]
    | top =>
      refine ⟨_, rfl, ba, _, _, _, rfl, rfl, SqL.of h1, rfl, rfl, _, rfl, ifF (by decide +kernel) ⟨rfl, some (.ref ba), ?_⟩⟩
      show _ = [some (V.ref S), some (V.int ((fac (bs.reverse.take i) * 1 : Nat) : Int)), some (V.ref ba)]
      rw [Nat.mul_one]
      rfl
    | iff =>
      refine ⟨_, rfl, ba, _, _, _, rfl, rfl, SqL.of h1, rfl, rfl, _, rfl, ifF (by decide +kernel) ⟨rfl, some (.ref ba), ?_⟩⟩
      show _ = [some (V.ref S), some (V.int ((fac (bs.reverse.take i) * 1 : Nat) : Int)), some (V.ref ba)]
      rw [Nat.mul_one]
      rfl
    | els =>
      refine ⟨_, rfl, ba, _, _, _, rfl, rfl, SqL.of h1, rfl, rfl, _, rfl, ifF (by decide +kernel) ⟨rfl, some (.ref ba), ?_⟩⟩
      show _ = [some (V.ref S), some (V.int ((fac (bs.reverse.take i) * 1 : Nat) : Int)), some (V.ref ba)]
      rw [Nat.mul_one]
      rfl
  · rintro σ H' ⟨rfl, o, rfl⟩
    rw [List.length_map, List.take_length, fac_rev]
    exact ⟨_, rfl, q⟩

/-! ### _law_shut -/
def spShut : Sp := fun vs H Q _ => ∃ (H0 : Hp) (S : Addr) (b c : Blk) (r : List Blk), vs = [.ref S] ∧ StAt H0 H S (b :: c :: r) ∧ b.kd ≠ .top ∧ (b.kd ≠ .els → b.first = .nil) ∧ it c.rs ≤ 900 ∧
  ∀ H', StAt H0 H' S (addRow c (rowOf b) :: r) → Q .non H'
theorem scShut : FnScope ["stack", "block", "row", "second"] ["stack"] (defScope sShut) := ⟨rfl, rfl, rfl, by decide +kernel, rfl, by decide +kernel, by decide +kernel⟩
theorem its_last (b : Blk) : ∃ xs, its b = xs ++ [V.ref b.la] := by
  unfold its
  split
  · exact ⟨[_, _], rfl⟩
  · exact ⟨[_, _], rfl⟩
  · exact ⟨[_, _, _], rfl⟩
  · exact ⟨[_, _], rfl⟩
theorem its_neg1 (b : Blk) : atI (its b) (-1) = some (V.ref b.la) := by
  obtain ⟨xs, e⟩ := its_last b
  rw [e]
  exact atI_last _ _
theorem ok_shut {f : Addr} {fd : FuncData} (D : Df K mg "_law_shut" sShut ["stack"] f fd) (B : Bl mg) : Cal P w K mg base CX0 1 "_law_shut" ["stack"] spShut := by
  refine D.cal (D.fn.ok scShut (fun vs H Q E h => ?_) (fun cdv A outer s H vs Q E hr h => ?_))
  · obtain ⟨H0, S, b, c, r, rfl, _⟩ := h
    rfl
  obtain ⟨H0, S, b, c, r, rfl, St, hk, hf, hw, q⟩ := h
  refine ⟨_, (pss_cons (ps_set (i := 1) scShut.nd rfl (.inl rfl) (pe_bm0 PySem.F.plainAttrs_list PySem.F.slot_list_pop PySem.F.type_list_pop mt_pop (pv 0)))
    (pss_cons (ps_set (i := 2) scShut.nd rfl (.inl rfl) (pe_tup (pa_cons pe_str (pa_cons (pe_ix ix_list (pv 1) pe_int (fun _ _ => rfl)) (pa_cons (pe_callTy call_tuple_of (by rfl) B.tuple (by decide +kernel) (pa_cons (pe_ix ix_list (pv 1) pe_int (fun _ _ => rfl)) pa_nil)) pa_nil)))))
    (pss_cons (ps_if (pt_cmpR op_eq (pe_ix ix_list (pv 1) pe_int (fun _ _ => rfl)) pe_str (nomark _))
      (pss_cons (ps_set (i := 3) scShut.nd rfl (.inl rfl) (pe_tup pa_nil))
      (pss_cons (ps_if (pt_cmpR op_eq (pe_callB call_len_seq (by rfl) B.len PySem.boot_len (pa_cons (pv 1) pa_nil)) pe_int (nomark _))
        (pss_one (ps_set (i := 3) scShut.nd rfl (.inl rfl) (pe_callTy call_tuple_of (by rfl) B.tuple (by decide +kernel) (pa_cons (pe_ix ix_list (pv 1) pe_int (fun _ _ => rfl)) pa_nil))))
        pss_nil)
      (pss_one (ps_set (i := 2) scShut.nd rfl (.inl rfl) (pe_tup (pa_cons pe_str (pa_cons (pe_ix ix_list (pv 1) pe_int (fun _ _ => rfl)) (pa_cons (pe_callTy call_tuple_of (by rfl) B.tuple (by decide +kernel) (pa_cons (pe_ix ix_list (pv 1) pe_int (fun _ _ => rfl)) pa_nil)) (pa_cons (pv 3) pa_nil)))))))))
      pss_nil)
    (pss_one (ps_expr (pe_bm PySem.F.plainAttrs_list PySem.F.slot_list_append PySem.F.type_list_append mt_append (pe_ix ix_list (pe_ix ix_list (pv 0) (pe_un un_neg pe_int) (fun _ _ => rfl)) (pe_un un_neg pe_int) (fun _ _ => rfl)) (pa_cons (pv 2) pa_nil))))))), ?_⟩
  -- block = stack.pop()
  have el := rev_last b (c :: r)
  refine ⟨_, rfl, .inl ⟨rfl, _, SqL.of St.h1⟩, S, _, .ref b.ba, rfl, rfl, St.h1, ?_, ?_⟩
  · rw [el, List.length_append, List.length_singleton, Nat.add_sub_cancel, List.getElem?_append_right (Nat.le_refl _), Nat.sub_self]; rfl
  rw [el, List.dropLast_concat]
  obtain ⟨S1, B1⟩ := St.pop
  generalize upd H S (.lst ((c :: r).reverse.map fun b => V.ref b.ba)) = H1 at S1 B1
  -- the end: the row at p stands for rowOf b
  have fin : ∀ (H2 : Hp) (p : Addr), Same H1 H2 → RwsAt H2 [.ref p] (rowOf b) → ∀ (vs : List V), H2 c.la = some (.lst vs) → RwsAt H2 vs c.rs → Q .non (upd H2 c.la (.lst (vs ++ [.ref p]))) := fun H2 p s2 hp vs hv hR => q _ ((S1.step s2).add hv hR hp)
  obtain ⟨vc, hvc, hRc⟩ := (S1.h2 c List.mem_cons_self).h2
  have hcb := (S1.h2 c List.mem_cons_self).h1
  have lc := hRc.len
  obtain ⟨kd, t, n, first, rs, ba, la, fa, tv⟩ := b
  have g1 := B1.h1
  obtain ⟨vs, g2, g3⟩ := B1.h2
  have tailS : ∀ {H2 : Hp}, Same H1 H2 → atI ((c :: r).reverse.map fun b => V.ref b.ba) (-1) = some (V.ref c.ba) := fun {H2} _ => by rw [rev_last]; exact atI_last _ _
  cases kd with
  | top => exact absurd rfl hk
  | rep =>
    refine ⟨_, rfl, ba, _, _, _, rfl, rfl, SqL.of g1, rfl, _, rfl, ba, _, _, _, rfl, rfl, SqL.of g1, rfl, la, _, rfl, .inl ⟨SqL.of g2, fun p1 n1 => ⟨(by show 3 ≤ sizeLine; decide), fun p2 n2 => ?_⟩⟩⟩
    have s2 : Same H1 _ := (same_new n1 (.tup vs)).trans (same_new n2 (.tup [.str "repeat", .int (n : Int), .ref p1]))
    refine ⟨_, rfl, ba, _, _, _, rfl, rfl, SqL.of (s2 _ _ g1), rfl, rfl, _, rfl, ifF (by decide +kernel) ?_⟩
    refine ⟨_, rfl, _, rfl, S, _, _, _, rfl, rfl, SqL.of (s2 _ _ S1.h1), tailS s2, _, rfl, c.ba, _, _, _, rfl, rfl, SqL.of (s2 _ _ hcb), its_neg1 c, .inl ⟨rfl, _, SqL.of (s2 _ _ hvc)⟩, _, rfl, c.la, _, _, rfl, rfl, s2 _ _ hvc, small1000 (by omega), ?_⟩
    refine fin _ p2 s2 ?_ vc (s2 _ _ hvc) (hRc.keep (Kp.of s2))
    exact ⟨p2, p1, vs, [], rfl, upd_same, by rw [upd_ne (ne_of_none upd_same n2)]; exact upd_same, g3.keep (Kp.of s2), rfl⟩
  | iff =>
    have ht := B1.h3 (.inl rfl)
    refine ⟨_, rfl, ba, _, _, _, rfl, rfl, SqL.of g1, rfl, _, rfl, ba, _, _, _, rfl, rfl, SqL.of g1, rfl, la, _, rfl, .inl ⟨SqL.of g2, fun p1 n1 => ⟨(by show 3 ≤ sizeLine; decide), fun p2 n2 => ?_⟩⟩⟩
    have s2 : Same H1 _ := (same_new n1 (.tup vs)).trans (same_new n2 (.tup [.str "repeat", tv, .ref p1]))
    refine ⟨_, rfl, ba, _, _, _, rfl, rfl, SqL.of (s2 _ _ g1), rfl, rfl, _, rfl, ifT (by decide +kernel) ?_⟩
    refine ⟨Nat.zero_le _, fun p3 n3 => ?_⟩
    have s3 := s2.trans (same_new n3 (.tup []))
    refine ⟨_, rfl, ba, _, rfl, .inl (SqL.of (s3 _ _ g1)), rfl, _, rfl, ifF (show decide (V.int 3 = V.int 4) = false by decide) ?_⟩
    refine ⟨_, rfl, ba, _, _, _, rfl, rfl, SqL.of (s3 _ _ g1), rfl, _, rfl, ba, _, _, _, rfl, rfl, SqL.of (s3 _ _ g1), rfl, la, _, rfl, .inl ⟨SqL.of (s3 _ _ g2), fun p4 n4 => ⟨_, rfl, (by show 4 ≤ sizeLine; decide), fun p5 n5 => ?_⟩⟩⟩
    have s4 := s3.trans (same_new n4 (.tup vs))
    have s5 := s4.trans (same_new n5 (.tup [.str "if", tv, .ref p4, .ref p3]))
    refine ⟨_, rfl, _, rfl, S, _, _, _, rfl, rfl, SqL.of (s5 _ _ S1.h1), tailS s5, _, rfl, c.ba, _, _, _, rfl, rfl, SqL.of (s5 _ _ hcb), its_neg1 c, .inl ⟨rfl, _, SqL.of (s5 _ _ hvc)⟩, _, rfl, c.la, _, _, rfl, rfl, s5 _ _ hvc, small1000 (by omega), ?_⟩
    refine fin _ p5 s5 ?_ vc (s5 _ _ hvc) (hRc.keep (Kp.of s5))
    have e34 : p3 ≠ p4 := ne_of_none upd_same n4
    have e35 : p3 ≠ p5 := ne_of_none (by rw [upd_ne e34]; exact upd_same) n5
    have e45 : p4 ≠ p5 := ne_of_none upd_same n5
    exact ⟨p5, tv, p4, vs, p3, [], [], rfl, upd_same, ht.keep (Kp.of s5), by rw [upd_ne e45]; exact upd_same, g3.keep (Kp.of s5), by rw [upd_ne e35, upd_ne e34]; exact upd_same, rfl, rfl⟩
  | els =>
    have ht := B1.h3 (.inr rfl)
    obtain ⟨vf, g4, g5⟩ := B1.h4 rfl
    refine ⟨_, rfl, ba, _, _, _, rfl, rfl, SqL.of g1, rfl, _, rfl, ba, _, _, _, rfl, rfl, SqL.of g1, rfl, fa, _, rfl, .inl ⟨SqL.of g4, fun p1 n1 => ⟨(by show 3 ≤ sizeLine; decide), fun p2 n2 => ?_⟩⟩⟩
    have s2 : Same H1 _ := (same_new n1 (.tup vf)).trans (same_new n2 (.tup [.str "repeat", tv, .ref p1]))
    refine ⟨_, rfl, ba, _, _, _, rfl, rfl, SqL.of (s2 _ _ g1), rfl, rfl, _, rfl, ifT (by decide +kernel) ?_⟩
    refine ⟨Nat.zero_le _, fun p3 n3 => ?_⟩
    have s3 := s2.trans (same_new n3 (.tup []))
    refine ⟨_, rfl, ba, _, rfl, .inl (SqL.of (s3 _ _ g1)), rfl, _, rfl, ifT (show decide (V.int 4 = V.int 4) = true by decide) ?_⟩
    refine ⟨_, rfl, ba, _, _, _, rfl, rfl, SqL.of (s3 _ _ g1), rfl, la, _, rfl, .inl ⟨SqL.of (s3 _ _ g2), fun p6 n6 => ?_⟩⟩
    have s6 := s3.trans (same_new n6 (.tup vs))
    refine ⟨_, rfl, ba, _, _, _, rfl, rfl, SqL.of (s6 _ _ g1), rfl, _, rfl, ba, _, _, _, rfl, rfl, SqL.of (s6 _ _ g1), rfl, fa, _, rfl, .inl ⟨SqL.of (s6 _ _ g4), fun p4 n4 => ⟨_, rfl, (by show 4 ≤ sizeLine; decide), fun p5 n5 => ?_⟩⟩⟩
    have s4 := s6.trans (same_new n4 (.tup vf))
    have s5 := s4.trans (same_new n5 (.tup [.str "if", tv, .ref p4, .ref p6]))
    refine ⟨_, rfl, _, rfl, S, _, _, _, rfl, rfl, SqL.of (s5 _ _ S1.h1), tailS s5, _, rfl, c.ba, _, _, _, rfl, rfl, SqL.of (s5 _ _ hcb), its_neg1 c, .inl ⟨rfl, _, SqL.of (s5 _ _ hvc)⟩, _, rfl, c.la, _, _, rfl, rfl, s5 _ _ hvc, small1000 (by omega), ?_⟩
    refine fin _ p5 s5 ?_ vc (s5 _ _ hvc) (hRc.keep (Kp.of s5))
    have e64 : p6 ≠ p4 := ne_of_none upd_same n4
    have e65 : p6 ≠ p5 := ne_of_none (by rw [upd_ne e64]; exact upd_same) n5
    have e45 : p4 ≠ p5 := ne_of_none upd_same n5
    exact ⟨p5, tv, p4, vf, p6, vs, [], rfl, upd_same, ht.keep (Kp.of s5), by rw [upd_ne e45]; exact upd_same, g5.keep (Kp.of s5), by rw [upd_ne e65, upd_ne e64]; exact upd_same, g3.keep (Kp.of s5), rfl⟩
end
end Lot

/-! _law_rows -/
namespace Lot
open PySem L2
abbrev sBuild : Stmt := top 39
/-- no factor of the open blocks is above 66 -/
def FOk : List Blk → Prop
  | [] => True
  | b :: r => fac (b :: r) ≤ 66 ∧ FOk r
theorem lift {A B C : Prop} (f : (C → A) → B) (a : C → A) : B := f a
section
variable {P : Program} {w : World} {K : PySem.W.Frag} {mg : Str → Option Value} {base : Heap}
def spBuild (K : PySem.W.Frag) : Sp := fun vs H Q _ => ∃ (ca na : Addr) (ns : List Int) (mo se : Int), vs = [.ref ca, .ref na, .int mo, .int se] ∧ SqL K H ca (ns.map V.int) ∧ ns.length ≤ 63 ∧ NmAt H na ∧ 1 ≤ mo ∧ mo ≤ 1000000000 ∧
  ∀ (H' : Hp) (p : Addr) (vs : List V) (r : Rws), Same H H' → H' p = some (.tup vs) → RwsAt H' vs r → RwOk r → lev r ≤ 5 → wl r ≤ 66 → (ns = [] → wl r = 0) → Q (.ref p) H'
abbrev nBuild : List Str := ["cells", "names", "most", "sees", "stack", "size", "cell", "factor", "kind", "rest", "many"]
theorem scBuild : FnScope nBuild ["cells", "names", "most", "sees"] (defScope sBuild) := ⟨rfl, rfl, rfl, by decide +kernel, rfl, by decide +kernel, by decide +kernel⟩
theorem pow_pos' {m n : Nat} (h : 1 ≤ m) : 1 ≤ m ^ n := Nat.pow_pos h
theorem ok_build {f : Addr} {fd : FuncData} (D : Df K mg "_law_rows" sBuild ["cells", "names", "most", "sees"] f fd) (B : Bl mg) (G_law_factor : Cal P w K mg base CX0 1 "_law_factor" ["stack"] spFactor) (G_law_shut : Cal P w K mg base CX0 1 "_law_shut" ["stack"] spShut)
    (G_law_term : Cal P w K mg base CX0 3 "_law_term" ["number", "names"] spTerm) (G_law_again : Cal P w K mg base CX0 1 "_law_again" ["rest"] spAgain) (G_law_raised : Cal P w K mg base CX0 1 "_law_raised" ["many", "factor"] spRaised)
    (G_law_deed : Cal P w K mg base CX0 4 "_law_deed" ["kind", "rest", "names", "many"] spDeed) : Cal P w K mg base CX0 5 "_law_rows" ["cells", "names", "most", "sees"] (spBuild K) := by
  refine D.cal (D.fn.ok scBuild (fun vs H Q E h => ?_) (fun cdv A outer s H vs Q E hr h => ?_))
  · obtain ⟨ca, na, ns, mo, se, rfl, _⟩ := h
    rfl
  obtain ⟨ca, na, ns, mo, se, rfl, hca, hns, hN, hmo1, hmo2, q⟩ := h
  have hr1 : Room 1 _ := hr.mono (by decide)
  have hr3 : Room 3 _ := hr.mono (by decide)
  refine ⟨_, (pss_cons (ps_set (i := 4) scBuild.nd rfl (.inl rfl) (pe_lst (pa_cons (pe_lst (pa_cons pe_str (pa_cons pe_int (pa_cons (pe_lst pa_nil) pa_nil)))) pa_nil)))
    (pss_cons (ps_set (i := 5) scBuild.nd rfl (.inl rfl) pe_int)
    (pss_cons (ps_for PassesOwn.never rfl (pi_list (pv 0)) (pg_name (i := 6) scBuild.nd rfl (.inl rfl))
      (pss_cons (ps_set (i := 7) scBuild.nd rfl (.inl rfl) (pe_cal G_law_factor hr1 rfl pass0 (pa_cons (pv 4) pa_nil)))
      (pss_cons (ps_set (i := 8) scBuild.nd rfl (.inl rfl) (pe_op op_mod (pv 6) pe_int))
      (pss_cons (ps_set (i := 9) scBuild.nd rfl (.inl rfl) (pe_op op_fdiv (pv 6) pe_int))
      (C8.pss_cut (ps_if (pt_cmpR op_gt (pe_op op_add (pv 5) (pv 7)) pe_int (nomark _))
        (pss_one (ps_set (i := 8) scBuild.nd rfl (.inl rfl) pe_int))
        (pss_one (ps_set (i := 5) scBuild.nd rfl (.inl rfl) (pe_op op_add (pv 5) (pv 7)))))
      (pss_one (ps_if (PW.pt (pw_and (pt_cmpR op_eq (pv 8) pe_int (nomark _)) (pw_and1 (pt_cmpR op_lt (pe_callB call_len_seq (by rfl) B.len PySem.boot_len (pa_cons (pv 4) pa_nil)) pe_int (nomark _)))))
        (pss_one (ps_expr (pe_bm PySem.F.plainAttrs_list PySem.F.slot_list_append PySem.F.type_list_append mt_append (pv 4) (pa_cons (pe_lst (pa_cons pe_str (pa_cons (pe_cal G_law_term hr3 rfl pass0 (pa_cons (pv 9) (pa_cons (pv 1) pa_nil))) (pa_cons (pe_lst pa_nil) pa_nil)))) pa_nil))))
        (pss_one (ps_if (PW.pt (pw_and (pt_cmpR op_eq (pv 8) pe_int (nomark _)) (pw_and (pt_cmpR op_lt (pe_callB call_len_seq (by rfl) B.len PySem.boot_len (pa_cons (pv 4) pa_nil)) pe_int (nomark _)) (pw_and1 (pt_cmpR op_lt (pe_op op_add (pv 5) (pe_op op_mul (pv 7) (pe_cal G_law_again hr1 rfl pass0 (pa_cons (pv 9) pa_nil)))) pe_int (nomark _))))))
          (pss_one (ps_expr (pe_bm PySem.F.plainAttrs_list PySem.F.slot_list_append PySem.F.type_list_append mt_append (pv 4) (pa_cons (pe_lst (pa_cons pe_str (pa_cons (pe_cal G_law_again hr1 rfl pass0 (pa_cons (pv 9) pa_nil)) (pa_cons (pe_lst pa_nil) pa_nil)))) pa_nil))))
          (pss_one (ps_if (PW.pt (pw_and (pt_cmpR op_eq (pv 8) pe_int (nomark _)) (pw_and (pt_cmpR op_eq (pe_ix ix_list (pe_ix ix_list (pv 4) (pe_un un_neg pe_int) (fun _ _ => rfl)) pe_int (fun _ _ => rfl)) pe_str (nomark _)) (pw_and1 (pt_cmpR op_eq (pe_callB call_len_seq (by rfl) B.len PySem.boot_len (pa_cons (pe_ix ix_list (pv 4) (pe_un un_neg pe_int) (fun _ _ => rfl)) pa_nil)) pe_int (nomark _))))))
            (pss_one (ps_expr (pe_bm PySem.F.plainAttrs_list PySem.F.slot_list_append PySem.F.type_list_append mt_append (pe_ix ix_list (pv 4) (pe_un un_neg pe_int) (fun _ _ => rfl)) (pa_cons (pe_lst pa_nil) pa_nil))))
            (pss_one (ps_if (PW.pt (pw_and (PW.pt (pw_or (pt_cmpR op_eq (pv 8) pe_int (nomark _)) (pw_or1 (pt_cmpR op_eq (pv 8) pe_int (nomark _))))) (pw_and1 (pt_cmpR op_gt (pe_callB call_len_seq (by rfl) B.len PySem.boot_len (pa_cons (pv 4) pa_nil)) pe_int (nomark _)))))
              (pss_one (ps_expr (pe_cal G_law_shut hr1 rfl pass0 (pa_cons (pv 4) pa_nil))))
              (pss_one (ps_if (PW.pt (pw_or (pt_cmpR op_lt (pv 5) pe_int (nomark _)) (pw_or1 (pt_cmpR op_eq (pv 7) pe_int (nomark _)))))
                (pss_cons (ps_set (i := 10) scBuild.nd rfl (.inl rfl) (pe_op op_add pe_int (pe_op op_mod (pv 9) pe_int)))
                (pss_cons (ps_while PassesOwn.never (pt_cmpR op_gt (pe_cal G_law_raised hr1 rfl pass0 (pa_cons (pv 10) (pa_cons (pv 7) pa_nil))) (pv 2) (nomark _))
                  (pss_one (ps_set (i := 10) scBuild.nd rfl (.inl rfl) (pe_op op_sub (pv 10) pe_int))))
                (C8.pss_cut (ps_if (pt_cmpR op_lt (pv 8) pe_int (nomark _))
                  (pss_one (ps_set (i := 2) scBuild.nd rfl (.inl rfl) (pe_op op_fdivN (pv 2) (pe_cal G_law_raised hr1 rfl pass0 (pa_cons (pv 10) (pa_cons (pv 7) pa_nil))))))
                  pss_nil)
                (C8.pss_cut (ps_if (pt_cmpR op_eq (pv 8) pe_int (nomark _))
                  (pss_cons (ps_set (i := 3) scBuild.nd rfl (.inl rfl) (pe_op op_sub (pv 3) pe_int))
                  (pss_one (ps_if (pt_cmpR op_lt (pv 3) pe_int (nomark _))
                    (pss_one (ps_set (i := 8) scBuild.nd rfl (.inl rfl) pe_int))
                    pss_nil)))
                  pss_nil)
                (pss_one (ps_expr (pe_bm PySem.F.plainAttrs_list PySem.F.slot_list_append PySem.F.type_list_append mt_append (pe_ix ix_list (pe_ix ix_list (pv 4) (pe_un un_neg pe_int) (fun _ _ => rfl)) (pe_un un_neg pe_int) (fun _ _ => rfl)) (pa_cons (pe_cal G_law_deed hr rfl pass0 (pa_cons (pv 8) (pa_cons (pv 9) (pa_cons (pv 1) (pa_cons (pv 10) pa_nil))))) pa_nil))))))))
                pss_nil)))))))))))))))
    (pss_cons (ps_while PassesOwn.never (pt_cmpR op_gt (pe_callB call_len_seq (by rfl) B.len PySem.boot_len (pa_cons (pv 4) pa_nil)) pe_int (nomark _))
      (pss_one (ps_expr (pe_cal G_law_shut hr1 rfl pass0 (pa_cons (pv 4) pa_nil)))))
    (pss_one (ps_ret (pe_callTy call_tuple_of (by rfl) B.tuple (by decide +kernel) (pa_cons (pe_ix ix_list (pe_ix ix_list (pv 4) pe_int (fun _ _ => rfl)) pe_int (fun _ _ => rfl)) pa_nil)))))))), ?_⟩
  -- stack = [['rows', 0, []]]
  refine ⟨Nat.zero_le _, fun la hla => ⟨(by show 3 ≤ sizeLine; decide), fun ba hba => ⟨(by show 1 ≤ sizeLine; decide), fun S hS => ?_⟩⟩⟩
  have nlb : la ≠ ba := ne_of_none upd_same hba
  have nbS : ba ≠ S := ne_of_none upd_same hS
  have nlS : la ≠ S := ne_of_none (by rw [upd_ne nlb]; exact upd_same) hS
  have b0 : H ba = none := by rw [upd_ne nlb.symm] at hba; exact hba
  have S0 : H S = none := by rw [upd_ne nbS.symm, upd_ne nlS.symm] at hS; exact hS
  have St0 : StAt H (upd (upd (upd H la (.lst [])) ba (.lst [.str "rows", .int 0, .ref la])) S (.lst [.ref ba])) S [⟨.top, .num 0, 0, .nil, .nil, ba, la, 0, .non⟩] := by
    refine ⟨same_own (same_own (same_own (Same.refl H) hla) b0) S0, upd_same, fun b hb => ?_, ?_, fun a ha => ?_⟩
    · rw [List.mem_singleton.mp hb]
      refine ⟨by rw [upd_ne nbS]; exact upd_same, ⟨[], by rw [upd_ne nlS, upd_ne nlb]; exact upd_same, rfl⟩, fun z => ?_, fun z => ?_⟩
      · rcases z with z | z <;> cases z
      · cases z
    · show [S, ba, la].Nodup
      simp only [List.nodup_cons, List.mem_cons, List.not_mem_nil, or_false, not_or, not_false_eq_true, List.nodup_nil, and_true]
      exact ⟨⟨nbS.symm, nlS.symm⟩, nlb.symm⟩
    · have ha' : a ∈ [S, ba, la] := ha
      simp only [List.mem_cons, List.not_mem_nil, or_false] at ha'
      rcases ha' with rfl | rfl | rfl
      · exact S0
      · exact b0
      · exact hla
  refine ⟨_, rfl, ca, rfl, ⟨_, St0.same.seq hca⟩, ?_⟩
  refine for_list (K := K) (a := ca) (xs := ns.map V.int) (fun i σ H' => ∃ (mo se : Int) (sz : Nat) (o1 o2 o3 o4 o5 : Option V) (b : Blk) (r : List Blk), σ = [some (.ref ca), some (.ref na), some (.int mo), some (.int se), some (.ref S), some (.int (sz : Int)), o1, o2, o3, o4, o5] ∧
      StAt H H' S (b :: r) ∧ SOk i (b :: r) ∧ wtR (b :: r) ≤ sz ∧ sz ≤ 66 ∧ FOk (b :: r) ∧ 1 ≤ mo ∧ mo ≤ 1000000000 ∧ (i = 0 → sz = 0)) ?_ ?_ ?_ ?_
  · exact ⟨mo, se, 0, none, none, none, none, none, _, [], rfl, St0, ⟨rfl, ⟨trivial, trivial, fun _ => rfl, (show InB 0 from ⟨by decide, by decide⟩), (show 1 ≤ 4 by decide), Nat.zero_le _, (show 0 + 0 ≤ 5 by decide), (show 0 + 0 ≤ 5 by decide), Nat.zero_le _⟩⟩, (show (0 : Nat) ≤ 0 from Nat.le_refl 0), by decide, ⟨(show 1 * 1 ≤ 66 by decide), trivial⟩, hmo1, hmo2, fun _ => rfl⟩
  · rintro i σ H' _ ⟨_, _, _, _, _, _, _, _, _, _, _, St, _⟩
    exact St.same.seq hca
  · clear q hmo1 hmo2 mo se St0
    rintro i y σ H' hy ⟨mo, se, sz, o1, o2, o3, o4, o5, b, r, rfl, St, so, hw, hsz, hFO, hmo1, hmo2, h0⟩
    have hF := hFO.1
    obtain ⟨z, rfl⟩ : ∃ z, y = V.int z := by
      rw [List.getElem?_map] at hy
      cases e : ns[i]? with
      | none => rw [e] at hy; cases hy
      | some z => rw [e] at hy; exact ⟨z, (Option.some.inj hy).symm⟩
    have hi : i < 63 := by
      have := (List.getElem?_eq_some_iff.mp hy).1
      rw [List.length_map] at this
      omega
    obtain ⟨F, eF⟩ : ∃ F : Nat, fac (b :: r) = F := ⟨_, rfl⟩
    have hlen := so.len
    have ll : (((b :: r).reverse.map fun b => V.ref b.ba).length : Int) = (r.length : Int) + 1 := by rw [List.length_map, List.length_reverse, List.length_cons]; rfl
    -- factor, kind, rest
    refine ⟨_, rfl, H, S, b :: r, rfl, St, so.all, ?_⟩
    rw [eF] at hF ⊢
    refine ⟨_, rfl, _, _, rfl, rfl, (by show (0 : Int) < 12; decide), ?_⟩
    refine ⟨_, rfl, _, _, rfl, rfl, ⟨by decide, by decide⟩, ?_⟩
    -- size
    refine ⟨fun σ H'' => H'' = H' ∧ ∃ (kd : Int) (sz' : Nat), σ = [some (.ref ca), some (.ref na), some (.int mo), some (.int se), some (.ref S), some (.int (sz' : Int)), some (.int z), some (.int (F : Int)), some (.int kd), some (.int (z / 12)), o5] ∧
        sz' ≤ 66 ∧ sz ≤ sz' ∧ ((kd = 11 ∧ sz' = sz ∧ 66 < sz + F) ∨ sz' = sz + F), ?_, ?_⟩
    · refine ⟨_, rfl, _, rfl, _, _, rfl, rfl, _, _, rfl, rfl, _, rfl, if2 (fun c => ?_) (fun c => ?_)⟩
      · exact ⟨rfl, 11, sz, rfl, hsz, Nat.le_refl _, .inl ⟨rfl, rfl, by omega⟩⟩
      · exact ⟨_, rfl, _, rfl, _, _, rfl, rfl, rfl, z % 12, sz + F, rfl, by omega, by omega, .inr rfl⟩
    rintro σ H'' ⟨rfl, kd, sz', rfl, hsz', hle, hkd⟩
    have h1 : H'' S = some (.lst ((b :: r).reverse.map fun b => V.ref b.ba)) := St.h1
    have hlast : atI ((b :: r).reverse.map fun b => V.ref b.ba) (-1) = some (V.ref b.ba) := by rw [rev_last]; exact atI_last _ _
    have hbb := St.h2 b List.mem_cons_self
    have lenle : ((b :: r).reverse.map fun b => V.ref b.ba).length ≤ 6 := by rw [List.length_map, List.length_reverse, List.length_cons]; omega
    -- the deed
    refine' lift (C := sz' = sz + F ∨ (66 ≤ sz' ∧ F = 1)) (fun k5 => ?main5) (fun hC => ?side5)
    case main5 =>
      -- a block is shut
      refine' lift (C := kd = 9 ∨ kd = 11) (fun k4 => ?main4) (fun hD => ?side4)
      case main4 =>
        by_cases c8 : kd = 8
        · have hB : sz' = sz + F := by omega
          refine ⟨_, rfl, rfl, _, rfl, ifT (by rw [int_dec]; exact decide_eq_true c8) ⟨_, rfl, S, _, rfl, .inl (SqL.of h1), _, _, rfl, rfl, _, rfl, ?_⟩⟩
          rw [ll]
          refine if2 (fun cl => ?_) (fun cl => ?_)
          · refine ⟨_, rfl, .inl ⟨rfl, _, SqL.of h1⟩, _, rfl, _, rfl, z / 12, na, rfl, hN.same St.same, fun H2 tv t g2 ht ot dt => ⟨Nat.zero_le _, fun l hl => ⟨(by show 3 ≤ sizeLine; decide), fun p hp => ?_⟩⟩⟩
            have s3 := (g2.trans (same_new hl (.lst []))).trans (same_new hp (.lst [.str "if", tv, .ref l]))
            have St3 := St.step s3
            refine ⟨S, _, _, rfl, rfl, St3.h1, small1000 (by omega), ?_⟩
            have nl := (St.step g2).new hl
            have np := (St.step (g2.trans (same_new hl (.lst [])))).new hp
            have nlp : l ≠ p := ne_of_none upd_same hp
            have St4 := St3.push (b := ⟨.iff, t, 0, .nil, .nil, p, l, 0, tv⟩)
              ⟨upd_same, ⟨[], by rw [upd_ne nlp]; exact upd_same, rfl⟩, fun _ => ht.keep (Kp.of ((same_new hl (.lst [])).trans (same_new hp (.lst [.str "if", tv, .ref l])))), fun y => by cases y⟩
              (by show [p, l].Nodup; simp [nlp.symm]) (fun a ha => by
                have ha' : a ∈ [p, l] := ha
                simp only [List.mem_cons, List.not_mem_nil, or_false] at ha'
                rcases ha' with rfl | rfl
                · exact np
                · exact nl)
            rw [rev_last] at St4
            refine ⟨mo, se, sz', _, _, _, _, _, _, b :: r, rfl, St4, (so.mono (Nat.le_succ i)).push (fun y => by cases y) ⟨trivial, trivial, fun _ => rfl, ot, dt, Nat.zero_le _, (show 0 + (r.length + 1) ≤ 5 by omega), (show 0 + (r.length + 1) ≤ 5 by omega), Nat.zero_le _⟩, ?_, hsz', ?_, hmo1, hmo2, fun y => by cases y⟩
            · show wtR (b :: r) + fac (b :: r) * (1 + 1 * (0 + 0)) ≤ sz'
              rw [eF]; omega
            · refine ⟨?_, hFO⟩
              show 1 * fac (b :: r) ≤ 66
              rw [eF]; omega
          · -- six blocks stand open
            refine ⟨_, rfl, rfl, _, rfl, ifF (by rw [int_dec]; exact decide_eq_false (by omega)) (iteF ?_)⟩
            refine ⟨_, rfl, rfl, _, rfl, ifF (by rw [int_dec]; exact decide_eq_false (by omega)) (iteF ?_)⟩
            refine ⟨_, rfl, rfl, _, rfl, ifF (by rw [int_dec]; exact decide_eq_false (by omega)) ⟨_, rfl, rfl, _, rfl, ifF (by rw [int_dec]; exact decide_eq_false (by omega)) (iteF ?_)⟩⟩
            exact k5 (.inl hB)
        refine ⟨_, rfl, rfl, _, rfl, ifF (by rw [int_dec]; exact decide_eq_false c8) (iteF ?_)⟩
        by_cases c10 : kd = 10
        · have hB : sz' = sz + F := by omega
          refine ⟨_, rfl, rfl, _, rfl, ifT (by rw [int_dec]; exact decide_eq_true c10) ⟨_, rfl, S, _, rfl, .inl (SqL.of h1), _, _, rfl, rfl, _, rfl, ?_⟩⟩
          rw [ll]
          refine if2 (fun cl => ?_) (fun cl => ?_)
          · refine ⟨_, rfl, _, rfl, _, rfl, z / 12, rfl, _, _, rfl, rfl, .inl ⟨by omega, by omega⟩, _, _, rfl, rfl, _, _, rfl, rfl, _, rfl, if2 (fun cs => ?_) (fun cs => ?_)⟩
            · -- a repeat is opened
              have ha0 := agn_lo (z / 12)
              have ha1 := agn_hi (z / 12)
              obtain ⟨an, ean⟩ : ∃ an : Nat, agn (z / 12) = (an : Int) := ⟨(agn (z / 12)).toNat, by omega⟩
              refine ⟨_, rfl, .inl ⟨rfl, _, SqL.of h1⟩, _, rfl, z / 12, rfl, Nat.zero_le _, fun l hl => ⟨(by show 3 ≤ sizeLine; decide), fun p hp => ?_⟩⟩
              rw [ean] at cs ⊢
              have s3 := (same_new hl (.lst [])).trans (same_new hp (.lst [.str "repeat", .int (an : Int), .ref l]))
              have St3 := St.step s3
              refine ⟨S, _, _, rfl, rfl, St3.h1, small1000 (by omega), ?_⟩
              have nl := St.new hl
              have np := (St.step (same_new hl (.lst []))).new hp
              have nlp : l ≠ p := ne_of_none upd_same hp
              have St4 := St3.push (b := ⟨.rep, .num 0, an, .nil, .nil, p, l, 0, .non⟩)
                ⟨upd_same, ⟨[], by rw [upd_ne nlp]; exact upd_same, rfl⟩, fun y => by (rcases y with y | y <;> cases y), fun y => by cases y⟩
                (by show [p, l].Nodup; simp [nlp.symm]) (fun a ha => by
                  have ha' : a ∈ [p, l] := ha
                  simp only [List.mem_cons, List.not_mem_nil, or_false] at ha'
                  rcases ha' with rfl | rfl
                  · exact np
                  · exact nl)
              rw [rev_last] at St4
              refine ⟨mo, se, sz', _, _, _, _, _, _, b :: r, rfl, St4, (so.mono (Nat.le_succ i)).push (fun y => by cases y) ⟨trivial, trivial, fun _ => rfl, (show InB 0 from ⟨by decide, by decide⟩), (show 1 ≤ 4 by decide), (show an ≤ 60 by omega), (show 0 + (r.length + 1) ≤ 5 by omega), (show 0 + (r.length + 1) ≤ 5 by omega), Nat.zero_le _⟩, ?_, hsz', ?_, hmo1, hmo2, fun y => by cases y⟩
              · show wtR (b :: r) + fac (b :: r) * (1 + an * (0 + 0)) ≤ sz'
                rw [eF, Nat.add_zero, Nat.mul_zero, Nat.add_zero, Nat.mul_one]; omega
              · refine ⟨?_, hFO⟩
                show an * fac (b :: r) ≤ 66
                rw [eF]
                have e1 : (F : Int) * (an : Int) = ((an * F : Nat) : Int) := by rw [Int.natCast_mul, Int.mul_comm]
                rw [e1] at cs
                omega
            · refine ⟨_, rfl, rfl, _, rfl, ifF (by rw [int_dec]; exact decide_eq_false (by omega)) (iteF ?_)⟩
              refine ⟨_, rfl, rfl, _, rfl, ifF (by rw [int_dec]; exact decide_eq_false (by omega)) ⟨_, rfl, rfl, _, rfl, ifF (by rw [int_dec]; exact decide_eq_false (by omega)) (iteF ?_)⟩⟩
              exact k5 (.inl hB)
          · refine ⟨_, rfl, rfl, _, rfl, ifF (by rw [int_dec]; exact decide_eq_false (by omega)) (iteF ?_)⟩
            refine ⟨_, rfl, rfl, _, rfl, ifF (by rw [int_dec]; exact decide_eq_false (by omega)) ⟨_, rfl, rfl, _, rfl, ifF (by rw [int_dec]; exact decide_eq_false (by omega)) (iteF ?_)⟩⟩
            exact k5 (.inl hB)
        refine ⟨_, rfl, rfl, _, rfl, ifF (by rw [int_dec]; exact decide_eq_false c10) (iteF ?_)⟩
        by_cases c9 : kd = 9
        · refine ⟨_, rfl, rfl, _, rfl, ifT (by rw [int_dec]; exact decide_eq_true c9) ?_⟩
          have hbh := hbb.h1
          cases hk : b.kd with
          | top =>
            have ei : its b = [.str "rows", .int 0, .ref b.la] := by unfold its; rw [hk]
            rw [ei] at hbh
            exact ⟨_, rfl, _, rfl, S, _, _, _, rfl, rfl, SqL.of h1, hlast, b.ba, _, _, _, rfl, rfl, SqL.of hbh, rfl, rfl, _, rfl, ifF (by decide +kernel) (iteF (k4 (.inl c9)))⟩
          | rep =>
            have ei : its b = [.str "repeat", .int b.n, .ref b.la] := by unfold its; rw [hk]
            rw [ei] at hbh
            exact ⟨_, rfl, _, rfl, S, _, _, _, rfl, rfl, SqL.of h1, hlast, b.ba, _, _, _, rfl, rfl, SqL.of hbh, rfl, rfl, _, rfl, ifF (by decide +kernel) (iteF (k4 (.inl c9)))⟩
          | els =>
            have ei : its b = [.str "if", b.tv, .ref b.fa, .ref b.la] := by unfold its; rw [hk]
            rw [ei] at hbh
            exact ⟨_, rfl, _, rfl, S, _, _, _, rfl, rfl, SqL.of h1, hlast, b.ba, _, _, _, rfl, rfl, SqL.of hbh, rfl, rfl, _, rfl, ifT (by decide +kernel)
              ⟨_, rfl, _, rfl, S, _, _, _, rfl, rfl, SqL.of h1, hlast, b.ba, _, rfl, .inl (SqL.of hbh), rfl, _, rfl, ifF (show decide (V.int 4 = V.int 3) = false by decide) (k4 (.inl c9))⟩⟩
          | iff =>
            have ei : its b = [.str "if", b.tv, .ref b.la] := by unfold its; rw [hk]
            have hbh2 := hbh
            rw [ei] at hbh
            refine ⟨_, rfl, _, rfl, S, _, _, _, rfl, rfl, SqL.of h1, hlast, b.ba, _, _, _, rfl, rfl, SqL.of hbh, rfl, rfl, _, rfl, ifT (by decide +kernel)
              ⟨_, rfl, _, rfl, S, _, _, _, rfl, rfl, SqL.of h1, hlast, b.ba, _, rfl, .inl (SqL.of hbh), rfl, _, rfl, ifT (show decide (V.int 3 = V.int 3) = true by decide) ?_⟩⟩
            -- else
            refine ⟨_, rfl, _, rfl, S, _, _, _, rfl, rfl, SqL.of h1, hlast, .inl ⟨rfl, _, SqL.of hbh⟩, Nat.zero_le _, fun l hl => ?_⟩
            have s2 := same_new hl (.lst [])
            refine ⟨b.ba, _, _, rfl, rfl, s2 _ _ hbh2, (by rw [ei]; show 3 < sizeLine; decide), ?_⟩
            have St2 := (St.step s2).els hk upd_same (St.new hl)
            have bo := so.head
            have hf := bo.nof (by rw [hk]; intro y; cases y)
            refine ⟨mo, se, sz', _, _, _, _, _, toEls b l, r, rfl, St2, (so.mono (Nat.le_succ i)).set ⟨fun y => (by cases y), fun y => (by rw [hk] at y; cases y)⟩ ⟨trivial, bo.rs, fun y => absurd rfl y, bo.tm, bo.td, bo.n, ?_, bo.l1, Nat.zero_le _⟩, ?_, hsz', ?_, hmo1, hmo2, fun y => by cases y⟩
            · show 0 + r.length ≤ 5
              omega
            · have e1 : fct b = 1 := by unfold fct; rw [hk]
              have e2 : hb b = 1 := by unfold hb; rw [hk]
              have hw' : wtR r + fac r * (hb b + fct b * (wl b.first + wl b.rs)) ≤ sz := hw
              rw [e1, e2, hf] at hw'
              show wtR r + fac r * (1 + 1 * (wl b.rs + 0)) ≤ sz'
              have e3 : (1 + 1 * (wl Rws.nil + wl b.rs)) = 1 + 1 * (wl b.rs + 0) := by simp only [wl]; omega
              rw [e3] at hw'
              omega
            · have e1 : fct b = 1 := by unfold fct; rw [hk]
              have eF' : fct b * fac r = F := eF
              rw [e1] at eF'
              refine ⟨?_, hFO.2⟩
              show 1 * fac r ≤ 66
              omega
        refine ⟨_, rfl, rfl, _, rfl, ifF (by rw [int_dec]; exact decide_eq_false c9) (iteF ?_)⟩
        by_cases c11 : kd = 11
        · exact k4 (.inr c11)
        · refine ⟨_, rfl, rfl, _, rfl, ifF (by rw [int_dec]; exact decide_eq_false (by omega)) ⟨_, rfl, rfl, _, rfl, ifF (by rw [int_dec]; exact decide_eq_false (by omega)) (iteF ?_)⟩⟩
          exact k5 (.inl (by omega))
      case side4 =>
        refine' lift (C := True) (fun kk => ?mainL) (fun _ => ?sideL)
        case mainL =>
          by_cases c9 : kd = 9
          · exact ⟨_, rfl, rfl, _, rfl, ifT (by rw [int_dec]; exact decide_eq_true c9) (iteT (kk trivial))⟩
          · exact ⟨_, rfl, rfl, _, rfl, ifF (by rw [int_dec]; exact decide_eq_false c9) ⟨_, rfl, rfl, _, rfl, ifT (by rw [int_dec]; exact decide_eq_true (by omega)) (kk trivial)⟩⟩
        case sideL =>
          refine ⟨_, rfl, S, _, rfl, .inl (SqL.of h1), _, _, rfl, rfl, _, rfl, ?_⟩
          rw [ll]
          refine if2 (fun cl => ?_) (fun cl => ?_)
          · cases r with
            | nil => exact absurd cl (by show ¬ ((0 : Int) + 1 > 1); decide)
            | cons c r' =>
              have ho := so.2.1
              refine ⟨_, rfl, H, S, b, c, r', rfl, St, so.1, ho.nof, by have := so.2.2.head.im; omega, fun H2 St2 => ?_⟩
              refine ⟨mo, se, sz', _, _, _, _, _, _, r', rfl, St2, so.shut, ?_, hsz', ?_, hmo1, hmo2, fun y => by cases y⟩
              · rw [wt_shut so]; omega
              · exact ⟨hFO.2.1, hFO.2.2⟩
          · cases r with
            | cons c r' => exact absurd (show ((c :: r').length : Int) + 1 > 1 by rw [List.length_cons]; omega) cl
            | nil =>
              refine k5 ?_
              rcases hkd with ⟨_, e1, e2⟩ | e1
              · have ht : b.kd = .top := so.1
                have eF1 : fct b * 1 = F := eF
                have e3 : fct b = 1 := by unfold fct; rw [ht]
                exact .inr ⟨by omega, by omega⟩
              · exact .inl e1
    case side5 =>
      have go : ∀ (o1 o2 o3 o4 o5 : Option V) (mo se : Int), 1 ≤ mo → mo ≤ 1000000000 → ∃ (mo' se' : Int) (sz'' : Nat) (p1 p2 p3 p4 p5 : Option V) (b : Blk) (r : List Blk), [some (V.ref ca), some (.ref na), some (.int mo), some (.int se), some (.ref S), some (.int (sz' : Int)), o1, o2, o3, o4, o5] = [some (.ref ca), some (.ref na), some (.int mo'), some (.int se'), some (.ref S), some (.int (sz'' : Int)), p1, p2, p3, p4, p5] ∧
          StAt H H'' S (b :: r) ∧ SOk (i + 1) (b :: r) ∧ wtR (b :: r) ≤ sz'' ∧ sz'' ≤ 66 ∧ FOk (b :: r) ∧ 1 ≤ mo' ∧ mo' ≤ 1000000000 ∧ (i + 1 = 0 → sz'' = 0) := fun o1 o2 o3 o4 o5 mo se h1 h2 =>
        ⟨mo, se, sz', _, _, _, _, _, b, r, rfl, St, so.mono (Nat.le_succ i), by omega, hsz', hFO, h1, h2, fun y => by cases y⟩
      refine' lift (C := sz' = sz + F) (fun k6 => ?main6) (fun hB => ?side6)
      case main6 =>
        by_cases c1 : (sz' : Int) < 66
        · have hB : sz' = sz + F := by omega
          exact ⟨_, rfl, _, _, rfl, rfl, _, rfl, ifT (decide_eq_true c1) (iteT (k6 hB))⟩
        by_cases c2 : F = 0
        · have hB : sz' = sz + F := by omega
          exact ⟨_, rfl, _, _, rfl, rfl, _, rfl, ifF (decide_eq_false c1) ⟨_, rfl, rfl, _, rfl, ifT (by rw [int_dec]; exact decide_eq_true (by omega)) (k6 hB)⟩⟩
        · exact ⟨_, rfl, _, _, rfl, rfl, _, rfl, ifF (decide_eq_false c1) ⟨_, rfl, rfl, _, rfl, ifF (by rw [int_dec]; exact decide_eq_false (by omega)) (go _ _ _ _ _ mo se hmo1 hmo2)⟩⟩
      case side6 =>
        -- many = 1 + rest % 6
        refine ⟨_, rfl, _, _, rfl, rfl, (by show (0 : Int) < 6; decide), _, _, rfl, rfl, ?_⟩
        refine while_by (fun σ H3 => H3 = H'' ∧ ∃ m : Nat, 1 ≤ m ∧ m ≤ 6 ∧ σ = [some (.ref ca), some (.ref na), some (.int mo), some (.int se), some (.ref S), some (.int (sz' : Int)), some (.int z), some (.int (F : Int)), some (.int kd), some (.int (z / 12)), some (.int (m : Int))])
          (fun (σ : L2.St) _ => match σ[10]? with | some (some (V.int x)) => x.toNat | _ => 0) ?_ ?_ ?_
        · obtain ⟨m, em⟩ : ∃ m : Nat, 1 + z / 12 % 6 = (m : Int) := ⟨(1 + z / 12 % 6).toNat, by omega⟩
          refine ⟨rfl, m, by omega, by omega, ?_⟩
          rw [← em]
          rfl
        · rintro σ H3 ⟨rfl, m, hm1, hm6, rfl⟩
          refine ⟨_, rfl, _, rfl, m, F, rfl, hm6, by omega, _, rfl, _, _, rfl, rfl, _, rfl, if2 (fun cw => ?_) (fun cw => ?_)⟩
          · -- less sides
            have hm2 : 2 ≤ m := by
              rcases Nat.lt_or_ge m 2 with h | h
              · have e1 : m = 1 := by omega
                rw [e1, Nat.one_pow] at cw
                exact absurd cw (by omega)
              · exact h
            refine ⟨_, rfl, _, _, rfl, rfl, ⟨rfl, m - 1, by omega, by omega, ?_⟩, ?_⟩
            · have e1 : (m : Int) - 1 = ((m - 1 : Nat) : Int) := by omega
              show [_, _, _, _, _, _, _, _, _, _, some (V.int ((m : Int) - 1))] = _
              rw [e1]
            · show ((m : Int) - 1).toNat < ((m : Nat) : Int).toNat
              omega
          · -- the deed itself
            have hx1 : 1 ≤ m ^ F := Nat.pow_pos hm1
            obtain ⟨x, ex⟩ : ∃ x : Nat, m ^ F = x := ⟨_, rfl⟩
            rw [ex] at cw hx1
            refine ⟨fun σ H4 => H4 = H3 ∧ ∃ mo' : Int, 1 ≤ mo' ∧ mo' ≤ 1000000000 ∧ σ = [some (.ref ca), some (.ref na), some (.int mo'), some (.int se), some (.ref S), some (.int (sz' : Int)), some (.int z), some (.int (F : Int)), some (.int kd), some (.int (z / 12)), some (.int (m : Int))], ?_, ?_⟩
            · refine ⟨_, rfl, _, _, rfl, rfl, _, rfl, if2 (fun _ => ?_) (fun _ => ⟨rfl, mo, hmo1, hmo2, rfl⟩)⟩
              refine ⟨_, rfl, _, rfl, _, rfl, m, F, rfl, hm6, by omega, _, _, rfl, rfl, ?_, rfl, mo.fdiv (x : Int), ?_, ?_, ?_⟩
              · rw [ex]; exact ⟨by omega, by omega⟩
              · rw [Int.fdiv_eq_ediv_of_nonneg _ (by omega)]
                exact Int.le_ediv_of_mul_le (by omega) (by omega)
              · rw [Int.fdiv_eq_ediv_of_nonneg _ (by omega)]
                have := Int.ediv_le_self (x : Int) (show 0 ≤ mo by omega)
                omega
              · rw [← ex]; rfl
            rintro σ H4 ⟨rfl, mo', hp1, hp2, rfl⟩
            refine ⟨fun σ H5 => H5 = H4 ∧ ∃ (se' kd' : Int), σ = [some (.ref ca), some (.ref na), some (.int mo'), some (.int se'), some (.ref S), some (.int (sz' : Int)), some (.int z), some (.int (F : Int)), some (.int kd'), some (.int (z / 12)), some (.int (m : Int))], ?_, ?_⟩
            · refine ⟨_, rfl, rfl, _, rfl, ite2 (fun _ => ?_) (fun _ => ⟨rfl, se, kd, rfl⟩)⟩
              refine ⟨_, rfl, _, _, rfl, rfl, _, rfl, _, _, rfl, rfl, _, rfl, if2 (fun _ => ?_) (fun _ => ?_)⟩
              · exact ⟨rfl, _, 4, rfl⟩
              · exact ⟨rfl, _, kd, rfl⟩
            rintro σ H5 ⟨rfl, se', kd', rfl⟩
            obtain ⟨vs, hv, hR⟩ := hbb.h2
            refine ⟨_, rfl, _, rfl, S, _, _, _, rfl, rfl, SqL.of h1, hlast, _, rfl, b.ba, _, _, _, rfl, rfl, SqL.of hbb.h1, its_neg1 b, .inl ⟨rfl, _, SqL.of hv⟩, ?_⟩
            refine ⟨_, rfl, _, rfl, _, rfl, _, rfl, kd', z / 12, na, m, rfl, hm1, hm6, hN.same St.same, fun H6 p qr g6 hq oq wq lq => ?_⟩
            have hv6 := g6 _ _ hv
            have hR6 := hR.keep (Kp.of g6)
            have lv := hR.len
            have bo := so.head
            refine ⟨b.la, _, _, rfl, rfl, hv6, small1000 (by rw [lv]; have := bo.im; omega), ?_⟩
            have St6 := (St.step g6).add hv6 hR6 hq
            refine ⟨mo', se', sz', _, _, _, _, _, addRow b qr, r, rfl, St6, ?_, ?_, hsz', ?_, hp1, hp2, fun y => by cases y⟩
            · refine (so.mono (Nat.le_succ i)).set Iff.rfl ⟨RwOk_app _ _ bo.rs oq, bo.first, bo.nof, bo.tm, bo.td, bo.n, ?_, bo.l2, ?_⟩
              · show lev (app b.rs qr) + r.length ≤ 5
                rw [lev_app, lq]
                have := bo.l1
                omega
              · show it (app b.rs qr) ≤ i + 1
                rw [it_app]
                have h1' := bo.im
                have h2' := hq.len
                have h3' : ([V.ref p] : List V).length = 1 := rfl
                omega
            · rw [wt_add, wq, eF]; omega
            · exact hFO
        · rintro σ H3 Q1 Q2 h ⟨v, e, v2, e2, m, n, e3, g1, g2, v3, e4, i', j', e5, e6, c, e7, y⟩
          exact ⟨v, e, v2, e2, m, n, e3, g1, g2, v3, e4, i', j', e5, e6, c, e7, h _ _ y⟩
  · clear hmo1 hmo2 mo se St0
    rintro σ H' ⟨mo, se, sz, o1, o2, o3, o4, o5, b, r, rfl, St, so, hw, hsz, hF, hmo1, hmo2, h0⟩
    rw [List.length_map] at so h0
    have hz : ns = [] → wtR (b :: r) = 0 := fun e => by
      rw [e] at h0
      have := h0 rfl
      omega
    have so' : SOk 64 (b :: r) := so.mono (by omega)
    -- while len(stack) > 1
    refine while_by (fun σ H1 => ∃ (b : Blk) (r : List Blk) (m : Nat), σ = [some (.ref ca), some (.ref na), some (.int mo), some (.int se), some (.ref S), some (.int (sz : Int)), o1, o2, o3, o4, o5] ∧ StAt H H1 S (b :: r) ∧ SOk m (b :: r) ∧ m + r.length ≤ 100 ∧ wtR (b :: r) ≤ 66 ∧ (ns = [] → wtR (b :: r) = 0))
      (fun _ H1 => match H1 S with | some (HO.lst xs) => xs.length | _ => 0) ⟨b, r, 64, rfl, St, so', by have := so'.len; omega, by omega, hz⟩ ?_ ?_
    · clear hw hz so so' St
      rintro σ H1 ⟨b, r, m, rfl, St, so, hm, hw, hz⟩
      have ll : (((b :: r).reverse.map fun b => V.ref b.ba).length : Int) = (r.length : Int) + 1 := by rw [List.length_map, List.length_reverse, List.length_cons]; rfl
      refine ⟨_, rfl, S, _, rfl, .inl (SqL.of St.h1), _, _, rfl, rfl, _, rfl, ?_⟩
      rw [ll]
      refine if2 (fun cl => ?_) (fun cl => ?_)
      · cases r with
        | nil => exact absurd cl (by show ¬ ((0 : Int) + 1 > 1); decide)
        | cons c r' =>
          have ho := so.2.1
          refine ⟨_, rfl, H, S, b, c, r', rfl, St, so.1, ho.nof, by have := so.2.2.head.im; omega, fun H2 St2 => ⟨⟨_, r', m + 1, rfl, St2, so.shut, by rw [List.length_cons] at hm; omega, by rw [wt_shut so]; exact hw, fun e => by rw [wt_shut so]; exact hz e⟩, ?_⟩⟩
          rw [St2.h1, St.h1]
          show (List.map _ _).length < (List.map _ _).length
          rw [List.length_map, List.length_map, List.length_reverse, List.length_reverse, List.length_cons, List.length_cons, List.length_cons]
          omega
      · cases r with
        | cons c r' => exact absurd (show ((c :: r').length : Int) + 1 > 1 by rw [List.length_cons]; omega) cl
        | nil =>
          have ht : b.kd = .top := so.1
          have bo := so.2
          have ei : its b = [.str "rows", .int 0, .ref b.la] := by unfold its; rw [ht]
          have hb1 := (St.h2 b List.mem_cons_self).h1
          rw [ei] at hb1
          obtain ⟨vs, hv, hR⟩ := (St.h2 b List.mem_cons_self).h2
          refine ⟨_, rfl, S, _, _, _, rfl, rfl, SqL.of St.h1, rfl, b.ba, _, _, _, rfl, rfl, SqL.of hb1, rfl, b.la, _, rfl, .inl ⟨SqL.of hv, fun p hp => ?_⟩⟩
          have s2 := St.same.trans (same_new hp (.tup vs))
          have e1 : fct b = 1 := by unfold fct; rw [ht]
          have e2 : hb b = 0 := by unfold hb; rw [ht]
          have e3 := bo.nof (by rw [ht]; intro y; cases y)
          have ew : wtR [b] = wl b.rs := by
            show 0 + 1 * (hb b + fct b * (wl b.first + wl b.rs)) = _
            rw [e1, e2, e3]
            simp only [wl]; omega
          rw [ew] at hw hz
          exact q _ p vs b.rs s2 upd_same (hR.keep (Kp.new hp)) bo.rs (by have := bo.l1; omega) hw hz
    · rintro σ H1 Q1 Q2 h ⟨v, e, p, ys, e1, g, i', j', e2, e3, c, e4, y⟩
      exact ⟨v, e, p, ys, e1, g, i', j', e2, e3, c, e4, h _ _ y⟩
end
end Lot

/-! _law_reckon, _law_worth -/
namespace Lot
open PySem L2
abbrev sLRk : Stmt := top 40
abbrev sLWorth : Stmt := top 41
section
variable {P : Program} {w : World} {K : PySem.W.Frag} {mg : Str → Option Value} {base : Heap}
def OpOk (o : Str) : Prop := o = "not" ∨ o = "pick" ∨ o ∈ ops7
theorem opn_ok {t : Tm} (h : comp t = true) (k : TmOk t) : OpOk (opn t) := by
  cases t with
  | num _ => cases h
  | name _ => cases h
  | una t => exact .inl rfl
  | bin o t u => exact .inr (.inr k.1)
  | pick t u v => exact .inr (.inl rfl)
theorem rec_not (xs : List Int) : rec' "not" xs = b2n (decide (xs.getD 0 0 = 0)) := by unfold rec'; rw [if_pos rfl]
theorem rec_pick {o : Str} (h : ¬ o = "not") (k : o = "pick") (xs : List Int) : rec' o xs = if xs.getD 0 0 = 0 then xs.getD 2 0 else xs.getD 1 0 := by unfold rec'; rw [if_neg h, if_pos k]
theorem rec_two {o : Str} (h : ¬ o = "not") (k : ¬ o = "pick") (xs : List Int) : rec' o xs = rk o (xs.getD 0 0) (xs.getD 1 0) := by unfold rec'; rw [if_neg h, if_neg k]
theorem rk_less (a b : Int) : rk "less" a b = b2n (decide (a < b)) := by
  unfold rk
  rw [if_neg (show ¬ ("less" : Str) = "add" by decide +kernel), if_neg (show ¬ ("less" : Str) = "sub" by decide +kernel), if_neg (show ¬ ("less" : Str) = "mul" by decide +kernel), if_pos rfl]
theorem rk_same (a b : Int) : rk "same" a b = b2n (decide (a = b)) := by
  unfold rk
  rw [if_neg (show ¬ ("same" : Str) = "add" by decide +kernel), if_neg (show ¬ ("same" : Str) = "sub" by decide +kernel), if_neg (show ¬ ("same" : Str) = "mul" by decide +kernel), if_neg (show ¬ ("same" : Str) = "less" by decide +kernel), if_pos rfl]
theorem rk_both (a b : Int) : rk "both" a b = b2n (!decide (a = 0) && !decide (b = 0)) := by
  unfold rk
  rw [if_neg (show ¬ ("both" : Str) = "add" by decide +kernel), if_neg (show ¬ ("both" : Str) = "sub" by decide +kernel), if_neg (show ¬ ("both" : Str) = "mul" by decide +kernel), if_neg (show ¬ ("both" : Str) = "less" by decide +kernel), if_neg (show ¬ ("both" : Str) = "same" by decide +kernel), if_pos rfl]
theorem rk_any (a b : Int) : rk "any" a b = b2n (!decide (a = 0) || !decide (b = 0)) := by
  unfold rk
  rw [if_neg (show ¬ ("any" : Str) = "add" by decide +kernel), if_neg (show ¬ ("any" : Str) = "sub" by decide +kernel), if_neg (show ¬ ("any" : Str) = "mul" by decide +kernel), if_neg (show ¬ ("any" : Str) = "less" by decide +kernel), if_neg (show ¬ ("any" : Str) = "same" by decide +kernel), if_neg (show ¬ ("any" : Str) = "both" by decide +kernel)]
/-- the three that are clamped -/
def due3 (o : Str) (a b : Int) : Int := if o = "sub" then a - b else if o = "add" then a + b else a * b
theorem rk_clamp {o : Str} (h : o ∈ ops7) (n1 : ¬ o = "less") (n2 : ¬ o = "same") (n3 : ¬ o = "both") (n4 : ¬ o = "any") (a b : Int) : rk o a b = clamp (due3 o a b) := by
  have h' : o ∈ (["add", "sub", "mul", "less", "same", "both", "any"] : List Str) := h
  simp only [List.mem_cons, List.not_mem_nil, or_false] at h'
  unfold rk due3
  rcases h' with e | e | e | e | e | e | e
  · rw [if_pos e, if_neg (show ¬ o = "sub" by rw [e]; decide +kernel), if_pos e]
  · rw [if_neg (show ¬ o = "add" by rw [e]; decide +kernel), if_pos e, if_pos e]
  · rw [if_neg (show ¬ o = "add" by rw [e]; decide +kernel), if_neg (show ¬ o = "sub" by rw [e]; decide +kernel), if_pos e, if_neg (show ¬ o = "sub" by rw [e]; decide +kernel), if_neg (show ¬ o = "add" by rw [e]; decide +kernel)]
  · exact absurd e n1
  · exact absurd e n2
  · exact absurd e n3
  · exact absurd e n4
def spLRk : Sp := fun vs H Q _ => ∃ (o : Str) (a : Addr) (xs : List Int), vs = [.str o, .ref a] ∧ H a = some (.lst (xs.map V.int)) ∧ Fit o xs ∧ OpOk o ∧ (∀ i ∈ xs, InB i) ∧ Q (.int (rec' o xs)) H
theorem scLRk : FnScope ["op", "parts", "one", "two", "due"] ["op", "parts"] (defScope sLRk) := ⟨rfl, rfl, rfl, by decide +kernel, rfl, by decide +kernel, by decide +kernel⟩
theorem ok_lrk {f : Addr} {fd : FuncData} (D : Df K mg "_law_reckon" sLRk ["op", "parts"] f fd) (B : Bl mg) : Cal P w K mg base CX0 1 "_law_reckon" ["op", "parts"] spLRk := by
  refine D.cal (D.fn.ok scLRk (fun vs H Q E h => ?_) (fun cdv A outer s H vs Q E hr h => ?_))
  · obtain ⟨o, a, xs, rfl, _⟩ := h
    rfl
  obtain ⟨o, a, xs, rfl, ha, hf, hO, hb, q⟩ := h
  have a0 : atI (xs.map V.int) 0 = some (.int (xs.getD 0 0)) := at_map (j := 0) hf.1
  have hb0 := getD_in hf.1 hb
  refine ⟨_, (pss_cons (ps_set (i := 2) scLRk.nd rfl (.inl rfl) (pe_ix ix_list (pv 1) pe_int (fun _ _ => rfl)))
    (pss_cons (ps_if (pt_cmpR op_eq (pv 0) pe_str (nomark _))
      (pss_one (ps_ret (pe_callTy call_int1 (by rfl) B.int (by decide +kernel) (pa_cons (pe_cmp (pc_eqI (pv 2) pe_int)) pa_nil))))
      pss_nil)
    (pss_cons (ps_set (i := 3) scLRk.nd rfl (.inl rfl) (pe_ix ix_list (pv 1) pe_int (fun _ _ => rfl)))
    (pss_cons (ps_if (pt_cmpR op_eq (pv 0) pe_str (nomark _))
      (pss_cons (ps_if (pt_cmpR op_ne (pv 2) pe_int (nomark _))
        (pss_one (ps_ret (pv 3)))
        pss_nil)
      (pss_one (ps_ret (pe_ix ix_list (pv 1) pe_int (fun _ _ => rfl)))))
      pss_nil)
    (pss_cons (ps_if (pt_cmpR op_eq (pv 0) pe_str (nomark _))
      (pss_one (ps_ret (pe_callTy call_int1 (by rfl) B.int (by decide +kernel) (pa_cons (pe_cmp (pc_lt (pv 2) (pv 3))) pa_nil))))
      pss_nil)
    (pss_cons (ps_if (pt_cmpR op_eq (pv 0) pe_str (nomark _))
      (pss_one (ps_ret (pe_callTy call_int1 (by rfl) B.int (by decide +kernel) (pa_cons (pe_cmp (pc_eqI (pv 2) (pv 3))) pa_nil))))
      pss_nil)
    (pss_cons (ps_if (pt_cmpR op_eq (pv 0) pe_str (nomark _))
      (pss_one (ps_ret (pe_callTy call_int1 (by rfl) B.int (by decide +kernel) (pa_cons (pe_and (pe_cmp (pc_neI (pv 2) pe_int)) (pe_one (pe_cmp (pc_neI (pv 3) pe_int)))) pa_nil))))
      pss_nil)
    (pss_cons (ps_if (pt_cmpR op_eq (pv 0) pe_str (nomark _))
      (pss_one (ps_ret (pe_callTy call_int1 (by rfl) B.int (by decide +kernel) (pa_cons (pe_or (pe_cmp (pc_neI (pv 2) pe_int)) (pe_one (pe_cmp (pc_neI (pv 3) pe_int)))) pa_nil))))
      pss_nil)
    (pss_cons (ps_set (i := 4) scLRk.nd rfl (.inl rfl) (pe_op op_mulW (pv 2) (pv 3)))
    (C8.pss_cut (ps_if (pt_cmpR op_eq (pv 0) pe_str (nomark _))
      (pss_one (ps_set (i := 4) scLRk.nd rfl (.inl rfl) (pe_op op_add (pv 2) (pv 3))))
      pss_nil)
    (C8.pss_cut (ps_if (pt_cmpR op_eq (pv 0) pe_str (nomark _))
      (pss_one (ps_set (i := 4) scLRk.nd rfl (.inl rfl) (pe_op op_sub (pv 2) (pv 3))))
      pss_nil)
    (pss_one (ps_ret (pe_callB (call_max2 rfl) (by rfl) B.max (by decide +kernel) (pa_cons (pe_un un_neg (pe_op op_pow pe_int pe_int)) (pa_cons (pe_callB (call_min2 rfl) (by rfl) B.min (by decide +kernel) (pa_cons (pe_op op_pow pe_int pe_int) (pa_cons (pv 4) pa_nil))) pa_nil)))))))))))))))), ?_⟩
  refine ⟨_, rfl, a, _, _, _, rfl, rfl, SqL.of ha, a0, ?_⟩
  refine ⟨_, rfl, rfl, _, rfl, ?_⟩
  rw [str_dec]
  refine if2 (fun c => ?_) (fun c => ?_)
  · rw [c, rec_not] at q
    exact ⟨_, rfl, _, _, rfl, rfl, .inr ⟨_, rfl, q⟩⟩
  have a1 : atI (xs.map V.int) 1 = some (.int (xs.getD 1 0)) := at_map (j := 1) (hf.2.2 c)
  have hb1 := getD_in (hf.2.2 c) hb
  refine ⟨_, rfl, a, _, _, _, rfl, rfl, SqL.of ha, a1, ?_⟩
  refine ⟨_, rfl, rfl, _, rfl, ?_⟩
  rw [str_dec]
  refine if2 (fun d => ?_) (fun d => ?_)
  · have a2 : atI (xs.map V.int) 2 = some (.int (xs.getD 2 0)) := at_map (j := 2) (hf.2.1 d)
    rw [rec_pick c d] at q
    refine ⟨_, rfl, rfl, _, rfl, ?_⟩
    rw [int_dec]
    by_cases z : xs.getD 0 0 = 0
    · rw [if_pos z] at q
      exact ifF (by rw [decide_eq_true z]; rfl) ⟨_, rfl, a, _, _, _, rfl, rfl, SqL.of ha, a2, q⟩
    · rw [if_neg z] at q
      exact ifT (by rw [decide_eq_false z]; rfl) ⟨_, rfl, q⟩
  rw [rec_two c d] at q
  generalize xs.getD 0 0 = x at q hb0 a0 ⊢
  generalize xs.getD 1 0 = y at q hb1 a1 ⊢
  refine ⟨_, rfl, rfl, _, rfl, ?_⟩
  rw [str_dec]
  refine if2 (fun e => ?_) (fun n1 => ?_)
  · rw [e, rk_less] at q
    exact ⟨_, rfl, _, rfl, _, _, rfl, rfl, .inr ⟨_, rfl, q⟩⟩
  refine ⟨_, rfl, rfl, _, rfl, ?_⟩
  rw [str_dec]
  refine if2 (fun e => ?_) (fun n2 => ?_)
  · rw [e, rk_same] at q
    exact ⟨_, rfl, _, rfl, _, _, rfl, rfl, .inr ⟨_, rfl, q⟩⟩
  refine ⟨_, rfl, rfl, _, rfl, ?_⟩
  rw [str_dec]
  refine if2 (fun e => ?_) (fun n3 => ?_)
  · rw [e, rk_both] at q
    refine ⟨_, rfl, _, _, rfl, rfl, _, rfl, ?_⟩
    by_cases d : x = 0
    · refine ifF (show (!decide (x = 0)) = false by rw [decide_eq_true d]; rfl) (.inr ⟨_, rfl, ?_⟩)
      rw [decide_eq_true d] at q
      exact q
    · refine ifT (show (!decide (x = 0)) = true by rw [decide_eq_false d]; rfl) ⟨_, rfl, _, _, rfl, rfl, .inr ⟨_, rfl, ?_⟩⟩
      rw [decide_eq_false d] at q
      exact q
  refine ⟨_, rfl, rfl, _, rfl, ?_⟩
  rw [str_dec]
  refine if2 (fun e => ?_) (fun n4 => ?_)
  · rw [e, rk_any] at q
    refine ⟨_, rfl, _, _, rfl, rfl, _, rfl, ?_⟩
    by_cases d : x = 0
    · refine ifF (show (!decide (x = 0)) = false by rw [decide_eq_true d]; rfl) ⟨_, rfl, _, _, rfl, rfl, .inr ⟨_, rfl, ?_⟩⟩
      rw [decide_eq_true d] at q
      exact q
    · refine ifT (show (!decide (x = 0)) = true by rw [decide_eq_false d]; rfl) (.inr ⟨_, rfl, ?_⟩)
      rw [decide_eq_false d] at q
      exact q
  have h7 : o ∈ ops7 := by
    rcases hO with z | z | z
    · exact absurd z c
    · exact absurd z d
    · exact z
  rw [rk_clamp h7 n1 n2 n3 n4] at q
  refine ⟨_, rfl, _, rfl, _, _, rfl, rfl, wide_mul hb0.lt hb1.lt (by decide) (by decide) (by decide), ?_⟩
  refine ⟨fun σ H' => H' = H ∧ σ = [some (.str o), some (.ref a), some (.int x), some (.int y), some (.int (if o = "add" then x + y else x * y))], ?_, ?_⟩
  · refine ⟨_, rfl, rfl, _, rfl, ?_⟩
    rw [str_dec]
    refine if2 (fun e => ?_) (fun e => ?_)
    · exact ⟨_, rfl, _, rfl, _, _, rfl, rfl, rfl, by rw [if_pos e]; rfl⟩
    · exact ⟨rfl, by rw [if_neg e]; rfl⟩
  rintro σ H' ⟨rfl, rfl⟩
  refine ⟨fun σ H'' => H'' = H' ∧ σ = [some (.str o), some (.ref a), some (.int x), some (.int y), some (.int (due3 o x y))], ?_, ?_⟩
  · refine ⟨_, rfl, rfl, _, rfl, ?_⟩
    rw [str_dec]
    refine if2 (fun e => ?_) (fun e => ?_)
    · exact ⟨_, rfl, _, rfl, _, _, rfl, rfl, rfl, by unfold due3; rw [if_pos e]; rfl⟩
    · exact ⟨rfl, by unfold due3; rw [if_neg e]⟩
  rintro σ H'' ⟨rfl, rfl⟩
  refine ⟨_, _, rfl, rfl, ⟨by decide, by decide, by decide⟩, _, rfl, _, _, rfl, rfl, ⟨by decide, by decide, by decide⟩, _, rfl, _, _, rfl, _, _, rfl, ?_⟩
  rw [ten30, clamp_mm]
  exact q

/-! ### _law_worth -/
def spLWorth (j : Nat) : Sp := fun vs H Q _ => ∃ (v : V) (ra : Addr) (t : Tm) (ρ : Rm), vs = [v, .ref ra] ∧ TmAt H v t ∧ TmOk t ∧ dep t ≤ j ∧ RoomAt H ra ρ ∧ RmB ρ ∧ ∀ H', Same H H' → Q (.int (wor ρ t)) H'
theorem scLWorth : FnScope ["term", "room", "part"] ["term", "room"] (defScope sLWorth) := ⟨rfl, rfl, rfl, by decide +kernel, rfl, by decide +kernel, by decide +kernel⟩
theorem ok_lworth1 {f : Addr} {fd : FuncData} {j k : Nat} (D : Df K mg "_law_worth" sLWorth ["term", "room"] f fd) (G_law_reckon : Cal P w K mg base CX0 k "_law_reckon" ["op", "parts"] spLRk)
    (G_law_worth : Cal P w K mg base CX0 k "_law_worth" ["term", "room"] (spLWorth j)) : Cal P w K mg base CX0 (k + 1) "_law_worth" ["term", "room"] (spLWorth (j + 1)) := by
  refine D.cal (D.fn.ok scLWorth (fun vs H Q E h => ?_) (fun cdv A outer s H vs Q E hr h => ?_))
  · obtain ⟨v, ra, t, ρ, rfl, _⟩ := h
    rfl
  obtain ⟨v, ra, t, ρ, rfl, ht, ok, hd, hR, hB, q⟩ := h
  have hu := hu_of hr
  refine ⟨_, (pss_cons (ps_if (pt_cmpR op_eq (pe_ix ix_tup (pv 0) pe_int (fun _ _ => rfl)) pe_str (nomark _))
      (pss_one (ps_ret (pe_ix ix_tup (pv 0) pe_int (fun _ _ => rfl))))
      pss_nil)
    (pss_cons (ps_if (pt_cmpR op_eq (pe_ix ix_tup (pv 0) pe_int (fun _ _ => rfl)) pe_str (nomark _))
      (pss_one (ps_ret (pe_dget2 hu (pv 1) (pe_ix ix_tup (pv 0) pe_int (fun _ _ => rfl)) pe_int ⟨by rfl, by rfl, by rfl, by rfl⟩)))
      pss_nil)
    (pss_one (ps_ret (pe_cal G_law_reckon hr rfl pass0 (pa_cons (pe_ix ix_tup (pv 0) pe_int (fun _ _ => rfl)) (pa_cons (pe_lc (own := [("part", 2)]) (g := gName 2) (tt := tYes) rfl scLWorth.nd (pi_tup (pe_slice sl_tup (pv 0) (po_some pe_int) po_none)) (blkOk_by (own := [("part", 2)]) (N := ["term", "room", "part"]) (sc := defScope sLWorth) (by decide +kernel)) (fun _ _ _ _ _ => pg_name (i := 2) scLWorth.nd rfl (Or.inl rfl)) (fun _ _ _ _ _ => pts_nil) (fun _ _ _ _ _ => pe_cal G_law_worth hr rfl pass0 (pa_cons (pv 2) (pa_cons (pv 1) pa_nil)))) pa_nil))))))), ?_⟩
  cases hc : comp t with
  | false =>
    cases t with
    | num n =>
      obtain ⟨a, rfl, ha⟩ := ht
      exact ⟨_, rfl, a, _, _, _, rfl, rfl, SqT.of ha, rfl, rfl, _, rfl, ifT (by decide +kernel) ⟨_, rfl, a, _, _, _, rfl, rfl, SqT.of ha, rfl, q H (Same.refl H)⟩⟩
    | name x =>
      obtain ⟨a, rfl, ha⟩ := ht
      obtain ⟨kvs, hk, hm⟩ := hR
      refine ⟨_, rfl, a, _, _, _, rfl, rfl, SqT.of ha, rfl, rfl, _, rfl, ifF (by decide +kernel) ⟨_, rfl, a, _, _, _, rfl, rfl, SqT.of ha, rfl, rfl, _, rfl, ifT (by decide +kernel) ?_⟩⟩
      refine ⟨_, rfl, ra, rfl, .inl ⟨_, .inl hk⟩, _, rfl, a, _, _, _, rfl, rfl, SqT.of ha, rfl, _, DGet.k (k := Sum.inr x) hk, ?_⟩
      have z := q H (Same.refl H)
      rw [show wor ρ (.name x) = ρ x from rfl, ← hm x] at z
      exact z
    | una _ => cases hc
    | bin _ _ _ => cases hc
    | pick _ _ _ => cases hc
  | true =>
    obtain ⟨a, vs, rfl, ha, hl, hp⟩ := ht.comp hc
    obtain ⟨n1, n2⟩ := opn_no hc ok
    have i0 : atI (V.str (opn t) :: vs) 0 = some (.str (opn t)) := atI_nat (j := 0) rfl
    refine ⟨_, rfl, a, _, _, _, rfl, rfl, SqT.of ha, i0, rfl, _, rfl, ifF (by rw [str_dec]; exact decide_eq_false n1) ⟨_, rfl, a, _, _, _, rfl, rfl, SqT.of ha, i0, rfl, _, rfl, ifF (by rw [str_dec]; exact decide_eq_false n2) ?_⟩⟩
    refine ⟨_, rfl, a, _, _, _, rfl, rfl, SqT.of ha, i0, _, rfl, _, rfl, a, _, rfl, SqT.of ha, ?_, fun p np => ?_⟩
    · intro z
      have e := z.1
      have := HT.sIx_nat (V.str (opn t) :: vs).length 0 1
      rw [show ((1 : Nat) : Int) = 1 from rfl, List.length_cons] at this
      rw [List.length_cons, this] at e
      omega
    rw [cut1]
    have s0 : Same H (upd H p (.tup vs)) := same_new np _
    refine ⟨p, rfl, ⟨_, SqT.of upd_same⟩, fun L hL => ?_⟩
    have s1 : Same (upd H p (.tup vs)) (upd (upd H p (.tup vs)) L (.lst [])) := same_new hL _
    have hLH : H L = none := s0.free hL
    refine lc_tup (K := K) (a := p) (xs := vs) (fun i H1 => Same H (upd H1 L (.lst [])) ∧ H1 p = some (.tup vs) ∧ H1 L = some (.lst (((parts t).take i).map fun u => V.int (wor ρ u))))
      ⟨?_, by rw [upd_ne (ne_of_none upd_same hL)]; exact upd_same, upd_same⟩ (fun i H1 _ h => SqT.of h.2.1) ?_ ?_
    · rw [upd_upd]; exact s0.trans s1
    · rintro i x H1 hx ⟨g1, g2, g3⟩
      have hi : i < (parts t).length := by rw [← hl]; exact (List.getElem?_eq_some_iff.mp hx).1
      have e1 : (parts t)[i]? = some (parts t)[i] := List.getElem?_eq_getElem hi
      obtain ⟨v', ev, tv⟩ := hp i _ e1
      rw [ev] at hx
      cases hx
      have sH : Same H H1 := fun b o z => by
        have y := g1 b o z
        rw [upd_ne (ne_of_none z hLH)] at y
        exact y
      obtain ⟨ok', hd'⟩ := parts_ok ok _ (List.getElem_mem hi)
      refine ⟨rfl, ?_⟩
      rw [show tYes = fun (_ : St) H (Q : Bool → Hp → Prop) => Q true H from rfl]
      refine ifT rfl ?_
      refine ⟨_, rfl, _, rfl, x, ra, _, ρ, rfl, tv.keep (Kp.of sH), ok', by omega, hR.same sH, hB, fun H2 g4 => ?_⟩
      refine ⟨_, g4 _ _ g3, ?_, ?_, ?_, ?_⟩
      · rw [List.length_map, List.length_take]
        exact small1000 (by have h4 : (parts t).length ≤ 3 := (by cases t <;> simp [parts]); omega)
      · rw [upd_upd]
        exact fun b o z => by
          rw [upd_ne (ne_of_none z hLH)]
          exact g4 _ _ (sH b o z)
      · rw [upd_ne (ne_of g2 g3 (by intro z; cases z))]
        exact g4 _ _ g2
      · rw [upd_same, List.take_add_one, e1, List.map_append]
        rfl
    · rintro H1 ⟨g1, g2, g3⟩
      rw [hl, List.take_length] at g3
      have sH : Same H H1 := fun b o z => by
        have y := g1 b o z
        rw [upd_ne (ne_of_none z hLH)] at y
        exact y
      refine ⟨opn t, L, (parts t).map (wor ρ), rfl, ?_, fit_comp ρ hc ok, opn_ok hc ok, fun i hi => ?_, ?_⟩
      · rw [g3, List.map_map]; rfl
      · obtain ⟨u, hu, rfl⟩ := List.mem_map.mp hi
        exact wor_in hB u (parts_ok ok u hu).1
      · rw [← wor_comp ρ hc ok]
        exact q _ sH
theorem ok_lworth {f : Addr} {fd : FuncData} (D : Df K mg "_law_worth" sLWorth ["term", "room"] f fd) (G : Cal P w K mg base CX0 1 "_law_reckon" ["op", "parts"] spLRk) :
    ∀ j : Nat, Cal P w K mg base CX0 (1 + j) "_law_worth" ["term", "room"] (spLWorth j)
  | 0 => D.never fun vs H Q E h => by
    obtain ⟨v, ra, t, ρ, _, _, _, hd, _⟩ := h
    have := dep_pos t
    omega
  | j + 1 => ok_lworth1 D (G.mono (Nat.le_add_right 1 j)) (ok_lworth D G j)
end
end Lot

/-! _law_draws, _law_go -/
namespace Lot
open PySem L2
abbrev sLDraws : Stmt := top 42
abbrev sLGo : Stmt := top 43
/-- a list of sides -/
def DsAt (H : Hp) (ds : List V) (sds : List Sds) : Prop := ds.length = sds.length ∧ ∀ (i : Nat) (sd : Sds), sds[i]? = some sd → ∃ v : V, ds[i]? = some v ∧ SdAt H v sd
theorem DsAt.nil {H : Hp} : DsAt H [] [] := ⟨rfl, fun i sd e => by simp at e⟩
theorem DsAt.one {H : Hp} {v : V} {sd : Sds} (h : SdAt H v sd) : DsAt H [v] [sd] := ⟨rfl, fun i x e => by
  cases i with
  | zero => cases (Option.some.inj e); exact ⟨v, rfl, h⟩
  | succ i => simp at e⟩
theorem DsAt.app {H : Hp} {ds es : List V} {s t : List Sds} (h : DsAt H ds s) (k : DsAt H es t) : DsAt H (ds ++ es) (s ++ t) := by
  refine ⟨by rw [List.length_append, List.length_append, h.1, k.1], fun i sd e => ?_⟩
  by_cases hi : i < s.length
  · rw [List.getElem?_append_left hi] at e
    obtain ⟨v, e1, e2⟩ := h.2 i sd e
    exact ⟨v, by rw [List.getElem?_append_left (by rw [h.1]; exact hi)]; exact e1, e2⟩
  · rw [List.getElem?_append_right (by omega)] at e
    obtain ⟨v, e1, e2⟩ := k.2 _ sd e
    exact ⟨v, by rw [List.getElem?_append_right (by rw [h.1]; omega), h.1]; exact e1, e2⟩
theorem DsAt.flat {H : Hp} {ds : List V} {s : List Sds} (h : DsAt H ds s) : ∀ n : Nat, DsAt H (List.replicate n ds).flatten (List.replicate n s).flatten
  | 0 => DsAt.nil
  | n + 1 => by rw [List.replicate_succ, List.replicate_succ, List.flatten_cons, List.flatten_cons]; exact h.app (h.flat n)
theorem DsAt.keep {H H' : Hp} (k : Kp H H') {ds : List V} {s : List Sds} (h : DsAt H ds s) : DsAt H' ds s := ⟨h.1, fun i sd e => let ⟨v, e1, e2⟩ := h.2 i sd e; ⟨v, e1, e2.keep k⟩⟩
section
variable {P : Program} {w : World} {K : PySem.W.Frag} {mg : Str → Option Value} {base : Heap}
def spLDraws (j : Nat) : Sp := fun vs H Q _ => ∃ (pr : Addr) (vs0 : List V) (r : Rws), vs = [.ref pr] ∧ H pr = some (.tup vs0) ∧ RwsAt H vs0 r ∧ RwOk r ∧ lev r < j ∧ wl r ≤ 900 ∧
  ∀ (H' : Hp) (p : Addr) (ds : List V), Same H H' → H p = none → H' p = some (.lst ds) → DsAt H' ds (drw r) → Q (.ref p) H'
theorem scLDraws : FnScope ["rows", "found", "row"] ["rows"] (defScope sLDraws) := ⟨rfl, rfl, rfl, by decide +kernel, rfl, by decide +kernel, by decide +kernel⟩
theorem ok_ldraws1 {f : Addr} {fd : FuncData} {j k : Nat} (D : Df K mg "_law_draws" sLDraws ["rows"] f fd) (G_law_draws : Cal P w K mg base CX0 k "_law_draws" ["rows"] (spLDraws j)) :
    Cal P w K mg base CX0 (k + 1) "_law_draws" ["rows"] (spLDraws (j + 1)) := by
  refine D.cal (D.fn.ok scLDraws (fun vs H Q E h => ?_) (fun cdv A outer s H vs Q E hr h => ?_))
  · obtain ⟨pr, vs0, r, rfl, _⟩ := h
    rfl
  obtain ⟨pr, vs0, r, rfl, hp, hR, ok, hl, hw, q⟩ := h
  refine ⟨_, (pss_cons (ps_set (i := 1) scLDraws.nd rfl (.inl rfl) (pe_lst pa_nil))
    (pss_cons (ps_for PassesOwn.never rfl (pi_tup (pv 0)) (pg_name (i := 2) scLDraws.nd rfl (.inl rfl))
      (pss_one (ps_if (pt_cmpR op_eq (pe_ix ix_tup (pv 2) pe_int (fun _ _ => rfl)) pe_str (nomark _))
        (pss_one (ps_expr (pe_bm PySem.F.plainAttrs_list PySem.F.slot_list_append PySem.F.type_list_append mt_append (pv 1) (pa_cons (pe_ix ix_tup (pv 2) pe_int (fun _ _ => rfl)) pa_nil))))
        (pss_one (ps_if (pt_cmpR op_eq (pe_ix ix_tup (pv 2) pe_int (fun _ _ => rfl)) pe_str (nomark _))
          (pss_one (ps_set (i := 1) scLDraws.nd rfl (.inl rfl) (pe_op op_cat (pe_op op_cat (pv 1) (pe_cal G_law_draws hr rfl pass0 (pa_cons (pe_ix ix_tup (pv 2) pe_int (fun _ _ => rfl)) pa_nil))) (pe_cal G_law_draws hr rfl pass0 (pa_cons (pe_ix ix_tup (pv 2) pe_int (fun _ _ => rfl)) pa_nil)))))
          (pss_one (ps_if (PW.pt (pw_and (pt_cmpR op_eq (pe_ix ix_tup (pv 2) pe_int (fun _ _ => rfl)) pe_str (nomark _)) (pw_and1 (pt_cmpR op_gt (pe_ix ix_tup (pv 2) pe_int (fun _ _ => rfl)) pe_int (nomark _)))))
            (pss_one (ps_set (i := 1) scLDraws.nd rfl (.inl rfl) (pe_op op_cat (pv 1) (pe_op op_rep (pe_cal G_law_draws hr rfl pass0 (pa_cons (pe_ix ix_tup (pv 2) pe_int (fun _ _ => rfl)) pa_nil)) (pe_ix ix_tup (pv 2) pe_int (fun _ _ => rfl))))))
            pss_nil)))))))
    (pss_one (ps_ret (pv 1))))), ?_⟩
  refine ⟨Nat.zero_le _, fun L hL => ?_⟩
  refine ⟨_, rfl, pr, rfl, ⟨_, SqT.of (same_new hL _ _ _ hp)⟩, ?_⟩
  refine for_tup (K := K) (a := pr) (xs := vs0) (fun i σ H' => ∃ (o : Option V) (L : Addr) (ds : List V) (done : List Sds) (r' : Rws), σ = [some (.ref pr), some (.ref L), o] ∧ Same H H' ∧ H L = none ∧ H' L = some (.lst ds) ∧ DsAt H' ds done ∧
      RwsAt H (vs0.drop i) r' ∧ RwOk r' ∧ lev r' < j + 1 ∧ done.length + wl r' ≤ 900 ∧ done ++ drw r' = drw r)
    ⟨none, L, [], [], r, rfl, same_new hL _, hL, upd_same, DsAt.nil, hR, ok, hl, by rw [List.length_nil]; omega, rfl⟩ ?_ ?_ ?_
  · rintro i σ H' _ ⟨_, _, _, _, _, _, s1, _⟩
    exact SqT.of (s1 _ _ hp)
  · clear hL L
    rintro i y σ H' hy ⟨o, L, ds, done, r', rfl, s1, hL, hds, hD, h1, h2, h3, h4, h5⟩
    have hi : i < vs0.length := (List.getElem?_eq_some_iff.mp hy).1
    have ed : vs0.drop i = y :: vs0.drop (i + 1) := by
      rw [List.drop_eq_getElem_cons hi]
      rw [List.getElem?_eq_getElem hi] at hy
      rw [Option.some.inj hy]
    rw [ed] at h1
    have dl := hD.1
    cases r' with
    | nil => cases (show y :: _ = [] from h1)
    | draw x sd r2 =>
      obtain ⟨a, sv, vs', e, g1, g2, g3⟩ := h1
      cases e
      have g1' := s1 _ _ g1
      have hw2 : done.length + 1 + wl r2 ≤ 900 := by simp only [wl] at h4; omega
      refine ⟨_, rfl, a, _, _, _, rfl, rfl, SqT.of g1', rfl, rfl, _, rfl, ifT (by decide +kernel) ?_⟩
      refine ⟨_, rfl, .inl ⟨rfl, _, SqL.of hds⟩, _, rfl, a, _, _, _, rfl, rfl, SqT.of g1', rfl, L, _, _, rfl, rfl, hds, small1000 (by omega), ?_⟩
      have k1 : Kp H' (upd H' L (.lst (ds ++ [sv]))) := Kp.upd hds (by intro xs e; cases e)
      refine ⟨_, L, _, done ++ [sd], r2, rfl, same_own s1 hL, hL, upd_same, (hD.keep k1).app (DsAt.one (g2.keep ((Kp.of s1).trans k1))), g3, h2.2, h3, by rw [List.length_append, List.length_singleton]; exact hw2, ?_⟩
      rw [List.append_assoc]
      exact h5
    | sset x t r2 =>
      obtain ⟨a, sv, vs', e, g1, g2, g3⟩ := h1
      cases e
      have g1' := s1 _ _ g1
      have hw2 : done.length + wl r2 ≤ 900 := by simp only [wl] at h4; omega
      exact ⟨_, rfl, a, _, _, _, rfl, rfl, SqT.of g1', rfl, rfl, _, rfl, ifF (by decide +kernel) ⟨_, rfl, a, _, _, _, rfl, rfl, SqT.of g1', rfl, rfl, _, rfl, ifF (by decide +kernel)
        ⟨_, rfl, a, _, _, _, rfl, rfl, SqT.of g1', rfl, rfl, _, rfl, ifF (by decide +kernel) (iteF ⟨_, L, ds, done, r2, rfl, s1, hL, hds, hD, g3, h2.2.2, h3, hw2, h5⟩)⟩⟩⟩
    | see t r2 =>
      obtain ⟨a, sv, vs', e, g1, g2, g3⟩ := h1
      cases e
      have g1' := s1 _ _ g1
      have hw2 : done.length + wl r2 ≤ 900 := by simp only [wl] at h4; omega
      exact ⟨_, rfl, a, _, _, _, rfl, rfl, SqT.of g1', rfl, rfl, _, rfl, ifF (by decide +kernel) ⟨_, rfl, a, _, _, _, rfl, rfl, SqT.of g1', rfl, rfl, _, rfl, ifF (by decide +kernel)
        ⟨_, rfl, a, _, _, _, rfl, rfl, SqT.of g1', rfl, rfl, _, rfl, ifF (by decide +kernel) (iteF ⟨_, L, ds, done, r2, rfl, s1, hL, hds, hD, g3, h2.2.2, h3, hw2, h5⟩)⟩⟩⟩
    | ite t p p2 r2 =>
      obtain ⟨a, b, pa, pv', qa, qv, vs', e, g1, g2, g3, g4, g5, g6, g7⟩ := h1
      cases e
      have g1' := s1 _ _ g1
      have hl2 : lev p < j ∧ lev p2 < j ∧ lev r2 < j + 1 := by simp only [lev] at h3; omega
      have hw2 : done.length + (wl p + wl p2) + wl r2 ≤ 900 := by simp only [wl] at h4; omega
      have np : (drw p).length ≤ wl p := nd_wl p
      have np2 : (drw p2).length ≤ wl p2 := nd_wl p2
      refine ⟨_, rfl, a, _, _, _, rfl, rfl, SqT.of g1', rfl, rfl, _, rfl, ifF (by decide +kernel) ⟨_, rfl, a, _, _, _, rfl, rfl, SqT.of g1', rfl, rfl, _, rfl, ifT (by decide +kernel) ?_⟩⟩
      refine ⟨_, rfl, _, rfl, a, _, _, _, rfl, rfl, SqT.of g1', rfl, pa, pv', p, rfl, s1 _ _ g3, g4.keep (Kp.of s1), h2.2.2.1, hl2.1, by omega, fun H2 p1 e1 s2 n1 c1 d1 => ?_⟩
      have dl1 := d1.1
      refine ⟨L, p1, _, _, rfl, rfl, s2 _ _ hds, c1, size1000 (by rw [dl1]; omega), fun L2 n2 => ?_⟩
      have s3 := same_new n2 (.lst (ds ++ e1))
      have sH3 := s1.trans (s2.trans s3)
      refine ⟨_, rfl, a, _, _, _, rfl, rfl, SqT.of (sH3 _ _ g1), rfl, qa, qv, p2, rfl, sH3 _ _ g5, g6.keep (Kp.of sH3), h2.2.2.2.1, hl2.2.1, by omega, fun H3 p3 e3 s4 n3 c3 d3 => ?_⟩
      have dl3 := d3.1
      refine ⟨L2, p3, _, _, rfl, rfl, s4 _ _ upd_same, c3, size1000 (by rw [List.length_append, dl1, dl3]; omega), fun L3 n4 => ?_⟩
      have s5 := same_new n4 (.lst (ds ++ e1 ++ e3))
      have sAll := s2.trans (s3.trans (s4.trans s5))
      refine ⟨_, L3, _, done ++ drw p ++ drw p2, r2, rfl, s1.trans sAll, ?_, upd_same, ((hD.keep (Kp.of sAll)).app (d1.keep (Kp.of (s3.trans (s4.trans s5))))).app (d3.keep (Kp.of s5)), g7, h2.2.2.2.2, hl2.2.2, by rw [List.length_append, List.length_append]; omega, ?_⟩
      · exact (s1.trans (s2.trans (s3.trans s4))).free n4
      · rw [← h5]
        show done ++ drw p ++ drw p2 ++ drw r2 = done ++ (drw p ++ drw p2 ++ drw r2)
        simp only [List.append_assoc]
    | rep n p r2 =>
      obtain ⟨a, pa, pv', vs', e, g1, g2, g3, g4⟩ := h1
      cases e
      have g1' := s1 _ _ g1
      have hl2 : lev p < j ∧ lev r2 < j + 1 := by simp only [lev] at h3; omega
      have hw2 : done.length + n * wl p + wl r2 ≤ 900 := by simp only [wl] at h4; omega
      have hn := h2.1
      refine ⟨_, rfl, a, _, _, _, rfl, rfl, SqT.of g1', rfl, rfl, _, rfl, ifF (by decide +kernel) ⟨_, rfl, a, _, _, _, rfl, rfl, SqT.of g1', rfl, rfl, _, rfl, ifF (by decide +kernel)
        ⟨_, rfl, a, _, _, _, rfl, rfl, SqT.of g1', rfl, rfl, _, rfl, ifT (by decide +kernel) ⟨_, rfl, a, _, _, _, rfl, rfl, SqT.of g1', rfl, _, _, rfl, rfl, _, rfl, ?_⟩⟩⟩⟩
      refine if2 (fun c => ?_) (fun c => ?_)
      · have hn1 : 1 ≤ n := by omega
        have np : (drw p).length ≤ wl p := nd_wl p
        have m1 : wl p ≤ n * wl p := Nat.le_mul_of_pos_left _ (by omega)
        have m2 : n * (drw p).length ≤ n * wl p := Nat.mul_le_mul_left n np
        refine ⟨_, rfl, _, rfl, a, _, _, _, rfl, rfl, SqT.of g1', rfl, pa, pv', p, rfl, s1 _ _ g2, g3.keep (Kp.of s1), h2.2.1, hl2.1, by omega, fun H2 p1 e1 s2 n1 c1 d1 => ?_⟩
        have dl1 := d1.1
        refine ⟨_, rfl, a, _, _, _, rfl, rfl, SqT.of (s2 _ _ g1'), rfl, p1, (n : Int), _, rfl, rfl, c1, by omega, by omega, ?_, fun p2 n2 => ?_⟩
        · rw [Int.toNat_natCast, dl1, Nat.mul_comm]
          exact size1000 (by omega)
        have s3 := same_new n2 (.lst (List.replicate (n : Int).toNat e1).flatten)
        refine ⟨L, p2, _, _, rfl, rfl, s3 _ _ (s2 _ _ hds), upd_same, ?_, fun p3 n3 => ?_⟩
        · rw [Int.toNat_natCast, flat_len, dl1]
          exact size1000 (by omega)
        have s4 := same_new n3 (.lst (ds ++ (List.replicate (n : Int).toNat e1).flatten))
        have sAll := s2.trans (s3.trans s4)
        refine ⟨_, p3, _, done ++ (List.replicate n (drw p)).flatten, r2, rfl, s1.trans sAll, (s1.trans (s2.trans s3)).free n3, upd_same, ?_, g4, h2.2.2, hl2.2, by rw [List.length_append, flat_len]; omega, ?_⟩
        · rw [Int.toNat_natCast]
          exact (hD.keep (Kp.of sAll)).app ((d1.keep (Kp.of (s3.trans s4))).flat n)
        · rw [← h5]
          show done ++ (List.replicate n (drw p)).flatten ++ drw r2 = done ++ ((List.replicate n (drw p)).flatten ++ drw r2)
          rw [List.append_assoc]
      · have hn0 : n = 0 := by omega
        subst hn0
        exact ⟨_, L, ds, done, r2, rfl, s1, hL, hds, hD, g4, h2.2.2, hl2.2, by omega, h5⟩
  · clear hL L
    rintro σ H' ⟨o, L, ds, done, r', rfl, s1, hL, hds, hD, h1, h2, h3, h4, h5⟩
    rw [List.drop_length] at h1
    cases h1.none
    have e : done = drw r := by rw [← h5]; exact (List.append_nil _).symm
    rw [e] at hD
    exact ⟨_, rfl, q _ L ds s1 hL hds hD⟩
theorem ok_ldraws {f : Addr} {fd : FuncData} (D : Df K mg "_law_draws" sLDraws ["rows"] f fd) : ∀ j : Nat, Cal P w K mg base CX0 j "_law_draws" ["rows"] (spLDraws j)
  | 0 => D.never fun vs H Q E h => by
    obtain ⟨pr, vs0, r, _, _, _, _, hl, _⟩ := h
    exact absurd hl (Nat.not_lt_zero _)
  | j + 1 => ok_ldraws1 D (ok_ldraws D j)
end
end Lot

/-! _law_go -/
namespace Lot
open PySem L2
theorem Way.bnd_assoc (v : Way) (g h : Rm → Nat → Way) (pos : Nat) : (v.bnd g pos).bnd h pos = v.bnd (fun ρ p => (g ρ p).bnd h p) pos := by
  obtain ⟨ok, ρ, out⟩ := v
  cases ok with
  | false => rfl
  | true =>
    show Way.bnd ⟨(g ρ (pos + out.length)).ok, (g ρ (pos + out.length)).ρ, out ++ (g ρ (pos + out.length)).out⟩ h pos =
      ⟨((g ρ (pos + out.length)).bnd h (pos + out.length)).ok, ((g ρ (pos + out.length)).bnd h (pos + out.length)).ρ, out ++ ((g ρ (pos + out.length)).bnd h (pos + out.length)).out⟩
    generalize g ρ (pos + out.length) = u
    obtain ⟨ok2, ρ2, out2⟩ := u
    cases ok2 with
    | false => rfl
    | true =>
      show Way.mk (h ρ2 (pos + (out ++ out2).length)).ok (h ρ2 (pos + (out ++ out2).length)).ρ ((out ++ out2) ++ (h ρ2 (pos + (out ++ out2).length)).out) =
        ⟨(h ρ2 (pos + out.length + out2.length)).ok, (h ρ2 (pos + out.length + out2.length)).ρ, out ++ (out2 ++ (h ρ2 (pos + out.length + out2.length)).out)⟩
      rw [List.length_append, ← Nat.add_assoc, List.append_assoc]
theorem lgo_rm {ss : List Int} {r : Rws} {ρ : Rm} {pos : Nat} (ok : RwOk r) (hB : RmB ρ) (hs : Sided ss pos (drw r)) : RmB (lgo ss r ρ pos).ρ := by
  have f := (fits ss r ρ pos hs).thru []
  have g := gd r ρ (used (lgo ss r ρ pos).out ++ []) ok hB
  rw [f] at g
  cases e : (lgo ss r ρ pos).ok with
  | true => rw [e] at g; exact g
  | false => rw [e] at g; exact g
structure GF (H0 H : Hp) (ra ma : Addr) (kvs : List (Key × V)) (m : List (Option Int)) : Prop where
  same : Same H0 H
  o1 : H0 ra = none
  o3 : H0 ma = none
  h1 : H ra = some (.dK kvs)
  h3 : H ma = some (.lst (m.map ov))
section
variable {H0 H H' : Hp} {ra ma : Addr} {kvs : List (Key × V)} {m : List (Option Int)}
theorem GF.step (F : GF H0 H ra ma kvs m) (s : Same H H') : GF H0 H' ra ma kvs m := ⟨F.same.trans s, F.o1, F.o3, s _ _ F.h1, s _ _ F.h3⟩
theorem GF.room (F : GF H0 H ra ma kvs m) (ks : List (Key × V)) : GF H0 (upd H ra (.dK ks)) ra ma ks m :=
  ⟨same_own F.same F.o1, F.o1, F.o3, upd_same, by rw [upd_ne (ne_of F.h3 F.h1 (by intro z; cases z))]; exact F.h3⟩
theorem GF.met (F : GF H0 H ra ma kvs m) (n : List (Option Int)) : GF H0 (upd H ma (.lst (n.map ov))) ra ma kvs n :=
  ⟨same_own F.same F.o3, F.o1, F.o3, by rw [upd_ne (ne_of F.h1 F.h3 (by intro z; cases z))]; exact F.h1, upd_same⟩
end
def GAt (H0 H : Hp) (ra ma : Addr) (ρ : Rm) (m : List (Option Int)) (b : Nat) : Prop := ∃ kvs, GF H0 H ra ma kvs m ∧ RmIs kvs ρ ∧ kvs.length ≤ b ∧ m.length ≤ b
theorem GAt.mono {H0 H : Hp} {ra ma : Addr} {ρ : Rm} {m : List (Option Int)} {b c : Nat} (M : GAt H0 H ra ma ρ m b) (h : b ≤ c) : GAt H0 H ra ma ρ m c :=
  let ⟨kvs, F, r, h1, h2⟩ := M; ⟨kvs, F, r, Nat.le_trans h1 h, Nat.le_trans h2 h⟩
theorem GAt.step {H0 H H' : Hp} {ra ma : Addr} {ρ : Rm} {m : List (Option Int)} {b : Nat} (M : GAt H0 H ra ma ρ m b) (s : Same H H') : GAt H0 H' ra ma ρ m b :=
  let ⟨kvs, F, r⟩ := M; ⟨kvs, F.step s, r⟩
theorem GAt.same {H0 H : Hp} {ra ma : Addr} {ρ : Rm} {m : List (Option Int)} {b : Nat} (M : GAt H0 H ra ma ρ m b) : Same H0 H := let ⟨_, F, _⟩ := M; F.same
def LMet (H0 : Hp) (ra ma : Addr) (m : List (Option Int)) (b : Nat) (Q : VK) (v : Way) : Prop := ∀ H', GAt H0 H' ra ma v.ρ (m ++ v.out) b → Q (.bl v.ok) H'
section
variable {H0 : Hp} {ra ma : Addr} {m : List (Option Int)} {b c : Nat} {Q Q' : VK}
theorem LMet.go {v : Way} {f : Rm → Nat → Way} (h : LMet H0 ra ma m c Q (v.bnd f m.length)) (k : v.ok = true) : LMet H0 ra ma (m ++ v.out) c Q (f v.ρ (m ++ v.out).length) := by
  obtain ⟨ok, ρ, out⟩ := v
  cases (show ok = true from k)
  intro H' M
  have h' : ∀ H', GAt H0 H' ra ma (f ρ (m.length + out.length)).ρ (m ++ (out ++ (f ρ (m.length + out.length)).out)) c → Q (.bl (f ρ (m.length + out.length)).ok) H' := h
  have M' : GAt H0 H' ra ma (f ρ (m ++ out).length).ρ ((m ++ out) ++ (f ρ (m ++ out).length).out) c := M
  show Q (.bl (f ρ (m ++ out).length).ok) H'
  rw [List.length_append] at M' ⊢
  rw [List.append_assoc] at M'
  exact h' H' M'
theorem LMet.split {v : Way} {f : Rm → Nat → Way} (h : LMet H0 ra ma m c Q (v.bnd f m.length)) (hb : b ≤ c)
    (hgo : v.ok = true → LMet H0 ra ma (m ++ v.out) c Q (f v.ρ (m ++ v.out).length) → ∀ H', GAt H0 H' ra ma v.ρ (m ++ v.out) b → Q' (.bl true) H')
    (hsh : v.ok = false → ∀ H', Q (.bl false) H' → Q' (.bl false) H') : LMet H0 ra ma m b Q' v := by
  intro H' M
  cases e : v.ok with
  | true => exact hgo e (h.go e) H' M
  | false =>
    obtain ⟨ok, ρ, out⟩ := v
    cases (show ok = false from e)
    exact hsh e H' (h H' (M.mono hb))
end
section
variable {P : Program} {w : World} {K : PySem.W.Frag} {mg : Str → Option Value} {base : Heap}
def spLGo (j : Nat) : Sp := fun vs H Q _ => ∃ (H0 : Hp) (pr ra sa ma : Addr) (vs0 : List V) (r : Rws) (ρ : Rm) (ss : List Int) (m : List (Option Int)) (b Bd : Nat), vs = [.ref pr, .ref ra, .ref sa, .ref ma] ∧
  H0 pr = some (.tup vs0) ∧ RwsAt H0 vs0 r ∧ RwOk r ∧ lev r < j ∧ RmB ρ ∧ H0 sa = some (.lst (ss.map V.int)) ∧ Sided ss m.length (drw r) ∧ m.length + nd r ≤ ss.length ∧ GAt H0 H ra ma ρ m b ∧ b + wl r ≤ Bd ∧ Bd ≤ 900 ∧
  LMet H0 ra ma m Bd Q (lgo ss r ρ m.length)
theorem scLGo : FnScope ["rows", "room", "sides", "met", "row", "k"] ["rows", "room", "sides", "met"] (defScope sLGo) := ⟨rfl, rfl, rfl, by decide +kernel, rfl, by decide +kernel, by decide +kernel⟩
theorem ok_lgo1 {f : Addr} {fd : FuncData} {j k : Nat} (D : Df K mg "_law_go" sLGo ["rows", "room", "sides", "met"] f fd) (B : Bl mg) (hk : 5 ≤ k) (hj : j ≤ k) (G_law_worth : Cal P w K mg base CX0 5 "_law_worth" ["term", "room"] (spLWorth 4))
    (G_law_draws : Cal P w K mg base CX0 j "_law_draws" ["rows"] (spLDraws j)) (G_law_go : Cal P w K mg base CX0 k "_law_go" ["rows", "room", "sides", "met"] (spLGo j)) :
    Cal P w K mg base CX0 (k + 1) "_law_go" ["rows", "room", "sides", "met"] (spLGo (j + 1)) := by
  refine D.cal (D.fn.ok scLGo (fun vs H Q E h => ?_) (fun cdv A outer s H vs Q E hr h => ?_))
  · obtain ⟨H0, pr, ra, sa, ma, vs0, r, ρ, ss, m, b, Bd, rfl, _⟩ := h
    rfl
  obtain ⟨H0, pr, ra, sa, ma, vs0, r, ρ, ss, m, b, Bd, rfl, hp, hR, ok, hl, hB, hsa, hsd, hsl, M, hb, hBd, q⟩ := h
  have hu := hu_of hr
  have hrW : Room 5 _ := hr.mono hk
  have hrD : Room j _ := hr.mono hj
  refine ⟨_, (pss_cons (ps_for PassesOwn.never rfl (pi_tup (pv 0)) (pg_name (i := 4) scLGo.nd rfl (.inl rfl))
      (pss_one (ps_if (pt_cmpR op_eq (pe_ix ix_tup (pv 4) pe_int (fun _ _ => rfl)) pe_str (nomark _))
        (pss_cons (ps_dput hu (pv 1) (pe_ix ix_tup (pv 4) pe_int (fun _ _ => rfl)) (pe_ix ix_tup (pe_ix ix_tup (pe_ix ix_tup (pv 4) pe_int (fun _ _ => rfl)) (pe_ix ix_list (pv 2) (pe_callB call_len_seq (by rfl) B.len PySem.boot_len (pa_cons (pv 3) pa_nil)) (fun _ _ => rfl)) (fun _ _ => rfl)) pe_int (fun _ _ => rfl)) rfl)
        (pss_one (ps_expr (pe_bm PySem.F.plainAttrs_list PySem.F.slot_list_append PySem.F.type_list_append mt_append (pv 3) (pa_cons (pe_ix ix_list (pv 2) (pe_callB call_len_seq (by rfl) B.len PySem.boot_len (pa_cons (pv 3) pa_nil)) (fun _ _ => rfl)) pa_nil)))))
        (pss_one (ps_if (pt_cmpR op_eq (pe_ix ix_tup (pv 4) pe_int (fun _ _ => rfl)) pe_str (nomark _))
          (pss_one (ps_dput hu (pv 1) (pe_ix ix_tup (pv 4) pe_int (fun _ _ => rfl)) (pe_cal G_law_worth hrW rfl pass0 (pa_cons (pe_ix ix_tup (pv 4) pe_int (fun _ _ => rfl)) (pa_cons (pv 1) pa_nil))) rfl))
          (pss_one (ps_if (pt_cmpR op_eq (pe_ix ix_tup (pv 4) pe_int (fun _ _ => rfl)) pe_str (nomark _))
            (pss_one (ps_if (pt_cmpR op_eq (pe_cal G_law_worth hrW rfl pass0 (pa_cons (pe_ix ix_tup (pv 4) pe_int (fun _ _ => rfl)) (pa_cons (pv 1) pa_nil))) pe_int (nomark _))
              (pss_one (ps_ret pe_bl))
              pss_nil))
            (pss_one (ps_if (pt_cmpR op_eq (pe_ix ix_tup (pv 4) pe_int (fun _ _ => rfl)) pe_str (nomark _))
              (pss_one (ps_for PassesOwn.never rfl (pi_range1 (by rfl) B.range (pa_cons (pe_ix ix_tup (pv 4) pe_int (fun _ _ => rfl)) pa_nil)) (pg_name (i := 5) scLGo.nd rfl (.inl rfl))
                (pss_one (ps_if (pt_not (pt_val (pe_cal G_law_go hr rfl pass0 (pa_cons (pe_ix ix_tup (pv 4) pe_int (fun _ _ => rfl)) (pa_cons (pv 1) (pa_cons (pv 2) (pa_cons (pv 3) pa_nil)))))))
                  (pss_one (ps_ret pe_bl))
                  pss_nil))))
              (pss_one (ps_if (pt_cmpR op_ne (pe_cal G_law_worth hrW rfl pass0 (pa_cons (pe_ix ix_tup (pv 4) pe_int (fun _ _ => rfl)) (pa_cons (pv 1) pa_nil))) pe_int (nomark _))
                (pss_cons (ps_if (pt_not (pt_val (pe_cal G_law_go hr rfl pass0 (pa_cons (pe_ix ix_tup (pv 4) pe_int (fun _ _ => rfl)) (pa_cons (pv 1) (pa_cons (pv 2) (pa_cons (pv 3) pa_nil)))))))
                  (pss_one (ps_ret pe_bl))
                  pss_nil)
                (pss_one (ps_expr (pe_bm PySem.F.plainAttrs_list PySem.F.slot_list_extend PySem.F.type_list_extend mt_extend (pv 3) (pa_cons (pe_op op_rep (pe_lst (pa_cons pe_non pa_nil)) (pe_callB call_len_seq (by rfl) B.len PySem.boot_len (pa_cons (pe_cal G_law_draws hrD rfl pass0 (pa_cons (pe_ix ix_tup (pv 4) pe_int (fun _ _ => rfl)) pa_nil)) pa_nil))) pa_nil)))))
                (pss_cons (ps_expr (pe_bm PySem.F.plainAttrs_list PySem.F.slot_list_extend PySem.F.type_list_extend mt_extend (pv 3) (pa_cons (pe_op op_rep (pe_lst (pa_cons pe_non pa_nil)) (pe_callB call_len_seq (by rfl) B.len PySem.boot_len (pa_cons (pe_cal G_law_draws hrD rfl pass0 (pa_cons (pe_ix ix_tup (pv 4) pe_int (fun _ _ => rfl)) pa_nil)) pa_nil))) pa_nil)))
                (pss_one (ps_if (pt_not (pt_val (pe_cal G_law_go hr rfl pass0 (pa_cons (pe_ix ix_tup (pv 4) pe_int (fun _ _ => rfl)) (pa_cons (pv 1) (pa_cons (pv 2) (pa_cons (pv 3) pa_nil)))))))
                  (pss_one (ps_ret pe_bl))
                  pss_nil))))))))))))))
    (pss_one (ps_ret pe_bl))), ?_⟩
  refine ⟨_, rfl, pr, rfl, ⟨_, SqT.of (M.same _ _ hp)⟩, ?_⟩
  refine for_tup (K := K) (a := pr) (xs := vs0) (fun i σ H' => ∃ (o1 o2 : Option V) (r : Rws) (ρ : Rm) (m : List (Option Int)) (b : Nat), σ = [some (.ref pr), some (.ref ra), some (.ref sa), some (.ref ma), o1, o2] ∧
      RwsAt H0 (vs0.drop i) r ∧ RwOk r ∧ lev r < j + 1 ∧ RmB ρ ∧ Sided ss m.length (drw r) ∧ m.length + nd r ≤ ss.length ∧ GAt H0 H' ra ma ρ m b ∧ b + wl r ≤ Bd ∧ LMet H0 ra ma m Bd Q (lgo ss r ρ m.length))
    ⟨none, none, r, ρ, m, b, rfl, hR, ok, hl, hB, hsd, hsl, M, hb, q⟩ ?_ ?_ ?_
  · rintro i σ H' _ ⟨_, _, _, _, _, _, _, _, _, _, _, _, _, M, _⟩
    exact SqT.of (M.same _ _ hp)
  · clear q hR ok hl hB M hb hsd hsl r ρ m b
    rintro i y σ H' hy ⟨o1, o2, r, ρ, m, b, rfl, h1, ok, hl, hB, hsd, hsl, M, hb, q⟩
    have hi : i < vs0.length := (List.getElem?_eq_some_iff.mp hy).1
    have ed : vs0.drop i = y :: vs0.drop (i + 1) := by
      rw [List.drop_eq_getElem_cons hi]
      rw [List.getElem?_eq_getElem hi] at hy
      rw [Option.some.inj hy]
    rw [ed] at h1
    have s0 := M.same
    obtain ⟨kvs, F, mr, mk, mm⟩ := id M
    cases r with
    | nil => cases (show y :: _ = [] from h1)
    | draw x sd r2 =>
      obtain ⟨a, sv, vs', e, g1, g2, g3⟩ := h1
      cases e
      have g1' := s0 _ _ g1
      have hw : b + 1 + wl r2 ≤ Bd := by simp only [wl] at hb; omega
      rw [nd_draw] at hsl
      have hsd' : Sided ss m.length ([sd] ++ drw r2) := hsd
      have hs0 := hsd'.left 0 sd rfl
      rw [Nat.add_zero] at hs0
      have hlt : m.length < ss.length := by omega
      have es : ss.getD m.length 0 = ss[m.length] := by rw [List.getD_eq_getElem?_getD, List.getElem?_eq_getElem hlt]; rfl
      have q1 : LMet H0 ra ma m Bd Q (Way.bnd ⟨true, put ρ x (sd.getD (ss.getD m.length 0).toNat (0, 0)).1, [some (ss.getD m.length 0)]⟩ (lgo ss r2) m.length) := q
      have q2 := q1.go rfl
      have q3 : LMet H0 ra ma (m ++ [some (ss.getD m.length 0)]) Bd Q (lgo ss r2 (put ρ x (sd.getD (ss.getD m.length 0).toNat (0, 0)).1) (m ++ [some (ss.getD m.length 0)]).length) := q2
      rw [es] at q3 hs0
      generalize hss : ss[m.length] = s' at q3 hs0
      have esa : atI (ss.map V.int) ((m.length : Nat) : Int) = some (.int s') := by rw [← hss]; exact item_map hlt
      obtain ⟨sa', sv', rfl, hS, sV⟩ := g2
      have hi2 : s'.toNat < sd.length := by omega
      obtain ⟨sp, es2, hsp⟩ := sd_item sV hi2
      have ea : atI sv' s' = some (.ref sp) := at_of (j := s'.toNat) (by omega) es2
      have esd : sd.getD s'.toNat (0, 0) = sd[s'.toNat] := by rw [List.getD_eq_getElem?_getD, List.getElem?_eq_getElem hi2]; rfl
      rw [esd] at q3
      have ll : ((m.map ov).length : Int) = ((m.length : Nat) : Int) := by rw [List.length_map]
      refine ⟨_, rfl, a, _, _, _, rfl, rfl, SqT.of g1', rfl, rfl, _, rfl, ifT (by decide +kernel) ?_⟩
      -- room[row[1]] = row[2][sides[len(met)]][0]
      refine ⟨_, rfl, a, _, _, _, rfl, rfl, SqT.of g1', rfl, _, rfl, _, rfl, ma, _, rfl, .inl (SqL.of F.h3), sa, _, _, _, rfl, rfl, SqL.of (s0 _ _ hsa), (by rw [ll]; exact esa), ?_⟩
      refine ⟨sa', _, _, _, rfl, rfl, SqT.of (s0 _ _ hS), ea, sp, _, _, _, rfl, rfl, SqT.of (s0 _ _ hsp), rfl, _, rfl, _, rfl, a, _, _, _, rfl, rfl, SqT.of g1', rfl, ra, _, rfl, DPut.k (k := Sum.inr x) F.h1 (small1000 (by omega)), ?_⟩
      have F1 := F.room (putK kvs (Sum.inr x) (.int sd[s'.toNat].1))
      -- met.append(sides[len(met)])
      refine ⟨_, rfl, .inl ⟨rfl, _, SqL.of F1.h3⟩, _, rfl, _, rfl, ma, _, rfl, .inl (SqL.of F1.h3), sa, _, _, _, rfl, rfl, SqL.of (F1.same _ _ hsa), (by rw [ll]; exact esa), ma, _, _, rfl, rfl, F1.h3, small1000 (by rw [List.length_map]; omega), ?_⟩
      have F2 := F1.met (m ++ [some s'])
      rw [List.map_append] at F2
      have lm : (m ++ [some s']).length = m.length + 1 := by rw [List.length_append]; rfl
      refine ⟨_, _, r2, _, m ++ [some s'], b + 1, rfl, g3, ok.2, hl, hB.put (ok.1.2.2 _ (List.getElem_mem hi2)).1, ?_, by rw [lm]; omega, ⟨_, F2, mr.put x _, Nat.le_trans putK_len1 (by omega), by rw [lm]; omega⟩, hw, q3⟩
      rw [lm]
      exact hsd'.right
    | sset x t r2 =>
      obtain ⟨a, tv, vs', e, g1, g2, g3⟩ := h1
      cases e
      have g1' := s0 _ _ g1
      have hw : b + 1 + wl r2 ≤ Bd := by simp only [wl] at hb; omega
      refine ⟨_, rfl, a, _, _, _, rfl, rfl, SqT.of g1', rfl, rfl, _, rfl, ifF (by decide +kernel) ⟨_, rfl, a, _, _, _, rfl, rfl, SqT.of g1', rfl, rfl, _, rfl, ifT (by decide +kernel) ?_⟩⟩
      refine ⟨_, rfl, a, _, _, _, rfl, rfl, SqT.of g1', rfl, _, rfl, tv, ra, t, ρ, rfl, g2.keep (Kp.of s0), ok.1, ok.2.1, ⟨kvs, F.h1, mr⟩, hB, fun H1 s1 => ?_⟩
      have F1 := F.step s1
      refine ⟨_, rfl, _, rfl, a, _, _, _, rfl, rfl, SqT.of (s1 _ _ g1'), rfl, ra, _, rfl, DPut.k (k := Sum.inr x) F1.h1 (small1000 (by omega)), ?_⟩
      exact ⟨_, _, r2, _, m, b + 1, rfl, g3, ok.2.2, hl, hB.put (wor_in hB t ok.1), hsd, hsl, ⟨_, F1.room _, mr.put x _, Nat.le_trans putK_len1 (by omega), by omega⟩, hw, q⟩
    | see t r2 =>
      obtain ⟨a, tv, vs', e, g1, g2, g3⟩ := h1
      cases e
      have g1' := s0 _ _ g1
      have hw : b + 1 + wl r2 ≤ Bd := by simp only [wl] at hb; omega
      refine ⟨_, rfl, a, _, _, _, rfl, rfl, SqT.of g1', rfl, rfl, _, rfl, ifF (by decide +kernel) ⟨_, rfl, a, _, _, _, rfl, rfl, SqT.of g1', rfl, rfl, _, rfl, ifF (by decide +kernel)
        ⟨_, rfl, a, _, _, _, rfl, rfl, SqT.of g1', rfl, rfl, _, rfl, ifT (by decide +kernel) ?_⟩⟩⟩
      have q1 : LMet H0 ra ma m Bd Q (if wor ρ t = 0 then ⟨false, ρ, []⟩ else lgo ss r2 ρ m.length) := q
      refine ⟨_, rfl, a, _, _, _, rfl, rfl, SqT.of g1', rfl, _, rfl, tv, ra, t, ρ, rfl, g2.keep (Kp.of s0), ok.1, ok.2.1, ⟨kvs, F.h1, mr⟩, hB, fun H1 s1 => ?_⟩
      refine ⟨rfl, _, rfl, ?_⟩
      rw [int_dec]
      refine if2 (fun c => ?_) (fun c => ?_)
      · rw [if_pos c] at q1
        exact q1 _ ((by show GAt H0 H1 ra ma ρ (m ++ []) Bd; rw [List.append_nil]; exact (M.step s1).mono (by omega)))
      · rw [if_neg c] at q1
        exact ⟨_, _, r2, ρ, m, b, rfl, g3, ok.2.2, hl, hB, hsd, hsl, M.step s1, by omega, q1⟩
    | rep n p r2 =>
      obtain ⟨a, pa, pv', vs', e, g1, g2, g3, g4⟩ := h1
      cases e
      have g1' := s0 _ _ g1
      have hw : b + (1 + n * wl p) + wl r2 ≤ Bd := by simp only [wl] at hb; omega
      have hl2 : lev p < j ∧ lev r2 < j + 1 := by simp only [lev] at hl; omega
      have hn60 : n ≤ 60 := ok.1
      rw [nd_rep] at hsl
      refine ⟨_, rfl, a, _, _, _, rfl, rfl, SqT.of g1', rfl, rfl, _, rfl, ifF (by decide +kernel) ⟨_, rfl, a, _, _, _, rfl, rfl, SqT.of g1', rfl, rfl, _, rfl, ifF (by decide +kernel)
        ⟨_, rfl, a, _, _, _, rfl, rfl, SqT.of g1', rfl, rfl, _, rfl, ifF (by decide +kernel) ⟨_, rfl, a, _, _, _, rfl, rfl, SqT.of g1', rfl, rfl, _, rfl, ifT (by decide +kernel) ?_⟩⟩⟩⟩
      refine ⟨_, rfl, a, _, _, _, rfl, rfl, SqT.of g1', rfl, (n : Int), rfl, by omega, by omega, ?_⟩
      refine for_range (n := (n : Int).toNat) (fun i' σ H' => ∃ (o2 : Option V) (ρ : Rm) (m : List (Option Int)) (b : Nat), σ = [some (.ref pr), some (.ref ra), some (.ref sa), some (.ref ma), some (.ref a), o2] ∧
          RmB ρ ∧ Sided ss m.length ((List.replicate (n - i') (drw p)).flatten ++ drw r2) ∧ m.length + ((n - i') * nd p + nd r2) ≤ ss.length ∧ GAt H0 H' ra ma ρ m b ∧ b + ((n - i') * wl p + wl r2) ≤ Bd ∧
          LMet H0 ra ma m Bd Q ((manyL (lgo ss p) (n - i') ρ m.length).bnd (lgo ss r2) m.length))
        ⟨o2, ρ, m, b, rfl, hB, hsd, hsl, M, by rw [Nat.sub_zero]; omega, q⟩ ?_ ?_
      · clear q hB hsd hsl M hb hw F mr mk mm s0 ρ m b
        rintro i' σ H'' hi' ⟨o2, ρ, m, b, rfl, hB, hsd, hsl, M, hb, q⟩
        have em : n - i' = (n - (i' + 1)) + 1 := by omega
        rw [em] at q hb hsd hsl
        rw [Nat.succ_mul] at hb hsl
        rw [List.replicate_succ, List.flatten_cons, List.append_assoc] at hsd
        have q1 : LMet H0 ra ma m Bd Q (((lgo ss p ρ m.length).bnd (manyL (lgo ss p) (n - (i' + 1))) m.length).bnd (lgo ss r2) m.length) := q
        rw [Way.bnd_assoc] at q1
        have ft := fits ss p ρ m.length hsd.left
        have nbp : nd p = (drw p).length := rfl
        refine ⟨_, rfl, a, _, _, _, rfl, rfl, SqT.of (M.same _ _ g1), rfl, _, rfl, _, rfl, _, rfl, H0, pa, ra, sa, ma, pv', p, ρ, ss, m, b, b + wl p, rfl, g2, g3, ok.2.1, hl2.1, hB, hsa, hsd.left, by omega, M, Nat.le_refl _, by omega, ?_⟩
        refine LMet.split q1 (by omega) (fun e1 h9 H1 M1 => ?_) (fun _ H1 z => ⟨false, rfl, ifT rfl z⟩)
        have lo := ft.eq e1
        have lm : (m ++ (lgo ss p ρ m.length).out).length = m.length + (drw p).length := by rw [List.length_append, lo]
        refine ⟨true, rfl, ifF rfl ⟨_, _, m ++ (lgo ss p ρ m.length).out, _, rfl, lgo_rm ok.2.1 hB hsd.left, ?_, by rw [lm]; omega, M1, by omega, h9⟩⟩
        rw [lm]
        exact hsd.right
      · clear q hB hsd hsl M hb hw F mr mk mm s0 ρ m b
        rintro σ H'' ⟨o2, ρ, m, b, rfl, hB, hsd, hsl, M, hb, q⟩
        have e0 : n - (n : Int).toNat = 0 := by omega
        rw [e0] at q hb hsd hsl
        rw [Nat.zero_mul, Nat.zero_add] at hb hsl
        have q1 : LMet H0 ra ma m Bd Q (Way.bnd ⟨true, ρ, []⟩ (lgo ss r2) m.length) := q
        have q2 := q1.go rfl
        have q3 : LMet H0 ra ma (m ++ []) Bd Q (lgo ss r2 ρ (m ++ []).length) := q2
        rw [List.append_nil] at q3
        exact ⟨_, _, r2, ρ, m, b, rfl, g4, ok.2.2, hl2.2, hB, hsd, hsl, M, hb, q3⟩
    | ite t p p2 r2 =>
      obtain ⟨a, tv, pa, pv', qa, qv, vs', e, g1, g2, g3, g4, g5, g6, g7⟩ := h1
      cases e
      have g1' := s0 _ _ g1
      have hw : b + (1 + (wl p + wl p2)) + wl r2 ≤ Bd := by simp only [wl] at hb; omega
      have hl2 : lev p < j ∧ lev p2 < j ∧ lev r2 < j + 1 := by simp only [lev] at hl; omega
      rw [nd_ite] at hsl
      have dp := nd_wl p
      have dp2 := nd_wl p2
      have hsd' : Sided ss m.length (drw p ++ drw p2 ++ drw r2) := hsd
      have nbp : nd p = (drw p).length := rfl
      have nbp2 : nd p2 = (drw p2).length := rfl
      have lnones : ∀ n, (nones n).length = n := fun n => by unfold nones; rw [List.length_replicate]
      have q1 : LMet H0 ra ma m Bd Q ((if wor ρ t = 0 then Way.bnd ⟨true, ρ, nones (nd p)⟩ (lgo ss p2) m.length else (lgo ss p ρ m.length).bnd (fun ρ' _ => ⟨true, ρ', nones (nd p2)⟩) m.length).bnd (lgo ss r2) m.length) := q
      refine ⟨_, rfl, a, _, _, _, rfl, rfl, SqT.of g1', rfl, rfl, _, rfl, ifF (by decide +kernel) ⟨_, rfl, a, _, _, _, rfl, rfl, SqT.of g1', rfl, rfl, _, rfl, ifF (by decide +kernel)
        ⟨_, rfl, a, _, _, _, rfl, rfl, SqT.of g1', rfl, rfl, _, rfl, ifF (by decide +kernel) ⟨_, rfl, a, _, _, _, rfl, rfl, SqT.of g1', rfl, rfl, _, rfl, ifF (by decide +kernel) ?_⟩⟩⟩⟩
      refine ⟨_, rfl, a, _, _, _, rfl, rfl, SqT.of g1', rfl, _, rfl, tv, ra, t, ρ, rfl, g2.keep (Kp.of s0), ok.1, ok.2.1, ⟨kvs, F.h1, mr⟩, hB, fun H1 s1 => ?_⟩
      have M1 := M.step s1
      have F1 := F.step s1
      refine ⟨rfl, _, rfl, ?_⟩
      rw [int_dec]
      by_cases c : wor ρ t = 0
      · rw [if_pos c, Way.bnd_assoc] at q1
        have q2 := q1.go rfl
        have q3 : LMet H0 ra ma (m ++ nones (nd p)) Bd Q ((lgo ss p2 ρ (m ++ nones (nd p)).length).bnd (lgo ss r2) (m ++ nones (nd p)).length) := q2
        refine ifF (by rw [decide_eq_true c]; rfl) ?_
        -- met.extend([None] * len(_law_draws(row[2])))
        refine ⟨_, rfl, .inl ⟨rfl, _, SqL.of F1.h3⟩, (by show 1 ≤ sizeLine; decide), fun p1 n1 => ?_⟩
        have F2 := F1.step (same_new n1 (.lst [.non]))
        refine ⟨_, rfl, a, _, _, _, rfl, rfl, SqT.of (F2.same _ _ g1), rfl, pa, pv', p, rfl, F2.same _ _ g3, g4.keep (Kp.of F2.same), ok.2.2.1, hl2.1, by omega, fun H3 p3 ds s3 nd3 c3 d3 => ?_⟩
        have F3 := F2.step s3
        have ld : ds.length = nd p := d3.1
        refine ⟨p3, _, rfl, .inl (SqL.of c3), p1, _, [.non], rfl, rfl, s3 _ _ upd_same, by omega, by omega, ?_, fun p4 n4 => ?_⟩
        · show 1 * ((ds.length : Nat) : Int).toNat ≤ sizeLine
          exact size1000 (by omega)
        have F4 := F3.step (same_new n4 (.lst (List.replicate ((ds.length : Nat) : Int).toNat [V.non]).flatten))
        refine ⟨ma, p4, _, _, rfl, rfl, F4.h3, upd_same, ?_, ?_⟩
        · rw [flat_non, List.length_map, List.length_replicate]
          exact size1000 (by omega)
        have F5 := F4.met (m ++ nones (nd p))
        have e4 : (m ++ nones (nd p)).map ov = m.map ov ++ (List.replicate ((ds.length : Nat) : Int).toNat [V.non]).flatten := by rw [List.map_append, flat_non, ov_nones, Int.toNat_natCast, ld]
        rw [e4] at F5
        have lm : (m ++ nones (nd p)).length = m.length + nd p := by rw [List.length_append, lnones]
        have hs2 : Sided ss (m ++ nones (nd p)).length (drw p2) := by rw [lm]; exact hsd'.left.right
        have M5 : GAt H0 _ ra ma ρ (m ++ nones (nd p)) (b + wl p) := ⟨kvs, F5, mr, by omega, by rw [lm]; omega⟩
        have ft := fits ss p2 ρ _ hs2
        refine ⟨_, rfl, a, _, _, _, rfl, rfl, SqT.of (F5.same _ _ g1), rfl, _, rfl, _, rfl, _, rfl, H0, qa, ra, sa, ma, qv, p2, ρ, ss, m ++ nones (nd p), b + wl p, b + wl p + wl p2, rfl, g5, g6, ok.2.2.2.1, hl2.2.1, hB, hsa, hs2, by rw [lm]; omega, M5, Nat.le_refl _, by omega, ?_⟩
        refine LMet.split q3 (by omega) (fun e1 h9 H6 M6 => ?_) (fun _ H6 z => ⟨false, rfl, ifT rfl z⟩)
        have lo := ft.eq e1
        have lm2 : (m ++ nones (nd p) ++ (lgo ss p2 ρ (m ++ nones (nd p)).length).out).length = m.length + (drw p ++ drw p2).length := by rw [List.length_append, lo, lm, List.length_append]; omega
        refine ⟨true, rfl, ifF rfl ⟨_, _, r2, _, _, _, rfl, g7, ok.2.2.2.2, hl2.2.2, lgo_rm ok.2.2.2.1 hB hs2, ?_, ?_, M6, by omega, h9⟩⟩
        · rw [lm2]; exact hsd'.right
        · rw [lm2, List.length_append]; omega
      · rw [if_neg c, Way.bnd_assoc] at q1
        refine ifT (by rw [decide_eq_false c]; rfl) ?_
        have hs1 := hsd'.left.left
        have ft := fits ss p ρ m.length hs1
        refine ⟨_, rfl, a, _, _, _, rfl, rfl, SqT.of (F1.same _ _ g1), rfl, _, rfl, _, rfl, _, rfl, H0, pa, ra, sa, ma, pv', p, ρ, ss, m, b, b + wl p, rfl, g3, g4, ok.2.2.1, hl2.1, hB, hsa, hs1, by omega, M1, Nat.le_refl _, by omega, ?_⟩
        refine LMet.split q1 (by omega) (fun e1 h9 H2 M2 => ?_) (fun _ H6 z => ⟨false, rfl, ifT rfl z⟩)
        refine ⟨true, rfl, ifF rfl ?_⟩
        have lo := ft.eq e1
        have hB2 := lgo_rm ok.2.2.1 hB hs1
        generalize (lgo ss p ρ m.length).ρ = ρ1 at h9 M2 hB2
        generalize (lgo ss p ρ m.length).out = out1 at h9 M2 lo
        have q2 := h9.go rfl
        have q3 : LMet H0 ra ma ((m ++ out1) ++ nones (nd p2)) Bd Q (lgo ss r2 ρ1 ((m ++ out1) ++ nones (nd p2)).length) := q2
        obtain ⟨kvs2, F2, mr2, mk2, mm2⟩ := M2
        refine ⟨_, rfl, .inl ⟨rfl, _, SqL.of F2.h3⟩, (by show 1 ≤ sizeLine; decide), fun p1 n1 => ?_⟩
        have F3 := F2.step (same_new n1 (.lst [.non]))
        refine ⟨_, rfl, a, _, _, _, rfl, rfl, SqT.of (F3.same _ _ g1), rfl, qa, qv, p2, rfl, F3.same _ _ g5, g6.keep (Kp.of F3.same), ok.2.2.2.1, hl2.2.1, by omega, fun H3 p3 ds s3 nd3 c3 d3 => ?_⟩
        have F4 := F3.step s3
        have ld : ds.length = nd p2 := d3.1
        refine ⟨p3, _, rfl, .inl (SqL.of c3), p1, _, [.non], rfl, rfl, s3 _ _ upd_same, by omega, by omega, ?_, fun p4 n4 => ?_⟩
        · show 1 * ((ds.length : Nat) : Int).toNat ≤ sizeLine
          exact size1000 (by omega)
        have F5 := F4.step (same_new n4 (.lst (List.replicate ((ds.length : Nat) : Int).toNat [V.non]).flatten))
        refine ⟨ma, p4, _, _, rfl, rfl, F5.h3, upd_same, ?_, ?_⟩
        · rw [flat_non, List.length_map, List.length_replicate]
          exact size1000 (by omega)
        have F6 := F5.met (m ++ out1 ++ nones (nd p2))
        have e4 : (m ++ out1 ++ nones (nd p2)).map ov = (m ++ out1).map ov ++ (List.replicate ((ds.length : Nat) : Int).toNat [V.non]).flatten := by rw [List.map_append, flat_non, ov_nones, Int.toNat_natCast, ld]
        rw [e4] at F6
        have lm2 : (m ++ out1 ++ nones (nd p2)).length = m.length + (drw p ++ drw p2).length := by rw [List.length_append, List.length_append, List.length_append, lo, lnones]; omega
        refine ⟨_, _, r2, ρ1, _, b + wl p + wl p2, rfl, g7, ok.2.2.2.2, hl2.2.2, hB2, ?_, ?_, ⟨kvs2, F6, mr2, by omega, ?_⟩, by omega, q3⟩
        · rw [lm2]; exact hsd'.right
        · rw [lm2, List.length_append]; omega
        · rw [lm2, List.length_append]
          have : m.length ≤ b := mm
          omega
  · clear q hR ok hl hB M hb hsd hsl r ρ m b
    rintro σ H' ⟨o1, o2, r, ρ, m, b, rfl, h1, ok, hl, hB, hsd, hsl, M, hb, q⟩
    rw [List.drop_length] at h1
    cases h1.none
    exact q _ (by show GAt H0 H' ra ma ρ (m ++ []) Bd; rw [List.append_nil]; exact M.mono (by omega))
theorem ok_lgo {f g : Addr} {fd gd : FuncData} (D : Df K mg "_law_go" sLGo ["rows", "room", "sides", "met"] f fd) (DD : Df K mg "_law_draws" sLDraws ["rows"] g gd) (B : Bl mg) (GW : Cal P w K mg base CX0 5 "_law_worth" ["term", "room"] (spLWorth 4)) :
    ∀ j : Nat, Cal P w K mg base CX0 (5 + j) "_law_go" ["rows", "room", "sides", "met"] (spLGo j)
  | 0 => D.never fun vs H Q E h => by
    obtain ⟨H0, pr, ra, sa, ma, vs0, r, ρ, ss, m, b, Bd, _, _, _, _, hl, _⟩ := h
    exact absurd hl (Nat.not_lt_zero _)
  | j + 1 => ok_lgo1 D B (Nat.le_add_right 5 j) (Nat.le_add_left j 5) GW (ok_ldraws DD j) (ok_lgo D DD B GW j)
end
end Lot

/-! _law_same, _law_list, _law_wrong -/
namespace Lot
open PySem L2
abbrev sSame : Stmt := top 44
abbrev sList : Stmt := top 45
abbrev sWrong : Stmt := top 47
section
variable {P : Program} {w : World} {K : PySem.W.Frag} {mg : Str → Option Value} {base : Heap}
/-- two like things: sides or none of a draw; tuples of such -/
def spSame (j : Nat) : Sp := fun vs H Q _ => (∃ x : Option Int, vs = [ov x, ov x] ∧ 1 ≤ j ∧ Q (.bl true) H) ∨
  (∃ (a b : Addr) (xs : List (Option Int)), vs = [.ref a, .ref b] ∧ H a = some (.tup (xs.map ov)) ∧ H b = some (.tup (xs.map ov)) ∧ xs.length ≤ 2000 ∧ 2 ≤ j ∧ Q (.bl true) H)
theorem scSame : FnScope ["found", "due", "k"] ["found", "due"] (defScope sSame) := ⟨rfl, rfl, rfl, by decide +kernel, rfl, by decide +kernel, by decide +kernel⟩
theorem kb {K : PySem.W.Frag} (a b : String) (r : Bool) (h : kitB a b = some r) : PySem.W.kitOne K (.type a) (.type b) = some r := kit_ty h
theorem ok_same1 {f : Addr} {fd : FuncData} {j k : Nat} (D : Df K mg "_law_same" sSame ["found", "due"] f fd) (B : Bl mg) (G_law_same : Cal P w K mg base CX0 k "_law_same" ["found", "due"] (spSame j)) :
    Cal P w K mg base CX0 (k + 1) "_law_same" ["found", "due"] (spSame (j + 1)) := by
  refine D.cal (D.fn.ok scSame (fun vs H Q E h => ?_) (fun cdv A outer s H vs Q E hr h => ?_))
  · rcases h with ⟨x, rfl, _⟩ | ⟨a, b, xs, rfl, _⟩ <;> rfl
  refine ⟨_, (pss_cons (ps_if (pt_val (pe_callB call_isi (by rfl) B.isinstance (by decide +kernel) (pa_cons (pv 1) (pa_cons (pe_bltn (v := .ty "tuple") (by rfl) B.tuple (by decide +kernel) rfl) pa_nil))))
      (pss_cons (ps_if (PW.pt (pw_or (pt_not (pt_val (pe_callB call_isi (by rfl) B.isinstance (by decide +kernel) (pa_cons (pv 0) (pa_cons (pe_bltn (v := .ty "tuple") (by rfl) B.tuple (by decide +kernel) rfl) pa_nil))))) (pw_or1 (pt_cmpR op_ne (pe_callB call_len_seq (by rfl) B.len PySem.boot_len (pa_cons (pv 0) pa_nil)) (pe_callB call_len_seq (by rfl) B.len PySem.boot_len (pa_cons (pv 1) pa_nil)) (nomark _)))))
        (pss_one (ps_ret pe_bl))
        pss_nil)
      (pss_cons (ps_for PassesOwn.never rfl (pi_range1 (by rfl) B.range (pa_cons (pe_callB call_len_seq (by rfl) B.len PySem.boot_len (pa_cons (pv 1) pa_nil)) pa_nil)) (pg_name (i := 2) scSame.nd rfl (.inl rfl))
        (pss_one (ps_if (pt_not (pt_val (pe_cal G_law_same hr rfl pass0 (pa_cons (pe_ix ix_tup (pv 0) (pv 2) (fun _ _ => rfl)) (pa_cons (pe_ix ix_tup (pv 1) (pv 2) (fun _ _ => rfl)) pa_nil)))))
          (pss_one (ps_ret pe_bl))
          pss_nil)))
      (pss_one (ps_ret pe_bl))))
      pss_nil)
    (pss_cons (ps_if (pt_val (pe_callB call_isi (by rfl) B.isinstance (by decide +kernel) (pa_cons (pv 1) (pa_cons (pe_bltn (v := .ty "str") (by rfl) B.str (by decide +kernel) rfl) pa_nil))))
      (pss_one (ps_ret (pe_and (pe_callB call_isi (by rfl) B.isinstance (by decide +kernel) (pa_cons (pv 0) (pa_cons (pe_bltn (v := .ty "str") (by rfl) B.str (by decide +kernel) rfl) pa_nil))) (pe_one (pe_cmpR op_eq (pv 0) (pv 1) (nomark _))))))
      pss_nil)
    (pss_cons (ps_if (pt_cmp (pc_isN (pv 1)))
      (pss_one (ps_ret (pe_cmp (pc_isN (pv 0)))))
      pss_nil)
    (pss_one (ps_ret (pe_and (pe_callB call_isi (by rfl) B.isinstance (by decide +kernel) (pa_cons (pv 0) (pa_cons (pe_bltn (v := .ty "int") (by rfl) B.int (by decide +kernel) rfl) pa_nil))) (pe_and (pe_not (pe_callB call_isi (by rfl) B.isinstance (by decide +kernel) (pa_cons (pv 0) (pa_cons (pe_bltn (v := .ty "bool") (by rfl) B.bool (by decide +kernel) rfl) pa_nil)))) (pe_one (pe_cmpR op_eq (pv 0) (pv 1) (nomark _)))))))))), ?_⟩
  rcases h with ⟨x, rfl, hj, q⟩ | ⟨a, b, xs, rfl, ha, hb, hx, hj, q⟩
  · cases x with
    | none =>
      refine ⟨_, rfl, _, _, _, _, _, rfl, .ty _, .base .non, kb "NoneType" "tuple" false (by decide +kernel), _, rfl, ifF rfl ?_⟩
      refine ⟨_, rfl, _, _, _, _, _, rfl, .ty _, .base .non, kb "NoneType" "str" false (by decide +kernel), _, rfl, ifF rfl ?_⟩
      exact ⟨_, rfl, _, rfl, ifT rfl ⟨_, rfl, q⟩⟩
    | some i =>
      refine ⟨_, rfl, _, _, _, _, _, rfl, .ty _, .base (.int i), kb "int" "tuple" false (by decide +kernel), _, rfl, ifF rfl ?_⟩
      refine ⟨_, rfl, _, _, _, _, _, rfl, .ty _, .base (.int i), kb "int" "str" false (by decide +kernel), _, rfl, ifF rfl ?_⟩
      refine ⟨_, rfl, _, rfl, ifF rfl ?_⟩
      refine ⟨_, rfl, _, _, _, _, _, rfl, .ty _, .base (.int i), kb "int" "int" true (by decide +kernel), _, rfl, iteT ?_⟩
      refine ⟨_, rfl, _, _, _, _, _, rfl, .ty _, .base (.int i), kb "int" "bool" false (by decide +kernel), _, rfl, _, rfl, iteT ?_⟩
      refine ⟨_, rfl, _, rfl, rfl, ?_⟩
      rw [decide_eq_true rfl]
      exact q
  · refine ⟨_, rfl, _, _, _, _, _, rfl, .ty _, .base (.tup hb), kb "tuple" "tuple" true (by decide +kernel), _, rfl, ifT rfl ?_⟩
    refine ⟨_, rfl, _, _, _, _, _, rfl, .ty _, .base (.tup ha), kb "tuple" "tuple" true (by decide +kernel), _, rfl, ?_⟩
    refine ifF rfl ⟨_, rfl, a, _, rfl, .inr (SqT.of ha), _, rfl, b, _, rfl, .inr (SqT.of hb), rfl, _, rfl, ifF ?_ ?_⟩
    · rw [decide_eq_true rfl]; rfl
    refine ⟨_, rfl, b, _, rfl, .inr (SqT.of hb), _, rfl, ?_, ?_, ?_⟩
    · rw [List.length_map]; omega
    · rw [List.length_map]; omega
    refine for_range (n := ((xs.map ov).length : Int).toNat) (fun i σ H' => H' = H ∧ ∃ o : Option V, σ = [some (.ref a), some (.ref b), o]) ⟨rfl, none, rfl⟩ ?_ ?_
    · rintro i σ H' hi ⟨rfl, o, rfl⟩
      rw [List.length_map, Int.toNat_natCast] at hi
      have e0 : (0 : Int) + (i : Int) = ((i : Nat) : Int) := by omega
      have ei : atI (xs.map ov) (0 + (i : Int)) = some (ov xs[i]) := by
        rw [e0]
        exact atI_nat (by rw [List.getElem?_map, List.getElem?_eq_getElem hi]; rfl)
      exact ⟨_, rfl, _, rfl, a, _, _, _, rfl, rfl, SqT.of ha, ei, _, rfl, _, rfl, b, _, _, _, rfl, rfl, SqT.of hb, ei, .inl ⟨xs[i], rfl, by omega, true, rfl, ifF rfl ⟨rfl, _, rfl⟩⟩⟩
    · rintro σ H' ⟨rfl, o, rfl⟩
      exact q
theorem ok_same {f : Addr} {fd : FuncData} (D : Df K mg "_law_same" sSame ["found", "due"] f fd) (B : Bl mg) : ∀ j : Nat, Cal P w K mg base CX0 j "_law_same" ["found", "due"] (spSame j)
  | 0 => D.never fun vs H Q E h => by
    rcases h with ⟨_, _, h, _⟩ | ⟨_, _, _, _, _, _, _, h, _⟩ <;> omega
  | j + 1 => ok_same1 D B (ok_same D B j)

/-! ### _law_list -/
def spList : Sp := fun vs H Q _ => ∃ (a b : Addr) (xs : List (Option Int)), vs = [.ref a, .ref b] ∧ H a = some (.lst (xs.map ov)) ∧ H b = some (.lst (xs.map ov)) ∧ xs.length ≤ 2000 ∧ ∀ H', Same H H' → Q (.bl true) H'
theorem scList : FnScope ["found", "due"] ["found", "due"] (defScope sList) := ⟨rfl, rfl, rfl, by decide +kernel, rfl, by decide +kernel, by decide +kernel⟩
theorem ok_list {f : Addr} {fd : FuncData} (D : Df K mg "_law_list" sList ["found", "due"] f fd) (B : Bl mg) (G_law_same : Cal P w K mg base CX0 2 "_law_same" ["found", "due"] (spSame 2)) :
    Cal P w K mg base CX0 3 "_law_list" ["found", "due"] spList := by
  refine D.cal (D.fn.ok scList (fun vs H Q E h => ?_) (fun cdv A outer s H vs Q E hr h => ?_))
  · obtain ⟨a, b, xs, rfl, _⟩ := h
    rfl
  obtain ⟨a, b, xs, rfl, ha, hb, hx, q⟩ := h
  refine ⟨_, (pss_one (ps_ret (pe_and (pe_callB call_isi (by rfl) B.isinstance (by decide +kernel) (pa_cons (pv 0) (pa_cons (pe_bltn (v := .ty "list") (by rfl) B.list (by decide +kernel) rfl) pa_nil))) (pe_one (pe_cal G_law_same hr rfl pass0 (pa_cons (pe_callTy call_tuple_of (by rfl) B.tuple (by decide +kernel) (pa_cons (pv 0) pa_nil)) (pa_cons (pe_callTy call_tuple_of (by rfl) B.tuple (by decide +kernel) (pa_cons (pv 1) pa_nil)) pa_nil))))))), ?_⟩
  refine ⟨_, rfl, _, _, _, _, _, rfl, .ty _, .base (.lst ha), kb "list" "list" true (by decide +kernel), _, rfl, iteT ?_⟩
  refine ⟨_, rfl, a, _, rfl, .inl ⟨SqL.of ha, fun p hp => ?_⟩⟩
  have s1 := same_new hp (.tup (xs.map ov))
  refine ⟨_, rfl, b, _, rfl, .inl ⟨SqL.of (s1 _ _ hb), fun p2 hp2 => ?_⟩⟩
  have s2 := same_new hp2 (.tup (xs.map ov))
  exact .inr ⟨p, p2, xs, rfl, s2 _ _ upd_same, upd_same, hx, Nat.le_refl _, q _ (s1.trans s2)⟩

/-! ### tuples cut and joined -/
def rCatS : R2 := fun x y H Q => ∃ a b xs ys, x = .ref a ∧ y = .ref b ∧ H a = some (.tup xs) ∧ H b = some (.tup ys) ∧ xs.length + ys.length ≤ sizeLine ∧ ∀ H' p, Same H H' → H' p = some (.tup (xs ++ ys)) → Q (.ref p) H'
theorem op_catS {X : Cx} : OpR X (binaryOp .Add) rCatS := by
  intro pins s σ H x y v u Q I rx ry h
  obtain ⟨a, b, xs, ys, rfl, rfl, ha, hb, hz, q⟩ := h
  refine op_catA pins s σ H _ _ v u Q I rx ry ⟨a, b, xs, ys, rfl, rfl, SqT.of ha, SqT.of hb, hz, fun e => ?_, fun _ e => ?_, fun _ _ p hp => q _ p (same_new hp _) upd_same⟩
  · subst e
    exact q H b (Same.refl H) hb
  · subst e
    exact q H a (Same.refl H) (by rw [List.append_nil]; exact ha)
def rSlS : V → Option Int → Option Int → Hp → VK → Prop := fun x lo hi H Q => ∃ a xs, x = .ref a ∧ H a = some (.tup xs) ∧ ∀ H' p, Same H H' → H' p = some (.tup (cutV xs lo hi)) → Q (.ref p) H'
theorem sl_tupS {X : Cx} : SlR X rSlS := by
  intro pins s σ H x v vl vu lo hi sl Q I rx hs pl pu h
  obtain ⟨a, xs, rfl, ha, q⟩ := h
  refine sl_tupA pins s σ H _ v vl vu lo hi sl Q I rx hs pl pu ⟨a, xs, rfl, SqT.of ha, fun e => ?_, fun _ p hp => q _ p (same_new hp _) upd_same⟩
  refine q H a (Same.refl H) ?_
  unfold cutV
  rw [e.1, e.2, List.drop_zero, Nat.sub_zero, List.take_length]
  exact ha
theorem cut_last (xs : List V) (h : xs ≠ []) : cutV xs none (some (-1)) = xs.dropLast := by
  unfold cutV
  have h1 : 1 ≤ xs.length := by cases xs with | nil => exact absurd rfl h | cons a r => rw [List.length_cons]; omega
  have e : HT.sIx xs.length xs.length (some (-1)) = xs.length - 1 := by
    show (if (-1 : Int) < 0 then (-1 + (xs.length : Int)).toNat else min (-1 : Int).toNat xs.length) = _
    rw [if_pos (by decide)]
    omega
  rw [e, HT.sIx_none, List.drop_zero, Nat.sub_zero, List.dropLast_eq_take]

/-! ### _law_wrong -/
def Wrong (us : List Int) (cs : List Nat) (ws : List Int) : Prop :=
  (us ≠ [] ∧ ws = us.dropLast) ∨ ∃ (n : Nat) (x : Int), n < us.length ∧ ws = us.take n ++ x :: us.drop (n + 1) ∧ (x < 0 ∨ ∃ c : Nat, cs[n]? = some c ∧ (c : Int) ≤ x)
theorem Wrong.len {us ws : List Int} {cs : List Nat} (h : Wrong us cs ws) : ws.length ≤ us.length := by
  rcases h with ⟨_, rfl⟩ | ⟨n, x, hn, rfl, _⟩
  · rw [List.length_dropLast]; omega
  · rw [List.length_append, List.length_take, List.length_cons, List.length_drop]; omega
def spWrong : Sp := fun vs H Q _ => ∃ (ua ca : Addr) (cell : Int) (us : List Int) (cs : List Nat), vs = [.ref ua, .ref ca, .int cell] ∧ H ua = some (.tup (us.map V.int)) ∧ H ca = some (.lst (cs.map fun (c : Nat) => V.int (c : Int))) ∧ cs.length = us.length ∧ us.length ≤ 900 ∧
  ∀ (H' : Hp) (p : Addr) (vs : List V), Same H H' → H' p = some (.lst vs) → vs.length ≤ 3 → (∀ v ∈ vs, ∃ (a : Addr) (ws : List Int), v = .ref a ∧ H' a = some (.tup (ws.map V.int)) ∧ Wrong us cs ws) → Q (.ref p) H'
theorem scWrong : FnScope ["used", "counts", "cell", "at", "far", "low", "high"] ["used", "counts", "cell"] (defScope sWrong) := ⟨rfl, rfl, rfl, by decide +kernel, rfl, by decide +kernel, by decide +kernel⟩
theorem ok_wrong {f : Addr} {fd : FuncData} (D : Df K mg "_law_wrong" sWrong ["used", "counts", "cell"] f fd) (B : Bl mg) : Cal P w K mg base CX0 1 "_law_wrong" ["used", "counts", "cell"] spWrong := by
  refine D.cal (D.fn.ok scWrong (fun vs H Q E h => ?_) (fun cdv A outer s H vs Q E hr h => ?_))
  · obtain ⟨ua, ca, cell, us, cs, rfl, _⟩ := h
    rfl
  obtain ⟨ua, ca, cell, us, cs, rfl, hu, hc, hl, hz, q⟩ := h
  refine ⟨_, (pss_cons (ps_if (pt_cmpR op_eq (pe_callB call_len_seq (by rfl) B.len PySem.boot_len (pa_cons (pv 0) pa_nil)) pe_int (nomark _))
      (pss_one (ps_ret (pe_lst pa_nil)))
      pss_nil)
    (pss_cons (ps_set (i := 3) scWrong.nd rfl (.inl rfl) (pe_op op_modN (pv 2) (pe_callB call_len_seq (by rfl) B.len PySem.boot_len (pa_cons (pv 0) pa_nil))))
    (pss_cons (ps_set (i := 4) scWrong.nd rfl (.inl rfl) (pe_op op_mul (pe_op op_mod (pe_op op_fdiv (pv 2) pe_int) (pe_op op_pow pe_int pe_int)) (pe_op op_mod (pe_op op_fdiv (pv 2) pe_int) pe_int)))
    (pss_cons (ps_set (i := 5) scWrong.nd rfl (.inl rfl) (pe_op op_catS (pe_op op_catS (pe_slice sl_tupS (pv 0) po_none (po_some (pv 3))) (pe_tup (pa_cons (pe_op op_sub (pe_un un_neg pe_int) (pv 4)) pa_nil))) (pe_slice sl_tupS (pv 0) (po_some (pe_op op_add (pv 3) pe_int)) po_none)))
    (pss_cons (ps_set (i := 6) scWrong.nd rfl (.inl rfl) (pe_op op_catS (pe_op op_catS (pe_slice sl_tupS (pv 0) po_none (po_some (pv 3))) (pe_tup (pa_cons (pe_op op_add (pe_ix ix_list (pv 1) (pv 3) (fun _ _ => rfl)) (pv 4)) pa_nil))) (pe_slice sl_tupS (pv 0) (po_some (pe_op op_add (pv 3) pe_int)) po_none)))
    (pss_one (ps_ret (pe_lst (pa_cons (pe_slice sl_tupS (pv 0) po_none (po_some (pe_un un_neg pe_int))) (pa_cons (pv 5) (pa_cons (pv 6) pa_nil))))))))))), ?_⟩
  refine ⟨_, rfl, ua, _, rfl, .inr (SqT.of hu), rfl, _, rfl, ?_⟩
  rw [List.length_map, int_dec]
  refine if2 (fun c => ?_) (fun c => ?_)
  · exact ⟨Nat.zero_le _, fun p hp => q _ p [] (same_new hp _) upd_same (Nat.zero_le _) fun v hv => absurd hv List.not_mem_nil⟩
  have hpos : 0 < us.length := by omega
  -- at
  refine ⟨_, rfl, _, rfl, ua, _, rfl, .inr (SqT.of hu), _, _, rfl, rfl, (by rw [List.length_map]; omega), ?_⟩
  have h1 := Int.emod_nonneg cell (show (us.length : Int) ≠ 0 by omega)
  have h2 := Int.emod_lt_of_pos cell (show (0 : Int) < (us.length : Int) by omega)
  obtain ⟨n, en⟩ : ∃ n : Nat, cell % (us.length : Int) = (n : Int) := ⟨(cell % (us.length : Int)).toNat, by omega⟩
  rw [en] at h2
  have hn : n < us.length := by omega
  have ef : (fun i j : Int => V.int (i.fmod j)) cell (((us.map V.int).length : Nat) : Int) = V.int (n : Int) := by
    rw [List.length_map]
    show V.int (Int.fmod cell (us.length : Int)) = _
    rw [Int.fmod_eq_emod_of_nonneg _ (Int.natCast_nonneg _), en]
  rw [ef]
  -- far
  refine ⟨_, rfl, _, _, rfl, rfl, ⟨by decide, by decide⟩, _, _, rfl, rfl, ⟨by decide, by decide, by decide⟩, _, _, rfl, rfl, (by show (0 : Int) < _; rw [ten30]; decide), _, rfl, _, _, rfl, rfl, ⟨by decide, by decide⟩, _, _, rfl, rfl, (by show (0 : Int) < 2; decide), _, _, rfl, rfl, .inr ⟨by omega, by omega⟩, ?_⟩
  have hfar : 0 ≤ cell / 7 % (10 ^ (30 : Int).toNat) * (cell / 3 % 2) := by
    rw [ten30]
    exact Int.mul_nonneg (Int.emod_nonneg _ (by decide)) (by omega)
  have mtake : cutV (us.map V.int) none (some (n : Int)) = (us.take n).map V.int := by rw [cut_take, List.map_take]
  have mdrop : cutV (us.map V.int) (some ((n : Int) + 1)) none = (us.drop (n + 1)).map V.int := by
    rw [show (n : Int) + 1 = ((n + 1 : Nat) : Int) by omega, cut_drop, List.map_drop]
  have sz1 : ∀ x : V, ((us.take n).map V.int).length + [x].length ≤ sizeLine := fun x => by
    rw [List.length_map, List.length_take, List.length_singleton]
    exact size1000 (by omega)
  have sz2 : ∀ x : V, ((us.take n).map V.int ++ [x]).length + ((us.drop (n + 1)).map V.int).length ≤ sizeLine := fun x => by
    rw [List.length_append, List.length_map, List.length_map, List.length_take, List.length_drop, List.length_singleton]
    exact size1000 (by omega)
  have join : ∀ x : Int, (us.take n).map V.int ++ [V.int x] ++ (us.drop (n + 1)).map V.int = (us.take n ++ x :: us.drop (n + 1)).map V.int := fun x => by
    rw [List.map_append, List.append_assoc]; rfl
  -- low
  refine ⟨_, rfl, _, rfl, _, rfl, ua, _, rfl, hu, fun H1 p1 s1 e1 => ?_⟩
  rw [mtake] at e1
  refine ⟨_, rfl, _, rfl, _, _, rfl, rfl, (by show 1 ≤ sizeLine; decide), fun p2 n2 => ?_⟩
  have s2 := same_new n2 (.tup [.int (-1 - (cell / 7 % (10 ^ (30 : Int).toNat) * (cell / 3 % 2)))])
  refine ⟨p1, p2, _, _, rfl, rfl, s2 _ _ e1, upd_same, sz1 _, fun H3 p3 s3 e3 => ?_⟩
  have sA : Same H H3 := s1.trans (s2.trans s3)
  refine ⟨_, rfl, _, rfl, _, _, rfl, rfl, _, rfl, ua, _, rfl, sA _ _ hu, fun H4 p4 s4 e4 => ?_⟩
  rw [mdrop] at e4
  refine ⟨p3, p4, _, _, rfl, rfl, s4 _ _ e3, e4, sz2 _, fun H5 p5 s5 e5 => ?_⟩
  have e5 : H5 p5 = some (.tup ((us.take n ++ (-1 - (cell / 7 % (10 ^ (30 : Int).toNat) * (cell / 3 % 2))) :: us.drop (n + 1)).map V.int)) := (join _) ▸ e5
  have sB : Same H H5 := sA.trans (s4.trans s5)
  -- high
  have hcn : n < cs.length := by omega
  have ec : atI (cs.map fun (c : Nat) => V.int (c : Int)) (n : Int) = some (.int (cs[n] : Int)) := atI_nat (by rw [List.getElem?_map, List.getElem?_eq_getElem hcn]; rfl)
  refine ⟨_, rfl, _, rfl, _, rfl, ua, _, rfl, sB _ _ hu, fun H6 p6 s6 e6 => ?_⟩
  rw [mtake] at e6
  have sC : Same H H6 := sB.trans s6
  refine ⟨_, rfl, _, rfl, ca, _, _, _, rfl, rfl, SqL.of (sC _ _ hc), ec, _, rfl, _, _, rfl, rfl, (by show 1 ≤ sizeLine; decide), fun p7 n7 => ?_⟩
  have s7 := same_new n7 (.tup [.int ((cs[n] : Int) + (cell / 7 % (10 ^ (30 : Int).toNat) * (cell / 3 % 2)))])
  refine ⟨p6, p7, _, _, rfl, rfl, s7 _ _ e6, upd_same, sz1 _, fun H8 p8 s8 e8 => ?_⟩
  have sD : Same H H8 := sC.trans (s7.trans s8)
  refine ⟨_, rfl, _, rfl, _, _, rfl, rfl, _, rfl, ua, _, rfl, sD _ _ hu, fun H9 p9 s9 e9 => ?_⟩
  rw [mdrop] at e9
  refine ⟨p8, p9, _, _, rfl, rfl, s9 _ _ e8, e9, sz2 _, fun Ha pa sa' ea => ?_⟩
  have ea : Ha pa = some (.tup ((us.take n ++ ((cs[n] : Int) + (cell / 7 % (10 ^ (30 : Int).toNat) * (cell / 3 % 2))) :: us.drop (n + 1)).map V.int)) := (join _) ▸ ea
  have sE : Same H Ha := sD.trans (s9.trans sa')
  -- the three
  refine ⟨_, rfl, _, rfl, _, rfl, ua, _, rfl, sE _ _ hu, fun Hb pb sb eb => ?_⟩
  have une : us ≠ [] := fun z => by rw [z] at hpos; exact absurd hpos (Nat.lt_irrefl 0)
  rw [cut_last _ (fun z => une (List.map_eq_nil_iff.mp z)), List.dropLast_eq_take, ← List.map_take, List.length_map, ← List.dropLast_eq_take] at eb
  refine ⟨_, rfl, _, rfl, (by show 3 ≤ sizeLine; decide), fun p hp => ?_⟩
  have sF := same_new hp (.lst [.ref pb, .ref p5, .ref pa])
  refine q _ p _ (sE.trans (sb.trans sF)) upd_same (by show 3 ≤ 3; decide) fun v hv => ?_
  simp only [List.mem_cons, List.not_mem_nil, or_false] at hv
  rcases hv with rfl | rfl | rfl
  · exact ⟨pb, _, rfl, sF _ _ eb, .inl ⟨une, rfl⟩⟩
  · exact ⟨p5, _, rfl, sF _ _ (sb _ _ (sa' _ _ (s9 _ _ (s8 _ _ (s7 _ _ (s6 _ _ e5)))))), .inr ⟨n, _, hn, rfl, .inl (by omega)⟩⟩
  · exact ⟨pa, _, rfl, sF _ _ (sb _ _ ea), .inr ⟨n, _, hn, rfl, .inr ⟨cs[n], List.getElem?_eq_getElem hcn, by omega⟩⟩⟩
end
end Lot

/-! _law_refused -/
namespace Lot
open PySem L2
abbrev sRefused : Stmt := top 46
/-- what the caught error's class says -/
structure Te (K : PySem.W.Frag) (mg : Str → Option Value) (cN cL cC cM : Addr) : Prop where
  gL : mg "LotError" = some (.ref cL)
  gC : mg "Crowded" = some (.ref cC)
  gM : mg "Many" = some (.ref cM)
  vE : mg "ValueError" = none
  ec : ExcC K cN
  te : PySem.W.exmOne K (.ref cN) (.ref cL) = some true
  kN : PySem.W.kitOne K (.ref cN) (.ref cN) = some true
  kV : PySem.W.kitOne K (.ref cN) (.type "ValueError") = some true
  kC : PySem.W.kitOne K (.ref cN) (.ref cC) = some false
  kM : PySem.W.kitOne K (.ref cN) (.ref cM) = some false
section
variable {X : Cx} {CX : CXT} {k : Nat} {sp : Sp} {E : L2.St → XK} {x : Str} {ps : List Str} {p pos : Pos} {e : Expr} {es : List Expr} {t : TA}
theorem pe_calS (C : Cal X.prog X.w X.K X.mg X.base CX k x ps sp) (hr : Room k X.A) (hg : Gl X x) (hx : ∀ σ, PassesAt CX X σ (E σ)) (ha : PA X (e :: es) t) (hdb : (x == ("__debug__" : Str)) = false := by decide)
    (he : starEach (e :: es) X.env = (false, eval e X.env) :: starEach es X.env := by rfl) (hpl : (backTo pos (starEach es X.env)).any (·.1) = false := by rfl) :
    PE X (.Call (.Name x p) (e :: es) [] pos) (tCallS sp E t) := by
  obtain ⟨f, fd, F, hm, hk, hb⟩ := C.ex
  exact pe_callS F hr hg hm hk hb hx ha hdb he hpl
theorem pss_when {A : Prop} {sts : List Stmt} {u : TS} (h : A → PSs X sts u) : PSs X sts (fun D σ H => A ∧ u D σ H) := ⟨fun pins s σ H D I q => (h q.1).run pins s σ H D I q.2⟩
end
def tIs (K : PySem.W.Frag) (cN a : Addr) (c : V) : TE := tCB (rIsE K cN a) (tCons (tVar 3) (tCons (tC c) tNil))
def t_suite (K : PySem.W.Frag) (cN cC cM : Addr) : Addr → Value → Option Addr → TS := fun a cls d D σ H => (cls = Value.ref cN ∧ d = none) ∧
  tSeq (tAsg (tAndV (tIs K cN a (.ref cN)) (tIs K cN a (.ty "ValueError"))) (gName 2)) (tAsg (tAndV (tVar 2) (tAndV (tNotV (tIs K cN a (.ref cC))) (tNotV (tIs K cN a (.ref cM))))) (gName 2)) D σ H
section
variable {P : Program} {w : World} {K : PySem.W.Frag} {mg : Str → Option Value} {base : Heap}
def spRefused : Sp := fun vs H Q _ => ∃ (pa ah : Addr) (us : List Int) (r : Rws) (t : Tm), vs = [.ref pa, .ref ah] ∧ PgAt H pa r t ∧ H ah = some (.tup (us.map V.int)) ∧ us.length ≤ 1000 ∧
  ((∃ m, ugo r (fun _ => 0) us = .opn m) ∨ ugo r (fun _ => 0) us = .bad) ∧ ∀ H', Same H H' → Q (.bl true) H'
abbrev nRefused : List Str := ["program", "sides", "right", "e"]
theorem scRefused : FnScope nRefused ["program", "sides"] (defScope sRefused) := ⟨rfl, rfl, rfl, by decide +kernel, rfl, by decide +kernel, by decide +kernel⟩
theorem ok_refused {f C cN cL cC cM : Addr} {fd : FuncData} (D : Df K mg "_law_refused" sRefused ["program", "sides"] f fd) (T : Tw K mg C cN) (Y : Te K mg cN cL cC cM) (B : Bl mg)
    (GM : Cal P w K mg base (L2.CX P w) 22 "met_sides" ["program", "sides"] (spMetS cN)) : Cal P w K mg base CX0 23 "_law_refused" ["program", "sides"] spRefused := by
  refine D.cal (D.fn.ok scRefused (fun vs H Q E h => ?_) (fun cdv A outer s H vs Q E hr h => ?_))
  · obtain ⟨pa, ah, us, r, t, rfl, _⟩ := h
    rfl
  obtain ⟨pa, ah, us, r, t, rfl, Pg, hah, hus, hR, q⟩ := h
  refine ⟨_, pss_cons (ps_set (i := 2) scRefused.nd rfl (.inl rfl) pe_bl)
    (pss_cons (ps_try_as (i := 3) (tb := fun W => tDrop (tCallS (spMetS cN) (WE W) (tCons (tVar 0) (tCons (tVar 1) tNil)))) (ts := t_suite K cN cC cM) (Wout := fun _ _ _ _ => False) rfl rfl scRefused.nd rfl rfl ⟨rfl, by decide, .inl Y.gL⟩ takes0
      (fun W pn xe tk _ => pss_one (ps_expr (by exact (pe_calS GM hr rfl (fun σ => passAt tk σ) (by exact (pa_cons (pv 0) (pa_cons (pv 1) pa_nil)))))))
      (fun a oe cls d pn hz hf => pss_when fun ez => by
        obtain ⟨e1, e2⟩ := ez
        subst e1
        subst e2
        exact pss_cons (ps_set (i := 2) scRefused.nd rfl (.inl rfl) (pe_and (pe_callB (call_isE Y.ec hz hf) (by rfl) B.isinstance (by decide +kernel) (pa_cons (pv 3) (pa_cons (pe_glob (v := .ref cN) rfl T.gN rfl) pa_nil)))
            (pe_one (pe_callB (call_isE Y.ec hz hf) (by rfl) B.isinstance (by decide +kernel) (pa_cons (pv 3) (pa_cons (pe_bltn (v := .ty "ValueError") (by rfl) Y.vE (by decide +kernel) rfl) pa_nil))))))
          (pss_one (ps_set (i := 2) scRefused.nd rfl (.inl rfl) (pe_and (pv 2) (pe_and (pe_not (pe_callB (call_isE Y.ec hz hf) (by rfl) B.isinstance (by decide +kernel) (pa_cons (pv 3) (pa_cons (pe_glob (v := .ref cC) rfl Y.gC rfl) pa_nil))))
            (pe_one (pe_not (pe_callB (call_isE Y.ec hz hf) (by rfl) B.isinstance (by decide +kernel) (pa_cons (pv 3) (pa_cons (pe_glob (v := .ref cM) rfl Y.gM rfl) pa_nil)))))))))))
    (pss_one (ps_ret (pv 2)))), ?_⟩
  have out : ∀ H', Same H H' → wAs K (.ref cL) 3 (t_suite K cN cC cM) (fun _ _ _ _ => False) { nx := tRet (tVar 2) { nx := fun _ H' => Q .non H', rt := Q }, rt := Q } (.ref cN) none [some (.ref pa), some (.ref ah), some (.bl false), none] H' := fun H' s1 =>
    ⟨true, Y.te, fun _ a ha => ⟨⟨rfl, rfl⟩, ⟨_, rfl, _, _, true, rfl, fun u h => h, Y.kN, true, rfl, iteT ⟨_, rfl, _, _, true, rfl, fun u h => h, Y.kV,
      _, rfl, true, rfl, iteT ⟨_, rfl, _, _, false, rfl, fun u h => h, Y.kC, false, rfl, true, rfl, iteT ⟨_, rfl, _, _, false, rfl, fun u h => h, Y.kM, false, rfl, _, rfl, q _ s1⟩⟩⟩⟩⟩, fun z => Bool.noConfusion z⟩
  refine ⟨_, rfl, _, rfl, pa, ah, us, r, t, rfl, Pg, hah, hus, ?_⟩
  rcases hR with ⟨m, e⟩ | e
  · rw [e]
    exact fun H' s1 => out H' s1
  · rw [e]
    exact fun H' s1 => out H' s1
end
end Lot

/-! law -/
namespace Lot
open PySem L2
abbrev sLaw : Stmt := top 48
theorem RwOk.drw : ∀ {r : Rws}, RwOk r → ∀ sd ∈ drw r, SdOk sd
  | .nil, _, _, m => absurd m List.not_mem_nil
  | .draw x sd r, h, s, m => by
    rcases List.mem_cons.mp m with rfl | m
    · exact h.1
    · exact RwOk.drw h.2 s m
  | .sset x t r, h, s, m => RwOk.drw (r := r) h.2.2 s m
  | .see t r, h, s, m => RwOk.drw (r := r) h.2.2 s m
  | .ite t a b r, h, s, m => by
    have m : s ∈ Lot.drw a ++ Lot.drw b ++ Lot.drw r := m
    rcases List.mem_append.mp m with m | m
    · rcases List.mem_append.mp m with m | m
      · exact RwOk.drw h.2.2.1 s m
      · exact RwOk.drw h.2.2.2.1 s m
    · exact RwOk.drw h.2.2.2.2 s m
  | .rep n a r, h, s, m => by
    have m : s ∈ (List.replicate n (Lot.drw a)).flatten ++ Lot.drw r := m
    rcases List.mem_append.mp m with m | m
    · obtain ⟨l, h1, h2⟩ := List.mem_flatten.mp m
      rw [(List.mem_replicate.mp h1).2] at h2
      exact RwOk.drw h.2.1 s h2
    · exact RwOk.drw h.2.2 s m
theorem pad_len {ds : List Sds} {o : List (Option Int)} (h : o.length ≤ ds.length) : (pad ds o).length = ds.length := by
  unfold pad nones
  rw [List.length_append, List.length_replicate]; omega
theorem cnt_pad {ds : List Sds} {o : List (Option Int)} (h : o.length ≤ ds.length) : cnt ds (pad ds o) = cnt ds o := by
  have e : ds = ds.take o.length ++ ds.drop o.length := (List.take_append_drop _ _).symm
  have l : o.length = (ds.take o.length).length := by rw [List.length_take]; omega
  unfold pad
  generalize ds.length - o.length = n
  rw [e, cnt_app _ _ _ _ l, cnt_nones, List.append_nil, cnt_more _ _ _ (Nat.le_of_eq l)]
theorem used_step {P : List (Option Int)} {i : Nat} {x : Option Int} (h : P[i]? = some x) : used (P.take (i + 1)) = used (P.take i) ++ used [x] := by
  rw [List.take_add_one, h, used_app]; rfl
theorem cnt_step {ds : List Sds} {P : List (Option Int)} {i : Nat} {x : Option Int} {d : Sds} (h : P[i]? = some x) (k : ds[i]? = some d) :
    cnt (ds.take (i + 1)) (P.take (i + 1)) = cnt (ds.take i) (P.take i) ++ cnt [d] [x] := by
  have h1 := (List.getElem?_eq_some_iff.mp h).1
  have h2 := (List.getElem?_eq_some_iff.mp k).1
  rw [List.take_add_one, List.take_add_one, h, k]
  exact cnt_app _ _ _ _ (by rw [List.length_take, List.length_take]; omega)
theorem told_thru {cN : Addr} {H : Hp} {r : Rws} {W : Way} {Q : VK} {E : XK} {rest : List Int} (ft : Fits (drw r) (ugo r fun _ => 0) W)
    (q : ∀ H' p, Same H H' → H p = none → H' p = some (.lst ((pad (drw r) W.out).map ov)) → Q (.ref p) H') : Told cN H (drw r) Q E (ugo r (fun _ => 0) (used W.out ++ rest)) := by
  rw [ft.thru rest]
  cases W.ok
  · exact q
  · exact q
theorem told_thru0 {cN : Addr} {H : Hp} {r : Rws} {W : Way} {Q : VK} {E : XK} (ft : Fits (drw r) (ugo r fun _ => 0) W)
    (q : ∀ H' p, Same H H' → H p = none → H' p = some (.lst ((pad (drw r) W.out).map ov)) → Q (.ref p) H') : Told cN H (drw r) Q E (ugo r (fun _ => 0) (used W.out)) := by
  have z := told_thru (cN := cN) (E := E) (rest := []) ft q
  rw [List.append_nil] at z
  exact z
theorem wrong_no {r : Rws} {W : Way} {ws : List Int} (ft : Fits (drw r) (ugo r fun _ => 0) W) (h : Wrong (used W.out) (cnt (drw r) W.out) ws) :
    (∃ m, ugo r (fun _ => 0) ws = .opn m) ∨ ugo r (fun _ => 0) ws = .bad := by
  rcases h with ⟨hn, rfl⟩ | ⟨n, x, hn, rfl, hx⟩
  · refine .inl ?_
    rw [List.dropLast_eq_take]
    refine ft.open_ _ ?_
    have : 0 < (used W.out).length := List.length_pos_iff.mpr hn
    omega
  · exact .inr (ft.bad n x _ hn hx)
section
variable {P : Program} {w : World} {K : PySem.W.Frag} {mg : Str → Option Value} {base : Heap}
def spLaw (K : PySem.W.Frag) : Sp := fun vs H Q _ => ∃ (a : Addr) (ns : List Int), vs = [.ref a] ∧ SqL K H a (ns.map V.int) ∧ ns.length ≤ 63 ∧ ∀ H', Q (.bl true) H'
abbrev nLaw : List Str := ["script","names","program","draws","far","sides","k","cell","due","used","counts","more","found","wrong","side"]
def rLenK (K : PySem.W.Frag) : List V → Hp → VK → Prop := fun xs H Q => ∃ p ys, xs = [.ref p] ∧ (SqL K H p ys ∨ SqT K H p ys) ∧ Q (.int ys.length) H
theorem scLaw : FnScope nLaw ["script"] (defScope sLaw) := ⟨rfl, rfl, rfl, by decide +kernel, rfl, by decide +kernel, by decide +kernel⟩
theorem ok_law {f cN : Addr} {fd : FuncData} (D : Df K mg "law" sLaw ["script"] f fd) (B : Bl mg)
    (G_law_cell : Cal P w K mg base CX0 1 "_law_cell" ["script", "k"] (spCell K)) (G_law_names : Cal P w K mg base CX0 1 "_law_names" ["cell"] spNames) (G_law_rows : Cal P w K mg base CX0 5 "_law_rows" ["cells", "names", "most", "sees"] (spBuild K))
    (G_law_term : Cal P w K mg base CX0 3 "_law_term" ["number", "names"] spTerm) (G_law_draws : Cal P w K mg base CX0 6 "_law_draws" ["rows"] (spLDraws 6)) (G_law_go : Cal P w K mg base CX0 11 "_law_go" ["rows", "room", "sides", "met"] (spLGo 6))
    (G_met_sides : Cal P w K mg base (L2.CX P w) 22 "met_sides" ["program", "sides"] (spMetS cN)) (G_law_list : Cal P w K mg base CX0 3 "_law_list" ["found", "due"] spList) (G_law_wrong : Cal P w K mg base CX0 1 "_law_wrong" ["used", "counts", "cell"] spWrong)
    (G_law_refused : Cal P w K mg base CX0 23 "_law_refused" ["program", "sides"] spRefused) : FnOk P w K mg base CX0 24 f fd ["script"] (spLaw K) := by
  refine D.fn.ok scLaw (fun vs H Q E h => ?_) (fun cdv A outer s H vs Q E hr h => ?_)
  · obtain ⟨a, ns, rfl, _⟩ := h
    rfl
  obtain ⟨a, ns, rfl, hS, hns, q⟩ := h
  have hr1 : Room 1 _ := hr.mono (by decide)
  have hr3 : Room 3 _ := hr.mono (by decide)
  have hr5 : Room 5 _ := hr.mono (by decide)
  have hr6 : Room 6 _ := hr.mono (by decide)
  have hr11 : Room 11 _ := hr.mono (by decide)
  have hr22 : Room 22 _ := hr.mono (by decide)
  refine ⟨_, (pss_cons (ps_set (i := 1) scLaw.nd rfl (.inl rfl) (pe_cal G_law_names hr1 rfl pass0 (pa_cons (pe_cal G_law_cell hr1 rfl pass0 (pa_cons (pv 0) (pa_cons pe_int pa_nil))) pa_nil)))
    (pss_cons (ps_set (i := 2) scLaw.nd rfl (.inl rfl) (pe_tup (pa_cons (pe_cal G_law_rows hr5 rfl pass0 (pa_cons (pe_slice sl_list (pv 0) (po_some pe_int) po_none) (pa_cons (pv 1) (pa_cons (pe_op op_pow pe_int pe_int) (pa_cons pe_int pa_nil))))) (pa_cons (pe_cal G_law_term hr3 rfl pass0 (pa_cons (pe_cal G_law_cell hr1 rfl pass0 (pa_cons (pv 0) (pa_cons pe_int pa_nil))) (pa_cons (pv 1) pa_nil))) pa_nil))))
    (pss_cons (ps_set (i := 3) scLaw.nd rfl (.inr rfl) (pe_cal G_law_draws hr6 rfl pass0 (pa_cons (pe_ix ix_tup (pv 2) pe_int (fun _ _ => rfl)) pa_nil)))
    (pss_cons (ps_for PassesOwn.never rfl (pi_range1 (by rfl) B.range (pa_cons pe_int pa_nil)) (pg_name (i := 4) scLaw.nd rfl (.inl rfl))
      (pss_cons (ps_set (i := 5) scLaw.nd rfl (.inl rfl) (pe_lst pa_nil))
      (pss_cons (ps_for PassesOwn.never rfl (pi_range1 (by rfl) B.range (pa_cons (pe_callB call_len_seq (by rfl) B.len PySem.boot_len (pa_cons (pv 3) pa_nil)) pa_nil)) (pg_name (i := 6) scLaw.nd rfl (.inl rfl))
        (pss_cons (ps_set (i := 7) scLaw.nd rfl (.inl rfl) (pe_ix ix_list (pv 0) (pe_op op_modN (pe_op op_add (pv 6) (pv 4)) (pe_callB call_len_seq (by rfl) B.len PySem.boot_len (pa_cons (pv 0) pa_nil))) (fun _ _ => rfl)))
        (pss_one (ps_expr (pe_bm PySem.F.plainAttrs_list PySem.F.slot_list_append PySem.F.type_list_append mt_append (pv 5) (pa_cons (pe_op op_modN (pe_op op_fdivN (pv 7) (pe_op op_add pe_int (pe_op op_mul pe_int (pv 4)))) (pe_callB call_len_seq (by rfl) B.len PySem.boot_len (pa_cons (pe_ix ix_list (pv 3) (pv 6) (fun _ _ => rfl)) pa_nil))) pa_nil))))))
      (pss_cons (ps_set (i := 8) scLaw.nd rfl (.inr rfl) (pe_lst pa_nil))
      (pss_cons (ps_expr (pe_cal G_law_go hr11 rfl pass0 (pa_cons (pe_ix ix_tup (pv 2) pe_int (fun _ _ => rfl)) (pa_cons pe_dnewK (pa_cons (pv 5) (pa_cons (pv 8) pa_nil))))))
      (pss_cons (ps_set (i := 8) scLaw.nd rfl (.inr rfl) (pe_op op_cat (pv 8) (pe_op op_rep (pe_lst (pa_cons pe_non pa_nil)) (pe_op op_sub (pe_callB call_len_seq (by rfl) B.len PySem.boot_len (pa_cons (pv 3) pa_nil)) (pe_callB call_len_seq (by rfl) B.len PySem.boot_len (pa_cons (pv 8) pa_nil))))))
      (pss_cons (ps_set (i := 9) scLaw.nd rfl (.inl rfl) (pe_callTy call_tuple_of (by rfl) B.tuple (by decide +kernel) (pa_cons (pe_lc (own := [("side", 14)]) (g := gName 14) (tt := tB (tNotN (tVar 14))) rfl scLaw.nd (pi_list (pv 8)) (blkOk_by (own := [("side", 14)]) (N := nLaw) (sc := defScope sLaw) (by decide +kernel)) (fun _ _ _ _ _ => pg_name (i := 14) scLaw.nd rfl (Or.inl rfl)) (fun _ _ _ _ _ => pts_one (pt_cmp (pc_notN (pv 14)))) (fun _ _ _ _ _ => pv 14)) pa_nil)))
      (pss_cons (ps_setLc (i := 10) (own := [("k", 6)]) (g := gName 6) (tt := tB (tNotN (tOp (rIxL K) (tVar 8) (tVar 6)))) (te := tCB (rLenK K) (tCons (tOp (rIxL K) (tVar 3) (tVar 6)) tNil)) rfl scLaw.nd rfl rfl (sw_true rfl rfl (by decide +kernel) (by decide +kernel)) (pi_range1 (by rfl) B.range (pa_cons (pe_callB call_len_seq (by rfl) B.len PySem.boot_len (pa_cons (pv 3) pa_nil)) pa_nil)) (blkOk_by (own := [("k", 6)]) (N := nLaw) (sc := defScope sLaw) (by decide +kernel)) (fun _ _ _ _ _ => pg_name (i := 6) scLaw.nd rfl (Or.inl rfl)) (fun _ _ _ _ _ => pts_one (pt_cmp (pc_notN (pe_ix ix_list (pv 8) (pv 6) (fun _ _ => rfl))))) (fun _ _ _ _ _ => pe_callB call_len_seq (by rfl) B.len PySem.boot_len (pa_cons (pe_ix ix_list (pv 3) (pv 6) (fun _ _ => rfl)) pa_nil)))
      (pss_cons (ps_set (i := 11) scLaw.nd rfl (.inl rfl) (pe_slice sl_tupS (pe_tup (pa_cons pe_int (pa_cons (pe_un un_neg pe_int) (pa_cons pe_int pa_nil)))) po_none (po_some (pe_op op_mod (pe_cal G_law_cell hr1 rfl pass0 (pa_cons (pv 0) (pa_cons pe_int pa_nil))) pe_int))))
      (pss_cons (ps_set (i := 12) scLaw.nd rfl (.inl rfl) (pe_cal G_met_sides hr22 rfl passL (pa_cons (pv 2) (pa_cons (pe_op op_catS (pv 9) (pv 11)) pa_nil))))
      (pss_cons (ps_if (pt_not (pt_val (pe_cal G_law_list hr3 rfl pass0 (pa_cons (pv 12) (pa_cons (pv 8) pa_nil)))))
        (pss_one (ps_ret pe_bl))
        pss_nil)
      (pss_cons (ps_expr (pe_bm0 PySem.F.plainAttrs_list PySem.F.slot_list_clear PySem.F.type_list_clear mt_clear (pv 12)))
      (pss_cons (ps_for PassesOwn.never rfl (pi_list (pe_cal G_law_wrong hr1 rfl pass0 (pa_cons (pv 9) (pa_cons (pv 10) (pa_cons (pe_cal G_law_cell hr1 rfl pass0 (pa_cons (pv 0) (pa_cons (pv 4) pa_nil))) pa_nil))))) (pg_name (i := 13) scLaw.nd rfl (.inl rfl))
        (pss_one (ps_if (pt_not (pt_val (pe_cal G_law_refused hr rfl pass0 (pa_cons (pv 2) (pa_cons (pv 13) pa_nil)))))
          (pss_one (ps_ret pe_bl))
          pss_nil)))
      (pss_one (ps_if (pt_not (pt_val (pe_cal G_law_list hr3 rfl pass0 (pa_cons (pe_cal G_met_sides hr22 rfl passL (pa_cons (pv 2) (pa_cons (pv 9) pa_nil))) (pa_cons (pv 8) pa_nil)))))
        (pss_one (ps_ret pe_bl))
        pss_nil)))))))))))))))
    (pss_one (ps_ret pe_bl)))))), ?_⟩
  -- names
  refine ⟨_, rfl, a, ns, 0, rfl, hS, fun c0 => ⟨c0, rfl, fun H1 na s1 hN => ?_⟩⟩
  -- program
  refine ⟨_, rfl, _, rfl, a, _, rfl, s1.seq hS, fun p2 n2 => ?_⟩
  have s2 := s1.trans (same_new n2 (.lst (cutV (ns.map V.int) (some 2) none)))
  have e2 : cutV (ns.map V.int) (some 2) none = (ns.drop 2).map V.int := by
    rw [List.map_drop]
    exact cut_drop _ 2
  refine ⟨_, rfl, _, _, rfl, rfl, ⟨by decide, by decide, by decide⟩, p2, na, ns.drop 2, _, _, rfl, ?_, ?_, ?_, ?_, ?_, fun H3 pr vs0 r s3 h3 hR ok hlv hwl hnil => ?_⟩
  · rw [← e2]; exact SqL.of upd_same
  · rw [List.length_drop]; omega
  · exact hN.same (same_new n2 _)
  · show (1 : Int) ≤ 10 ^ (9 : Int).toNat
    decide
  · show (10 : Int) ^ (9 : Int).toNat ≤ 1000000000
    decide
  have s3' := s2.trans s3
  refine ⟨_, rfl, a, ns, 1, rfl, s3'.seq hS, fun c1 => ⟨_, rfl, c1, na, rfl, hN.same ((same_new n2 _).trans s3), fun H4 tv t s4 hT okt dpt => ⟨?_, fun pa na' => ?_⟩⟩⟩
  · show 2 ≤ sizeLine
    decide
  have s5 := same_new na' (.tup [.ref pr, tv])
  -- draws
  refine ⟨_, rfl, pa, _, _, _, rfl, rfl, SqT.of upd_same, rfl, pr, vs0, r, rfl, s5 _ _ (s4 _ _ h3), hR.keep (Kp.of (s4.trans s5)), ok, by omega, by omega, fun Hb dr ds s6 ndr hdr hds => ?_⟩
  have sb := s3'.trans (s4.trans (s5.trans s6))
  have Pg : PgAt Hb pa r t := ⟨⟨pr, tv, vs0, s6 _ _ upd_same, s6 _ _ (s5 _ _ (s4 _ _ h3)), hR.keep (Kp.of (s4.trans (s5.trans s6))), hT.keep (Kp.of (s5.trans s6))⟩, ok, by omega, by omega, okt, dpt⟩
  have hSb := sb.seq hS
  have hprb : Hb pr = some (.tup vs0) := s6 _ _ (s5 _ _ (s4 _ _ h3))
  have hpab : Hb pa = some (.tup [.ref pr, tv]) := s6 _ _ upd_same
  clear s1 s2 e2 s3 s3' s4 s5 s6 ndr n2 na' h3 hT hN hS sb
  have hRb : RwsAt Hb vs0 r := by
    obtain ⟨pr', tv', vs', g1, g2, g3, _⟩ := Pg.ex
    cases hpab.symm.trans g1
    cases hprb.symm.trans g2
    exact g3
  have q' : ∀ H', Q (V.bl true) H' := q
  refine ⟨4, rfl, by decide, by decide, ?_⟩
  refine for_range (n := (4 : Int).toNat) (fun i σ H' => Same Hb H' ∧ ∃ o4 o5 o6 o7 o8 o9 o10 o11 o12 o13 o14, σ = [some (.ref a), some (.ref na), some (.ref pa), some (.ref dr), o4, o5, o6, o7, o8, o9, o10, o11, o12, o13, o14])
    ⟨Same.refl _, _, _, _, _, _, _, _, _, _, _, _, rfl⟩ ?_ ?_
  · rintro i σ H0 hi ⟨sH0, o4, o5, o6, o7, o8, o9, o10, o11, o12, o13, o14, rfl⟩
    obtain ⟨_, hds⟩ : True ∧ DsAt Hb ds (drw r) := ⟨trivial, hds⟩
    have hl := hds.1
    have hnd : (drw r).length ≤ wl r := nd_wl r
    have hS0 := sH0.seq hSb
    have hd0 := sH0 _ _ hdr
    -- sides = []
    refine ⟨Nat.zero_le _, fun S nS => ?_⟩
    have sS := same_new nS (.lst [])
    refine ⟨_, rfl, dr, ds, rfl, .inl (SqL.of (sS _ _ hd0)), (ds.length : Int), rfl, by omega, by omega, ?_⟩
    refine for_range (n := (ds.length : Int).toNat) (fun k σ H' => ∃ (o6 o7 : Option V) (ss : List Int), σ = [some (.ref a), some (.ref na), some (.ref pa), some (.ref dr), some (.int (0 + (i : Int))), some (.ref S), o6, o7, o8, o9, o10, o11, o12, o13, o14] ∧
        Same H0 H' ∧ H' S = some (.lst (ss.map V.int)) ∧ ss.length = k ∧ ∀ (j : Nat) (d : Sds), j < k → (drw r)[j]? = some d → 0 ≤ ss.getD j 0 ∧ ss.getD j 0 < (d.length : Int))
      ⟨_, _, [], rfl, sS, upd_same, rfl, fun j d h => absurd h (Nat.not_lt_zero _)⟩ ?_ ?_
    · clear o6 o7 sS
      rintro k σ H' hk ⟨o6, o7, ss, rfl, s1, hs1, hl1, hin⟩
      have hk' : k < (drw r).length := by omega
      have hSk := s1.seq hS0
      have hne : 0 < ns.length := by
        rcases Nat.eq_zero_or_pos ns.length with z | z
        · have e := List.length_eq_zero_iff.mp z
          have := hnil (by rw [e]; rfl)
          omega
        · exact z
      have hdk : (drw r)[k]? = some (drw r)[k] := List.getElem?_eq_getElem hk'
      obtain ⟨v, ev, qa, qv, rfl, hq, hsv⟩ := hds.2 k _ hdk
      have hq' := s1 _ _ (sH0 _ _ hq)
      have okd : SdOk (drw r)[k] := ok.drw _ (List.getElem_mem hk')
      have lq := hsv.1
      have lpos := okd.1
      -- cell
      obtain ⟨n, en, hn⟩ : ∃ n : Nat, Int.fmod (0 + (k : Int) + (0 + (i : Int))) (((ns.map V.int).length : Nat) : Int) = (n : Int) ∧ n < ns.length := by
        rw [List.length_map, Int.fmod_eq_emod_of_nonneg _ (Int.natCast_nonneg _)]
        have h1 := Int.emod_nonneg (0 + (k : Int) + (0 + (i : Int))) (show (ns.length : Int) ≠ 0 by omega)
        have h2 := Int.emod_lt_of_pos (0 + (k : Int) + (0 + (i : Int))) (show (0 : Int) < (ns.length : Int) by omega)
        exact ⟨((0 + (k : Int) + (0 + (i : Int))) % (ns.length : Int)).toNat, by omega, by omega⟩
      refine ⟨_, rfl, _, rfl, _, rfl, _, _, rfl, rfl, _, rfl, a, _, rfl, .inl hSk, _, _, rfl, rfl, (by rw [List.length_map]; omega), a, _, _, _, rfl, rfl, hSk, (by
        show atI _ (Int.fmod (0 + (k : Int) + (0 + (i : Int))) (((ns.map V.int).length : Nat) : Int)) = _
        rw [en]
        exact item_map hn), ?_⟩
      -- the side
      have hi4 : i < 4 := hi
      refine ⟨_, rfl, .inl ⟨rfl, _, SqL.of hs1⟩, _, rfl, _, rfl, _, _, rfl, rfl, .inl ⟨by decide, by decide⟩, _, _, rfl, rfl, _, _, rfl, rfl, ⟨by omega, by omega⟩, _, rfl, _, rfl, dr, _, _, _, rfl, rfl, SqL.of (s1 _ _ hd0), (by
        rw [Int.zero_add]
        exact atI_nat ev), qa, qv, rfl, .inr (SqT.of hq'), _, _, rfl, rfl, (by omega), S, _, _, rfl, rfl, hs1, small1000 (by rw [List.length_map]; omega), ?_⟩
      obtain ⟨z, ez⟩ : ∃ z : Int, Int.fmod (Int.fdiv ns[n] (1 + 2 * (0 + (i : Int)))) ((qv.length : Nat) : Int) = z := ⟨_, rfl⟩
      have hz : 0 ≤ z ∧ z < (qv.length : Int) := by
        rw [← ez, Int.fmod_eq_emod_of_nonneg _ (Int.natCast_nonneg _)]
        exact ⟨Int.emod_nonneg _ (by omega), Int.emod_lt_of_pos _ (by omega)⟩
      refine ⟨_, _, ss ++ [z], rfl, (by exact fun b o e => by rw [upd_ne (ne_of_none e nS)]; exact s1 _ _ e), ?_, by rw [List.length_append, hl1]; rfl, fun j d hj e => ?_⟩
      · rw [upd_same, List.map_append, ← ez]
        rfl
      · by_cases c : j < k
        · have := hin j d c e
          rw [List.getD_eq_getElem?_getD, List.getElem?_append_left (by omega), ← List.getD_eq_getElem?_getD]
          exact this
        · have ej : j = k := by omega
          subst ej
          rw [hdk] at e
          cases (Option.some.inj e)
          rw [List.getD_eq_getElem?_getD, List.getElem?_append_right (by omega), hl1, Nat.sub_self]
          show 0 ≤ z ∧ z < _
          omega
    · clear o6 o7 sS
      rintro σ H1 ⟨o6, o7, ss, rfl, s1, hs1, hl1, hin⟩
      rw [Int.toNat_natCast] at hl1 hin
      have hi4 : i < 4 := hi
      have hd1 := s1 _ _ hd0
      have sb1 : Same Hb H1 := sH0.trans s1
      have hsd : Sided ss 0 (drw r) := fun j d e => by
        rw [Nat.zero_add]
        exact hin j d (by have := (List.getElem?_eq_some_iff.mp e).1; omega) e
      have ft := fits ss r (fun _ => 0) 0 hsd
      obtain ⟨W, eW⟩ : ∃ W, lgo ss r (fun _ => 0) 0 = W := ⟨_, rfl⟩
      rw [eW] at ft
      have ole := ft.le
      -- due = []
      refine ⟨Nat.zero_le _, fun du ndu => ?_⟩
      have sdu := same_new ndu (.lst [])
      refine ⟨_, rfl, pa, _, _, _, rfl, rfl, SqT.of (sdu _ _ (sb1 _ _ hpab)), rfl, ?_⟩
      intro ra nra
      have nrd : ra ≠ du := (ne_of_none upd_same nra).symm
      have ora : H1 ra = none := by rw [upd_ne nrd] at nra; exact nra
      refine ⟨_, rfl, _, rfl, H1, pr, ra, S, du, vs0, r, fun _ => 0, ss, [], 0, 900, rfl, sb1 _ _ hprb, hRb.keep (Kp.of sb1), ok, by omega, RmB.zero, hs1, hsd, (by show 0 + (drw r).length ≤ ss.length; omega),
        ⟨[], ⟨same_own (same_own (Same.refl H1) ndu) ora, ora, ndu, upd_same, by rw [upd_ne nrd.symm]; exact upd_same⟩, RmIs.nil, Nat.le_refl _, Nat.le_refl _⟩, by omega, Nat.le_refl _, ?_⟩
      rw [show lgo ss r (fun _ => 0) ([] : List (Option Int)).length = W from eW]
      rintro H2 ⟨_, ⟨s2, _, _, _, h2⟩, _, _, _⟩
      rw [List.nil_append] at h2
      generalize eo : W.out = o at ole h2
      have sb2 := sb1.trans s2
      have hP := pad_len ole
      -- due padded
      refine ⟨_, rfl, (by show 1 ≤ sizeLine; decide), fun p1 n1 => ?_⟩
      have s3 := same_new n1 (.lst [.non])
      refine ⟨_, rfl, dr, _, rfl, .inl (SqL.of (s3 _ _ (s2 _ _ hd1))), _, rfl, du, _, rfl, .inl (SqL.of (s3 _ _ h2)), _, _, rfl, rfl, p1, _, [.non], rfl, rfl, upd_same, by rw [List.length_map]; omega, by rw [List.length_map]; omega, ?_, fun p2 n2 => ?_⟩
      · show 1 * ((ds.length : Int) - ((o.map ov).length : Int)).toNat ≤ sizeLine
        exact size1000 (by omega)
      have s4 := same_new n2 (.lst (List.replicate ((ds.length : Int) - ((o.map ov).length : Int)).toNat [V.non]).flatten)
      refine ⟨du, p2, _, _, rfl, rfl, s4 _ _ (s3 _ _ h2), upd_same, ?_, fun p3 n3 => ?_⟩
      · rw [flat_non, List.length_map, List.length_replicate]
        exact size1000 (by omega)
      have epad : o.map ov ++ (List.replicate ((ds.length : Int) - ((o.map ov).length : Int)).toNat [V.non]).flatten = (pad (drw r) o).map ov := by
        unfold pad
        rw [List.map_append, flat_non, ov_nones, List.length_map]
        congr 1
        congr 1
        omega
      have s5 := same_new n3 (.lst (o.map ov ++ (List.replicate ((ds.length : Int) - ((o.map ov).length : Int)).toNat [V.non]).flatten))
      have h5 : (upd (upd (upd H2 p1 (.lst [V.non])) p2 (.lst (List.replicate ((ds.length : Int) - ((o.map ov).length : Int)).toNat [V.non]).flatten)) p3 (.lst (o.map ov ++ (List.replicate ((ds.length : Int) - ((o.map ov).length : Int)).toNat [V.non]).flatten))) p3 = some (.lst ((pad (drw r) o).map ov)) := by
        rw [upd_same, epad]
      have sb5 := sb2.trans (s3.trans (s4.trans s5))
      generalize (upd (upd (upd H2 p1 (.lst [V.non])) p2 (.lst (List.replicate ((ds.length : Int) - ((o.map ov).length : Int)).toNat [V.non]).flatten)) p3 (.lst (o.map ov ++ (List.replicate ((ds.length : Int) - ((o.map ov).length : Int)).toNat [V.non]).flatten))) = H5 at h5 sb5
      clear s3 s4 s5 n1 n2 n3 epad s2 h2 sb2 nra ora nrd sdu ndu hd1 sb1 hs1 s1
      obtain ⟨P, eP⟩ : ∃ P, pad (drw r) o = P := ⟨_, rfl⟩
      have eU : used P = used o := by rw [← eP]; exact used_pad _ _
      have eC : cnt (drw r) P = cnt (drw r) o := by rw [← eP]; exact cnt_pad ole
      have lU : (used o).length ≤ o.length := List.length_filterMap_le _ _
      rw [eP] at h5 hP
      -- used
      refine ⟨_, rfl, p3, rfl, ⟨_, SqL.of h5⟩, fun L nL => ?_⟩
      refine lc_list (K := K) (a := p3) (xs := P.map ov) (fun j H => Same H5 H ∧ H L = some (.lst ((used (P.take j)).map V.int))) ⟨same_new nL _, upd_same⟩ (fun j H _ h => SqL.of (h.1 _ _ h5)) ?_ ?_
      · rintro j x H hx ⟨g1, g2⟩
        rw [List.getElem?_map] at hx
        obtain ⟨y, ey, hxy⟩ := Option.map_eq_some_iff.mp hx
        subst hxy
        have hj := (List.getElem?_eq_some_iff.mp ey).1
        refine ⟨rfl, _, rfl, _, rfl, ?_⟩
        cases y with
        | none => exact ifF rfl ⟨g1, by rw [used_step ey, g2]; show _ = some (HO.lst ((used (P.take j) ++ []).map V.int)); rw [List.append_nil]⟩
        | some z => exact ifT rfl ⟨_, rfl, _, g2, small1000 (by rw [List.length_map]; have : (used (P.take j)).length ≤ (P.take j).length := List.length_filterMap_le _ _; rw [List.length_take] at this; omega),
            fun b o e => by rw [upd_ne (ne_of_none e nL)]; exact g1 _ _ e, by rw [upd_same, used_step ey, List.map_append]; rfl⟩
      rintro H6 ⟨s6, h6⟩
      rw [List.length_map, List.take_length, eU] at h6
      refine ⟨L, _, rfl, .inl ⟨SqL.of h6, fun T nT => ?_⟩⟩
      have s7 := s6.trans (same_new nT (.tup ((used o).map V.int)))
      have h7 : (upd H6 T (.tup ((used o).map V.int))) T = some (.tup ((used o).map V.int)) := upd_same
      generalize (upd H6 T (.tup ((used o).map V.int))) = H7 at s7 h7
      clear s6 h6 nT
      have sb7 := sb5.trans s7
      have hd7 := sb7 _ _ hdr
      -- counts
      refine ⟨_, rfl, dr, ds, rfl, .inl (SqL.of hd7), (ds.length : Int), rfl, by omega, by omega, fun L2 nL2 => ?_⟩
      refine lc_range (lo := 0) (n := (ds.length : Int).toNat) (fun j H => Same H7 H ∧ H L2 = some (.lst ((cnt ((drw r).take j) (P.take j)).map fun (c : Nat) => V.int (c : Int)))) ⟨same_new nL2 _, upd_same⟩ ?_ ?_
      · rintro j H hj ⟨g1, g2⟩
        have hj' : j < (drw r).length := by omega
        have hjP : j < P.length := by omega
        have edj : (drw r)[j]? = some (drw r)[j] := List.getElem?_eq_getElem hj'
        have ePj : P[j]? = some P[j] := List.getElem?_eq_getElem hjP
        obtain ⟨v, ev, qa, qv, rfl, hq, hsv⟩ := hds.2 j _ edj
        have sH := sb7.trans g1
        have lcn : (cnt ((drw r).take j) (P.take j)).length ≤ 66 := by
          rw [cnt_len _ _ (by rw [List.length_take, List.length_take]; omega)]
          have : (used (P.take j)).length ≤ (P.take j).length := List.length_filterMap_le _ _
          rw [List.length_take] at this
          omega
        refine ⟨rfl, _, rfl, _, rfl, p3, _, _, _, rfl, rfl, SqL.of (g1 _ _ (s7 _ _ h5)), (by rw [Int.zero_add]; exact atI_nat (by rw [List.getElem?_map, ePj]; rfl)), _, rfl, ?_⟩
        cases ey : P[j] with
        | none =>
          rw [ey] at ePj
          exact ifF rfl ⟨g1, by rw [cnt_step ePj edj, g2]; show _ = some (HO.lst ((cnt ((drw r).take j) (P.take j) ++ []).map fun (c : Nat) => V.int (c : Int))); rw [List.append_nil]⟩
        | some z =>
          rw [ey] at ePj
          refine ifT rfl ⟨_, rfl, _, rfl, dr, _, _, _, rfl, rfl, SqL.of (sH _ _ hdr), (by rw [Int.zero_add]; exact atI_nat ev), qa, qv, rfl, .inr (SqT.of (sH _ _ hq)), _, g2, small1000 (by rw [List.length_map]; omega),
            fun b o e => by rw [upd_ne (ne_of_none e nL2)]; exact g1 _ _ e, ?_⟩
          rw [upd_same, cnt_step ePj edj, List.map_append, hsv.1]
          rfl
      rintro H8 ⟨s8, h8⟩
      rw [Int.toNat_natCast, hl, List.take_length, ← hP, List.take_length, eC] at h8
      have sb8 := sb7.trans s8
      have h5' := s8 _ _ (s7 _ _ h5)
      have h7' := s8 _ _ h7
      -- more
      refine ⟨_, rfl, (by show 3 ≤ sizeLine; decide), fun pt npt => ?_⟩
      have s9 := same_new npt (.tup [.int 7, .int (-1), .int 0])
      refine ⟨_, rfl, a, ns, 1, rfl, (sb8.trans s9).seq hSb, fun c2 => ⟨_, _, rfl, rfl, (by show (0 : Int) < 4; decide), _, rfl, pt, _, rfl, upd_same, fun H9 pm s10 hpm => ?_⟩⟩
      have h2a := Int.emod_nonneg c2 (show (4 : Int) ≠ 0 by decide)
      obtain ⟨m, em⟩ : ∃ m : Nat, c2 % 4 = (m : Int) := ⟨(c2 % 4).toNat, by omega⟩
      have erest : cutV [V.int 7, .int (-1), .int 0] none (some (c2 % 4)) = (([7, -1, 0] : List Int).take m).map V.int := by
        rw [em, cut_take, List.map_take]
        rfl
      rw [erest] at hpm
      have lrest : (([7, -1, 0] : List Int).take m).length ≤ 3 := by
        rw [List.length_take]
        exact Nat.min_le_right _ _
      generalize (([7, -1, 0] : List Int).take m) = rest at hpm lrest
      have s89 := s9.trans s10
      have sb9 := sb8.trans s89
      have h5a := s89 _ _ h5'
      have h7a := s89 _ _ h7'
      have h8a := s89 _ _ h8
      clear erest em s9 s10 s89 npt h5' h7' h8 sb8 s8 s7 sb7 hd7 h5 sb5 h7 nL nL2
      -- found
      have hlU : (used o).length + rest.length ≤ 900 := by omega
      refine ⟨_, rfl, _, rfl, _, rfl, T, pm, _, _, rfl, rfl, h7a, hpm, size1000 (by rw [List.length_map, List.length_map]; omega), fun H10 pu s10 hpu => ?_⟩
      rw [← List.map_append] at hpu
      have sb10 := sb9.trans s10
      refine ⟨pa, pu, used o ++ rest, r, t, rfl, Pg.keep (Kp.of sb10), hpu, by rw [List.length_append]; omega, ?_⟩
      rw [← eo]
      refine told_thru ft fun H11 fa s11 nfa hfa => ?_
      rw [eo, eP] at hfa
      have s911 := s10.trans s11
      have hPle : P.length ≤ 2000 := by omega
      refine ⟨_, rfl, _, rfl, fa, p3, P, rfl, hfa, s911 _ _ h5a, hPle, fun H12 s12 => ⟨true, rfl, ifF rfl ?_⟩⟩
      -- found.clear()
      have hfa' := s12 _ _ hfa
      have sC : Same H9 (upd H12 fa (.lst [])) := fun b u e => by
        have e10 := s10 _ _ e
        rw [upd_ne (ne_of_none e10 nfa)]
        exact s12 _ _ (s11 _ _ e10)
      refine ⟨_, rfl, .inl ⟨rfl, _, SqL.of hfa'⟩, fa, _, rfl, rfl, hfa', ?_⟩
      generalize (upd H12 fa (.lst [])) = HC at sC
      clear hfa hfa' s12 s911 s11 nfa s10 sb10 hpu
      have sbC := sb9.trans sC
      -- the wrong ones
      refine ⟨_, rfl, _, rfl, _, rfl, _, rfl, a, ns, i, (by rw [Int.zero_add]; rfl), sbC.seq hSb, fun c3 => ⟨T, L2, c3, used o, cnt (drw r) o, rfl, sC _ _ h7a, sC _ _ h8a, cnt_len _ _ ole, by omega, fun Hw wa wv sw hwa lw hw => ⟨wa, rfl, ⟨_, SqL.of hwa⟩, ?_⟩⟩⟩
      have sbw := sbC.trans sw
      have h5w := sw _ _ (sC _ _ h5a)
      have h7w := sw _ _ (sC _ _ h7a)
      refine for_list (K := K) (a := wa) (xs := wv) (fun j σ H' => Same Hw H' ∧ ∃ o13, σ = [some (.ref a), some (.ref na), some (.ref pa), some (.ref dr), some (.int (0 + (i : Int))), some (.ref S), o6, o7, some (.ref p3), some (.ref T), some (.ref L2), some (.ref pm), some (.ref fa), o13, o14]) ⟨Same.refl _, _, rfl⟩ (fun j σ H _ h => SqL.of (h.1 _ _ hwa)) ?_ ?_
      · rintro j x σ H hx ⟨g1, o13', rfl⟩
        obtain ⟨wa', ws, rfl, hws, hW⟩ := hw x (List.mem_of_getElem? hx)
        have lW := hW.len
        rw [← eo] at hW
        exact ⟨_, rfl, _, rfl, pa, wa', ws, r, t, rfl, Pg.keep (Kp.of (sbw.trans g1)), g1 _ _ hws, by omega, wrong_no ft hW, fun H' s => ⟨true, rfl, ifF rfl ⟨g1.trans s, _, rfl⟩⟩⟩
      rintro σ H ⟨g1, o13', rfl⟩
      have sbE := sbw.trans g1
      refine ⟨_, rfl, _, rfl, pa, T, used o, r, t, rfl, Pg.keep (Kp.of sbE), g1 _ _ h7w, by omega, ?_⟩
      rw [← eo]
      refine told_thru0 ft fun H11 fb s11 nfb hfb => ?_
      rw [eo, eP] at hfb
      exact ⟨_, rfl, fb, p3, P, rfl, hfb, s11 _ _ (g1 _ _ h5w), hPle, fun H12 s12 => ⟨true, rfl, ifF rfl ⟨(sbE.trans s11).trans s12, _, _, _, _, _, _, _, _, _, _, _, rfl⟩⟩⟩
  · rintro σ H' ⟨_, o4, o5, o6, o7, o8, o9, o10, o11, o12, o13, o14, rfl⟩
    exact q _
end
end Lot

/-! the end -/
namespace Lot
open PySem L2
theorem kit_self {K : PySem.W.Frag} {a : Addr} : PySem.W.kitOne K (.ref a) (.ref a) = some true := by
  unfold PySem.W.kitOne
  rw [if_pos (beq_self_eq_true _)]
theorem kit_ref {K : PySem.W.Frag} {a c : Addr} {b : Bool} (ne : (Value.ref a == Value.ref c) = false) (hd : PySem.W.hasDictIn K c = true) (ht : PySem.W.typeIn K (.ref c) = some (.type "type")) (hs : PySem.W.subIn K (.ref a) (.ref c) = some b) :
    PySem.W.kitOne K (.ref a) (.ref c) = some b := by
  obtain ⟨cd, hc, _⟩ := PySem.W.any_some hd
  unfold PySem.W.kitOne
  rw [if_neg (by rw [ne]; exact Bool.false_ne_true)]
  have e2 : ((PySem.W.clsIn K c).isSome && PySem.W.typeIn K (.ref c) == some (.type "type")) = true := by rw [hc, ht] <;> rfl
  show (if ((PySem.W.clsIn K c).isSome && PySem.W.typeIn K (.ref c) == some (.type "type")) = true then PySem.W.subIn K (.ref a) (.ref c) else none) = some b
  rw [if_pos e2]
  exact hs
theorem kit_VE {K : PySem.W.Frag} {a : Addr} {b : Bool} (hs : PySem.W.subIn K (.ref a) (.type "ValueError") = some b) : PySem.W.kitOne K (.ref a) (.type "ValueError") = some b := by
  unfold PySem.W.kitOne
  rw [if_neg (show ¬ (Value.ref a == Value.type "ValueError") = true by intro z; cases beq_iff_eq.mp z)]
  have e : PySem.W.kitMeta "ValueError" = true := by decide +kernel
  show (if PySem.W.kitMeta "ValueError" = true then PySem.W.subIn K (.ref a) (.type "ValueError") else none) = some b
  rw [if_pos e]
  exact hs
theorem all_mk {P : Program} {w : World} {K : PySem.W.Frag} {h : Heap} {mg : Str → Option Value} {fa C cN cL cC cM f1 f2 f3 f4 f5 f6 f7 f8 f9 f10 f11 f12 f13 f14 f15 f16 f17 f18 f19 f20 f21 f22 f23 f24 f25 f26 f27 f28 f29 f30 f31 f32 f33 f34 f35 f36 f37 f38 : Addr} {tB : Tok} (X : K.In h) (G : h.Ns mainGlobals mg) (hfa : mg "law" = some (.ref fa))
    {od1 an1 od2 an2 od3 an3 od4 an4 od5 an5 od6 an6 od7 an7 od8 an8 od9 an9 od10 an10 od11 an11 od12 an12 od13 an13 od14 an14 od15 an15 od16 an16 od17 an17 od18 an18 od19 an19 od20 an20 od21 an21 od22 an22 od23 an23 od24 an24 od25 an25 od26 an26 od27 an27 od28 an28 od29 an29 od30 an30 od31 an31 od32 an32 od33 an33 od34 an34 od35 an35 od36 an36 od37 an37 od38 an38 : Option Addr} {sl1 sl2 sl3 sl4 sl5 sl6 sl7 sl8 sl9 sl10 sl11 sl12 sl13 sl14 sl15 sl16 sl17 sl18 sl19 sl20 sl21 sl22 sl23 sl24 sl25 sl26 sl27 sl28 sl29 sl30 sl31 sl32 sl33 sl34 sl35 sl36 sl37 sl38 : Array (Option Value)} {oc1 kV1 dc1 pm1 cd1 ct1 oc2 kV2 dc2 pm2 cd2 ct2 oc3 kV3 dc3 pm3 cd3 ct3 oc4 kV4 dc4 pm4 cd4 ct4 oc5 kV5 dc5 pm5 cd5 ct5 oc6 kV6 dc6 pm6 cd6 ct6 oc7 kV7 dc7 pm7 cd7 ct7 oc8 kV8 dc8 pm8 cd8 ct8 oc9 kV9 dc9 pm9 cd9 ct9 oc10 kV10 dc10 pm10 cd10 ct10 oc11 kV11 dc11 pm11 cd11 ct11 oc12 kV12 dc12 pm12 cd12 ct12 oc13 kV13 dc13 pm13 cd13 ct13 oc14 kV14 dc14 pm14 cd14 ct14 oc15 kV15 dc15 pm15 cd15 ct15 oc16 kV16 dc16 pm16 cd16 ct16 oc17 kV17 dc17 pm17 cd17 ct17 oc18 kV18 dc18 pm18 cd18 ct18 oc19 kV19 dc19 pm19 cd19 ct19 oc20 kV20 dc20 pm20 cd20 ct20 oc21 kV21 dc21 pm21 cd21 ct21 oc22 kV22 dc22 pm22 cd22 ct22 oc23 kV23 dc23 pm23 cd23 ct23 oc24 kV24 dc24 pm24 cd24 ct24 oc25 kV25 dc25 pm25 cd25 ct25 oc26 kV26 dc26 pm26 cd26 ct26 oc27 kV27 dc27 pm27 cd27 ct27 oc28 kV28 dc28 pm28 cd28 ct28 oc29 kV29 dc29 pm29 cd29 ct29 oc30 kV30 dc30 pm30 cd30 ct30 oc31 kV31 dc31 pm31 cd31 ct31 oc32 kV32 dc32 pm32 cd32 ct32 oc33 kV33 dc33 pm33 cd33 ct33 oc34 kV34 dc34 pm34 cd34 ct34 oc35 kV35 dc35 pm35 cd35 ct35 oc36 kV36 dc36 pm36 cd36 ct36 oc37 kV37 dc37 pm37 cd37 ct37 oc38 kV38 dc38 pm38 cd38 ct38 : Value}
    (aW : PySem.W.nsIn K mainGlobals "Walk" = some (some (.ref C)))
    (aN : PySem.W.nsIn K mainGlobals "NoSide" = some (some (.ref cN)))
    (aL : PySem.W.nsIn K mainGlobals "LotError" = some (some (.ref cL)))
    (aC : PySem.W.nsIn K mainGlobals "Crowded" = some (some (.ref cC)))
    (aM : PySem.W.nsIn K mainGlobals "Many" = some (some (.ref cM)))
    (aB : PySem.W.nsIn K mainGlobals "BIG" = some (some (.int big tB)))
    (a1 : PySem.W.nsIn K mainGlobals "held" = some (some (.ref f1)))
    (l1 : K.lookup f1 = some ⟨oc1, od1, .func (PySem.W.fnOf "held" "held" (defArgs sHeld) (defBody sHeld) (defScope sHeld) .none kV1 dc1 pm1 an1 cd1 ct1), sl1⟩)
    (c1 : PySem.W.codeIn K cd1 "held" = true)
    (k1 : PySem.W.keepIn K (.ref f1) = true)
    (a2 : PySem.W.nsIn K mainGlobals "reckoned_of_two" = some (some (.ref f2)))
    (l2 : K.lookup f2 = some ⟨oc2, od2, .func (PySem.W.fnOf "reckoned_of_two" "reckoned_of_two" (defArgs sRk2) (defBody sRk2) (defScope sRk2) .none kV2 dc2 pm2 an2 cd2 ct2), sl2⟩)
    (c2 : PySem.W.codeIn K cd2 "reckoned_of_two" = true)
    (k2 : PySem.W.keepIn K (.ref f2) = true)
    (a3 : PySem.W.nsIn K mainGlobals "reckoned" = some (some (.ref f3)))
    (l3 : K.lookup f3 = some ⟨oc3, od3, .func (PySem.W.fnOf "reckoned" "reckoned" (defArgs sRk) (defBody sRk) (defScope sRk) .none kV3 dc3 pm3 an3 cd3 ct3), sl3⟩)
    (c3 : PySem.W.codeIn K cd3 "reckoned" = true)
    (k3 : PySem.W.keepIn K (.ref f3) = true)
    (a4 : PySem.W.nsIn K mainGlobals "worth" = some (some (.ref f4)))
    (l4 : K.lookup f4 = some ⟨oc4, od4, .func (PySem.W.fnOf "worth" "worth" (defArgs sWorth) (defBody sWorth) (defScope sWorth) .none kV4 dc4 pm4 an4 cd4 ct4), sl4⟩)
    (c4 : PySem.W.codeIn K cd4 "worth" = true)
    (k4 : PySem.W.keepIn K (.ref f4) = true)
    (a5 : PySem.W.nsIn K mainGlobals "common" = some (some (.ref f5)))
    (l5 : K.lookup f5 = some ⟨oc5, od5, .func (PySem.W.fnOf "common" "common" (defArgs sCommon) (defBody sCommon) (defScope sCommon) .none kV5 dc5 pm5 an5 cd5 ct5), sl5⟩)
    (c5 : PySem.W.codeIn K cd5 "common" = true)
    (k5 : PySem.W.keepIn K (.ref f5) = true)
    (a6 : PySem.W.nsIn K mainGlobals "share" = some (some (.ref f6)))
    (l6 : K.lookup f6 = some ⟨oc6, od6, .func (PySem.W.fnOf "share" "share" (defArgs sShare) (defBody sShare) (defScope sShare) .none kV6 dc6 pm6 an6 cd6 ct6), sl6⟩)
    (c6 : PySem.W.codeIn K cd6 "share" = true)
    (k6 : PySem.W.keepIn K (.ref f6) = true)
    (a7 : PySem.W.nsIn K mainGlobals "times" = some (some (.ref f7)))
    (l7 : K.lookup f7 = some ⟨oc7, od7, .func (PySem.W.fnOf "times" "times" (defArgs sTimes) (defBody sTimes) (defScope sTimes) .none kV7 dc7 pm7 an7 cd7 ct7), sl7⟩)
    (c7 : PySem.W.codeIn K cd7 "times" = true)
    (k7 : PySem.W.keepIn K (.ref f7) = true)
    (a8 : PySem.W.nsIn K mainGlobals "row_gone" = some (some (.ref f8)))
    (l8 : K.lookup f8 = some ⟨oc8, od8, .func (PySem.W.fnOf "row_gone" "row_gone" (defArgs sRow) (defBody sRow) (defScope sRow) .none kV8 dc8 pm8 an8 cd8 ct8), sl8⟩)
    (c8 : PySem.W.codeIn K cd8 "row_gone" = true)
    (k8 : PySem.W.keepIn K (.ref f8) = true)
    (a9 : PySem.W.nsIn K mainGlobals "rows_gone" = some (some (.ref f9)))
    (l9 : K.lookup f9 = some ⟨oc9, od9, .func (PySem.W.fnOf "rows_gone" "rows_gone" (defArgs sRows) (defBody sRows) (defScope sRows) .none kV9 dc9 pm9 an9 cd9 ct9), sl9⟩)
    (c9 : PySem.W.codeIn K cd9 "rows_gone" = true)
    (k9 : PySem.W.keepIn K (.ref f9) = true)
    (a10 : PySem.W.nsIn K mainGlobals "gone" = some (some (.ref f10)))
    (l10 : K.lookup f10 = some ⟨oc10, od10, .func (PySem.W.fnOf "gone" "gone" (defArgs sGone) (defBody sGone) (defScope sGone) .none kV10 dc10 pm10 an10 cd10 ct10), sl10⟩)
    (c10 : PySem.W.codeIn K cd10 "gone" = true)
    (k10 : PySem.W.keepIn K (.ref f10) = true)
    (a11 : PySem.W.nsIn K mainGlobals "tour" = some (some (.ref f11)))
    (l11 : K.lookup f11 = some ⟨oc11, od11, .func (PySem.W.fnOf "tour" "tour" (defArgs sTour) (defBody sTour) (defScope sTour) .none kV11 dc11 pm11 an11 cd11 ct11), sl11⟩)
    (c11 : PySem.W.codeIn K cd11 "tour" = true)
    (k11 : PySem.W.keepIn K (.ref f11) = true)
    (a12 : PySem.W.nsIn K mainGlobals "draws_in" = some (some (.ref f12)))
    (l12 : K.lookup f12 = some ⟨oc12, od12, .func (PySem.W.fnOf "draws_in" "draws_in" (defArgs sDraws) (defBody sDraws) (defScope sDraws) .none kV12 dc12 pm12 an12 cd12 ct12), sl12⟩)
    (c12 : PySem.W.codeIn K cd12 "draws_in" = true)
    (k12 : PySem.W.keepIn K (.ref f12) = true)
    (a13 : PySem.W.nsIn K mainGlobals "met_rows" = some (some (.ref f13)))
    (l13 : K.lookup f13 = some ⟨oc13, od13, .func (PySem.W.fnOf "met_rows" "met_rows" (defArgs sMetR) (defBody sMetR) (defScope sMetR) .none kV13 dc13 pm13 an13 cd13 ct13), sl13⟩)
    (c13 : PySem.W.codeIn K cd13 "met_rows" = true)
    (k13 : PySem.W.keepIn K (.ref f13) = true)
    (a14 : PySem.W.nsIn K mainGlobals "met_block" = some (some (.ref f14)))
    (l14 : K.lookup f14 = some ⟨oc14, od14, .func (PySem.W.fnOf "met_block" "met_block" (defArgs sMetB) (defBody sMetB) (defScope sMetB) .none kV14 dc14 pm14 an14 cd14 ct14), sl14⟩)
    (c14 : PySem.W.codeIn K cd14 "met_block" = true)
    (k14 : PySem.W.keepIn K (.ref f14) = true)
    (a15 : PySem.W.nsIn K mainGlobals "met_sides" = some (some (.ref f15)))
    (l15 : K.lookup f15 = some ⟨oc15, od15, .func (PySem.W.fnOf "met_sides" "met_sides" (defArgs sMetS) (defBody sMetS) (defScope sMetS) .none kV15 dc15 pm15 an15 cd15 ct15), sl15⟩)
    (c15 : PySem.W.codeIn K cd15 "met_sides" = true)
    (k15 : PySem.W.keepIn K (.ref f15) = true)
    (a16 : PySem.W.nsIn K mainGlobals "_law_cell" = some (some (.ref f16)))
    (l16 : K.lookup f16 = some ⟨oc16, od16, .func (PySem.W.fnOf "_law_cell" "_law_cell" (defArgs sCell) (defBody sCell) (defScope sCell) .none kV16 dc16 pm16 an16 cd16 ct16), sl16⟩)
    (c16 : PySem.W.codeIn K cd16 "_law_cell" = true)
    (k16 : PySem.W.keepIn K (.ref f16) = true)
    (a17 : PySem.W.nsIn K mainGlobals "_law_number" = some (some (.ref f17)))
    (l17 : K.lookup f17 = some ⟨oc17, od17, .func (PySem.W.fnOf "_law_number" "_law_number" (defArgs sNum) (defBody sNum) (defScope sNum) .none kV17 dc17 pm17 an17 cd17 ct17), sl17⟩)
    (c17 : PySem.W.codeIn K cd17 "_law_number" = true)
    (k17 : PySem.W.keepIn K (.ref f17) = true)
    (a18 : PySem.W.nsIn K mainGlobals "_law_sides" = some (some (.ref f18)))
    (l18 : K.lookup f18 = some ⟨oc18, od18, .func (PySem.W.fnOf "_law_sides" "_law_sides" (defArgs sSds) (defBody sSds) (defScope sSds) .none kV18 dc18 pm18 an18 cd18 ct18), sl18⟩)
    (c18 : PySem.W.codeIn K cd18 "_law_sides" = true)
    (k18 : PySem.W.keepIn K (.ref f18) = true)
    (a19 : PySem.W.nsIn K mainGlobals "_law_names" = some (some (.ref f19)))
    (l19 : K.lookup f19 = some ⟨oc19, od19, .func (PySem.W.fnOf "_law_names" "_law_names" (defArgs sNames) (defBody sNames) (defScope sNames) .none kV19 dc19 pm19 an19 cd19 ct19), sl19⟩)
    (c19 : PySem.W.codeIn K cd19 "_law_names" = true)
    (k19 : PySem.W.keepIn K (.ref f19) = true)
    (a20 : PySem.W.nsIn K mainGlobals "_law_atom" = some (some (.ref f20)))
    (l20 : K.lookup f20 = some ⟨oc20, od20, .func (PySem.W.fnOf "_law_atom" "_law_atom" (defArgs sAtom) (defBody sAtom) (defScope sAtom) .none kV20 dc20 pm20 an20 cd20 ct20), sl20⟩)
    (c20 : PySem.W.codeIn K cd20 "_law_atom" = true)
    (k20 : PySem.W.keepIn K (.ref f20) = true)
    (a21 : PySem.W.nsIn K mainGlobals "_law_term" = some (some (.ref f21)))
    (l21 : K.lookup f21 = some ⟨oc21, od21, .func (PySem.W.fnOf "_law_term" "_law_term" (defArgs sTerm) (defBody sTerm) (defScope sTerm) .none kV21 dc21 pm21 an21 cd21 ct21), sl21⟩)
    (c21 : PySem.W.codeIn K cd21 "_law_term" = true)
    (k21 : PySem.W.keepIn K (.ref f21) = true)
    (a22 : PySem.W.nsIn K mainGlobals "_law_raised" = some (some (.ref f22)))
    (l22 : K.lookup f22 = some ⟨oc22, od22, .func (PySem.W.fnOf "_law_raised" "_law_raised" (defArgs sRaised) (defBody sRaised) (defScope sRaised) .none kV22 dc22 pm22 an22 cd22 ct22), sl22⟩)
    (c22 : PySem.W.codeIn K cd22 "_law_raised" = true)
    (k22 : PySem.W.keepIn K (.ref f22) = true)
    (a23 : PySem.W.nsIn K mainGlobals "_law_shut" = some (some (.ref f23)))
    (l23 : K.lookup f23 = some ⟨oc23, od23, .func (PySem.W.fnOf "_law_shut" "_law_shut" (defArgs sShut) (defBody sShut) (defScope sShut) .none kV23 dc23 pm23 an23 cd23 ct23), sl23⟩)
    (c23 : PySem.W.codeIn K cd23 "_law_shut" = true)
    (k23 : PySem.W.keepIn K (.ref f23) = true)
    (a24 : PySem.W.nsIn K mainGlobals "_law_factor" = some (some (.ref f24)))
    (l24 : K.lookup f24 = some ⟨oc24, od24, .func (PySem.W.fnOf "_law_factor" "_law_factor" (defArgs sFactor) (defBody sFactor) (defScope sFactor) .none kV24 dc24 pm24 an24 cd24 ct24), sl24⟩)
    (c24 : PySem.W.codeIn K cd24 "_law_factor" = true)
    (k24 : PySem.W.keepIn K (.ref f24) = true)
    (a25 : PySem.W.nsIn K mainGlobals "_law_deed" = some (some (.ref f25)))
    (l25 : K.lookup f25 = some ⟨oc25, od25, .func (PySem.W.fnOf "_law_deed" "_law_deed" (defArgs sDeed) (defBody sDeed) (defScope sDeed) .none kV25 dc25 pm25 an25 cd25 ct25), sl25⟩)
    (c25 : PySem.W.codeIn K cd25 "_law_deed" = true)
    (k25 : PySem.W.keepIn K (.ref f25) = true)
    (a26 : PySem.W.nsIn K mainGlobals "_law_again" = some (some (.ref f26)))
    (l26 : K.lookup f26 = some ⟨oc26, od26, .func (PySem.W.fnOf "_law_again" "_law_again" (defArgs sAgain) (defBody sAgain) (defScope sAgain) .none kV26 dc26 pm26 an26 cd26 ct26), sl26⟩)
    (c26 : PySem.W.codeIn K cd26 "_law_again" = true)
    (k26 : PySem.W.keepIn K (.ref f26) = true)
    (a27 : PySem.W.nsIn K mainGlobals "_law_rows" = some (some (.ref f27)))
    (l27 : K.lookup f27 = some ⟨oc27, od27, .func (PySem.W.fnOf "_law_rows" "_law_rows" (defArgs sBuild) (defBody sBuild) (defScope sBuild) .none kV27 dc27 pm27 an27 cd27 ct27), sl27⟩)
    (c27 : PySem.W.codeIn K cd27 "_law_rows" = true)
    (k27 : PySem.W.keepIn K (.ref f27) = true)
    (a28 : PySem.W.nsIn K mainGlobals "_law_reckon" = some (some (.ref f28)))
    (l28 : K.lookup f28 = some ⟨oc28, od28, .func (PySem.W.fnOf "_law_reckon" "_law_reckon" (defArgs sLRk) (defBody sLRk) (defScope sLRk) .none kV28 dc28 pm28 an28 cd28 ct28), sl28⟩)
    (c28 : PySem.W.codeIn K cd28 "_law_reckon" = true)
    (k28 : PySem.W.keepIn K (.ref f28) = true)
    (a29 : PySem.W.nsIn K mainGlobals "_law_worth" = some (some (.ref f29)))
    (l29 : K.lookup f29 = some ⟨oc29, od29, .func (PySem.W.fnOf "_law_worth" "_law_worth" (defArgs sLWorth) (defBody sLWorth) (defScope sLWorth) .none kV29 dc29 pm29 an29 cd29 ct29), sl29⟩)
    (c29 : PySem.W.codeIn K cd29 "_law_worth" = true)
    (k29 : PySem.W.keepIn K (.ref f29) = true)
    (a30 : PySem.W.nsIn K mainGlobals "_law_draws" = some (some (.ref f30)))
    (l30 : K.lookup f30 = some ⟨oc30, od30, .func (PySem.W.fnOf "_law_draws" "_law_draws" (defArgs sLDraws) (defBody sLDraws) (defScope sLDraws) .none kV30 dc30 pm30 an30 cd30 ct30), sl30⟩)
    (c30 : PySem.W.codeIn K cd30 "_law_draws" = true)
    (k30 : PySem.W.keepIn K (.ref f30) = true)
    (a31 : PySem.W.nsIn K mainGlobals "_law_go" = some (some (.ref f31)))
    (l31 : K.lookup f31 = some ⟨oc31, od31, .func (PySem.W.fnOf "_law_go" "_law_go" (defArgs sLGo) (defBody sLGo) (defScope sLGo) .none kV31 dc31 pm31 an31 cd31 ct31), sl31⟩)
    (c31 : PySem.W.codeIn K cd31 "_law_go" = true)
    (k31 : PySem.W.keepIn K (.ref f31) = true)
    (a32 : PySem.W.nsIn K mainGlobals "_law_same" = some (some (.ref f32)))
    (l32 : K.lookup f32 = some ⟨oc32, od32, .func (PySem.W.fnOf "_law_same" "_law_same" (defArgs sSame) (defBody sSame) (defScope sSame) .none kV32 dc32 pm32 an32 cd32 ct32), sl32⟩)
    (c32 : PySem.W.codeIn K cd32 "_law_same" = true)
    (k32 : PySem.W.keepIn K (.ref f32) = true)
    (a33 : PySem.W.nsIn K mainGlobals "_law_list" = some (some (.ref f33)))
    (l33 : K.lookup f33 = some ⟨oc33, od33, .func (PySem.W.fnOf "_law_list" "_law_list" (defArgs sList) (defBody sList) (defScope sList) .none kV33 dc33 pm33 an33 cd33 ct33), sl33⟩)
    (c33 : PySem.W.codeIn K cd33 "_law_list" = true)
    (k33 : PySem.W.keepIn K (.ref f33) = true)
    (a34 : PySem.W.nsIn K mainGlobals "_law_refused" = some (some (.ref f34)))
    (l34 : K.lookup f34 = some ⟨oc34, od34, .func (PySem.W.fnOf "_law_refused" "_law_refused" (defArgs sRefused) (defBody sRefused) (defScope sRefused) .none kV34 dc34 pm34 an34 cd34 ct34), sl34⟩)
    (c34 : PySem.W.codeIn K cd34 "_law_refused" = true)
    (k34 : PySem.W.keepIn K (.ref f34) = true)
    (a35 : PySem.W.nsIn K mainGlobals "_law_wrong" = some (some (.ref f35)))
    (l35 : K.lookup f35 = some ⟨oc35, od35, .func (PySem.W.fnOf "_law_wrong" "_law_wrong" (defArgs sWrong) (defBody sWrong) (defScope sWrong) .none kV35 dc35 pm35 an35 cd35 ct35), sl35⟩)
    (c35 : PySem.W.codeIn K cd35 "_law_wrong" = true)
    (k35 : PySem.W.keepIn K (.ref f35) = true)
    (a36 : PySem.W.nsIn K mainGlobals "law" = some (some (.ref f36)))
    (l36 : K.lookup f36 = some ⟨oc36, od36, .func (PySem.W.fnOf "law" "law" (defArgs sLaw) (defBody sLaw) (defScope sLaw) .none kV36 dc36 pm36 an36 cd36 ct36), sl36⟩)
    (c36 : PySem.W.codeIn K cd36 "law" = true)
    (k36 : PySem.W.keepIn K (.ref f36) = true)
    (a37 : PySem.W.findIn K (.ref C) "__init__" = some (some (.ref f37)))
    (i37 : PySem.W.isFn K (.ref f37) = true)
    (l37 : K.lookup f37 = some ⟨oc37, od37, .func (PySem.W.fnOf "__init__" "Walk.__init__" (defArgs sInit) (defBody sInit) (defScope sInit) .none kV37 dc37 pm37 an37 cd37 ct37), sl37⟩)
    (c37 : PySem.W.codeIn K cd37 "Walk.__init__" = true)
    (k37 : PySem.W.keepIn K (.ref f37) = true)
    (a38 : PySem.W.findIn K (.ref C) "side_taken" = some (some (.ref f38)))
    (i38 : PySem.W.isFn K (.ref f38) = true)
    (l38 : K.lookup f38 = some ⟨oc38, od38, .func (PySem.W.fnOf "side_taken" "Walk.side_taken" (defArgs sSide) (defBody sSide) (defScope sSide) .none kV38 dc38 pm38 an38 cd38 ct38), sl38⟩)
    (c38 : PySem.W.codeIn K cd38 "Walk.side_taken" = true)
    (k38 : PySem.W.keepIn K (.ref f38) = true)
    (pg : PySem.W.plainGet K C Str.empty = true)
    (hd : PySem.W.hasDictIn K C = true)
    (po : PySem.W.plainOver K C = true)
    (sa : PySem.W.findIn K (.ref C) "__setattr__" = some (some (.builtin "object.__setattr__")))
    (mk : PySem.W.makesIn K C = true)
    (kc : PySem.W.keepIn K (.ref C) = true)
    (nahead : PySem.W.findIn K (.ref C) "ahead" = some none)
    (nfilling : PySem.W.findIn K (.ref C) "filling" = some none)
    (ntaken : PySem.W.findIn K (.ref C) "taken" = some none)
    (ncounts : PySem.W.findIn K (.ref C) "counts" = some none)
    (nsure : PySem.W.findIn K (.ref C) "sure" = some none)
    (nroom : PySem.W.findIn K (.ref C) "room" = some none)
    (nend : PySem.W.findIn K (.ref C) "end" = some none)
    (zint : PySem.W.nsIn K mainGlobals "int" = some none)
    (ztuple : PySem.W.nsIn K mainGlobals "tuple" = some none)
    (zlist : PySem.W.nsIn K mainGlobals "list" = some none)
    (zrange : PySem.W.nsIn K mainGlobals "range" = some none)
    (zlen : PySem.W.nsIn K mainGlobals "len" = some none)
    (zsum : PySem.W.nsIn K mainGlobals "sum" = some none)
    (zabs : PySem.W.nsIn K mainGlobals "abs" = some none)
    (zmax : PySem.W.nsIn K mainGlobals "max" = some none)
    (zmin : PySem.W.nsIn K mainGlobals "min" = some none)
    (zisinstance : PySem.W.nsIn K mainGlobals "isinstance" = some none)
    (zbool : PySem.W.nsIn K mainGlobals "bool" = some none)
    (zstr : PySem.W.nsIn K mainGlobals "str" = some none)
    (zValueError : PySem.W.nsIn K mainGlobals "ValueError" = some none)
    (xN : PySem.W.excIn K cN bmVE "ValueError.__new__" = true)
    (kN : PySem.W.keepIn K (.ref cN) = true)
    (bN : PySem.W.subIn K (.ref cN) (.type "BaseException") = some true)
    (tN : PySem.W.typeIn K (.ref cN) = some (.type "type"))
    (eg : PySem.W.findIn K (.ref cN) "__getattribute__" = some (some (.builtin "BaseException.__getattribute__")))
    (ek : PySem.W.findIn K (.ref cN) "__getattr__" = some none)
    (ed : PySem.W.hasDictIn K cN = true)
    (ea : PySem.W.findIn K (.ref cN) "__class__" = some (some (.builtin "object.__class__")))
    (en : PySem.W.specialIn K (.builtin "object.__class__") "__get__" = some (some (.builtin "getset_descriptor.__get__")))
    (et : PySem.W.takesIn K (.builtin "object.__class__") = some true)
    (em : PySem.W.mroIn K cN (.type "object") = some true)
    (lb : PySem.W.subIn K (.ref cL) (.type "BaseException") = some true)
    (ld : PySem.W.hasDictIn K cL = true)
    (lt : PySem.W.typeIn K (.ref cL) = some (.type "type"))
    (ls : PySem.W.subIn K (.ref cN) (.ref cL) = some true)
    (sV : PySem.W.subIn K (.ref cN) (.type "ValueError") = some true)
    (cd : PySem.W.hasDictIn K cC = true)
    (ct : PySem.W.typeIn K (.ref cC) = some (.type "type"))
    (cs : PySem.W.subIn K (.ref cN) (.ref cC) = some false)
    (cn : (Value.ref cN == Value.ref cC) = false)
    (md : PySem.W.hasDictIn K cM = true)
    (mt : PySem.W.typeIn K (.ref cM) = some (.type "type"))
    (ms : PySem.W.subIn K (.ref cN) (.ref cM) = some false)
    (mn : (Value.ref cN == Value.ref cM) = false)
    : ∃ fd : FuncData, (∀ (s : Shared) (v : Value), BindsTo s fd ⟨[v], []⟩ [("script", v)]) ∧ ∀ base : Heap, K.In base → base.Ns mainGlobals mg → FnOk P w K mg base CX0 24 fa fd ["script"] (spLaw K) := by
  have e := hfa.symm.trans (PySem.W.mg_of X G a36)
  cases e
  have B : Bl mg := ⟨PySem.W.mg_none_of X G zint, PySem.W.mg_none_of X G ztuple, PySem.W.mg_none_of X G zlist, PySem.W.mg_none_of X G zrange, PySem.W.mg_none_of X G zlen, PySem.W.mg_none_of X G zsum, PySem.W.mg_none_of X G zabs, PySem.W.mg_none_of X G zmax, PySem.W.mg_none_of X G zmin, PySem.W.mg_none_of X G zisinstance, PySem.W.mg_none_of X G zbool, PySem.W.mg_none_of X G zstr⟩
  have T : Tw K mg C cN := ⟨⟨pg, hd, po, sa⟩, nahead, nfilling, ntaken, ncounts, nsure, nroom, nend, PySem.W.mg_of X G aW, xN, PySem.W.mg_of X G aN, kN, bN, tN⟩
  have Y : Te K mg cN cL cC cM := ⟨PySem.W.mg_of X G aL, PySem.W.mg_of X G aC, PySem.W.mg_of X G aM, PySem.W.mg_none_of X G zValueError, ⟨eg, ek, bN, ed, ea, en, et, em⟩, PySem.W.exm_ref lb ld lt ls, kit_self, kit_VE sV, kit_ref cn cd ct cs, kit_ref mn md mt ms⟩
  have F1 := fun_mk (st := sHeld) l1 c1 k1
  have D_held : Df K mg "held" sHeld ["n"] f1 _ := ⟨F1, PySem.W.mg_of X G a1, F1.binds (ps := ["n"]) fun _ _ _ _ _ _ us hl => match us, hl with | [_], _ => rfl⟩
  have F2 := fun_mk (st := sRk2) l2 c2 k2
  have D_reckoned_of_two : Df K mg "reckoned_of_two" sRk2 ["op", "one", "two"] f2 _ := ⟨F2, PySem.W.mg_of X G a2, F2.binds (ps := ["op", "one", "two"]) fun _ _ _ _ _ _ us hl => match us, hl with | [_, _, _], _ => rfl⟩
  have F3 := fun_mk (st := sRk) l3 c3 k3
  have D_reckoned : Df K mg "reckoned" sRk ["op", "parts"] f3 _ := ⟨F3, PySem.W.mg_of X G a3, F3.binds (ps := ["op", "parts"]) fun _ _ _ _ _ _ us hl => match us, hl with | [_, _], _ => rfl⟩
  have F4 := fun_mk (st := sWorth) l4 c4 k4
  have D_worth : Df K mg "worth" sWorth ["term", "room"] f4 _ := ⟨F4, PySem.W.mg_of X G a4, F4.binds (ps := ["term", "room"]) fun _ _ _ _ _ _ us hl => match us, hl with | [_, _], _ => rfl⟩
  have F5 := fun_mk (st := sCommon) l5 c5 k5
  have D_common : Df K mg "common" sCommon ["a", "b"] f5 _ := ⟨F5, PySem.W.mg_of X G a5, F5.binds (ps := ["a", "b"]) fun _ _ _ _ _ _ us hl => match us, hl with | [_, _], _ => rfl⟩
  have F6 := fun_mk (st := sShare) l6 c6 k6
  have D_share : Df K mg "share" sShare ["a", "b"] f6 _ := ⟨F6, PySem.W.mg_of X G a6, F6.binds (ps := ["a", "b"]) fun _ _ _ _ _ _ us hl => match us, hl with | [_, _], _ => rfl⟩
  have F7 := fun_mk (st := sTimes) l7 c7 k7
  have D_times : Df K mg "times" sTimes ["x", "y"] f7 _ := ⟨F7, PySem.W.mg_of X G a7, F7.binds (ps := ["x", "y"]) fun _ _ _ _ _ _ us hl => match us, hl with | [_, _], _ => rfl⟩
  have F8 := fun_mk (st := sRow) l8 c8 k8
  have D_row_gone : Df K mg "row_gone" sRow ["walk", "row"] f8 _ := ⟨F8, PySem.W.mg_of X G a8, F8.binds (ps := ["walk", "row"]) fun _ _ _ _ _ _ us hl => match us, hl with | [_, _], _ => rfl⟩
  have F9 := fun_mk (st := sRows) l9 c9 k9
  have D_rows_gone : Df K mg "rows_gone" sRows ["walk", "rows"] f9 _ := ⟨F9, PySem.W.mg_of X G a9, F9.binds (ps := ["walk", "rows"]) fun _ _ _ _ _ _ us hl => match us, hl with | [_, _], _ => rfl⟩
  have F10 := fun_mk (st := sGone) l10 c10 k10
  have D_gone : Df K mg "gone" sGone ["program", "sides", "filling"] f10 _ := ⟨F10, PySem.W.mg_of X G a10, F10.binds (ps := ["program", "sides", "filling"]) fun _ _ _ _ _ _ us hl => match us, hl with | [_, _, _], _ => rfl⟩
  have F11 := fun_mk (st := sTour) l11 c11 k11
  have D_tour : Df K mg "tour" sTour ["program", "sides"] f11 _ := ⟨F11, PySem.W.mg_of X G a11, F11.binds (ps := ["program", "sides"]) fun _ _ _ _ _ _ us hl => match us, hl with | [_, _], _ => rfl⟩
  have F12 := fun_mk (st := sDraws) l12 c12 k12
  have D_draws_in : Df K mg "draws_in" sDraws ["rows"] f12 _ := ⟨F12, PySem.W.mg_of X G a12, F12.binds (ps := ["rows"]) fun _ _ _ _ _ _ us hl => match us, hl with | [_], _ => rfl⟩
  have F13 := fun_mk (st := sMetR) l13 c13 k13
  have D_met_rows : Df K mg "met_rows" sMetR ["rows", "room", "left", "met"] f13 _ := ⟨F13, PySem.W.mg_of X G a13, F13.binds (ps := ["rows", "room", "left", "met"]) fun _ _ _ _ _ _ us hl => match us, hl with | [_, _, _, _], _ => rfl⟩
  have F14 := fun_mk (st := sMetB) l14 c14 k14
  have D_met_block : Df K mg "met_block" sMetB ["row", "room", "left", "met"] f14 _ := ⟨F14, PySem.W.mg_of X G a14, F14.binds (ps := ["row", "room", "left", "met"]) fun _ _ _ _ _ _ us hl => match us, hl with | [_, _, _, _], _ => rfl⟩
  have F15 := fun_mk (st := sMetS) l15 c15 k15
  have D_met_sides : Df K mg "met_sides" sMetS ["program", "sides"] f15 _ := ⟨F15, PySem.W.mg_of X G a15, F15.binds (ps := ["program", "sides"]) fun _ _ _ _ _ _ us hl => match us, hl with | [_, _], _ => rfl⟩
  have F16 := fun_mk (st := sCell) l16 c16 k16
  have D_law_cell : Df K mg "_law_cell" sCell ["script", "k"] f16 _ := ⟨F16, PySem.W.mg_of X G a16, F16.binds (ps := ["script", "k"]) fun _ _ _ _ _ _ us hl => match us, hl with | [_, _], _ => rfl⟩
  have F17 := fun_mk (st := sNum) l17 c17 k17
  have D_law_number : Df K mg "_law_number" sNum ["cell"] f17 _ := ⟨F17, PySem.W.mg_of X G a17, F17.binds (ps := ["cell"]) fun _ _ _ _ _ _ us hl => match us, hl with | [_], _ => rfl⟩
  have F18 := fun_mk (st := sSds) l18 c18 k18
  have D_law_sides : Df K mg "_law_sides" sSds ["number", "many"] f18 _ := ⟨F18, PySem.W.mg_of X G a18, F18.binds (ps := ["number", "many"]) fun _ _ _ _ _ _ us hl => match us, hl with | [_, _], _ => rfl⟩
  have F19 := fun_mk (st := sNames) l19 c19 k19
  have D_law_names : Df K mg "_law_names" sNames ["cell"] f19 _ := ⟨F19, PySem.W.mg_of X G a19, F19.binds (ps := ["cell"]) fun _ _ _ _ _ _ us hl => match us, hl with | [_], _ => rfl⟩
  have F20 := fun_mk (st := sAtom) l20 c20 k20
  have D_law_atom : Df K mg "_law_atom" sAtom ["number", "names"] f20 _ := ⟨F20, PySem.W.mg_of X G a20, F20.binds (ps := ["number", "names"]) fun _ _ _ _ _ _ us hl => match us, hl with | [_, _], _ => rfl⟩
  have F21 := fun_mk (st := sTerm) l21 c21 k21
  have D_law_term : Df K mg "_law_term" sTerm ["number", "names"] f21 _ := ⟨F21, PySem.W.mg_of X G a21, F21.binds (ps := ["number", "names"]) fun _ _ _ _ _ _ us hl => match us, hl with | [_, _], _ => rfl⟩
  have F22 := fun_mk (st := sRaised) l22 c22 k22
  have D_law_raised : Df K mg "_law_raised" sRaised ["many", "factor"] f22 _ := ⟨F22, PySem.W.mg_of X G a22, F22.binds (ps := ["many", "factor"]) fun _ _ _ _ _ _ us hl => match us, hl with | [_, _], _ => rfl⟩
  have F23 := fun_mk (st := sShut) l23 c23 k23
  have D_law_shut : Df K mg "_law_shut" sShut ["stack"] f23 _ := ⟨F23, PySem.W.mg_of X G a23, F23.binds (ps := ["stack"]) fun _ _ _ _ _ _ us hl => match us, hl with | [_], _ => rfl⟩
  have F24 := fun_mk (st := sFactor) l24 c24 k24
  have D_law_factor : Df K mg "_law_factor" sFactor ["stack"] f24 _ := ⟨F24, PySem.W.mg_of X G a24, F24.binds (ps := ["stack"]) fun _ _ _ _ _ _ us hl => match us, hl with | [_], _ => rfl⟩
  have F25 := fun_mk (st := sDeed) l25 c25 k25
  have D_law_deed : Df K mg "_law_deed" sDeed ["kind", "rest", "names", "many"] f25 _ := ⟨F25, PySem.W.mg_of X G a25, F25.binds (ps := ["kind", "rest", "names", "many"]) fun _ _ _ _ _ _ us hl => match us, hl with | [_, _, _, _], _ => rfl⟩
  have F26 := fun_mk (st := sAgain) l26 c26 k26
  have D_law_again : Df K mg "_law_again" sAgain ["rest"] f26 _ := ⟨F26, PySem.W.mg_of X G a26, F26.binds (ps := ["rest"]) fun _ _ _ _ _ _ us hl => match us, hl with | [_], _ => rfl⟩
  have F27 := fun_mk (st := sBuild) l27 c27 k27
  have D_law_rows : Df K mg "_law_rows" sBuild ["cells", "names", "most", "sees"] f27 _ := ⟨F27, PySem.W.mg_of X G a27, F27.binds (ps := ["cells", "names", "most", "sees"]) fun _ _ _ _ _ _ us hl => match us, hl with | [_, _, _, _], _ => rfl⟩
  have F28 := fun_mk (st := sLRk) l28 c28 k28
  have D_law_reckon : Df K mg "_law_reckon" sLRk ["op", "parts"] f28 _ := ⟨F28, PySem.W.mg_of X G a28, F28.binds (ps := ["op", "parts"]) fun _ _ _ _ _ _ us hl => match us, hl with | [_, _], _ => rfl⟩
  have F29 := fun_mk (st := sLWorth) l29 c29 k29
  have D_law_worth : Df K mg "_law_worth" sLWorth ["term", "room"] f29 _ := ⟨F29, PySem.W.mg_of X G a29, F29.binds (ps := ["term", "room"]) fun _ _ _ _ _ _ us hl => match us, hl with | [_, _], _ => rfl⟩
  have F30 := fun_mk (st := sLDraws) l30 c30 k30
  have D_law_draws : Df K mg "_law_draws" sLDraws ["rows"] f30 _ := ⟨F30, PySem.W.mg_of X G a30, F30.binds (ps := ["rows"]) fun _ _ _ _ _ _ us hl => match us, hl with | [_], _ => rfl⟩
  have F31 := fun_mk (st := sLGo) l31 c31 k31
  have D_law_go : Df K mg "_law_go" sLGo ["rows", "room", "sides", "met"] f31 _ := ⟨F31, PySem.W.mg_of X G a31, F31.binds (ps := ["rows", "room", "sides", "met"]) fun _ _ _ _ _ _ us hl => match us, hl with | [_, _, _, _], _ => rfl⟩
  have F32 := fun_mk (st := sSame) l32 c32 k32
  have D_law_same : Df K mg "_law_same" sSame ["found", "due"] f32 _ := ⟨F32, PySem.W.mg_of X G a32, F32.binds (ps := ["found", "due"]) fun _ _ _ _ _ _ us hl => match us, hl with | [_, _], _ => rfl⟩
  have F33 := fun_mk (st := sList) l33 c33 k33
  have D_law_list : Df K mg "_law_list" sList ["found", "due"] f33 _ := ⟨F33, PySem.W.mg_of X G a33, F33.binds (ps := ["found", "due"]) fun _ _ _ _ _ _ us hl => match us, hl with | [_, _], _ => rfl⟩
  have F34 := fun_mk (st := sRefused) l34 c34 k34
  have D_law_refused : Df K mg "_law_refused" sRefused ["program", "sides"] f34 _ := ⟨F34, PySem.W.mg_of X G a34, F34.binds (ps := ["program", "sides"]) fun _ _ _ _ _ _ us hl => match us, hl with | [_, _], _ => rfl⟩
  have F35 := fun_mk (st := sWrong) l35 c35 k35
  have D_law_wrong : Df K mg "_law_wrong" sWrong ["used", "counts", "cell"] f35 _ := ⟨F35, PySem.W.mg_of X G a35, F35.binds (ps := ["used", "counts", "cell"]) fun _ _ _ _ _ _ us hl => match us, hl with | [_, _, _], _ => rfl⟩
  have F36 := fun_mk (st := sLaw) l36 c36 k36
  have D_law : Df K mg "law" sLaw ["script"] fa _ := ⟨F36, PySem.W.mg_of X G a36, F36.binds (ps := ["script"]) fun _ _ _ _ _ _ us hl => match us, hl with | [_], _ => rfl⟩
  have F37 := fun_mk (st := sInit) l37 c37 k37
  have b37 := F37.binds (ps := ["self", "sides", "filling"]) fun _ _ _ _ _ _ us hl => match us, hl with | [_, _, _], _ => rfl
  have F38 := fun_mk (st := sSide) l38 c38 k38
  have b38 := F38.binds (ps := ["self", "name", "sides"]) fun _ _ _ _ _ _ us hl => match us, hl with | [_, _, _], _ => rfl
  refine ⟨PySem.W.fnOf "law" "law" (defArgs sLaw) (defBody sLaw) (defScope sLaw) .none kV36 dc36 pm36 an36 cd36 ct36, fun s v => .of_eq rfl, fun base _ _ => ?_⟩
  have G_held := ok_held (P := P) (w := w) (base := base) D_held (PySem.W.mg_of X G aB)
  have G_rk2 := ok_rk2 (P := P) (w := w) (base := base) D_reckoned_of_two B G_held
  have G_rk := ok_rk (P := P) (w := w) (base := base) D_reckoned B G_rk2
  have G_worth := ok_worth (P := P) (w := w) (base := base) D_worth B G_rk 4
  have G_common := ok_common (P := P) (w := w) (base := base) D_common
  have G_share := ok_share (P := P) (w := w) (base := base) D_share B G_common
  have G_times := ok_times (P := P) (w := w) (base := base) D_times G_share
  have G_init := ok_init (P := P) (w := w) (base := base) F37 T
  have G_side := ok_side (P := P) (w := w) (base := base) F38 T B G_times G_share
  have G_rows := ok_rows (P := P) (w := w) (base := base) D_rows_gone D_row_gone T B ⟨a38, i38, k38⟩ b38 G_side G_worth 6
  have G_gone := ok_gone (P := P) (w := w) (base := base) D_gone T B ⟨mk, a37, i37, kc⟩ b37 G_init G_worth G_rows
  have G_tour := ok_tour (P := P) (w := w) (base := base) D_tour T G_gone
  have G_draws := ok_draws (P := P) (w := w) (base := base) D_draws_in 6
  have G_metR := ok_metR (P := P) (w := w) (base := base) D_met_rows D_met_block D_draws_in B G_worth 6
  have G_metS := ok_metS (P := P) (w := w) (base := base) D_met_sides T B G_tour G_draws G_metR
  have G_cell := ok_cell (P := P) (w := w) (base := base) D_law_cell B
  have G_num := ok_num (P := P) (w := w) (base := base) D_law_number
  have G_again := ok_again (P := P) (w := w) (base := base) D_law_again
  have G_raised := ok_raised (P := P) (w := w) (base := base) D_law_raised B
  have G_sds := ok_sds (P := P) (w := w) (base := base) D_law_sides B G_num
  have G_names := ok_names (P := P) (w := w) (base := base) D_law_names B
  have G_atom := ok_atom (P := P) (w := w) (base := base) D_law_atom G_num
  have G_term := ok_term (P := P) (w := w) (base := base) D_law_term B G_atom
  have G_deed := ok_deed (P := P) (w := w) (base := base) D_law_deed G_sds G_term
  have G_factor := ok_factor (P := P) (w := w) (base := base) D_law_factor
  have G_shut := ok_shut (P := P) (w := w) (base := base) D_law_shut B
  have G_build := ok_build (P := P) (w := w) (base := base) D_law_rows B G_factor G_shut G_term G_again G_raised G_deed
  have G_lrk := ok_lrk (P := P) (w := w) (base := base) D_law_reckon B
  have G_lworth := ok_lworth (P := P) (w := w) (base := base) D_law_worth G_lrk 4
  have G_ldraws := ok_ldraws (P := P) (w := w) (base := base) D_law_draws 6
  have G_lgo := ok_lgo (P := P) (w := w) (base := base) D_law_go D_law_draws B G_lworth 6
  have G_same := ok_same (P := P) (w := w) (base := base) D_law_same B 2
  have G_list := ok_list (P := P) (w := w) (base := base) D_law_list B G_same
  have G_wrong := ok_wrong (P := P) (w := w) (base := base) D_law_wrong B
  have G_refused := ok_refused (P := P) (w := w) (base := base) D_law_refused T Y B G_metS
  exact ok_law D_law B G_cell G_names G_build G_term G_ldraws G_lgo G_metS G_list G_wrong G_refused
theorem walk_law {l : PySem.W.OpenLaw} {q : Program} {loose : List Str} {XP : (Str → Option Value) → Heap → Prop} {YP : World → Heap → Prop} {d : DefRec} {K : Params → PySem.W.Frag} (hn : l.most = some 63) (hdf : d.params.defaults = [])
    (hY : ∀ (w : World) (h : Heap), YP w h → (K w.params).In h)
    (F : ∀ (w : World) (mg : Str → Option Value) (fa : Addr) (h : Heap), (K w.params).In h → h.Ns mainGlobals mg → mg d.name = some (.ref fa) →
      ∃ fd : FuncData, (∀ (s : Shared) (u : Value), BindsTo s fd ⟨[u], []⟩ [("script", u)]) ∧ ∀ base : Heap, (K w.params).In base → base.Ns mainGlobals mg → FnOk l.prog w (K w.params) mg base CX0 24 fa fd ["script"] (spLaw (K w.params))) :
    PySem.W.WalkO q loose XP YP l.row.toRowW d [] (fun f vs => PySem.call f vs) :=
  L2.walk_of (n := 63) (k := 24) (x := "script") (CX := fun _ => CX0) (sp := fun w => spLaw (K w.params)) hn (by decide) hdf ⟨rfl, by decide, by decide⟩ hY F (fun _ _ a ns hl _ hS => ⟨a, ns, rfl, hS, hl, fun _ => rfl⟩) fun _ _ _ _ _ z => z
end Lot

open PySem PySem.W PyProof.Rows
set_option maxRecDepth 100000 in
set_option maxHeartbeats 0 in
theorem PySem.Challenge.cw_lotsight_k43_met_sides_holds : PySem.Challenge.rw_lotsight_k43_met_sides.Holds := by
  w_on; o_law; k_head; (case hw => w_witness2)
  k_fill
  refine Lot.walk_law (l := PySem.Challenge.rw_lotsight_k43_met_sides) rfl rfl (fun w h Y => PySem.W.kIn_of Y) ?F
  case F =>
    intro w mg fa h KX G hmg
    refine' Lot.all_mk KX G hmg ?aW ?aN ?aL ?aC ?aM ?aB ?a1 ?l1 ?c1 ?k1 ?a2 ?l2 ?c2 ?k2 ?a3 ?l3 ?c3 ?k3 ?a4 ?l4 ?c4 ?k4 ?a5 ?l5 ?c5 ?k5 ?a6 ?l6 ?c6 ?k6 ?a7 ?l7 ?c7 ?k7 ?a8 ?l8 ?c8 ?k8 ?a9 ?l9 ?c9 ?k9 ?a10 ?l10 ?c10 ?k10 ?a11 ?l11 ?c11 ?k11 ?a12 ?l12 ?c12 ?k12 ?a13 ?l13 ?c13 ?k13 ?a14 ?l14 ?c14 ?k14 ?a15 ?l15 ?c15 ?k15 ?a16 ?l16 ?c16 ?k16 ?a17 ?l17 ?c17 ?k17 ?a18 ?l18 ?c18 ?k18 ?a19 ?l19 ?c19 ?k19 ?a20 ?l20 ?c20 ?k20 ?a21 ?l21 ?c21 ?k21 ?a22 ?l22 ?c22 ?k22 ?a23 ?l23 ?c23 ?k23 ?a24 ?l24 ?c24 ?k24 ?a25 ?l25 ?c25 ?k25 ?a26 ?l26 ?c26 ?k26 ?a27 ?l27 ?c27 ?k27 ?a28 ?l28 ?c28 ?k28 ?a29 ?l29 ?c29 ?k29 ?a30 ?l30 ?c30 ?k30 ?a31 ?l31 ?c31 ?k31 ?a32 ?l32 ?c32 ?k32 ?a33 ?l33 ?c33 ?k33 ?a34 ?l34 ?c34 ?k34 ?a35 ?l35 ?c35 ?k35 ?a36 ?l36 ?c36 ?k36 ?a37 ?i37 ?l37 ?c37 ?k37 ?a38 ?i38 ?l38 ?c38 ?k38 ?pg ?hd ?po ?sa ?mk ?kc ?nahead ?nfilling ?ntaken ?ncounts ?nsure ?nroom ?nend ?zint ?ztuple ?zlist ?zrange ?zlen ?zsum ?zabs ?zmax ?zmin ?zisinstance ?zbool ?zstr ?zValueError ?xN ?kN ?bN ?tN ?eg ?ek ?ed ?ea ?en ?et ?em ?lb ?ld ?lt ?ls ?sV ?cd ?ct ?cs ?cn ?md ?mt ?ms ?mn
    (case aW => k_is)
    (case aN => k_is)
    (case aL => k_is)
    (case aC => k_is)
    (case aM => k_is)
    (case aB => k_is)
    (case a1 => k_is)
    (case l1 => k_is)
    (case c1 => k_is)
    (case k1 => k_is)
    (case a2 => k_is)
    (case l2 => k_is)
    (case c2 => k_is)
    (case k2 => k_is)
    (case a3 => k_is)
    (case l3 => k_is)
    (case c3 => k_is)
    (case k3 => k_is)
    (case a4 => k_is)
    (case l4 => k_is)
    (case c4 => k_is)
    (case k4 => k_is)
    (case a5 => k_is)
    (case l5 => k_is)
    (case c5 => k_is)
    (case k5 => k_is)
    (case a6 => k_is)
    (case l6 => k_is)
    (case c6 => k_is)
    (case k6 => k_is)
    (case a7 => k_is)
    (case l7 => k_is)
    (case c7 => k_is)
    (case k7 => k_is)
    (case a8 => k_is)
    (case l8 => k_is)
    (case c8 => k_is)
    (case k8 => k_is)
    (case a9 => k_is)
    (case l9 => k_is)
    (case c9 => k_is)
    (case k9 => k_is)
    (case a10 => k_is)
    (case l10 => k_is)
    (case c10 => k_is)
    (case k10 => k_is)
    (case a11 => k_is)
    (case l11 => k_is)
    (case c11 => k_is)
    (case k11 => k_is)
    (case a12 => k_is)
    (case l12 => k_is)
    (case c12 => k_is)
    (case k12 => k_is)
    (case a13 => k_is)
    (case l13 => k_is)
    (case c13 => k_is)
    (case k13 => k_is)
    (case a14 => k_is)
    (case l14 => k_is)
    (case c14 => k_is)
    (case k14 => k_is)
    (case a15 => k_is)
    (case l15 => k_is)
    (case c15 => k_is)
    (case k15 => k_is)
    (case a16 => k_is)
    (case l16 => k_is)
    (case c16 => k_is)
    (case k16 => k_is)
    (case a17 => k_is)
    (case l17 => k_is)
    (case c17 => k_is)
    (case k17 => k_is)
    (case a18 => k_is)
    (case l18 => k_is)
    (case c18 => k_is)
    (case k18 => k_is)
    (case a19 => k_is)
    (case l19 => k_is)
    (case c19 => k_is)
    (case k19 => k_is)
    (case a20 => k_is)
    (case l20 => k_is)
    (case c20 => k_is)
    (case k20 => k_is)
    (case a21 => k_is)
    (case l21 => k_is)
    (case c21 => k_is)
    (case k21 => k_is)
    (case a22 => k_is)
    (case l22 => k_is)
    (case c22 => k_is)
    (case k22 => k_is)
    (case a23 => k_is)
    (case l23 => k_is)
    (case c23 => k_is)
    (case k23 => k_is)
    (case a24 => k_is)
    (case l24 => k_is)
    (case c24 => k_is)
    (case k24 => k_is)
    (case a25 => k_is)
    (case l25 => k_is)
    (case c25 => k_is)
    (case k25 => k_is)
    (case a26 => k_is)
    (case l26 => k_is)
    (case c26 => k_is)
    (case k26 => k_is)
    (case a27 => k_is)
    (case l27 => k_is)
    (case c27 => k_is)
    (case k27 => k_is)
    (case a28 => k_is)
    (case l28 => k_is)
    (case c28 => k_is)
    (case k28 => k_is)
    (case a29 => k_is)
    (case l29 => k_is)
    (case c29 => k_is)
    (case k29 => k_is)
    (case a30 => k_is)
    (case l30 => k_is)
    (case c30 => k_is)
    (case k30 => k_is)
    (case a31 => k_is)
    (case l31 => k_is)
    (case c31 => k_is)
    (case k31 => k_is)
    (case a32 => k_is)
    (case l32 => k_is)
    (case c32 => k_is)
    (case k32 => k_is)
    (case a33 => k_is)
    (case l33 => k_is)
    (case c33 => k_is)
    (case k33 => k_is)
    (case a34 => k_is)
    (case l34 => k_is)
    (case c34 => k_is)
    (case k34 => k_is)
    (case a35 => k_is)
    (case l35 => k_is)
    (case c35 => k_is)
    (case k35 => k_is)
    (case a36 => k_is)
    (case l36 => k_is)
    (case c36 => k_is)
    (case k36 => k_is)
    (case a37 => k_is)
    (case i37 => k_is)
    (case l37 => k_is)
    (case c37 => k_is)
    (case k37 => k_is)
    (case a38 => k_is)
    (case i38 => k_is)
    (case l38 => k_is)
    (case c38 => k_is)
    (case k38 => k_is)
    (case pg => k_is)
    (case hd => k_is)
    (case po => k_is)
    (case sa => k_is)
    (case mk => k_is)
    (case kc => k_is)
    (case nahead => k_is)
    (case nfilling => k_is)
    (case ntaken => k_is)
    (case ncounts => k_is)
    (case nsure => k_is)
    (case nroom => k_is)
    (case nend => k_is)
    (case zint => k_is)
    (case ztuple => k_is)
    (case zlist => k_is)
    (case zrange => k_is)
    (case zlen => k_is)
    (case zsum => k_is)
    (case zabs => k_is)
    (case zmax => k_is)
    (case zmin => k_is)
    (case zisinstance => k_is)
    (case zbool => k_is)
    (case zstr => k_is)
    (case zValueError => k_is)
    (case xN => k_exc)
    (case kN => k_is)
    (case bN => k_is)
    (case tN => k_is)
    (case eg => k_is)
    (case ek => k_is)
    (case ed => k_is)
    (case ea => k_is)
    (case en => k_is)
    (case et => k_is)
    (case em => k_is)
    (case lb => k_is)
    (case ld => k_is)
    (case lt => k_is)
    (case ls => first | k_is | rfl)
    (case sV => k_is)
    (case cd => k_is)
    (case ct => k_is)
    (case cs => first | k_is | rfl)
    (case cn => first | rfl | k_is)
    (case md => k_is)
    (case mt => k_is)
    (case ms => first | k_is | rfl)
    (case mn => first | rfl | k_is)
