import PyProof.Rows.All
import Wide.All
import OpenK.AllK
import Wide.FinOn
import Lean
import PySem.Challenge.RW_pf0050_01
set_option genSizeOf false
set_option genInjectivity false
set_option bootstrap.genMatcherCode false
set_option compiler.extract_closed false
set_option Elab.async false
set_option linter.unusedVariables false
set_option linter.unusedSimpArgs false
section
namespace Mine

inductive NX where
  | v (i : Nat)
  | l (n : Nat)
  | a (x y : NX)
  | m (t : Nat) (x : NX)
  | r (x : NX) (t : Nat)
inductive IX where
  | v (i : Nat)
  | k (x : NX)
  | l (n : Nat)
  | a (x y : IX)
  | s (x y : IX)
  | m (t : Nat) (x : IX)
  | g (x : IX)
inductive LX where
  | nle (x y : NX)
  | nlt (x y : NX)
  | neq (x y : NX)
  | ile (x y : IX)
  | ilt (x y : IX)
  | ieq (x y : IX)
  | an (p q : LX)
  | or (p q : LX)
  | no (p : LX)
  | f

noncomputable def at0 {α : Type} (z : α) (l : List α) : Nat → α := List.rec (fun _ => z) (fun x _ ih i => Nat.rec x (fun j _ => ih j) i) l
noncomputable def NX.den (c : List Nat) (x : NX) : Nat := NX.rec (at0 0 c) (fun n => n) (fun _ _ p q => p + q) (fun t _ p => t * p) (fun _ t p => p * t) x
noncomputable def IX.den (c : List Nat) (d : List Int) (x : IX) : Int := IX.rec (at0 0 d) (fun x => ((x.den c : Nat) : Int)) (fun n => (n : Int)) (fun _ _ p q => p + q) (fun _ _ p q => p - q) (fun t _ p => (t : Int) * p) (fun _ p => -p) x
noncomputable def LX.den (c : List Nat) (d : List Int) (x : LX) : Prop := LX.rec (fun x y => x.den c ≤ y.den c) (fun x y => x.den c < y.den c) (fun x y => x.den c = y.den c) (fun x y => x.den c d ≤ y.den c d) (fun x y => x.den c d < y.den c d) (fun x y => x.den c d = y.den c d)
  (fun _ _ p q => p ∧ q) (fun _ _ p q => p ∨ q) (fun _ p => ¬ p) False x

structure Po where
  k : Int
  w : List Int
noncomputable def ladd (p : List Int) : List Int → List Int := List.rec (fun q => q) (fun x _ ih q => List.rec (x :: ih []) (fun y r _ => (x + y) :: ih r) q) p
noncomputable def Po.add (p q : Po) : Po := ⟨p.k + q.k, ladd p.w q.w⟩
noncomputable def Po.mul (t : Int) (p : Po) : Po := ⟨t * p.k, p.w.map (t * ·)⟩
noncomputable def Po.unit (j : Nat) : List Int := Nat.rec [1] (fun _ ih => 0 :: 0 :: ih) j
noncomputable def NX.po (x : NX) : Po := NX.rec (fun i => ⟨0, Po.unit i⟩) (fun n => ⟨n, []⟩) (fun _ _ p q => p.add q) (fun t _ p => p.mul t) (fun _ t p => p.mul t) x
noncomputable def IX.po (x : IX) : Po := IX.rec (fun i => ⟨0, 0 :: Po.unit i⟩) (fun x => x.po) (fun n => ⟨n, []⟩) (fun _ _ p q => p.add q) (fun _ _ p q => p.add (q.mul (-1))) (fun t _ p => p.mul t) (fun _ p => p.mul (-1)) x
noncomputable def gap (p q : Po) (t : Int) : Po := (q.add (p.mul (-1))).add ⟨-t, []⟩
noncomputable def leP (p q : Po) (b : Bool) : List (List Po) := [[bif b then gap p q 0 else gap q p 1]]
noncomputable def prod (l s : List (List Po)) : List (List Po) := List.rec [] (fun a _ ih => s.map (a ++ ·) ++ ih) l
noncomputable def andP (p q : Bool → List (List Po)) (b : Bool) : List (List Po) := bif b then prod (p true) (q true) else p false ++ q false
noncomputable def notP (p : Bool → List (List Po)) (b : Bool) : List (List Po) := p (!b)
noncomputable def LX.dnf (x : LX) : Bool → List (List Po) := LX.rec (fun x y => leP x.po y.po) (fun x y => notP (leP y.po x.po)) (fun x y => andP (leP x.po y.po) (leP y.po x.po)) (fun x y => leP x.po y.po) (fun x y => notP (leP y.po x.po)) (fun x y => andP (leP x.po y.po) (leP y.po x.po))
  (fun _ _ p q => andP p q) (fun _ _ p q => notP (andP (notP p) (notP q))) (fun _ p => notP p) (fun b => bif b then [] else [[]]) x
noncomputable def comb (ts : List Nat) : List Po → Po := List.rec (fun _ => ⟨0, []⟩) (fun t _ ih br => List.rec ⟨0, []⟩ (fun p r _ => (p.mul t).add (ih r)) br) ts
noncomputable def left0 (w : List Int) : Bool → Bool := List.rec (fun _ => true) (fun x _ ih b => (bif b then decide (x ≤ 0) else decide (x = 0)) && ih (!b)) w
noncomputable def refute (ts : List Nat) (br : List Po) : Bool := decide ((comb ts br).k < 0) && left0 (comb ts br).w true
noncomputable def refuteAll (ts : List (List Nat)) (bs : List (List Po)) : Bool := List.rec (fun _ => true) (fun b _ ih ts => List.rec false (fun t r _ => refute t b && ih r) ts) bs ts
noncomputable def branches (g : LX) (hs : List LX) : List (List Po) := List.rec (g.dnf false) (fun h _ ih => prod (h.dnf true) ih) hs
noncomputable def imps (c : List Nat) (d : List Int) (g : LX) (hs : List LX) : Prop := List.rec (g.den c d) (fun h _ ih => h.den c d → ih) hs

noncomputable def dot (p : List Int) : (Nat → Int) → (Nat → Int) → Int := List.rec (fun _ _ => 0) (fun x _ ih f g => x * f 0 + ih g (fun i => f (i + 1))) p
noncomputable def Po.ev (f g : Nat → Int) (p : Po) : Int := p.k + dot p.w f g

theorem add4 (a b c d : Int) : a + b + (c + d) = a + c + (b + d) := by rw [Int.add_assoc, Int.add_left_comm b, ← Int.add_assoc]
theorem dot_add : ∀ (p q : List Int) (f g : Nat → Int), dot (ladd p q) f g = dot p f g + dot q f g
  | [], q, f, g => (Int.zero_add _).symm
  | x :: p, [], f, g => by
    show x * f 0 + dot (ladd p []) g _ = x * f 0 + dot p g _ + 0
    rw [dot_add p [], Int.add_assoc]; rfl
  | x :: p, y :: q, f, g => by
    show (x + y) * f 0 + dot (ladd p q) g _ = x * f 0 + dot p g _ + (y * f 0 + dot q g _)
    rw [dot_add p q, Int.add_mul, add4]
theorem dot_mul (t : Int) : ∀ (p : List Int) (f g : Nat → Int), dot (p.map (t * ·)) f g = t * dot p f g
  | [], f, g => (Int.mul_zero t).symm
  | x :: p, f, g => by
    show t * x * f 0 + dot (p.map (t * ·)) g _ = t * (x * f 0 + dot p g _)
    rw [dot_mul t p, Int.mul_add, Int.mul_assoc]
theorem dot_zero2 (r : List Int) (f g : Nat → Int) : dot (0 :: r) f g = dot r g fun i => f (i + 1) := by
  show 0 * f 0 + dot r g _ = _
  rw [Int.zero_mul, Int.zero_add]
theorem dot_unit : ∀ (i : Nat) (f g : Nat → Int), dot (Po.unit i) f g = f i
  | 0, f, g => by
    show 1 * f 0 + 0 = f 0
    rw [Int.one_mul, Int.add_zero]
  | i + 1, f, g => by
    show dot (0 :: 0 :: Po.unit i) f g = f (i + 1)
    rw [dot_zero2, dot_zero2, dot_unit i]

section
variable {f g : Nat → Int}
theorem Po.ev_add (p q : Po) : (p.add q).ev f g = p.ev f g + q.ev f g := by
  show p.k + q.k + dot (ladd p.w q.w) f g = p.k + dot p.w f g + (q.k + dot q.w f g)
  rw [dot_add, add4]
theorem Po.ev_mul (t : Int) (p : Po) : (p.mul t).ev f g = t * p.ev f g := by
  show t * p.k + dot (p.w.map (t * ·)) f g = t * (p.k + dot p.w f g)
  rw [dot_mul, Int.mul_add]
end

section
variable {c : List Nat} {d : List Int}
noncomputable def vn (c : List Nat) (i : Nat) : Int := ((at0 0 c i : Nat) : Int)
noncomputable def EV (c : List Nat) (d : List Int) (p : Po) : Int := p.ev (vn c) (at0 0 d)
theorem EV.add {p q : Po} {u w : Int} (hp : EV c d p = u) (hq : EV c d q = w) : EV c d (p.add q) = u + w := hp ▸ hq ▸ Po.ev_add p q
theorem EV.mul {p : Po} {u : Int} (t : Int) (hp : EV c d p = u) : EV c d (p.mul t) = t * u := hp ▸ Po.ev_mul t p
theorem EV.const {n : Nat} : EV c d ⟨n, []⟩ = n := Int.add_zero _
theorem neg1 (a b : Int) : a + -1 * b = a - b := by rw [Int.neg_mul, Int.one_mul]; exact Int.sub_eq_add_neg.symm
theorem NX.po_ok (x : NX) : EV c d x.po = (x.den c : Int) := by
  induction x with
  | v i => exact (Int.zero_add _).trans (dot_unit i _ _)
  | l n => exact EV.const
  | a x y h1 h2 => exact EV.add h1 h2
  | m t x h => exact EV.mul _ h
  | r x t h => exact (EV.mul _ h).trans (Int.mul_comm _ _)
theorem IX.po_ok (x : IX) : EV c d x.po = x.den c d := by
  induction x with
  | v i => exact (Int.zero_add _).trans ((dot_zero2 _ _ _).trans (dot_unit i _ _))
  | k x => exact x.po_ok
  | l n => exact EV.const
  | a x y h1 h2 => exact EV.add h1 h2
  | s x y h1 h2 => exact (EV.add h1 (EV.mul (-1) h2)).trans (neg1 _ _)
  | m t x h => exact EV.mul _ h
  | g x h => exact (EV.mul (-1) h).trans (by rw [Int.neg_mul, Int.one_mul]; rfl)

noncomputable def Good (c : List Nat) (d : List Int) (br : List Po) : Prop := ∀ p ∈ br, 0 ≤ EV c d p
noncomputable def Some1 (c : List Nat) (d : List Int) (bs : List (List Po)) : Prop := ∃ b, b ∈ bs ∧ Good c d b
theorem Some1.one {p : Po} (h : 0 ≤ EV c d p) : Some1 c d [[p]] := ⟨_, List.mem_cons_self, fun q hq => List.mem_singleton.mp hq ▸ h⟩
theorem Some1.l {s t : List (List Po)} : Some1 c d s → Some1 c d (s ++ t) := fun ⟨b, hb, h⟩ => ⟨b, List.mem_append_left _ hb, h⟩
theorem Some1.r {s t : List (List Po)} : Some1 c d t → Some1 c d (s ++ t) := fun ⟨b, hb, h⟩ => ⟨b, List.mem_append_right _ hb, h⟩
theorem Some1.prod {t : List (List Po)} (ht : Some1 c d t) : ∀ {s : List (List Po)}, Some1 c d s → Some1 c d (prod s t)
  | a :: r, ⟨b, hb, h⟩ => (List.mem_cons.mp hb).elim (fun e => let ⟨b', hb', h'⟩ := ht; .l ⟨a ++ b', List.mem_map.mpr ⟨b', hb', rfl⟩, fun p hp => (List.mem_append.mp hp).elim (e ▸ h p) (h' p)⟩) fun hb => .r (Some1.prod ht ⟨b, hb, h⟩)
structure Dn (c : List Nat) (d : List Int) (P : Prop) (F : Bool → List (List Po)) : Prop where
  t : P → Some1 c d (F true)
  f : ¬ P → Some1 c d (F false)
theorem Dn.iff {P P' : Prop} {F : Bool → List (List Po)} (h : Dn c d P F) (e : P' ↔ P) : Dn c d P' F := ⟨fun p => h.t (e.mp p), fun p => h.f fun q => p (e.mpr q)⟩
theorem Dn.no {P : Prop} {F : Bool → List (List Po)} (h : Dn c d P F) : Dn c d (¬ P) (notP F) := ⟨h.f, fun p => h.t (Classical.not_not.mp p)⟩
theorem Dn.an {P P' : Prop} {F F' : Bool → List (List Po)} (h : Dn c d P F) (h' : Dn c d P' F') : Dn c d (P ∧ P') (andP F F') :=
  ⟨fun p => (h'.t p.2).prod (h.t p.1), fun p => (Classical.em P).elim (fun q => .r (h'.f fun q' => p ⟨q, q'⟩)) fun q => .l (h.f q)⟩
theorem gap_ok {p q : Po} {u w t : Int} (hp : EV c d p = u) (hq : EV c d q = w) (h : u + t ≤ w) : 0 ≤ EV c d (gap p q t) := by
  have e : EV c d (gap p q t) = w + -1 * u + (-t + 0) := EV.add (EV.add hq (EV.mul _ hp)) rfl
  rw [e, Int.neg_mul, Int.one_mul, Int.add_zero, Int.add_assoc, ← Int.neg_add]
  exact Int.sub_nonneg_of_le h
theorem Dn.le {p q : Po} {u w : Int} (hp : EV c d p = u) (hq : EV c d q = w) : Dn c d (u ≤ w) (leP p q) :=
  ⟨fun h => .one (gap_ok hp hq (by rw [Int.add_zero]; exact h)), fun h => .one (gap_ok hq hp (Int.add_one_le_of_lt (Int.not_le.mp h)))⟩
theorem Dn.lt {p q : Po} {u w : Int} (hp : EV c d p = u) (hq : EV c d q = w) : Dn c d (u < w) (notP (leP q p)) := (Dn.le hq hp).no.iff Int.not_le.symm
theorem Dn.eq {p q : Po} {u w : Int} (hp : EV c d p = u) (hq : EV c d q = w) : Dn c d (u = w) (andP (leP p q) (leP q p)) := ((Dn.le hp hq).an (.le hq hp)).iff Int.le_antisymm_iff
theorem dnf_ok (p : LX) : Dn c d (p.den c d) p.dnf := by
  induction p with
  | nle x y => exact (Dn.le x.po_ok y.po_ok).iff Int.ofNat_le.symm
  | nlt x y => exact (Dn.lt x.po_ok y.po_ok).iff Int.ofNat_lt.symm
  | neq x y => exact (Dn.eq x.po_ok y.po_ok).iff Int.ofNat_inj.symm
  | ile x y => exact .le x.po_ok y.po_ok
  | ilt x y => exact .lt x.po_ok y.po_ok
  | ieq x y => exact .eq x.po_ok y.po_ok
  | an p q hp hq => exact hp.an hq
  | or p q hp hq => exact (hp.no.an hq.no).no.iff ⟨fun h q => h.elim q.1 q.2, fun h => Classical.byContradiction fun q => h ⟨fun a => q (.inl a), fun b => q (.inr b)⟩⟩
  | no p hp => exact hp.no
  | f => exact ⟨fun h => False.elim h, fun _ => ⟨[], List.mem_cons_self, fun _ h => (nomatch h)⟩⟩
theorem comb_ok : ∀ {ts : List Nat} {br : List Po}, Good c d br → 0 ≤ EV c d (comb ts br)
  | [], _, _ => Int.le_refl _
  | _ :: _, [], _ => Int.le_refl _
  | t :: ts, p :: ps, h => by
    show 0 ≤ EV c d ((p.mul t).add (comb ts ps))
    rw [EV.add (EV.mul _ rfl) rfl]
    exact Int.add_nonneg (Int.mul_nonneg (Int.natCast_nonneg _) (h p List.mem_cons_self)) (comb_ok fun q hq => h q (List.mem_cons_of_mem _ hq))
theorem left0_ok : ∀ (w : List Int) (b : Bool) {f g : Nat → Int}, left0 w b = true → (∀ i, b = true → 0 ≤ f i) → (∀ i, b = false → 0 ≤ g i) → dot w f g ≤ 0
  | [], _, _, _, _, _, _ => Int.le_refl _
  | x :: w, b, f, g, h, hf, hg => by
    obtain ⟨h1, h2⟩ := Bool.and_eq_true_iff.mp (show ((bif b then decide (x ≤ 0) else decide (x = 0)) && left0 w (!b)) = true from h)
    have h3 := left0_ok w (!b) (f := g) (g := fun i => f (i + 1)) h2 (fun i e => hg i (by cases b; rfl; cases e)) fun i e => hf _ (by cases b; cases e; rfl)
    show x * f 0 + dot w g _ ≤ 0
    refine Int.add_nonpos ?_ h3
    cases b with
    | true => exact Int.mul_nonpos_of_nonpos_of_nonneg (of_decide_eq_true h1) (hf 0 rfl)
    | false => rw [show x = 0 from of_decide_eq_true h1, Int.zero_mul]; exact Int.le_refl _
theorem refute_ok {ts : List Nat} {br : List Po} (h : refute ts br = true) (hb : Good c d br) : False := by
  obtain ⟨h1, h2⟩ := Bool.and_eq_true_iff.mp h
  exact Int.not_le.mpr (Int.add_neg_of_neg_of_nonpos (of_decide_eq_true h1) (left0_ok _ true h2 (fun i _ => Int.natCast_nonneg _) fun _ e => nomatch e)) (comb_ok (ts := ts) hb)
theorem refuteAll_ok : ∀ {bs : List (List Po)} {ts : List (List Nat)}, refuteAll ts bs = true → ¬ Some1 c d bs
  | [], _, _, ⟨b, hb, _⟩ => nomatch hb
  | b :: bs, [], h, _ => nomatch h
  | b :: bs, t :: ts, h, ⟨b', hb, hg⟩ =>
    let ⟨h1, h2⟩ := Bool.and_eq_true_iff.mp (show (refute t b && refuteAll ts bs) = true from h)
    (List.mem_cons.mp hb).elim (fun e => refute_ok h1 (e ▸ hg)) fun hb => refuteAll_ok h2 ⟨b', hb, hg⟩
theorem imps_ok {g : LX} : ∀ {hs : List LX}, ¬ Some1 c d (branches g hs) → imps c d g hs
  | [], h => Classical.byContradiction fun q => h ((dnf_ok g).f q)
  | p :: hs, h => fun hp => imps_ok fun q => h (q.prod ((dnf_ok p).t hp))
end
theorem fm (c : List Nat) (d : List Int) (hs : List LX) (g : LX) (ts : List (List Nat)) (h : refuteAll ts (branches g hs) = true) : imps c d g hs := imps_ok (refuteAll_ok h)

theorem subn (a b : Nat) : (b ≤ a ∧ a - b + b = a) ∨ (a ≤ b ∧ a - b = 0) := (Nat.le_total b a).imp (fun h => ⟨h, Nat.sub_add_cancel h⟩) fun h => ⟨h, Nat.sub_eq_zero_of_le h⟩
theorem minn (a b : Nat) : (a ≤ b ∧ min a b = a) ∨ (b ≤ a ∧ min a b = b) := (Nat.le_total a b).imp (fun h => ⟨h, Nat.min_eq_left h⟩) fun h => ⟨h, Nat.min_eq_right h⟩
theorem nabs (x : Int) : ((0 : Int) ≤ x ∧ (x.natAbs : Int) = x) ∨ (x ≤ 0 ∧ (x.natAbs : Int) = -x) := (Int.le_total 0 x).imp (fun h => ⟨h, Int.natAbs_of_nonneg h⟩) fun h => ⟨h, Int.ofNat_natAbs_of_nonpos h⟩
theorem tona (x : Int) : ((0 : Int) ≤ x ∧ (x.toNat : Int) = x) ∨ (x ≤ 0 ∧ x.toNat = 0) := (Int.le_total 0 x).imp (fun h => ⟨h, Int.toNat_of_nonneg h⟩) fun h => ⟨h, Int.toNat_eq_zero.mpr h⟩

theorem lt7 : ∀ x : Nat, x < 7 → (x = 0 ∨ x = 1 ∨ x = 2 ∨ x = 3 ∨ x = 4 ∨ x = 5 ∨ x = 6) := by decide

end Mine
end
section
set_option backward.match.sparseCases false
open PySem
namespace Mine

inductive PV where
  | none
  | bool (b : Bool)
  | int (i : Int)
  | str (s : Str)
  | lst (i : Nat)
  | tup (l : List PV)
  | rng (lo hi : Int)

abbrev St := List (List PV)

inductive Out (α : Type) where
  | ok (a : α) (σ : St)
  | exc (k : Str) (σ : St)

abbrev R (α : Type) := Option (Out α)

noncomputable def R.bind {α β : Type} (x : R α) (f : α → St → R β) : R β :=
  match x with
  | some (.ok a σ) => f a σ
  | _ => none

noncomputable def R.bindX {α β : Type} (x : R α) (f : α → St → R β) : R β :=
  match x with
  | some (.ok a σ) => f a σ
  | some (.exc k σ) => some (.exc k σ)
  | none => none

noncomputable def ok {α : Type} (a : α) (σ : St) : R α := some (.ok a σ)

noncomputable def R.strict {α : Type} (x : R α) : R α := x.bind ok

abbrev Vars := List (Str × PV)

structure PE where
  names : List (Str × NameKind)
  vars : Vars
  lam : Bool := false

noncomputable def upd (x : Str) (v : PV) : Vars → Vars
  | [] => [(x, v)]
  | (y, w) :: r => if y == x then (y, v) :: r else (y, w) :: upd x v r

noncomputable def consts : List (Str × PV) := [("R0", .tup [.int 0, .int 1]), ("R1", .tup [.int 1, .int 1])]

noncomputable def PE.look (ρ : PE) (x : Str) : Option PV :=
  match ρ.names.lookup x with
  | some .local => ρ.vars.lookup x
  | some .cell => ρ.vars.lookup x
  | some .free => ρ.vars.lookup x
  | some .globalImplicit => consts.lookup x
  | _ => none

noncomputable def PE.isGlobal (ρ : PE) (x : Str) : Bool := ρ.names.lookup x == some .globalImplicit

noncomputable def PE.set (ρ : PE) (x : Str) (v : PV) : Option Vars :=
  match ρ.names.lookup x with
  | some .local => some (upd x v ρ.vars)
  | some .cell => some (upd x v ρ.vars)
  | _ => none

noncomputable def cap : Nat := 4000

noncomputable def alloc (l : List PV) (σ : St) : R PV := if l.length ≤ cap then ok (.lst σ.length) (σ ++ [l]) else none

noncomputable def listD (f : PV → Option PyData) : List PV → Option (List PyData)
  | [] => some []
  | v :: r => match f v, listD f r with
    | some d, some ds => some (d :: ds)
    | _, _ => none

noncomputable def leafD : PV → Option PyData
  | .none => some .none
  | .bool b => some (.bool b)
  | .int i => some (.int i)
  | .str s => if PyData.strOk s then some (.str s) else none
  | _ => none

noncomputable def toD (σ : St) : Nat → PV → Option PyData
  | 0, v => leafD v
  | n + 1, v => match v with
    | .lst i => match σ[i]? with
      | some l => (listD (toD σ n) l).map .list
      | none => none
    | .tup l => (listD (toD σ n) l).map .tuple
    | v => leafD v

noncomputable def pyEq (σ : St) (a b : PV) : Option Bool :=
  match toD σ 8 a, toD σ 8 b with
  | some da, some db => some (PyData.eqv da db)
  | _, _ => none

noncomputable def bitsOk (a : Int) : Bool := decide (a.natAbs.log2 < 4000)

noncomputable def isNone : PV → Option Bool
  | .none => some true
  | .int _ => some false
  | .tup _ => some false
  | .lst _ => some false
  | _ => none

noncomputable def allInts : List PV → Option (List Int)
  | [] => some []
  | .int i :: r => (allInts r).map (i :: ·)
  | _ :: _ => none

noncomputable def cmpInts (op : CmpOp) (x y : Int) : Option Bool :=
  match op with
  | .Eq => some (x == y)
  | .NotEq => some (!(x == y))
  | .Lt => some (decide (x < y))
  | .LtE => some (decide (x ≤ y))
  | .Gt => some (decide (x > y))
  | .GtE => some (decide (x ≥ y))
  | _ => none

noncomputable def cmpVals (op : CmpOp) (a b : PV) (σ : St) : Option Bool :=
  match op with
  | .Eq => pyEq σ a b
  | .NotEq => (pyEq σ a b).map (!·)
  | .Is => match b with
    | .none => isNone a
    | _ => none
  | .IsNot => match b with
    | .none => (isNone a).map (!·)
    | _ => none
  | .In => match a, b with
    | .int x, .lst i => match σ[i]? with
      | some l => (allInts l).map fun ns => ns.any (· == x)
      | none => none
    | _, _ => none
  | _ => none

noncomputable def cmp (op : CmpOp) (a b : PV) (σ : St) : Option Bool :=
  match a, b with
  | .int x, .int y => cmpInts op x y
  | a, b => cmpVals op a b σ

noncomputable def binInts (op : Operator) (x y : Int) : Option Int :=
  match op with
  | .Add => some (x + y)
  | .Sub => some (x - y)
  | .Mult => if bitsOk x && bitsOk y then some (x * y) else none
  | .FloorDiv => if y != 0 && bitsOk y then some (x.fdiv y) else none
  | .Mod => if y != 0 then some (x.fmod y) else none
  | _ => none

noncomputable def binop (op : Operator) (a b : PV) (σ : St) : R PV :=
  match a, b with
  | .int x, .int y => match binInts op x y with
    | some z => ok (.int z) σ
    | none => none
  | .lst i, .lst j => match op with
    | .Add => match σ[i]?, σ[j]? with
      | some l, some m => alloc (l ++ m) σ
      | _, _ => none
    | _ => none
  | .lst i, .int n => match op with
    | .Mult => match σ[i]? with
      | some [v] => if decide (0 ≤ n) && decide (n ≤ 1000) then alloc (List.replicate n.toNat v) σ else none
      | _ => none
    | _ => none
  | _, _ => none

noncomputable def getItem (a k : PV) (σ : St) : R PV :=
  match a, k with
  | .lst i, .int n => if decide (0 ≤ n) && decide (n ≤ 1000000) then (match σ[i]? with
    | some l => match l[n.toNat]? with | some v => ok v σ | none => none
    | none => none) else none
  | .tup l, .int n => if decide (0 ≤ n) && decide (n ≤ 1000000) then (match l[n.toNat]? with | some v => ok v σ | none => none) else none
  | _, _ => none

noncomputable def setItem (a k v : PV) (σ : St) : Option St :=
  match a, k with
  | .lst i, .int n => match σ[i]? with
    | some l => if decide (0 ≤ n) && decide (n.toNat < l.length) && decide (l.length ≤ cap) then some (σ.set i (l.set n.toNat v)) else none
    | none => none
  | _, _ => none

noncomputable def isStar : Expr → Bool
  | .Starred .. => true
  | _ => false

noncomputable def evList (f : Expr → St → R PV) : List Expr → St → R (List PV)
  | [], σ => ok [] σ
  | e :: r, σ => if isStar e then none else (f e σ).bind fun v σ₁ => (evList f r σ₁).bind fun vs σ₂ => ok (v :: vs) σ₂

inductive It where
  | lst (i : Nat)
  | tup (l : List PV)
  | rng (lo hi : Int)
  | enm (i : Nat)

noncomputable def nextAt (σ : St) (it : It) (k : Nat) : Option PV :=
  match it with
  | .lst i => (σ[i]?.getD [])[k]?
  | .tup l => l[k]?
  | .rng lo hi => if lo + k < hi then some (.int (lo + k)) else none
  | .enm i => ((σ[i]?.getD [])[k]?).map fun v => .tup [.int k, v]

noncomputable def fits (it : It) (target : Expr) : Bool :=
  match target with
  | .Name .. => match it with
    | .enm _ => false
    | _ => true
  | .Tuple .. => match it with
    | .enm _ => true
    | _ => false
  | _ => false

noncomputable def itOf (v : PV) : Option It :=
  match v with
  | .lst i => some (.lst i)
  | .tup l => some (.tup l)
  | .rng lo hi => some (.rng lo hi)
  | _ => none

inductive Fl where
  | next
  | cont
  | ret (v : PV)

structure Evs where
  e : Expr → PE → St → R PV
  t : Expr → PE → St → R Bool
  s : List Stmt → PE → St → R (Fl × Vars)
  c : Str → List PV → St → R PV

noncomputable def enumArg (ρ : PE) : Expr → Option Expr
  | .Call (.Name f _) [a] [] _ => if f == "enumerate" && ρ.isGlobal f && !isStar a then some a else none
  | _ => none

noncomputable def plainIter : Expr → Bool
  | .Set .. => false
  | _ => true

noncomputable def iterOf (F : Evs) (e : Expr) (ρ : PE) (σ : St) : R It :=
  match enumArg ρ e with
  | some a => (F.e a ρ σ).bind fun v σ₁ => match v with
    | .lst i => ok (.enm i) σ₁
    | _ => none
  | none => if plainIter e then (F.e e ρ σ).bind fun v σ₁ => match itOf v with
    | some it => ok it σ₁
    | none => none
    else none

noncomputable def assignNames (ρ : PE) : List Expr → List PV → Option Vars
  | [], [] => some ρ.vars
  | .Name x _ :: ts, v :: vs => match ρ.set x v with
    | some vars => assignNames { ρ with vars := vars } ts vs
    | none => none
  | _, _ => none

noncomputable def assignLoop (t : Expr) (ρ : PE) (v : PV) : Option Vars :=
  match t with
  | .Name x _ => ρ.set x v
  | .Tuple ts _ _ => match v with
    | .tup vs => assignNames ρ ts vs
    | _ => none
  | _ => none

noncomputable def isSlice : Expr → Bool
  | .Slice .. => true
  | _ => false

noncomputable def assign1 (F : Evs) (t : Expr) (ρ : PE) (v : PV) (σ : St) : R Vars :=
  match t with
  | .Name x _ => match ρ.set x v with
    | some vars => ok vars σ
    | none => none
  | .Subscript o i _ => if isSlice i then none else (F.e o ρ σ).bind fun ov σ₁ => (F.e i ρ σ₁).bind fun iv σ₂ => match setItem ov iv v σ₂ with
    | some σ₃ => ok ρ.vars σ₃
    | none => none
  | _ => none

noncomputable def assignMany (F : Evs) : List Expr → List PV → PE → St → R Vars
  | [], [], ρ, σ => ok ρ.vars σ
  | t :: ts, v :: vs, ρ, σ => (assign1 F t ρ v σ).bind fun vars σ₁ => assignMany F ts vs { ρ with vars := vars } σ₁
  | _, _, _, _ => none

noncomputable def assignTo (F : Evs) (t : Expr) (ρ : PE) (v : PV) (σ : St) : R Vars :=
  match t with
  | .Tuple ts _ _ => match v with
    | .tup vs => assignMany F ts vs ρ σ
    | _ => none
  | t => assign1 F t ρ v σ

noncomputable def testAll (f : Expr → St → R Bool) : List Expr → St → R Bool
  | [], σ => ok true σ
  | e :: r, σ => (f e σ).bind fun b σ₁ => if b then testAll f r σ₁ else ok false σ₁

noncomputable def compLoop (F : Evs) (target elt : Expr) (ifs : List Expr) (it : It) : Nat → Nat → PE → St → R (List PV)
  | 0, _, _, _ => none
  | n + 1, k, ρ, σ => match nextAt σ it k with
    | none => ok [] σ
    | some v => match assignLoop target ρ v with
      | none => none
      | some vars => (testAll (fun c σ => F.t c { ρ with vars := vars } σ) ifs σ).bind fun b σ₁ =>
        if b then (F.e elt { ρ with vars := vars } σ₁).bind fun x σ₂ => (compLoop F target elt ifs it n (k + 1) { ρ with vars := vars } σ₂).bind fun xs σ₃ => ok (x :: xs) σ₃
        else compLoop F target elt ifs it n (k + 1) { ρ with vars := vars } σ₁

noncomputable def freeOk (ρ : PE) (names : List (Str × NameKind)) : Bool :=
  names.all fun x => match x.2 with
    | .free => (ρ.names.lookup x.1 == some .cell || ρ.names.lookup x.1 == some .free)
    | .globalExplicit => false
    | _ => true

noncomputable def scopeOk (sc : Scope) : Bool := sc.kind == .function && decide (sc.names.map (·.1)).Nodup && !sc.isGenerator && !sc.isCoroutine && sc.names.all fun x => x.1 != "__classdict__" && x.1 != "__debug__"

noncomputable def inner (ρ : PE) (names : List (Str × NameKind)) : PE :=
  { names := names, vars := ρ.vars.filter fun x => names.lookup x.1 == some .free }

noncomputable def boolOps (op : BoolOp) (f : Expr → St → R PV) : List Expr → St → R PV
  | [], _ => none
  | [x], σ => (f x σ).strict
  | x :: r, σ => (f x σ).bind fun v σ₁ => match v with
    | .bool b => if b == (op == .Or) then ok v σ₁ else boolOps op f r σ₁
    | _ => none

noncomputable def tests (op : BoolOp) (f : Expr → St → R Bool) : List Expr → St → R Bool
  | [], σ => ok (op == .And) σ
  | x :: r, σ => (f x σ).bind fun b σ₁ => if b == (op == .Or) then ok b σ₁ else tests op f r σ₁

noncomputable def smallInt (x : Int) : Bool := decide (-1000000 ≤ x) && decide (x ≤ 1000000)

noncomputable def rangeInts (lo hi : Int) : List PV := (List.range (hi - lo).toNat).map fun (i : Nat) => PV.int (lo + (i : Int))

noncomputable def builtins : List Str := ["len", "abs", "range", "list", "min", "max", "sum"]

noncomputable def bLen (vs : List PV) (σ : St) : R PV := match vs with
  | [.lst i] => match σ[i]? with | some l => if l.length ≤ cap then ok (.int l.length) σ else none | none => none
  | _ => none
noncomputable def bAbs (vs : List PV) (σ : St) : R PV := match vs with
  | [.int x] => ok (.int (if x < 0 then -x else x)) σ
  | _ => none
noncomputable def bRange (vs : List PV) (σ : St) : R PV := match vs with
  | [.int n] => if smallInt n then ok (.rng 0 n) σ else none
  | [.int a, .int b] => if smallInt a && smallInt b then ok (.rng a b) σ else none
  | _ => none
noncomputable def bList (vs : List PV) (σ : St) : R PV := match vs with
  | [.lst i] => match σ[i]? with | some l => alloc l σ | none => none
  | [.rng lo hi] => if decide (hi - lo ≤ 1000) then alloc (rangeInts lo hi) σ else none
  | _ => none
noncomputable def bMin (vs : List PV) (σ : St) : R PV := match vs with
  | [.int a, .int b] => ok (.int (if b < a then b else a)) σ
  | _ => none
noncomputable def bMax (vs : List PV) (σ : St) : R PV := match vs with
  | [.int a, .int b] => ok (.int (if b > a then b else a)) σ
  | _ => none
noncomputable def bSum (vs : List PV) (σ : St) : R PV := match vs with
  | [.lst i] => match σ[i]? with
    | some l => match allInts l with
      | some ns => ok (.int ns.sum) σ
      | none => none
    | none => none
  | _ => none

noncomputable def builtin (f : Str) (vs : List PV) (σ : St) : R PV :=
  if f == "len" then bLen vs σ
  else if f == "abs" then bAbs vs σ
  else if f == "range" then bRange vs σ
  else if f == "list" then bList vs σ
  else if f == "min" then bMin vs σ
  else if f == "max" then bMax vs σ
  else if f == "sum" then bSum vs σ
  else none

noncomputable def evConst (c : Const) (σ : St) : R PV :=
  match c with
  | .none => ok .none σ
  | .bool b => ok (.bool b) σ
  | .int i => ok (.int i) σ
  | .str s => ok (.str s) σ
  | _ => none

noncomputable def evName (x : Str) (ρ : PE) (σ : St) : R PV :=
  if x == "__debug__" then none else match ρ.look x with
    | some v => ok v σ
    | none => none

noncomputable def evUn (F : Evs) (op : UnaryOp) (x : Expr) (ρ : PE) (σ : St) : R PV :=
  (F.e x ρ σ).bind fun v σ₁ => match op, v with
    | .USub, .int i => ok (.int (-i)) σ₁
    | .Not, .bool b => ok (.bool (!b)) σ₁
    | _, _ => none

noncomputable def evCmp (F : Evs) (l : Expr) (ops : List CmpOp) (cs : List Expr) (ρ : PE) (σ : St) : R Bool :=
  match ops, cs with
  | [op], [r] => if plainIter r then (F.e l ρ σ).bind fun a σ₁ => (F.e r ρ σ₁).bind fun b σ₂ => match cmp op a b σ₂ with
    | some c => ok c σ₂
    | none => none
    else none
  | _, _ => none

inductive Cut where
  | upto (u : Expr)
  | from (u : Expr)
  | item (i : Expr)
  | bad

noncomputable def cutOf : Expr → Cut
  | .Slice lo hi st _ => match lo, hi, st with
    | none, some u, none => .upto u
    | some u, none, none => .from u
    | _, _, _ => .bad
  | i => .item i

noncomputable def evSub (F : Evs) (v s : Expr) (ρ : PE) (σ : St) : R PV :=
  (F.e v ρ σ).bind fun a σ₁ => match cutOf s with
    | .upto u => (F.e u ρ σ₁).bind fun n σ₂ => match a, n with
      | .lst i, .int n => if decide (0 ≤ n) && decide (n ≤ 1000) then (match σ₂[i]? with | some l => if l.length ≤ cap then alloc (l.take n.toNat) σ₂ else none | none => none) else none
      | _, _ => none
    | .from u => (F.e u ρ σ₁).bind fun n σ₂ => match a, n with
      | .lst i, .int n => if decide (0 ≤ n) && decide (n ≤ 1000) then (match σ₂[i]? with | some l => if l.length ≤ cap then alloc (l.drop n.toNat) σ₂ else none | none => none) else none
      | _, _ => none
    | .item i => (F.e i ρ σ₁).bind fun k σ₂ => getItem a k σ₂
    | .bad => none

noncomputable def lambdaOf : List Expr → Option (Expr × Scope)
  | [.Lambda ⟨[], [], none, [], [], none, []⟩ body sc _] => some (body, sc)
  | _ => none

noncomputable def evAsked (F : Evs) (args : List Expr) (ρ : PE) (σ : St) : R PV :=
  match lambdaOf args with
  | some (body, sc) =>
    if ρ.lam && freeOk ρ sc.names && scopeOk sc && sc.names.all (fun x => x.2 == .free || x.2 == .globalImplicit) then
      match F.e body (inner ρ sc.names) σ with
      | some (.ok v σ₁) => ok v σ₁
      | some (.exc k σ₁) => ok (.str k) σ₁
      | none => none
    else none
  | none => none

noncomputable def evCall (F : Evs) (f : Expr) (args : List Expr) (kws : List Keyword) (pos : Pos) (ρ : PE) (σ : St) : R PV :=
  match kws with
  | _ :: _ => none
  | [] => match f with
    | .Name f _ =>
      if ρ.isGlobal f then
        if f == "_law_asked" then evAsked F args ρ σ
        else (evList (fun e σ => F.e e ρ σ) args σ).bind fun vs σ₁ => if builtins.contains f then builtin f vs σ₁ else F.c f vs σ₁
      else none
    | .Attribute o a apos =>
      if a == "append" && apos.endLine == pos.line then match o, args with
        | .Name x p, [arg] => if isStar arg then none else (F.e (.Name x p) ρ σ).bind fun o σ₁ => (F.e arg ρ σ₁).bind fun v σ₂ => match o with
          | .lst i => match σ₂[i]? with
            | some l => if l.length < cap then ok .none (σ₂.set i (l ++ [v])) else none
            | none => none
          | _ => none
        | _, _ => none
      else none
    | _ => none

noncomputable def evComp (F : Evs) (elt : Expr) (gens : List Comprehension) (sc : Scope) (ρ : PE) (σ : St) : R PV :=
  match gens with
  | [⟨target, iter, ifs, isAsync⟩] =>
    if freeOk ρ sc.names && scopeOk sc && isAsync == 0 then
      (iterOf F iter ρ σ).bind fun it σ₁ => if fits it target then (compLoop F target elt ifs it cap 0 (inner ρ sc.names) σ₁).bind fun vs σ₂ => alloc vs σ₂ else none
    else none
  | _ => none

noncomputable def evE (F : Evs) (e : Expr) (ρ : PE) (σ : St) : R PV :=
  match e with
  | .Constant c _ _ => evConst c σ
  | .Name x _ => evName x ρ σ
  | .Tuple es _ _ => (evList (fun e σ => F.e e ρ σ) es σ).bind fun vs σ₁ => if vs.length ≤ cap then ok (.tup vs) σ₁ else none
  | .List es _ => (evList (fun e σ => F.e e ρ σ) es σ).bind fun vs σ₁ => alloc vs σ₁
  | .BinOp l op r _ => (F.e l ρ σ).bind fun a σ₁ => (F.e r ρ σ₁).bind fun b σ₂ => binop op a b σ₂
  | .UnaryOp op x _ => evUn F op x ρ σ
  | .IfExp t b o _ => (F.t t ρ σ).bind fun c σ₁ => if c then (F.e b ρ σ₁).strict else (F.e o ρ σ₁).strict
  | .BoolOp op vs _ => boolOps op (fun e σ => F.e e ρ σ) vs σ
  | .Compare l ops cs _ => (evCmp F l ops cs ρ σ).bind fun c σ₁ => ok (.bool c) σ₁
  | .Subscript v s _ => evSub F v s ρ σ
  | .Call f args kws pos => evCall F f args kws pos ρ σ
  | .ListComp elt gens sc _ => evComp F elt gens sc ρ σ
  | _ => none

noncomputable def evTruth (F : Evs) (e : Expr) (ρ : PE) (σ : St) : R Bool :=
  (F.e e ρ σ).bind fun v σ₁ => match v with
    | .bool b => ok b σ₁
    | _ => none

noncomputable def evT (F : Evs) (e : Expr) (ρ : PE) (σ : St) : R Bool :=
  match e with
  | .UnaryOp op x p => match op with
    | .Not => (F.t x ρ σ).bind fun b σ₁ => ok (!b) σ₁
    | _ => none
  | .BoolOp op vs _ => tests op (fun e σ => F.t e ρ σ) vs σ
  | .IfExp .. => none
  | .Compare l ops cs _ => evCmp F l ops cs ρ σ
  | e => evTruth F e ρ σ

noncomputable def forLoop (F : Evs) (target : Expr) (body : List Stmt) (it : It) : Nat → Nat → PE → St → R (Fl × Vars)
  | 0, _, _, _ => none
  | n + 1, k, ρ, σ => match nextAt σ it k with
    | none => ok (.next, ρ.vars) σ
    | some v => match assignLoop target ρ v with
      | none => none
      | some vars => (F.s body { ρ with vars := vars } σ).bind fun fv σ₁ => match fv.1 with
        | .ret v => ok (.ret v, fv.2) σ₁
        | _ => forLoop F target body it n (k + 1) { ρ with vars := fv.2 } σ₁

noncomputable def whileLoop (F : Evs) (test : Expr) (body : List Stmt) : Nat → PE → St → R (Fl × Vars)
  | 0, _, _ => none
  | n + 1, ρ, σ => (F.t test ρ σ).bind fun b σ₁ =>
    if b then (F.s body ρ σ₁).bind fun fv σ₂ => match fv.1 with
      | .ret v => ok (.ret v, fv.2) σ₂
      | _ => whileLoop F test body n { ρ with vars := fv.2 } σ₂
    else ok (.next, ρ.vars) σ₁

noncomputable def raiseArgs (ρ : PE) : Expr → Option (Expr × Expr)
  | .Call (.Name c _) [a, b] [] _ => if c == "CasFail" && ρ.isGlobal c && !isStar a && !isStar b then some (a, b) else none
  | _ => none

noncomputable def constTuple : Expr → Expr → Bool
  | .Tuple _ _ _, .Tuple vs _ _ => vs.all (constantsAlone 8)
  | _, _ => false

noncomputable def evS (F : Evs) (s : Stmt) (ρ : PE) (σ : St) : R (Fl × Vars) :=
  match s with
  | .Assign ts value _ => match ts with
    | [t] => if constTuple t value then none else (F.e value ρ σ).bind fun v σ₁ => (assignTo F t ρ v σ₁).bind fun vars σ₂ => ok (.next, vars) σ₂
    | _ => none
  | .Expr e _ => (F.e e ρ σ).bindX fun v σ₁ => match v with
    | .none => ok (.next, ρ.vars) σ₁
    | _ => none
  | .Return v _ => match v with
    | some e => (F.e e ρ σ).bind fun v σ₁ => ok (.ret v, ρ.vars) σ₁
    | none => none
  | .If test body orelse _ => (F.t test ρ σ).bind fun b σ₁ => if b then F.s body ρ σ₁ else F.s orelse ρ σ₁
  | .While test body orelse _ => match orelse with
    | [] => whileLoop F test body cap ρ σ
    | _ => none
  | .For target iter body orelse _ => match orelse with
    | [] => (iterOf F iter ρ σ).bind fun it σ₁ => if fits it target then forLoop F target body it cap 0 ρ σ₁ else none
    | _ => none
  | .Continue _ => ok (.cont, ρ.vars) σ
  | .Raise e c _ => match e, c with
    | some e, none => match raiseArgs ρ e with
      | some (a, b) => (F.e a ρ σ).bind fun k σ₁ => (F.e b ρ σ₁).bind fun m σ₂ => match k, m with
        | .str k, .str m => if decide (k.length ≤ 1000) && decide (m.length ≤ 1000) then some (.exc k σ₂) else none
        | _, _ => none
      | none => none
    | _, _ => none
  | _ => none

noncomputable def evSs (F : Evs) : List Stmt → PE → St → R (Fl × Vars)
  | [], ρ, σ => ok (.next, ρ.vars) σ
  | s :: r, ρ, σ => (evS F s ρ σ).bindX fun fv σ₁ => match fv.1 with
    | .next => evSs F r { ρ with vars := fv.2 } σ₁
    | f => ok (f, fv.2) σ₁

structure Fn where
  params : Arguments
  body : List Stmt
  scope : Scope

noncomputable def findFn (x : Str) : List Stmt → Option Fn
  | [] => none
  | .FunctionDef n args body _ _ _ sc _ _ _ :: r => if n == x then some ⟨args, body, sc⟩ else findFn x r
  | _ :: r => findFn x r

noncomputable def fnOf (x : Str) : Option Fn := findFn x PySem.Challenge.pw_pf0050_01.main.body

noncomputable def fnOk (d : Fn) : Bool :=
  scopeOk d.scope && (match d.params with
    | ⟨[], _, none, [], _, none, _⟩ => true
    | _ => false) && decide (d.params.args.map (·.arg)).Nodup && d.params.args.all (fun a => d.scope.names.lookup a.arg == some .local || d.scope.names.lookup a.arg == some .cell) &&
    d.scope.names.all fun x => x.2 != .free

noncomputable def withLams (f : Str) : Bool := f == "law" || f == "_law_single_right"

noncomputable def evC (F : Evs) (f : Str) (vs : List PV) (σ : St) : R PV :=
  match fnOf f with
  | none => none
  | some d =>
    if fnOk d && decide (d.params.args.length = vs.length) then
      (F.s d.body { names := d.scope.names, vars := (d.params.args.map (·.arg)).zip vs, lam := withLams f } σ).bindX fun fv σ₁ => match fv.1 with
        | .ret v => ok v σ₁
        | .next => ok .none σ₁
        | .cont => none
    else none

noncomputable def Evs.none : Evs := ⟨fun _ _ _ => Option.none, fun _ _ _ => Option.none, fun _ _ _ => Option.none, fun _ _ _ => Option.none⟩
noncomputable def Evs.step (F : Evs) : Evs := ⟨evE F, evT F, evSs F, evC F⟩
noncomputable def ev : Nat → Evs
  | 0 => Evs.none
  | n + 1 => (ev n).step

theorem gate {P : Prop} (h : ∀ G : Prop, (P → G) → G) : P := h P id

theorem no_none {α : Type} {x : α} {P : Prop} (h : none = some x) : P := nomatch h
theorem no_exc {α : Type} {k : Str} {σ τ : St} {a : α} {P : Prop} (h : some (Out.exc k σ) = some (.ok a τ)) : P := nomatch h
theorem no_ft {P : Prop} (h : false = true) : P := absurd h Bool.false_ne_true
theorem some_ok {α : Type} {a b : α} {σ τ : St} (h : some (Out.ok a σ) = some (.ok b τ)) : a = b ∧ σ = τ := by cases h; exact ⟨rfl, rfl⟩

end Mine
end
section
set_option backward.match.sparseCases false
open PySem
namespace Mine

section
variable {α β : Type} {P : Prop}
theorem some_back {a b : α} {P : α → Prop} (h : some a = some b) (k : P b) : P a := Option.some.inj h ▸ k
theorem ok_back {a b : α} {σ τ : St} {P : α → St → Prop} (h : some (Out.ok a σ) = some (.ok b τ)) (k : P b τ) : P a σ := by cases h; exact k
theorem out_back {a b : Out α} {P : Out α → Prop} (h : a = b) (k : P b) : P a := h ▸ k
theorem ite1 {c : Prop} [d : Decidable c] {x : Option β} {r : β} (h : (if c then x else none) = some r) (k : c → x = some r → P) : P := by
  by_cases q : c
  · exact k q ((if_pos q).symm.trans h)
  · exact no_none ((if_neg q).symm.trans h)
theorem ite2 {c : Prop} [d : Decidable c] {x : Option β} {r : β} (h : (if c then none else x) = some r) (k : ¬ c → x = some r → P) : P := by
  by_cases q : c
  · exact no_none ((if_pos q).symm.trans h)
  · exact k q ((if_neg q).symm.trans h)
theorem bnd {x : R α} {f : α → St → R β} {o : Out β} (h : x.bind f = some o) (k : ∀ a σ, x = some (.ok a σ) → f a σ = some o → P) : P := by
  cases x with
  | none => exact no_none h
  | some y => cases y with
    | ok a σ => exact k a σ rfl h
    | exc c σ => exact no_none h
theorem bdX {x : R α} {f : α → St → R β} {o : Out β} (h : x.bindX f = some o) (k : ∀ a σ, x = some (.ok a σ) → f a σ = some o → P) (kx : ∀ c σ, x = some (.exc c σ) → .exc c σ = o → P) : P := by
  cases x with
  | none => exact no_none h
  | some y => cases y with
    | ok a σ => exact k a σ rfl h
    | exc c σ => exact kx c σ rfl (Option.some.inj h)
theorem strict1 {x : R α} {o : Out α} (h : x.strict = some o) (k : ∀ a σ, x = some (.ok a σ) → .ok a σ = o → P) : P := bnd h fun a σ q h => k a σ q (Option.some.inj h)
theorem map1 {o : Option α} {f : α → β} {r : β} (h : o.map f = some r) (k : ∀ a, o = some a → f a = r → P) : P := by
  cases o with
  | none => exact no_none h
  | some a => exact k a rfl (Option.some.inj h)
theorem if_els {α : Type} {Q : α → Prop} {c : Prop} [Decidable c] {z x : α} (h1 : Q z) (h2 : Q x) : Q (if c then z else x) := by
  by_cases q : c
  · rw [if_pos q]; exact h1
  · rw [if_neg q]; exact h2
theorem and1 {a b : Bool} (h : (a && b) = true) (k : a = true → b = true → P) : P := by
  cases a with
  | true => exact k rfl h
  | false => exact no_ft h
end

section
variable {σ τ : St} {o : Out PV} {p q v z : PV} {P : Prop} {ρ : PE} {F : Evs}
theorem alloc_inv {l : List PV} (h : alloc l σ = some o) (k : l.length ≤ cap → .ok (.lst σ.length) (σ ++ [l]) = o → P) : P := ite1 h fun q h => k q (Option.some.inj h)
theorem alloc_of {l : List PV} (h : l.length ≤ cap) : alloc l σ = ok (.lst σ.length) (σ ++ [l]) := if_pos h
theorem look_inv {x : Str} (h : ρ.look x = some p) (k1 : ρ.names.lookup x = some .local → ρ.vars.lookup x = some p → P) (k2 : ρ.names.lookup x = some .cell → ρ.vars.lookup x = some p → P)
    (k3 : ρ.names.lookup x = some .free → ρ.vars.lookup x = some p → P) (k4 : ρ.names.lookup x = some .globalImplicit → consts.lookup x = some p → P) : P := by
  unfold PE.look at h
  cases e : ρ.names.lookup x with
  | none => rw [e] at h; exact no_none h
  | some k =>
    rw [e] at h
    cases k with
    | «local» => exact k1 e h
    | cell => exact k2 e h
    | free => exact k3 e h
    | globalImplicit => exact k4 e h
    | _ => exact no_none h
theorem set_inv {x : Str} {vars : Vars} (h : ρ.set x v = some vars) (k1 : ρ.names.lookup x = some .local → upd x v ρ.vars = vars → P) (k2 : ρ.names.lookup x = some .cell → upd x v ρ.vars = vars → P) : P := by
  unfold PE.set at h
  cases e : ρ.names.lookup x with
  | none => rw [e] at h; exact no_none h
  | some k =>
    rw [e] at h
    cases k with
    | «local» => exact k1 e (Option.some.inj h)
    | cell => exact k2 e (Option.some.inj h)
    | _ => exact no_none h
@[elab_as_elim] theorem binop_elim {P : Operator → PV → PV → Prop} {op : Operator} (h : binop op p q σ = some o) (k1 : ∀ op x y z, binInts op x y = some z → .ok (.int z) σ = o → P op (.int x) (.int y))
    (k2 : ∀ i j l m, σ[i]? = some l → σ[j]? = some m → alloc (l ++ m) σ = some o → P .Add (.lst i) (.lst j))
    (k3 : ∀ i n v, σ[i]? = some [v] → 0 ≤ n → n ≤ 1000 → alloc (List.replicate n.toNat v) σ = some o → P .Mult (.lst i) (.int n)) : P op p q := by
  cases p
  case int x =>
    cases q
    case int y =>
      have h : (match binInts op x y with | some z => ok (.int z) σ | none => none) = some o := h
      cases e : binInts op x y with
      | none => rw [e] at h; exact no_none h
      | some z => rw [e] at h; exact k1 op x y z e (Option.some.inj h)
    all_goals exact no_none h
  case lst i =>
    cases q
    case lst j =>
      cases op
      case Add =>
        have h : (match σ[i]?, σ[j]? with | some l, some m => alloc (l ++ m) σ | _, _ => none) = some o := h
        cases e1 : σ[i]? with
        | none => rw [e1] at h; exact no_none h
        | some l => cases e2 : σ[j]? with
          | none => rw [e1, e2] at h; exact no_none h
          | some m => rw [e1, e2] at h; exact k2 i j l m e1 e2 h
      all_goals exact no_none h
    case int n =>
      cases op
      case Mult =>
        have h : (match σ[i]? with | some [v] => if decide (0 ≤ n) && decide (n ≤ 1000) then alloc (List.replicate n.toNat v) σ else none | _ => none) = some o := h
        cases e1 : σ[i]? with
        | none => rw [e1] at h; exact no_none h
        | some l =>
          rw [e1] at h
          cases l with
          | nil => exact no_none h
          | cons v r => cases r with
            | nil => exact ite1 h fun hc h => and1 hc fun h0 h1 => k3 i n v e1 (of_decide_eq_true h0) (of_decide_eq_true h1) h
            | cons => exact no_none h
      all_goals exact no_none h
    all_goals exact no_none h
  all_goals exact no_none h
theorem binop_no {op : Operator} {k : Str} (h : binop op p q σ = some (.exc k τ)) : P := binop_elim (P := fun _ _ _ => P) h (fun _ _ _ _ _ h => nomatch h) (fun _ _ _ _ _ _ h => alloc_inv h fun _ h => nomatch h) fun _ _ _ _ _ _ h => alloc_inv h fun _ h => nomatch h
theorem listD_inv {f : PV → Option PyData} {l : List PV} {ds : List PyData} (h : listD f (p :: l) = some ds) (k : ∀ d ds', f p = some d → listD f l = some ds' → d :: ds' = ds → P) : P := by
  have h : (match f p, listD f l with | some d, some ds => some (d :: ds) | _, _ => none) = some ds := h
  cases e1 : f p with
  | none => rw [e1] at h; exact no_none h
  | some d => cases e2 : listD f l with
    | none => rw [e1, e2] at h; exact no_none h
    | some m => rw [e1, e2] at h; exact k d m e1 e2 (Option.some.inj h)
theorem listD_cons {f : PV → Option PyData} {l : List PV} {d : PyData} {ds : List PyData} (h1 : f p = some d) (h2 : listD f l = some ds) : listD f (p :: l) = some (d :: ds) := by
  show (match f p, listD f l with | some d, some ds => some (d :: ds) | _, _ => none) = _
  rw [h1, h2]
theorem toD_lst_inv {n i : Nat} {d : PyData} (h : toD σ (n + 1) (.lst i) = some d) (k : ∀ l ds, σ[i]? = some l → listD (toD σ n) l = some ds → .list ds = d → P) : P := by
  have h : (match σ[i]? with | some l => (listD (toD σ n) l).map .list | none => none) = some d := h
  cases e1 : σ[i]? with
  | none => rw [e1] at h; exact no_none h
  | some l => rw [e1] at h; exact map1 h fun ds hd h => k l ds e1 hd h
theorem pyEq_inv {c : Bool} (h : pyEq σ p q = some c) (k : ∀ da db, toD σ 8 p = some da → toD σ 8 q = some db → PyData.eqv da db = c → P) : P := by
  unfold pyEq at h
  cases e1 : toD σ 8 p with
  | none => rw [e1] at h; exact no_none h
  | some d => cases e2 : toD σ 8 q with
    | none => rw [e1, e2] at h; exact no_none h
    | some m => rw [e1, e2] at h; exact k d m e1 e2 (Option.some.inj h)
@[elab_as_elim] theorem in_elim {P : PV → PV → Prop} {c : Bool} (h : cmpVals .In p q σ = some c) (k : ∀ x i l ns, σ[i]? = some l → allInts l = some ns → ns.any (· == x) = c → P (.int x) (.lst i)) : P p q := by
  cases p
  case int x =>
    cases q
    case lst i =>
      have h : (match σ[i]? with | some l => (allInts l).map fun ns => ns.any (· == x) | none => none) = some c := h
      cases e1 : σ[i]? with
      | none => rw [e1] at h; exact no_none h
      | some l => rw [e1] at h; exact map1 h fun ns hd h => k x i l ns e1 hd h
    all_goals exact no_none h
  all_goals exact no_none h
@[elab_as_elim] theorem cmp_elim {P : PV → PV → Prop} {op : CmpOp} {c : Bool} (h : cmp op p q σ = some c) (k1 : ∀ x y, cmpInts op x y = some c → P (.int x) (.int y)) (k2 : cmpVals op p q σ = some c → P p q) : P p q := by
  cases p
  case int x =>
    cases q
    case int y => exact k1 x y h
    all_goals exact k2 h
  all_goals exact k2 h
@[elab_as_elim] theorem getItem_elim {P : PV → PV → Prop} (h : getItem p q σ = some o) (k1 : ∀ i n l v, 0 ≤ n → n ≤ 1000000 → σ[i]? = some l → l[n.toNat]? = some v → .ok v σ = o → P (.lst i) (.int n))
    (k2 : ∀ l n v, 0 ≤ n → n ≤ 1000000 → l[n.toNat]? = some v → .ok v σ = o → P (.tup l) (.int n)) : P p q := by
  cases p
  case lst i =>
    cases q
    case int n =>
      refine ite1 (c := (decide (0 ≤ n) && decide (n ≤ 1000000)) = true) h fun hc h => and1 hc fun h0 h1 => ?_
      have h : (match σ[i]? with | some l => (match l[n.toNat]? with | some v => ok v σ | none => none) | none => none) = some o := h
      cases e1 : σ[i]? with
      | none => rw [e1] at h; exact no_none h
      | some l =>
        rw [e1] at h
        have h : (match l[n.toNat]? with | some v => ok v σ | none => none) = some o := h
        cases e2 : l[n.toNat]? with
        | none => rw [e2] at h; exact no_none h
        | some v => rw [e2] at h; exact k1 i n l v (of_decide_eq_true h0) (of_decide_eq_true h1) e1 e2 (Option.some.inj h)
    all_goals exact no_none h
  case tup l =>
    cases q
    case int n =>
      refine ite1 (c := (decide (0 ≤ n) && decide (n ≤ 1000000)) = true) h fun hc h => and1 hc fun h0 h1 => ?_
      have h : (match l[n.toNat]? with | some v => ok v σ | none => none) = some o := h
      cases e2 : l[n.toNat]? with
      | none => rw [e2] at h; exact no_none h
      | some v => rw [e2] at h; exact k2 l n v (of_decide_eq_true h0) (of_decide_eq_true h1) e2 (Option.some.inj h)
    all_goals exact no_none h
  all_goals exact no_none h
theorem getItem_no {k : Str} (h : getItem p q σ = some (.exc k τ)) : P := getItem_elim (P := fun _ _ => P) h (fun _ _ _ _ _ _ _ _ h => nomatch h) fun _ _ _ _ _ _ h => nomatch h
@[elab_as_elim] theorem setItem_elim {P : PV → PV → Prop} (h : setItem p q v σ = some τ) (k : ∀ i n l, σ[i]? = some l → 0 ≤ n → n.toNat < l.length → l.length ≤ cap → σ.set i (l.set n.toNat v) = τ → P (.lst i) (.int n)) : P p q := by
  cases p
  case lst i =>
    cases q
    case int n =>
      have h : (match σ[i]? with | some l => if decide (0 ≤ n) && decide (n.toNat < l.length) && decide (l.length ≤ cap) then some (σ.set i (l.set n.toNat v)) else none | none => none) = some τ := h
      cases e1 : σ[i]? with
      | none => rw [e1] at h; exact no_none h
      | some l =>
        rw [e1] at h
        exact ite1 h fun hc h => and1 hc fun hc h2 => and1 hc fun h0 h1 => k i n l e1 (of_decide_eq_true h0) (of_decide_eq_true h1) (of_decide_eq_true h2) (Option.some.inj h)
    all_goals exact no_none h
  all_goals exact no_none h

@[elab_as_elim] theorem bLen_elim {P : List PV → Prop} {vs : List PV} (h : bLen vs σ = some o) (k : ∀ i l, σ[i]? = some l → l.length ≤ cap → .ok (.int l.length) σ = o → P [.lst i]) : P vs := by
  cases vs with
  | nil => exact no_none h
  | cons p r =>
    cases p
    case lst i =>
      cases r with
      | nil =>
        have h : (match σ[i]? with | some l => if l.length ≤ cap then ok (PV.int l.length) σ else none | none => none) = some o := h
        cases e1 : σ[i]? with
        | none => rw [e1] at h; exact no_none h
        | some l => rw [e1] at h; exact ite1 h fun hc h => k i l e1 hc (Option.some.inj h)
      | cons => exact no_none h
    all_goals exact no_none h
@[elab_as_elim] theorem bAbs_elim {P : List PV → Prop} {vs : List PV} (h : bAbs vs σ = some o) (k : ∀ x, .ok (.int (if x < 0 then -x else x)) σ = o → P [.int x]) : P vs := by
  cases vs with
  | nil => exact no_none h
  | cons p r =>
    cases p
    case int x =>
      cases r with
      | nil => exact k x (Option.some.inj h)
      | cons => exact no_none h
    all_goals exact no_none h
@[elab_as_elim] theorem bRange_elim {P : List PV → Prop} {vs : List PV} (h : bRange vs σ = some o) (k1 : ∀ n, smallInt n = true → .ok (.rng 0 n) σ = o → P [.int n]) (k2 : ∀ a b, smallInt a = true → smallInt b = true → .ok (.rng a b) σ = o → P [.int a, .int b]) : P vs := by
  cases vs with
  | nil => exact no_none h
  | cons p r =>
    cases p
    case int x =>
      cases r with
      | nil => exact ite1 (c := smallInt x = true) h fun hc h => k1 x hc (Option.some.inj h)
      | cons q r =>
        cases q
        case int y =>
          cases r with
          | nil => exact ite1 (c := (smallInt x && smallInt y) = true) h fun hc h => and1 hc fun h1 h2 => k2 x y h1 h2 (Option.some.inj h)
          | cons => exact no_none h
        all_goals exact no_none h
    all_goals exact no_none h
@[elab_as_elim] theorem bList_elim {P : List PV → Prop} {vs : List PV} (h : bList vs σ = some o) (k1 : ∀ i l, σ[i]? = some l → alloc l σ = some o → P [.lst i]) (k2 : ∀ lo hi, hi - lo ≤ 1000 → alloc (rangeInts lo hi) σ = some o → P [.rng lo hi]) : P vs := by
  cases vs with
  | nil => exact no_none h
  | cons p r =>
    cases p
    case lst i =>
      cases r with
      | nil =>
        have h : (match σ[i]? with | some l => alloc l σ | none => none) = some o := h
        cases e1 : σ[i]? with
        | none => rw [e1] at h; exact no_none h
        | some l => rw [e1] at h; exact k1 i l e1 h
      | cons => exact no_none h
    case rng lo hi =>
      cases r with
      | nil => exact ite1 (c := decide (hi - lo ≤ 1000) = true) h fun hc h => k2 lo hi (of_decide_eq_true hc) h
      | cons => exact no_none h
    all_goals exact no_none h
@[elab_as_elim] theorem two_elim {P : List PV → Prop} {vs : List PV} {f : List PV → R PV} (hf : ∀ vs, f vs = bMin vs σ ∨ f vs = bMax vs σ) (h : f vs = some o) (k : ∀ a b, f [.int a, .int b] = some o → P [.int a, .int b]) : P vs := by
  have no : (bMin vs σ = none ∧ bMax vs σ = none) → P vs := fun e => (hf vs).elim (fun q => no_none (e.1.symm.trans (q.symm.trans h))) fun q => no_none (e.2.symm.trans (q.symm.trans h))
  cases vs with
  | nil => exact no ⟨rfl, rfl⟩
  | cons p r =>
    cases p
    case int x =>
      cases r with
      | nil => exact no ⟨rfl, rfl⟩
      | cons q r =>
        cases q
        case int y =>
          cases r with
          | nil => exact k x y h
          | cons => exact no ⟨rfl, rfl⟩
        all_goals exact no ⟨rfl, rfl⟩
    all_goals exact no ⟨rfl, rfl⟩
@[elab_as_elim] theorem bSum_elim {P : List PV → Prop} {vs : List PV} (h : bSum vs σ = some o) (k : ∀ i l ns, σ[i]? = some l → allInts l = some ns → .ok (.int ns.sum) σ = o → P [.lst i]) : P vs := by
  cases vs with
  | nil => exact no_none h
  | cons p r =>
    cases p
    case lst i =>
      cases r with
      | nil =>
        have h : (match σ[i]? with | some l => (match allInts l with | some ns => ok (PV.int ns.sum) σ | none => none) | none => none) = some o := h
        cases e1 : σ[i]? with
        | none => rw [e1] at h; exact no_none h
        | some l =>
          rw [e1] at h
          have h : (match allInts l with | some ns => ok (PV.int ns.sum) σ | none => none) = some o := h
          cases e2 : allInts l with
          | none => rw [e2] at h; exact no_none h
          | some ns => rw [e2] at h; exact k i l ns e1 e2 (Option.some.inj h)
      | cons => exact no_none h
    all_goals exact no_none h

theorem evList_inv {f : Expr → St → R PV} {x : Expr} {es : List Expr} {o : Out (List PV)} (h : evList f (x :: es) σ = some o) (k : ∀ p σ₁ ps σ₂, ¬ isStar x = true → f x σ = some (.ok p σ₁) → evList f es σ₁ = some (.ok ps σ₂) → .ok (p :: ps) σ₂ = o → P) : P :=
  ite2 (c := isStar x = true) h fun q h => bnd (x := f x σ) h fun p σ₁ h1 h => bnd (x := evList f es σ₁) h fun ps σ₂ h2 h => k p σ₁ ps σ₂ q h1 h2 (Option.some.inj h)
@[elab_as_elim] theorem put_elim {P : PV → Prop} {v : PV} (h : (match p with
    | .lst i => match σ[i]? with
      | some l => if l.length < cap then ok PV.none (σ.set i (l ++ [v])) else none
      | none => none
    | _ => none) = some o) (k : ∀ i l, σ[i]? = some l → l.length < cap → .ok .none (σ.set i (l ++ [v])) = o → P (.lst i)) : P p := by
  cases p
  case lst i =>
    have h : (match σ[i]? with | some l => if l.length < cap then ok PV.none (σ.set i (l ++ [v])) else none | none => none) = some o := h
    cases e1 : σ[i]? with
    | none => rw [e1] at h; exact no_none h
    | some l => rw [e1] at h; exact ite1 h fun hc h => k i l e1 hc (Option.some.inj h)
  all_goals exact no_none h
theorem cut_inv {l : List PV} {P : Prop} {n : Int} {a : Nat} {f : List PV → Nat → List PV} (h : (if decide (0 ≤ n) && decide (n ≤ 1000) then (match σ[a]? with | some l => if l.length ≤ cap then alloc (f l n.toNat) σ else none | none => none) else none) = some o)
    (k : ∀ l, 0 ≤ n → σ[a]? = some l → l.length ≤ cap → alloc (f l n.toNat) σ = some o → P) : P := by
  refine ite1 h fun hc h => and1 hc fun h0 _ => ?_
  cases e1 : σ[a]? with
  | none => rw [e1] at h; exact no_none h
  | some l => rw [e1] at h; exact ite1 h fun hc h => k l (of_decide_eq_true h0) e1 hc h
@[elab_as_elim] theorem cutOf_elim {P : Expr → Cut → Prop} (sl : Expr) (k1 : ∀ u p, P (.Slice none (some u) none p) (.upto u)) (k2 : ∀ u p, P (.Slice (some u) none none p) (.from u)) (k3 : ∀ i, isSlice i = false → P i (.item i)) (k4 : ∀ i, P i .bad) : P sl (cutOf sl) := by
  cases sl
  case Slice lo hi st p =>
    cases lo with
    | none => cases hi with
      | none => exact k4 _
      | some u => cases st with
        | none => exact k1 u p
        | some => exact k4 _
    | some u => cases hi with
      | none => cases st with
        | none => exact k2 u p
        | some => exact k4 _
      | some => exact k4 _
  all_goals exact k3 _ rfl
theorem sub_go {a n : PV} {σ : St} {f : List PV → Nat → List PV} {P : Prop} (h : (match a, n with
      | .lst i, .int n => if decide (0 ≤ n) && decide (n ≤ 1000) then (match σ[i]? with | some l => if l.length ≤ cap then alloc (f l n.toNat) σ else none | none => none) else none
      | _, _ => none) = some o) (k : ∀ i m l, a = .lst i → n = .int m → 0 ≤ m → σ[i]? = some l → l.length ≤ cap → alloc (f l m.toNat) σ = some o → P) : P := by
  cases a with
  | lst i => cases n with
    | int n => exact cut_inv (l := []) h fun l h0 e1 hc h => k i n l rfl rfl h0 e1 hc h
    | _ => exact no_none h
  | _ => exact no_none h
@[elab_as_elim] theorem sub_elim {P : Expr → Prop} {sl : Expr} {a : PV} {σ : St} (h : (match cutOf sl with
    | .upto u => (F.e u ρ σ).bind fun n σ₂ => match a, n with
      | .lst i, .int n => if decide (0 ≤ n) && decide (n ≤ 1000) then (match σ₂[i]? with | some l => if l.length ≤ cap then alloc (l.take n.toNat) σ₂ else none | none => none) else none
      | _, _ => none
    | .from u => (F.e u ρ σ).bind fun n σ₂ => match a, n with
      | .lst i, .int n => if decide (0 ≤ n) && decide (n ≤ 1000) then (match σ₂[i]? with | some l => if l.length ≤ cap then alloc (l.drop n.toNat) σ₂ else none | none => none) else none
      | _, _ => none
    | .item i => (F.e i ρ σ).bind fun k σ₂ => getItem a k σ₂
    | .bad => none) = some o)
    (k1 : ∀ u p i m l σ₂, a = .lst i → F.e u ρ σ = some (.ok (.int m) σ₂) → 0 ≤ m → σ₂[i]? = some l → l.length ≤ cap → alloc (l.take m.toNat) σ₂ = some o → P (.Slice none (some u) none p))
    (k2 : ∀ u p i m l σ₂, a = .lst i → F.e u ρ σ = some (.ok (.int m) σ₂) → 0 ≤ m → σ₂[i]? = some l → l.length ≤ cap → alloc (l.drop m.toNat) σ₂ = some o → P (.Slice (some u) none none p))
    (k3 : ∀ i k σ₂, isSlice i = false → F.e i ρ σ = some (.ok k σ₂) → getItem a k σ₂ = some o → P i) : P sl := by
  revert h
  refine cutOf_elim sl (fun u p h => ?_) (fun u p h => ?_) (fun i hi h => ?_) (fun i h => ?_)
  · refine bnd (x := F.e u ρ σ) h fun n σ₂ h2 h => sub_go (f := fun l n => l.take n) h fun i m l ea en h0 e1 hc hz => ?_
    subst en
    exact k1 u p i m l σ₂ ea h2 h0 e1 hc hz
  · refine bnd (x := F.e u ρ σ) h fun n σ₂ h2 h => sub_go (f := fun l n => l.drop n) h fun i m l ea en h0 e1 hc hz => ?_
    subst en
    exact k2 u p i m l σ₂ ea h2 h0 e1 hc hz
  · exact bnd (x := F.e i ρ σ) h fun k σ₂ h2 h => k3 _ k σ₂ hi h2 h
  · exact no_none h
@[elab_as_elim] theorem evCmp_elim {P : List CmpOp → List Expr → Prop} {l : Expr} {ops : List CmpOp} {cs : List Expr} {o : Out Bool} (h : evCmp F l ops cs ρ σ = some o)
    (k : ∀ op y a σ₁ b σ₂ c, plainIter y = true → F.e l ρ σ = some (.ok a σ₁) → F.e y ρ σ₁ = some (.ok b σ₂) → cmp op a b σ₂ = some c → .ok c σ₂ = o → P [op] [y]) : P ops cs := by
  cases ops with
  | nil => exact no_none h
  | cons op ops => cases ops with
    | cons => cases cs with
      | nil => exact no_none h
      | cons => exact no_none h
    | nil => cases cs with
      | nil => exact no_none h
      | cons y cs => cases cs with
        | cons => exact no_none h
        | nil =>
          refine ite1 (c := plainIter y = true) h fun hp h => bnd (x := F.e l ρ σ) h fun a σ₁ h1 h => bnd (x := F.e y ρ σ₁) h fun b σ₂ h2 h => ?_
          have h : (match cmp op a b σ₂ with | some c => ok c σ₂ | none => none) = some o := h
          cases e : cmp op a b σ₂ with
          | none => rw [e] at h; exact no_none h
          | some c => rw [e] at h; exact k op y a σ₁ b σ₂ c hp h1 h2 e (Option.some.inj h)
@[elab_as_elim] theorem enumArg_elim {P : Expr → Prop} {x a : Expr} (h : enumArg ρ x = some a) (k : ∀ np pos, ρ.isGlobal "enumerate" = true → isStar a = false → P (.Call (.Name "enumerate" np) [a] [] pos)) : P x := by
  cases x
  case Call f args kws pos =>
    cases f
    case Name f np =>
      cases args with
      | nil => exact no_none h
      | cons b r => cases r with
        | cons => exact no_none h
        | nil => cases kws with
          | cons => exact no_none h
          | nil =>
            refine ite1 (c := (f == "enumerate" && ρ.isGlobal f && !isStar b) = true) h fun hc h => and1 hc fun hc hs => and1 hc fun hf hg => ?_
            cases h
            have hf := beq_iff_eq.mp hf
            subst hf
            exact k np pos hg (by simpa using hs)
    all_goals exact no_none h
  all_goals exact no_none h
theorem iterOf_inv {x : Expr} {o : Out It} (h : iterOf F x ρ σ = some o) (k1 : ∀ a i σ₁, enumArg ρ x = some a → F.e a ρ σ = some (.ok (.lst i) σ₁) → .ok (.enm i) σ₁ = o → P)
    (k2 : ∀ p it σ₁, plainIter x = true → F.e x ρ σ = some (.ok p σ₁) → itOf p = some it → .ok it σ₁ = o → P) : P := by
  unfold iterOf at h
  cases e : enumArg ρ x with
  | some a =>
    rw [e] at h
    refine bnd (x := F.e a ρ σ) h fun v σ₁ h1 h => ?_
    cases v with
    | lst i => exact k1 a i σ₁ e h1 (Option.some.inj h)
    | _ => exact no_none h
  | none =>
    rw [e] at h
    refine ite1 (c := plainIter x = true) h fun hp h => bnd (x := F.e x ρ σ) h fun v σ₁ h1 h => ?_
    have h : (match itOf v with | some it => ok it σ₁ | none => none) = some o := h
    cases e2 : itOf v with
    | none => rw [e2] at h; exact no_none h
    | some it => rw [e2] at h; exact k2 v it σ₁ hp h1 e2 (Option.some.inj h)
theorem assignNames_inv {x : Str} {pos : Pos} {ts : List Expr} {ps : List PV} {vars : Vars} (h : assignNames ρ (.Name x pos :: ts) (p :: ps) = some vars) (k : ∀ V, ρ.set x p = some V → assignNames { ρ with vars := V } ts ps = some vars → P) : P := by
  have h : (match ρ.set x p with | some V => assignNames { ρ with vars := V } ts ps | none => none) = some vars := h
  cases e : ρ.set x p with
  | none => rw [e] at h; exact no_none h
  | some V => rw [e] at h; exact k V e h
section
variable {target elt test : Expr} {body : List Stmt} {ifs : List Expr} {it : It} {n k : Nat}
theorem for_succ : forLoop F target body it (n + 1) k ρ σ = match nextAt σ it k with
    | none => ok (.next, ρ.vars) σ
    | some v => match assignLoop target ρ v with
      | none => none
      | some vars => (F.s body { ρ with vars := vars } σ).bind fun fv σ₁ => match fv.1 with
        | .ret v => ok (.ret v, fv.2) σ₁
        | _ => forLoop F target body it n (k + 1) { ρ with vars := fv.2 } σ₁ := rfl
theorem for_none {o : Out (Fl × Vars)} (h : forLoop F target body it (n + 1) k ρ σ = some o) (e : nextAt σ it k = none) : .ok (.next, ρ.vars) σ = o := by
  rw [for_succ, e] at h; exact Option.some.inj h
theorem for_some {o : Out (Fl × Vars)} (h : forLoop F target body it (n + 1) k ρ σ = some o) (e : nextAt σ it k = some v)
    (K : ∀ vars f V σ₁, assignLoop target ρ v = some vars → F.s body { ρ with vars := vars } σ = some (.ok (f, V) σ₁) → (match f with
        | .ret v => ok (.ret v, V) σ₁
        | _ => forLoop F target body it n (k + 1) { ρ with vars := V } σ₁) = some o → P) : P := by
  rw [for_succ, e] at h
  cases e2 : assignLoop target ρ v with
  | none => exact no_none (show none = some o by rw [← h]; show _ = (match assignLoop target ρ v with | none => none | some vars => _); rw [e2])
  | some vars => exact bnd (x := F.s body { ρ with vars := vars } σ) (show _ = some o by rw [← h]; show _ = (match assignLoop target ρ v with | none => none | some vars => _); rw [e2]) fun fv σ₁ h1 h => K vars fv.1 fv.2 σ₁ e2 h1 h
theorem comp_succ : compLoop F target elt ifs it (n + 1) k ρ σ = match nextAt σ it k with
    | none => ok [] σ
    | some v => match assignLoop target ρ v with
      | none => none
      | some vars => (testAll (fun c σ => F.t c { ρ with vars := vars } σ) ifs σ).bind fun b σ₁ =>
        if b then (F.e elt { ρ with vars := vars } σ₁).bind fun x σ₂ => (compLoop F target elt ifs it n (k + 1) { ρ with vars := vars } σ₂).bind fun xs σ₃ => ok (x :: xs) σ₃
        else compLoop F target elt ifs it n (k + 1) { ρ with vars := vars } σ₁ := rfl
theorem comp_none {o : Out (List PV)} (h : compLoop F target elt ifs it (n + 1) k ρ σ = some o) (e : nextAt σ it k = none) : .ok [] σ = o := by
  rw [comp_succ, e] at h; exact Option.some.inj h
theorem comp_some {o : Out (List PV)} (h : compLoop F target elt ifs it (n + 1) k ρ σ = some o) (e : nextAt σ it k = some v)
    (K : ∀ vars b σ₁, assignLoop target ρ v = some vars → testAll (fun c σ => F.t c { ρ with vars := vars } σ) ifs σ = some (.ok b σ₁) → (if b then (F.e elt { ρ with vars := vars } σ₁).bind fun x σ₂ => (compLoop F target elt ifs it n (k + 1) { ρ with vars := vars } σ₂).bind fun xs σ₃ => ok (x :: xs) σ₃
        else compLoop F target elt ifs it n (k + 1) { ρ with vars := vars } σ₁) = some o → P) : P := by
  rw [comp_succ, e] at h
  cases e2 : assignLoop target ρ v with
  | none => exact no_none (show none = some o by rw [← h]; show _ = (match assignLoop target ρ v with | none => none | some vars => _); rw [e2])
  | some vars => exact bnd (x := testAll (fun c σ => F.t c { ρ with vars := vars } σ) ifs σ) (show _ = some o by rw [← h]; show _ = (match assignLoop target ρ v with | none => none | some vars => _); rw [e2]) fun b σ₁ h1 h => K vars b σ₁ e2 h1 h
end
theorem testAll_inv {f : Expr → St → R Bool} {e : Expr} {r : List Expr} {o : Out Bool} (h : testAll f (e :: r) σ = some o) (k : ∀ b σ₁, f e σ = some (.ok b σ₁) → (if b then testAll f r σ₁ else ok false σ₁) = some o → P) : P := bnd (x := f e σ) h k
@[elab_as_elim] theorem evComp_elim {P : List Comprehension → Prop} {elt : Expr} {gens : List Comprehension} {sc : Scope} (h : evComp F elt gens sc ρ σ = some o)
    (k : ∀ target iter ifs it σ₁ vs σ₂, freeOk ρ sc.names = true → scopeOk sc = true → iterOf F iter ρ σ = some (.ok it σ₁) → fits it target = true → compLoop F target elt ifs it cap 0 (inner ρ sc.names) σ₁ = some (.ok vs σ₂) → vs.length ≤ cap → .ok (.lst σ₂.length) (σ₂ ++ [vs]) = o → P [⟨target, iter, ifs, 0⟩]) : P gens := by
  cases gens with
  | nil => exact no_none h
  | cons g r =>
    obtain ⟨target, iter, ifs, isAsync⟩ := g
    cases r with
    | cons => exact no_none h
    | nil =>
      refine ite1 (c := (freeOk ρ sc.names && scopeOk sc && isAsync == 0) = true) h fun hc h => and1 hc fun hc ha => and1 hc fun hf hs => bnd (x := iterOf F iter ρ σ) h fun it σ₁ h1 h => ite1 (c := fits it target = true) h fun hfit h =>
        bnd (x := compLoop F target elt ifs it cap 0 (inner ρ sc.names) σ₁) h fun vs σ₂ h2 h => alloc_inv h fun hl hz => ?_
      cases beq_iff_eq.mp ha
      exact k target iter ifs it σ₁ vs σ₂ hf hs h1 hfit h2 hl hz
@[elab_as_elim] theorem assign1_elim {P : Expr → Prop} {t : Expr} {v : PV} {o : Out Vars} (h : assign1 F t ρ v σ = some o) (k1 : ∀ x pos V, ρ.set x v = some V → .ok V σ = o → P (.Name x pos))
    (k2 : ∀ a i pos ov σ₁ iv σ₂ σ₃, F.e a ρ σ = some (.ok ov σ₁) → F.e i ρ σ₁ = some (.ok iv σ₂) → setItem ov iv v σ₂ = some σ₃ → .ok ρ.vars σ₃ = o → P (.Subscript a i pos)) : P t := by
  cases t
  case Name x pos =>
    have h : (match ρ.set x v with | some V => ok V σ | none => none) = some o := h
    cases e : ρ.set x v with
    | none => rw [e] at h; exact no_none h
    | some V => rw [e] at h; exact k1 x pos V e (Option.some.inj h)
  case Subscript a i pos =>
    refine ite2 (c := isSlice i = true) h fun _ h => bnd (x := F.e a ρ σ) h fun ov σ₁ h1 h => bnd (x := F.e i ρ σ₁) h fun iv σ₂ h2 h => ?_
    have h : (match setItem ov iv v σ₂ with | some σ₃ => ok ρ.vars σ₃ | none => none) = some o := h
    cases e : setItem ov iv v σ₂ with
    | none => rw [e] at h; exact no_none h
    | some V => rw [e] at h; exact k2 a i pos ov σ₁ iv σ₂ V h1 h2 e (Option.some.inj h)
  all_goals exact no_none h
theorem assignMany_inv {t : Expr} {ts : List Expr} {v : PV} {vs : List PV} {o : Out Vars} (h : assignMany F (t :: ts) (v :: vs) ρ σ = some o) (k : ∀ V σ₁, assign1 F t ρ v σ = some (.ok V σ₁) → assignMany F ts vs { ρ with vars := V } σ₁ = some o → P) : P := bnd (x := assign1 F t ρ v σ) h k
theorem evC_inv {f : Str} {vs : List PV} (h : evC F f vs σ = some o) (k : ∀ d, fnOf f = some d → fnOk d = true → d.params.args.length = vs.length →
      ((F.s d.body { names := d.scope.names, vars := (d.params.args.map (·.arg)).zip vs, lam := withLams f } σ).bindX fun fv σ₁ => match fv.1 with
        | .ret v => ok v σ₁
        | .next => ok .none σ₁
        | .cont => none) = some o → P) : P := by
  unfold evC at h
  cases e : fnOf f with
  | none => rw [e] at h; exact no_none h
  | some d => rw [e] at h; exact ite1 (c := (fnOk d && decide (d.params.args.length = vs.length)) = true) h fun hc h => and1 hc fun h1 h2 => k d e h1 (of_decide_eq_true h2) h
@[elab_as_elim] theorem raise_elim {P : Expr → Prop} {x a b : Expr} (h : raiseArgs ρ x = some (a, b)) (k : ∀ np pos, ρ.isGlobal "CasFail" = true → isStar a = false → isStar b = false → P (.Call (.Name "CasFail" np) [a, b] [] pos)) : P x := by
  cases x
  case Call f args kws pos =>
    cases f
    case Name c np =>
      cases args with
      | nil => exact no_none h
      | cons a' r => cases r with
        | nil => exact no_none h
        | cons b' r => cases r with
          | cons => exact no_none h
          | nil => cases kws with
            | cons => exact no_none h
            | nil =>
              refine ite1 (c := (c == "CasFail" && ρ.isGlobal c && !isStar a' && !isStar b') = true) h fun hc h => and1 hc fun hc hb => and1 hc fun hc ha => and1 hc fun hf hg => ?_
              cases h
              have hf := beq_iff_eq.mp hf
              subst hf
              exact k np pos hg (by simpa using ha) (by simpa using hb)
    all_goals exact no_none h
  all_goals exact no_none h
theorem raise_inv {c : Option Expr} {pos : Pos} {x : Option Expr} {o : Out (Fl × Vars)} (h : evS F (.Raise x c pos) ρ σ = some o)
    (K : ∀ y a b k σ₁ m σ₂, x = some y → c = none → raiseArgs ρ y = some (a, b) → F.e a ρ σ = some (.ok (.str k) σ₁) → F.e b ρ σ₁ = some (.ok (.str m) σ₂) → k.length ≤ 1000 → m.length ≤ 1000 → .exc k σ₂ = o → P) : P := by
  cases x with
  | none => exact no_none h
  | some y => cases c with
    | some => exact no_none h
    | none =>
      have h : (match raiseArgs ρ y with
        | some (a, b) => (F.e a ρ σ).bind fun k σ₁ => (F.e b ρ σ₁).bind fun m σ₂ => match k, m with
          | .str k, .str m => if decide (k.length ≤ 1000) && decide (m.length ≤ 1000) then some (.exc k σ₂) else none
          | _, _ => none
        | none => none) = some o := h
      cases e : raiseArgs ρ y with
      | none => rw [e] at h; exact no_none h
      | some ab =>
        obtain ⟨a, b⟩ := ab
        rw [e] at h
        refine bnd (x := F.e a ρ σ) h fun k σ₁ h1 h => bnd (x := F.e b ρ σ₁) h fun m σ₂ h2 h => ?_
        cases k with
        | str k => cases m with
          | str m => exact ite1 (c := (decide (k.length ≤ 1000) && decide (m.length ≤ 1000)) = true) h fun hc h => and1 hc fun l1 l2 => K y a b k σ₁ m σ₂ rfl rfl e h1 h2 (of_decide_eq_true l1) (of_decide_eq_true l2) (Option.some.inj h)
          | _ => exact no_none h
        | _ => exact no_none h
theorem lambdaOf_inv {args : List Expr} {body : Expr} {sc : Scope} (h : lambdaOf args = some (body, sc)) : ∃ lp, args = [.Lambda ⟨[], [], none, [], [], none, []⟩ body sc lp] := by
  cases args with
  | nil => exact no_none h
  | cons x r =>
    cases x
    case Lambda pr b s lp =>
      obtain ⟨po, ar, va, ko, kwd, ka, dfl⟩ := pr
      cases po with
      | cons => exact no_none h
      | nil => cases ar with
        | cons => exact no_none h
        | nil => cases va with
          | some => exact no_none h
          | none => cases ko with
            | cons => exact no_none h
            | nil => cases kwd with
              | cons => exact no_none h
              | nil => cases ka with
                | some => exact no_none h
                | none => cases dfl with
                  | cons => exact no_none h
                  | nil => cases r with
                    | cons => exact no_none h
                    | nil => cases h; exact ⟨lp, rfl⟩
    all_goals exact no_none h
theorem evAsked_inv {args : List Expr} (h : evAsked F args ρ σ = some o) (k : ∀ body sc lp, args = [.Lambda ⟨[], [], none, [], [], none, []⟩ body sc lp] → ρ.lam = true → freeOk ρ sc.names = true → scopeOk sc = true → sc.names.all (fun x => x.2 == .free || x.2 == .globalImplicit) = true →
      ∀ w, F.e body (inner ρ sc.names) σ = some w → (match w with | .ok v σ₁ => Out.ok v σ₁ | .exc c σ₁ => .ok (.str c) σ₁) = o → P) : P := by
  unfold evAsked at h
  cases e : lambdaOf args with
  | none => rw [e] at h; exact no_none h
  | some bs =>
    obtain ⟨body, sc⟩ := bs
    rw [e] at h
    obtain ⟨lp, hargs⟩ := lambdaOf_inv e
    refine ite1 (c := (ρ.lam && freeOk ρ sc.names && scopeOk sc && sc.names.all (fun x => x.2 == .free || x.2 == .globalImplicit)) = true) h fun hc h => and1 hc fun hc h4 => and1 hc fun hc h3 => and1 hc fun h1 h2 => ?_
    have K := k body sc lp hargs h1 h2 h3 h4
    have h : (match F.e body (inner ρ sc.names) σ with
      | some (.ok v σ₁) => ok v σ₁
      | some (.exc k σ₁) => ok (.str k) σ₁
      | none => none) = some o := h
    cases e2 : F.e body (inner ρ sc.names) σ with
    | none => rw [e2] at h; exact no_none h
    | some w =>
      rw [e2] at h
      exact K w e2 (by cases w <;> exact Option.some.inj h)
end
end Mine
end
section
open PySem PySem.W PyProof.Rows PySem.Calls
namespace Mine


structure Tab where
  P : Addr
  c : Addr
  q : Str

structure Cx where
  w : World
  B : Heap
  mg : Str → Option Value
  mb : Str → Option Value
  tabs : List Tab

noncomputable def Cx.T (C : Cx) : List Addr := C.tabs.map (·.P)

inductive TabOk (h : Heap) (t : Tab) : Prop
  | mk ps (c1 : h.get? t.P = some (tabObj ps)) (c2 : TriplesOk ps.toList) (c3 : ∀ pos cv, codeAmong pos ps.toList = some cv → h.CodeRec cv t.q) : TabOk h t
inductive LstR (μ : List Addr) (i : Nat) (v : Value) : Prop
  | mk a (c1 : v = .ref a) (c2 : μ[i]? = some a) : LstR μ i v
inductive TupR (h : Heap) (P : List Value → Prop) (v : Value) : Prop
  | mk a (vs : Array Value) (c1 : v = .ref a) (c2 : h.IsTuple a vs) (c3 : P vs.toList) : TupR h P v
inductive RngR (h : Heap) (lo hi : Int) (v : Value) : Prop
  | mk a t u x (c1 : v = .ref a) (c2 : IsRange h a lo hi 1 t u x) (c3 : smallInt lo = true ∧ smallInt hi = true) : RngR h lo hi v
inductive ConsR (P : Value → Prop) (Q : List Value → Prop) (vs : List Value) : Prop
  | mk v r (c1 : vs = v :: r) (c2 : P v) (c3 : Q r) : ConsR P Q vs

mutual
noncomputable def VR (h : Heap) (μ : List Addr) : PV → Value → Prop
  | .none, v => v = .none
  | .bool b, v => v = .bool b
  | .int i, v => ∃ t, v = .int i t
  | .str s, v => ∃ t, v = .str s t
  | .lst i, v => LstR μ i v
  | .tup l, v => TupR h (fun w => VRs h μ l w) v
  | .rng lo hi, v => RngR h lo hi v
noncomputable def VRs (h : Heap) (μ : List Addr) : List PV → List Value → Prop
  | [], vs => vs = []
  | p :: l, vs => ConsR (fun v => VR h μ p v) (fun r => VRs h μ l r) vs
end

noncomputable def Keep (X : List Addr) (h h' : Heap) : Prop :=
  ∀ b o, h.get? b = some o → b ∉ X → h'.get? b = some o ∨ ((∃ es n, o.data = .dict es n) ∧ ∃ sl, h'.get? b = some { o with slots := sl })

inductive ItemR (h : Heap) (μ : List Addr) (i : Nat) (l : List PV) : Prop
  | mk a vs n (c1 : μ[i]? = some a) (c2 : h.get? a = some (listOf vs n)) (c3 : VRs h μ l vs.toList) : ItemR h μ i l
inductive FrameR (C : Cx) (h : Heap) (env : Env) : Prop
  | mk (c1 : env.scope.kind ≠ .module) L m (c2 : env.frame = some L) (c3 : C.B.get? L = none) (c4 : h.Ns L m) : FrameR C h env
structure Rel (C : Cx) (frs : List Env) (μ : List Addr) (σ : St) (h : Heap) : Prop where
  base : ∀ b o, C.B.get? b = some o → h.get? b = some o
  len : μ.length = σ.length
  nodup : μ.Nodup
  fresh : ∀ a ∈ μ, C.B.get? a = none
  items : ∀ (i : Nat) (l : List PV), σ[i]? = some l → ItemR h μ i l
  tabs : ∀ t ∈ C.tabs, TabOk h t
  frames : ∀ env ∈ frs, FrameR C h env

structure Ext (C : Cx) (W : List Addr) (h : Heap) (μ : List Addr) (h' : Heap) (μ' : List Addr) : Prop where
  pre : ∃ ν, μ' = μ ++ ν
  new : ∀ a ∈ μ', a ∈ μ ∨ h.get? a = none
  keep : Keep (C.T ++ μ ++ W) h h'
  alive : ∀ b o, h.get? b = some o → ∃ o', h'.get? b = some o'

section
variable {h : Heap} {μ : List Addr} {v : Value} {P : Value → Prop}
@[elab_as_elim] theorem VR.int_elim {i : Int} (x : VR h μ (.int i) v) (k : ∀ t, P (.int i t)) : P v := by obtain ⟨t, rfl⟩ := x; exact k t
@[elab_as_elim] theorem VR.str_elim {i : Str} (x : VR h μ (.str i) v) (k : ∀ t, P (.str i t)) : P v := by obtain ⟨t, rfl⟩ := x; exact k t
@[elab_as_elim] theorem VR.lst_elim {i : Nat} (x : VR h μ (.lst i) v) (k : ∀ a, μ[i]? = some a → P (.ref a)) : P v := by obtain ⟨a, rfl, e⟩ := x; exact k a e
@[elab_as_elim] theorem VR.tup_elim {l : List PV} (x : VR h μ (.tup l) v) (k : ∀ a vs, h.IsTuple a vs → VRs h μ l vs.toList → P (.ref a)) : P v := by obtain ⟨a, vs, rfl, e, q⟩ := x; exact k a vs e q
@[elab_as_elim] theorem VR.rng_elim {lo hi : Int} (x : VR h μ (.rng lo hi) v) (k : ∀ a t u y, IsRange h a lo hi 1 t u y → smallInt lo = true → smallInt hi = true → P (.ref a)) : P v := by obtain ⟨a, t, u, y, rfl, e, q1, q2⟩ := x; exact k a t u y e q1 q2
variable {vs : List Value} {P : List Value → Prop} {p : PV} {l : List PV}
@[elab_as_elim] theorem VRs.nil_elim (x : VRs h μ [] vs) (k : P []) : P vs := by cases x; exact k
@[elab_as_elim] theorem VRs.cons_elim (x : VRs h μ (p :: l) vs) (k : ∀ v r, VR h μ p v → VRs h μ l r → P (v :: r)) : P vs := by obtain ⟨v, r, rfl, h1, h2⟩ := x; exact k v r h1 h2
@[elab_as_elim] theorem VRs.one_elim (x : VRs h μ [p] vs) (k : ∀ v, VR h μ p v → P [v]) : P vs := VRs.cons_elim x fun v r hv hr => VRs.nil_elim (P := fun r => P (v :: r)) hr (k v hv)
end
theorem Rel.at_ {C frs μ σ h} (r : Rel C frs μ σ h) {i : Nat} {a : Addr} {l : List PV} {P : Prop} (ea : μ[i]? = some a) (hl : σ[i]? = some l) (k : ∀ vs n, h.get? a = some (listOf vs n) → VRs h μ l vs.toList → vs.size = l.length → P) : P := by
  obtain ⟨a', vs, n, e1, e2, e3⟩ := r.items _ _ hl
  rw [ea] at e1; cases e1
  refine k vs n e2 e3 ?_
  have go : ∀ {l : List PV} {ws : List Value}, VRs h μ l ws → ws.length = l.length := fun {l} => by
    induction l with
    | nil => intro ws x; exact VRs.nil_elim x rfl
    | cons p l ih => intro ws x; exact VRs.cons_elim (P := fun ws => ws.length = l.length + 1) x fun v r _ hr => congrArg (· + 1) (ih hr)
  exact (Array.length_toList).symm.trans (go e3)
theorem Rel.here_ {C frs μ σ h} (r : Rel C frs μ σ h) {i : Nat} {a : Addr} {P : Prop} (ea : μ[i]? = some a) (k : ∀ l vs n, σ[i]? = some l → h.get? a = some (listOf vs n) → VRs h μ l vs.toList → vs.size = l.length → P) : P :=
  have hs : i < σ.length := r.len ▸ (List.getElem?_eq_some_iff.mp ea).1
  r.at_ ea (List.getElem?_eq_getElem hs) fun vs n h1 h2 h3 => k _ vs n (List.getElem?_eq_getElem hs) h1 h2 h3
theorem Rel.list_of_mem {C frs μ σ h} (r : Rel C frs μ σ h) {a : Addr} (ha : a ∈ μ) : ∃ (i : Nat) (l : List PV) (vs : Array Value) (n : Nat), σ[i]? = some l ∧ μ[i]? = some a ∧ h.get? a = some (listOf vs n) ∧ VRs h μ l vs.toList := by
  obtain ⟨i, hi, rfl⟩ := List.getElem_of_mem ha
  have hs : i < σ.length := r.len ▸ hi
  obtain ⟨a, vs, n, e1, e2, e3⟩ := r.items i σ[i] (by simp [hs])
  have : μ[i] = a := by simpa [hi] using e1
  subst this
  exact ⟨i, σ[i], vs, n, by simp [hs], by simp [hi], e2, e3⟩

theorem Rel.not_mem {C frs μ σ h} (r : Rel C frs μ σ h) {b : Addr} {o : Obj} (e : h.get? b = some o) (h1 : o.cls ≠ .type "list" ∨ ∀ vs n, o.data ≠ .seq vs n) (h2 : o.cls ≠ .none ∨ ∀ vs, o.data ≠ .fields vs) : b ∉ C.T ++ μ := by
  intro hm
  rcases List.mem_append.mp hm with hm | hm
  · obtain ⟨t, ht, rfl⟩ := List.mem_map.mp hm
    obtain ⟨ps, hp, _⟩ := r.tabs t ht
    rw [hp] at e; cases e
    rcases h2 with h2 | h2
    · exact h2 rfl
    · exact h2 ps rfl
  · obtain ⟨i, l, vs, n, _, _, hl, _⟩ := r.list_of_mem hm
    rw [hl] at e; cases e
    rcases h1 with h1 | h1
    · exact h1 rfl
    · exact h1 vs n rfl

theorem Ext.refl {C : Cx} {W h μ} : Ext C W h μ h μ :=
  ⟨⟨[], by simp⟩, fun a ha => .inl ha, fun b o e _ => .inl e, fun b o e => ⟨o, e⟩⟩

theorem Ext.trans {C : Cx} {W : List Addr} {h : Heap} {μ : List Addr} {h₁ : Heap} {μ₁ : List Addr} {h₂ : Heap} {μ₂ : List Addr} (x : Ext C W h μ h₁ μ₁) (y : Ext C W h₁ μ₁ h₂ μ₂) : Ext C W h μ h₂ μ₂ := by
  obtain ⟨ν, rfl⟩ := x.pre
  obtain ⟨ν', rfl⟩ := y.pre
  refine ⟨⟨ν ++ ν', by simp⟩, fun a ha => ?_, fun b o e hb => ?_, fun b o e => ?_⟩
  · rcases y.new a ha with h1 | h1
    · exact x.new a h1
    · cases q : h.get? a with
      | none => exact .inr rfl
      | some o => obtain ⟨o', ho'⟩ := x.alive a o q; rw [h1] at ho'; cases ho'
  · have hb1 : b ∉ C.T ++ (μ ++ ν) ++ W := by
      simp only [List.mem_append, not_or] at hb ⊢
      refine ⟨⟨hb.1.1, hb.1.2, fun q => ?_⟩, hb.2⟩
      rcases x.new b (List.mem_append_right _ q) with h1 | h1
      · exact hb.1.2 h1
      · rw [h1] at e; cases e
    rcases x.keep b o e hb with h1 | ⟨hf, sl, h1⟩
    · exact y.keep b o h1 hb1
    · rcases y.keep b _ h1 hb1 with h2 | ⟨_, sl2, h2⟩
      · exact .inr ⟨hf, sl, h2⟩
      · exact .inr ⟨hf, sl2, h2⟩
  · obtain ⟨o₁, e₁⟩ := x.alive b o e
    exact y.alive b o₁ e₁

theorem Ext.mono {C : Cx} {W W' h μ h' μ'} (x : Ext C W h μ h' μ') (hW : ∀ b ∈ W, b ∈ W') : Ext C W' h μ h' μ' :=
  ⟨x.pre, x.new, fun b o e hb => x.keep b o e fun q => hb (by
    rcases List.mem_append.mp q with q | q
    · exact List.mem_append_left _ q
    · exact List.mem_append_right _ (hW b q)), x.alive⟩

theorem Ext.wide {C : Cx} {W h μ h' μ'} (x : Ext C [] h μ h' μ') : Ext C W h μ h' μ' := x.mono fun _ q => nomatch q

theorem Ext.drop {C : Cx} {W W' h μ h' μ'} (x : Ext C W h μ h' μ') (hW : ∀ b ∈ W, b ∈ W' ∨ h.get? b = none) : Ext C W' h μ h' μ' :=
  ⟨x.pre, x.new, fun b o e hb => x.keep b o e (fun q => by
    rcases List.mem_append.mp q with q | q
    · exact hb (List.mem_append_left _ q)
    · rcases hW b q with h1 | h1
      · exact hb (List.mem_append_right _ h1)
      · rw [h1] at e; cases e), x.alive⟩

theorem Ext.of_keeps {C : Cx} {W h μ h'} (k : ∀ b o, h.get? b = some o → h'.get? b = some o) : Ext C W h μ h' μ :=
  ⟨⟨[], by simp⟩, fun a ha => .inl ha, fun b o e _ => .inl (k b o e), fun b o e => ⟨o, k b o e⟩⟩

theorem Ext.of_sameBut {C : Cx} {W h μ h'} {a : Addr} {o' : Obj} (s : Heap.SameBut a h h') (ho : h'.get? a = some o') (ha : a ∈ W) : Ext C W h μ h' μ :=
  ⟨⟨[], by simp⟩, fun a ha => .inl ha, fun b o e hb => .inl ((s.2 b fun q => hb (List.mem_append_right _ (q ▸ ha))).trans e), fun b o e => by
    by_cases q : b = a
    · exact ⟨o', q ▸ ho⟩
    · exact ⟨o, (s.2 b q).trans e⟩⟩

theorem Ext.at_ {C : Cx} {W h μ h' μ'} (x : Ext C W h μ h' μ') {i : Nat} {a : Addr} (e : μ[i]? = some a) : μ'[i]? = some a := by
  obtain ⟨ν, rfl⟩ := x.pre
  rw [List.getElem?_append_left]
  · exact e
  · exact (List.getElem?_eq_some_iff.mp e).1

theorem Ext.stays {C : Cx} {W h μ h' μ' frs σ} (r : Rel C frs μ σ h) (x : Ext C W h μ h' μ') {b : Addr} {o : Obj} (e : h.get? b = some o) (h1 : o.cls ≠ .type "list" ∨ ∀ vs n, o.data ≠ .seq vs n)
    (h2 : o.cls ≠ .none ∨ ∀ vs, o.data ≠ .fields vs) (h3 : ∀ es n, o.data ≠ .dict es n) (hW : b ∉ W) : h'.get? b = some o := by
  rcases x.keep b o e (fun q => by
    rcases List.mem_append.mp q with q | q
    · exact r.not_mem e h1 h2 q
    · exact hW q) with h4 | ⟨h4, _⟩
  · exact h4
  · exact absurd h4 (fun ⟨es, n, q⟩ => h3 es n q)

theorem Ext.staysD {C : Cx} {W h μ h' μ' frs σ} (r : Rel C frs μ σ h) (x : Ext C W h μ h' μ') {b : Addr} {o : Obj} (e : h.get? b = some o) (h1 : ∀ vs n, o.data ≠ .seq vs n)
    (h2 : ∀ vs, o.data ≠ .fields vs) (hW : b ∉ W) : ∃ o', h'.get? b = some o' ∧ o'.data = o.data ∧ o'.cls = o.cls ∧ o'.dict = o.dict := by
  rcases x.keep b o e (fun q => by
    rcases List.mem_append.mp q with q | q
    · exact r.not_mem e (.inr h1) (.inr h2) q
    · exact hW q) with h4 | ⟨_, sl, h4⟩
  · exact ⟨o, h4, rfl, rfl, rfl⟩
  · exact ⟨_, h4, rfl, rfl, rfl⟩

theorem Ext.ns {C : Cx} {W h μ h' μ' frs σ} (r : Rel C frs μ σ h) (x : Ext C W h μ h' μ') {a : Addr} {m : Str → Option Value} (hn : h.Ns a m) (hW : a ∉ W) : h'.Ns a m := by
  obtain ⟨o, es, ep, e, hd, hk, hm⟩ := hn
  obtain ⟨o', e', hd', _⟩ := x.staysD r e (fun vs n q => by rw [hd] at q; cases q) (fun vs q => by rw [hd] at q; cases q) hW
  exact ⟨o', es, ep, e', hd'.trans hd, hk, hm⟩

theorem Ext.cell {C : Cx} {W h μ h' μ' frs σ} (r : Rel C frs μ σ h) (x : Ext C W h μ h' μ') {c : Addr} {v : Option Value} (hc : h.IsCell c v) (hW : c ∉ W) : h'.IsCell c v := by
  obtain ⟨o, e, hd⟩ := hc
  obtain ⟨o', e', hd', _⟩ := x.staysD r e (fun vs n q => by rw [hd] at q; cases q) (fun vs q => by rw [hd] at q; cases q) hW
  exact ⟨o', e', hd'.trans hd⟩

noncomputable def WOk (W : List Addr) (h : Heap) : Prop := ∀ b ∈ W, ∀ o, h.get? b = some o → (∀ vs n, o.data ≠ .seq vs n) ∧ (o.cls ≠ .type "range" ∨ ∀ vs, o.data ≠ .fields vs)

theorem WOk.nil {h : Heap} : WOk [] h := fun _ h => nomatch h

mutual
theorem VR.ext {C : Cx} {W h μ h' μ' frs σ} (r : Rel C frs μ σ h) (x : Ext C W h μ h' μ') (hW : WOk W h) : ∀ {p : PV} {v : Value}, VR h μ p v → VR h' μ' p v
  | .none, _, e => e
  | .bool _, _, e => e
  | .int _, _, e => e
  | .str _, _, e => e
  | .lst i, _, ⟨a, e, ea⟩ => ⟨a, e, x.at_ ea⟩
  | .tup l, _, ⟨a, vs, e, ⟨o, ho, hc, hd⟩, hl⟩ =>
    ⟨a, vs, e, ⟨o, x.stays r ho (.inl (by rw [hc]; decide)) (.inl (by rw [hc]; decide)) (fun es n q => by obtain ⟨k, hd⟩ := hd; rw [hd] at q; cases q) fun q => let ⟨n, hd⟩ := hd; (hW a q o ho).1 _ n hd, hc, hd⟩, VRs.ext r x hW hl⟩
  | .rng lo hi, _, ⟨a, t, u, y, e, ho, hs⟩ => ⟨a, t, u, y, e, x.stays r ho (.inl (by intro q; injection q with q; exact absurd q (by decide))) (.inl (fun q => nomatch q)) (fun es n q => nomatch q) fun q => (hW a q _ ho).2.elim (fun z => z rfl) (fun z => z _ rfl), hs⟩
theorem VRs.ext {C : Cx} {W h μ h' μ' frs σ} (r : Rel C frs μ σ h) (x : Ext C W h μ h' μ') (hW : WOk W h) : ∀ {l : List PV} {vs : List Value}, VRs h μ l vs → VRs h' μ' l vs
  | [], _, e => e
  | p :: l, _, ⟨v, rr, e, hp, hl⟩ => ⟨v, rr, e, VR.ext r x hW hp, VRs.ext r x hW hl⟩
end

theorem VRs.length {h μ} : ∀ {l : List PV} {vs : List Value}, VRs h μ l vs → vs.length = l.length
  | [], _, e => by cases e; rfl
  | _ :: _, _, ⟨_, _, e, _, hl⟩ => by subst e; simp [VRs.length hl]

theorem VRs.get {h μ} : ∀ {l : List PV} {vs : List Value}, VRs h μ l vs → ∀ {i : Nat} {p : PV}, l[i]? = some p → ∃ v, vs[i]? = some v ∧ VR h μ p v
  | [], _, _, _, _, q => by simp at q
  | _ :: _, _, ⟨v, r, e, hp, hl⟩, 0, p, q => by
    subst e
    simp at q
    subst q
    exact ⟨v, rfl, hp⟩
  | _ :: _, _, ⟨v, r, e, hp, hl⟩, i + 1, p, q => by
    subst e
    simp only [List.getElem?_cons_succ] at q ⊢
    exact VRs.get hl q

theorem VRs.get_none {h μ} {l : List PV} {vs : List Value} (x : VRs h μ l vs) {i : Nat} (q : l[i]? = none) : vs[i]? = none := by
  have := x.length
  simp only [List.getElem?_eq_none_iff] at q ⊢
  exact fm [_, _, _] [] [.neq (.v 0) (.v 1), .nle (.v 1) (.v 2)] (.nle (.v 0) (.v 2)) [[1, 0, 1, 1]] rfl this q

theorem VRs.append {h μ} : ∀ {l : List PV} {vs : List Value} {m : List PV} {ws : List Value}, VRs h μ l vs → VRs h μ m ws → VRs h μ (l ++ m) (vs ++ ws)
  | [], _, _, _, e, y => by cases e; exact y
  | _ :: _, _, _, _, ⟨v, r, e, hp, hl⟩, y => by
    subst e
    exact ⟨v, r ++ _, rfl, hp, VRs.append hl y⟩

theorem VRs.take {h μ} : ∀ {l : List PV} {vs : List Value} (n : Nat), VRs h μ l vs → VRs h μ (l.take n) (vs.take n)
  | [], _, _, e => by cases e; simp [VRs]
  | _ :: _, _, 0, _ => by simp [VRs]
  | _ :: _, _, n + 1, ⟨v, r, e, hp, hl⟩ => by
    subst e
    exact ⟨v, r.take n, rfl, hp, VRs.take n hl⟩

theorem VRs.drop {h μ} : ∀ {l : List PV} {vs : List Value} (n : Nat), VRs h μ l vs → VRs h μ (l.drop n) (vs.drop n)
  | [], _, _, e => by cases e; simp [VRs]
  | _ :: _, _, 0, hx => hx
  | _ :: _, _, n + 1, ⟨v, r, e, hp, hl⟩ => by
    subst e
    exact VRs.drop n hl

theorem VRs.set {h μ} : ∀ {l : List PV} {vs : List Value} (n : Nat) {p : PV} {v : Value}, VRs h μ l vs → VR h μ p v → VRs h μ (l.set n p) (vs.set n v)
  | [], _, _, _, _, e, _ => by cases e; simp [VRs]
  | _ :: _, _, 0, _, v', ⟨v, r, e, hp, hl⟩, y => by subst e; exact ⟨v', r, rfl, y, hl⟩
  | _ :: _, _, n + 1, _, _, ⟨v, r, e, hp, hl⟩, y => by
    subst e
    exact ⟨v, r.set n _, rfl, hp, VRs.set n hl y⟩

theorem VRs.replicate {h μ} {p : PV} {v : Value} (x : VR h μ p v) : ∀ n : Nat, VRs h μ (List.replicate n p) (List.replicate n v)
  | 0 => by simp [VRs]
  | n + 1 => ⟨v, List.replicate n v, rfl, x, VRs.replicate x n⟩

theorem TabOk.keeps {h h' : Heap} {t : Tab} (x : TabOk h t) (k : ∀ b o, h.get? b = some o → h'.get? b = some o) : TabOk h' t :=
  let ⟨ps, h1, h2, h3⟩ := x; ⟨ps, k _ _ h1, h2, fun pos cv e => (h3 pos cv e).keeps k⟩

theorem Rel.keeps {C frs μ σ h h'} (r : Rel C frs μ σ h) (k : ∀ b o, h.get? b = some o → h'.get? b = some o) : Rel C frs μ σ h' where
  base := fun b o e => k b o (r.base b o e)
  len := r.len
  nodup := r.nodup
  fresh := r.fresh
  items := fun i l e => by
    obtain ⟨a, vs, n, e1, e2, e3⟩ := r.items i l e
    exact ⟨a, vs, n, e1, k _ _ e2, VRs.ext r (Ext.of_keeps (W := []) k) WOk.nil e3⟩
  tabs := fun t ht => (r.tabs t ht).keeps k
  frames := fun env he => by
    obtain ⟨h1, L, m, h2, h3, h4⟩ := r.frames env he
    exact ⟨h1, L, m, h2, h3, h4.keeps k⟩


mutual
theorem VR.grow {h : Heap} {μ ν : List Addr} : ∀ {p : PV} {v : Value}, VR h μ p v → VR h (μ ++ ν) p v
  | .none, _, e => e
  | .bool _, _, e => e
  | .int _, _, e => e
  | .str _, _, e => e
  | .lst i, _, ⟨a, e, ea⟩ => ⟨a, e, by rw [List.getElem?_append_left (List.getElem?_eq_some_iff.mp ea).1]; exact ea⟩
  | .tup l, _, ⟨a, vs, e, ht, hl⟩ => ⟨a, vs, e, ht, VRs.grow hl⟩
  | .rng lo hi, _, e => e
theorem VRs.grow {h : Heap} {μ ν : List Addr} : ∀ {l : List PV} {vs : List Value}, VRs h μ l vs → VRs h (μ ++ ν) l vs
  | [], _, e => e
  | p :: l, _, ⟨v, rr, e, hp, hl⟩ => ⟨v, rr, e, VR.grow hp, VRs.grow hl⟩
end

theorem Rel.snoc {C frs μ σ h} (r : Rel C frs μ σ h) {a : Addr} {l : List PV} {vs : Array Value} {n : Nat} (ha : h.get? a = some (listOf vs n)) (hm : a ∉ μ) (hb : C.B.get? a = none) (hl : VRs h μ l vs.toList) :
    Rel C frs (μ ++ [a]) (σ ++ [l]) h where
  base := r.base
  len := by simp [r.len]
  nodup := by
    rw [List.nodup_append]
    exact ⟨r.nodup, by simp, fun x hx y hy q => by simp at hy; subst hy; exact hm (q ▸ hx)⟩
  fresh := fun b hb' => by
    rcases List.mem_append.mp hb' with q | q
    · exact r.fresh b q
    · simp at q; subst q; exact hb
  items := fun i l' e => by
    by_cases hi : i < σ.length
    · rw [List.getElem?_append_left hi] at e
      obtain ⟨a', vs', n', e1, e2, e3⟩ := r.items i l' e
      exact ⟨a', vs', n', by rw [List.getElem?_append_left (by rw [r.len]; exact hi)]; exact e1, e2, e3.grow⟩
    · have hi' : i = σ.length := by
        have := (List.getElem?_eq_some_iff.mp e).1
        simp at this; exact fm [_, _] [] [.no (.nlt (.v 0) (.v 1)), .nlt (.v 0) (.a (.v 1) (.l 1))] (.neq (.v 0) (.v 1)) [[0, 1, 1], [1, 0, 1]] rfl hi this
      subst hi'
      simp at e
      subst e
      exact ⟨a, vs, n, by rw [← r.len]; simp, ha, hl.grow⟩
  tabs := r.tabs
  frames := r.frames

theorem Ext.snoc {C : Cx} {W h μ h' μ'} (x : Ext C W h μ h' μ') {a : Addr} (ha : h.get? a = none) : Ext C W h μ h' (μ' ++ [a]) := by
  obtain ⟨ν, rfl⟩ := x.pre
  refine ⟨⟨ν ++ [a], by simp⟩, fun b hb => ?_, x.keep, x.alive⟩
  rcases List.mem_append.mp hb with q | q
  · exact x.new b q
  · simp at q; subst q; exact .inr ha

theorem get?_size (h : Heap) : h.get? h.objs.size = none := by
  cases e : h.get? h.objs.size with
  | none => rfl
  | some o => exact absurd (Heap.lt_size e) (Nat.lt_irrefl _)

theorem Rel.size_notin {C frs μ σ h} (r : Rel C frs μ σ h) : h.objs.size ∉ μ := fun q => by
  obtain ⟨_, _, _, _, _, _, e, _⟩ := r.list_of_mem q
  rw [get?_size] at e; cases e

theorem Rel.base_none {C frs μ σ h} (r : Rel C frs μ σ h) {a : Addr} (e : h.get? a = none) : C.B.get? a = none := by
  cases q : C.B.get? a with
  | none => rfl
  | some o => rw [r.base a o q] at e; cases e

theorem Rel.mem_none {C frs μ σ h} (r : Rel C frs μ σ h) {a : Addr} (e : h.get? a = none) : a ∉ μ := fun q => by
  obtain ⟨_, _, _, _, _, _, e', _⟩ := r.list_of_mem q
  rw [e] at e'; cases e'

theorem Rel.put {C frs μ σ h} (r : Rel C frs μ σ h) {i : Nat} {a : Addr} {l' : List PV} {vs vs' : Array Value} {n n' : Nat} (hi : μ[i]? = some a) (ha : h.get? a = some (listOf vs n)) {h' : Heap}
    (hs : Heap.SameBut a h h') (ha' : h'.get? a = some (listOf vs' n')) (hl : VRs h μ l' vs'.toList) : Rel C frs μ (σ.set i l') h' ∧ Ext C [] h μ h' μ := by
  have hmem : a ∈ μ := List.mem_of_getElem? hi
  have other : ∀ b o, b ≠ a → h.get? b = some o → h'.get? b = some o := fun b o hb e => (hs.2 b hb).trans e
  have hk : ∀ b o, C.B.get? b = some o → h'.get? b = some o := fun b o e => other b o (fun q => by rw [q, r.fresh a hmem] at e; cases e) (r.base b o e)
  have x : Ext C [] h μ h' μ := ⟨⟨[], by simp⟩, fun b hb => .inl hb, fun b o e hb => .inl (other b o (fun q => hb (by simp [q, hmem])) e), fun b o e => by
    by_cases q : b = a
    · exact ⟨_, q ▸ ha'⟩
    · exact ⟨o, other b o q e⟩⟩
  have codeKeep : ∀ {cv q}, h.CodeRec cv q → h'.CodeRec cv q := fun {cv q} hc => by
    obtain ⟨c, o, ws, t, e, g, hd, hq⟩ := hc
    exact ⟨c, o, ws, t, e, other c o (fun q' => by rw [q', ha] at g; cases g; cases hd) g, hd, hq⟩
  refine ⟨⟨hk, by simp [r.len], r.nodup, r.fresh, fun j m e => ?_, fun t ht => ?_, ?_⟩, x⟩
  · rw [List.getElem?_set] at e
    by_cases hij : i = j
    · subst hij
      rw [if_pos rfl] at e
      split at e
      · cases e
        exact ⟨a, vs', n', hi, ha', VRs.ext r x WOk.nil hl⟩
      · cases e
    · rw [if_neg hij] at e
      obtain ⟨b, ws, k, e1, e2, e3⟩ := r.items j m e
      refine ⟨b, ws, k, e1, other b _ (fun q => ?_) e2, VRs.ext r x WOk.nil e3⟩
      subst q
      have h1 := List.getElem?_eq_some_iff.mp hi
      have h2 := List.getElem?_eq_some_iff.mp e1
      exact hij ((List.getElem?_inj h1.1 r.nodup).mp (hi.trans e1.symm))
  · obtain ⟨ps, h1, h2, h3⟩ := r.tabs t ht
    exact ⟨ps, other _ _ (fun q => by rw [q, ha] at h1; cases h1) h1, h2, fun pos cv e => codeKeep (h3 pos cv e)⟩
  · intro env he
    obtain ⟨h1, L, m, h2, h3, h4⟩ := r.frames env he
    refine ⟨h1, L, m, h2, h3, h4.sameBut hs fun q => ?_⟩
    obtain ⟨o, es, ep, e, hd, _⟩ := h4
    rw [q, ha] at e; cases e; cases hd

end Mine
end
section
open PySem PySem.W PyProof.Rows PySem.Calls
namespace Mine

structure AOk (A : Around) (n : Nat) (frs : List Env) : Prop where
  handled : A.handled = none
  depth : A.depth + 3 * n < 900
  units : A.units + 40 * n < 9000
  frames : A.frames = some frs

inductive NsR (h : Heap) (μ : List Addr) (env : Env) (ρ : PE) : Prop
  | mk m (c1 : h.Ns env.locals m) (c2 : ∀ x p, ρ.names.lookup x = some .local → ρ.vars.lookup x = some p → ∃ v, m x = some v ∧ VR h μ p v) : NsR h μ env ρ
inductive CellR (h : Heap) (μ : List Addr) (env : Env) (ρ : PE) (x : Str) : Prop
  | mk c v (c1 : env.cells.lookup x = some c) (c2 : h.IsCell c v) (c3 : ∀ p, ρ.vars.lookup x = some p → ∃ w, v = some w ∧ VR h μ p w) : CellR h μ env ρ x
structure EnvRel (C : Cx) (h : Heap) (μ : List Addr) (env : Env) (ρ : PE) : Prop where
  kind : env.scope.kind = .function
  globals : env.globals = mainGlobals
  builtins : env.builtins = builtinsNs
  names : ∀ x, (ρ.names.lookup x ≠ some .free → env.kindOf x = ρ.names.lookup x) ∧ (ρ.names.lookup x = some .free → env.kindOf x = some .cell ∨ env.kindOf x = some .free)
  classdict : ∀ x, ρ.names.lookup x = some .free → (x == ("__classdict__" : Str)) = false
  ns : NsR h μ env ρ
  cell : ∀ x, ρ.names.lookup x = some .cell ∨ ρ.names.lookup x = some .free → CellR h μ env ρ x
  keys : ∀ q ∈ env.cells, env.cells.lookup q.1 = some q.2
  apart : ∀ x y c, env.cells.lookup x = some c → env.cells.lookup y = some c → x = y
  fresh : C.B.get? env.locals = none
  cfresh : ∀ x c, ρ.names.lookup x = some .cell → env.cells.lookup x = some c → C.B.get? c = none
  lam : ρ.lam = true → ∃ t ∈ C.tabs, env.code = .ref t.c ∧ env.qual ++ "<lambda>" = t.q

noncomputable def wr (env : Env) (ρ : PE) : List Addr := env.locals :: (env.cells.filter fun q => ρ.names.lookup q.1 == some .cell).map (·.2)

theorem wr_vars (env : Env) (ρ : PE) (vars : Vars) : wr env { ρ with vars := vars } = wr env ρ := rfl

theorem dict_plain {o : Obj} {es ep} (hd : o.data = .dict es ep) : (∀ vs n, o.data ≠ .seq vs n) ∧ ∀ vs, o.data ≠ .fields vs := by
  rw [hd]
  exact ⟨(fun _ _ q => nomatch q), (fun _ q => nomatch q)⟩
theorem cell_plain {o : Obj} {v} (hd : o.data = .cell v) : (∀ vs n, o.data ≠ .seq vs n) ∧ ∀ vs, o.data ≠ .fields vs := by
  rw [hd]
  exact ⟨(fun _ _ q => nomatch q), (fun _ q => nomatch q)⟩

theorem EnvRel.plain {C h μ env ρ} (e : EnvRel C h μ env ρ) : ∀ b ∈ wr env ρ, ∀ o, h.get? b = some o → (∀ vs n, o.data ≠ .seq vs n) ∧ ∀ vs, o.data ≠ .fields vs := by
  intro b hb o ho
  rcases List.mem_cons.mp hb with rfl | hb
  · obtain ⟨m, ⟨o', es, ep, h1, hd, _⟩, _⟩ := e.ns
    rw [ho] at h1; cases h1
    exact (by first | exact dict_plain hd | exact cell_plain hd)
  · obtain ⟨q, hq, rfl⟩ := List.mem_map.mp hb
    obtain ⟨hq, hc⟩ := List.mem_filter.mp hq
    obtain ⟨c, v, h1, ⟨o', h2, hd⟩, _⟩ := e.cell q.1 (.inl (by simpa using hc))
    have h3 := e.keys q hq
    rw [h1] at h3; cases h3
    rw [ho] at h2; cases h2
    exact (by first | exact dict_plain hd | exact cell_plain hd)

theorem EnvRel.wok {C h μ env ρ} (e : EnvRel C h μ env ρ) : WOk (wr env ρ) h := fun b hb o ho => ⟨(e.plain b hb o ho).1, .inr (e.plain b hb o ho).2⟩

theorem EnvRel.cell_mem {C h μ env ρ} (e : EnvRel C h μ env ρ) {x : Str} {c : Addr} (hx : ρ.names.lookup x = some .cell) (hc : env.cells.lookup x = some c) : c ∈ wr env ρ :=
  List.mem_cons_of_mem _ (List.mem_map.mpr ⟨(x, c), List.mem_filter.mpr ⟨mem_of_lookup hc, by simp [hx]⟩, rfl⟩)

theorem VRs.nil_of {h μ} : VRs h μ [] [] := rfl

mutual
theorem VR.ofBase {B h : Heap} {μ : List Addr} (k : ∀ b o, B.get? b = some o → h.get? b = some o) : ∀ {p : PV} {v : Value}, VR B [] p v → VR h μ p v
  | .none, _, e => e
  | .bool _, _, e => e
  | .int _, _, e => e
  | .str _, _, e => e
  | .lst i, _, ⟨a, e, ea⟩ => by simp at ea
  | .tup l, _, ⟨a, vs, e, ⟨o, ho, r⟩, hl⟩ => ⟨a, vs, e, ⟨o, k _ _ ho, r⟩, VRs.ofBase k hl⟩
  | .rng lo hi, _, ⟨a, t, u, y, e, ho, hs⟩ => ⟨a, t, u, y, e, k _ _ ho, hs⟩
theorem VRs.ofBase {B h : Heap} {μ : List Addr} (k : ∀ b o, B.get? b = some o → h.get? b = some o) : ∀ {l : List PV} {vs : List Value}, VRs B [] l vs → VRs h μ l vs
  | [], _, e => e
  | p :: l, _, ⟨v, rr, e, hp, hl⟩ => ⟨v, rr, e, VR.ofBase k hp, VRs.ofBase k hl⟩
end

theorem EnvRel.ext {C h μ env ρ frs σ h' μ' W} (e : EnvRel C h μ env ρ) (r : Rel C frs μ σ h) (x : Ext C W h μ h' μ') (hW : WOk W h) (hd : env.locals ∉ W) (hc : ∀ q ∈ env.cells, q.2 ∉ W) : EnvRel C h' μ' env ρ where
  kind := e.kind
  globals := e.globals
  builtins := e.builtins
  names := e.names
  classdict := e.classdict
  ns := by
    obtain ⟨m, hn, hv⟩ := e.ns
    exact ⟨m, x.ns r hn hd, fun y p h1 h2 => by
      obtain ⟨v, h3, h4⟩ := hv y p h1 h2
      exact ⟨v, h3, h4.ext r x hW⟩⟩
  cell := fun y hy => by
    obtain ⟨c, v, h1, h2, h3⟩ := e.cell y hy
    exact ⟨c, v, h1, x.cell r h2 (hc (y, c) (mem_of_lookup h1)), fun p hp => by
      obtain ⟨w, h4, h5⟩ := h3 p hp
      exact ⟨w, h4, h5.ext r x hW⟩⟩
  keys := e.keys
  apart := e.apart
  fresh := e.fresh
  cfresh := e.cfresh
  lam := e.lam

theorem EnvRel.ext0 {C h μ env ρ frs σ h' μ'} (e : EnvRel C h μ env ρ) (r : Rel C frs μ σ h) (x : Ext C [] h μ h' μ') : EnvRel C h' μ' env ρ :=
  e.ext r x WOk.nil (fun q => nomatch q) fun _ _ q => nomatch q

inductive DefOk (C : Cx) (f : Str) (d : Fn) : Prop
  | mk a ob fd (c1 : C.mg f = some (.ref a)) (c2 : C.B.get? a = some ob) (c3 : ob.data = .func fd) (c4 : fd.params = d.params) (c5 : fd.body = .stmts d.body) (c6 : fd.scope = d.scope) (c7 : fd.closure = []) (c8 : fd.globals = mainGlobals) (c9 : fd.builtins = builtinsNs) (c10 : fd.defaults = .none)
      (c11 : fd.kwdefaults = .none) (c12 : C.B.CodeRec fd.code fd.qualname) (c13 : withLams f = true → ∃ t ∈ C.tabs, fd.code = .ref t.c ∧ (fd.qualname ++ ".<locals>.") ++ "<lambda>" = t.q) : DefOk C f d

structure Cx.Ok (C : Cx) : Prop where
  defs : ∀ f d, fnOf f = some d → DefOk C f d
  nodebug : C.mg "__debug__" = none
  g : C.B.Ns mainGlobals C.mg
  b : C.B.Ns builtinsNs C.mb
  nolimit : C.B.NoLimit
  consts : ∀ x p, consts.lookup x = some p → ∃ v, C.mg x = some v ∧ VR C.B [] p v
  tabinj : ∀ t ∈ C.tabs, ∀ t' ∈ C.tabs, t.P = t'.P → t = t'
  heads : ∀ t ∈ C.tabs, CodeHd C.B t.c t.P ∧ C.B.BuiltinsAt C.mg t.P ∧ C.B.get? t.P = none
  bi : ∀ x ∈ (["len", "abs", "range", "list", "min", "max", "sum", "enumerate"] : List Str), C.mg x = none ∧ C.mb x = bootBuiltins x

section
variable {C : Cx} {M : Model} {A : Around} {E : Value → Shared → Prop} {s : Shared} {frs : List Env} {μ : List Addr} {σ : St} {env : Env} {ρ : PE}

theorem load_ok (ok : C.Ok) (r : Rel C frs μ σ s.heap) (e : EnvRel C s.heap μ env ρ) {x : Str} {p : PV} {Q : Value → Shared → Prop} (hl : ρ.look x = some p)
    (h : ∀ v, VR s.heap μ p v → Q v s) : wpAny M A (loadName env x) Q E s := by
  have hn := e.names x
  refine look_inv hl (fun hk hl => ?_) (fun hk hl => ?_) (fun hk hl => ?_) (fun hk hl => ?_)
  · obtain ⟨m, hm, hv⟩ := e.ns
    obtain ⟨v, h1, h2⟩ := hv x p hk hl
    exact wpAny_loadName_local e.kind ((hn.1 (by rw [hk]; decide)).trans hk) hm h1 (h v h2)
  · obtain ⟨c, v, h1, h2, h3⟩ := e.cell x (.inl hk)
    obtain ⟨w, rfl, h5⟩ := h3 p hl
    exact wpAny_loadName_cell e.kind ((hn.1 (by rw [hk]; decide)).trans hk) h1 h2 (h w h5)
  · obtain ⟨c, v, h1, h2, h3⟩ := e.cell x (.inr hk)
    obtain ⟨w, rfl, h5⟩ := h3 p hl
    rcases hn.2 hk with h6 | h6
    · exact wpAny_loadName_cell e.kind h6 h1 h2 (h w h5)
    · exact wpAny_loadName_free e.kind h6 h1 h2 (h w h5) (e.classdict x hk)
  · obtain ⟨v, h1, h2⟩ := ok.consts x p hl
    unfold loadName
    simp only [Env.blockKind, e.kind, (hn.1 (by rw [hk]; decide)).trans hk, ScopeKind.isAnnotationScope, Bool.false_and, Bool.false_eq_true, if_false]
    exact loadGlobal_global (mg := C.mg) (by rw [e.globals]; exact ok.g.keeps r.base) h1 (h v (h2.ofBase r.base))

theorem name_ok (ok : C.Ok) (r : Rel C frs μ σ s.heap) (e : EnvRel C s.heap μ env ρ) {x : Str} {pos : Pos} {p : PV} {Q : Value → Shared → Prop} (hl : ρ.look x = some p)
    (hd : (x == ("__debug__" : Str)) = false) (h : ∀ v, VR s.heap μ p v → Q v s) : wpAny M A (eval (.Name x pos) env) Q E s :=
  wpAny_Name (load_ok ok r e hl h) hd

theorem global_ok (ok : C.Ok) (r : Rel C frs μ σ s.heap) (e : EnvRel C s.heap μ env ρ) {x : Str} {pos : Pos} {v : Value} {Q : Value → Shared → Prop} (hg : ρ.isGlobal x = true)
    (hv : C.mg x = some v) (hd : (x == ("__debug__" : Str)) = false) (h : Q v s) : wpAny M A (eval (.Name x pos) env) Q E s := by
  have hk : ρ.names.lookup x = some .globalImplicit := by simpa [PE.isGlobal] using hg
  exact Name_function_global e.kind (((e.names x).1 (by rw [hk]; decide)).trans hk) (loadGlobal_global (mg := C.mg) (by rw [e.globals]; exact ok.g.keeps r.base) hv h) hd

theorem builtin_ok (ok : C.Ok) (r : Rel C frs μ σ s.heap) (e : EnvRel C s.heap μ env ρ) {x : Str} {pos : Pos} {v : Value} {Q : Value → Shared → Prop} (hg : ρ.isGlobal x = true)
    (hm : x ∈ (["len", "abs", "range", "list", "min", "max", "sum", "enumerate"] : List Str)) (hv : bootBuiltins x = some v) (hd : (x == ("__debug__" : Str)) = false) (h : Q v s) :
    wpAny M A (eval (.Name x pos) env) Q E s := by
  have hk : ρ.names.lookup x = some .globalImplicit := by simpa [PE.isGlobal] using hg
  exact Name_function_global e.kind (((e.names x).1 (by rw [hk]; decide)).trans hk)
    (loadGlobal_builtin (mg := C.mg) (mb := C.mb) (by rw [e.globals]; exact ok.g.keeps r.base) (ok.bi x hm).1 (by rw [e.builtins]; exact ok.b.keeps r.base) ((ok.bi x hm).2.trans hv) h) hd
end

theorem lookup_upd (x : Str) (v : PV) : ∀ (l : Vars) (y : Str), (upd x v l).lookup y = if y = x then some v else l.lookup y
  | [], y => by
    by_cases h : y = x
    · simp [upd, List.lookup, h]
    · have : (y == x) = false := beq_eq_false_iff_ne.mpr h
      simp [upd, List.lookup, h, this]
  | (z, w) :: r, y => by
    unfold upd
    by_cases hz : (z == x) = true
    · rw [if_pos hz]
      have hz' : z = x := beq_iff_eq.mp hz
      subst hz'
      by_cases h : y = z
      · simp [List.lookup, h]
      · have : (y == z) = false := beq_eq_false_iff_ne.mpr h
        simp [List.lookup, h, this]
    · rw [if_neg hz]
      have hz' : z ≠ x := fun q => hz (beq_iff_eq.mpr q)
      by_cases h : y = z
      · subst h
        simp [List.lookup, hz']
      · have : (y == z) = false := beq_eq_false_iff_ne.mpr h
        simp only [List.lookup, this]
        exact lookup_upd x v r y

theorem EnvRel.vars {C h μ env ρ} (e : EnvRel C h μ env ρ) {vars : Vars} (hv : ∀ x, vars.lookup x = ρ.vars.lookup x) : EnvRel C h μ env { ρ with vars := vars } where
  kind := e.kind
  globals := e.globals
  builtins := e.builtins
  names := e.names
  classdict := e.classdict
  ns := by
    obtain ⟨m, hn, h1⟩ := e.ns
    exact ⟨m, hn, fun x p h2 h3 => h1 x p h2 ((hv x).symm.trans h3)⟩
  cell := fun x hx => by
    obtain ⟨c, v, h1, h2, h3⟩ := e.cell x hx
    exact ⟨c, v, h1, h2, fun p hp => h3 p ((hv x).symm.trans hp)⟩
  keys := e.keys
  apart := e.apart
  fresh := e.fresh
  cfresh := e.cfresh
  lam := e.lam

section
variable {C : Cx} {M : Model} {A : Around} {E : Value → Shared → Prop} {s : Shared} {frs : List Env} {μ : List Addr} {σ : St} {env : Env} {ρ : PE}

theorem Rel.local_put (r : Rel C frs μ σ s.heap) {a : Addr} {h' : Heap} (hs : Heap.SameBut a s.heap h') (hB : C.B.get? a = none) (o : Obj) (ho : s.heap.get? a = some o) (hd : (∀ vs n, o.data ≠ .seq vs n) ∧ ∀ vs, o.data ≠ .fields vs)
    (o' : Obj) (ho' : h'.get? a = some o') (hf : ∀ m, s.heap.Ns a m → ∃ m', h'.Ns a m') : Rel C frs μ σ h' ∧ Ext C [a] s.heap μ h' μ := by
  have x : Ext C [a] s.heap μ h' μ := Ext.of_sameBut hs ho' (by simp)
  have hW : WOk [a] s.heap := fun b hb o₁ hq => by simp at hb; rw [hb, ho] at hq; cases hq; exact ⟨hd.1, .inr hd.2⟩
  have other : ∀ b o, b ≠ a → s.heap.get? b = some o → h'.get? b = some o := fun b o hb e => (hs.2 b hb).trans e
  refine ⟨⟨fun b o e => other b o (fun q => by rw [q, hB] at e; cases e) (r.base b o e), r.len, r.nodup, r.fresh, fun i l e => ?_, fun t ht => ?_, fun fe he => ?_⟩, x⟩
  · obtain ⟨b, vs, n, e1, e2, e3⟩ := r.items i l e
    exact ⟨b, vs, n, e1, other b _ (fun q => by rw [q, ho] at e2; cases e2; exact hd.1 vs n rfl) e2, VRs.ext r x hW e3⟩
  · obtain ⟨ps, h1, h2, h3⟩ := r.tabs t ht
    refine ⟨ps, other _ _ (fun q => by rw [q, ho] at h1; cases h1; exact hd.2 ps rfl) h1, h2, fun pos cv e => ?_⟩
    obtain ⟨c, o₁, ws, t, e', g, hdd, hq⟩ := h3 pos cv e
    exact ⟨c, o₁, ws, t, e', other c o₁ (fun q' => by rw [q', ho] at g; cases g; exact hd.2 ws hdd) g, hdd, hq⟩
  · obtain ⟨h1, L, m, h2, h3, h4⟩ := r.frames fe he
    by_cases q : L = a
    · subst q
      obtain ⟨m', hm'⟩ := hf m h4
      exact ⟨h1, L, m', h2, h3, hm'⟩
    · exact ⟨h1, L, m, h2, h3, h4.sameBut hs q⟩

theorem store_ok (r : Rel C frs μ σ s.heap) (e : EnvRel C s.heap μ env ρ) {x : Str} {p : PV} {v : Value} {vars : Vars} {Q : Unit → Shared → Prop} (hset : ρ.set x p = some vars) (hv : VR s.heap μ p v)
    (h : ∀ h' t', Rel C frs μ σ h' → Ext C (wr env ρ) s.heap μ h' μ → EnvRel C h' μ env { ρ with vars := vars } → Q () { s with heap := h', toks := t' }) : wpAny M A (storeName env x v) Q E s := by
  have hn := e.names x
  refine set_inv hset (fun hk q => ?_) (fun hk q => ?_)
  · subst q
    obtain ⟨m, hm, hvs⟩ := e.ns
    refine wpAny_storeName_local ((hn.1 (by rw [hk]; decide)).trans hk) hm (fun h' hn' hs => ?_) (by rw [e.kind]; rfl)
    obtain ⟨o, es, ep, ho, hd, _⟩ := id hm
    obtain ⟨o', es', ep', ho', hd', _⟩ := id hn'
    have hdd : (∀ vs n, o.data ≠ .seq vs n) ∧ ∀ vs, o.data ≠ .fields vs := (by first | exact dict_plain hd | exact cell_plain hd)
    obtain ⟨r', x'⟩ := r.local_put hs e.fresh o ho hdd o' ho' fun _ _ => ⟨_, hn'⟩
    have hW : WOk [env.locals] s.heap := fun b hb o₁ hq => by simp at hb; rw [hb, ho] at hq; cases hq; exact ⟨hdd.1, .inr hdd.2⟩
    have hcell : ∀ y c w, env.cells.lookup y = some c → s.heap.IsCell c w → h'.IsCell c w := fun y c w h1 h2 => h2.sameBut hs fun q => by
      obtain ⟨oc, hoc, hdc⟩ := h2
      rw [q, ho] at hoc; cases hoc; rw [hd] at hdc; cases hdc
    refine h h' _ r' (x'.mono fun b hb => by simp at hb; subst hb; exact List.mem_cons_self) ⟨e.kind, e.globals, e.builtins, e.names, e.classdict, ⟨_, hn', fun y q h1 h2 => ?_⟩, fun y hy => ?_, e.keys, e.apart, e.fresh, e.cfresh, e.lam⟩
    · rw [lookup_upd] at h2
      by_cases hyx : y = x
      · rw [if_pos hyx] at h2; cases h2
        exact ⟨v, by simp [hyx], hv.ext r x' hW⟩
      · rw [if_neg hyx] at h2
        obtain ⟨w, h3, h4⟩ := hvs y q h1 h2
        exact ⟨w, by simp [hyx, h3], h4.ext r x' hW⟩
    · obtain ⟨c, w, h1, h2, h3⟩ := e.cell y hy
      refine ⟨c, w, h1, hcell y c w h1 h2, fun q hq => ?_⟩
      rw [lookup_upd] at hq
      have hyx : y ≠ x := fun q' => by subst q'; rw [hk] at hy; rcases hy with hy | hy <;> cases hy
      rw [if_neg hyx] at hq
      obtain ⟨u, h4, h5⟩ := h3 q hq
      exact ⟨u, h4, h5.ext r x' hW⟩
  · subst q
    obtain ⟨c, w₀, h1, h2, h3⟩ := e.cell x (.inl hk)
    refine wpAny_storeName_cell e.kind ((hn.1 (by rw [hk]; decide)).trans hk) h1 h2 fun h' hc' hs => ?_
    obtain ⟨o, ho, hd⟩ := id h2
    obtain ⟨o', ho', hd'⟩ := id hc'
    have hdd : (∀ vs n, o.data ≠ .seq vs n) ∧ ∀ vs, o.data ≠ .fields vs := (by first | exact dict_plain hd | exact cell_plain hd)
    obtain ⟨r', x'⟩ := r.local_put hs (e.cfresh x c hk h1) o ho hdd o' ho' fun m hm => by
      obtain ⟨o₁, es, ep, ho₁, hd₁, _⟩ := hm
      rw [ho] at ho₁; cases ho₁; rw [hd] at hd₁; cases hd₁
    have hW : WOk [c] s.heap := fun b hb o₁ hq => by simp at hb; rw [hb, ho] at hq; cases hq; exact ⟨hdd.1, .inr hdd.2⟩
    obtain ⟨m, hm, hvs⟩ := e.ns
    have hL : env.locals ≠ c := fun q => by
      obtain ⟨o₁, es, ep, ho₁, hd₁, _⟩ := hm
      rw [q, ho] at ho₁; cases ho₁; rw [hd] at hd₁; cases hd₁
    refine h h' s.toks r' (x'.mono fun b hb => by simp at hb; subst hb; exact e.cell_mem hk h1) ⟨e.kind, e.globals, e.builtins, e.names, e.classdict, ⟨m, hm.sameBut hs hL, fun y q h4 h5 => ?_⟩, fun y hy => ?_, e.keys, e.apart, e.fresh, e.cfresh, e.lam⟩
    · rw [lookup_upd] at h5
      have hyx : y ≠ x := fun q' => by subst q'; rw [hk] at h4; cases h4
      rw [if_neg hyx] at h5
      obtain ⟨w, h6, h7⟩ := hvs y q h4 h5
      exact ⟨w, h6, h7.ext r x' hW⟩
    · by_cases hyx : y = x
      · subst hyx
        refine ⟨c, some v, h1, hc', fun q hq => ?_⟩
        rw [lookup_upd, if_pos rfl] at hq; cases hq
        exact ⟨v, rfl, hv.ext r x' hW⟩
      · obtain ⟨c', w, h4, h5, h6⟩ := e.cell y hy
        refine ⟨c', w, h4, h5.sameBut hs (fun q => hyx (e.apart y x c (q ▸ h4) h1)), fun q hq => ?_⟩
        rw [lookup_upd, if_neg hyx] at hq
        obtain ⟨u, h7, h8⟩ := h6 q hq
        exact ⟨u, h7, h8.ext r x' hW⟩
end

end Mine
end
section
open PySem PySem.W PyProof.Rows PySem.Calls
namespace Mine

abbrev MM (C : Cx) : Model := model PySem.Challenge.pw_pf0050_01 C.w

noncomputable def OkV (C : Cx) (frs : List Env) (s : Shared) (μ : List Addr) (p : PV) (σ' : St) (Q : Value → Shared → Prop) : Prop :=
  ∀ v h' t' μ', Rel C frs μ' σ' h' → Ext C [] s.heap μ h' μ' → VR h' μ' p v → Q v { s with heap := h', toks := t' }

section
variable {C : Cx} {A : Around} {E : Value → Shared → Prop} {s : Shared} {frs : List Env} {μ : List Addr} {σ σ' : St} {n : Nat}

theorem OkV.here {p : PV} {Q : Value → Shared → Prop} (h : OkV C frs s μ p σ Q) (r : Rel C frs μ σ s.heap) {v : Value} {t : Tok} (hv : VR s.heap μ p v) : Q v { s with toks := t } :=
  h v s.heap t μ r Ext.refl hv

theorem OkV.keeps {p : PV} {Q : Value → Shared → Prop} (h : OkV C frs s μ p σ Q) (r : Rel C frs μ σ s.heap) {v : Value} {h' : Heap} {t : Tok} (k : ∀ b o, s.heap.get? b = some o → h'.get? b = some o) (hv : VR h' μ p v) :
    Q v { s with heap := h', toks := t } := h v h' t μ (r.keeps k) (Ext.of_keeps k) hv

theorem OkV.step {p : PV} {Q : Value → Shared → Prop} (h : OkV C frs s μ p σ' Q) {h₁ : Heap} {t₁ : Tok} {μ₁ : List Addr} (x : Ext C [] s.heap μ h₁ μ₁) : OkV C frs { s with heap := h₁, toks := t₁ } μ₁ p σ' Q :=
  fun v h' t' μ' r' x' hv => h v h' t' μ' r' (x.trans x') hv

theorem le_line {k : Nat} (h : k ≤ cap) : k ≤ sizeLine := Nat.le_trans h (by decide)

theorem list_made {l : List PV} {p : PV} (r : Rel C frs μ σ s.heap) (ha : alloc l σ = ok p σ') {h' : Heap} {a : Addr} {vs : Array Value} {k : Nat} (kp : ∀ b o, s.heap.get? b = some o → h'.get? b = some o)
    (hn : s.heap.get? a = none) (hl : h'.get? a = some (listOf vs k)) (hv : VRs h' μ l vs.toList) : Rel C frs (μ ++ [a]) σ' h' ∧ Ext C [] s.heap μ h' (μ ++ [a]) ∧ VR h' (μ ++ [a]) p (.ref a) := by
  refine alloc_inv ha fun _ q => ?_
  injection q with h1 h2
  subst h1 h2
  refine ⟨(r.keeps kp).snoc hl (r.mem_none hn) (r.base_none hn) hv, (Ext.of_keeps kp).snoc hn, a, rfl, ?_⟩
  rw [← r.len]
  simp

theorem alloc_le {l : List PV} {p : PV} (ha : alloc l σ = ok p σ') : l.length ≤ cap := alloc_inv ha fun q _ => q

theorem list_end {l : List PV} {p : PV} {Q : Value → Shared → Prop} (r : Rel C frs μ σ s.heap) (ha : alloc l σ = ok p σ') {h' : Heap} {a : Addr} {vs : Array Value} {k : Nat} {t : Tok} (kp : ∀ b o, s.heap.get? b = some o → h'.get? b = some o)
    (hn : s.heap.get? a = none) (hl : h'.get? a = some (listOf vs k)) (hv : VRs s.heap μ l vs.toList) (h : OkV C frs s μ p σ' Q) : Q (.ref a) { s with heap := h', toks := t } := by
  obtain ⟨h1, h2, h3⟩ := list_made r ha kp hn hl (VRs.ext r (Ext.of_keeps (W := []) kp) WOk.nil hv)
  exact h _ _ _ _ h1 h2 h3

theorem newList_ok {l : List PV} {p : PV} {vs : List Value} {Q : Value → Shared → Prop} (r : Rel C frs μ σ s.heap) (ha : alloc l σ = ok p σ') (hv : VRs s.heap μ l vs) (h : OkV C frs s μ p σ' Q) :
    wpAny (MM C) A (newList vs) Q E s := by
  have hle := alloc_le ha
  refine wpAny_newList ?_ (by rw [hv.length]; exact le_line hle)
  exact list_end (t := s.toks) r ha (fun b o e => Heap.get?_push_of_some _ e) (get?_size _) (Heap.get?_push_size _ rfl) (by simpa using hv) h

theorem newTuple_ok {l : List PV} {vs : List Value} {Q : Value → Shared → Prop} (r : Rel C frs μ σ s.heap) (hle : l.length ≤ cap) (hv : VRs s.heap μ l vs) (h : OkV C frs s μ (.tup l) σ Q) :
    wpAny (MM C) A (newTuple vs) Q E s := by
  refine wpAny_newTuple ?_ (by rw [hv.length]; exact le_line hle)
  have k : ∀ b o, s.heap.get? b = some o → (s.heap.push { cls := .type "tuple", data := .seq vs.toArray }).get? b = some o := fun b o e => Heap.get?_push_of_some _ e
  exact h.keeps (t := s.toks) r k ⟨_, vs.toArray, rfl, ⟨_, Heap.get?_push_size _ rfl, rfl, 0, rfl⟩, by simpa using VRs.ext r (Ext.of_keeps (W := []) k) WOk.nil hv⟩

theorem const_ok {c : Const} {p : PV} {k : Nat} {pos : Pos} {env : Env} {Q : Value → Shared → Prop} (r : Rel C frs μ σ s.heap) (he : evConst c σ = ok p σ') (h : OkV C frs s μ p σ' Q) :
    wpAny (MM C) A (eval (.Constant c k pos) env) Q E s := by
  have go : ∀ {a}, some (Out.ok a σ) = some (.ok p σ') → OkV C frs s μ a σ Q := fun q => ok_back (P := fun z σ => OkV C frs s μ z σ Q) q h
  cases c with
  | none => exact wpAny_Constant_none ((go he).here (t := s.toks) r rfl)
  | bool => exact wpAny_Constant_bool ((go he).here (t := s.toks) r rfl)
  | int => exact wpAny_Constant_int ((go he).here r ⟨_, rfl⟩)
  | str => exact Constant_str ((go he).here r ⟨_, rfl⟩)
  | _ => exact no_none he

theorem intBits_le {x : Int} (h : bitsOk x = true) : Builtin.Int.intBits x ≤ 4000 := by
  have h' : x.natAbs.log2 < 4000 := by simpa [bitsOk] using h
  unfold Builtin.Int.intBits
  split
  · exact fm [] [] [] (.nle (.l 0) (.l 4000)) [[1]] rfl
  · exact fm [_] [] [.nlt (.v 0) (.l 4000)] (.nle (.a (.v 0) (.l 1)) (.l 4000)) [[1, 1]] rfl h'

theorem mulOk {x y : Int} (hx : bitsOk x = true) (hy : bitsOk y = true) : IntMulOk x y := by
  have h1 := intBits_le hx
  have h2 := intBits_le hy
  unfold IntMulOk Builtin.Int.intTooBig
  intro q
  have q2 := (Bool.and_eq_true_iff.mp q).2
  have h3 : bitsLine = 134217728 := by decide
  rw [h3] at q2
  simp only [decide_eq_true_eq] at q2
  exact fm [_, _] [] [.nle (.v 0) (.l 4000), .nle (.v 1) (.l 4000), .ilt (.k (.l 134217728)) (.a (.k (.v 0)) (.k (.v 1)))] .f [[1, 1, 1]] rfl h1 h2 q2

theorem binInts_ok {op : Operator} {x y z : Int} {t u : Tok} {Q : Value → Shared → Prop} (r : Rel C frs μ σ s.heap) (he : binInts op x y = some z) (h : OkV C frs s μ (.int z) σ Q) :
    wpAny (MM C) A (binaryOp op (.int x t) (.int y u)) Q E s := by
  have go : ∀ {a : Int}, some a = some z → OkV C frs s μ (.int a) σ Q := fun q => some_back (P := fun z => OkV C frs s μ (.int z) σ Q) q h
  cases op with
  | Add => exact PySem.P.add_int ((go he).here r ⟨_, rfl⟩)
  | Sub => exact PySem.P.sub_int ((go he).here r ⟨_, rfl⟩)
  | Mult => exact ite1 (c := (bitsOk x && bitsOk y) = true) he fun hb he => and1 hb fun h1 h2 => PySem.P.mul_int ((go he).here r ⟨_, rfl⟩) (mulOk h1 h2)
  | FloorDiv =>
    refine ite1 (c := (y != 0 && bitsOk y) = true) he fun hb he => and1 hb fun h1 h2 => ?_
    have hl : y.natAbs.log2 < 4000 := of_decide_eq_true h2
    exact AutoIntOps.floordiv_1 (by simpa using h1) (by rw [PyProof.noPylong_of_log2 (by exact fm [_] [] [.nlt (.v 0) (.l 4000)] (.nlt (.v 0) (.l 9000)) [[1, 1]] rfl hl)]; decide) ((go he).here r ⟨_, rfl⟩)
  | Mod => exact ite1 (c := (y != 0) = true) he fun hb he => AutoIntOps.mod_1 (by simpa using hb) ((go he).here r ⟨_, rfl⟩)
  | _ => exact no_none he

theorem mulList_ok {v z : PV} {a : Addr} {vs : Array Value} {k : Nat} {m : Int} {t : Tok} {Q : Value → Shared → Prop} (r : Rel C frs μ σ s.heap) (he : alloc (List.replicate m.toNat v) σ = Mine.ok z σ')
    (e2 : s.heap.get? a = some (listOf vs k)) (e3 : VRs s.heap μ [v] vs.toList) (h1 : 0 ≤ m) (h2 : m ≤ 1000) (h : OkV C frs s μ z σ' Q) : wpAny (MM C) A (binaryOp .Mult (.ref a) (.int m t)) Q E s := by
  obtain ⟨w, rr, e4, e5, e6⟩ := e3
  have e6 : rr = [] := e6
  subst e6
  have hvs : vs = #[w] := Array.ext' (by simpa using e4)
  subst hvs
  have hsize : (#[w] : Array Value).size * m.toNat = m.toNat := by simp
  have hfold : List.foldl (fun x1 x2 => x1 ++ x2) #[] (List.replicate (if (#[w] : Array Value).isEmpty = true then 0 else m.toNat) #[w]) = (List.replicate m.toNat w).toArray := by
    rw [listMul_foldl_if]
    have : ∀ n : Nat, (List.replicate n [w]).flatten = List.replicate n w := fun n => by
      induction n with
      | zero => rfl
      | succ n ih => rw [List.replicate_succ, List.flatten_cons, ih, List.replicate_succ]; rfl
    rw [this]
  refine wpAny_binaryOp_repeat_ref (T := "list") (U := "int") (by decide) ⟨_, e2, rfl⟩ (fun s' => typeIs_int s' m t) noFill_list_mul F.fills_int_mul F.slot_int_rmul repeat_list F.slot_int_index.lookup ?_
  refine call_meets F.slot_int_rmul (typeIs_int s m t) F.entry_int_rmul (F.args_int_rmul_2 _ _) (int___rmul___int_list m t a #[w] k) ⟨e2, rfl, ⟨_, e2, rfl⟩, ?_⟩
  refine call_meets F.slot_list_mul ⟨_, e2, rfl⟩ F.entry_list_mul (F.args_list_mul_2 _ _) (AutoListH.list___mul___list_int_3 a #[w] k m t (by simp [Builtin.List.listFitsIndex]; exact fm [] [_] [.ile (.l 0) (.v 0), .ile (.v 0) (.l 1000)] (.an (.ile (.g (.l 9223372036854775808)) (.v 0)) (.ilt (.v 0) (.l 9223372036854775808))) [[1, 0, 1], [0, 1, 1]] rfl h1 h2) (by omega)
    (by rw [hsize]; simp [Builtin.List.listTooLong, sizeLine]; exact fm [] [_] [.ile (.v 0) (.l 1000)] (.ile (.v 0) (.l 16777216)) [[1, 1]] rfl h2)) ⟨e2, ?_⟩
  rw [hfold]
  exact list_end (t := s.toks) r he (fun b o e => Heap.get?_push_of_some _ e) (get?_size _) (Heap.get?_push_size _ rfl) (by simpa using VRs.replicate e5 m.toNat) h

theorem binop_ok {op : Operator} {p q z : PV} {a b : Value} {Q : Value → Shared → Prop} (r : Rel C frs μ σ s.heap) (ha : VR s.heap μ p a) (hb : VR s.heap μ q b) (he : binop op p q σ = Mine.ok z σ')
    (h : OkV C frs s μ z σ' Q) : wpAny (MM C) A (binaryOp op a b) Q E s := by
  refine binop_elim (P := fun op p q => VR s.heap μ p a → VR s.heap μ q b → wpAny (MM C) A (binaryOp op a b) Q E s) he (fun op x y z hz q ha hb => ?_) (fun i j l m hl hm he ha hb => ?_) (fun i m v hl h1 h2 he ha hb => ?_) ha hb
  · injection q with q1 q2
    subst q1 q2
    exact ha.int_elim fun t => hb.int_elim fun u => binInts_ok r hz h
  · refine ha.lst_elim fun a ea => hb.lst_elim fun b eb => r.at_ ea hl fun vs k e2 e3 n1 => r.at_ eb hm fun ws k' e5 e6 n2 => ?_
    have hle := alloc_le he
    refine P.add_list e2 e5 ?_ (by
      rw [List.length_append] at hle
      rw [n1, n2]
      exact le_line hle)
    exact list_end (t := s.toks) r he (fun b o e => Heap.get?_push_of_some _ e) (get?_size _) (Heap.get?_push_size _ rfl) (by simpa using e3.append e6) h
  · exact ha.lst_elim fun a ea => hb.int_elim fun t => r.at_ ea hl fun vs k e2 e3 _ => mulList_ok r he e2 e3 h1 h2 h

theorem leafD_reads {p : PV} {v : Value} {d : PyData} (hv : VR s.heap μ p v) (hd : leafD p = some d) : (∃ as, Reads s.heap v d as) ∧ d.canLay0 = true ∧ d.depth ≤ 0 := by
  cases p with
  | none => cases hd; cases hv; exact ⟨⟨_, .none⟩, by simp [PyData.canLay0], by simp [PyData.depth]⟩
  | bool b => cases hd; cases hv; exact ⟨⟨_, .bool b⟩, by simp [PyData.canLay0], by simp [PyData.depth]⟩
  | int i => cases hd; obtain ⟨t, rfl⟩ := hv; exact ⟨⟨_, .int i t⟩, by simp [PyData.canLay0], by simp [PyData.depth]⟩
  | str x =>
    have hd : (if PyData.strOk x then some (PyData.str x) else none) = some d := hd
    refine ite1 hd fun hx hd => ?_
    cases hd; obtain ⟨t, rfl⟩ := hv; exact ⟨⟨_, .str x t⟩, by simpa [PyData.canLay0] using hx, by simp [PyData.depth]⟩
  | lst i => cases hd
  | tup l => cases hd
  | rng a b => cases hd

theorem listD_reads {f : PV → Option PyData} {k : Nat} (hf : ∀ p v d, VR s.heap μ p v → f p = some d → (∃ as, Reads s.heap v d as) ∧ d.canLay0 = true ∧ d.depth ≤ k) :
    ∀ {l : List PV} {vs : List Value} {ds : List PyData}, VRs s.heap μ l vs → listD f l = some ds → (∃ as, ReadsAll s.heap vs ds as) ∧ PyData.canLayAll0 ds = true ∧ PyData.depthAll ds ≤ k
  | [], _, _, hv, hd => by cases hd; cases hv; exact ⟨⟨_, .nil⟩, by simp [PyData.canLayAll0], by simp [PyData.depthAll]⟩
  | p :: l, _, ds, ⟨v, rr, e, hp, hl⟩, hd => by
    subst e
    refine listD_inv hd fun d ds' h1 h2 hd => ?_
    subst hd
    obtain ⟨⟨as, r1⟩, c1, d1⟩ := hf p v d hp h1
    obtain ⟨⟨bs, r2⟩, c2, d2⟩ := listD_reads hf hl h2
    exact ⟨⟨_, .cons r1 r2⟩, by simp [PyData.canLayAll0, c1, c2], Nat.max_le.mpr ⟨d1, d2⟩⟩

theorem toD_reads (r : Rel C frs μ σ s.heap) : ∀ (n : Nat) {p : PV} {v : Value} {d : PyData}, VR s.heap μ p v → toD σ n p = some d → (∃ as, Reads s.heap v d as) ∧ d.canLay0 = true ∧ d.depth ≤ n
  | 0, p, v, d, hv, hd => leafD_reads hv hd
  | n + 1, p, v, d, hv, hd => by
    cases p
    case lst i =>
      refine toD_lst_inv hd fun l ds hl h1 hd => hv.lst_elim fun a ea => r.at_ ea hl fun vs k e2 e3 _ => ?_
      subst hd
      obtain ⟨⟨as, r1⟩, c1, d1⟩ := listD_reads (fun p v d => toD_reads r n) e3 h1
      exact ⟨⟨_, .list e2 rfl rfl r1⟩, by simpa [PyData.canLay0] using c1, by simp [PyData.depth]; exact fm [_, _] [] [.nle (.v 0) (.v 1)] (.nle (.v 0) (.v 1)) [[1, 1]] rfl d1⟩
    case tup l =>
      obtain ⟨a, vs, rfl, ⟨o, ho, hc, k, hdd⟩, hl⟩ := hv
      refine map1 hd fun ds h1 hd => ?_
      subst hd
      obtain ⟨⟨as, r1⟩, c1, d1⟩ := listD_reads (fun p v d => toD_reads r n) hl h1
      exact ⟨⟨_, .tuple ho hc hdd r1⟩, by simpa [PyData.canLay0] using c1, by simp [PyData.depth]; exact fm [_, _] [] [.nle (.v 0) (.v 1)] (.nle (.v 0) (.v 1)) [[1, 1]] rfl d1⟩
    all_goals
      obtain ⟨h1, h2, h3⟩ := leafD_reads hv hd
      exact ⟨h1, h2, Nat.le_trans h3 (Nat.zero_le _)⟩

theorem pyEq_ok {p q : PV} {a b : Value} {c : Bool} (aok : AOk A n frs) (r : Rel C frs μ σ s.heap) (ha : VR s.heap μ p a) (hb : VR s.heap μ q b) (he : pyEq σ p q = some c) {Q : Value → Shared → Prop} :
    (Q (.bool c) s → wpAny (MM C) A (compareOp .Eq a b) Q E s) ∧ (Q (.bool (!c)) s → wpAny (MM C) A (compareOp .NotEq a b) Q E s) := by
  refine pyEq_inv he fun da db h1 h2 he => ?_
  subst he
  obtain ⟨⟨as, r1⟩, c1, d1⟩ := toD_reads r 8 ha h1
  obtain ⟨⟨bs, r2⟩, c2, d2⟩ := toD_reads r 8 hb h2
  have hu : A.units + min da.depth db.depth < cLine := by
    have := aok.units
    have h3 : cLine = 9900 := rfl
    have h4 : min da.depth db.depth ≤ da.depth := Nat.min_le_left _ _
    exact fm [_, _, _, _, _, _] [] [.nle (.v 0) (.l 8), .nlt (.a (.v 1) (.m 40 (.v 2))) (.l 9000), .neq (.v 3) (.l 9900), .or (.an (.nle (.v 0) (.v 4)) (.neq (.v 5) (.v 0))) (.an (.nle (.v 4) (.v 0)) (.neq (.v 5) (.v 4)))] (.nlt (.a (.v 1) (.v 5)) (.v 3)) [[1, 1, 0, 1, 0, 1, 0, 1], [1, 1, 0, 1, 1, 1, 0, 1]] rfl d1 this h3 (minn _ _)
  exact ⟨fun hq => SeqAt.compareEq_reads r1 r2 c1 c2 hu hq, fun hq => SeqAt.compareNe_reads r1 r2 c1 c2 hu hq⟩

theorem cmpInts_ok {op : CmpOp} {x y : Int} {t u : Tok} {c : Bool} {Q : Value → Shared → Prop} (he : cmpInts op x y = some c) (h : Q (.bool c) s) : wpAny (MM C) A (compareOp op (.int x t) (.int y u)) Q E s := by
  have go : ∀ {a : Bool}, some a = some c → Q (.bool a) s := fun q => some_back (P := fun c => Q (.bool c) s) q h
  cases op with
  | Eq => exact PySem.P.eq_int (go he)
  | NotEq => exact PySem.P.ne_int (go he)
  | Lt => exact PySem.P.lt_int (go he)
  | LtE => exact PySem.P.le_int (go he)
  | Gt => exact PySem.P.gt_int (go he)
  | GtE => exact PySem.P.ge_int (go he)
  | _ => exact no_none he

theorem isNone_ok {p : PV} {a : Value} {c : Bool} (ha : VR s.heap μ p a) (he : isNone p = some c) : plainIs a .none = true ∧ (a == .none) = c := by
  cases p with
  | none => cases he; cases ha; exact ⟨rfl, rfl⟩
  | int => cases he; obtain ⟨t, rfl⟩ := ha; exact ⟨rfl, rfl⟩
  | tup => cases he; obtain ⟨b, vs, rfl, _⟩ := ha; exact ⟨rfl, rfl⟩
  | lst => cases he; obtain ⟨b, rfl, _⟩ := ha; exact ⟨rfl, rfl⟩
  | _ => exact no_none he

theorem allInts_vals : ∀ {l : List PV} {ns : List Int} {vs : List Value}, allInts l = some ns → VRs s.heap μ l vs → IntsAre vs ns
  | [], _, _, e, hv => by cases e; cases hv; exact .nil
  | p :: l, ns, _, e, ⟨v, rr, e', hp, hl⟩ => by
    subst e'
    cases p with
    | int i =>
      obtain ⟨ms, h1, rfl⟩ := Option.map_eq_some_iff.mp (show (allInts l).map (i :: ·) = some ns from e)
      obtain ⟨t, rfl⟩ := hp
      exact .cons i t (allInts_vals h1 hl)
    | _ => cases e

theorem IntsAre.readsAll {h : Heap} : ∀ {vs : List Value} {ns : List Int}, IntsAre vs ns → ReadsAll h vs (ns.map .int) []
  | _, _, .nil => .nil
  | _, _, .cons i t r => .cons (as := []) (.int i t) (IntsAre.readsAll r)

theorem ints_lay : ∀ ns : List Int, PyData.canLayAll0 (ns.map .int) = true ∧ PyData.depthAll (ns.map .int) = 0
  | [] => by simp [PyData.canLayAll0, PyData.depthAll]
  | i :: r => by
    have := ints_lay r
    simp [PyData.canLayAll0, PyData.depthAll, PyData.canLay0, PyData.depth, this.1, this.2]

theorem cmpVals_ok {op : CmpOp} {p q : PV} {a b : Value} {c : Bool} (aok : AOk A n frs) (r : Rel C frs μ σ s.heap) (ha : VR s.heap μ p a) (hb : VR s.heap μ q b) (he : cmpVals op p q σ = some c) {Q : Value → Shared → Prop}
    (h : ∀ t, Q (.bool c) { s with toks := t }) : wpAny (MM C) A (compareOp op a b) Q E s := by
  cases op with
  | Eq => exact (pyEq_ok aok r ha hb he).1 (h s.toks)
  | NotEq => exact map1 he fun d h1 he => (pyEq_ok aok r ha hb h1).2 (he ▸ h s.toks)
  | Is =>
    cases q with
    | none =>
      cases hb
      obtain ⟨h1, h2⟩ := isNone_ok ha he
      exact wpAny_is_plain h1 (by rw [h2]; exact h s.toks)
    | _ => exact no_none he
  | IsNot =>
    cases q with
    | none =>
      cases hb
      refine map1 he fun d h3 he => ?_
      obtain ⟨h1, h2⟩ := isNone_ok ha h3
      exact wpAny_isNot_plain h1 (by rw [h2, he]; exact h s.toks)
    | _ => exact no_none he
  | In =>
    refine in_elim (P := fun p q => VR s.heap μ p a → VR s.heap μ q b → wpAny (MM C) A (compareOp .In a b) Q E s) he (fun x i l ns hl h3 he ha hb => ?_) ha hb
    refine ha.int_elim fun t => hb.lst_elim fun b eb => r.at_ eb hl fun vs k e2 e3 _ => ?_
    have hi := allInts_vals h3 e3
    obtain ⟨l1, l2⟩ := ints_lay ns
    refine SeqAt.in_list_reads (xs := ns.map .int) (.list e2 rfl rfl (IntsAre.readsAll hi)) (.int _ t) l1 (by simp [PyData.canLay0]) ?_ ?_
    · have := aok.units
      have h3 : cLine = 9900 := rfl
      rw [l2, Nat.zero_min]
      exact fm [_, _, _] [] [.nlt (.a (.v 0) (.m 40 (.v 1))) (.l 9000), .neq (.v 2) (.l 9900)] (.nlt (.a (.a (.v 0) (.l 1)) (.l 0)) (.v 2)) [[1, 0, 1, 1]] rfl this h3
    · have e : (ns.map PyData.int).any (fun y => PyData.eqv y (.int x)) = ns.any (· == x) := by
        rw [List.any_map]
        congr 1
      rw [e, he]
      exact h s.toks
  | _ => exact no_none he

theorem cmp_ok {op : CmpOp} {p q : PV} {a b : Value} {c : Bool} (aok : AOk A n frs) (r : Rel C frs μ σ s.heap) (ha : VR s.heap μ p a) (hb : VR s.heap μ q b) (he : cmp op p q σ = some c) {Q : Value → Shared → Prop}
    (h : ∀ t, Q (.bool c) { s with toks := t }) : wpAny (MM C) A (compareOp op a b) Q E s := by
  exact cmp_elim (P := fun p q => VR s.heap μ p a → VR s.heap μ q b → wpAny (MM C) A (compareOp op a b) Q E s) he (fun x y he ha hb => ha.int_elim fun t => hb.int_elim fun u => cmpInts_ok he (h s.toks)) (fun he ha hb => cmpVals_ok aok r ha hb he h) ha hb

theorem getItem_ok {p q z : PV} {a b : Value} {Q : Value → Shared → Prop} (r : Rel C frs μ σ s.heap) (ha : VR s.heap μ p a) (hb : VR s.heap μ q b) (he : getItem p q σ = Mine.ok z σ')
    (h : OkV C frs s μ z σ' Q) {value slice : Expr} (hs : ∀ a k u, subscripted slice false (.ref a) (.int k u) = operate [.ref a, .int k u] (PySem.getItem (.ref a) (.int k u))) :
    wpAny (MM C) A (subscriptTail value slice a b) Q E s := by
  have go : ∀ {v}, Out.ok v σ = .ok z σ' → OkV C frs s μ v σ Q := fun q => ok_back (P := fun z σ => OkV C frs s μ z σ Q) (congrArg some q) h
  refine getItem_elim (P := fun p q => VR s.heap μ p a → VR s.heap μ q b → wpAny (MM C) A (subscriptTail value slice a b) Q E s) he (fun i n l v hn hn2 hl hv he ha hb => ?_) (fun l n v hn hn2 hv he ha hb => ?_) ha hb
  · refine ha.lst_elim fun a ea => hb.int_elim fun t => r.at_ ea hl fun vs k e2 e3 _ => ?_
    obtain ⟨w, hw, hvw⟩ := e3.get hv
    exact tail_any (IsL.isList e2).typeIs slot_list_getitem.lookup (wpAny_getItem_list (IsL.isList e2) hn (by exact fm [] [_] [.ile (.v 0) (.l 1000000)] (.ilt (.v 0) (.l 9223372036854775808)) [[1, 1]] rfl hn2) (by simpa using hw) ((go he).here (t := s.toks) r hvw)) (hs _ _ _)
  · refine ha.tup_elim fun a vs ht hl => hb.int_elim fun t => ?_
    obtain ⟨w, hw, hvw⟩ := hl.get hv
    have hlt := (List.getElem?_eq_some_iff.mp hw).1
    exact tail_any (IsTup.typeIs ht) slot_tuple_getitem.lookup (getItem_tuple ht (by exact fm [] [_] [.ile (.l 0) (.v 0)] (.ile (.g (.l 9223372036854775808)) (.v 0)) [[1, 1]] rfl hn) (by exact fm [] [_] [.ile (.v 0) (.l 1000000)] (.ilt (.v 0) (.l 9223372036854775808)) [[1, 1]] rfl hn2) (seqIndex_of hn (by simp at hlt; exact fm [_, _] [_] [.nlt (.v 0) (.v 1), .or (.an (.ile (.l 0) (.v 0)) (.ieq (.k (.v 0)) (.v 0))) (.an (.ile (.v 0) (.l 0)) (.neq (.v 0) (.l 0)))] (.ilt (.v 0) (.k (.v 1))) [[1, 0, 0, 1, 1], [1, 1, 0, 0, 1]] rfl hlt (tona _))) (by simpa using hw) ((go he).here (t := s.toks) r hvw)) (hs _ _ _)

theorem setItem_ok {p q z : PV} {a b v : Value} {Q : Unit → Shared → Prop} (r : Rel C frs μ σ s.heap) (ha : VR s.heap μ p a) (hb : VR s.heap μ q b) (hz : VR s.heap μ z v) (he : setItem p q z σ = some σ')
    (h : ∀ h' t', Rel C frs μ σ' h' → Ext C [] s.heap μ h' μ → Q () { s with heap := h', toks := t' }) : wpAny (MM C) A (PySem.setItem a b v) Q E s := by
  refine setItem_elim (P := fun p q => VR s.heap μ p a → VR s.heap μ q b → wpAny (MM C) A (PySem.setItem a b v) Q E s) he (fun j m l hl hn hn2 hn3 he ha hb => ?_) ha hb
  subst he
  refine ha.lst_elim fun a ea => hb.int_elim fun t => r.at_ ea hl fun vs k e2 e3 hlen => ?_
  have hc : cap = 4000 := rfl
  refine ki_setAt e2 hn (by exact fm [_, _, _] [_] [.nlt (.v 0) (.v 1), .nle (.v 1) (.v 2), .neq (.v 2) (.l 4000), .or (.an (.ile (.l 0) (.v 0)) (.ieq (.k (.v 0)) (.v 0))) (.an (.ile (.v 0) (.l 0)) (.neq (.v 0) (.l 0)))] (.ilt (.v 0) (.l 9223372036854775808)) [[1, 1, 1, 0, 0, 0, 1, 1], [0, 0, 0, 0, 1, 0, 0, 1]] rfl hn2 hn3 hc (tona _)) (by exact fm [_, _, _] [_] [.nlt (.v 0) (.v 1), .neq (.v 2) (.v 1), .or (.an (.ile (.l 0) (.v 0)) (.ieq (.k (.v 0)) (.v 0))) (.an (.ile (.v 0) (.l 0)) (.neq (.v 0) (.l 0)))] (.ilt (.v 0) (.k (.v 2))) [[1, 0, 1, 0, 0, 1, 1], [1, 0, 1, 1, 0, 0, 1]] rfl hn2 hlen (tona _)) ?_
  obtain ⟨r', x'⟩ := r.put ea e2 (Heap.SameBut.update s.heap a _) (IsL.update e2 (fun y => y.setIfInBounds m.toNat v)) (l' := l.set m.toNat z) (by simpa using e3.set m.toNat hz)
  exact h _ s.toks r' x'

theorem append_ok {i : Nat} {p : PV} {a : Addr} {l : List PV} {v : Value} {Q : Value → Shared → Prop} (r : Rel C frs μ σ s.heap) (ea : μ[i]? = some a) (hl : σ[i]? = some l) (hle : l.length < cap) (hv : VR s.heap μ p v)
    (h : OkV C frs s μ .none (σ.set i (l ++ [p])) Q) : wpAny (MM C) A (call (.builtin "list.append") [.ref a, v]) Q E s := by
  refine r.at_ ea hl fun vs k e2 e3 hlen => ?_
  have hsz : vs.size ≤ sizeLine := by rw [hlen]; exact le_line (Nat.le_of_lt hle)
  refine call_meets F.slot_list_append ⟨_, e2, rfl⟩ F.entry_list_append (F.args_list_append_2 _ _) (list_append a vs k v hsz) ⟨e2, ?_⟩
  obtain ⟨r', x'⟩ := r.put ea e2 (Heap.SameBut.update s.heap a _) (IsL.update e2 (fun y => y.push v)) (l' := l ++ [p]) (by
    have h1 : VRs s.heap μ [p] [v] := ⟨v, [], rfl, hv, rfl⟩
    simpa using e3.append h1)
  exact h _ _ s.toks μ r' x' rfl
end
end Mine
end
section
open PySem PySem.W PyProof.Rows PySem.Calls
namespace Mine

noncomputable def flatCallee : Value → Bool
  | .builtin _ => true
  | .type _ => true
  | _ => false

theorem small_iff {x : Int} (h : smallInt x = true) : -1000000 ≤ x ∧ x ≤ 1000000 := by
  simpa [smallInt] using h

section
variable {C : Cx} {A : Around} {E : Value → Shared → Prop} {s : Shared} {frs : List Env} {μ : List Addr} {σ σ' : St} {n : Nat} {z : PV} {ps : List PV} {vs : List Value} {Q : Value → Shared → Prop}

theorem len_ok (r : Rel C frs μ σ s.heap) (hv : VRs s.heap μ ps vs) (he : bLen ps σ = ok z σ') (h : OkV C frs s μ z σ' Q) : wpAny (MM C) A (call (.builtin "len") vs) Q E s := by
  have go : ∀ {v}, Out.ok v σ = .ok z σ' → OkV C frs s μ v σ Q := fun q => ok_back (P := fun z σ => OkV C frs s μ z σ Q) (congrArg some q) h
  refine bLen_elim (P := fun ps => VRs s.heap μ ps vs → wpAny (MM C) A (call (.builtin "len") vs) Q E s) he (fun i l hl hle he hv => ?_) hv
  refine hv.one_elim fun v hv => hv.lst_elim fun a ea => r.at_ ea hl fun ws k e2 e3 hlen => ?_
  have hc : cap = 4000 := rfl
  refine call_len_list (IsL.isList e2) (by exact fm [_, _, _] [] [.nle (.v 0) (.v 1), .neq (.v 2) (.v 0), .neq (.v 1) (.l 4000)] (.ilt (.k (.v 2)) (.l 9223372036854775808)) [[1, 1, 0, 1, 0, 1]] rfl hle hlen hc) ?_
  exact (go he).here r ⟨_, by rw [hlen]⟩

theorem abs_ok (r : Rel C frs μ σ s.heap) (hv : VRs s.heap μ ps vs) (he : bAbs ps σ = ok z σ') (h : OkV C frs s μ z σ' Q) : wpAny (MM C) A (call (.builtin "abs") vs) Q E s := by
  have go : ∀ {v}, Out.ok v σ = .ok z σ' → OkV C frs s μ v σ Q := fun q => ok_back (P := fun z σ => OkV C frs s μ z σ Q) (congrArg some q) h
  exact bAbs_elim (P := fun ps => VRs s.heap μ ps vs → wpAny (MM C) A (call (.builtin "abs") vs) Q E s) he (fun x he hv => hv.one_elim fun v hv => hv.int_elim fun t => PyProof.Rows.call_abs_int fun u tk => (go he).here r ⟨_, rfl⟩) hv

theorem range_ok (r : Rel C frs μ σ s.heap) (hv : VRs s.heap μ ps vs) (he : bRange ps σ = ok z σ') (h : OkV C frs s μ z σ' Q) : wpAny (MM C) A (call (.type "range") vs) Q E s := by
  have go : ∀ {v}, Out.ok v σ = .ok z σ' → OkV C frs s μ v σ Q := fun q => ok_back (P := fun z σ => OkV C frs s μ z σ Q) (congrArg some q) h
  refine bRange_elim (P := fun ps => VRs s.heap μ ps vs → wpAny (MM C) A (call (.type "range") vs) Q E s) he (fun n hs he hv => ?_) (fun a b hs1 hs2 he hv => ?_) hv
  · exact hv.one_elim fun v hv => hv.int_elim fun t => call_range_1 ((go he).keeps r (fun b o e => Heap.get?_push_of_some _ e) ⟨_, _, _, _, rfl, IsRange.new .., by decide, hs⟩)
  · exact hv.cons_elim fun v rr h1 hv => h1.int_elim fun t => hv.one_elim fun w h2 => h2.int_elim fun u => call_range_2 ((go he).keeps r (fun b o e => Heap.get?_push_of_some _ e) ⟨_, _, _, _, rfl, IsRange.new .., hs1, hs2⟩)

theorem rangeInts_len (lo hi : Int) : (rangeInts lo hi).length = (hi - lo).toNat := by simp [rangeInts]

theorem VRs.of_get {h : Heap} : ∀ {l : List PV} {vs : List Value}, vs.length = l.length → (∀ (j : Nat) (p : PV) (v : Value), l[j]? = some p → vs[j]? = some v → VR h μ p v) → VRs h μ l vs
  | [], [], _, _ => rfl
  | [], _ :: _, e, _ => by simp at e
  | _ :: _, [], e, _ => by simp at e
  | p :: l, v :: vs, e, hg => ⟨v, vs, rfl, hg 0 p v rfl rfl, VRs.of_get (by simpa using e) fun j p v h1 h2 => hg (j + 1) p v (by simpa using h1) (by simpa using h2)⟩

theorem listCall_ok (aok : AOk A n frs) (r : Rel C frs μ σ s.heap) (hv : VRs s.heap μ ps vs) (he : bList ps σ = ok z σ') (h : OkV C frs s μ z σ' Q) : wpAny (MM C) A (call (.type "list") vs) Q E s := by
  refine bList_elim (P := fun ps => VRs s.heap μ ps vs → wpAny (MM C) A (call (.type "list") vs) Q E s) he (fun i l hl he hv => ?_) (fun lo hi hs3 he hv => ?_) hv
  · refine hv.one_elim fun v hv => hv.lst_elim fun a ea => r.at_ ea hl fun ws k e2 e3 hlen => ?_
    have hle := alloc_le he
    refine call_list_seq (hsz := by rw [hlen]; exact le_line hle) a (.inl rfl) e2 rfl rfl fun h' c' hk hD => ?_
    exact list_end (t := s.toks) r he hk (get?_size _) hD e3 h
  · refine hv.one_elim fun v hv => hv.rng_elim fun a t u y hr hs1 hs2 => ?_
    have hs1 := small_iff hs1
    have hs2 := small_iff hs2
    refine call_list_range (n := (hi - lo).toNat) aok.handled hr (small_one (by exact fm [] [_] [.an (.ile (.g (.l 1000000)) (.v 0)) (.ile (.v 0) (.l 1000000))] (.ile (.g (.l 4611686018427387904)) (.v 0)) [[1, 0, 1]] rfl hs1) (by exact fm [] [_] [.an (.ile (.g (.l 1000000)) (.v 0)) (.ile (.v 0) (.l 1000000))] (.ilt (.v 0) (.l 4611686018427387904)) [[0, 1, 1]] rfl hs1) (by exact fm [] [_] [.an (.ile (.g (.l 1000000)) (.v 0)) (.ile (.v 0) (.l 1000000))] (.ile (.g (.l 4611686018427387904)) (.v 0)) [[1, 0, 1]] rfl hs2) (by exact fm [] [_] [.an (.ile (.g (.l 1000000)) (.v 0)) (.ile (.v 0) (.l 1000000))] (.ilt (.v 0) (.l 4611686018427387904)) [[0, 1, 1]] rfl hs2)) (by rw [rangeSize_one]; split <;> (first | exact fm [_] [_, _] [.ilt (.v 0) (.v 1), .or (.an (.ile (.l 0) (.s (.v 1) (.v 0))) (.ieq (.k (.v 0)) (.s (.v 1) (.v 0)))) (.an (.ile (.s (.v 1) (.v 0)) (.l 0)) (.neq (.v 0) (.l 0)))] (.ieq (.s (.v 1) (.v 0)) (.k (.v 0))) [[0, 0, 0, 1, 1], [0, 0, 1, 0, 1], [1, 1], [1, 1]] rfl (by assumption) (tona _) | exact fm [_] [_, _] [.no (.ilt (.v 0) (.v 1)), .or (.an (.ile (.l 0) (.s (.v 1) (.v 0))) (.ieq (.k (.v 0)) (.s (.v 1) (.v 0)))) (.an (.ile (.s (.v 1) (.v 0)) (.l 0)) (.neq (.v 0) (.l 0)))] (.ieq (.l 0) (.k (.v 0))) [[0, 0, 0, 0, 1], [1, 0, 1, 0, 1], [0, 0, 0, 0, 1], [0, 0, 1, 0, 1]] rfl (by assumption) (tona _))) (by exact fm [_] [_, _] [.ile (.s (.v 0) (.v 1)) (.l 1000), .or (.an (.ile (.l 0) (.s (.v 0) (.v 1))) (.ieq (.k (.v 0)) (.s (.v 0) (.v 1)))) (.an (.ile (.s (.v 0) (.v 1)) (.l 0)) (.neq (.v 0) (.l 0)))] (.nle (.v 0) (.l 16777216)) [[1, 0, 1, 0, 1], [0, 0, 1, 0, 1]] rfl hs3 (tona _)) fun h' tk acc' c' hk hS' hacc => ?_
    refine list_end r he hk (get?_size _) hS' ?_ h
    refine VRs.of_get (by rw [Array.length_toList, hacc.1, rangeInts_len]) fun j p v h1 h2 => ?_
    obtain ⟨t', rfl⟩ := hacc.2 j v (by simpa using h2)
    have hj := (List.getElem?_eq_some_iff.mp h1).1
    rw [rangeInts_len] at hj
    simp only [rangeInts, List.getElem?_map, List.getElem?_range hj, Option.map_some, Option.some.injEq] at h1
    subst h1
    exact ⟨t', by simp⟩

theorem min_ok (aok : AOk A n frs) (r : Rel C frs μ σ s.heap) (hv : VRs s.heap μ ps vs) (he : bMin ps σ = ok z σ') (h : OkV C frs s μ z σ' Q) : wpAny (MM C) A (call (.builtin "min") vs) Q E s := by
  have go : ∀ {v}, Out.ok v σ = .ok z σ' → OkV C frs s μ v σ Q := fun q => ok_back (P := fun z σ => OkV C frs s μ z σ Q) (congrArg some q) h
  refine two_elim (f := fun ps => bMin ps σ) (P := fun ps => VRs s.heap μ ps vs → wpAny (MM C) A (call (.builtin "min") vs) Q E s) (fun _ => .inl rfl) he (fun a b he hv => ?_) hv
  refine hv.cons_elim fun v rr h1 hv => h1.int_elim fun t => hv.one_elim fun w h2 => h2.int_elim fun u => ?_
  refine min_two_ints aok.handled fun h' tk hk => ?_
  refine (go (Option.some.inj he)).keeps r hk ?_
  split
  · exact ⟨_, rfl⟩
  · exact ⟨_, rfl⟩

theorem max_ok (aok : AOk A n frs) (r : Rel C frs μ σ s.heap) (hv : VRs s.heap μ ps vs) (he : bMax ps σ = ok z σ') (h : OkV C frs s μ z σ' Q) : wpAny (MM C) A (call (.builtin "max") vs) Q E s := by
  have go : ∀ {v}, Out.ok v σ = .ok z σ' → OkV C frs s μ v σ Q := fun q => ok_back (P := fun z σ => OkV C frs s μ z σ Q) (congrArg some q) h
  refine two_elim (f := fun ps => bMax ps σ) (P := fun ps => VRs s.heap μ ps vs → wpAny (MM C) A (call (.builtin "max") vs) Q E s) (fun _ => .inr rfl) he (fun a b he hv => ?_) hv
  refine hv.cons_elim fun v rr h1 hv => h1.int_elim fun t => hv.one_elim fun w h2 => h2.int_elim fun u => ?_
  refine max_two_ints aok.handled fun h' tk hk => ?_
  refine (go (Option.some.inj he)).keeps r hk ?_
  split
  · exact ⟨_, rfl⟩
  · exact ⟨_, rfl⟩

theorem sum_ok (aok : AOk A n frs) (r : Rel C frs μ σ s.heap) (hv : VRs s.heap μ ps vs) (he : bSum ps σ = ok z σ') (h : OkV C frs s μ z σ' Q) : wpAny (MM C) A (call (.builtin "sum") vs) Q E s := by
  have go : ∀ {v}, Out.ok v σ = .ok z σ' → OkV C frs s μ v σ Q := fun q => ok_back (P := fun z σ => OkV C frs s μ z σ Q) (congrArg some q) h
  refine bSum_elim (P := fun ps => VRs s.heap μ ps vs → wpAny (MM C) A (call (.builtin "sum") vs) Q E s) he (fun i l ns hl hns he hv => ?_) hv
  refine hv.one_elim fun v hv => hv.lst_elim fun a ea => r.at_ ea hl fun ws k e2 e3 _ => ?_
  have hi := allInts_vals hns e3
  obtain ⟨xs, hxs⟩ := hi.allInts.items
  have hnum := hi.numsOf
  refine PySem.sum_intListG (xs := xs) aok.handled (by rw [← hxs]; simpa using IsL.isList e2) fun h' tk t' hk => ?_
  have e : ns = xs.toList.map (·.1) := by
    rw [← nums_intItems, ← hxs]
    exact hnum.symm
  refine (go he).keeps r hk ⟨t', ?_⟩
  rw [preSum_eq, e, List.take_of_length_le (by simp)]

theorem builtins_cases {f : Str} (h : builtins.contains f = true) : f = "len" ∨ f = "abs" ∨ f = "range" ∨ f = "list" ∨ f = "min" ∨ f = "max" ∨ f = "sum" := by
  simpa [builtins] using h

theorem builtin_call {f : Str} (aok : AOk A n frs) (hf : builtins.contains f = true) (r : Rel C frs μ σ s.heap) (hv : VRs s.heap μ ps vs) (he : builtin f ps σ = ok z σ') (h : OkV C frs s μ z σ' Q) {fv : Value}
    (hb : bootBuiltins f = some fv) : wpAny (MM C) A (call fv vs) Q E s := by
  rcases builtins_cases hf with rfl | rfl | rfl | rfl | rfl | rfl | rfl
  · have e : bootBuiltins "len" = some (.builtin "len") := by decide +kernel
    rw [e] at hb; cases hb
    exact len_ok r hv he h
  · have e : bootBuiltins "abs" = some (.builtin "abs") := by decide +kernel
    rw [e] at hb; cases hb
    exact abs_ok r hv he h
  · have e : bootBuiltins "range" = some (.type "range") := by decide +kernel
    rw [e] at hb; cases hb
    exact range_ok r hv he h
  · have e : bootBuiltins "list" = some (.type "list") := by decide +kernel
    rw [e] at hb; cases hb
    exact listCall_ok aok r hv he h
  · have e : bootBuiltins "min" = some (.builtin "min") := by decide +kernel
    rw [e] at hb; cases hb
    exact min_ok aok r hv he h
  · have e : bootBuiltins "max" = some (.builtin "max") := by decide +kernel
    rw [e] at hb; cases hb
    exact max_ok aok r hv he h
  · have e : bootBuiltins "sum" = some (.builtin "sum") := by decide +kernel
    rw [e] at hb; cases hb
    exact sum_ok aok r hv he h

theorem boot_flat {f : Str} (hf : builtins.contains f = true) : ∃ fv, bootBuiltins f = some fv ∧ flatCallee fv = true ∧ f ∈ (["len", "abs", "range", "list", "min", "max", "sum", "enumerate"] : List Str) ∧ (f == ("__debug__" : Str)) = false := by
  rcases builtins_cases hf with rfl | rfl | rfl | rfl | rfl | rfl | rfl
  · exact ⟨.builtin "len", by decide +kernel, rfl, by decide +kernel, by decide +kernel⟩
  · exact ⟨.builtin "abs", by decide +kernel, rfl, by decide +kernel, by decide +kernel⟩
  · exact ⟨.type "range", by decide +kernel, rfl, by decide +kernel, by decide +kernel⟩
  · exact ⟨.type "list", by decide +kernel, rfl, by decide +kernel, by decide +kernel⟩
  · exact ⟨.builtin "min", by decide +kernel, rfl, by decide +kernel, by decide +kernel⟩
  · exact ⟨.builtin "max", by decide +kernel, rfl, by decide +kernel, by decide +kernel⟩
  · exact ⟨.builtin "sum", by decide +kernel, rfl, by decide +kernel, by decide +kernel⟩
end
end Mine
end
section
open PySem PySem.W PyProof.Rows PySem.Calls
namespace Mine

noncomputable def framesOf (frs : List Env) : List Addr := frs.filterMap (·.frame)

inductive ThrownO (C : Cx) (B : Heap) (frs : List Env) (e : Addr) (k : Str) (h : Heap) : Prop
  | mk oe vs d m t (c1 : h.get? e = some oe) (c2 : C.mg "CasFail" = some oe.cls) (c3 : oe.data = .fields vs) (c4 : oe.dict = some d) (c5 : h.Ns d m) (c6 : m "kind" = some (.str k t)) (c7 : d ∉ framesOf frs) (c8 : 1 < vs.size)
      (c9 : vs[1]? = some .none ∨ ∃ T oT ts, vs[1]? = some (.ref T) ∧ B.get? T = none ∧ T ≠ e ∧ h.get? T = some oT ∧ oT.data = .fields ts ∧ ts[3]? = some .none) : ThrownO C B frs e k h
structure Thrown (C : Cx) (B : Heap) (frs : List Env) (e : Addr) (k : Str) (h : Heap) : Prop where
  stays : B.StaysIn h
  new : B.get? e = none
  frames : h.FunFrames B frs
  obj : ThrownO C B frs e k h

inductive FlewB (C : Cx) (frs : List Env) (h₀ : Heap) (k : Str) (σ' : St) (e : Addr) (μ' : List Addr) (h' : Heap) : Prop
  | mk B (c1 : Rel C [] μ' σ' B) (c2 : ∀ b o, h₀.get? b = some o → (∃ o', B.get? b = some o') ∨ b ∈ framesOf frs) (c3 : Thrown C B frs e k h') : FlewB C frs h₀ k σ' e μ' h'
structure Flew (C : Cx) (W : List Addr) (frs : List Env) (h₀ : Heap) (μ : List Addr) (k : Str) (σ' : St) (e : Addr) (μ' : List Addr) (h' : Heap) : Prop where
  rel : Rel C frs μ' σ' h'
  ext : Ext C W h₀ μ h' μ'
  new : h₀.get? e = none
  body : FlewB C frs h₀ k σ' e μ' h'

theorem Flew.back {C W frs h₀ μ k σ' e μ' h' h₁ μ₁} (x : Flew C W frs h₀ μ k σ' e μ' h') (y : Ext C W h₁ μ₁ h₀ μ) : Flew C W frs h₁ μ₁ k σ' e μ' h' where
  rel := x.rel
  ext := y.trans x.ext
  new := by
    cases q : h₁.get? e with
    | none => rfl
    | some o =>
      obtain ⟨o', e'⟩ := y.alive e o q
      rw [x.new] at e'; cases e'
  body := by
    obtain ⟨B, h1, h2, h3⟩ := x.body
    refine ⟨B, h1, fun b o e => ?_, h3⟩
    obtain ⟨o', e'⟩ := y.alive b o e
    exact h2 b o' e'

theorem Flew.mono {C W W' frs h₀ μ k σ' e μ' h'} (x : Flew C W frs h₀ μ k σ' e μ' h') (hW : ∀ b ∈ W, b ∈ W' ∨ h₀.get? b = none) : Flew C W' frs h₀ μ k σ' e μ' h' :=
  ⟨x.rel, x.ext.drop hW, x.new, x.body⟩

noncomputable def FlyV (C : Cx) (W : List Addr) (frs : List Env) (s : Shared) (μ : List Addr) (k : Str) (σ' : St) (E : Value → Shared → Prop) : Prop :=
  ∀ e h' t' μ', Flew C W frs s.heap μ k σ' e μ' h' → E (.ref e) { s with heap := h', toks := t' }

noncomputable def PostV (C : Cx) (frs : List Env) (s : Shared) (μ : List Addr) (o : Out PV) (Q E : Value → Shared → Prop) : Prop :=
  match o with
  | .ok p σ' => OkV C frs s μ p σ' Q
  | .exc k σ' => FlyV C [] frs s μ k σ' E

noncomputable def OkB (C : Cx) (frs : List Env) (s : Shared) (μ : List Addr) (b : Bool) (σ' : St) (Q : Bool → Shared → Prop) : Prop :=
  ∀ h' t' μ', Rel C frs μ' σ' h' → Ext C [] s.heap μ h' μ' → Q b { s with heap := h', toks := t' }

noncomputable def OkVs (C : Cx) (frs : List Env) (s : Shared) (μ : List Addr) (ps : List PV) (σ' : St) (Q : List Value → Shared → Prop) : Prop :=
  ∀ vs h' t' μ', Rel C frs μ' σ' h' → Ext C [] s.heap μ h' μ' → VRs h' μ' ps vs → Q vs { s with heap := h', toks := t' }

inductive FlR (h : Heap) (μ : List Addr) : Fl → Flow → Prop
  | next : FlR h μ .next .next
  | cont : FlR h μ .cont .cont
  | ret {p v} : VR h μ p v → FlR h μ (.ret p) (.ret v)

noncomputable def PostS (C : Cx) (frs : List Env) (s : Shared) (μ : List Addr) (env : Env) (ρ : PE) (o : Out (Fl × Vars)) (Q : Flow → Shared → Prop) (E : Value → Shared → Prop) : Prop :=
  match o with
  | .ok (fl, vars) σ' => ∀ f h' t' μ', Rel C frs μ' σ' h' → Ext C (wr env ρ) s.heap μ h' μ' → EnvRel C h' μ' env { ρ with vars := vars } → FlR h' μ' fl f → Q f { s with heap := h', toks := t' }
  | .exc k σ' => FlyV C (wr env ρ) frs s μ k σ' E

structure Sound (C : Cx) (n : Nat) (F : Evs) : Prop where
  e : ∀ {A : Around} {s : Shared} {E Q : Value → Shared → Prop} {frs : List Env} {μ : List Addr} {env : Env} {ρ : PE} {σ : St} {x : Expr} {o : Out PV}, AOk A n frs → Rel C frs μ σ s.heap → EnvRel C s.heap μ env ρ →
    F.e x ρ σ = some o → PostV C frs s μ o Q E → wpAny (MM C) A (eval x env) Q E s
  t : ∀ {A : Around} {s : Shared} {E : Value → Shared → Prop} {Q : Bool → Shared → Prop} {frs : List Env} {μ : List Addr} {env : Env} {ρ : PE} {σ σ' : St} {x : Expr} {b : Bool}, AOk A n frs → Rel C frs μ σ s.heap → EnvRel C s.heap μ env ρ →
    F.t x ρ σ = some (.ok b σ') → OkB C frs s μ b σ' Q → wpAny (MM C) A (isTrue x env (eval x env)) Q E s
  s : ∀ {A : Around} {s : Shared} {E : Value → Shared → Prop} {Q : Flow → Shared → Prop} {frs : List Env} {μ : List Addr} {env : Env} {ρ : PE} {σ : St} {x : List Stmt} {o : Out (Fl × Vars)}, AOk A n frs → Rel C frs μ σ s.heap → EnvRel C s.heap μ env ρ →
    F.s x ρ σ = some o → PostS C frs s μ env ρ o Q E → wpAny (MM C) A (execs x env) Q E s
  c : ∀ {A : Around} {s : Shared} {E Q : Value → Shared → Prop} {frs : List Env} {μ : List Addr} {σ : St} {f : Str} {ps : List PV} {vs : List Value} {fv : Value} {o : Out PV}, AOk A n frs → Rel C frs μ σ s.heap → VRs s.heap μ ps vs → C.mg f = some fv →
    F.c f ps σ = some o → PostV C frs s μ o Q E → wpAny (MM C) A (call fv vs) Q E s
  u : ∀ {A : Around} {s : Shared} {E Q : Value → Shared → Prop} {frs : List Env} {μ : List Addr} {env : Env} {ρ : PE} {σ σ' : St} {elt : Expr} {gens : List Comprehension} {sc : Scope} {pos ipos : Pos} {p : PV} {use : Option (Value → Sem Unit)},
    AOk A n frs → Rel C frs μ σ s.heap → EnvRel C s.heap μ env ρ → F.e (.ListComp elt gens sc pos) ρ σ = some (.ok p σ') →
    (∀ D L h' t' μ', Rel C frs μ' σ' h' → Ext C [] s.heap μ h' μ' → VR h' μ' p (.ref D) → s.heap.get? L = none → (∃ m, h'.Ns L m) → compPost (MM C) A E use Q (.ref D) L (.ok .next) { s with heap := h', toks := t' }) →
    wpAny (MM C) A (comprehension (.ListComp elt gens sc pos) sc env ipos (newList []) (firstAsync gens) (firstIter gens env) use) Q E s
  noset : ∀ {x : Expr} {ρ : PE} {σ : St}, (match x with | .SetComp .. => True | .DictComp .. => True | _ => False) → F.e x ρ σ = none
  nolist : ∀ {elt : Expr} {gens : List Comprehension} {sc : Scope} {pos : Pos} {ρ : PE} {σ : St} {o : Out PV}, F.e (.ListComp elt gens sc pos) ρ σ = some o → ∃ i σ', o = .ok (.lst i) σ'
  cdef : ∀ {f : Str} {ps : List PV} {σ : St} {o : Out PV}, F.c f ps σ = some o → ∃ a ob fd, C.mg f = some (.ref a) ∧ C.B.get? a = some ob ∧ ob.data = .func fd ∧ (f == ("__debug__" : Str)) = false

theorem AOk.down {A n frs} (x : AOk A (n + 1) frs) : AOk A n frs := ⟨x.handled, by have := x.depth; exact fm [_, _] [] [.nlt (.a (.v 0) (.m 3 (.a (.v 1) (.l 1)))) (.l 900)] (.nlt (.a (.v 0) (.m 3 (.v 1))) (.l 900)) [[1, 1]] rfl this, by have := x.units; exact fm [_, _] [] [.nlt (.a (.v 0) (.m 40 (.a (.v 1) (.l 1)))) (.l 9000)] (.nlt (.a (.v 0) (.m 40 (.v 1))) (.l 9000)) [[1, 1]] rfl this, x.frames⟩

theorem bind_ok {α β : Type} {x : R α} {f : α → St → R β} {o : Out β} (h : x.bind f = some o) : ∃ a σ, x = some (.ok a σ) ∧ f a σ = some o := bnd h fun a σ h1 h2 => ⟨a, σ, h1, h2⟩

section
variable {C : Cx} {A : Around} {E : Value → Shared → Prop} {s : Shared} {frs : List Env} {μ : List Addr} {σ σ' : St} {n : Nat} {env : Env} {ρ : PE} {F : Evs}

theorem PostV.ok {p : PV} {Q : Value → Shared → Prop} (h : PostV C frs s μ (.ok p σ') Q E) : OkV C frs s μ p σ' Q := h

theorem Sound.v (S : Sound C n F) {x : Expr} {p : PV} {Q : Value → Shared → Prop} (aok : AOk A n frs) (r : Rel C frs μ σ s.heap) (e : EnvRel C s.heap μ env ρ) (hx : F.e x ρ σ = some (.ok p σ'))
    (h : OkV C frs s μ p σ' Q) : wpAny (MM C) A (eval x env) Q E s := S.e aok r e hx h

theorem ok_out {o : Out PV} {p : PV} {σ' : St} {Q : Value → Shared → Prop} (q : some (Out.ok p σ') = some o) (h : PostV C frs s μ o Q E) : OkV C frs s μ p σ' Q := by cases q; exact h

theorem evList_ok (S : Sound C n F) (aok : AOk A n frs) {pos : Pos} : ∀ {es : List Expr} {s : Shared} {μ : List Addr} {σ σ' : St} {ps : List PV} {Q : List Value → Shared → Prop}, Rel C frs μ σ s.heap → EnvRel C s.heap μ env ρ →
    evList (fun e σ => F.e e ρ σ) es σ = some (.ok ps σ') → OkVs C frs s μ ps σ' Q → wpAny (MM C) A (spliced (backTo pos (starEach es env))) Q E s
  | [], s, μ, σ, σ', ps, Q, r, e, hx, h => by
    cases hx
    exact spliced_nil (h [] s.heap s.toks μ r Ext.refl rfl)
  | x :: es, s, μ, σ, σ', ps, Q, r, e, hx, h => by
    refine evList_inv hx fun p σ₁ ps' σ₂ hst h1 h2 hx => ?_
    · cases hx
      have he : starEach (x :: es) env = (false, eval x env) :: starEach es env := by
        cases x <;> first | rfl | exact absurd rfl hst
      rw [he]
      show wpAny (MM C) A (spliced ((false, eval x env) :: backTo pos (starEach es env))) Q E s
      refine spliced_cons (S.v aok r e h1 fun v h' t' μ' r' x' hv => ?_)
      refine evList_ok S aok (s := { s with heap := h', toks := t' }) r' (e.ext0 r x') h2 fun vs h'' t'' μ'' r'' x'' hvs => ?_
      exact h (v :: vs) h'' t'' μ'' r'' (x'.trans x'') ⟨v, vs, rfl, hv.ext r' x'' WOk.nil, hvs⟩

theorem tuple_ok (S : Sound C n F) (aok : AOk A n frs) (r : Rel C frs μ σ s.heap) (e : EnvRel C s.heap μ env ρ) {es : List Expr} {k : Nat} {pos : Pos} {o : Out PV} {Q : Value → Shared → Prop} (hx : evE F (.Tuple es k pos) ρ σ = some o)
    (h : PostV C frs s μ o Q E) : wpAny (MM C) A (eval (.Tuple es k pos) env) Q E s := by
  refine bnd (x := evList (fun e σ => F.e e ρ σ) es σ) hx fun ps σ₁ h1 hx => ite1 hx fun hle hx => ?_
  refine Tuple_ (evList_ok S aok r e h1 fun vs h' t' μ' r' x' hvs => ?_)
  exact newTuple_ok (s := { s with heap := h', toks := t' }) r' hle hvs (OkV.step (ok_out hx h) x')

theorem list_ok (S : Sound C n F) (aok : AOk A n frs) (r : Rel C frs μ σ s.heap) (e : EnvRel C s.heap μ env ρ) {es : List Expr} {pos : Pos} {o : Out PV} {Q : Value → Shared → Prop} (hx : evE F (.List es pos) ρ σ = some o)
    (h : PostV C frs s μ o Q E) : wpAny (MM C) A (eval (.List es pos) env) Q E s := by
  refine bnd (x := evList (fun e σ => F.e e ρ σ) es σ) hx fun ps σ₁ h1 hx => alloc_inv hx fun hle hx => ?_
  refine List_ (evList_ok S aok r e h1 fun vs h' t' μ' r' x' hvs => ?_)
  exact newList_ok (s := { s with heap := h', toks := t' }) (l := ps) r' (alloc_of hle) hvs (OkV.step (ok_out (congrArg some hx) h) x')

theorem binopE_ok (S : Sound C n F) (aok : AOk A n frs) (r : Rel C frs μ σ s.heap) (e : EnvRel C s.heap μ env ρ) {l y : Expr} {op : Operator} {pos : Pos} {o : Out PV} {Q : Value → Shared → Prop} (hx : evE F (.BinOp l op y pos) ρ σ = some o)
    (h : PostV C frs s μ o Q E) : wpAny (MM C) A (eval (.BinOp l op y pos) env) Q E s := by
  refine bnd (x := F.e l ρ σ) hx fun a σ₁ h1 hx => bnd (x := F.e y ρ σ₁) hx fun b σ₂ h2 hx => ?_
  refine wpAny_BinOp (S.v aok r e h1 fun va h' t' μ' r' x' hva => ?_)
  refine S.v (s := { s with heap := h', toks := t' }) aok r' (e.ext0 r x') h2 fun vb h'' t'' μ'' r'' x'' hvb => ?_
  cases o with
  | ok z σ₃ => exact binop_ok (s := { s with heap := h'', toks := t'' }) r'' (hva.ext r' x'' WOk.nil) hvb hx (h.ok.step (x'.trans x''))
  | exc k σ₃ => exact binop_no hx

theorem unaryE_ok (S : Sound C n F) (aok : AOk A n frs) (r : Rel C frs μ σ s.heap) (e : EnvRel C s.heap μ env ρ) {x : Expr} {op : UnaryOp} {pos : Pos} {o : Out PV} {Q : Value → Shared → Prop} (hx : evE F (.UnaryOp op x pos) ρ σ = some o)
    (h : PostV C frs s μ o Q E) : wpAny (MM C) A (eval (.UnaryOp op x pos) env) Q E s := by
  refine bnd (x := F.e x ρ σ) hx fun a σ₁ h1 hx => ?_
  refine wpAny_UnaryOp (S.v aok r e h1 fun va h' t' μ' r' x' hva => ?_)
  cases op with
  | USub =>
    cases a with
    | int i => exact hva.int_elim fun t => PySem.P.neg_int (OkV.here (s := { s with heap := h', toks := t' }) (OkV.step (ok_out hx h) x') r' ⟨_, rfl⟩)
    | _ => exact no_none hx
  | Not =>
    cases a with
    | bool b =>
      cases hva
      unfold unaryOp
      refine wpAny_holding ?_
      show wpAny (MM C) A (do let b ← truthy (.bool _); pure (Value.bool (!b))) _ _ _
      exact wpAny_bind (wpAny_truthy_bool (wpAny_pure (OkV.here (s := { s with heap := h', toks := t' }) (t := t') (OkV.step (ok_out hx h) x') r' rfl)))
    | _ => exact no_none hx
  | _ => exact no_none hx

theorem cmpE_ok (S : Sound C n F) (aok : AOk A n frs) (r : Rel C frs μ σ s.heap) (e : EnvRel C s.heap μ env ρ) {l : Expr} {ops : List CmpOp} {cs : List Expr} {pos : Pos} {b : Bool} (hx : evCmp F l ops cs ρ σ = some (.ok b σ')) :
    (∀ {Q : Value → Shared → Prop}, (OkV C frs s μ (.bool b) σ' Q) → wpAny (MM C) A (eval (.Compare l ops cs pos) env) Q E s) ∧
    (∀ {Q : Bool → Shared → Prop}, (OkB C frs s μ b σ' Q) → wpAny (MM C) A (isTrue (.Compare l ops cs pos) env (eval (.Compare l ops cs pos) env)) Q E s) := by
  refine evCmp_elim (P := fun ops cs => (∀ {Q : Value → Shared → Prop}, (OkV C frs s μ (.bool b) σ' Q) → wpAny (MM C) A (eval (.Compare l ops cs pos) env) Q E s) ∧
    (∀ {Q : Bool → Shared → Prop}, (OkB C frs s μ b σ' Q) → wpAny (MM C) A (isTrue (.Compare l ops cs pos) env (eval (.Compare l ops cs pos) env)) Q E s)) hx fun op y a σ₁ d σ₂ c hp h1 h2 hc hx => ?_
  cases hx
  have hm : behindInMarks op y = false := by
    cases y <;> first | rfl | cases hp
  refine ⟨fun {Q} h => wpAny_Compare1 (S.v aok r e h1 fun va h' t' μ' r' x' hva => ?_) hm, fun {Q} h => wpAny_isTrue_Compare1 (S.v aok r e h1 fun va h' t' μ' r' x' hva => ?_) hm⟩
  · refine S.v (s := { s with heap := h', toks := t' }) aok r' (e.ext0 r x') h2 fun vb h'' t'' μ'' r'' x'' hvb => ?_
    exact cmp_ok (s := { s with heap := h'', toks := t'' }) aok r'' (hva.ext r' x'' WOk.nil) hvb hc fun t => h _ _ _ _ r'' (x'.trans x'') rfl
  · refine S.v (s := { s with heap := h', toks := t' }) aok r' (e.ext0 r x') h2 fun vb h'' t'' μ'' r'' x'' hvb => ?_
    exact cmp_ok (s := { s with heap := h'', toks := t'' }) aok r'' (hva.ext r' x'' WOk.nil) hvb hc fun t => wpAny_truthy_bool (h _ _ _ r'' (x'.trans x''))

theorem evCmp_no {l : Expr} {ops : List CmpOp} {cs : List Expr} {k : Str} (hx : evCmp F l ops cs ρ σ = some (.exc k σ')) : False := evCmp_elim (P := fun _ _ => False) hx fun _ _ _ _ _ _ _ _ _ _ _ h => nomatch h

theorem strict_ok {α : Type} {x : R α} {o : Out α} (h : x.strict = some o) : ∃ a σ, x = some (.ok a σ) ∧ o = .ok a σ := strict1 h fun a σ h1 h2 => ⟨a, σ, h1, h2.symm⟩

theorem ifE_ok (S : Sound C n F) (aok : AOk A n frs) (r : Rel C frs μ σ s.heap) (e : EnvRel C s.heap μ env ρ) {t b y : Expr} {pos : Pos} {o : Out PV} {Q : Value → Shared → Prop} (hx : evE F (.IfExp t b y pos) ρ σ = some o)
    (h : PostV C frs s μ o Q E) : wpAny (MM C) A (eval (.IfExp t b y pos) env) Q E s := by
  refine bnd (x := F.t t ρ σ) hx fun a σ₁ h1 hx => ?_
  refine wpAny_IfExp (S.t aok r e h1 fun h' t' μ' r' x' => ?_)
  cases a with
  | true => exact strict1 (x := F.e b ρ σ₁) hx fun p σ₂ h2 q => S.v (s := { s with heap := h', toks := t' }) aok r' (e.ext0 r x') h2 (OkV.step (ok_out (congrArg some q) h) x')
  | false => exact strict1 (x := F.e y ρ σ₁) hx fun p σ₂ h2 q => S.v (s := { s with heap := h', toks := t' }) aok r' (e.ext0 r x') h2 (OkV.step (ok_out (congrArg some q) h) x')

theorem boolE_ok (S : Sound C n F) (aok : AOk A n frs) {op : BoolOp} {pos : Pos} : ∀ {es : List Expr} {s : Shared} {μ : List Addr} {σ : St} {o : Out PV} {Q : Value → Shared → Prop}, Rel C frs μ σ s.heap → EnvRel C s.heap μ env ρ →
    boolOps op (fun e σ => F.e e ρ σ) es σ = some o → PostV C frs s μ o Q E → wpAny (MM C) A (boolOp pos op (evalEach es env)) Q E s
  | [], s, μ, σ, o, Q, r, e, hx, h => by cases hx
  | [x], s, μ, σ, o, Q, r, e, hx, h => by
    exact strict1 (x := F.e x ρ σ) hx fun p σ₂ h2 q => S.v aok r e h2 (ok_out (congrArg some q) h)
  | x :: y :: es, s, μ, σ, o, Q, r, e, hx, h => by
    refine bnd (x := F.e x ρ σ) hx fun p σ₁ h1 hx => ?_
    show wpAny (MM C) A (do
      let v ← eval x env
      standAt pos
      let t ← holding [v] (truthy v)
      match op, t with
      | .And, false | .Or, true => pure v
      | _, _ => boolOp pos op (eval y env :: evalEach es env)) Q E s
    refine wpAny_bind (S.v aok r e h1 fun v h' t' μ' r' x' hv => wpAny_bind (wpAny_standAt ?_))
    cases p
    case bool b =>
      cases hv
      refine wpAny_bind (wpAny_holding (wpAny_truthy_bool ?_))
      have hx : (if b == (op == .Or) then ok (.bool b) σ₁ else boolOps op (fun e σ => F.e e ρ σ) (y :: es) σ₁) = some o := hx
      by_cases hb : (b == (op == .Or)) = true
      · rw [if_pos hb] at hx
        cases hx
        cases op <;> cases b <;> first | exact absurd hb (by decide) | exact wpAny_pure (h.ok _ _ t' _ r' x' rfl)
      · rw [if_neg hb] at hx
        have next : wpAny (MM C) A (boolOp pos op (eval y env :: evalEach es env)) Q E { s with heap := h', toks := t' } :=
          boolE_ok S aok (es := y :: es) (s := { s with heap := h', toks := t' }) r' (e.ext0 r x') hx (by
            cases o with
            | ok p σ₂ => exact h.ok.step x'
            | exc k σ₂ => exact fun e' h'' t'' μ'' fl => h e' h'' t'' μ'' (fl.back x'))
        cases op <;> cases b <;> first | exact absurd (by rfl) hb | exact next
    all_goals exact no_none hx

theorem tests_ok (S : Sound C n F) (aok : AOk A n frs) {op : BoolOp} : ∀ {es : List Expr} {s : Shared} {μ : List Addr} {σ σ' : St} {b : Bool} {Q : Bool → Shared → Prop}, Rel C frs μ σ s.heap → EnvRel C s.heap μ env ρ →
    tests op (fun e σ => F.t e ρ σ) es σ = some (.ok b σ') → OkB C frs s μ b σ' Q → wpAny (MM C) A (allTrue op es env) Q E s
  | [], s, μ, σ, σ', b, Q, r, e, hx, h => by
    cases hx
    rw [arm_allTrue_nil]
    exact wpAny_pure (h _ s.toks _ r Ext.refl)
  | x :: es, s, μ, σ, σ', b, Q, r, e, hx, h => by
    refine bnd (x := F.t x ρ σ) hx fun c σ₁ h1 hx => ?_
    rw [arm_allTrue_cons]
    refine wpAny_bind (S.t aok r e h1 fun h' t' μ' r' x' => ?_)
    have next : tests op (fun e σ => F.t e ρ σ) es σ₁ = some (.ok b σ') → wpAny (MM C) A (allTrue op es env) Q E { s with heap := h', toks := t' } := fun hx =>
      tests_ok S aok (s := { s with heap := h', toks := t' }) r' (e.ext0 r x') hx fun h'' t'' μ'' r'' x'' => h h'' t'' μ'' r'' (x'.trans x'')
    have hx : (if c == (op == .Or) then ok c σ₁ else tests op (fun e σ => F.t e ρ σ) es σ₁) = some (.ok b σ') := hx
    by_cases hb : (c == (op == .Or)) = true
    · rw [if_pos hb] at hx
      cases hx
      cases op <;> cases b <;> first | exact absurd hb (by decide) | exact wpAny_pure (h _ _ _ r' x')
    · rw [if_neg hb] at hx
      cases op <;> cases c <;> first | exact absurd (by rfl) hb | exact next hx

theorem truth_ok (S : Sound C n F) (aok : AOk A n frs) (r : Rel C frs μ σ s.heap) (e : EnvRel C s.heap μ env ρ) {x : Expr} {b : Bool} {Q : Bool → Shared → Prop} (hx : evTruth F x ρ σ = some (.ok b σ')) (h : OkB C frs s μ b σ' Q)
    (he : isTrue x env (eval x env) = (do let v ← eval x env; standAt x.pos; holding [v] (truthy v))) : wpAny (MM C) A (isTrue x env (eval x env)) Q E s := by
  refine bnd (x := F.e x ρ σ) hx fun p σ₁ h1 hx => ?_
  refine wpAny_isTrue_value (S.v aok r e h1 fun v h' t' μ' r' x' hv => ?_) he
  cases p with
  | bool c =>
    cases hx
    cases hv
    exact wpAny_truthy_bool (h _ _ _ r' x')
  | _ => exact no_none hx

theorem evT_ok (S : Sound C n F) (aok : AOk A n frs) (r : Rel C frs μ σ s.heap) (e : EnvRel C s.heap μ env ρ) {x : Expr} {b : Bool} {Q : Bool → Shared → Prop} (hx : evT F x ρ σ = some (.ok b σ')) (h : OkB C frs s μ b σ' Q) :
    wpAny (MM C) A (isTrue x env (eval x env)) Q E s := by
  cases x
  case UnaryOp op y pos =>
    cases op with
    | Not =>
      refine bnd (x := F.t y ρ σ) hx fun c σ₁ h1 hx => ?_
      cases hx
      exact wpAny_isTrue_Not (S.t aok r e h1 fun h' t' μ' r' x' => h _ _ _ r' x')
    | _ => exact no_none hx
  case BoolOp op vs pos => exact wpAny_isTrue_BoolOp (tests_ok S aok r e hx h)
  case IfExp => exact no_none hx
  case Compare l ops cs pos => exact (cmpE_ok S aok r e hx).2 h
  all_goals exact truth_ok S aok r e hx h rfl
end
end Mine
end
section
open PySem PySem.W PyProof.Rows PySem.Calls
namespace Mine

theorem slicePick_upto' (items : Array Value) (b : Nat) : slicePick items none (some (b : Int)) none = (items.toList.take b).toArray := by
  by_cases hb : b ≤ items.size
  · exact slicePick_upto items b hb
  · have e : slicePick items none (some (b : Int)) none = slicePick items none (some (items.size : Int)) none := by
      unfold slicePick
      have : sliceBounds none (some (b : Int)) none items.size = sliceBounds none (some (items.size : Int)) none items.size := by
        simp only [sliceBounds, Option.getD_none]
        have h2 : ¬ ((b : Int) < 0) := by exact fm [_] [] [] (.no (.ilt (.k (.v 0)) (.l 0))) [[1]] rfl
        have h3 : ¬ ((items.size : Int) < 0) := by exact fm [_] [] [] (.no (.ilt (.k (.v 0)) (.l 0))) [[1]] rfl
        simp only [h2, h3, if_false, show (1 : Int) > 0 by decide, if_true]
        congr 2
        omega
      rw [this]
    rw [e, slicePick_upto items items.size (Nat.le_refl _), List.take_of_length_le (by simp), List.take_of_length_le (by simp; exact fm [_, _] [] [.no (.nle (.v 0) (.v 1))] (.nle (.v 1) (.v 0)) [[1, 1]] rfl hb)]

theorem slicePick_from' (items : Array Value) (b : Nat) : slicePick items (some (b : Int)) none none = (items.toList.drop b).toArray := by
  by_cases hb : b ≤ items.size
  · exact slicePick_from items b hb
  · have e : slicePick items (some (b : Int)) none none = slicePick items (some (items.size : Int)) none none := by
      unfold slicePick
      have : sliceBounds (some (b : Int)) none none items.size = sliceBounds (some (items.size : Int)) none none items.size := by
        simp only [sliceBounds, Option.getD_none]
        have h2 : ¬ ((b : Int) < 0) := by exact fm [_] [] [] (.no (.ilt (.k (.v 0)) (.l 0))) [[1]] rfl
        have h3 : ¬ ((items.size : Int) < 0) := by exact fm [_] [] [] (.no (.ilt (.k (.v 0)) (.l 0))) [[1]] rfl
        simp only [h2, h3, if_false, show (1 : Int) > 0 by decide, if_true]
        congr 1
        omega
      rw [this]
    rw [e, slicePick_from items items.size (Nat.le_refl _), List.drop_of_length_le (by simp), List.drop_of_length_le (by simp; exact fm [_, _] [] [.no (.nle (.v 0) (.v 1))] (.nle (.v 1) (.v 0)) [[1, 1]] rfl hb)]

section
variable {C : Cx} {A : Around} {E : Value → Shared → Prop} {s : Shared} {frs : List Env} {μ : List Addr} {σ σ' : St} {n : Nat} {env : Env} {ρ : PE} {F : Evs}

theorem cut_ok (r : Rel C frs μ σ s.heap) {i : Nat} {a : Addr} {l : List PV} {l' : List PV} {p : PV} {vl vu : Value} {lo hi : Option Int} {value slice : Expr} {Q : Value → Shared → Prop} (ea : μ[i]? = some a) (hl : σ[i]? = some l) (hle : l.length ≤ cap)
    (pl : IsPart vl lo) (pu : IsPart vu hi) (hs : ∀ o i, subscripted slice false o i = operate [i, o] (PySem.getItem o i))
    (hp : ∀ vs : Array Value, VRs s.heap μ l vs.toList → VRs s.heap μ l' (slicePick vs lo hi none).toList) (ha : alloc l' σ = Mine.ok p σ') (h : OkV C frs s μ p σ' Q) :
    wpAny (MM C) A (subscriptTail value slice (.ref a) (.ref s.heap.objs.size)) Q E { s with heap := s.heap.push { cls := .type "slice", data := .fields #[vl, vu, .none] } } := by
  refine r.at_ ea hl fun vs k e2 e3 hlen => ?_
  have kp : ∀ (o : Obj) b o', s.heap.get? b = some o' → (s.heap.push o).get? b = some o' := fun o b o' e => Heap.get?_push_of_some _ e
  refine tail_any ((IsL.isList e2).push _).typeIs slot_list_getitem.lookup (wpAny_getItem_list_slice ((IsL.isList e2).push _) (Heap.IsSliceOf.new ..) pl pu .none (by simp) ?_ (by rw [hlen]; exact le_line hle)) (hs _ _)
  show Q (.ref (s.heap.push _).objs.size) { s with heap := (s.heap.push _).push _ }
  refine list_end (vs := slicePick vs lo hi none) (k := 0) (t := s.toks) r ha (fun b o e => Heap.get?_push_of_some _ (Heap.get?_push_of_some _ e)) ?_ (Heap.get?_push_size _ rfl) (hp vs e3) h
  cases q : s.heap.get? (s.heap.push { cls := .type "slice", data := .fields #[vl, vu, .none] }).objs.size with
  | none => rfl
  | some o =>
    have q' := Heap.lt_size q
    rw [Heap.size_push] at q'
    exact absurd q' (Nat.not_lt.mpr (Nat.le_succ _))

theorem sub_ok (S : Sound C n F) (aok : AOk A n frs) (r : Rel C frs μ σ s.heap) (e : EnvRel C s.heap μ env ρ) {v sl : Expr} {pos : Pos} {o : Out PV} {Q : Value → Shared → Prop} (hx : evSub F v sl ρ σ = some o)
    (h : PostV C frs s μ o Q E) : wpAny (MM C) A (eval (.Subscript v sl pos) env) Q E s := by
  refine bnd (x := F.e v ρ σ) hx fun a σ₁ h1 hx => ?_
  refine Subscript_ (S.v aok r e h1 fun va h' t' μ' r' x' hva => ?_)
  refine sub_elim (P := fun sl => wpAny (MM C) A (eval sl env) (fun k s₂ => wpAny (MM C) A (subscriptTail v sl va k) Q E s₂) E { s with heap := h', toks := t' }) hx (fun u p i m l σ₂ ha h2 hm1 hl hle hz => ?_) (fun u p i m l σ₂ ha h2 hm1 hl hle hz => ?_) (fun i k σ₂ hns h2 hx => ?_)
  · subst ha
    refine hva.lst_elim fun ad ea => alloc_inv hz fun hle2 hq => ?_
    refine wpAny_Slice ?_
    rw [evalPart_none, evalPart_some]
    refine wpAny_pure (S.v (s := { s with heap := h', toks := t' }) aok r' (e.ext0 r x') h2 fun vu h'' t'' μ'' r'' x'' hvu => ?_)
    refine wpAny_pure (hvu.int_elim fun tu => ?_)
    refine cut_ok (s := { s with heap := h'', toks := t'' }) (l' := l.take m.toNat) r'' (x''.at_ ea) hl hle .none (.int _ _) (fun _ _ => rfl) (fun vs hv => ?_) (alloc_of hle2) (OkV.step (ok_out (congrArg some hq) h) (x'.trans x''))
    obtain ⟨k, rfl⟩ := Int.eq_ofNat_of_zero_le hm1
    rw [slicePick_upto']
    simpa using hv.take k
  · subst ha
    refine hva.lst_elim fun ad ea => alloc_inv hz fun hle2 hq => ?_
    refine wpAny_Slice ?_
    rw [evalPart_some]
    refine S.v (s := { s with heap := h', toks := t' }) aok r' (e.ext0 r x') h2 fun vu h'' t'' μ'' r'' x'' hvu => ?_
    refine wpAny_pure (wpAny_pure (hvu.int_elim fun tu => ?_))
    refine cut_ok (s := { s with heap := h'', toks := t'' }) (l' := l.drop m.toNat) r'' (x''.at_ ea) hl hle (.int _ _) .none (fun _ _ => rfl) (fun vs hv => ?_) (alloc_of hle2) (OkV.step (ok_out (congrArg some hq) h) (x'.trans x''))
    obtain ⟨k, rfl⟩ := Int.eq_ofNat_of_zero_le hm1
    rw [slicePick_from']
    simpa using hv.drop k
  · have hs : ∀ a k u, subscripted i false (.ref a) (.int k u) = operate [.ref a, .int k u] (PySem.getItem (.ref a) (.int k u)) := fun a k u => by cases i <;> first | rfl | cases hns
    have goal : wpAny (MM C) A (eval i env) (fun k s₂ => wpAny (MM C) A (subscriptTail v i va k) Q E s₂) E { s with heap := h', toks := t' } := by
      refine S.v (s := { s with heap := h', toks := t' }) aok r' (e.ext0 r x') h2 fun vk h'' t'' μ'' r'' x'' hvk => ?_
      cases o with
      | ok z σ₃ => exact getItem_ok (s := { s with heap := h'', toks := t'' }) r'' (hva.ext r' x'' WOk.nil) hvk hx (h.ok.step (x'.trans x'')) hs
      | exc k σ₃ => exact getItem_no hx
    exact goal

theorem evList_plain {f : Expr → St → R PV} {env : Env} {pos : Pos} : ∀ {es : List Expr} {σ σ' : St} {ps : List PV}, evList f es σ = some (.ok ps σ') → (backTo pos (starEach es env)).any (·.1) = false
  | [], _, _, _, _ => rfl
  | x :: es, σ, σ', ps, hx => by
    refine evList_inv hx fun p σ₁ ps' σ₂ hst h1 h2 _ => ?_
    · have he : starEach (x :: es) env = (false, eval x env) :: starEach es env := by
        cases x <;> first | rfl | exact absurd rfl hst
      rw [he]
      show (false || (backTo pos (starEach es env)).any (·.1)) = false
      rw [evList_plain h2]
      rfl

theorem args_ok (S : Sound C n F) (aok : AOk A n frs) {pos : Pos} (r : Rel C frs μ σ s.heap) (e : EnvRel C s.heap μ env ρ) {es : List Expr} {ps : List PV} {fv : Value} {Q : Args → Shared → Prop}
    (hx : evList (fun e σ => F.e e ρ σ) es σ = some (.ok ps σ')) (h : OkVs C frs s μ ps σ' (fun vs s' => Q ⟨vs, []⟩ s')) : wpAny (MM C) A (evalArgs fv true (backTo pos (starEach es env)) []) Q E s := by
  cases es with
  | nil =>
    cases hx
    exact PyProof.Rows.evalArgs_none (h [] s.heap s.toks μ r Ext.refl rfl)
  | cons x es =>
    have he : starEach (x :: es) env = (false, eval x env) :: starEach es env := by
      refine evList_inv hx fun _ _ _ _ hst _ _ _ => ?_
      cases x <;> first | rfl | exact absurd rfl hst
    have := evList_ok S aok (pos := pos) (E := E) r e hx h
    rw [he] at this ⊢
    exact evalArgs_plain this

theorem PostV.step {o : Out PV} {Q : Value → Shared → Prop} (h : PostV C frs s μ o Q E) {h₁ : Heap} {t₁ : Tok} {μ₁ : List Addr} (x : Ext C [] s.heap μ h₁ μ₁) : PostV C frs { s with heap := h₁, toks := t₁ } μ₁ o Q E := by
  cases o with
  | ok p σ₂ => exact OkV.step h x
  | exc k σ₂ => exact fun e' h'' t'' μ'' fl => h e' h'' t'' μ'' (fl.back x)

set_option backward.match.sparseCases false in
theorem append_call (S : Sound C n F) (aok : AOk A n frs) (r : Rel C frs μ σ s.heap) (e : EnvRel C s.heap μ env ρ) {x : Str} {arg : Expr} {p apos pos : Pos} {o : Out PV} {Q : Value → Shared → Prop} (hst : isStar arg = false) (hline : (apos.endLine == pos.line) = true)
    (hx : ((F.e (.Name x p) ρ σ).bind fun o σ₁ => (F.e arg ρ σ₁).bind fun v σ₂ => match o with
          | .lst i => match σ₂[i]? with
            | some l => if l.length < cap then Mine.ok PV.none (σ₂.set i (l ++ [v])) else Option.none
            | none => Option.none
          | _ => Option.none) = some o) (h : PostV C frs s μ o Q E) : wpAny (MM C) A (eval (.Call (.Attribute (.Name x p) "append" apos) [arg] [] pos) env) Q E s := by
  refine bnd hx fun ov σ₁ h1 hx => bnd hx fun v σ₂ h2 hx => ?_
  have he : starEach [arg] env = [(false, eval arg env)] := by cases arg <;> first | rfl | cases hst
  have hbt : backTo pos (starEach [arg] env) = [(false, eval arg env)] := by rw [he]; rfl
  refine wpAny_Call_append rfl (by rw [hbt]; rfl) hline hbt (S.v aok r e h1 fun va h' t' μ' r' x' hva => ?_)
  refine put_elim (P := fun ov => VR h' μ' ov va → _) hx (fun i l hl hle hx hva => ?_) hva
  refine hva.lst_elim fun a ea => r'.here_ ea fun _ vs k _ e2 e3 _ => ?_
  refine ⟨a, vs, rfl, ⟨_, k, e2, rfl, rfl, rfl⟩, ?_⟩
  refine S.v (s := { s with heap := h', toks := t' }) aok r' (e.ext0 r x') h2 fun vb h'' t'' μ'' r'' x'' hvb => ?_
  exact append_ok (s := { s with heap := h'', toks := t'' }) r'' (x''.at_ ea) hl hle hvb (OkV.step (ok_out (congrArg some hx) h) (x'.trans x''))

theorem isGlobal_debug {x : Str} {v : Value} (hv : C.mg x = some v) (hd : C.mg "__debug__" = none) : (x == ("__debug__" : Str)) = false := by
  cases q : x == ("__debug__" : Str) with
  | false => rfl
  | true => rw [beq_iff_eq.mp q, hd] at hv; cases hv

end
end Mine
end
section
open PySem PySem.W PyProof.Rows PySem.Calls
namespace Mine

noncomputable def Dull (C : Cx) (μ : List Addr) (W : List Addr) (h : Heap) : Prop :=
  ∀ b ∈ W, C.B.get? b = none ∧ b ∉ μ ∧ ∀ o, h.get? b = some o → o.cls ≠ .type "tuple" ∧ o.cls ≠ .type "range" ∧ o.cls ≠ .none ∧ (∀ es n, o.data ≠ .dict es n) ∧ (∀ v, o.data ≠ .cell v) ∧ ∀ vs q t, o.data = .fields vs → vs[1]? ≠ some (.str q t)

noncomputable def KeepBut (W : List Addr) (h h' : Heap) : Prop := ∀ b o, b ∉ W → h.get? b = some o → h'.get? b = some o

noncomputable def Mute (W : List Addr) (h : Heap) : Prop := ∀ b ∈ W, ∀ o, h.get? b = some o → (o.cls ≠ .type "tuple" ∨ ∀ vs n, o.data ≠ .seq vs n) ∧ (o.cls ≠ .type "range" ∨ ∀ vs, o.data ≠ .fields vs)
theorem Dull.mute {C μ W h} (d : Dull C μ W h) : Mute W h := fun b hb o ho => ⟨.inl ((d b hb).2.2 o ho).1, .inl ((d b hb).2.2 o ho).2.1⟩
theorem Mute.tup {W h} (d : Mute W h) {b : Addr} {o : Obj} (ho : h.get? b = some o) (hc : o.cls = .type "tuple") {vs n} (hd : o.data = .seq vs n) : b ∉ W := fun q => by
  rcases (d b q o ho).1 with z | z
  · exact z hc
  · exact z _ _ hd
theorem Mute.rng {W h} (d : Mute W h) {b : Addr} {o : Obj} (ho : h.get? b = some o) (hc : o.cls = .type "range") {vs} (hd : o.data = .fields vs) : b ∉ W := fun q => by
  rcases (d b q o ho).2 with z | z
  · exact z hc
  · exact z _ hd

mutual
theorem VR.mute {W h μ h'} (d : Mute W h) (k : KeepBut W h h') : ∀ {p : PV} {v : Value}, VR h μ p v → VR h' μ p v
  | .none, _, e => e
  | .bool _, _, e => e
  | .int _, _, e => e
  | .str _, _, e => e
  | .lst i, _, e => e
  | .tup l, _, ⟨a, vs, e, ⟨o, ho, hc, hd⟩, hl⟩ => ⟨a, vs, e, ⟨o, k a o (d.tup ho hc hd.choose_spec) ho, hc, hd⟩, VRs.mute d k hl⟩
  | .rng lo hi, _, ⟨a, t, u, y, e, ho, hs⟩ => ⟨a, t, u, y, e, k a _ (d.rng ho rfl rfl) ho, hs⟩
theorem VRs.mute {W h μ h'} (d : Mute W h) (k : KeepBut W h h') : ∀ {l : List PV} {vs : List Value}, VRs h μ l vs → VRs h' μ l vs
  | [], _, e => e
  | p :: l, _, ⟨v, rr, e, hp, hl⟩ => ⟨v, rr, e, VR.mute d k hp, VRs.mute d k hl⟩
end
theorem VR.touch {C : Cx} {W h μ μ' h'} (d : Dull C μ' W h) (k : KeepBut W h h') {p : PV} {v : Value} (x : VR h μ p v) : VR h' μ p v := VR.mute d.mute k x
theorem VRs.touch {C : Cx} {W h μ μ' h'} (d : Dull C μ' W h) (k : KeepBut W h h') {p : List PV} {v : List Value} (x : VRs h μ p v) : VRs h' μ p v := VRs.mute d.mute k x

structure Loose (C : Cx) (frs : List Env) (μ : List Addr) (W : List Addr) (h : Heap) : Prop where
  base : ∀ b ∈ W, C.B.get? b = none
  mu : ∀ b ∈ W, b ∉ μ
  fr : ∀ b ∈ W, ∀ env ∈ frs, env.frame ≠ some b
  mute : Mute W h
  tab : ∀ b ∈ W, ∀ o, h.get? b = some o → (o.cls ≠ .none ∨ ∀ vs, o.data ≠ .fields vs) ∧ ∀ vs q t, o.data = .fields vs → vs[1]? ≠ some (.str q t)

theorem Rel.loose {C frs μ σ W h h'} (r : Rel C frs μ σ h) (d : Loose C frs μ W h) (k : KeepBut W h h') : Rel C frs μ σ h' where
  base := fun b o e => k b o (fun q => by rw [d.base b q] at e; cases e) (r.base b o e)
  len := r.len
  nodup := r.nodup
  fresh := r.fresh
  items := fun i l e => by
    obtain ⟨a, vs, n, e1, e2, e3⟩ := r.items i l e
    exact ⟨a, vs, n, e1, k a _ (fun q => d.mu a q (List.mem_of_getElem? e1)) e2, VRs.mute d.mute k e3⟩
  tabs := fun t ht => by
    obtain ⟨ps, h1, h2, h3⟩ := r.tabs t ht
    refine ⟨ps, k _ _ (fun q => (d.tab _ q _ h1).1.elim (fun z => z rfl) fun z => z _ rfl) h1, h2, fun pos cv e => ?_⟩
    obtain ⟨c, o, ws, t', e', g, hd, hq⟩ := h3 pos cv e
    exact ⟨c, o, ws, t', e', k c o (fun q => (d.tab _ q _ g).2 _ _ _ hd hq) g, hd, hq⟩
  frames := fun env he => by
    obtain ⟨h1, L, m, h2, h3, ⟨o, es, ep, e, hd, hk, hm⟩⟩ := r.frames env he
    exact ⟨h1, L, m, h2, h3, ⟨o, es, ep, k L o (fun q => d.fr L q env he h2) e, hd, hk, hm⟩⟩

theorem EnvRel.loose {C frs h μ env ρ W h'} (e : EnvRel C h μ env ρ) (d : Loose C frs μ W h) (k : KeepBut W h h') (hl : env.locals ∉ W) (hc : ∀ x c, ρ.names.lookup x = some .cell ∨ ρ.names.lookup x = some .free → env.cells.lookup x = some c → c ∉ W) : EnvRel C h' μ env ρ where
  kind := e.kind
  globals := e.globals
  builtins := e.builtins
  names := e.names
  classdict := e.classdict
  ns := by
    obtain ⟨m, ⟨o, es, ep, e1, hd, hk, hm⟩, hv⟩ := e.ns
    exact ⟨m, ⟨o, es, ep, k _ o hl e1, hd, hk, hm⟩, fun y p h1 h2 => by
      obtain ⟨v, h3, h4⟩ := hv y p h1 h2
      exact ⟨v, h3, h4.mute d.mute k⟩⟩
  cell := fun y hy => by
    obtain ⟨c, v, h1, ⟨o, e1, hd⟩, h3⟩ := e.cell y hy
    exact ⟨c, v, h1, ⟨o, k c o (hc y c hy h1) e1, hd⟩, fun p hp => by
      obtain ⟨w, h4, h5⟩ := h3 p hp
      exact ⟨w, h4, h5.mute d.mute k⟩⟩
  keys := e.keys
  apart := e.apart
  fresh := e.fresh
  cfresh := e.cfresh
  lam := e.lam

theorem KeepBut.ns {C μ W h h'} (d : Dull C μ W h) (k : KeepBut W h h') {a : Addr} {m : Str → Option Value} (hn : h.Ns a m) : h'.Ns a m := by
  obtain ⟨o, es, ep, e, hd, hk, hm⟩ := hn
  exact ⟨o, es, ep, k a o (fun q => ((d a q).2.2 o e).2.2.2.1 _ _ hd) e, hd, hk, hm⟩

theorem KeepBut.cell {C μ W h h'} (d : Dull C μ W h) (k : KeepBut W h h') {a : Addr} {v : Option Value} (hn : h.IsCell a v) : h'.IsCell a v := by
  obtain ⟨o, e, hd⟩ := hn
  exact ⟨o, k a o (fun q => ((d a q).2.2 o e).2.2.2.2.1 _ hd) e, hd⟩

theorem Rel.touch {C frs μ σ W h h'} (r : Rel C frs μ σ h) (d : Dull C μ W h) (k : KeepBut W h h') : Rel C frs μ σ h' where
  base := fun b o e => k b o (fun q => by rw [(d b q).1] at e; cases e) (r.base b o e)
  len := r.len
  nodup := r.nodup
  fresh := r.fresh
  items := fun i l e => by
    obtain ⟨a, vs, n, e1, e2, e3⟩ := r.items i l e
    exact ⟨a, vs, n, e1, k a _ (fun q => (d a q).2.1 (List.mem_of_getElem? e1)) e2, e3.touch d k⟩
  tabs := fun t ht => by
    obtain ⟨ps, h1, h2, h3⟩ := r.tabs t ht
    refine ⟨ps, k _ _ (fun q => ((d _ q).2.2 _ h1).2.2.1 rfl) h1, h2, fun pos cv e => ?_⟩
    obtain ⟨c, o, ws, t', e', g, hd, hq⟩ := h3 pos cv e
    exact ⟨c, o, ws, t', e', k c o (fun q => ((d _ q).2.2 _ g).2.2.2.2.2 _ _ _ hd hq) g, hd, hq⟩
  frames := fun env he => by
    obtain ⟨h1, L, m, h2, h3, h4⟩ := r.frames env he
    exact ⟨h1, L, m, h2, h3, k.ns d h4⟩

theorem EnvRel.touch {C h μ env ρ W h'} (e : EnvRel C h μ env ρ) (d : Dull C μ W h) (k : KeepBut W h h') : EnvRel C h' μ env ρ where
  kind := e.kind
  globals := e.globals
  builtins := e.builtins
  names := e.names
  classdict := e.classdict
  ns := by
    obtain ⟨m, hn, hv⟩ := e.ns
    exact ⟨m, k.ns d hn, fun y p h1 h2 => by
      obtain ⟨v, h3, h4⟩ := hv y p h1 h2
      exact ⟨v, h3, h4.touch d k⟩⟩
  cell := fun y hy => by
    obtain ⟨c, v, h1, h2, h3⟩ := e.cell y hy
    exact ⟨c, v, h1, k.cell d h2, fun p hp => by
      obtain ⟨w, h4, h5⟩ := h3 p hp
      exact ⟨w, h4, h5.touch d k⟩⟩
  keys := e.keys
  apart := e.apart
  fresh := e.fresh
  cfresh := e.cfresh
  lam := e.lam

theorem Ext.but {C : Cx} {W X : List Addr} {h μ h₁ μ₁ h'} (x : Ext C W h μ h₁ μ₁) (hf : ∀ b ∈ X, h.get? b = none) (k : KeepBut X h₁ h') : Ext C W h μ h' μ₁ where
  pre := x.pre
  new := x.new
  keep := fun b o e hb => by
    have hX : b ∉ X := fun q => by rw [hf b q] at e; cases e
    rcases x.keep b o e hb with h1 | ⟨h1, sl, h2⟩
    · exact .inl (k b o hX h1)
    · exact .inr ⟨h1, sl, k b _ hX h2⟩
  alive := fun b o e => by
    obtain ⟨o', e'⟩ := x.alive b o e
    exact ⟨o', k b o' (fun q => by rw [hf b q] at e; cases e) e'⟩

inductive ItL (C : Cx) (h : Heap) (μ : List Addr) (i k : Nat) (iv : Value) (W : List Addr) : Prop
  | mk I a (c1 : iv = .ref I) (c2 : W = [I]) (c3 : μ[i]? = some a) (c4 : h.IsListIter I a k) (c5 : C.B.get? I = none) : ItL C h μ i k iv W
inductive ItT (C : Cx) (h : Heap) (μ : List Addr) (l : List PV) (k : Nat) (iv : Value) (W : List Addr) : Prop
  | mk I t vs (c1 : iv = .ref I) (c2 : W = [I]) (c3 : h.IsTupleIter I t k) (c4 : h.IsTuple t vs) (c5 : VRs h μ l vs.toList) (c6 : C.B.get? I = none) : ItT C h μ l k iv W
inductive ItG (C : Cx) (h : Heap) (lo hi : Int) (k : Nat) (iv : Value) (W : List Addr) : Prop
  | mk I left (c1 : iv = .ref I) (c2 : W = [I]) (c3 : IsRangeIter h I (lo + k) left 1) (c4 : lo + k < hi ↔ 0 < left) (c5 : 0 < left → left = hi - (lo + k)) (c6 : C.B.get? I = none) : ItG C h lo hi k iv W
inductive ItE (C : Cx) (h : Heap) (μ : List Addr) (i k : Nat) (iv : Value) (W : List Addr) : Prop
  | mk I e a old (c1 : iv = .ref e) (c2 : W = [e, I]) (c3 : e ≠ I) (c4 : μ[i]? = some a) (c5 : IsEnum h e I k old) (c6 : h.IsListIter I a k) (c7 : C.B.get? I = none) (c8 : C.B.get? e = none) : ItE C h μ i k iv W
noncomputable def ItR (C : Cx) (h : Heap) (μ : List Addr) (it : It) (k : Nat) (iv : Value) (W : List Addr) : Prop :=
  match it with
  | .lst i => ItL C h μ i k iv W
  | .tup l => ItT C h μ l k iv W
  | .rng lo hi => ItG C h lo hi k iv W
  | .enm i => ItE C h μ i k iv W

theorem dull_of {h : Heap} {a : Addr} {o : Obj} {vs : Array Value} {T : String} (e : h.get? a = some o) (hc : o.cls = .type T) (hd : o.data = .fields vs) (hT : T ≠ "range") (hT2 : T ≠ "tuple") (h1 : ∀ q t, vs[1]? ≠ some (.str q t)) :
    ∀ o', h.get? a = some o' → o'.cls ≠ .type "tuple" ∧ o'.cls ≠ .type "range" ∧ o'.cls ≠ .none ∧ (∀ es n, o'.data ≠ .dict es n) ∧ (∀ v, o'.data ≠ .cell v) ∧ ∀ vs q t, o'.data = .fields vs → vs[1]? ≠ some (.str q t) := fun o' e' => by
  rw [e] at e'; cases e'
  refine ⟨?_, ?_, ?_, ?_, ?_, ?_⟩
  · rw [hc]; intro q; injection q with q; exact hT2 q
  · rw [hc]; intro q; injection q with q; exact hT q
  · rw [hc]; exact (fun q => nomatch q)
  · rw [hd]; exact (fun _ _ q => nomatch q)
  · rw [hd]; exact (fun _ q => nomatch q)
  · intro vs' q t e1
    rw [hd] at e1; cases e1
    exact h1 q t

theorem fields_notin {C frs μ σ} {h : Heap} (r : Rel C frs μ σ h) {a : Addr} {o : Obj} {vs : Array Value} (e : h.get? a = some o) (hd : o.data = .fields vs) : a ∉ μ := fun q => by
  obtain ⟨_, _, _, _, _, _, e', _⟩ := r.list_of_mem q
  rw [e] at e'; cases e'; cases hd

theorem ItR.dull {C frs σ h μ it k iv W} (x : ItR C h μ it k iv W) (r : Rel C frs μ σ h) : Dull C μ W h := by
  cases it with
  | lst i =>
    obtain ⟨I, a, rfl, rfl, _, ⟨o, e, hc, hd⟩, hb⟩ := x
    intro b hb'
    simp at hb'; subst hb'
    exact ⟨hb, fields_notin r e hd, dull_of e hc hd (by decide) (by decide) (by simp)⟩
  | tup l =>
    obtain ⟨I, t, vs, rfl, rfl, ⟨o, e, hc, hd⟩, _, _, hb⟩ := x
    intro b hb'
    simp at hb'; subst hb'
    exact ⟨hb, fields_notin r e hd, dull_of e hc hd (by decide) (by decide) (by simp)⟩
  | rng lo hi =>
    obtain ⟨I, left, rfl, rfl, h1, _, _, hb⟩ := x
    intro b hb'
    simp at hb'; subst hb'
    exact ⟨hb, fields_notin r h1 rfl, dull_of h1 rfl rfl (by decide) (by decide) (by simp [rawInt])⟩
  | enm i =>
    obtain ⟨I, e, a, old, rfl, rfl, hne, _, h1, ⟨o, e2, hc, hd⟩, hb, hb2⟩ := x
    intro b hb'
    simp at hb'
    rcases hb' with rfl | rfl
    · exact ⟨hb2, fields_notin r h1 rfl, dull_of h1 rfl rfl (by decide) (by decide) (by simp)⟩
    · exact ⟨hb, fields_notin r e2 hd, dull_of e2 hc hd (by decide) (by decide) (by simp)⟩

theorem ItR.fields {C h μ it k iv W} (x : ItR C h μ it k iv W) : ∀ b ∈ W, ∃ o vs, h.get? b = some o ∧ o.data = .fields vs := by
  cases it with
  | lst i =>
    obtain ⟨I, a, rfl, rfl, _, ⟨o, e, hc, hd⟩, hb⟩ := x
    intro b hb'
    simp at hb'; subst hb'
    exact ⟨o, _, e, hd⟩
  | tup l =>
    obtain ⟨I, t, vs, rfl, rfl, ⟨o, e, hc, hd⟩, _, _, hb⟩ := x
    intro b hb'
    simp at hb'; subst hb'
    exact ⟨o, _, e, hd⟩
  | rng lo hi =>
    obtain ⟨I, left, rfl, rfl, h1, _, _, hb⟩ := x
    intro b hb'
    simp at hb'; subst hb'
    exact ⟨_, _, h1, rfl⟩
  | enm i =>
    obtain ⟨I, e, a, old, rfl, rfl, hne, _, h1, ⟨o, e2, hc, hd⟩, hb, hb2⟩ := x
    intro b hb'
    simp at hb'
    rcases hb' with rfl | rfl
    · exact ⟨_, _, h1, rfl⟩
    · exact ⟨o, _, e2, hd⟩

theorem ItR.loose {C h h' μ it k iv W X} (x : ItR C h μ it k iv W) (d : Mute X h) (kb : KeepBut X h h') (hX : ∀ b ∈ W, b ∉ X) : ItR C h' μ it k iv W := by
  cases it with
  | lst i =>
    obtain ⟨I, a, rfl, rfl, h0, ⟨o, e, hc, hd⟩, hb⟩ := x
    exact ⟨I, a, rfl, rfl, h0, ⟨o, kb _ _ (hX I (by simp)) e, hc, hd⟩, hb⟩
  | tup l =>
    obtain ⟨I, t, vs, rfl, rfl, ⟨o, e, hc, hd⟩, ⟨o2, e2, hc2, hd2⟩, h3, hb⟩ := x
    exact ⟨I, t, vs, rfl, rfl, ⟨o, kb _ _ (hX I (by simp)) e, hc, hd⟩, ⟨o2, kb _ _ (d.tup e2 hc2 hd2.choose_spec) e2, hc2, hd2⟩, VRs.mute d kb h3, hb⟩
  | rng lo hi =>
    obtain ⟨I, left, rfl, rfl, h1, h2, h3, hb⟩ := x
    exact ⟨I, left, rfl, rfl, kb _ _ (hX I (by simp)) h1, h2, h3, hb⟩
  | enm i =>
    obtain ⟨I, e, a, old, rfl, rfl, hne, h0, h1, ⟨o, e2, hc, hd⟩, hb, hb2⟩ := x
    exact ⟨I, e, a, old, rfl, rfl, hne, h0, kb _ _ (hX e (by simp)) h1, ⟨o, kb _ _ (hX I (by simp)) e2, hc, hd⟩, hb, hb2⟩

theorem stays_dull {C : Cx} {W h μ h' μ' frs σ} (r : Rel C frs μ σ h) (x : Ext C W h μ h' μ') {b : Addr} {o : Obj} {vs : Array Value} {T : String} (e : h.get? b = some o) (hc : o.cls = .type T) (hd : o.data = .fields vs) (hW : b ∉ W) : h'.get? b = some o :=
  x.stays r e (.inr fun vs n q => by rw [hd] at q; cases q) (.inl (by rw [hc]; exact (fun q => nomatch q))) (fun es n q => by rw [hd] at q; cases q) hW

theorem stays_listIter {C : Cx} {W h μ h' μ' frs σ} (r : Rel C frs μ σ h) (x : Ext C W h μ h' μ') {I a : Addr} {k : Nat} (hi : h.IsListIter I a k) (hW : I ∉ W) : h'.IsListIter I a k := by
  obtain ⟨o, e, hc, hd⟩ := hi
  exact ⟨o, stays_dull r x e hc hd hW, hc, hd⟩

theorem stays_tuple {C : Cx} {W h μ h' μ' frs σ} (r : Rel C frs μ σ h) (x : Ext C W h μ h' μ') (hW : WOk W h) {t : Addr} {vs : Array Value} (ht : h.IsTuple t vs) : h'.IsTuple t vs := by
  obtain ⟨o, e, hc, n, hd⟩ := ht
  exact ⟨o, x.stays r e (.inl (by rw [hc]; decide)) (.inl (by rw [hc]; decide)) (fun es n q => by rw [hd] at q; cases q) (fun q => (hW t q o e).1 _ n hd), hc, n, hd⟩

theorem ItR.ext {C : Cx} {W' h μ h' μ' frs σ it k iv W} (z : ItR C h μ it k iv W) (r : Rel C frs μ σ h) (x : Ext C W' h μ h' μ') (hW' : WOk W' h) (hd : ∀ b ∈ W, b ∉ W') : ItR C h' μ' it k iv W := by
  cases it with
  | lst i =>
    obtain ⟨I, a, rfl, rfl, h0, h1, hb⟩ := z
    exact ⟨I, a, rfl, rfl, x.at_ h0, stays_listIter r x h1 (hd I (by simp)), hb⟩
  | tup l =>
    obtain ⟨I, t, vs, rfl, rfl, ⟨o, e, hc, hdd⟩, h2, h3, hb⟩ := z
    exact ⟨I, t, vs, rfl, rfl, ⟨o, stays_dull r x e hc hdd (hd I (by simp)), hc, hdd⟩, stays_tuple r x hW' h2, VRs.ext r x hW' h3, hb⟩
  | rng lo hi =>
    obtain ⟨I, left, rfl, rfl, h1, h2, h3, hb⟩ := z
    exact ⟨I, left, rfl, rfl, stays_dull r x h1 rfl rfl (hd I (by simp)), h2, h3, hb⟩
  | enm i =>
    obtain ⟨I, e, a, old, rfl, rfl, hne, h0, h1, h2, hb, hb2⟩ := z
    exact ⟨I, e, a, old, rfl, rfl, hne, x.at_ h0, stays_dull r x h1 rfl rfl (hd e (by simp)), stays_listIter r x h2 (hd I (by simp)), hb, hb2⟩

section
variable {C : Cx} {A : Around} {E : Value → Shared → Prop} {s : Shared} {frs : List Env} {μ : List Addr} {σ σ' : St} {n : Nat} {env : Env} {ρ : PE} {F : Evs}

theorem keepBut_of_sameBut {a : Addr} {h h' : Heap} (x : Heap.SameBut a h h') : KeepBut [a] h h' := fun b o hb e => (x.2 b (by simpa using hb)).trans e
theorem keepBut_of_extBut {a : Addr} {h h' : Heap} (x : Heap.ExtBut a h h') : KeepBut [a] h h' := fun b o hb e => x b o (by simpa using hb) e

theorem next_ok {it : It} {k : Nat} {iv : Value} {W : List Addr} {target : Expr} {Q : Option Value → Shared → Prop} {Q' : Value → Unit → Shared → Prop} (aok : AOk A n frs) (r : Rel C frs μ σ s.heap) (z : ItR C s.heap μ it k iv W) (hf : fits it target = true)
    (hn : nextAt σ it k = none → ∀ h' t', KeepBut W s.heap h' → Q none { s with heap := h', toks := t' })
    (hs : ∀ p, nextAt σ it k = some p → ∀ v h' t', KeepBut W s.heap h' → VR h' μ p v → ItR C h' μ it (k + 1) iv W → Q' v () { s with heap := h', toks := t' })
    (hq : ∀ v s₁, wpAny (MM C) A (letOwnedTupleGo target iv v) (Q' v) E s₁ → Q (some v) s₁) : wpAny (MM C) A (pyNext iv) Q E s := by
  cases it with
  | lst i =>
    obtain ⟨I, a, rfl, rfl, h0, h1, hb⟩ := id z
    have hlt : i < σ.length := by
      rw [← r.len]
      exact (List.getElem?_eq_some_iff.mp h0).1
    obtain ⟨a', vs, n', e1, e2, e3⟩ := r.items i σ[i] (by simp [hlt])
    rw [h0] at e1; cases e1
    have hnx : nextAt σ (.lst i) k = σ[i][k]? := by simp [nextAt, hlt]
    rw [hnx] at hn hs
    cases hg : σ[i][k]? with
    | none =>
      exact wpAny_pyNext_list_end aok.handled h1 (IsL.isList e2) (by simpa using e3.get_none hg) fun h' hx => hn hg h' s.toks (keepBut_of_extBut hx)
    | some p =>
      obtain ⟨v, hv, hpv⟩ := e3.get hg
      refine wpAny_pyNext_list_item h1 (IsL.isList e2) (by simpa using hv) fun h' h1' hx => hq _ _ ?_
      have ht : letOwnedTupleGo target (.ref I) v = pure () := by cases target <;> first | rfl | cases hf
      rw [ht]
      exact wpAny_pure (hs p hg v h' s.toks (keepBut_of_sameBut hx) (hpv.touch (z.dull r) (keepBut_of_sameBut hx)) ⟨I, a, rfl, rfl, h0, h1', hb⟩)
  | tup l =>
    obtain ⟨I, t, vs, rfl, rfl, h1, h2, h3, hb⟩ := id z
    have hnx : nextAt σ (.tup l) k = l[k]? := rfl
    rw [hnx] at hn hs
    cases hg : l[k]? with
    | none =>
      exact wpAny_pyNext_tuple_end aok.handled h1 h2 (by simpa using h3.get_none hg) fun h' hx => hn hg h' s.toks (keepBut_of_extBut hx)
    | some p =>
      obtain ⟨v, hv, hpv⟩ := h3.get hg
      refine wpAny_pyNext_tuple_item h1 h2 (by simpa using hv) fun h' h1' hx => hq _ _ ?_
      have ht : letOwnedTupleGo target (.ref I) v = pure () := by cases target <;> first | rfl | cases hf
      rw [ht]
      have kb := keepBut_of_sameBut hx
      have hIt : t ∉ [I] := fun q => by
        obtain ⟨o, e, hc, m, hd⟩ := h2
        exact (((z.dull r) t q).2.2 o e).1 hc
      obtain ⟨o, e, rest⟩ := h2
      exact wpAny_pure (hs p hg v h' s.toks kb (hpv.touch (z.dull r) kb) ⟨I, t, vs, rfl, rfl, h1', ⟨o, kb t o hIt e, rest⟩, VRs.touch (z.dull r) kb h3, hb⟩)
  | rng lo hi =>
    obtain ⟨I, left, rfl, rfl, h1, h2, h3, hb⟩ := id z
    have hnx : nextAt σ (.rng lo hi) k = if lo + k < hi then some (.int (lo + k)) else none := rfl
    rw [hnx] at hn hs
    by_cases hg : lo + k < hi
    · have hl := h2.mp hg
      have hl2 := h3 hl
      refine wpAny_pyNext_range_item h1 hl fun h' h1' hx => hq _ _ ?_
      have ht : ∀ v, letOwnedTupleGo target (.ref I) v = pure () := by intro v; cases target <;> first | rfl | cases hf
      rw [ht]
      have e1 : lo + (k : Int) + 1 = lo + ((k + 1 : Nat) : Int) := by exact fm [_] [_] [] (.ieq (.a (.a (.v 0) (.k (.v 0))) (.l 1)) (.a (.v 0) (.k (.a (.v 0) (.l 1))))) [[1], [1]] rfl
      rw [e1] at h1'
      exact wpAny_pure (hs (.int (lo + k)) (by rw [if_pos hg]) _ h' (s.toks + 1) (keepBut_of_sameBut hx) ⟨_, rfl⟩ ⟨I, left - 1, rfl, rfl, h1', ⟨fun q => by exact fm [_] [_, _, _] [.ieq (.v 0) (.s (.v 1) (.a (.v 2) (.k (.v 0)))), .ilt (.a (.v 2) (.k (.a (.v 0) (.l 1)))) (.v 1)] (.ilt (.l 0) (.s (.v 0) (.l 1))) [[0, 1, 1, 1]] rfl hl2 q, fun q => by exact fm [_] [_, _, _] [.ieq (.v 0) (.s (.v 1) (.a (.v 2) (.k (.v 0)))), .ilt (.l 0) (.s (.v 0) (.l 1))] (.ilt (.a (.v 2) (.k (.a (.v 0) (.l 1)))) (.v 1)) [[1, 0, 1, 1]] rfl hl2 q⟩, fun _ => by exact fm [_] [_, _, _] [.ieq (.v 0) (.s (.v 1) (.a (.v 2) (.k (.v 0))))] (.ieq (.s (.v 0) (.l 1)) (.s (.v 1) (.a (.v 2) (.k (.a (.v 0) (.l 1)))))) [[1, 0, 1], [0, 1, 1]] rfl hl2, hb⟩)
    · exact wpAny_pyNext_range_end aok.handled h1 (Int.not_lt.mp fun q => hg (by have q2 := h3 q; exact fm [_] [_, _, _] [.ilt (.l 0) (.v 0), .ieq (.v 0) (.s (.v 1) (.a (.v 2) (.k (.v 0))))] (.ilt (.a (.v 2) (.k (.v 0))) (.v 1)) [[1, 1, 0, 1]] rfl q q2)) fun h' hx => hn (by rw [if_neg hg]) h' s.toks (keepBut_of_extBut hx)
  | enm i =>
    obtain ⟨I, e, a, old, rfl, rfl, hne, h0, h1, h2, hb, hb2⟩ := id z
    have hlt : i < σ.length := by
      rw [← r.len]
      exact (List.getElem?_eq_some_iff.mp h0).1
    obtain ⟨a', vs, n', e1, e2, e3⟩ := r.items i σ[i] (by simp [hlt])
    rw [h0] at e1; cases e1
    have hnx : nextAt σ (.enm i) k = (σ[i][k]?).map fun v => .tup [.int k, v] := by simp [nextAt, hlt]
    rw [hnx] at hn hs
    cases hg : σ[i][k]? with
    | none =>
      exact wpAny_pyNext_enum_end aok.handled h1 h2 (IsL.isList e2) (by simpa using e3.get_none hg) fun h' hx => hn (by rw [hg]; rfl) h' s.toks (fun b o hb e => hx b o (by simp at hb; exact hb.2) e)
    | some p =>
      obtain ⟨v, hv, hpv⟩ := e3.get hg
      refine wpAny_pyNext_enum_item h1 h2 (IsL.isList e2) (by simpa using hv) hne fun h' h1' h2' ht hsz hk => hq _ _ ?_
      have hex : ∃ ts x1 pp, target = .Tuple ts x1 pp := by cases target <;> first | exact ⟨_, _, _, rfl⟩ | cases hf
      obtain ⟨ts, x1, pp, rfl⟩ := hex
      refine wpAny_letOwnedTupleGo_enum h1' fun h'' h3' hx => ?_
      have kb : KeepBut [e, I] s.heap h'' := fun b o hb e' => by
        simp at hb
        exact (hx.2 b hb.1).trans (hk b o hb.1 hb.2 e')
      have hae : s.heap.objs.size ≠ e := fun q => by
        have := Heap.lt_size h1
        rw [← q] at this
        exact Nat.lt_irrefl _ this
      have e5 : ((k : Int) + 1) = ((k + 1 : Nat) : Int) := by exact fm [_] [] [] (.ieq (.a (.k (.v 0)) (.l 1)) (.k (.a (.v 0) (.l 1)))) [[1], [1]] rfl
      rw [e5] at h3'
      have hv' : VR h'' μ (.tup [.int k, p]) (.ref s.heap.objs.size) := ⟨_, _, rfl, ⟨_, (hx.2 _ hae).trans ht, rfl, 0, rfl⟩, ⟨_, _, rfl, ⟨_, rfl⟩, _, _, rfl, hpv.touch (z.dull r) kb, rfl⟩⟩
      refine hs (.tup [.int k, p]) (by rw [hg]; rfl) (.ref s.heap.objs.size) h'' (s.toks + 1) kb hv' ⟨I, e, a, v, rfl, rfl, hne, h0, h3', ?_, hb, hb2⟩
      obtain ⟨oi, ei, ri⟩ := h2'
      exact ⟨oi, (hx.2 I (Ne.symm hne)).trans ei, ri⟩
end
end Mine
end
section
open PySem PySem.W PyProof.Rows PySem.Calls
namespace Mine

section
variable {C : Cx} {A : Around} {E : Value → Shared → Prop} {s : Shared} {frs : List Env} {μ : List Addr} {σ σ' : St} {n : Nat} {env : Env} {ρ : PE} {F : Evs}

theorem enum_boot : bootBuiltins "enumerate" = some (.type "enumerate") := by decide +kernel

noncomputable def OkIt (C : Cx) (frs : List Env) (s : Shared) (μ : List Addr) (it : It) (σ' : St) (Q : Value → Shared → Prop) : Prop :=
  ∀ iv W h' t' μ', Rel C frs μ' σ' h' → Ext C [] s.heap μ h' μ' → ItR C h' μ' it 0 iv W → (∀ b ∈ W, s.heap.get? b = none) → Q iv { s with heap := h', toks := t' }

theorem none_back {W : List Addr} {h μ h' μ'} (x : Ext C W h μ h' μ') {b : Addr} (e : h'.get? b = none) : h.get? b = none := by
  cases q : h.get? b with
  | none => rfl
  | some o =>
    obtain ⟨o', e'⟩ := x.alive b o q
    rw [e] at e'; cases e'

theorem iter_ok (ok : C.Ok) (S : Sound C n F) (aok : AOk A n frs) (r : Rel C frs μ σ s.heap) (e : EnvRel C s.heap μ env ρ) {x : Expr} {it : It} {Q : Value → Shared → Prop} (hx : iterOf F x ρ σ = some (.ok it σ'))
    (h : OkIt C frs s μ it σ' Q) : wpAny (MM C) A (eval x env) (fun v s₁ => wpAny (MM C) A (pyIter v) Q E s₁) E s ∧ ∀ v, foldedSetIterable x env v = pure v := by
  refine iterOf_inv hx (fun a i σ₁ ha h1 hx => ?_) (fun p it' σ₁ hp h1 hit hx => ?_)
  · cases hx
    refine enumArg_elim (P := fun x => wpAny (MM C) A (eval x env) (fun v s₁ => wpAny (MM C) A (pyIter v) Q E s₁) E s ∧ ∀ v, foldedSetIterable x env v = pure v) ha fun np pos hg hst => ?_
    refine ⟨?_, fun v => rfl⟩
    have he : starEach [a] env = [(false, eval a env)] := by cases a <;> first | rfl | cases hst
    refine wpAny_Call_NameR (builtin_ok ok r e hg (by decide +kernel) enum_boot (by decide +kernel) ?_)
    rw [he]
    refine PyProof.Rows.callWith_type rfl (evalArgs_plain (spliced_cons (S.v aok r e h1 fun v h' t' μ' r' x' hv => spliced_nil ?_)))
    refine hv.lst_elim fun ad ea => r'.here_ ea fun _ vs k _ e2 e3 _ => ?_
    refine call_enumerate_list (s := { s with heap := h', toks := t' }) (IsL.isList e2) fun h'' h1' h2' hsz hk => ?_
    refine wpAny_pyIter_enum h1' ?_
    have n1 : h'.get? (h'.objs.size + 1) = none := by
      cases q : h'.get? (h'.objs.size + 1) with
      | none => rfl
      | some o => exact absurd (Heap.lt_size q) (Nat.not_lt.mpr (Nat.le_succ _))
    refine h (.ref (h'.objs.size + 1)) [h'.objs.size + 1, h'.objs.size] h'' t' μ' (r'.keeps hk) (x'.trans (Ext.of_keeps hk)) ⟨h'.objs.size, h'.objs.size + 1, ad, .none, rfl, rfl, Nat.succ_ne_self _, ea, h1', h2', r'.base_none (get?_size _), r'.base_none n1⟩ ?_
    intro b hb
    simp at hb
    rcases hb with rfl | rfl
    · exact none_back x' n1
    · exact none_back x' (get?_size _)
  · cases hx
    have hfold : ∀ v, foldedSetIterable x env v = pure v := fun v => by cases x <;> first | rfl | cases hp
    refine ⟨S.v aok r e h1 fun v h' t' μ' r' x' hv => ?_, hfold⟩
    have hpush : ∀ (o : Obj) b o', h'.get? b = some o' → (h'.push o).get? b = some o' := fun o b o' e => Heap.get?_push_of_some _ e
    have fin : ∀ (o : Obj), ItR C (h'.push o) μ' it 0 (.ref h'.objs.size) [h'.objs.size] → Q (.ref h'.objs.size) { s with heap := h'.push o, toks := t' } := fun o hi =>
      h _ _ _ _ _ (r'.keeps (hpush o)) (x'.trans (Ext.of_keeps (hpush o))) hi fun b hb => by
        simp at hb; subst hb
        exact none_back x' (get?_size _)
    cases p with
    | lst i =>
      cases hit
      exact hv.lst_elim fun ad ea => r'.here_ ea fun _ vs k _ e2 e3 _ => wpAny_pyIter_list (s := { s with heap := h', toks := t' }) (IsL.isList e2) (fin _ ⟨_, ad, rfl, rfl, ea, ⟨_, Heap.get?_push_size _ rfl, rfl, rfl⟩, r'.base_none (get?_size _)⟩)
    | tup l =>
      cases hit
      refine hv.tup_elim fun ad vs ht hl => ?_
      refine wpAny_pyIter_tuple (s := { s with heap := h', toks := t' }) ht (fin _ ⟨_, ad, vs, rfl, rfl, ⟨_, Heap.get?_push_size _ rfl, rfl, rfl⟩, ?_, VRs.ext r' (Ext.of_keeps (W := []) (hpush _)) WOk.nil hl, r'.base_none (get?_size _)⟩)
      obtain ⟨o, e, rest⟩ := ht
      exact ⟨o, hpush _ _ _ e, rest⟩
    | rng lo hi =>
      cases hit
      refine hv.rng_elim fun ad t u y hr hs1 hs2 => ?_
      have hs1 := small_iff hs1
      have hs2 := small_iff hs2
      refine wpAny_pyIter_range (s := { s with heap := h', toks := t' }) hr (small_one (by exact fm [] [_] [.an (.ile (.g (.l 1000000)) (.v 0)) (.ile (.v 0) (.l 1000000))] (.ile (.g (.l 4611686018427387904)) (.v 0)) [[1, 0, 1]] rfl hs1) (by exact fm [] [_] [.an (.ile (.g (.l 1000000)) (.v 0)) (.ile (.v 0) (.l 1000000))] (.ilt (.v 0) (.l 4611686018427387904)) [[0, 1, 1]] rfl hs1) (by exact fm [] [_] [.an (.ile (.g (.l 1000000)) (.v 0)) (.ile (.v 0) (.l 1000000))] (.ile (.g (.l 4611686018427387904)) (.v 0)) [[1, 0, 1]] rfl hs2) (by exact fm [] [_] [.an (.ile (.g (.l 1000000)) (.v 0)) (.ile (.v 0) (.l 1000000))] (.ilt (.v 0) (.l 4611686018427387904)) [[0, 1, 1]] rfl hs2)) (fin _ ⟨_, Builtin.Range.rangeSize lo hi 1, rfl, rfl, ?_, ?_, ?_, r'.base_none (get?_size _)⟩)
      · have e0 : lo + ((0 : Nat) : Int) = lo := by exact fm [] [_] [] (.ieq (.a (.v 0) (.k (.l 0))) (.v 0)) [[1], [1]] rfl
        rw [e0]
        exact Heap.get?_push_size _ rfl
      · rw [rangeSize_one]; split <;> omega
      · rw [rangeSize_one]; split <;> omega
    | _ => exact no_none hit

noncomputable def OkA (C : Cx) (frs : List Env) (s : Shared) (μ : List Addr) (env : Env) (ρ : PE) (vars : Vars) (σ' : St) (Q : Unit → Shared → Prop) : Prop :=
  ∀ h' t' μ', Rel C frs μ' σ' h' → Ext C (wr env ρ) s.heap μ h' μ' → EnvRel C h' μ' env { ρ with vars := vars } → Q () { s with heap := h', toks := t' }

theorem assignName_ok (r : Rel C frs μ σ s.heap) (e : EnvRel C s.heap μ env ρ) {x : Str} {p : PV} {v : Value} {pos : Pos} {vars : Vars} {Q : Unit → Shared → Prop} (hx : ρ.set x p = some vars) (hv : VR s.heap μ p v)
    (h : OkA C frs s μ env ρ vars σ Q) : wpAny (MM C) A (assign (.Name x pos) env v) Q E s :=
  wpAny_assign_Name (store_ok r e hx hv fun h' t' r' x' e' => h h' t' μ r' x' e')

theorem OkA.step {vars vars' : Vars} {Q : Unit → Shared → Prop} (h : OkA C frs s μ env ρ vars σ' Q) {h' : Heap} {t' : Nat} {μ' : List Addr} (x : Ext C (wr env ρ) s.heap μ h' μ') :
    OkA C frs { s with heap := h', toks := t' } μ' env { ρ with vars := vars' } vars σ' Q :=
  fun h'' t'' μ'' r'' x'' e'' => h h'' t'' μ'' r'' (x.trans x'') e''

theorem assignNames_shape {env : Env} : ∀ {ts : List Expr} {ps : List PV} {ρ : PE} {vars : Vars}, assignNames ρ ts ps = some vars → ts.length = ps.length ∧ (assignEach ts env).length = ts.length ∧ (assignEach ts env).findIdx? (·.1) = none
  | [], [], _, _, _ => ⟨rfl, rfl, rfl⟩
  | [], _ :: _, _, _, hx => by cases hx
  | t :: ts, [], _, _, hx => by cases t <;> exact no_none hx
  | t :: ts, p :: ps, ρ, vars, hx => by
    cases t
    case Name x pos =>
      refine assignNames_inv hx fun V hset hx => ?_
      · obtain ⟨h1, h2, h3⟩ := assignNames_shape (env := env) hx
        have hE : assignEach (.Name x pos :: ts) env = (false, assign (.Name x pos) env) :: assignEach ts env := rfl
        rw [hE]
        refine ⟨by simp [h1], by simp [h2], ?_⟩
        rw [List.findIdx?_cons]
        simp [h3]
    all_goals exact no_none hx

theorem assignNames_ok : ∀ {ts : List Expr} {ps : List PV} {vs : List Value} {s : Shared} {μ : List Addr} {ρ : PE} {vars : Vars} {Q : Unit → Shared → Prop}, Rel C frs μ σ s.heap → EnvRel C s.heap μ env ρ → assignNames ρ ts ps = some vars →
    VRs s.heap μ ps vs → OkA C frs s μ env ρ vars σ Q → wpAny (MM C) A (assignInOrder ((assignEach ts env).map (·.2)) vs) Q E s
  | [], [], vs, s, μ, ρ, vars, Q, r, e, hx, hv, h => by
    cases hx
    cases hv
    exact wpAny_pure (h s.heap s.toks μ r Ext.refl e)
  | [], _ :: _, _, _, _, _, _, _, _, _, hx, _, _ => by cases hx
  | t :: ts, [], _, _, _, _, _, _, _, _, hx, _, _ => by cases t <;> exact no_none hx
  | t :: ts, p :: ps, vs, s, μ, ρ, vars, Q, r, e, hx, ⟨v, rr, ev, hp, hl⟩, h => by
    subst ev
    cases t
    case Name x pos =>
      refine assignNames_inv hx fun vars' hset hx => ?_
      · show wpAny (MM C) A (do holding rr (assign (.Name x pos) env v); assignInOrder ((assignEach ts env).map (·.2)) rr) Q E s
        refine wpAny_bind (wpAny_holding (assignName_ok r e hset hp fun h' t' μ' r' x' e' => ?_))
        exact assignNames_ok (s := { s with heap := h', toks := t' }) r' e' hx (VRs.ext r x' e.wok hl) (h.step x')
    all_goals exact no_none hx

theorem assignLoop_ok (aok : AOk A n frs) (r : Rel C frs μ σ s.heap) (e : EnvRel C s.heap μ env ρ) {t : Expr} {p : PV} {v : Value} {vars : Vars} {Q : Unit → Shared → Prop} (hx : assignLoop t ρ p = some vars) (hv : VR s.heap μ p v)
    (h : OkA C frs s μ env ρ vars σ Q) : wpAny (MM C) A (assign t env v) Q E s := by
  cases t
  case Name x pos => exact assignName_ok r e hx hv h
  case Tuple ts k pos =>
    cases p with
    | tup ps =>
      refine hv.tup_elim fun a vs ht hl => ?_
      obtain ⟨h1, h2, h3⟩ := assignNames_shape (env := env) hx
      refine wpAny_assign_Tuple aok.handled ht (by rw [h2, h1, ← hl.length]; simp) h3 fun h' hk => ?_
      have kp : ∀ b o, s.heap.get? b = some o → h'.get? b = some o := fun b o e' => hk b o (Nat.ne_of_lt (Heap.lt_size e')) e'
      have x' : Ext C [] s.heap μ h' μ := Ext.of_keeps kp
      exact assignNames_ok (s := { s with heap := h' }) (r.keeps kp) (e.ext0 r x') hx (VRs.ext r x' WOk.nil hl) fun h'' t'' μ'' r'' x'' e'' => h h'' t'' μ'' r'' (x'.wide.trans x'') e''
    | _ => exact no_none hx
  all_goals exact no_none hx

theorem wr_apart {it k iv W} (e : EnvRel C s.heap μ env ρ) (z : ItR C s.heap μ it k iv W) : ∀ b ∈ W, b ∉ wr env ρ := fun b hb q => by
  obtain ⟨o, vs, ho, h1⟩ := z.fields b hb
  exact (e.plain b q o ho).2 vs h1

structure InLoop (C : Cx) (frs : List Env) (s₀ : Shared) (μ₀ : List Addr) (env : Env) (ρ : PE) (s : Shared) (μ : List Addr) (σ : St) (vars : Vars) : Prop where
  same : ∃ h t, s = { s₀ with heap := h, toks := t }
  rel : Rel C frs μ σ s.heap
  envr : EnvRel C s.heap μ env { ρ with vars := vars }
  ext : Ext C (wr env ρ) s₀.heap μ₀ s.heap μ

theorem execs_nil_ok {Q : Flow → Shared → Prop} (h : Q .next s) : wpAny (MM C) A (execs [] env) Q E s := by
  have e : execs [] env = pure .next := rfl
  rw [e]
  exact wpAny_pure h

theorem forLoop_ok (S : Sound C n F) (aok : AOk A n frs) {s₀ : Shared} {μ₀ : List Addr} {it : It} {iv : Value} {W : List Addr} {target : Expr} {body : List Stmt} {R : Result → Shared → Prop} {fl : Fl} {vars' : Vars} (hfit : fits it target = true)
    (hf : ∀ b ∈ W, s₀.heap.get? b = none)
    (hR : ∀ f h' t' μ', Rel C frs μ' σ' h' → Ext C (wr env ρ) s₀.heap μ₀ h' μ' → EnvRel C h' μ' env { ρ with vars := vars' } → FlR h' μ' fl f → R (.ok f) { s₀ with heap := h', toks := t' }) :
    ∀ (m k : Nat) (vars : Vars) (s : Shared) (μ : List Addr) (σ : St), InLoop C frs s₀ μ₀ env ρ s μ σ vars → ItR C s.heap μ it k iv W → forLoop F target body it m k { ρ with vars := vars } σ = some (.ok (fl, vars') σ') →
      codeAny (MM C) A (.forLoop target iv body [] env) R s := by
  intro m k vars s μ σ L z hx
  refine codeAny_forLoop_any (I := fun m s => ∃ k vars μ σ, InLoop C frs s₀ μ₀ env ρ s μ σ vars ∧ ItR C s.heap μ it k iv W ∧ forLoop F target body it m k { ρ with vars := vars } σ = some (.ok (fl, vars') σ')) (fun m s hI => ?_) m ⟨k, vars, μ, σ, L, z, hx⟩
  clear L z hx
  obtain ⟨k, vars, μ, σ, L, z, hx⟩ := hI
  cases m with
  | zero => cases hx
  | succ m =>
    obtain ⟨hh, tt, hs⟩ := L.same
    refine next_ok (Q' := fun v _ s₁' => wpAny (MM C) A (assign target env v) (fun _ s₂ => wpAny (MM C) A (execs body env) (fun f s₃ => match f with
            | .next | .cont => ∃ m', m' < m + 1 ∧ (∃ k vars μ σ, InLoop C frs s₀ μ₀ env ρ s₃ μ σ vars ∧ ItR C s₃.heap μ it k iv W ∧ forLoop F target body it m' k { ρ with vars := vars } σ = some (.ok (fl, vars') σ'))
            | .brk => R (.ok .next) s₃
            | .ret v => R (.ok (.ret v)) s₃) (notedBy (MM C) A env fun e s' => R (.error e) s') s₂) (notedBy (MM C) A env fun e s' => R (.error e) s') s₁') aok L.rel z hfit ?_ ?_ ?_
    · intro hnx h' t' kb
      cases for_none hx hnx
      refine execs_nil_ok ?_
      have r' := L.rel.touch (z.dull L.rel) kb
      have x' := L.ext.but hf kb
      have e' := L.envr.touch (z.dull L.rel) kb
      subst hs
      exact hR _ _ _ _ r' x' e' .next
    · intro p hnx v h' t' kb hv z'
      refine for_some hx hnx fun vars₁ f vars₂ σ₁ ha h1 hx => ?_
      · have r' := L.rel.touch (z.dull L.rel) kb
        have x' := L.ext.but hf kb
        have e' := L.envr.touch (z.dull L.rel) kb
        have ap' := wr_apart (s := { s with heap := h', toks := t' }) e' z'
        refine assignLoop_ok (s := { s with heap := h', toks := t' }) aok r' e' ha hv fun h₂ t₂ μ₂ r₂ x₂ e₂ => ?_
        have z₂ := z'.ext r' x₂ e'.wok ap'
        have ap₂ := wr_apart (s := { s with heap := h₂, toks := t₂ }) e₂ z₂
        refine S.s (s := { s with heap := h₂, toks := t₂ }) aok r₂ e₂ h1 fun f' h₃ t₃ μ₃ r₃ x₃ e₃ hfl => ?_
        have z₃ := z₂.ext r₂ x₃ e₂.wok ap₂
        have L₃ : InLoop C frs s₀ μ₀ env ρ { s with heap := h₃, toks := t₃ } μ₃ σ₁ vars₂ := ⟨⟨h₃, t₃, by subst hs; rfl⟩, r₃, e₃, x'.trans (x₂.trans x₃)⟩
        cases hfl with
        | next => exact ⟨m, Nat.lt_succ_self _, k + 1, vars₂, μ₃, σ₁, L₃, z₃, hx⟩
        | cont => exact ⟨m, Nat.lt_succ_self _, k + 1, vars₂, μ₃, σ₁, L₃, z₃, hx⟩
        | ret hp =>
          cases hx
          subst hs
          exact hR _ _ _ _ r₃ L₃.ext e₃ (.ret hp)
    · intro v s₁ h
      exact h

theorem whileLoop_ok (S : Sound C n F) (aok : AOk A n frs) {s₀ : Shared} {μ₀ : List Addr} {test : Expr} {body : List Stmt} {R : Result → Shared → Prop} {fl : Fl} {vars' : Vars}
    (hR : ∀ f h' t' μ', Rel C frs μ' σ' h' → Ext C (wr env ρ) s₀.heap μ₀ h' μ' → EnvRel C h' μ' env { ρ with vars := vars' } → FlR h' μ' fl f → R (.ok f) { s₀ with heap := h', toks := t' }) :
    ∀ (m : Nat) (vars : Vars) (s : Shared) (μ : List Addr) (σ : St), InLoop C frs s₀ μ₀ env ρ s μ σ vars → whileLoop F test body m { ρ with vars := vars } σ = some (.ok (fl, vars') σ') →
      codeAny (MM C) A (.whileLoop test body [] env) R s := by
  intro m vars s μ σ L hx
  refine codeAny_whileLoop (I := fun m s => ∃ vars μ σ, InLoop C frs s₀ μ₀ env ρ s μ σ vars ∧ whileLoop F test body m { ρ with vars := vars } σ = some (.ok (fl, vars') σ')) (fun m s hI => ?_) m ⟨vars, μ, σ, L, hx⟩
  clear L hx
  obtain ⟨vars, μ, σ, L, hx⟩ := hI
  cases m with
  | zero => cases hx
  | succ m =>
    obtain ⟨hh, tt, hs⟩ := L.same
    refine bnd (x := F.t test { ρ with vars := vars } σ) hx fun b σ₁ h1 hx => ?_
    refine S.t aok L.rel L.envr h1 fun h' t' μ' r' x' => ?_
    have e' := L.envr.ext0 L.rel x'
    cases b with
    | false =>
      cases hx
      refine execs_nil_ok ?_
      subst hs
      exact hR _ _ _ _ r' (L.ext.trans x'.wide) e' .next
    | true =>
      refine bnd (x := F.s body { ρ with vars := vars } σ₁) hx fun fv σ₂ h2 hx => ?_
      obtain ⟨f, vars₂⟩ := fv
      refine S.s (s := { s with heap := h', toks := t' }) aok r' e' h2 fun f' h₃ t₃ μ₃ r₃ x₃ e₃ hfl => ?_
      have L₃ : InLoop C frs s₀ μ₀ env ρ { s with heap := h₃, toks := t₃ } μ₃ σ₂ vars₂ := ⟨⟨h₃, t₃, by subst hs; rfl⟩, r₃, e₃, L.ext.trans (x'.wide.trans x₃)⟩
      cases hfl with
      | next => exact ⟨m, Nat.lt_succ_self _, vars₂, μ₃, σ₂, L₃, hx⟩
      | cont => exact ⟨m, Nat.lt_succ_self _, vars₂, μ₃, σ₂, L₃, hx⟩
      | ret hp =>
        cases hx
        subst hs
        exact hR _ _ _ _ r₃ L₃.ext e₃ (.ret hp)
end
end Mine
end
section
open PySem PySem.W PyProof.Rows PySem.Calls
namespace Mine

theorem lookup_of_mem {α : Type} : ∀ {l : List (Str × α)} {x : Str} {c : α}, (l.map (·.1)).Nodup → (x, c) ∈ l → l.lookup x = some c
  | (y, d) :: r, x, c, hn, hm => by
    rw [List.map_cons, List.nodup_cons] at hn
    rcases List.mem_cons.mp hm with e | hm
    · cases e; simp [List.lookup]
    · have : (x == y) = false := beq_eq_false_iff_ne.mpr fun q => hn.1 (q ▸ List.mem_map.mpr ⟨(x, c), hm, rfl⟩)
      simp only [List.lookup, this]
      exact lookup_of_mem hn.2 hm

theorem lookup_none_of {α : Type} : ∀ {l : List (Str × α)} {x : Str}, (∀ c, (x, c) ∉ l) → l.lookup x = none
  | [], _, _ => rfl
  | (y, d) :: r, x, h => by
    have : (x == y) = false := beq_eq_false_iff_ne.mpr fun q => h d (by rw [q]; exact .head _)
    simp only [List.lookup, this]
    exact lookup_none_of fun c hc => h c (.tail _ hc)

theorem lookup_append {α : Type} : ∀ {l m : List (Str × α)} {x : Str}, (l ++ m).lookup x = (l.lookup x).or (m.lookup x)
  | [], m, x => rfl
  | (y, d) :: r, m, x => by
    simp only [List.cons_append, List.lookup]
    cases x == y with
    | true => rfl
    | false => exact lookup_append

theorem cellsFrom_acc : ∀ (names : List (Str × NameKind)) (n : Nat) (acc : List (Str × Addr)), cellsFrom n names acc = cellsFrom n names [] ++ acc
  | [], n, acc => rfl
  | (x, k) :: r, n, acc => by
    simp only [cellsFrom]
    split
    · rw [cellsFrom_acc r (n + 1) ((x, n) :: acc), cellsFrom_acc r (n + 1) [(x, n)], List.append_assoc]
      rfl
    · exact cellsFrom_acc r n acc

theorem cellsFrom_mem : ∀ {names : List (Str × NameKind)} {n : Nat} {x : Str} {c : Addr}, (x, c) ∈ cellsFrom n names [] → (x, .cell) ∈ names ∧ n ≤ c
  | (y, k) :: r, n, x, c, h => by
    simp only [cellsFrom] at h
    split at h
    · rename_i hk
      rw [cellsFrom_acc] at h
      rcases List.mem_append.mp h with h | h
      · obtain ⟨h1, h2⟩ := cellsFrom_mem h
        exact ⟨.tail _ h1, by exact fm [_, _] [] [.nle (.a (.v 0) (.l 1)) (.v 1)] (.nle (.v 0) (.v 1)) [[1, 1]] rfl h2⟩
      · simp at h
        obtain ⟨rfl, rfl⟩ := h
        have : k = .cell := by simpa using hk
        subst this
        exact ⟨.head _, Nat.le_refl _⟩
    · obtain ⟨h1, h2⟩ := cellsFrom_mem h
      exact ⟨.tail _ h1, h2⟩

theorem cellsFrom_has : ∀ {names : List (Str × NameKind)} {n : Nat} {x : Str}, (x, .cell) ∈ names → ∃ c, (x, c) ∈ cellsFrom n names []
  | (y, k) :: r, n, x, h => by
    simp only [cellsFrom]
    rcases List.mem_cons.mp h with e | h
    · cases e
      rw [if_pos (by rfl), cellsFrom_acc]
      exact ⟨n, List.mem_append_right _ (.head _)⟩
    · split
      · obtain ⟨c, hc⟩ := cellsFrom_has (n := n + 1) h
        rw [cellsFrom_acc]
        exact ⟨c, List.mem_append_left _ hc⟩
      · exact cellsFrom_has h

theorem cellsFrom_keys : ∀ (names : List (Str × NameKind)) (n : Nat), (cellsFrom n names []).map (·.1) = ((names.filter fun x => x.2 == .cell).map (·.1)).reverse
  | [], n => rfl
  | (y, k) :: r, n => by
    simp only [cellsFrom]
    split
    · rename_i hk
      rw [cellsFrom_acc, List.map_append, cellsFrom_keys r (n + 1), List.filter_cons_of_pos (by simpa using hk)]
      simp
    · rename_i hk
      rw [cellsFrom_keys r n, List.filter_cons_of_neg (by simpa using hk)]

noncomputable def clOf (env : Env) (names : List (Str × NameKind)) : List (Str × Addr) := ((names.filter fun x => x.2 == .free).map fun x => (x.1, (env.cells.lookup x.1).getD 0)).reverse

theorem closure_go {env : Env} (f : Str × NameKind → List (Str × Addr) → Sem (ForInStep (List (Str × Addr))))
    (hf : ∀ name kind cells, f (name, kind) cells = if kind == .free then (do let a ← cellOf env name; pure (.yield ((name, a) :: cells))) else pure (.yield cells)) :
    ∀ {names : List (Str × NameKind)} {acc : List (Str × Addr)}, (∀ x ∈ names, x.2 = .free → ∃ c, env.cells.lookup x.1 = some c) → forIn names acc f = (pure (clOf env names ++ acc) : Sem (List (Str × Addr)))
  | [], acc, _ => by
    rw [List.forIn_nil]
    rfl
  | (x, k) :: r, acc, h => by
    rw [List.forIn_cons, hf]
    have hr := fun acc => closure_go f hf (names := r) (acc := acc) fun y hy => h y (.tail _ hy)
    cases hk : k == NameKind.free with
    | false =>
      simp only [Bool.false_eq_true, if_false, pure_bind]
      rw [hr]
      have : clOf env ((x, k) :: r) = clOf env r := by
        unfold clOf
        rw [List.filter_cons_of_neg (by simp [hk])]
      rw [this]
    | true =>
      have hkf : k = .free := by simpa using hk
      subst hkf
      obtain ⟨c, hc⟩ := h (x, .free) (.head _) rfl
      have e1 : cellOf env x = pure c := by unfold cellOf; rw [hc]
      simp only [if_true, e1, pure_bind]
      rw [hr]
      have : clOf env ((x, .free) :: r) = clOf env r ++ [(x, c)] := by
        unfold clOf
        rw [List.filter_cons_of_pos (by simp), List.map_cons, List.reverse_cons]
        have hc' : env.cells.lookup x = some c := hc
        simp [hc']
      rw [this]
      simp

theorem closure_ok {env : Env} {sc : Scope} (h : ∀ x ∈ sc.names, x.2 = .free → ∃ c, env.cells.lookup x.1 = some c) : closureFor sc env = pure (clOf env sc.names) := by
  have := closure_go (acc := []) (fun x cs => match x with
    | (name, kind) => if (kind == NameKind.free) = true then do
        let c ← cellOf env name
        pure (ForInStep.yield ((name, c) :: cs))
      else pure (ForInStep.yield cs)) (fun name kind cells => rfl) h
  rw [List.append_nil] at this
  unfold closureFor
  show (forIn sc.names [] _ >>= fun s => pure s) = _
  rw [bind_pure]
  exact this

theorem nodup_rev {α : Type} {l : List α} (h : l.Nodup) : l.reverse.Nodup := List.pairwise_reverse.mpr (h.imp fun h => Ne.symm h)

structure NewCells (h : Heap) (L : Addr) (names : List (Str × NameKind)) (h' : Heap) : Prop where
  keeps : ∀ b o, h.get? b = some o → h'.get? b = some o
  L0 : L = h.objs.size
  ns : h'.Ns L fun _ => none
  cells : ∀ x c, (x, c) ∈ cellsFrom (L + 1) names [] → h'.IsCell c none
  apart : (cellsFrom (L + 1) names []).Pairwise fun x y => x.2 ≠ y.2

theorem lookup_cells {env : Env} {names : List (Str × NameKind)} {n : Nat} (hnd : (names.map (·.1)).Nodup) (x : Str) :
    (names.lookup x = some .cell → ∃ c, (cellsFrom n names [] ++ clOf env names).lookup x = some c ∧ n ≤ c ∧ (x, c) ∈ cellsFrom n names []) ∧
    (names.lookup x = some .free → (cellsFrom n names [] ++ clOf env names).lookup x = some ((env.cells.lookup x).getD 0)) ∧
    (names.lookup x ≠ some .cell → names.lookup x ≠ some .free → (cellsFrom n names [] ++ clOf env names).lookup x = none) := by
  have keysC : ((cellsFrom n names []).map (·.1)).Nodup := by
    rw [cellsFrom_keys]
    exact nodup_rev ((List.filter_sublist.map _).nodup hnd)
  have keysF : ((clOf env names).map (·.1)).Nodup := by
    unfold clOf
    rw [List.map_reverse, List.map_map]
    exact nodup_rev ((List.filter_sublist.map _).nodup hnd)
  have memF : ∀ c, (x, c) ∈ clOf env names → (x, .free) ∈ names ∧ c = (env.cells.lookup x).getD 0 := fun c hc => by
    unfold clOf at hc
    rw [List.mem_reverse, List.mem_map] at hc
    obtain ⟨⟨y, k⟩, hy, e⟩ := hc
    rw [List.mem_filter] at hy
    cases e
    have : k = .free := by simpa using hy.2
    subst this
    exact ⟨hy.1, rfl⟩
  refine ⟨fun hk => ?_, fun hk => ?_, fun h1 h2 => ?_⟩
  · obtain ⟨c, hc⟩ := cellsFrom_has (n := n) (mem_of_lookup hk)
    rw [lookup_append, lookup_of_mem keysC hc]
    exact ⟨c, rfl, (cellsFrom_mem hc).2, hc⟩
  · have hno : (cellsFrom n names []).lookup x = none := lookup_none_of fun c hc => by
      have := lookup_of_mem hnd (cellsFrom_mem hc).1
      rw [hk] at this; cases this
    rw [lookup_append, hno]
    have hm : (x, (env.cells.lookup x).getD 0) ∈ clOf env names := by
      unfold clOf
      rw [List.mem_reverse, List.mem_map]
      exact ⟨(x, .free), List.mem_filter.mpr ⟨mem_of_lookup hk, by simp⟩, rfl⟩
    exact lookup_of_mem keysF hm
  · have hno : (cellsFrom n names []).lookup x = none := lookup_none_of fun c hc => h1 (lookup_of_mem hnd (cellsFrom_mem hc).1)
    rw [lookup_append, hno]
    exact lookup_none_of fun c hc => h2 (lookup_of_mem hnd (memF c hc).1)

theorem cells_keys {env : Env} {names : List (Str × NameKind)} {n : Nat} (hnd : (names.map (·.1)).Nodup) : ∀ q ∈ cellsFrom n names [] ++ clOf env names, (cellsFrom n names [] ++ clOf env names).lookup q.1 = some q.2 := by
  intro q hq
  refine lookup_of_mem ?_ hq
  rw [List.map_append, cellsFrom_keys]
  unfold clOf
  rw [List.map_reverse, List.map_map, List.nodup_append]
  refine ⟨nodup_rev ((List.filter_sublist.map _).nodup hnd), nodup_rev ((List.filter_sublist.map _).nodup hnd), fun a ha b hb e => ?_⟩
  rw [List.mem_reverse, List.mem_map] at ha hb
  obtain ⟨⟨x, k⟩, hx, rfl⟩ := ha
  obtain ⟨⟨y, k'⟩, hy, e2⟩ := hb
  rw [List.mem_filter] at hx hy
  have e' : y = x := e2.trans e.symm
  subst e'
  have h1 : k = .cell := by simpa using hx.2
  have h2 : k' = .free := by simpa using hy.2
  subst h1 h2
  have a1 := lookup_of_mem hnd hx.1
  have a2 := lookup_of_mem hnd hy.1
  rw [a1] at a2; cases a2

theorem lookup_filter {names : List (Str × NameKind)} {x : Str} : ∀ {l : Vars}, (l.filter fun x => names.lookup x.1 == some .free).lookup x = if names.lookup x = some .free then l.lookup x else none
  | [] => by simp
  | (y, v) :: r => by
    have ih := lookup_filter (names := names) (x := x) (l := r)
    by_cases hy : names.lookup y = some .free
    · rw [List.filter_cons_of_pos (by simp [hy])]
      simp only [List.lookup]
      cases hxy : x == y with
      | true =>
        have : x = y := by simpa using hxy
        subst this
        simp [hy]
      | false => exact ih
    · rw [List.filter_cons_of_neg (by simp [hy]), ih]
      by_cases hx : names.lookup x = some .free
      · rw [if_pos hx, if_pos hx]
        have : (x == y) = false := beq_eq_false_iff_ne.mpr fun q => hy (q ▸ hx)
        simp [List.lookup, this]
      · rw [if_neg hx, if_neg hx]

theorem scope_facts {sc : Scope} (h : scopeOk sc = true) : sc.kind = .function ∧ (sc.names.map (·.1)).Nodup ∧ sc.isGenerator = false ∧ sc.isCoroutine = false ∧ ∀ x ∈ sc.names, x.1 ≠ "__classdict__" ∧ x.1 ≠ "__debug__" := by
  simp only [scopeOk, Bool.and_eq_true, beq_iff_eq, decide_eq_true_eq, Bool.not_eq_true', List.all_eq_true, bne_iff_ne, ne_eq] at h
  obtain ⟨⟨⟨⟨h1, h2⟩, h3⟩, h4⟩, h5⟩ := h
  exact ⟨h1, h2, h3, h4, h5⟩

theorem free_facts {ρ : PE} {names : List (Str × NameKind)} (h : freeOk ρ names = true) : ∀ x ∈ names, x.2 = .free → ρ.names.lookup x.1 = some .cell ∨ ρ.names.lookup x.1 = some .free := by
  intro x hx hk
  simp only [freeOk, List.all_eq_true] at h
  have := h x hx
  rw [hk] at this
  simpa using this

section
variable {C : Cx} {s : Shared} {frs : List Env} {μ : List Addr} {σ σ' : St} {env env' : Env} {ρ : PE} {h' : Heap}

theorem lookup_relabel {env : Env} {x : Str} : ∀ {names : List (Str × NameKind)},
    (names.lookup x ≠ some .free → (names.map fun (n, k) => if (k == NameKind.free && env.scope.kind == .function && env.kindOf n == some .cell) then (n, NameKind.cell) else (n, k)).lookup x = names.lookup x) ∧
    (names.lookup x = some .free → (names.map fun (n, k) => if (k == NameKind.free && env.scope.kind == .function && env.kindOf n == some .cell) then (n, NameKind.cell) else (n, k)).lookup x = some .cell ∨
      (names.map fun (n, k) => if (k == NameKind.free && env.scope.kind == .function && env.kindOf n == some .cell) then (n, NameKind.cell) else (n, k)).lookup x = some .free)
  | [] => ⟨fun _ => rfl, fun q => by simp at q⟩
  | (n, k) :: r => by
    have ih := lookup_relabel (env := env) (x := x) (names := r)
    rw [List.map_cons]
    show (_ ≠ _ → List.lookup x ((if (k == NameKind.free && env.scope.kind == .function && env.kindOf n == some .cell) = true then (n, NameKind.cell) else (n, k)) :: _) = _) ∧ (_ → List.lookup x ((if (k == NameKind.free && env.scope.kind == .function && env.kindOf n == some .cell) = true then (n, NameKind.cell) else (n, k)) :: _) = _ ∨ List.lookup x ((if (k == NameKind.free && env.scope.kind == .function && env.kindOf n == some .cell) = true then (n, NameKind.cell) else (n, k)) :: _) = _)
    cases hx : x == n with
    | true =>
      have hkk : List.lookup x ((n, k) :: r) = some k := by simp [List.lookup, hx]
      rw [hkk]
      by_cases hc : (k == NameKind.free && env.scope.kind == .function && env.kindOf n == some .cell) = true
      · have hkf : k = .free := by
          simp only [Bool.and_eq_true, beq_iff_eq] at hc
          exact hc.1.1
        subst hkf
        rw [if_pos hc]
        simp only [List.lookup, hx]
        exact ⟨fun q => absurd rfl q, fun _ => by simp⟩
      · rw [if_neg hc]
        simp only [List.lookup, hx]
        exact ⟨fun _ => by first | rfl | trivial, fun q => .inr q⟩
    | false =>
      have hkk : List.lookup x ((n, k) :: r) = r.lookup x := by simp [List.lookup, hx]
      rw [hkk]
      by_cases hc : (k == NameKind.free && env.scope.kind == .function && env.kindOf n == some .cell) = true
      · rw [if_pos hc]
        simp only [List.lookup, hx]
        exact ih
      · rw [if_neg hc]
        simp only [List.lookup, hx]
        exact ih

theorem inner_ok (r : Rel C frs μ σ s.heap) (e : EnvRel C s.heap μ env ρ) {sc : Scope} {L : Addr} (hsc : scopeOk sc = true) (hfr : freeOk ρ sc.names = true) (N : NewCells s.heap L sc.names h')
    (hnames : ∀ x, (sc.names.lookup x ≠ some .free → env'.kindOf x = sc.names.lookup x) ∧ (sc.names.lookup x = some .free → env'.kindOf x = some .cell ∨ env'.kindOf x = some .free))
    (hk : env'.scope.kind = .function) (hg : env'.globals = mainGlobals) (hb : env'.builtins = builtinsNs) (hL : env'.locals = L) (hc : env'.cells = cellsFrom (L + 1) sc.names [] ++ clOf env sc.names) :
    EnvRel C h' μ env' (inner ρ sc.names) ∧ ∀ b ∈ wr env' (inner ρ sc.names), s.heap.get? b = none := by
  obtain ⟨f1, f2, f3, f4, f5⟩ := scope_facts hsc
  have hfree := free_facts hfr
  have none_ge : ∀ b, L ≤ b → s.heap.get? b = none := fun b hb => by
    cases q : s.heap.get? b with
    | none => rfl
    | some o => exact absurd (Heap.lt_size q) (Nat.not_lt.mpr (N.L0 ▸ hb))
  have outer : ∀ x, sc.names.lookup x = some .free → ∃ c v, env.cells.lookup x = some c ∧ s.heap.IsCell c v ∧ (∀ p, ρ.vars.lookup x = some p → ∃ w, v = some w ∧ VR s.heap μ p w) ∧ env'.cells.lookup x = some c := fun x hx => by
    obtain ⟨c, v, h1, h2, h3⟩ := e.cell x (hfree (x, .free) (mem_of_lookup hx) rfl)
    refine ⟨c, v, h1, h2, h3, ?_⟩
    rw [hc, (lookup_cells f2 x).2.1 hx, h1]
    rfl
  have kpx : Ext C [] s.heap μ h' μ := Ext.of_keeps N.keeps
  refine ⟨⟨hk, hg, hb, hnames, fun x hx => beq_eq_false_iff_ne.mpr (f5 (x, .free) (mem_of_lookup hx)).1, ?_, ?_, ?_, ?_, ?_, ?_, fun q => by cases q⟩, ?_⟩
  · refine ⟨_, hL.symm ▸ N.ns, fun x p h1 h2 => ?_⟩
    have h2 : (ρ.vars.filter fun x => sc.names.lookup x.1 == some .free).lookup x = some p := h2
    have h1 : sc.names.lookup x = some .local := h1
    rw [lookup_filter, h1] at h2
    simp at h2
  · intro x hx
    rcases hx with hx | hx
    · have hx : sc.names.lookup x = some .cell := hx
      obtain ⟨c, h1, h2, h3⟩ := (lookup_cells (env := env) (n := L + 1) f2 x).1 hx
      refine ⟨c, none, by rw [hc]; exact h1, N.cells x c h3, fun p hp => ?_⟩
      have hp : (ρ.vars.filter fun x => sc.names.lookup x.1 == some .free).lookup x = some p := hp
      rw [lookup_filter, hx] at hp
      simp at hp
    · have hx : sc.names.lookup x = some .free := hx
      obtain ⟨c, v, h1, h2, h3, h4⟩ := outer x hx
      refine ⟨c, v, h4, h2.keeps N.keeps, fun p hp => ?_⟩
      have hp : (ρ.vars.filter fun x => sc.names.lookup x.1 == some .free).lookup x = some p := hp
      rw [lookup_filter, if_pos hx] at hp
      obtain ⟨w, h5, h6⟩ := h3 p hp
      exact ⟨w, h5, h6.ext r kpx WOk.nil⟩
  · rw [hc]; exact cells_keys f2
  · intro x y c hx hy
    rw [hc] at hx hy
    have ofMem : ∀ z c, (cellsFrom (L + 1) sc.names [] ++ clOf env sc.names).lookup z = some c → (sc.names.lookup z = some .cell ∧ L + 1 ≤ c ∧ (z, c) ∈ cellsFrom (L + 1) sc.names []) ∨
        (sc.names.lookup z = some .free ∧ env.cells.lookup z = some c ∧ c < L) := fun z c hz => by
      by_cases h1 : sc.names.lookup z = some .cell
      · obtain ⟨c', h2, h3, h4⟩ := (lookup_cells (env := env) (n := L + 1) f2 z).1 h1
        rw [h2] at hz; cases hz
        exact .inl ⟨h1, h3, h4⟩
      · by_cases h2 : sc.names.lookup z = some .free
        · obtain ⟨c', v, h3, ⟨o, h4, _⟩, _, h6⟩ := outer z h2
          rw [hc, hz] at h6; cases h6
          exact .inr ⟨h2, h3, by rw [N.L0]; exact Heap.lt_size h4⟩
        · rw [(lookup_cells f2 z).2.2 h1 h2] at hz; cases hz
    rcases ofMem x c hx with ⟨_, a1, a2⟩ | ⟨_, a1, a2⟩ <;> rcases ofMem y c hy with ⟨_, b1, b2⟩ | ⟨_, b1, b2⟩
    · exact name_of_addr N.apart a2 b2
    · exact absurd (Nat.lt_of_lt_of_le b2 (Nat.le_of_lt a1)) (Nat.lt_irrefl _)
    · exact absurd (Nat.lt_of_lt_of_le a2 (Nat.le_of_lt b1)) (Nat.lt_irrefl _)
    · exact e.apart x y c a1 b1
  · rw [hL]; exact r.base_none (none_ge L (Nat.le_refl _))
  · intro x c hx hxc
    have hx : sc.names.lookup x = some .cell := hx
    obtain ⟨c', h2, h3, h4⟩ := (lookup_cells (env := env) (n := L + 1) f2 x).1 hx
    rw [hc, h2] at hxc; cases hxc
    exact r.base_none (none_ge c (Nat.le_of_lt h3))
  · intro b hb
    rcases List.mem_cons.mp hb with rfl | hb
    · rw [hL]; exact none_ge L (Nat.le_refl _)
    · obtain ⟨q, hq, rfl⟩ := List.mem_map.mp hb
      obtain ⟨hq, hqc⟩ := List.mem_filter.mp hq
      have hx : sc.names.lookup q.1 = some .cell := beq_iff_eq.mp hqc
      rw [hc] at hq
      have hl := cells_keys f2 q hq
      obtain ⟨c', h2, h3, h4⟩ := (lookup_cells (env := env) (n := L + 1) f2 q.1).1 hx
      rw [hl] at h2; cases h2
      exact none_ge q.2 (Nat.le_of_lt h3)

theorem closureOf (e : EnvRel C s.heap μ env ρ) {sc : Scope} (hfr : freeOk ρ sc.names = true) : closureFor sc env = pure (clOf env sc.names) :=
  closure_ok fun x hx hk => by
    obtain ⟨c, v, h1, _⟩ := e.cell x.1 (free_facts hfr x hx hk)
    exact ⟨c, h1⟩
end
end Mine
end
section
open PySem PySem.W PyProof.Rows PySem.Calls
namespace Mine

theorem newEnv_around {M : Model} {A : Around} {E : Value → Shared → Prop} {s : Shared} {scope : Scope} {env : Env} {cl : List (Str × Addr)} {Q : Env → Shared → Prop}
    (h : ∀ h', NewCells s.heap s.heap.objs.size scope.names h' → Q { scope := scope, locals := s.heap.objs.size, globals := env.globals, cells := cellsFrom (s.heap.objs.size + 1) scope.names [] ++ cl, qual := env.qual, func := none, code := env.code, frame := env.frame, builtins := env.builtins } { s with heap := h' }) :
    wpAny M A (newFunctionEnv scope env.globals cl [] env.qual none .none (some env)) Q E s := by
  simp only [newFunctionEnv, Option.isSome_some, if_true]
  refine wpAny_bind (wpAny_alloc ?_)
  refine wpAny_bind (wpAny_layCells _ (fun name kind cells => by cases hkc : kind == NameKind.cell <;> simp [hkc]) _ _ _ _ ?_)
  have ok := cellsFrom_ok scope.names (s.heap.push { cls := .type "dict", data := .dict #[] }) (s.heap.objs.size + 1) [] ⟨fun _ _ hm => (nomatch hm), List.Pairwise.nil⟩ (by rw [Heap.size_push]; exact Nat.le_refl _)
  rw [Heap.size_push] at ok
  rw [show ({ s with heap := s.heap.push { cls := .type "dict", data := .dict #[] } } : Shared).heap.objs.size = s.heap.objs.size + 1 from Heap.size_push ..]
  rw [cellsFrom_acc]
  refine wpAny_bind ?_
  rw [List.forIn_nil]
  exact wpAny_pure (wpAny_pure (h _ ⟨fun b o e => pushCells_keeps _ _ b o (Heap.get?_push_of_some _ e), rfl, (Heap.Ns.new s.heap (.type "dict")).keeps (pushCells_keeps _ _), fun x c hc => (ok.empty x c hc).1, ok.apart⟩))

section
variable {prog : Program} {w : World} {A : Around} {E : Value → Shared → Prop} {R : Result → Shared → Prop} {s : Shared}
theorem codeAny_compLoop_all {elt target iter : Expr} {ifs : List Expr} {scope : Scope} {pos : Pos} {it acc : Value} {env : Env} (I : Nat → Shared → Prop)
    (turn : ∀ n s, I n s → wpAny (model prog w) A (pyNext it) (fun r s₁ => match r with
      | none => R (.ok .next) s₁
      | some v => wpAny (model prog w) A (letOwnedTupleGo target it v) (fun _ s₁' => wpAny (model prog w) A (assign target env v) (fun _ s₂ =>
          wpAny (model prog w) A (forIn ifs true fun c r => if r = true then do let ok ← isTrue c env (eval c env); pure (ForInStep.yield ok) else pure (ForInStep.yield r)) (fun ok s₃ =>
            if ok = true then wpAny (model prog w) A (eval elt env) (fun x s₄ =>
              wpAny (model prog w) A (call (.builtin "list.append") [acc, x]) (fun _ s₅ => ∃ m, m < n ∧ I m s₅) (notedBy (model prog w) A env fun e s' => R (.error e) s') s₄) (notedBy (model prog w) A env fun e s' => R (.error e) s') s₃
            else ∃ m, m < n ∧ I m s₃) (notedBy (model prog w) A env fun e s' => R (.error e) s') s₂) (notedBy (model prog w) A env fun e s' => R (.error e) s') s₁') (notedBy (model prog w) A env fun e s' => R (.error e) s') s₁)
        (notedBy (model prog w) A env fun e s' => R (.error e) s') s)
    (n : Nat) (h : I n s) : codeAny (model prog w) A (.compLoop (.ListComp elt [⟨target, iter, ifs, 0⟩] scope pos) 0 it acc env) R s := by
  refine codeAny_loop rfl I (fun n s hI => ?_) n h
  show wpAny _ A ((compTurn (.ListComp elt [⟨target, iter, ifs, 0⟩] scope pos) 0 it acc env).onRaise (fun x => do noteFrame x env; theTreesLotGoes x)) _ _ s
  refine wpAny_noted ?_
  rw [compTurn_list]
  refine wpAny_bind (wpAny_standAt (wpAny_bind (wpAny_mono (turn n s hI) (fun r s₁ h₁ => ?_) fun _ _ h' => h')))
  cases r with
  | none => exact wpAny_pure h₁
  | some v =>
    refine wpAny_bind (wpAny_mono h₁ (fun _ s₁' h₁ => ?_) fun _ _ h' => h')
    refine wpAny_bind (wpAny_mono h₁ (fun _ s₂ h₂ => wpAny_bind (wpAny_mono h₂ (fun ok s₃ h₃ => ?_) fun _ _ h' => h')) fun _ _ h' => h')
    cases ok with
    | false => exact wpAny_pure ⟨rfl, h₃⟩
    | true =>
      exact wpAny_bind (wpAny_bind (wpAny_mono h₃ (fun x s₄ h₄ => wpAny_bind (wpAny_mono h₄ (fun _ s₅ h₅ => wpAny_pure (wpAny_pure ⟨rfl, h₅⟩)) fun _ _ h' => h')) fun _ _ h' => h'))
end

section
variable {C : Cx} {A : Around} {E : Value → Shared → Prop} {s : Shared} {frs : List Env} {μ : List Addr} {σ σ' : St} {n : Nat} {env : Env} {ρ : PE} {F : Evs}

theorem again_ok {it : It} {k : Nat} {iv : Value} {W : List Addr} {Q : Value → Shared → Prop} (z : ItR C s.heap μ it k iv W) (h : Q iv s) : wpAny (MM C) A (pyIter iv) Q E s := by
  cases it with
  | lst i =>
    obtain ⟨I, a, rfl, rfl, _, h1, hb⟩ := z
    exact wpAny_pyIter_listiter h1 h
  | tup l =>
    obtain ⟨I, t, vs, rfl, rfl, h1, _, _, hb⟩ := z
    exact wpAny_pyIter_tupleiter h1 h
  | rng lo hi =>
    obtain ⟨I, left, rfl, rfl, h1, _, _, hb⟩ := z
    exact wpAny_pyIter_rangeiter h1 h
  | enm i =>
    obtain ⟨I, e, a, old, rfl, rfl, hne, _, h1, h2, hb, hb2⟩ := z
    exact wpAny_pyIter_enum h1 h

theorem tests_false {env : Env} {Q : Bool → Shared → Prop} (h : Q false s) : ∀ (ifs : List Expr), wpAny (MM C) A (forIn ifs false fun c r => if r = true then do let ok ← isTrue c env (eval c env); pure (ForInStep.yield ok) else pure (ForInStep.yield r)) Q E s
  | [] => wpAny_pure h
  | c :: r => by
    rw [List.forIn_cons]
    exact wpAny_bind (wpAny_pure (tests_false h r))

theorem testAll_ok (S : Sound C n F) (aok : AOk A n frs) : ∀ {ifs : List Expr} {s : Shared} {μ : List Addr} {σ σ' : St} {b : Bool} {Q : Bool → Shared → Prop}, Rel C frs μ σ s.heap → EnvRel C s.heap μ env ρ →
    testAll (fun c σ => F.t c ρ σ) ifs σ = some (.ok b σ') → OkB C frs s μ b σ' Q →
    wpAny (MM C) A (forIn ifs true fun c r => if r = true then do let ok ← isTrue c env (eval c env); pure (ForInStep.yield ok) else pure (ForInStep.yield r)) Q E s
  | [], s, μ, σ, σ', b, Q, r, e, hx, h => by
    cases hx
    exact wpAny_pure (h _ s.toks _ r Ext.refl)
  | c :: ifs, s, μ, σ, σ', b, Q, r, e, hx, h => by
    refine testAll_inv hx fun d σ₁ h1 hx => ?_
    rw [List.forIn_cons]
    refine wpAny_bind (wpAny_bind (S.t aok r e h1 fun h' t' μ' r' x' => wpAny_pure ?_))
    cases d with
    | true => exact testAll_ok S aok (s := { s with heap := h', toks := t' }) r' (e.ext0 r x') hx fun h'' t'' μ'' r'' x'' => h h'' t'' μ'' r'' (x'.trans x'')
    | false =>
      cases hx
      exact tests_false (h _ _ _ r' x') ifs

structure InComp (C : Cx) (frs : List Env) (s₀ : Shared) (μ₀ : List Addr) (cenv : Env) (ρ : PE) (D : Addr) (s : Shared) (μ : List Addr) (σ : St) (vars : Vars) (done : List PV) : Prop where
  same : ∃ h t, s = { s₀ with heap := h, toks := t }
  rel : Rel C frs μ σ s.heap
  envr : EnvRel C s.heap μ cenv { ρ with vars := vars }
  ext : Ext C [] s₀.heap μ₀ s.heap μ
  acc : ∃ vs k, s.heap.get? D = some (listOf vs k) ∧ VRs s.heap μ done vs.toList
  own : D ∉ μ ∧ C.B.get? D = none

theorem list_loose (r : Rel C frs μ σ s.heap) {D : Addr} {vs : Array Value} {k : Nat} (hD : s.heap.get? D = some (listOf vs k)) (h1 : D ∉ μ) (h2 : C.B.get? D = none) : Loose C frs μ [D] s.heap := by
  have one : ∀ b ∈ ([D] : List Addr), b = D := fun b hb => by simpa using hb
  refine ⟨fun b hb => by rw [one b hb]; exact h2, fun b hb => by rw [one b hb]; exact h1, fun b hb fe hfe q => ?_, fun b hb o ho => ?_, fun b hb o ho => ?_⟩
  · rw [one b hb] at q
    obtain ⟨_, L, m, h3, _, ⟨o, es, ep, e, hd, _⟩⟩ := r.frames fe hfe
    rw [q] at h3; cases h3
    rw [hD] at e; cases e; cases hd
  · rw [one b hb, hD] at ho; cases ho
    exact ⟨.inl fun q => by injection q with q; exact absurd q (by decide), .inl fun q => by injection q with q; exact absurd q (by decide)⟩
  · rw [one b hb, hD] at ho; cases ho
    exact ⟨.inl fun q => (nomatch q), fun vs q t e => by cases e⟩

theorem ext_loose_none {X : List Addr} {h₀ h h' : Heap} {μ₀ : List Addr} (x : Ext C [] h₀ μ₀ h μ) (hf : ∀ b ∈ X, h₀.get? b = none) (k : KeepBut X h h') : Ext C [] h₀ μ₀ h' μ := x.but hf k

theorem compLoop_ok (S : Sound C n F) (aok : AOk A n frs) {s₀ : Shared} {μ₀ : List Addr} {it : It} {iv : Value} {W : List Addr} {cenv : Env} {target elt iter : Expr} {ifs : List Expr} {sc : Scope} {pos : Pos} {D : Addr} {R : Result → Shared → Prop} {res : List PV}
    (hfit : fits it target = true) (hf : ∀ b ∈ W, s₀.heap.get? b = none) (hD0 : s₀.heap.get? D = none) (hwr : ∀ b ∈ wr cenv ρ, s₀.heap.get? b = none)
    (hR : ∀ h' t' μ' vs k, Rel C frs μ' σ' h' → Ext C [] s₀.heap μ₀ h' μ' → h'.get? D = some (listOf vs k) → VRs h' μ' res vs.toList → D ∉ μ' → C.B.get? D = none → (∃ m, h'.Ns cenv.locals m) → R (.ok .next) { s₀ with heap := h', toks := t' }) :
    ∀ (m k : Nat) (vars : Vars) (s : Shared) (μ : List Addr) (σ : St) (done rest : List PV), InComp C frs s₀ μ₀ cenv ρ D s μ σ vars done → ItR C s.heap μ it k iv W → done.length + m ≤ cap →
      compLoop F target elt ifs it m k { ρ with vars := vars } σ = some (.ok rest σ') → res = done ++ rest →
      codeAny (MM C) A (.compLoop (.ListComp elt [⟨target, iter, ifs, 0⟩] sc pos) 0 iv (.ref D) cenv) R s := by
  intro m k vars s μ σ done rest L z hcap hx hres
  refine codeAny_compLoop_all (I := fun m s => ∃ k vars μ σ done rest, InComp C frs s₀ μ₀ cenv ρ D s μ σ vars done ∧ ItR C s.heap μ it k iv W ∧ done.length + m ≤ cap ∧ compLoop F target elt ifs it m k { ρ with vars := vars } σ = some (.ok rest σ') ∧ res = done ++ rest) (fun m s hI => ?_) m ⟨k, vars, μ, σ, done, rest, L, z, hcap, hx, hres⟩
  clear L z hcap hx hres
  obtain ⟨k, vars, μ, σ, done, rest, L, z, hcap, hx, hres⟩ := hI
  cases m with
  | zero => cases hx
  | succ m =>
    obtain ⟨hh, tt, hs⟩ := L.same
    have hDW : ∀ b ∈ W, b ∉ [D] := fun b hb q => by
      obtain ⟨o, vs, ho, hd⟩ := z.fields b hb
      obtain ⟨ws, k', h1, _⟩ := L.acc
      simp at q; rw [q, h1] at ho; cases ho; cases hd
    refine next_ok (Q' := fun v _ s₁' => wpAny (MM C) A (assign target cenv v) (fun _ s₂ =>
          wpAny (MM C) A (forIn ifs true fun c r => if r = true then do let ok ← isTrue c cenv (eval c cenv); pure (ForInStep.yield ok) else pure (ForInStep.yield r)) (fun ok s₃ =>
            if ok = true then wpAny (MM C) A (eval elt cenv) (fun x s₄ =>
              wpAny (MM C) A (call (.builtin "list.append") [.ref D, x]) (fun _ s₅ => ∃ m', m' < m + 1 ∧ (∃ k vars μ σ done rest, InComp C frs s₀ μ₀ cenv ρ D s₅ μ σ vars done ∧ ItR C s₅.heap μ it k iv W ∧ done.length + m' ≤ cap ∧ compLoop F target elt ifs it m' k { ρ with vars := vars } σ = some (.ok rest σ') ∧ res = done ++ rest)) (notedBy (MM C) A cenv fun e s' => R (.error e) s') s₄) (notedBy (MM C) A cenv fun e s' => R (.error e) s') s₃
            else ∃ m', m' < m + 1 ∧ (∃ k vars μ σ done rest, InComp C frs s₀ μ₀ cenv ρ D s₃ μ σ vars done ∧ ItR C s₃.heap μ it k iv W ∧ done.length + m' ≤ cap ∧ compLoop F target elt ifs it m' k { ρ with vars := vars } σ = some (.ok rest σ') ∧ res = done ++ rest)) (notedBy (MM C) A cenv fun e s' => R (.error e) s') s₂) (notedBy (MM C) A cenv fun e s' => R (.error e) s') s₁') aok L.rel z hfit ?_ ?_ ?_
    · intro hnx h' t' kb
      cases comp_none hx hnx
      have r' := L.rel.touch (z.dull L.rel) kb
      have x' := L.ext.but hf kb
      have e' := L.envr.touch (z.dull L.rel) kb
      obtain ⟨ws, k', h1, h2⟩ := L.acc
      obtain ⟨mm, hm, _⟩ := e'.ns
      subst hs
      rw [List.append_nil] at hres
      subst hres
      exact hR _ _ _ ws k' r' x' (kb D _ (fun q => hDW D q (by simp)) h1) (h2.touch (z.dull L.rel) kb) L.own.1 L.own.2 ⟨mm, hm⟩
    · intro p hnx v h' t' kb hv z'
      refine comp_some hx hnx fun vars₁ b σ₁ ha h1 hx => ?_
      · have r' := L.rel.touch (z.dull L.rel) kb
        have x' := L.ext.but hf kb
        have e' := L.envr.touch (z.dull L.rel) kb
        obtain ⟨ws, k', hD, hws⟩ := L.acc
        have hD' := kb D _ (fun q => hDW D q (by simp)) hD
        have hws' := hws.touch (z.dull L.rel) kb
        have ap' := wr_apart (s := { s with heap := h', toks := t' }) e' z'
        have hDwr : D ∉ wr cenv { ρ with vars := vars } := fun q => (e'.plain D q _ hD').1 ws k' rfl
        refine assignLoop_ok (s := { s with heap := h', toks := t' }) aok r' e' ha hv fun h₂ t₂ μ₂ r₂ x₂ e₂ => ?_
        have z₂ := z'.ext r' x₂ e'.wok ap'
        have hDμ' : D ∉ C.T ++ μ := fun q => by
          rcases List.mem_append.mp q with q | q
          · obtain ⟨t, ht, hte⟩ := List.mem_map.mp q
            obtain ⟨ps, hp, _⟩ := r'.tabs t ht
            rw [hte, hD'] at hp; cases hp
          · exact L.own.1 q
        have liveD : ∀ {W' : List Addr} {ha hb : Heap} {μa μb : List Addr}, Ext C W' ha μa hb μb → ha.get? D = some (listOf ws k') → D ∉ C.T ++ μa → D ∉ W' → hb.get? D = some (listOf ws k') := fun {W' ha hb μa μb} x hd h1 h2 => by
          rcases x.keep D _ hd (fun q => by
            rcases List.mem_append.mp q with q | q
            · exact h1 q
            · exact h2 q) with h3 | ⟨⟨es, n', h3⟩, _⟩
          · exact h3
          · cases h3
        have newD : ∀ {W' : List Addr} {ha hb : Heap} {μa μb : List Addr}, Ext C W' ha μa hb μb → ha.get? D = some (listOf ws k') → D ∉ C.T ++ μa → D ∉ C.T ++ μb := fun {W' ha hb μa μb} x hd h1 q => by
          rcases List.mem_append.mp q with q | q
          · exact h1 (List.mem_append_left _ q)
          · rcases x.new D q with h3 | h3
            · exact h1 (List.mem_append_right _ h3)
            · rw [hd] at h3; cases h3
        have hD₂ := liveD x₂ hD' hDμ' hDwr
        have hn₂ := newD x₂ hD' hDμ'
        have hws₂ := VRs.ext r' x₂ e'.wok hws'
        refine testAll_ok S (s := { s with heap := h₂, toks := t₂ }) aok r₂ e₂ h1 fun h₃ t₃ μ₃ r₃ x₃ => ?_
        have e₃ := e₂.ext0 r₂ x₃
        have z₃ := z₂.ext r₂ x₃ WOk.nil (fun _ _ q => nomatch q)
        have hD₃ := liveD x₃ hD₂ hn₂ (fun q => nomatch q)
        have hn₃ := newD x₃ hD₂ hn₂
        have hws₃ := VRs.ext r₂ x₃ WOk.nil hws₂
        have base₃ : Ext C [] s₀.heap μ₀ h₃ μ₃ := (x'.wide.trans (x₂.trans x₃.wide)).drop fun b hb => .inr (hwr b hb)
        have L₃ : InComp C frs s₀ μ₀ cenv ρ D { s with heap := h₃, toks := t₃ } μ₃ σ₁ vars₁ done := ⟨⟨h₃, t₃, by subst hs; rfl⟩, r₃, e₃, base₃, ⟨ws, k', hD₃, hws₃⟩, fun q => hn₃ (List.mem_append_right _ q), L.own.2⟩
        cases b with
        | false => exact ⟨m, Nat.lt_succ_self _, k + 1, vars₁, μ₃, σ₁, done, rest, L₃, z₃, by exact fm [_, _, _] [] [.nle (.a (.v 0) (.a (.v 1) (.l 1))) (.v 2)] (.nle (.a (.v 0) (.v 1)) (.v 2)) [[1, 1]] rfl hcap, hx, hres⟩
        | true =>
          refine bnd (x := F.e elt { ρ with vars := vars₁ } σ₁) hx fun y σ₂ h2 hx => bnd (x := compLoop F target elt ifs it m (k + 1) { ρ with vars := vars₁ } σ₂) hx fun ys σ₃ h3 hx => ?_
          cases hx
          refine S.v (s := { s with heap := h₃, toks := t₃ }) aok r₃ e₃ h2 fun vy h₄ t₄ μ₄ r₄ x₄ hvy => ?_
          have e₄ := e₃.ext0 r₃ x₄
          have z₄ := z₃.ext r₃ x₄ WOk.nil (fun _ _ q => nomatch q)
          have hD₄ := liveD x₄ hD₃ hn₃ (fun q => nomatch q)
          have hn₄ := newD x₄ hD₃ hn₃
          have hws₄ := VRs.ext r₃ x₄ WOk.nil hws₃
          have hlen := hws₄.length
          rw [Array.length_toList] at hlen
          refine call_meets PySem.F.slot_list_append ⟨_, hD₄, rfl⟩ PySem.F.entry_list_append (PySem.F.args_list_append_2 _ _) (list_append D ws k' vy (by rw [hlen]; exact le_line (by exact fm [_, _, _] [] [.nle (.a (.v 0) (.a (.v 1) (.l 1))) (.v 2)] (.nle (.v 0) (.v 2)) [[1, 1]] rfl hcap))) ⟨hD₄, ?_⟩
          have kb₅ := keepBut_of_sameBut (Heap.SameBut.update h₄ D (Obj.mapSeq (·.push vy)))
          have lo := list_loose (s := { s with heap := h₄, toks := t₄ }) r₄ hD₄ (fun q => hn₄ (List.mem_append_right _ q)) L.own.2
          have r₅ := r₄.loose lo kb₅
          have hDw4 : D ∉ wr cenv { ρ with vars := vars₁ } := fun q => (e₄.plain D q _ hD₄).1 ws k' rfl
          have e₅ := e₄.loose lo kb₅ (fun q => by simp at q; exact hDw4 (q ▸ List.mem_cons_self)) (fun x c hk hc q => by
            simp at q
            obtain ⟨c', v', h5, ⟨oc, h6, h7⟩, _⟩ := e₄.cell x hk
            rw [hc] at h5; cases h5
            rw [q, hD₄] at h6; cases h6; cases h7)
          have hDW₄ : ∀ b ∈ W, b ∉ [D] := hDW
          have z₅ : ItR C (h₄.update D (Obj.mapSeq (·.push vy))) μ₄ it (k + 1) iv W := by
            refine ItR.loose z₄ lo.mute kb₅ hDW
          obtain ⟨k'', hD₅⟩ : ∃ k'', (h₄.update D (Obj.mapSeq (·.push vy))).get? D = some (listOf (ws.push vy) k'') := ⟨_, IsL.update hD₄ (fun y => y.push vy)⟩
          have hws₅ : VRs (h₄.update D (Obj.mapSeq (·.push vy))) μ₄ (done ++ [y]) (ws.push vy).toList := by
            have h6 : VRs h₄ μ₄ [y] [vy] := ⟨vy, [], rfl, hvy, rfl⟩
            have := VRs.mute lo.mute kb₅ (hws₄.append h6)
            simpa using this
          exact ⟨m, Nat.lt_succ_self _, k + 1, vars₁, μ₄, σ₂, done ++ [y], ys, ⟨⟨_, _, by subst hs; rfl⟩, r₅, e₅, (base₃.trans x₄).but (fun b hb => by simp at hb; rw [hb]; exact hD0) kb₅, ⟨_, k'', hD₅, hws₅⟩, fun q => hn₄ (List.mem_append_right _ q), L.own.2⟩, z₅,
            by rw [List.length_append]; simp; exact fm [_, _, _] [] [.nle (.a (.v 0) (.a (.v 1) (.l 1))) (.v 2)] (.nle (.a (.a (.v 0) (.l 1)) (.v 1)) (.v 2)) [[1, 1]] rfl hcap, h3, by rw [hres, List.append_assoc]; rfl⟩
    · intro v s₁ h
      exact h
end
end Mine
end
section
open PySem PySem.W PyProof.Rows PySem.Calls
namespace Mine

section
variable {C : Cx} {A : Around} {E : Value → Shared → Prop} {s : Shared} {frs : List Env} {μ : List Addr} {σ σ' : St} {n : Nat} {env : Env} {ρ : PE} {F : Evs}

theorem dict_loose {L : Addr} {h : Heap} {m : Str → Option Value} (r : Rel C frs μ σ s.heap) (hL : s.heap.get? L = none) (hn : h.Ns L m) : ∀ {μ'}, (∀ a ∈ μ', ∃ vs k, h.get? a = some (listOf vs k)) → Loose C frs μ' [L] h := by
  intro μ' hμ
  have one : ∀ b ∈ ([L] : List Addr), b = L := fun b hb => by simpa using hb
  obtain ⟨o, es, ep, e, hd, _⟩ := hn
  refine ⟨fun b hb => by rw [one b hb]; exact r.base_none hL, fun b hb q => ?_, fun b hb fe hfe q => ?_, fun b hb o' ho => ?_, fun b hb o' ho => ?_⟩
  · rw [one b hb] at q
    obtain ⟨vs, k, e'⟩ := hμ L q
    rw [e] at e'; cases e'; cases hd
  · rw [one b hb] at q
    obtain ⟨_, L', m', h3, _, ⟨o', es', ep', e', hd', _⟩⟩ := r.frames fe hfe
    rw [q] at h3; cases h3
    rw [hL] at e'; cases e'
  · rw [one b hb, e] at ho; cases ho
    exact ⟨.inr fun vs n q => by (rw [hd] at q; cases q), .inr fun vs q => by (rw [hd] at q; cases q)⟩
  · rw [one b hb, e] at ho; cases ho
    exact ⟨.inr fun vs q => by (rw [hd] at q; cases q), fun vs q t e' => by rw [hd] at e'; cases e'⟩

theorem Rel.lists {h : Heap} (r : Rel C frs μ σ h) : ∀ a ∈ μ, ∃ vs k, h.get? a = some (listOf vs k) := fun a ha => by
  obtain ⟨_, _, vs, k, _, _, e, _⟩ := r.list_of_mem ha
  exact ⟨vs, k, e⟩

theorem comp_go (ok : C.Ok) (S : Sound C n F) (aok : AOk A n frs) (r : Rel C frs μ σ s.heap) (e : EnvRel C s.heap μ env ρ) {elt : Expr} {gens : List Comprehension} {sc : Scope} {pos ipos : Pos} {p : PV} {use : Option (Value → Sem Unit)} {Q : Value → Shared → Prop}
    (hx : evComp F elt gens sc ρ σ = some (.ok p σ'))
    (K : ∀ D L h' t' μ', Rel C frs μ' σ' h' → Ext C [] s.heap μ h' μ' → VR h' μ' p (.ref D) → s.heap.get? L = none → (∃ m, h'.Ns L m) → compPost (MM C) A E use Q (.ref D) L (.ok .next) { s with heap := h', toks := t' }) :
    wpAny (MM C) A (comprehension (.ListComp elt gens sc pos) sc env ipos (newList []) (firstAsync gens) (firstIter gens env) use) Q E s := by
  refine evComp_elim (P := fun gens => wpAny (MM C) A (comprehension (.ListComp elt gens sc pos) sc env ipos (newList []) (firstAsync gens) (firstIter gens env) use) Q E s) hx fun target iter ifs it σ₁ vs σ₂ hfr hsc h1 hfit h2 hle hx => ?_
  obtain ⟨f1, f2, f3, f4, f5⟩ := scope_facts hsc
  have run := fun (Q' : Value → Shared → Prop) => iter_ok (E := E) (Q := Q') ok S aok r e h1
  have fold : ∀ v, foldedSetIterable iter env v = pure v := (run (fun _ _ => True) (fun _ _ _ _ _ _ _ _ _ => trivial)).2
  show wpAny (MM C) A (comprehension (.ListComp elt [⟨target, iter, ifs, 0⟩] sc pos) sc env ipos (newList []) false (eval iter env) use) Q E s
  refine wpAny_comprehension_free rfl fold (closureOf e hfr) f1 (fun x hx hl => lookup_of_mem f2 (by rw [← hl]; exact hx)) ((run _ ?_).1)
  intro iv W h' t' μ' r' x' z hW
  refine wpAny_newList ?_ (by decide)
  have kp1 : ∀ b o, h'.get? b = some o → (h'.push { cls := .type "list", data := .seq ([] : List Value).toArray }).get? b = some o := fun b o e => Heap.get?_push_of_some _ e
  refine newEnv_around fun h₂ N => ?_
  have kp2 := fun b o e' => N.keeps b o (kp1 b o e')
  have r₁ := r'.keeps kp1
  have x₁ : Ext C [] s.heap μ (h'.push { cls := .type "list", data := .seq ([] : List Value).toArray }) μ' := x'.trans (Ext.of_keeps kp1)
  have e₁ := e.ext0 r x₁
  have hsz : (h'.push { cls := .type "list", data := .seq ([] : List Value).toArray }).objs.size = h'.objs.size + 1 := Heap.size_push ..
  have gone : ∀ b, h'.objs.size ≤ b → s.heap.get? b = none := fun b hb => none_back x' (by
    cases q : h'.get? b with
    | none => rfl
    | some o => exact absurd (Heap.lt_size q) (Nat.not_lt.mpr hb))
  obtain ⟨eI, wI⟩ := inner_ok (s := { s with heap := h'.push { cls := .type "list", data := .seq ([] : List Value).toArray }, toks := t' }) (h' := h₂) r₁ e₁ hsc hfr N (env' := { scope := relabel sc env, locals := (h'.push { cls := .type "list", data := .seq ([] : List Value).toArray }).objs.size, globals := env.globals, cells := cellsFrom ((h'.push { cls := .type "list", data := .seq ([] : List Value).toArray }).objs.size + 1) sc.names [] ++ clOf env sc.names, qual := env.qual, func := none, code := env.code, frame := env.frame, builtins := env.builtins })
    (fun x => lookup_relabel) f1 e.globals e.builtins rfl rfl
  have wI' : ∀ b ∈ wr { scope := relabel sc env, locals := (h'.push { cls := .type "list", data := .seq ([] : List Value).toArray }).objs.size, globals := env.globals, cells := cellsFrom ((h'.push { cls := .type "list", data := .seq ([] : List Value).toArray }).objs.size + 1) sc.names [] ++ clOf env sc.names, qual := env.qual, func := none, code := env.code, frame := env.frame, builtins := env.builtins } (inner ρ sc.names), s.heap.get? b = none := fun b hb => none_back x₁ (wI b hb)
  have r₂ := r'.keeps kp2
  have z₂ : ItR C h₂ μ' it 0 iv W := z.ext r' (Ext.of_keeps (W := []) kp2) WOk.nil (fun _ _ q => nomatch q)
  have hLn : s.heap.get? (h'.push { cls := .type "list", data := .seq ([] : List Value).toArray }).objs.size = none := gone _ (by rw [hsz]; exact Nat.le_succ _)
  have hDget : h₂.get? h'.objs.size = some (listOf #[] 0) := N.keeps _ _ (Heap.get?_push_size _ rfl)
  cases hx
  refine codeAny_compStart_list ?_ (again_ok (s := { s with heap := h₂, toks := t' }) z₂ ?_)
  all_goals
    refine compLoop_ok S aok (s₀ := s) (μ₀ := μ) hfit hW (gone _ (Nat.le_refl _)) wI' ?_ cap 0 _ _ μ' σ₁ [] vs ⟨⟨h₂, t', rfl⟩, r₂, eI, x'.trans (Ext.of_keeps kp2), ⟨#[], 0, hDget, rfl⟩, r'.mem_none (get?_size _), r'.base_none (get?_size _)⟩ z₂ (by simp) h2 rfl
    intro h₃ t₃ μ₃ ws k r₃ x₃ hD₃ hws hDμ hDB hns
    refine K h'.objs.size _ h₃ t₃ (μ₃ ++ [h'.objs.size]) (r₃.snoc hD₃ hDμ hDB hws) (x₃.snoc (gone _ (Nat.le_refl _))) ⟨_, rfl, ?_⟩ hLn hns
    rw [← r₃.len]
    simp

theorem listComp_ok (ok : C.Ok) (S : Sound C n F) (aok : AOk A n frs) (r : Rel C frs μ σ s.heap) (e : EnvRel C s.heap μ env ρ) {elt : Expr} {gens : List Comprehension} {sc : Scope} {pos : Pos} {p : PV} {Q : Value → Shared → Prop}
    (hx : evComp F elt gens sc ρ σ = some (.ok p σ')) (h : OkV C frs s μ p σ' Q) : wpAny (MM C) A (eval (.ListComp elt gens sc pos) env) Q E s := by
  rw [eval_ListComp]
  refine comp_go ok S aok r e hx fun D L h' t' μ' r' x' hv hL hns => ?_
  obtain ⟨m, hm⟩ := hns
  refine ⟨m, hm, fun h'' hs => ?_⟩
  have kb := keepBut_of_sameBut hs
  have lo : Loose C frs μ' [L] h' := dict_loose r hL hm r'.lists
  exact h _ _ _ _ (r'.loose lo kb) (x'.but (fun b hb => by simp at hb; rw [hb]; exact hL) kb) (hv.mute lo.mute kb)
end
end Mine
end
section
open PySem PySem.W PyProof.Rows PySem.Calls
namespace Mine
noncomputable def pick (env : Env) (line : Nat) : Expr → Option Str := fun
    | .Name id pos => if env.kindOf id == some .local && pos.line == line then some id else none
    | _ => none
theorem pick_some {env : Env} {line : Nat} {t : Expr} {a : Str} (h : pick env line t = some a) : ∃ pos, t = .Name a pos ∧ env.kindOf a = some .local := by
  cases t
  case Name id pos =>
    refine ite1 (c := (env.kindOf id == some .local && pos.line == line) = true) h fun hc h => ?_
    cases h
    exact ⟨pos, rfl, beq_iff_eq.mp (Bool.and_eq_true_iff.mp hc).1⟩
  all_goals exact no_none h

theorem picks {env : Env} {line : Nat} : ∀ {ts : List Expr}, (ts.filterMap (pick env line)).length = ts.length → ∀ t ∈ ts, ∃ a, pick env line t = some a
  | [], _, _, h => nomatch h
  | t :: ts, hl, u, hu => by
    cases ht : pick env line t with
    | none =>
      rw [List.filterMap_cons_none ht] at hl
      have := List.length_filterMap_le (pick env line) ts
      simp at hl; exact False.elim (fm [_, _] [] [.neq (.v 0) (.a (.v 1) (.l 1)), .nle (.v 0) (.v 1)] .f [[0, 1, 1]] rfl hl this)
    | some a =>
      rw [List.filterMap_cons_some ht] at hl
      rcases List.mem_cons.mp hu with rfl | hu
      · exact ⟨a, ht⟩
      · exact picks (by simpa using hl) u hu

theorem len2 {α : Type} {l : List α} (h : l.length = 2) : ∃ a b, l = [a, b] := by
  match l, h with
  | [a, b], _ => exact ⟨a, b, rfl⟩
theorem len3 {α : Type} {l : List α} (h : l.length = 3) : ∃ a b c, l = [a, b, c] := by
  match l, h with
  | [a, b, c], _ => exact ⟨a, b, c, rfl⟩

theorem dup2 {a b : Str} (h : [a, b].eraseDups.length = [a, b].length) : a ≠ b := fun q => by
  subst q
  simp [List.eraseDups_cons] at h
theorem dup3 {a b c : Str} (h : [a, b, c].eraseDups.length = [a, b, c].length) : a ≠ b ∧ a ≠ c ∧ b ≠ c := by
  refine ⟨fun q => ?_, fun q => ?_, fun q => ?_⟩
  · subst q
    by_cases h2 : c = a
    · subst h2; simp [List.eraseDups_cons] at h
    · simp [List.eraseDups_cons, List.filter_cons, h2] at h
  · subst q
    by_cases h2 : b = a
    · subst h2; simp [List.eraseDups_cons] at h
    · simp [List.eraseDups_cons, List.filter_cons, h2] at h
  · subst q
    by_cases h2 : b = a
    · subst h2; simp [List.eraseDups_cons] at h
    · simp [List.eraseDups_cons, List.filter_cons, h2] at h

noncomputable def Swc (env : Env) (t value : Expr) : Prop :=
  swappedStores [t] value env = pure none ∨
  (∃ k p a pa b pb, t = .Tuple [.Name a pa, .Name b pb] k p ∧ a ≠ b ∧ env.kindOf a = some .local ∧ env.kindOf b = some .local ∧ swappedStores [t] value env = pure (some [a, b])) ∨
  (∃ k p a pa b pb c pc, t = .Tuple [.Name a pa, .Name b pb, .Name c pc] k p ∧ a ≠ b ∧ a ≠ c ∧ b ≠ c ∧ env.kindOf a = some .local ∧ env.kindOf b = some .local ∧ env.kindOf c = some .local ∧ swappedStores [t] value env = pure (some [a, b, c]))
theorem Swc.no {env : Env} {t value : Expr} (h : swappedStores [t] value env = pure none) : Swc env t value := .inl h
theorem Swc.two {env : Env} {k : Nat} {p pa pb : Pos} {a b : Str} {value : Expr} (d : a ≠ b) (ka : env.kindOf a = some .local) (kb : env.kindOf b = some .local) (h : swappedStores [.Tuple [.Name a pa, .Name b pb] k p] value env = pure (some [a, b])) : Swc env (.Tuple [.Name a pa, .Name b pb] k p) value :=
  .inr (.inl ⟨k, p, a, pa, b, pb, rfl, d, ka, kb, h⟩)
theorem Swc.three {env : Env} {k : Nat} {p pa pb pc : Pos} {a b c : Str} {value : Expr} (d1 : a ≠ b) (d2 : a ≠ c) (d3 : b ≠ c) (ka : env.kindOf a = some .local) (kb : env.kindOf b = some .local) (kc : env.kindOf c = some .local)
    (h : swappedStores [.Tuple [.Name a pa, .Name b pb, .Name c pc] k p] value env = pure (some [a, b, c])) : Swc env (.Tuple [.Name a pa, .Name b pb, .Name c pc] k p) value :=
  .inr (.inr ⟨k, p, a, pa, b, pb, c, pc, rfl, d1, d2, d3, ka, kb, kc, h⟩)
noncomputable def SwQ (ts : List Expr) (env : Env) (x : Sem (Option (List Str))) : Prop := x = pure none ∨ (ts.length = 2 ∨ ts.length = 3) ∧ ∃ line, (ts.filterMap (pick env line)).length = ts.length ∧ (ts.filterMap (pick env line)).eraseDups.length = (ts.filterMap (pick env line)).length ∧
      x = pure (some (ts.filterMap (pick env line)))
noncomputable def swIf (ts vs : List Expr) (env : Env) (l : List Str) : Sem (Option (List Str)) :=
   (if (!(ts.length == 2 || ts.length == 3) || vs.length != ts.length || env.blockKind != .function) = true then pure none else
    if (vs.any fun | .Starred .. => true | _ => false) = true then pure none else
    if (l.length != ts.length || l.eraseDups.length != l.length) = true then pure none else
    if vs.all (foldedForSure 8) = true then pure none else
    if vs.all (constantsAlone 8) = true then (do unsupported "assign.tuple-of-constant-expressions:order-of-the-stores"; pure (some l)) else
    pure (some l))
theorem if_ret {α : Type} {Q : α → Prop} {c : Prop} [Decidable c] {z x : α} (h1 : c → Q z) (h2 : ¬ c → Q x) : Q (if c then z else x) := by
  by_cases q : c
  · rw [if_pos q]; exact h1 q
  · rw [if_neg q]; exact h2 q
theorem swaps_of {ts : List Expr} {k : Nat} {p : Pos} {vs : List Expr} {k' : Nat} {p' : Pos} {env : Env} (hct : vs.all (constantsAlone 8) = false) : SwQ ts env (swappedStores [.Tuple ts k p] (.Tuple vs k' p') env) := by
  generalize hl : (ts.head?.map (·.pos.line)).getD 0 = line
  have e : swappedStores [.Tuple ts k p] (.Tuple vs k' p') env = swIf ts vs env (ts.filterMap (pick env line)) := by rw [← hl]; rfl
  rw [e]
  have z : SwQ ts env (pure none) := .inl rfl
  refine if_ret (fun _ => z) fun h1 => if_ret (fun _ => z) fun _ => if_ret (fun _ => z) fun h3 => if_ret (fun _ => z) fun _ => if_ret (fun h => no_ft (hct.symm.trans h)) fun _ => ?_
  simp only [Bool.or_eq_true, bne_iff_ne, ne_eq, not_or, Decidable.not_not, Bool.not_eq_true', Bool.not_eq_false, beq_iff_eq] at h1 h3
  exact .inr ⟨h1.1.1, line, h3.1, h3.2, rfl⟩
theorem swap_two {ts vs : List Expr} {k k' : Nat} {p p' : Pos} {env : Env} (hct : vs.all (constantsAlone 8) = false) : Swc env (.Tuple ts k p) (.Tuple vs k' p') := by
  rcases swaps_of (ts := ts) (k := k) (p := p) (k' := k') (p' := p') (env := env) hct with h | ⟨h8, line, h6, h7, hs⟩
  · exact .no h
  have hall := picks h6
  rcases h8 with h8 | h8
  · obtain ⟨t1, t2, rfl⟩ := len2 h8
    obtain ⟨a, ha⟩ := hall t1 (by simp)
    obtain ⟨b, hb⟩ := hall t2 (by simp)
    obtain ⟨pa, rfl, ka⟩ := pick_some ha
    obtain ⟨pb, rfl, kb⟩ := pick_some hb
    have hn : [Expr.Name a pa, Expr.Name b pb].filterMap (pick env line) = [a, b] := by
      rw [List.filterMap_cons_some ha, List.filterMap_cons_some hb, List.filterMap_nil]
    rw [hn] at h7 hs
    exact .two (dup2 h7) ka kb hs
  · obtain ⟨t1, t2, t3, rfl⟩ := len3 h8
    obtain ⟨a, ha⟩ := hall t1 (by simp)
    obtain ⟨b, hb⟩ := hall t2 (by simp)
    obtain ⟨c, hc⟩ := hall t3 (by simp)
    obtain ⟨pa, rfl, ka⟩ := pick_some ha
    obtain ⟨pb, rfl, kb⟩ := pick_some hb
    obtain ⟨pc, rfl, kc⟩ := pick_some hc
    have hn : [Expr.Name a pa, Expr.Name b pb, Expr.Name c pc].filterMap (pick env line) = [a, b, c] := by
      rw [List.filterMap_cons_some ha, List.filterMap_cons_some hb, List.filterMap_cons_some hc, List.filterMap_nil]
    rw [hn] at h7 hs
    obtain ⟨d1, d2, d3⟩ := dup3 h7
    exact .three d1 d2 d3 ka kb kc hs
theorem swap_cases {t value : Expr} {env : Env} (hct : constTuple t value = false) (hl : ∀ ts p, t ≠ .List ts p) : Swc env t value := by
  cases t
  case Tuple ts k p =>
    cases value
    case Tuple vs k' p' => exact swap_two hct
    all_goals exact .no rfl
  case List ts p => exact absurd rfl (hl ts p)
  all_goals exact .no rfl

section
variable {C : Cx} {A : Around} {E : Value → Shared → Prop} {s : Shared} {frs : List Env} {μ : List Addr} {σ σ' : St} {n : Nat} {env : Env} {ρ : PE} {F : Evs}

theorem assign1_ok (S : Sound C n F) (aok : AOk A n frs) (r : Rel C frs μ σ s.heap) (e : EnvRel C s.heap μ env ρ) {t : Expr} {p : PV} {v : Value} {vars : Vars} {Q : Unit → Shared → Prop} (hx : assign1 F t ρ p σ = some (.ok vars σ'))
    (hv : VR s.heap μ p v) (h : OkA C frs s μ env ρ vars σ' Q) : wpAny (MM C) A (assign t env v) Q E s := by
  refine assign1_elim (P := fun t => wpAny (MM C) A (assign t env v) Q E s) hx (fun x pos V hset hx => ?_) (fun o i pos ov σ₁ iv σ₂ σ₃ h1 h2 h3 hx => ?_)
  · cases hx
    exact assignName_ok r e hset hv h
  · cases hx
    rw [arm_assign_Subscript]
    refine wpAny_bind (wpAny_holding (S.v aok r e h1 fun vo h' t' μ' r' x' hvo => ?_))
    refine wpAny_bind (wpAny_holding (S.v (s := { s with heap := h', toks := t' }) aok r' (e.ext0 r x') h2 fun vi h'' t'' μ'' r'' x'' hvi => ?_))
    refine wpAny_bind (wpAny_standAt (wpAny_bind (wpAny_holding ?_)))
    have x2 := x'.trans x''
    refine setItem_ok (s := { s with heap := h'', toks := t'' }) r'' (hvo.ext r' x'' WOk.nil) hvi (hv.ext r x2 WOk.nil) h3 fun h₃ t₃ r₃ x₃ => ?_
    exact wpAny_release (h _ _ _ r₃ (x2.trans x₃).wide (((e.ext0 r x2).ext0 r'' x₃).vars fun _ => rfl))

theorem assign1_shape {t : Expr} {p : PV} {o : Out Vars} {rest : List Expr} (hx : assign1 F t ρ p σ = some o) : assignEach (t :: rest) env = (false, assign t env) :: assignEach rest env := by
  cases t <;> first | rfl | exact no_none hx

theorem assignMany_shape {env : Env} : ∀ {ts : List Expr} {ps : List PV} {ρ : PE} {σ σ' : St} {vars : Vars}, assignMany F ts ps ρ σ = some (.ok vars σ') → ts.length = ps.length ∧ (assignEach ts env).length = ts.length ∧ (assignEach ts env).findIdx? (·.1) = none
  | [], [], _, _, _, _, _ => ⟨rfl, rfl, rfl⟩
  | [], _ :: _, _, _, _, _, hx => by cases hx
  | _ :: _, [], _, _, _, _, hx => by cases hx
  | t :: ts, p :: ps, ρ, σ, σ', vars, hx => by
    refine assignMany_inv hx fun v₁ σ₁ h1 hx => ?_
    obtain ⟨a1, a2, a3⟩ := assignMany_shape (env := env) hx
    rw [assign1_shape h1]
    refine ⟨by simp [a1], by simp [a2], ?_⟩
    rw [List.findIdx?_cons]
    simp [a3]

theorem assignMany_ok (S : Sound C n F) (aok : AOk A n frs) : ∀ {ts : List Expr} {ps : List PV} {vs : List Value} {s : Shared} {μ : List Addr} {σ σ' : St} {ρ : PE} {vars : Vars} {Q : Unit → Shared → Prop}, Rel C frs μ σ s.heap → EnvRel C s.heap μ env ρ →
    assignMany F ts ps ρ σ = some (.ok vars σ') → VRs s.heap μ ps vs → OkA C frs s μ env ρ vars σ' Q → wpAny (MM C) A (assignInOrder ((assignEach ts env).map (·.2)) vs) Q E s
  | [], [], vs, s, μ, σ, σ', ρ, vars, Q, r, e, hx, hv, h => by
    cases hx
    cases hv
    exact wpAny_pure (h s.heap s.toks μ r Ext.refl e)
  | [], _ :: _, _, _, _, _, _, _, _, _, _, _, hx, _, _ => by cases hx
  | _ :: _, [], _, _, _, _, _, _, _, _, _, _, hx, _, _ => by cases hx
  | t :: ts, p :: ps, vs, s, μ, σ, σ', ρ, vars, Q, r, e, hx, ⟨v, rr, ev, hp, hl⟩, h => by
    subst ev
    refine assignMany_inv hx fun v₁ σ₁ h1 hx => ?_
    rw [assign1_shape h1]
    show wpAny (MM C) A (do holding rr (assign t env v); assignInOrder ((assignEach ts env).map (·.2)) rr) Q E s
    refine wpAny_bind (wpAny_holding (assign1_ok S aok r e h1 hp fun h' t' μ' r' x' e' => ?_))
    exact assignMany_ok S aok (s := { s with heap := h', toks := t' }) r' e' hx (VRs.ext r x' e.wok hl) (h.step x')

theorem assignTo_ok (S : Sound C n F) (aok : AOk A n frs) (r : Rel C frs μ σ s.heap) (e : EnvRel C s.heap μ env ρ) {t : Expr} {p : PV} {v : Value} {vars : Vars} {Q : Unit → Shared → Prop} (hx : assignTo F t ρ p σ = some (.ok vars σ'))
    (hv : VR s.heap μ p v) (h : OkA C frs s μ env ρ vars σ' Q) : wpAny (MM C) A (assign t env v) Q E s := by
  cases t
  case Tuple ts k pos =>
    cases p with
    | tup ps =>
      refine hv.tup_elim fun a vs ht hl => ?_
      obtain ⟨h1, h2, h3⟩ := assignMany_shape (env := env) hx
      refine wpAny_assign_Tuple aok.handled ht (by rw [h2, h1, ← hl.length]; simp) h3 fun h' hk => ?_
      have kp : ∀ b o, s.heap.get? b = some o → h'.get? b = some o := fun b o e' => hk b o (Nat.ne_of_lt (Heap.lt_size e')) e'
      have x' : Ext C [] s.heap μ h' μ := Ext.of_keeps kp
      exact assignMany_ok S aok (s := { s with heap := h' }) (r.keeps kp) (e.ext0 r x') hx (VRs.ext r x' WOk.nil hl) fun h'' t'' μ'' r'' x'' e'' => h h'' t'' μ'' r'' (x'.wide.trans x'') e''
    | _ => exact no_none hx
  all_goals exact assign1_ok S aok r e hx hv h

theorem EnvRel.local_of (e : EnvRel C s.heap μ env ρ) {x : Str} (h : env.kindOf x = some .local) : ρ.names.lookup x = some .local := by
  obtain ⟨h1, h2⟩ := e.names x
  by_cases q : ρ.names.lookup x = some .free
  · rcases h2 q with h3 | h3 <;> rw [h] at h3 <;> cases h3
  · rw [← h1 q]; exact h

theorem bind_ok' (r : Rel C frs μ σ s.heap) (e : EnvRel C s.heap μ env ρ) {x : Str} {p : PV} {v : Value} {Q : Unit → Shared → Prop} (hx : env.kindOf x = some .local) (hv : VR s.heap μ p v)
    (h : OkA C frs s μ env ρ (upd x p ρ.vars) σ Q) : wpAny (MM C) A (bindName env x v) Q E s :=
  wpAny_bindName (store_ok r e (by unfold PE.set; rw [e.local_of hx]) hv fun h' t' r' x' e' => h h' t' μ r' x' e')

theorem set_upd {x : Str} {p : PV} {vars : Vars} (h : ρ.set x p = some vars) : vars = upd x p ρ.vars := by
  exact set_inv h (fun _ q => q.symm) fun _ q => q.symm

theorem EnvRel.wr_alive (e : EnvRel C s.heap μ env ρ) : ∀ b ∈ wr env ρ, ∃ o, s.heap.get? b = some o := by
  intro b hb
  rcases List.mem_cons.mp hb with rfl | hb
  · obtain ⟨m, ⟨o, es, ep, e1, _⟩, _⟩ := e.ns
    exact ⟨o, e1⟩
  · obtain ⟨q, hq, rfl⟩ := List.mem_map.mp hb
    obtain ⟨hq, hc⟩ := List.mem_filter.mp hq
    obtain ⟨c, v, h1, ⟨o, h2, _⟩, _⟩ := e.cell q.1 (.inl (by simpa using hc))
    have h3 := e.keys q hq
    rw [h1] at h3; cases h3
    exact ⟨o, h2⟩

noncomputable def Swp (env : Env) (line : Nat) (value t : Expr) : Prop := ∃ b, swapsWith value (some t) line env = pure b ∧ (b = true → ∃ elt gens sc pos x px, value = .ListComp elt gens sc pos ∧ t = .Name x px)
theorem Swp.no {value t : Expr} {line : Nat} (h : swapsWith value (some t) line env = pure false) : Swp env line value t := ⟨false, h, fun q => by cases q⟩
theorem Swp.name {elt : Expr} {gens : List Comprehension} {sc : Scope} {pos px : Pos} {x : Str} {line : Nat} {b : Bool} (h : swapsWith (.ListComp elt gens sc pos) (some (.Name x px)) line env = pure b) : Swp env line (.ListComp elt gens sc pos) (.Name x px) := ⟨b, h, fun _ => ⟨elt, gens, sc, pos, x, px, rfl, rfl⟩⟩
theorem swaps_pure {value : Expr} {t : Expr} {line : Nat} (no : (match value with | .SetComp .. => True | .DictComp .. => True | _ => False) → False) : Swp env line value t := by
  cases value
  case ListComp elt gens sc pos =>
    cases t
    case Name x px => exact .name rfl
    all_goals exact .no rfl
  case SetComp => exact (no trivial).elim
  case DictComp => exact (no trivial).elim
  all_goals exact .no rfl

theorem assignTo_shape {t : Expr} {p : PV} {o : Out Vars} (hx : assignTo F t ρ p σ = some o) : assignEach [t] env = [(false, assign t env)] := by
  cases t <;> first | rfl | exact no_none hx
theorem VRs.one_ex {h : Heap} {p : PV} {vs : List Value} (x : VRs h μ [p] vs) : ∃ v, vs = [v] ∧ VR h μ p v := x.one_elim fun v hv => ⟨v, rfl, hv⟩
theorem one1 {x : Str} {pos : Pos} {p : PV} {V : Vars} {P : Prop} (h : assign1 F (.Name x pos) ρ p σ = some (.ok V σ')) (k : V = upd x p ρ.vars → σ = σ' → P) : P :=
  assign1_elim (P := fun t => t = .Name x pos → P) h (fun y q W hs e1 e2 => by cases e1; cases e2; exact k (set_upd hs) rfl) (fun _ _ _ _ _ _ _ _ _ _ _ _ e => nomatch e) rfl
theorem many2 {a b : Str} {pa pb : Pos} {p1 p2 : PV} {vars : Vars} {P : Prop} (h : assignMany F [.Name a pa, .Name b pb] [p1, p2] ρ σ = some (.ok vars σ')) (k : vars = upd b p2 (upd a p1 ρ.vars) → σ = σ' → P) : P :=
  assignMany_inv h fun V σ₁ h1 h => assignMany_inv h fun W σ₂ h2 h => one1 h1 fun e1 e2 => one1 h2 fun e3 e4 => by
    cases h; subst e1 e2; exact k e3 e4
theorem many3 {a b c : Str} {pa pb pc : Pos} {p1 p2 p3 : PV} {vars : Vars} {P : Prop} (h : assignMany F [.Name a pa, .Name b pb, .Name c pc] [p1, p2, p3] ρ σ = some (.ok vars σ')) (k : vars = upd c p3 (upd b p2 (upd a p1 ρ.vars)) → σ = σ' → P) : P :=
  assignMany_inv h fun V σ₁ h1 h => one1 h1 fun e1 e2 => by
    subst e1 e2; exact many2 h k

theorem assignStmt_ok (S : Sound C n F) (aok : AOk A n frs) (r : Rel C frs μ σ s.heap) (e : EnvRel C s.heap μ env ρ) {t value : Expr} {pos : Pos} {p : PV} {σ₁ : St} {vars : Vars} {Q : Flow → Shared → Prop} (hct : constTuple t value = false)
    (h1 : F.e value ρ σ = some (.ok p σ₁)) (h2 : assignTo F t ρ p σ₁ = some (.ok vars σ')) (h : OkA C frs s μ env ρ vars σ' (fun _ s' => Q .next s')) : wpAny (MM C) A (exec (.Assign [t] value pos) env) Q E s := by
  rw [arm_exec_Assign]
  refine wpAny_bind (wpAny_standAt ?_)
  have hl : ∀ ts p, t ≠ .List ts p := fun ts p q => by subst q; cases h2
  have hE : assignEach [t] env = [(false, assign t env)] := assignTo_shape h2
  obtain ⟨b, hb, hb2⟩ := swaps_pure (env := env) (value := value) (t := t) (line := pos.line) fun q => no_none ((S.noset q).symm.trans h1)
  have hb' : swapsWithSole [t] value pos.line env = pure b := hb
  rw [hb', hE]
  refine wpAny_bind (wpAny_pure ?_)
  cases b with
  | true =>
    obtain ⟨elt, gens, sc, lpos, x, px, rfl, rfl⟩ := hb2 rfl
    · simp only [if_true]
      refine wpAny_bind ?_
      rw [arm_evalThenUse_ListComp]
      refine wpAny_bind (wpAny_mono (S.u (use := some fun v => assignAll v [assign (.Name x px) env]) (Q := fun _ s' => Q .next s') aok r e h1 fun D L h' t' μ' r' x' hv hL hns => ?_) (fun _ s' hq => wpAny_pure (wpAny_pure hq)) fun _ _ z => z)
      obtain ⟨m, hm⟩ := hns
      have e' := e.ext0 r x'
      show wpAny (MM C) A (assign (.Name x px) env (.ref D)) _ E _
      refine assign1_ok S (s := { s with heap := h', toks := t' }) aok r' e' h2 hv fun h₂ t₂ μ₂ r₂ x₂ e₂ => ?_
      have hLw : L ∉ wr env ρ := fun q => by
        obtain ⟨o, ho⟩ := e.wr_alive L q
        rw [hL] at ho; cases ho
      have hm₂ := x₂.ns r' hm hLw
      refine ⟨m, hm₂, fun h'' hs => ?_⟩
      have kb := keepBut_of_sameBut hs
      have lo : Loose C frs μ₂ [L] h₂ := dict_loose r hL hm₂ r₂.lists
      have one : ∀ b ∈ ([L] : List Addr), s.heap.get? b = none := fun b hb => by simp at hb; rw [hb]; exact hL
      refine h h'' t₂ μ₂ (r₂.loose lo kb) ((x'.wide.trans x₂).but one kb) (e₂.loose lo kb (fun q => hLw (by simp at q; rw [← q]; exact List.mem_cons_self)) fun y c hk hc q => ?_)
      obtain ⟨c', v', h5, ⟨oc, h6, h7⟩, _⟩ := e.cell y hk
      rw [hc] at h5; cases h5
      simp at q
      rw [q, hL] at h6; cases h6
  | false =>
    simp only [Bool.false_eq_true, if_false]
    refine wpAny_bind (S.v aok r e h1 fun v h' t' μ' r' x' hv => ?_)
    have e' := e.ext0 r x'
    have hstep : OkA C frs { s with heap := h', toks := t' } μ' env ρ vars σ' (fun _ s' => Q .next s') := fun h'' t'' μ'' r'' x'' e'' => h h'' t'' μ'' r'' (x'.wide.trans x'') e''
    rcases swap_cases (env := env) hct hl with h3 | ⟨k, tp, a, pa, b, pb, rfl, hab, ka, kb, h3⟩ | ⟨k, tp, a, pa, b, pb, c, pc, rfl, hab, hac, hbc, ka, kb, kc, h3⟩
    · rw [h3]
      refine wpAny_bind (wpAny_pure ?_)
      show wpAny (MM C) A (do assignAll v [assign t env]; pure .next) Q E _
      exact wpAny_bind (wpAny_mono (assignTo_ok S (s := { s with heap := h', toks := t' }) aok r' e' h2 hv hstep) (fun _ s' hq => wpAny_pure hq) fun _ _ z => z)
    · rw [h3]
      refine wpAny_bind (wpAny_pure ?_)
      cases p
      case tup ps =>
        refine hv.tup_elim fun ad vs ht hlv => ?_
        have h2 : assignMany F [.Name a pa, .Name b pb] ps ρ σ₁ = some (.ok vars σ') := h2
        obtain ⟨l1, _, _⟩ := assignMany_shape (env := env) h2
        obtain ⟨p1, p2, rfl⟩ := len2 l1.symm
        refine many2 h2 fun hvars hσ => ?_
        subst hvars
        subst hσ
        obtain ⟨w1, r1, ev1, hw1, hlv⟩ := hlv
        obtain ⟨w2, rfl, hw2⟩ := VRs.one_ex hlv
        have hsz : vs.size = 2 := by rw [← Array.length_toList, ev1]; rfl
        show wpAny (MM C) A (do rule _; let items ← unpackItems (.ref ad) 2 none; assignInOrder ([bindName env b, bindName env a]) items.reverse; pure .next) Q E _
        refine wpAny_bind (wpAny_rule (wpAny_bind ?_))
        rw [← hsz]
        refine wpAny_unpackItems_tuple (s := { s with heap := h', toks := t' }) aok.handled ht fun h₂ hk₂ => ?_
        rw [ev1]
        have kp : ∀ bb o, h'.get? bb = some o → h₂.get? bb = some o := fun bb o e' => hk₂ bb o (Nat.ne_of_lt (Heap.lt_size e')) e'
        have x₂ : Ext C [] h' μ' h₂ μ' := Ext.of_keeps kp
        have r₂ := r'.keeps kp
        have e₂ := e'.ext0 r' x₂
        have hw1' := hw1.ext r' x₂ WOk.nil
        have hw2' := hw2.ext r' x₂ WOk.nil
        show wpAny (MM C) A (do (do holding [w1] (bindName env b w2); (do holding [] (bindName env a w1); pure ())); pure .next) Q E _
        refine wpAny_bind (wpAny_bind (wpAny_holding (bind_ok' (s := { s with heap := h₂, toks := t' }) r₂ e₂ kb hw2' fun h₃ t₃ μ₃ r₃ x₃ e₃ => ?_)))
        refine wpAny_bind (wpAny_holding (bind_ok' (s := { s with heap := h₃, toks := t₃ }) r₃ e₃ ka (hw1'.ext r₂ x₃ e₂.wok) fun h₄ t₄ μ₄ r₄ x₄ e₄ => wpAny_pure (wpAny_pure ?_)))
        refine hstep h₄ t₄ μ₄ r₄ (x₂.wide.trans (x₃.trans x₄)) (e₄.vars fun y => ?_)
        show (upd b p2 (upd a p1 ρ.vars)).lookup y = (upd a p1 (upd b p2 ρ.vars)).lookup y
        simp only [lookup_upd]
        by_cases q1 : y = a <;> by_cases q2 : y = b
        · exact absurd (q1.symm.trans q2) hab
        · simp [q1, hab]
        · simp [q2, Ne.symm hab]
        · simp [q1, q2]
      all_goals exact no_none h2
    · rw [h3]
      refine wpAny_bind (wpAny_pure ?_)
      cases p
      case tup ps =>
        refine hv.tup_elim fun ad vs ht hlv => ?_
        have h2 : assignMany F [.Name a pa, .Name b pb, .Name c pc] ps ρ σ₁ = some (.ok vars σ') := h2
        obtain ⟨l1, _, _⟩ := assignMany_shape (env := env) h2
        obtain ⟨p1, p2, p3, rfl⟩ := len3 l1.symm
        refine many3 h2 fun hvars hσ => ?_
        subst hvars
        subst hσ
        obtain ⟨w1, r1, ev1, hw1, w2, r2, ev2, hw2, hlv⟩ := hlv
        obtain ⟨w3, rfl, hw3⟩ := VRs.one_ex hlv
        subst ev2
        have hsz : vs.size = 3 := by rw [← Array.length_toList, ev1]; rfl
        show wpAny (MM C) A (do rule _; let items ← unpackItems (.ref ad) 3 none; assignInOrder ([bindName env c, bindName env b, bindName env a]) items.reverse; pure .next) Q E _
        refine wpAny_bind (wpAny_rule (wpAny_bind ?_))
        rw [← hsz]
        refine wpAny_unpackItems_tuple (s := { s with heap := h', toks := t' }) aok.handled ht fun h₂ hk₂ => ?_
        rw [ev1]
        have kp : ∀ bb o, h'.get? bb = some o → h₂.get? bb = some o := fun bb o e' => hk₂ bb o (Nat.ne_of_lt (Heap.lt_size e')) e'
        have x₂ : Ext C [] h' μ' h₂ μ' := Ext.of_keeps kp
        have r₂ := r'.keeps kp
        have e₂ := e'.ext0 r' x₂
        have hw1' := hw1.ext r' x₂ WOk.nil
        have hw2' := hw2.ext r' x₂ WOk.nil
        have hw3' := hw3.ext r' x₂ WOk.nil
        show wpAny (MM C) A (do (do holding [w2, w1] (bindName env c w3); (do holding [w1] (bindName env b w2); (do holding [] (bindName env a w1); pure ()))); pure .next) Q E _
        refine wpAny_bind (wpAny_bind (wpAny_holding (bind_ok' (s := { s with heap := h₂, toks := t' }) r₂ e₂ kc hw3' fun h₃ t₃ μ₃ r₃ x₃ e₃ => ?_)))
        refine wpAny_bind (wpAny_holding (bind_ok' (s := { s with heap := h₃, toks := t₃ }) r₃ e₃ kb (hw2'.ext r₂ x₃ e₂.wok) fun h₄ t₄ μ₄ r₄ x₄ e₄ => ?_))
        refine wpAny_bind (wpAny_holding (bind_ok' (s := { s with heap := h₄, toks := t₄ }) r₄ e₄ ka ((hw1'.ext r₂ x₃ e₂.wok).ext r₃ x₄ e₃.wok) fun h₅ t₅ μ₅ r₅ x₅ e₅ => wpAny_pure (wpAny_pure ?_)))
        refine hstep h₅ t₅ μ₅ r₅ (x₂.wide.trans (x₃.trans (x₄.trans x₅))) (e₅.vars fun y => ?_)
        show (upd c p3 (upd b p2 (upd a p1 ρ.vars))).lookup y = (upd a p1 (upd b p2 (upd c p3 ρ.vars))).lookup y
        simp only [lookup_upd]
        by_cases q1 : y = a
        · subst q1; simp [hab, hac]
        · by_cases q2 : y = b
          · subst q2; simp [q1, hbc]
          · simp [q1, q2]
      all_goals exact no_none h2
end
end Mine
end
section
open PySem PySem.W PyProof.Rows PySem.Calls
namespace Mine

section
variable {C : Cx} {A : Around} {E : Value → Shared → Prop} {s : Shared} {frs : List Env} {μ : List Addr} {σ σ' : St} {n : Nat} {env : Env} {ρ : PE} {F : Evs}

theorem PostS.step {o : Out (Fl × Vars)} {Q : Flow → Shared → Prop} {vars : Vars} (h : PostS C frs s μ env ρ o Q E) {h₁ : Heap} {t₁ : Tok} {μ₁ : List Addr} (x : Ext C (wr env ρ) s.heap μ h₁ μ₁) :
    PostS C frs { s with heap := h₁, toks := t₁ } μ₁ env { ρ with vars := vars } o Q E := by
  cases o with
  | ok fv σ₂ =>
    obtain ⟨fl, vars₂⟩ := fv
    exact fun f h' t' μ' r' x' e' hf => h f h' t' μ' r' (x.trans x') e' hf
  | exc k σ₂ => exact fun e' h'' t'' μ'' fl => h e' h'' t'' μ'' (fl.back x)

set_option backward.match.sparseCases false in
theorem exprStmt_ok (S : Sound C n F) (aok : AOk A n frs) (r : Rel C frs μ σ s.heap) (e : EnvRel C s.heap μ env ρ) {x : Expr} {pos : Pos} {o : Out (Fl × Vars)} {Q : Flow → Shared → Prop} (hx : evS F (.Expr x pos) ρ σ = some o)
    (h : PostS C frs s μ env ρ o Q E) : wpAny (MM C) A (exec (.Expr x pos) env) Q E s := by
  have hx : ((F.e x ρ σ).bindX fun v σ₁ => match v with
    | .none => ok (Fl.next, ρ.vars) σ₁
    | _ => none) = some o := hx
  rw [arm_exec_Expr]
  refine wpAny_bind (wpAny_standAt ?_)
  have hi : interactive env = false := by unfold interactive; rw [e.kind]; rfl
  rw [hi]
  simp only [Bool.false_eq_true, if_false]
  have hsw : swapsWith x none pos.line env = pure false := by
    cases x
    case ListComp =>
      refine bdX hx (fun v σ₁ h1 h2 => ?_) (fun k σ₁ h1 _ => ?_)
      · obtain ⟨i, σ₂, h3⟩ := S.nolist h1
        cases h3
        exact no_none h2
      · obtain ⟨i, σ₂, h3⟩ := S.nolist h1
        cases h3
    case SetComp => rw [S.noset trivial] at hx; exact no_none hx
    case DictComp => rw [S.noset trivial] at hx; exact no_none hx
    all_goals rfl
  rw [hsw]
  refine wpAny_bind (wpAny_pure ?_)
  simp only [Bool.false_eq_true, if_false]
  refine bdX hx (fun v σ₁ h1 h2 => ?_) (fun k σ₁ h1 q => ?_)
  · cases v
    case none =>
      cases h2
      refine wpAny_bind (S.v aok r e h1 fun v h' t' μ' r' x' hv => ?_)
      cases hv
      have hd : dropValue x pos .none = pure .next := by cases x <;> rfl
      rw [hd]
      exact wpAny_pure (h .next h' t' μ' r' x'.wide ((e.ext0 r x').vars fun _ => rfl) .next)
    all_goals exact no_none h2
  · subst q
    refine wpAny_bind (S.e aok r e h1 fun e' h' t' μ' fl => h e' h' t' μ' (fl.mono fun _ q => nomatch q))

theorem while_no {test : Expr} {body : List Stmt} {k : Str} {σ₁ : St} : ∀ (m : Nat) (ρ : PE) (σ : St), whileLoop F test body m ρ σ ≠ some (.exc k σ₁)
  | 0, _, _ => fun q => nomatch q
  | m + 1, ρ, σ => fun q => bnd (x := F.t test ρ σ) q fun b σ₂ _ q => by
    cases b with
    | false => exact nomatch q
    | true =>
      refine bnd (x := F.s body ρ σ₂) q fun fv σ₃ _ q => ?_
      obtain ⟨f, V⟩ := fv
      cases f with
      | ret => exact nomatch q
      | next => exact while_no m _ _ q
      | cont => exact while_no m _ _ q
theorem for_no {target : Expr} {body : List Stmt} {it : It} {k : Str} {σ₁ : St} : ∀ (m k' : Nat) (ρ : PE) (σ : St), forLoop F target body it m k' ρ σ ≠ some (.exc k σ₁)
  | 0, _, _, _ => fun q => nomatch q
  | m + 1, k', ρ, σ => fun q => by
    cases e : nextAt σ it k' with
    | none => exact nomatch for_none q e
    | some v =>
      refine for_some q e fun vars f V σ₃ _ _ q => ?_
      cases f with
      | ret => exact nomatch q
      | next => exact for_no m _ _ _ q
      | cont => exact for_no m _ _ _ q

theorem evS_ok (ok : C.Ok) (S : Sound C n F) (aok : AOk A n frs) (r : Rel C frs μ σ s.heap) (e : EnvRel C s.heap μ env ρ) {x : Stmt} {o : Out (Fl × Vars)} {Q : Flow → Shared → Prop} (hx : evS F x ρ σ = some o)
    (hraise : ∀ {e c pos}, x = .Raise e c pos → wpAny (MM C) A (exec x env) Q E s) (h : PostS C frs s μ env ρ o Q E) : wpAny (MM C) A (exec x env) Q E s := by
  cases x
  case Expr y pos => exact exprStmt_ok S aok r e hx h
  case Assign ts value pos =>
    cases ts with
    | nil => exact no_none hx
    | cons t r => cases r with
      | cons => exact no_none hx
      | nil =>
        refine ite2 (c := constTuple t value = true) hx fun hct hx => bnd (x := F.e value ρ σ) hx fun v σ₁ h1 hx => bnd (x := assignTo F t ρ v σ₁) hx fun vars σ₂ h2 hx => ?_
        cases hx
        exact assignStmt_ok S aok r e (by simpa using hct) h1 h2 fun h' t' μ' r' x' e' => h .next h' t' μ' r' x' e' .next
  case Return v pos =>
    cases v with
    | none => exact no_none hx
    | some y =>
      refine bnd (x := F.e y ρ σ) hx fun v σ₁ h1 hx => ?_
      cases hx
      exact wpAny_Return_some (S.v aok r e h1 fun v h' t' μ' r' x' hv => h (.ret v) h' t' μ' r' x'.wide ((e.ext0 r x').vars fun _ => rfl) (.ret hv))
  case If test body orelse pos =>
    refine bnd (x := F.t test ρ σ) hx fun b σ₁ h1 hx => wpAny_If (S.t aok r e h1 fun h' t' μ' r' x' => ?_)
    cases b with
    | true => exact S.s (s := { s with heap := h', toks := t' }) aok r' (e.ext0 r x') hx (h.step x'.wide)
    | false => exact S.s (s := { s with heap := h', toks := t' }) aok r' (e.ext0 r x') hx (h.step x'.wide)
  case While test body orelse pos =>
    cases orelse with
    | cons => exact no_none hx
    | nil =>
      cases o with
      | ok fv σ₁ =>
        obtain ⟨fl, vars'⟩ := fv
        exact wpAny_While (whileLoop_ok S aok (s₀ := s) (μ₀ := μ) (fun f h' t' μ' r' x' e' hf => h f h' t' μ' r' x' e' hf) cap ρ.vars s μ σ ⟨⟨s.heap, s.toks, rfl⟩, r, e, Ext.refl⟩ hx)
      | exc k σ₁ => exact absurd hx (while_no _ _ _)
  case For target iter body orelse pos =>
    cases orelse with
    | cons => exact no_none hx
    | nil =>
      refine bnd (x := iterOf F iter ρ σ) hx fun it σ₁ h1 hx => ite1 (c := fits it target = true) hx fun hfit hx => ?_
      cases o with
      | ok fv σ₂ =>
        obtain ⟨fl, vars'⟩ := fv
        have run := fun (Q' : Value → Shared → Prop) => iter_ok (E := E) (Q := Q') ok S aok r e h1
        have fold : ∀ v, foldedSetIterable iter env v = pure v := (run (fun _ _ => True) (fun _ _ _ _ _ _ _ _ _ => trivial)).2
        refine wpAny_For (run _ ?_).1 fold
        intro iv W h' t' μ' r' x' z hW
        exact forLoop_ok S aok (s₀ := s) (μ₀ := μ) hfit hW (fun f h' t' μ' r' x' e' hf => h f h' t' μ' r' x' e' hf) cap 0 ρ.vars { s with heap := h', toks := t' } μ' σ₁ ⟨⟨h', t', rfl⟩, r', e.ext0 r x', x'.wide⟩ z hx
      | exc k σ₂ => exact absurd hx (for_no _ _ _ _)
  case Continue pos =>
    cases hx
    rw [arm_exec_Continue]
    exact wpAny_bind (wpAny_standAt (wpAny_pure (h .cont s.heap s.toks μ r Ext.refl (e.vars fun _ => rfl) .cont)))
  case Raise => exact hraise rfl
  all_goals exact no_none hx

theorem evSs_ok (hS : ∀ {s : Shared} {μ : List Addr} {σ : St} {ρ : PE} {x : Stmt} {o : Out (Fl × Vars)} {Q : Flow → Shared → Prop}, Rel C frs μ σ s.heap → EnvRel C s.heap μ env ρ → evS F x ρ σ = some o → PostS C frs s μ env ρ o Q E →
      wpAny (MM C) A (exec x env) Q E s) :
    ∀ {xs : List Stmt} {s : Shared} {μ : List Addr} {σ : St} {ρ : PE} {o : Out (Fl × Vars)} {Q : Flow → Shared → Prop}, Rel C frs μ σ s.heap → EnvRel C s.heap μ env ρ → evSs F xs ρ σ = some o → PostS C frs s μ env ρ o Q E →
      wpAny (MM C) A (execs xs env) Q E s
  | [], s, μ, σ, ρ, o, Q, r, e, hx, h => by
    cases hx
    exact execs_nil_ok (h .next s.heap s.toks μ r Ext.refl (e.vars fun _ => rfl) .next)
  | x :: xs, s, μ, σ, ρ, o, Q, r, e, hx, h => by
    refine wpAny_execs_cons (bdX (x := evS F x ρ σ) hx (fun fv σ₁ h1 h2 => ?_) (fun k σ₁ h1 q => ?_))
    · obtain ⟨fl, vars⟩ := fv
      refine hS r e h1 fun f h' t' μ' r' x' e' hf => ?_
      cases hf with
      | next => exact evSs_ok hS (s := { s with heap := h', toks := t' }) r' e' h2 (h.step x')
      | cont =>
        cases h2
        exact h .cont h' t' μ' r' x' e' .cont
      | ret hv =>
        cases h2
        exact h _ h' t' μ' r' x' e' (.ret hv)
    · subst q
      exact hS r e h1 h
end
end Mine
end
section
open PySem PySem.W PyProof.Rows PySem.Calls
namespace Mine

theorem dict_mapFields (o : Obj) (f : Array Value → Array Value) : (o.mapFields f).dict = o.dict := by
  obtain ⟨c, d, dt, sl⟩ := o
  cases dt <;> rfl

noncomputable def Rec (B : Heap) (e : Addr) (oe : Obj) (fl : Value) (h' : Heap) : Prop :=
  ∃ oe' vs' T oT ts, h'.get? e = some oe' ∧ oe'.cls = oe.cls ∧ oe'.dict = oe.dict ∧ oe'.data = .fields vs' ∧ 1 < vs'.size ∧ vs'[1]? = some (.ref T) ∧ B.get? T = none ∧ T ≠ e ∧ h'.get? T = some oT ∧ oT.data = .fields ts ∧ ts[3]? = some fl

section
variable {M : Model} {A : Around} {E : Value → Shared → Prop} {s : Shared}

theorem entry_own {B : Heap} {env : Env} {outer : List Env} {L e : Addr} {oe : Obj} {vs : Array Value} {head : Value} {hadNext : Bool} {Q : Unit → Shared → Prop}
    (hfr : A.frames = some (env :: outer)) (hl : s.heap.FunFrames B (env :: outer)) (hf : env.frame = some L)
    (he : s.heap.get? e = some oe) (hkb : B.StaysIn s.heap) (hen : B.get? e = none) (hd : oe.data = .fields vs) (hsz : 1 < vs.size)
    (h : ∀ h', B.StaysIn h' → h'.FunFrames B (env :: outer) → Rec B e oe (rawInt L) h' → s.heap.UpToSlots h' → Q () { s with heap := h' }) :
    wpAny M A (do let a ← frameOf env; let pl ← entryPlaceOf L hadNext; let b ← EntryCells.newEntry head a .none (rawInt L) .none pl; setField (.ref e) 1 b) Q E s := by
  have hene : e ∉ (env :: outer).filterMap (·.frame) := fun hm => by
    obtain ⟨_, o, ho, hnf⟩ := hl.mem hm
    rw [he] at ho; injection ho with ho; subst ho; exact hnf vs hd
  refine wpAny_bind (wpAny_frameOf_fun hfr hl hf fun h₁ hs₁ => ?_)
  refine wpAny_bind (wpAny_entryPlaceOf fun pl hpl => ?_)
  unfold EntryCells.newEntry newFields
  refine wpAny_bind (wpAny_newObj_type ?_ (hpl.sizeOk5 _ _ _ _ _))
  have he₁ : h₁.get? e = some oe := (hs₁.2.1 e hene).trans he
  have kb₁ : B.StaysIn h₁ := fun b o hbo => (hs₁.2.1 b fun hm => by rw [(hl.mem hm).1] at hbo; cases hbo).trans (hkb b o hbo)
  generalize hT : ({ cls := .type "traceback", dict := none, data := .fields ([head, .ref L, .none, rawInt L, .none] ++ (if pl.isEmpty then List.replicate 6 Value.none else pl)).toArray } : Obj) = oT
  have hTd : oT.data = .fields ([head, .ref L, .none, rawInt L, .none] ++ (if pl.isEmpty then List.replicate 6 Value.none else pl)).toArray := by rw [← hT]
  have hTf : oT.isFreed = false := by rw [← hT]; rfl
  have he₂ := Heap.get?_push_of_some (h := h₁) oT he₁
  refine wpAny_setField he₂ hd hsz ?_
  have hTe : h₁.objs.size ≠ e := Nat.ne_of_gt (Heap.lt_size he₁)
  have hd₃ := Obj.data_mapFields hd (·.setIfInBounds 1 (Value.ref h₁.objs.size))
  have he₃ := Heap.get?_update_self (Obj.mapFields (·.setIfInBounds 1 (Value.ref h₁.objs.size))) he₂ (Obj.isFreed_of_fields hd₃)
  have hT₃ := (Heap.get?_update_other (h₁.push oT) (Obj.mapFields (·.setIfInBounds 1 (Value.ref h₁.objs.size))) (Ne.symm hTe)).trans (Heap.get?_push_size h₁ hTf)
  have keep : ∀ b o, b ≠ e → h₁.get? b = some o → ((h₁.push oT).update e (Obj.mapFields (·.setIfInBounds 1 (Value.ref h₁.objs.size)))).get? b = some o := fun b o hbe hb => by
    rw [Heap.get?_update_other _ _ (Ne.symm hbe)]
    exact Heap.get?_push_of_some _ hb
  have noRecord : ∀ b o, s.heap.get? b = some o → (∀ vs, o.data ≠ .fields vs) → b ≠ e := fun b o hb hnf q => by
    rw [q, he] at hb; injection hb with hb; subst hb; exact hnf vs hd
  refine h _ (fun b o hbo => keep b o (fun q => by rw [q, hen] at hbo; cases hbo) (kb₁ b o hbo)) (hl.of_keeps fun b o hb hnf => ?_) ⟨_, _, h₁.objs.size, _, _, he₃, Obj.cls_mapFields _ _, dict_mapFields _ _, hd₃, by simp [hsz], by simp [hsz], kb₁.fresh, hTe, hT₃, hTd, ?_⟩ fun b o hb hnf => ?_
  · obtain ⟨sl, hs⟩ := hs₁.2.2 b o hb
    exact ⟨_, keep b _ (noRecord b o hb hnf) hs, rfl⟩
  · simp
  · obtain ⟨sl, hs⟩ := hs₁.2.2 b o hb
    exact ⟨sl, keep b _ (noRecord b o hb hnf) hs⟩

theorem flight_own {B : Heap} {l : List Env} {e : Addr} {oe : Obj} {fl : Value} {to : Option Addr} {Q : Unit → Shared → Prop} (hkb : B.StaysIn s.heap) (hl : s.heap.FunFrames B l) (hen : B.get? e = none) (ht : Rec B e oe fl s.heap)
    (h : ∀ h', B.StaysIn h' → h'.FunFrames B l → Rec B e oe (to.elim .none fun f => rawInt f) h' → s.heap.UpToSlots h' → Q () { s with heap := h' }) : wpAny M A (setFlight (.ref e) to) Q E s := by
  obtain ⟨oe', vs, T, oT, ts, he, hc, hdd, hd, hsz, h1, hnT, hTe, hT, hdT, h3⟩ := ht
  have hsz3 : 3 < ts.size := (Array.getElem?_eq_some_iff.mp h3).1
  have other : ∀ b, b ≠ T → (s.heap.update T (Obj.mapFields (·.setIfInBounds 3 (to.elim Value.none fun f => rawInt f)))).get? b = s.heap.get? b :=
    fun b hb => Heap.get?_update_other _ _ (Ne.symm hb)
  have noRecord : ∀ b o, s.heap.get? b = some o → (∀ vs, o.data ≠ .fields vs) → b ≠ T := fun b o hb hnf q => by
    rw [q, hT] at hb; injection hb with hb; subst hb; exact hnf ts hdT
  unfold setFlight
  refine wpAny_bind (wpAny_field he hd h1 ?_)
  rw [if_pos (show (Value.ref T != Value.none) = true from by simp)]
  refine wpAny_setField hT hdT hsz3 (h _ (fun b o hbo => (other b fun q => by rw [q, hnT] at hbo; cases hbo).trans (hkb b o hbo))
    (hl.of_keeps fun b o hb hnf => ⟨o, (other b (noRecord b o hb hnf)).trans hb, rfl⟩) ?_ fun b o hb hnf => ⟨o.slots, (other b (noRecord b o hb hnf)).trans hb⟩)
  exact ⟨oe', vs, T, _, _, (other e (Ne.symm hTe)).trans he, hc, hdd, hd, hsz, h1, hnT, hTe, Heap.get?_update_self _ hT (Obj.isFreed_of_fields (Obj.data_mapFields hdT _)), Obj.data_mapFields hdT _, by simp [hsz3]⟩

noncomputable def Rec0 (B : Heap) (e : Addr) (oe : Obj) (h : Heap) : Prop :=
  (∃ vs, h.get? e = some oe ∧ oe.data = .fields vs ∧ 1 < vs.size ∧ vs[1]? = some .none) ∨ Rec B e oe .none h

theorem note_own {B : Heap} {env : Env} {outer : List Env} {L e : Addr} {oe : Obj} {Q : Unit → Shared → Prop}
    (hfr : A.frames = some (env :: outer)) (hl : s.heap.FunFrames B (env :: outer)) (hf : env.frame = some L) (hkb : B.StaysIn s.heap) (hen : B.get? e = none) (ht : Rec0 B e oe s.heap)
    (h : ∀ h', B.StaysIn h' → h'.FunFrames B (env :: outer) → Rec B e oe (rawInt L) h' → s.heap.UpToSlots h' → Q () { s with heap := h' }) : wpAny M A (noteFrame (.ref e) env) Q E s := by
  rcases ht with ⟨vs, he, hd, hsz, h1⟩ | ⟨oe', vs, T, oT, ts, he, hc, hdd, hd, hsz, h1, hnT, hTe, hT, hdT, h3⟩
  · unfold noteFrame
    simp only [hf]
    refine wpAny_bind (wpAny_field he hd h1 ?_)
    rw [if_neg (by decide)]
    exact entry_own hfr hl hf he hkb hen hd hsz h
  · unfold noteFrame
    simp only [hf]
    refine wpAny_bind (wpAny_field he hd h1 ?_)
    rw [if_pos (show (Value.ref T != Value.none) = true from by simp)]
    refine wpAny_bind (wpAny_field hT hdT h3 ?_)
    rw [if_neg (show ¬ ((Value.none == rawInt L) = true) from by simp [rawInt])]
    refine wpAny_bind (wpAny_setField hT hdT (Array.getElem?_eq_some_iff.mp h3).1 ?_)
    have other : ∀ b, b ≠ T → (s.heap.update T (Obj.mapFields (·.setIfInBounds 3 Value.none))).get? b = s.heap.get? b := fun b hb => Heap.get?_update_other _ _ (Ne.symm hb)
    have noRecord : ∀ b o, s.heap.get? b = some o → (∀ vs, o.data ≠ .fields vs) → b ≠ T := fun b o hb hnf q => by
      rw [q, hT] at hb; injection hb with hb; subst hb; exact hnf ts hdT
    refine entry_own hfr (hl.of_keeps fun b o hb hnf => ⟨o, (other b (noRecord b o hb hnf)).trans hb, rfl⟩) hf ((other e (Ne.symm hTe)).trans he)
      (fun b o hbo => (other b fun q => by rw [q, hnT] at hbo; cases hbo).trans (hkb b o hbo)) hen hd hsz fun h' x1 x2 x3 x4 => ?_
    refine h h' x1 x2 ?_ fun b o hb hnf => x4 b o ((other b (noRecord b o hb hnf)).trans hb) hnf
    obtain ⟨oe₂, vs₂, T₂, oT₂, ts₂, y1, y2, y3, y4⟩ := x3
    exact ⟨oe₂, vs₂, T₂, oT₂, ts₂, y1, y2.trans hc, y3.trans hdd, y4⟩
end

theorem Rec.zero {B : Heap} {e : Addr} {oe : Obj} {h : Heap} (x : Rec B e oe .none h) : Rec0 B e oe h := .inr x

theorem Thrown.record {C B frs e k h} (x : Thrown C B frs e k h) : ∃ oe d m t, Rec0 B e oe h ∧ C.mg "CasFail" = some oe.cls ∧ oe.dict = some d ∧ h.Ns d m ∧ m "kind" = some (.str k t) ∧ d ∉ framesOf frs := by
  obtain ⟨oe, vs, d, m, t, h1, h2, h3, h4, h5, h6, hdf, h7, h8⟩ := x.obj
  refine ⟨oe, d, m, t, ?_, h2, h4, h5, h6, hdf⟩
  rcases h8 with h8 | ⟨T, oT, ts, a1, a2, a3, a4, a5, a6⟩
  · exact .inl ⟨vs, h1, h3, h7, h8⟩
  · exact .inr ⟨oe, vs, T, oT, ts, h1, rfl, rfl, h3, h7, a1, a2, a3, a4, a5, a6⟩

theorem Thrown.of_rec {C : Cx} {B : Heap} {frs : List Env} {e : Addr} {k : Str} {h : Heap} {oe : Obj} {d : Addr} {m : Str → Option Value} {t : Tok} (hs : B.StaysIn h) (hn : B.get? e = none) (hf : h.FunFrames B frs) (hr : Rec B e oe .none h) (hc : C.mg "CasFail" = some oe.cls) (hd : oe.dict = some d)
    (hN : h.Ns d m) (hk : m "kind" = some (.str k t)) (hdf : d ∉ framesOf frs) : Thrown C B frs e k h := by
  obtain ⟨oe', vs, T, oT, ts, he, hcc, hdd, hdt, hsz, h1, hnT, hTe, hT, hdT, h3⟩ := hr
  exact ⟨hs, hn, hf, oe', vs, d, m, t, he, hc.trans (by rw [hcc]), hdt, hdd.trans hd, hN, hk, hdf, hsz, .inr ⟨T, oT, ts, h1, hnT, hTe, hT, hdT, h3⟩⟩

theorem Flew.move {C W frs frs' h₀ μ k σ' e μ' h' h''} (x : Flew C W frs h₀ μ k σ' e μ' h') {B : Heap} (rB : Rel C [] μ' σ' B) (al : ∀ b o, h₀.get? b = some o → (∃ o', B.get? b = some o') ∨ b ∈ framesOf frs) (s1 : B.StaysIn h') (s2 : B.StaysIn h'') (up : h'.UpToSlots h'') (hff : h'.FunFrames B frs)
    (hsub : ∀ fe ∈ frs', fe ∈ frs) : Rel C frs' μ' σ' h'' ∧ Ext C W h₀ μ h'' μ' := by
  have fdict : ∀ b ∈ framesOf frs, ∃ o es n, h'.get? b = some o ∧ o.data = .dict es n := fun b hb => by
    obtain ⟨fe, hfe, hbf⟩ := List.mem_filterMap.mp hb
    obtain ⟨_, L, m, h1, _, ⟨o, es, ep, e1, hd, _⟩⟩ := x.rel.frames fe hfe
    rw [h1] at hbf; cases hbf
    exact ⟨o, es, ep, e1, hd⟩
  refine ⟨⟨fun b o q => s2 b o (rB.base b o q), rB.len, rB.nodup, rB.fresh, (rB.keeps s2).items, (rB.keeps s2).tabs, fun fe hfe => ?_⟩, ⟨x.ext.pre, x.ext.new, fun b o e hb => ?_, fun b o e => ?_⟩⟩
  · obtain ⟨h1, L, m, h2, h3, h4⟩ := x.rel.frames fe (hsub fe hfe)
    exact ⟨h1, L, m, h2, h3, up.ns h4⟩
  · rcases al b o e with ⟨o', ho'⟩ | hf
    · have q1 := s1 b o' ho'
      have q2 := s2 b o' ho'
      rcases x.ext.keep b o e hb with h1 | ⟨h1, sl, h2⟩
      · rw [q1] at h1; cases h1; exact .inl q2
      · rw [q1] at h2; cases h2; exact .inr ⟨h1, sl, q2⟩
    · obtain ⟨of, es, nn, q1, q2⟩ := fdict b hf
      obtain ⟨sl, q3⟩ := up b of q1 (fun vs q => by rw [q2] at q; cases q)
      rcases x.ext.keep b o e hb with h1 | ⟨h1, sl1, h2⟩
      · rw [q1] at h1; cases h1; exact .inr ⟨⟨es, nn, q2⟩, sl, q3⟩
      · rw [q1] at h2; cases h2; exact .inr ⟨h1, sl, q3⟩
  · rcases al b o e with ⟨o', ho'⟩ | hf
    · exact ⟨o', s2 b o' ho'⟩
    · obtain ⟨of, es, nn, q1, q2⟩ := fdict b hf
      obtain ⟨sl, q3⟩ := up b of q1 (fun vs q => by rw [q2] at q; cases q)
      exact ⟨_, q3⟩

theorem framesOf_tail {env : Env} {frs : List Env} {d : Addr} (q : d ∈ framesOf frs) : d ∈ framesOf (env :: frs) := by
  obtain ⟨fe, hfe, hbf⟩ := List.mem_filterMap.mp q
  exact List.mem_filterMap.mpr ⟨fe, List.mem_cons_of_mem _ hfe, hbf⟩

theorem leaving_ok {C : Cx} {M : Model} {A : Around} {E : Value → Shared → Prop} {s : Shared} {W : List Addr} {env : Env} {frs : List Env} {h₀ : Heap} {μ μ' : List Addr} {k : Str} {σ' : St} {e L : Addr} {Q : Unit → Shared → Prop} (hfr : A.frames = some (env :: frs)) (hf : env.frame = some L)
    (x : Flew C W (env :: frs) h₀ μ k σ' e μ' s.heap) (hL0 : h₀.get? L = none) (hQ : ∀ h', Flew C W frs h₀ μ k σ' e μ' h' → Q () { s with heap := h' }) : wpAny M A (leaving env (.ref e)) Q E s := by
  obtain ⟨B, rB, al, th⟩ := x.body
  obtain ⟨oe, d, m, t, hr, hc, hd, hN, hk, hdf⟩ := th.record
  unfold leaving
  refine wpAny_bind (note_own hfr th.frames hf th.stays th.new hr fun h₁ a1 a2 a3 a4 => ?_)
  refine flight_own (s := { s with heap := h₁ }) (to := none) a1 a2 th.new a3 fun h₂ b1 b2 b3 b4 => ?_
  have up : s.heap.UpToSlots h₂ := a4.trans b4
  obtain ⟨r2, x2⟩ := x.move (frs' := frs) rB al th.stays b1 up th.frames fun fe hfe => List.mem_cons_of_mem _ hfe
  refine hQ h₂ ⟨r2, x2, x.new, B, rB, fun b o e' => ?_, Thrown.of_rec b1 th.new b2.2.2 b3 hc hd (up.ns hN) hk fun q => hdf (framesOf_tail q)⟩
  rcases al b o e' with h3 | h3
  · exact .inl h3
  · obtain ⟨fe, hfe, hbf⟩ := List.mem_filterMap.mp h3
    rcases List.mem_cons.mp hfe with rfl | hfe
    · rw [hf] at hbf; cases hbf
      rw [hL0] at e'; cases e'
    · exact .inr (List.mem_filterMap.mpr ⟨fe, hfe, hbf⟩)
end Mine
end
section
open PySem PySem.W PyProof.Rows PySem.Calls
namespace Mine

theorem lookup_zip {α : Type} : ∀ {ks : List Str} {vs : List α} {x : Str}, x ∈ ks → vs.length = ks.length → ∃ v, (ks.zip vs).lookup x = some v
  | k :: ks, v :: vs, x, hx, hl => by
    by_cases q : x = k
    · subst q
      exact ⟨v, by simp [List.lookup]⟩
    · have : (x == k) = false := beq_eq_false_iff_ne.mpr q
      simp only [List.zip_cons_cons, List.lookup, this]
      exact lookup_zip (by simpa [q] using hx) (by simpa using hl)

theorem filterMap_same {α β : Type} {f g : α → Option β} : ∀ {l : List α}, (∀ x ∈ l, f x = g x) → l.filterMap f = l.filterMap g
  | [], _ => rfl
  | x :: l, h => by
    simp only [List.filterMap_cons, h x (.head _)]
    rw [filterMap_same fun y hy => h y (.tail _ hy)]

theorem zip_filterMap {α : Type} : ∀ {ks : List Str} {vs : List α}, ks.Nodup → vs.length = ks.length → ks.filterMap (fun n => ((ks.zip vs).lookup n).map (n, ·)) = ks.zip vs
  | [], [], _, _ => rfl
  | k :: ks, v :: vs, hn, hl => by
    rw [List.nodup_cons] at hn
    have ih := zip_filterMap (ks := ks) (vs := vs) hn.2 (by simpa using hl)
    have e1 : (((k :: ks).zip (v :: vs)).lookup k).map (k, ·) = some (k, v) := by simp [List.lookup]
    simp only [List.filterMap_cons, e1]
    rw [List.zip_cons_cons]
    congr 1
    have : ∀ n ∈ ks, (((k, v) :: ks.zip vs).lookup n).map (n, ·) = ((ks.zip vs).lookup n).map (n, ·) := fun n hn' => by
      have : (n == k) = false := beq_eq_false_iff_ne.mpr fun q => hn.1 (q ▸ hn')
      simp [List.lookup, this]
    exact (filterMap_same this).trans ih
  | [], _ :: _, _, hl => by simp at hl
  | _ :: _, [], _, hl => by simp at hl

theorem bindArgs_plain {fd : FuncData} {args : List Arg} {kwd : List (Option Expr)} {dfl : List Expr} {vals : List Value} (hp : fd.params = ⟨[], args, none, [], kwd, none, dfl⟩) (hd : fd.defaults = .none) (hn : (args.map (·.arg)).Nodup) (hl : vals.length = args.length) :
    bindArgs fd ⟨vals, []⟩ = pure ((args.map (·.arg)).zip vals) := by
  have hl' : vals.length = (args.map (·.arg)).length := by simp [hl]
  have hgt : ¬ (vals.length > (args.map (·.arg)).length) := by exact fm [_, _] [] [.neq (.v 0) (.v 1)] (.no (.nlt (.v 1) (.v 0))) [[1, 0, 1]] rfl hl'
  have hs : seqItems? Value.none = pure none := rfl
  have hmiss : (((args.map (·.arg)).take ((args.map (·.arg)).length)).filter fun n => (((args.map (·.arg)).zip vals).lookup n).isNone) = [] := by
    rw [List.take_length, List.filter_eq_nil_iff]
    intro n hn'
    obtain ⟨v, hv⟩ := lookup_zip hn' hl'
    simp [hv]
  unfold bindArgs
  simp only [hp, hd, hs, List.map_nil, List.nil_append, List.forIn_nil, pure_bind, Option.getD_none, Array.toList_empty, List.drop_nil, List.length_nil, Nat.sub_zero, List.append_nil, Option.isNone_none, Bool.and_true, decide_eq_true_eq, hgt, if_false, hmiss, List.isEmpty_nil, Bool.not_true,
    Bool.false_eq_true, List.drop_length, List.zip_nil_left, zip_filterMap hn hl']

theorem fnOk_facts {d : Fn} (h : fnOk d = true) : scopeOk d.scope = true ∧ (∃ kwd dfl, d.params = ⟨[], d.params.args, none, [], kwd, none, dfl⟩) ∧ (d.params.args.map (·.arg)).Nodup ∧
    (∀ a ∈ d.params.args, d.scope.names.lookup a.arg = some .local ∨ d.scope.names.lookup a.arg = some .cell) ∧ ∀ x ∈ d.scope.names, x.2 ≠ .free := by
  unfold fnOk at h
  refine and1 h fun h h5 => and1 h fun h h4 => and1 h fun h h3 => and1 h fun h1 h2 => ?_
  refine ⟨h1, ?_, of_decide_eq_true h3, fun a ha => ?_, fun x hx q => ?_⟩
  · clear h3 h4 h5 h1
    revert h2
    generalize d.params = pr
    cases pr with
    | mk po ar va ko kwd ka dfl =>
      cases po with
      | cons => exact fun h => no_ft h
      | nil => cases va with
        | some => exact fun h => no_ft h
        | none => cases ko with
          | cons => exact fun h => no_ft h
          | nil => cases ka with
            | some => exact fun h => no_ft h
            | none => exact fun _ => ⟨_, _, rfl⟩
  · exact ((Bool.or_eq_true _ _).mp (List.all_eq_true.mp h4 a ha)).imp beq_iff_eq.mp beq_iff_eq.mp
  · have h6 := List.all_eq_true.mp h5 x hx
    rw [q] at h6
    exact absurd h6 (by decide)

theorem bindL_lookup {kindOf : Str → Option NameKind} {x : Str} (hx : kindOf x = some .local) : ∀ {binds : List (Str × Value)} {m : Str → Option Value}, (binds.map (·.1)).Nodup → bindL kindOf binds m x = (binds.lookup x).or (m x)
  | [], m, _ => rfl
  | (n, v) :: r, m, hn => by
    rw [List.map_cons, List.nodup_cons] at hn
    unfold bindL
    rw [bindL_lookup hx hn.2]
    by_cases q : x = n
    · subst q
      have hno : r.lookup x = none := lookup_none_of fun c hc => hn.1 (List.mem_map.mpr ⟨(x, c), hc, rfl⟩)
      simp [List.lookup, hno, hx]
    · have : (x == n) = false := beq_eq_false_iff_ne.mpr q
      simp only [List.lookup, this]
      split <;> simp [q]

theorem bindC_lookup {kindOf : Str → Option NameKind} {x : Str} (hx : kindOf x ≠ some .local) : ∀ {binds : List (Str × Value)} {m : Str → Option Value}, (binds.map (·.1)).Nodup → bindC kindOf binds m x = (binds.lookup x).or (m x)
  | [], m, _ => rfl
  | (n, v) :: r, m, hn => by
    rw [List.map_cons, List.nodup_cons] at hn
    unfold bindC
    rw [bindC_lookup hx hn.2]
    by_cases q : x = n
    · subst q
      have hno : r.lookup x = none := lookup_none_of fun c hc => hn.1 (List.mem_map.mpr ⟨(x, c), hc, rfl⟩)
      simp [List.lookup, hno, hx]
    · have : (x == n) = false := beq_eq_false_iff_ne.mpr q
      simp only [List.lookup, this]
      split <;> simp [q]

theorem zip_lookup_rel {h : Heap} {μ : List Addr} : ∀ {ks : List Str} {ps : List PV} {vs : List Value} {x : Str} {p : PV}, VRs h μ ps vs → (ks.zip ps).lookup x = some p → ∃ v, (ks.zip vs).lookup x = some v ∧ VR h μ p v
  | [], _, _, _, _, _, hx => by simp at hx
  | _ :: _, [], _, _, _, _, hx => by simp at hx
  | k :: ks, q :: ps, _, x, p, ⟨v, r, e, hq, hl⟩, hx => by
    subst e
    simp only [List.zip_cons_cons, List.lookup] at hx ⊢
    cases hxk : x == k with
    | true =>
      rw [hxk] at hx
      cases hx
      exact ⟨v, rfl, hq⟩
    | false =>
      rw [hxk] at hx
      exact zip_lookup_rel hl hx

section
variable {C : Cx} {A : Around} {s : Shared} {frs : List Env} {μ : List Addr} {σ σ' : St} {n : Nat} {F : Evs}

theorem AOk.deeper (x : AOk A (n + 1) frs) (env : Env) : AOk (A.deeper env) n (env :: frs) :=
  ⟨x.handled, by show A.depth + 1 + 3 * n < 900; have := x.depth; exact fm [_, _] [] [.nlt (.a (.v 0) (.m 3 (.a (.v 1) (.l 1)))) (.l 900)] (.nlt (.a (.a (.v 0) (.l 1)) (.m 3 (.v 1))) (.l 900)) [[1, 1]] rfl this, by show A.units + 3 + 40 * n < 9000; have := x.units; exact fm [_, _] [] [.nlt (.a (.v 0) (.m 40 (.a (.v 1) (.l 1)))) (.l 9000)] (.nlt (.a (.a (.v 0) (.l 3)) (.m 40 (.v 1))) (.l 9000)) [[1, 1]] rfl this, by show A.frames.map (env :: ·) = _; rw [x.frames]; rfl⟩

theorem call_ok (ok : C.Ok) (S : Sound C n F) (aok : AOk A (n + 1) frs) (r : Rel C frs μ σ s.heap) {f : Str} {ps : List PV} {vs : List Value} {fv : Value} {o : Out PV} {E Q : Value → Shared → Prop} (hv : VRs s.heap μ ps vs) (hf : C.mg f = some fv)
    (hx : evC F f ps σ = some o) (h : PostV C frs s μ o Q E) : wpAny (MM C) A (call fv vs) Q E s := by
  refine evC_inv hx fun d hd hc1 hlen hx => ?_
  obtain ⟨g1, ⟨kwd, dfl, g2⟩, g3, g4, g5⟩ := fnOk_facts hc1
  obtain ⟨f1, f2, f3, f4, f5⟩ := scope_facts g1
  obtain ⟨a, ob, fd, d1, d2, d3, d4, d5, d6, d7, d8, d9, d10, d11, d12, d13⟩ := ok.defs f d hd
  rw [hf] at d1; cases d1
  have hvl := hv.length
  have hnk : ((d.params.args.map (·.arg)).zip vs).map (·.1) = d.params.args.map (·.arg) := by
    rw [List.map_fst_zip]
    simp; exact fm [_, _, _] [] [.neq (.v 0) (.v 1), .neq (.v 2) (.v 1)] (.nle (.v 0) (.v 2)) [[1, 0, 0, 1, 1]] rfl hlen hvl
  have gone : ∀ b, s.heap.objs.size ≤ b → s.heap.get? b = none := fun b hb => by
    cases q : s.heap.get? b with
    | none => rfl
    | some o => exact absurd (Heap.lt_size q) (Nat.not_lt.mpr hb)
  have keysC : ((cellsFrom (s.heap.objs.size + 1) d.scope.names []).map (·.1)).Nodup := by
    rw [cellsFrom_keys]
    exact nodup_rev ((List.filter_sublist.map _).nodup f2)
  have hasC : ∀ x, d.scope.names.lookup x = some .cell → ∃ c, (cellsFrom (s.heap.objs.size + 1) d.scope.names []).lookup x = some c ∧ s.heap.objs.size + 1 ≤ c := fun x hx => by
    obtain ⟨c, hc⟩ := cellsFrom_has (n := s.heap.objs.size + 1) (mem_of_lookup hx)
    exact ⟨c, lookup_of_mem keysC hc, (cellsFrom_mem hc).2⟩
  refine wpAny_call (codeAny_call_cells (body := d.body) (binds := (d.params.args.map (·.arg)).zip vs) (by have := aok.depth; have : recursionLimit = 1000 := rfl; exact fm [_, _, _] [] [.nlt (.a (.v 0) (.m 3 (.a (.v 1) (.l 1)))) (.l 900), .neq (.v 2) (.l 1000)] (.nlt (.v 0) (.v 2)) [[1, 0, 1, 1]] rfl (by assumption) this) (r.base _ _ d2) d3 (ok.nolimit.keeps r.base) (d12.keeps r.base) d5
    (bindArgs_plain (d4.trans g2) d10 g3 (by exact fm [_, _, _] [] [.neq (.v 0) (.v 1), .neq (.v 2) (.v 1)] (.neq (.v 2) (.v 0)) [[0, 1, 1, 0, 1], [1, 0, 0, 1, 1]] rfl hlen hvl)) d7 (fun x hx => ?_) (fun s₁ I => ?_) (by rw [d6]; exact f4) (by rw [d6]; exact f3) (by rw [d6]; exact f1))
  · rw [d6]
    have hm : x.1 ∈ d.params.args.map (·.arg) := by
      rw [← hnk]
      exact List.mem_map_of_mem hx
    obtain ⟨ar, har, hae⟩ := List.mem_map.mp hm
    rcases g4 ar har with q | q
    · exact .inl (hae ▸ q)
    · rw [hae] at q
      obtain ⟨c, hc, _⟩ := hasC x.1 q
      exact .inr ⟨q, by rw [hc]; rfl⟩
  · generalize hL : s.heap.objs.size = L at I gone keysC hasC ⊢
    have henv : (callEnvC fd L a).scope = d.scope := d6
    have hcells : (callEnvC fd L a).cells = cellsFrom (L + 1) d.scope.names [] := by
      show cellsFrom (L + 1) fd.scope.names [] = _
      rw [d6]
    have hkind : ∀ x, (callEnvC fd L a).kindOf x = d.scope.names.lookup x := fun x => by
      show fd.scope.names.lookup x = _
      rw [d6]
    have hlocals : (callEnvC fd L a).locals = L := rfl
    have hframe : (callEnvC fd L a).frame = some L := rfl
    obtain ⟨h₁, t₁, hs₁, kp⟩ := I.done
    have kp₁ : ∀ b o, s.heap.get? b = some o → s₁.heap.get? b = some o := I.toInCall.keep
    have ext1 : Ext C [] s.heap μ s₁.heap μ := Ext.of_keeps kp₁
    have hvs₁ := VRs.ext r ext1 WOk.nil hv
    have hBL : C.B.get? L = none := r.base_none (gone L (Nat.le_refl _))
    have nofree : ∀ x, d.scope.names.lookup x ≠ some .free := fun x q => g5 _ (mem_of_lookup q) rfl
    have r₁ : Rel C (callEnvC fd L a :: frs) μ σ s₁.heap := by
      have r' := r.keeps kp₁
      refine ⟨r'.base, r'.len, r'.nodup, r'.fresh, r'.items, r'.tabs, fun fe hfe => ?_⟩
      rcases List.mem_cons.mp hfe with rfl | hfe
      · exact ⟨by rw [henv, f1]; decide, L, _, hframe, hBL, I.toInCall.ns⟩
      · exact r'.frames fe hfe
    have e₁ : EnvRel C s₁.heap μ (callEnvC fd L a) { names := d.scope.names, vars := (d.params.args.map (·.arg)).zip ps, lam := withLams f } := by
      refine ⟨by rw [henv]; exact f1, d8, d9, fun x => ⟨fun _ => hkind x, fun q => absurd q (nofree x)⟩, fun x q => absurd q (nofree x), ?_, ?_, ?_, ?_, hBL, ?_, ?_⟩
      · refine ⟨_, I.toInCall.ns, fun x p h1 h2 => ?_⟩
        obtain ⟨v, h3, h4⟩ := zip_lookup_rel hvs₁ h2
        refine ⟨v, ?_, h4⟩
        rw [bindL_lookup ((hkind x).trans h1) (by rw [hnk]; exact g3), h3]
        rfl
      · intro x hx
        rcases hx with hx | hx
        · have hx : d.scope.names.lookup x = some .cell := hx
          obtain ⟨c, h1, h2⟩ := hasC x hx
          have h1' : (callEnvC fd L a).cells.lookup x = some c := by rw [hcells]; exact h1
          refine ⟨c, _, h1', I.cell x c h1', fun p hp => ?_⟩
          obtain ⟨v, h3, h4⟩ := zip_lookup_rel hvs₁ hp
          refine ⟨v, ?_, h4⟩
          rw [bindC_lookup (by rw [hkind, hx]; decide) (by rw [hnk]; exact g3), h3]
          rfl
        · exact absurd hx (nofree x)
      · intro q hq
        rw [hcells] at hq ⊢
        exact lookup_of_mem keysC hq
      · intro x y c hx hy
        exact name_of_addr I.apart (mem_of_lookup hx) (mem_of_lookup hy)
      · intro x c _ hc
        exact r.base_none (gone c (Nat.le_of_lt (I.above x c (mem_of_lookup hc))))
      · intro hlam
        obtain ⟨t, ht, q1, q2⟩ := d13 hlam
        exact ⟨t, ht, q1, q2⟩
    have wrF : ∀ b ∈ wr (callEnvC fd L a) { names := d.scope.names, vars := (d.params.args.map (·.arg)).zip ps, lam := withLams f }, s.heap.get? b = none := fun b hb => by
      rcases List.mem_cons.mp hb with rfl | hb
      · exact gone _ (Nat.le_refl _)
      · obtain ⟨q, hq, rfl⟩ := List.mem_map.mp hb
        exact gone _ (Nat.le_of_lt (I.above q.1 q.2 (List.mem_filter.mp hq).1))
    have same : ∀ (h' : Heap) (t' : Nat), ({ s₁ with heap := h', toks := t' } : Shared) = { s with heap := h', toks := t' } := fun h' t' => by rw [hs₁]
    refine bdX hx (fun fv σ₁ h1 h2 => ?_) (fun k σ₁ h1 q => ?_)
    · obtain ⟨fl, vars⟩ := fv
      refine S.s (s := s₁) (aok.deeper _) r₁ e₁ h1 fun f' h' t' μ' r' x' e' hfl => ?_
      have r2 : Rel C frs μ' σ₁ h' := ⟨r'.base, r'.len, r'.nodup, r'.fresh, r'.items, r'.tabs, fun fe hfe => r'.frames fe (List.mem_cons_of_mem _ hfe)⟩
      have x2 : Ext C [] s.heap μ h' μ' := (ext1.wide.trans x').drop fun b hb => .inr (wrF b hb)
      cases hfl with
      | next =>
        cases h2
        show Q _ _
        rw [same]
        exact h .none h' t' μ' r2 x2 rfl
      | cont => exact no_none h2
      | ret hp =>
        cases h2
        show Q _ _
        rw [same]
        exact h _ h' t' μ' r2 x2 hp
    · subst q
      refine S.s (s := s₁) (aok.deeper _) r₁ e₁ h1 fun e' h' t' μ' fl => ?_
      refine leaving_ok (s := { s₁ with heap := h', toks := t' }) (Around.frames_deeper aok.frames) hframe (fl.back ext1.wide) (gone L (Nat.le_refl _)) fun h'' fl' => ?_
      show E _ _
      have := same h'' t'
      rw [show ({ s₁ with heap := h'', toks := t' } : Shared) = { s with heap := h'', toks := t' } from this]
      exact h e' h'' t' μ' (fl'.mono fun b hb => .inr (wrF b hb))
end
end Mine
end
section
set_option maxRecDepth 100000
open PySem PySem.W PyProof.Rows PySem.Calls
namespace Mine

noncomputable def clsBody (x : Str) : List Stmt → Option (List Stmt)
  | [] => none
  | .ClassDef n _ _ body _ _ _ _ _ _ _ :: r => if n == x then some body else clsBody x r
  | _ :: r => clsBody x r

noncomputable def initFn : Option Fn := (clsBody "CasFail" PySem.Challenge.pw_pf0050_01.main.body).bind (findFn "__init__")

abbrev excMro : List Value := [.type "Exception", .type "BaseException", .type "object"]

inductive CasThere (C : Cx) : Prop
  | mk (nm q : Str) (K N : Addr) (bs : List Value) (sn : List Str) (sub : List Value) (ab : Bool) (col : Option Bool) (dd : Option Addr) (k0 k1 k2 k3 k5 : Option Value) (mN : Str → Option Value) (fI : Addr) (oI : Obj) (fd : FuncData) (d : Fn)
      (c1 : C.mg "CasFail" = some (.ref K)) (c2 : C.B.get? K = some (excClassObj nm q K N bs excMro true sn sub ab col dd k0 k1 k2 k3 k5 "Exception.__new__")) (c3 : C.B.Ns N mN) (c4 : mN "__init__" = some (.ref fI)) (c5 : mN "__setattr__" = none) (c6 : mN "__getattribute__" = none) (c7 : mN "__getattr__" = none) (c8 : mN "kind" = none) (c9 : mN "text" = none) (c10 : C.B.get? fI = some oI) (c11 : oI.cls = .type "function") (c12 : oI.data = .func fd) (c13 : initFn = some d) (c14 : fd.params = d.params) (c15 : fd.body = .stmts d.body) (c16 : fd.scope = d.scope) (c17 : fd.closure = []) (c18 : fd.globals = mainGlobals) (c19 : fd.builtins = builtinsNs) (c20 : fd.defaults = .none) (c21 : fd.kwdefaults = .none) (c22 : C.B.CodeRec fd.code fd.qualname) : CasThere C
structure CasOk (C : Cx) : Prop where
  there : CasThere C
  exc : C.mg "Exception" = none
  excB : C.mb "Exception" = some (.type "Exception")

inductive InitShape (d : Fn) : Prop
  | mk (p1 p2 p3 p4 p5 p6 p7 p8 p9 p10 p11 p12 p13 p14 p15 p16 p17 p18 : Pos) (k : Nat)
      (c1 : d.body = [.Expr (.Call (.Attribute (.Name "Exception" p1) "__init__" p2) [.Name "self" p3, .BinOp (.BinOp (.Name "kind" p4) .Add (.Constant (.str ": ") k p5) p6) .Add (.Name "text" p7) p8] [] p9) p10, .Assign [.Attribute (.Name "self" p11) "kind" p12] (.Name "kind" p13) p14, .Assign [.Attribute (.Name "self" p15) "text" p16] (.Name "text" p17) p18])
      (c2 : (p2.endLine == p9.line) = true)
      (c3 : d.params.args.map (·.arg) = (["self", "kind", "text"] : List Str))
      (c4 : fnOk d = true)
      (c5 : d.scope.names.lookup ("self" : Str) = some .local)
      (c6 : d.scope.names.lookup ("kind" : Str) = some .local)
      (c7 : d.scope.names.lookup ("text" : Str) = some .local)
      (c8 : d.scope.names.lookup ("Exception" : Str) = some .globalImplicit) : InitShape d
theorem init_shape {d : Fn} (h : initFn = some d) : InitShape d := by
  have e : initFn = some ((initFn).get (by decide +kernel)) := by simp
  rw [e] at h
  cases h
  exact ⟨_, _, _, _, _, _, _, _, _, _, _, _, _, _, _, _, _, _, _, rfl, by decide +kernel, by decide +kernel, by decide +kernel, by decide +kernel, by decide +kernel, by decide +kernel, by decide +kernel⟩

section
variable {C : Cx} {A : Around} {E : Value → Shared → Prop} {s : Shared} {env : Env}

theorem Fr_nil (h : Heap) : Frag.In [] h := fun _ _ q => by cases q

theorem ld_name {x : Str} {pos : Pos} {m : Str → Option Value} {v : Value} {Q : Value → Shared → Prop} (hk : env.scope.kind = .function) (hl : env.kindOf x = some .local) (hn : s.heap.Ns env.locals m) (hv : m x = some v) (h : Q v s)
    (hd : (x == ("__debug__" : Str)) = false := by decide +kernel) : wpAny (MM C) A (eval (.Name x pos) env) Q E s := wpAny_Name (wpAny_loadName_local hk hl hn hv h) hd

theorem type_of_exc : typeOf (.type "Exception") = pure (.type "type") := by first | rfl | kernel_rfl

variable {prog : Program} {w : World}
theorem base_init {K N e t0 : Addr} {nm q : Str} {bs : List Value} {sn : List Str} {sub : List Value} {ab : Bool} {col : Option Bool} {dd : Option Addr} {k0 k1 k2 k3 k5 : Option Value} {oe : Obj} {vs : Array Value} {rest : List Value} {Q : Value → Shared → Prop}
    (hC : s.heap.get? K = some (excClassObj nm q K N bs excMro true sn sub ab col dd k0 k1 k2 k3 k5 "Exception.__new__")) (he : s.heap.get? e = some oe) (hcls : oe.cls = .ref K) (hd : oe.data = .fields vs) (h0 : vs[0]? = some (.ref t0))
    (h : Q .none { s with heap := (s.heap.push { cls := .type "tuple", data := .seq rest.toArray }).update e (Obj.mapFields (·.setIfInBounds 0 (.ref s.heap.objs.size))) }) (hrest : rest.length ≤ sizeLine := by size_fits) :
    wpAny (model prog w) A (call (.builtin "Exception.__init__") (.ref e :: rest)) Q E s := by
  have F := PySem.F.excBase_Exception
  obtain ⟨hp, g, d, tk, os⟩ := s
  refine wpAny_call (codeAny_call_builtin F.init.plain F.initEntry (wpAny_check_init_sub F hC he hcls ?_))
  unfold Builtin.«BaseException.__init__»
  dsimp only
  rw [if_neg (by simp)]
  unfold newTuple Builtin.BaseException.bexcPut
  have hsz : 0 < vs.size := (Array.getElem?_eq_some_iff.mp h0).1
  have he₁ := Heap.get?_push_of_some (h := hp) { cls := .type "tuple", data := .seq rest.toArray } he
  refine wpAny_bind (wpAny_newObj_type (wpAny_bind (wpAny_bind (wpAny_field he₁ hd h0 (wpAny_bind (wpAny_setField he₁ hd hsz ?_))))) (by show rest.toArray.size ≤ sizeLine; rw [List.size_toArray]; exact hrest))
  exact wpAny_letGo (wpAny_pure h)

open Builtin Builtin.ObjectAttr in
theorem store_first {K N x : Addr} {nm q : Str} {bs : List Value} {sn : List Str} {sub : List Value} {ab : Bool} {col : Option Bool} {dd : Option Addr} {k0 k1 k2 k3 k5 : Option Value} {mN : Str → Option Value} {o : Obj} {vs : Array Value} {name : Str} {v : Value} {bm : List Value} {B newId sa owner : String} {Q : Unit → Shared → Prop} (SF : StoreFacts B bm sa owner)
    (hC : s.heap.get? K = some (excClassObj nm q K N bs bm true sn sub ab col dd k0 k1 k2 k3 k5 newId)) (hn : s.heap.Ns N mN) (hns : mN "__setattr__" = none) (hna : mN name = none)
    (hB : typeLookup (.type B) name = pure none) (hx : s.heap.get? x = some o) (hc : o.cls = .ref K) (hdt : o.data = .fields vs) (hdn : o.dict = none)
    (hq : ∀ h' tk', h'.get? x = some { o with dict := some s.heap.objs.size } → h'.Ns1 s.heap.objs.size (fun y => if y = name then some v else none) → (∀ b ob, b ≠ x → s.heap.get? b = some ob → h'.get? b = some ob) → Q () { s with heap := h', toks := tk' }) :
    wpAny (model prog w) A (setAttr (.ref x) name v) Q E s := by
  obtain ⟨h, g, d, t, os⟩ := s
  have f3 := SF.slot.bind (.ref x)
  have hpass := SF.passes (.ref x)
  unfold setAttr callSpecial? specialOf
  repeat (any_goals (first | assumption | (with_reducible refine wpAny_loadPart_at hx ?_; rw [hc]) | (with_reducible refine wpAny_typeLookup_exc hC hn SF.mro SF.slot.lookup ?_; rw [hns]) | wp_step))
  refine codeAny_call_builtin SF.slot.plain SF.entry (wpAny_check_sa SF hC hx hc ?_)
  unfold Builtin.«object.__setattr__»
  repeat (first | rw [refuse_eq] | (rw [refuseLoop_ref, hpass]) | (with_reducible refine wpAny_loadPart_at hx ?_; rw [hc]) | with_reducible refine wpAny_mroOf_exc hC ?_ | (with_reducible refine wpAny_typeLookup_exc hC hn SF.mro hB ?_; rw [hna]) | wp_step)
  rw [hdn, if_neg (by simp [typeHasDict])]
  rw [hdt]
  have hx₁ : (h.push { cls := .type "dict", data := .dict #[] }).get? x = some o := Heap.get?_push_of_some _ hx
  have hxs : x ≠ h.objs.size := Nat.ne_of_lt (Heap.lt_size hx)
  refine wpAny_bind (wpAny_alloc' (wpAny_bind (wpAny_update' hx₁ (wpAny_pure ?_))))
  have hgd : ((h.push { cls := .type "dict", data := .dict #[] }).update x fun o => { cls := o.cls, dict := some h.objs.size, data := o.data, slots := o.slots }).get? h.objs.size = some { cls := .type "dict", data := .dict #[] } :=
    (Heap.get?_update_ne _ _ _ _ hxs.symm).trans (Heap.get?_push_at rfl rfl)
  have hx₂ : ((h.push { cls := .type "dict", data := .dict #[] }).update x fun o => { cls := o.cls, dict := some h.objs.size, data := o.data, slots := o.slots }).get? x = some { o with dict := some h.objs.size } := by
    refine (Heap.get?_update_self _ hx₁ ?_)
    obtain ⟨oc, od, odt, osl⟩ := o
    subst hdt
    rfl
  show wpAny _ _ (storeInDict h.objs.size (.str name _) name v) _ _ _
  unfold storeInDict newKeyGuard
  refine wpAny_bind (wpAny_pure (wpAny_bind (wpAny_nsSet1 (Heap.Ns1.of_empty ⟨_, #[], _, hgd, rfl, fun e he => absurd he (by simp), fun _ => rfl⟩) fun h' hn' hs => ?_)))
  obtain ⟨oD, esD, epD, hoD, hdD, hcD⟩ := hn'.count (Within.cons name v Within.nil)
  refine wpAny_bind (wpAny_lookBehind hoD (by rw [hdD]; exact pastItsLine_dict (Nat.le_trans hcD (by rw [List.length_cons, List.length_nil, sizeLine_eq]; exact fm [] [] [] (.nle (.l 1) (.l 16777217)) [[1]] rfl))) ?_)
  wp_walk
  exact hq h' _ ((hs.2 x hxs).trans hx₂) hn' fun b ob hbx hb => (hs.2 b (Nat.ne_of_lt (Heap.lt_size hb))).trans ((Heap.get?_update_ne _ _ _ _ hbx).trans (Heap.get?_push_of_some _ hb))
end
end Mine
end
section
set_option maxRecDepth 100000
open PySem PySem.W PyProof.Rows PySem.Calls
namespace Mine

abbrev casObj (K d tt : Addr) : Obj := { cls := .ref K, dict := some d, data := .fields #[.ref tt, .none, .none, .none, .bool false, .none], slots := #[] }

section
variable {prog : Program} {w : World} {A : Around} {E : Value → Shared → Prop} {s : Shared} {env : Env}

theorem ld_nm {x : Str} {pos : Pos} {m : Str → Option Value} {v : Value} {M : Model} {Q : Value → Shared → Prop} (hk : env.scope.kind = .function) (hl : env.kindOf x = some .local) (hn : s.heap.Ns env.locals m) (hv : m x = some v) (h : Q v s)
    (hd : (x == ("__debug__" : Str)) = false := by decide +kernel) : wpAny M A (eval (.Name x pos) env) Q E s := wpAny_Name (wpAny_loadName_local hk hl hn hv h) hd

theorem noattr_kind : typeLookup (.type "Exception") "kind" = pure none := by rw [typeLookup_type, builtinLookup_eq_fast]; kernel_rfl
theorem noattr_text : typeLookup (.type "Exception") "text" = pure none := by rw [typeLookup_type, builtinLookup_eq_fast]; kernel_rfl

theorem attr_stmt {x y attr : Str} {p1 p2 p3 p4 : Pos} {m : Str → Option Value} {a : Addr} {v : Value} {M : Model} {Q : Flow → Shared → Prop} (hk : env.scope.kind = .function) (hx : env.kindOf x = some .local) (hy : env.kindOf y = some .local) (hn : s.heap.Ns env.locals m)
    (hvx : m x = some (.ref a)) (hvy : m y = some v) (h : wpAny M A (setAttr (.ref a) attr v) (fun _ s' => Q .next s') E s) (hdx : (x == ("__debug__" : Str)) = false := by decide +kernel) (hdy : (y == ("__debug__" : Str)) = false := by decide +kernel) :
    wpAny M A (exec (.Assign [.Attribute (.Name x p1) attr p2] (.Name y p3) p4) env) Q E s := by
  rw [arm_exec_Assign]
  refine wpAny_bind (wpAny_standAt ?_)
  have h1 : swapsWithSole [.Attribute (.Name x p1) attr p2] (.Name y p3) p4.line env = pure false := rfl
  rw [h1]
  refine wpAny_bind (wpAny_pure ?_)
  simp only [Bool.false_eq_true, if_false]
  refine wpAny_bind (ld_nm hk hy hn hvy ?_ hdy)
  have h2 : swappedStores [.Attribute (.Name x p1) attr p2] (.Name y p3) env = pure none := rfl
  rw [h2]
  refine wpAny_bind (wpAny_pure ?_)
  show wpAny M A (do (assign (.Attribute (.Name x p1) attr p2) env v); pure .next) Q E s
  rw [arm_assign_Attribute]
  refine wpAny_bind (wpAny_bind (wpAny_holding (ld_nm hk hx hn hvx (wpAny_bind (wpAny_standAt (wpAny_bind (wpAny_holding (wpAny_mono h (fun _ s' hq => wpAny_release (wpAny_pure hq)) fun _ _ z => z))))) hdx)))

theorem stub_exc : Manifest.isStub "Exception" = false := by decide +kernel
theorem find_exc : findCls [] (.type "Exception") (.type "type") "__init__" = some (.val (.builtin "Exception.__init__")) := by kernel_rfl
theorem method_exc {L : Addr} {h₀ : Heap} {m : Str → Option Value} {pl : Sem Bool} {Q : Value × List Value → Shared → Prop} (F : Fr h₀ L s.heap m) (h : Q (.builtin "Exception.__init__", []) { s with toks := s.toks + 1 }) :
    wpAny (model prog w) A (getMethod (.type "Exception") "__init__" pl) Q E s := method_type (K := []) F (Fr_nil _) type_of_exc stub_exc find_exc rfl h

theorem base_stmt {K N e t0 : Addr} {nm q : Str} {bs : List Value} {sn : List Str} {sub : List Value} {ab : Bool} {col : Option Bool} {dd : Option Addr} {k0 k1 k2 k3 k5 : Option Value} {p1 p2 p3 p4 p5 p6 p7 p8 p9 p10 : Pos} {kk : Nat} {m mg mb : Str → Option Value} {k tx : Str} {tk tt : Tok}
    {h₀ : Heap} {Q : Flow → Shared → Prop} (F : Fr h₀ env.locals s.heap m) (hk : env.scope.kind = .function) (hs : env.kindOf "self" = some .local) (hkk : env.kindOf "kind" = some .local) (ht : env.kindOf "text" = some .local) (hE : env.kindOf "Exception" = some .globalImplicit)
    (hg : s.heap.Ns env.globals mg) (hb : s.heap.Ns env.builtins mb) (hg0 : mg "Exception" = none) (hb0 : mb "Exception" = some (.type "Exception"))
    (v1 : m "self" = some (.ref e)) (v2 : m "kind" = some (.str k tk)) (v3 : m "text" = some (.str tx tt)) (l1 : k.length ≤ 1000) (l2 : tx.length ≤ 1000) (hline : (p2.endLine == p9.line) = true)
    (hC : s.heap.get? K = some (excClassObj nm q K N bs excMro true sn sub ab col dd k0 k1 k2 k3 k5 "Exception.__new__")) (he : s.heap.get? e = some { cls := .ref K, data := .fields #[.ref t0, .none, .none, .none, .bool false, .none] })
    (h : ∀ h' t' tt', (∀ b o, b ≠ e → s.heap.get? b = some o → h'.get? b = some o) → h'.get? e = some { cls := .ref K, data := .fields #[.ref tt', .none, .none, .none, .bool false, .none] } → Q .next { s with heap := h', toks := t' }) :
    wpAny (model prog w) A (exec (.Expr (.Call (.Attribute (.Name "Exception" p1) "__init__" p2) [.Name "self" p3, .BinOp (.BinOp (.Name "kind" p4) .Add (.Constant (.str ": ") kk p5) p6) .Add (.Name "text" p7) p8] [] p9) p10) env) Q E s := by
  refine wpAny_Expr ?_ (by unfold interactive; rw [hk]; rfl) rfl
  rw [arm_eval_Call]
  show wpAny (model prog w) A (do
    let ov ← eval (.Name "Exception" p1) env
    standAt p2.atName
    methodCall (.Name "Exception" p1) "__init__" p2 p9 env ov 2 (backTo p9 (starEach _ env)) []) _ E s
  refine wpAny_bind (Name_function_global hk hE (loadGlobal_builtin hg hg0 hb hb0 (wpAny_bind (wpAny_standAt ?_))))
  unfold methodCall calleeOf methodCallPos
  have few : methodCallForm 2 (backTo p9 (starEach [.Name "self" p3, .BinOp (.BinOp (.Name "kind" p4) .Add (.Constant (.str ": ") kk p5) p6) .Add (.Name "text" p7) p8] env)) [] = true := rfl
  rw [few]
  simp only [if_true, Bool.not_true, Bool.false_or, hline]
  refine wpAny_bind (wpAny_holding (method_exc F ?_))
  refine wpAny_bind (wpAny_pure ?_)
  have n1 : ∀ t, ({ s with toks := t } : Shared).heap.Ns env.locals m := fun _ => F.ns
  refine callWith_builtin rfl (evalArgs_plain (spliced_cons (ld_nm hk hs F.ns v1 (spliced_cons (wpAny_BinOp (wpAny_BinOp (ld_nm hk hkk F.ns v2 (Constant_str ?_)))) ))))
  refine PyProof.Rows.add_str (fun t1 tk1 => ld_nm hk ht F.ns v3 (PyProof.Rows.add_str (fun t2 tk2 => spliced_nil ?_) ?_)) ?_
  · refine base_init (t0 := t0) (s := { s with toks := tk2 }) hC he rfl rfl rfl ?_
    refine h _ _ s.heap.objs.size (fun b o hb hbo => ?_) ?_
    · rw [Heap.get?_update_other _ _ (Ne.symm hb)]
      exact Heap.get?_push_of_some _ hbo
    · exact Heap.get?_update_self _ (Heap.get?_push_of_some _ he) rfl
  · have e1 : (k ++ (": " : Str)).length = k.length + 2 := by
      show (k.cps ++ _).size = _
      rw [Array.size_append]; rfl
    rw [e1]
    have e2 : cap = 4000 := rfl
    exact le_line (by exact fm [_, _, _] [] [.nle (.v 0) (.l 1000), .nle (.v 1) (.l 1000), .neq (.v 2) (.l 4000)] (.nle (.a (.a (.v 0) (.l 2)) (.v 1)) (.v 2)) [[1, 1, 0, 1, 1]] rfl l1 l2 e2)
  · have e2 : cap = 4000 := rfl
    have e3 : ((": " : Str)).length = 2 := by decide +kernel
    exact le_line (by rw [e3]; exact fm [_, _] [] [.nle (.v 0) (.l 1000), .neq (.v 1) (.l 4000)] (.nle (.a (.v 0) (.l 2)) (.v 1)) [[1, 0, 1, 1]] rfl l1 e2)
end
end Mine
end
section
set_option maxRecDepth 100000
open PySem PySem.W PyProof.Rows PySem.Calls
namespace Mine

section
variable {C : Cx} {A : Around} {E : Value → Shared → Prop} {s : Shared} {frs : List Env} {μ : List Addr} {σ σ' : St} {n : Nat} {env : Env} {ρ : PE} {F : Evs}

theorem make_ok (cas : CasOk C) (ok : C.Ok) (hh : A.handled = none) (hdep : A.depth + 2 < 1000) (r : Rel C frs μ σ s.heap) {K : Addr} (hK : C.mg "CasFail" = some (.ref K)) {k tx : Str} {tk tt : Tok} (l1 : k.length ≤ 1000) (l2 : tx.length ≤ 1000) {Q : Value → Shared → Prop}
    (h : ∀ h' t' e d t2 mm, (∀ b o, s.heap.get? b = some o → h'.get? b = some o) → s.heap.get? e = none → s.heap.get? d = none → h'.get? e = some (casObj K d t2) → h'.Ns d mm → mm "kind" = some (.str k tk) → Q (.ref e) { s with heap := h', toks := t' }) :
    wpAny (MM C) A (call (.ref K) [.str k tk, .str tx tt]) Q E s := by
  obtain ⟨nm, q, K', N, bs, sn, sub, ab, col, dd, k0, k1, k2, k3, k5, mN, fI, oI, fd, d, c1, c2, c3, c4, c5, c6, c7, c8, c9, c10, c11, c12, c13, c14, c15, c16, c17, c18, c19, c20, c21, c22⟩ := cas.there
  rw [hK] at c1; cases c1
  obtain ⟨p1, p2, p3, p4, p5, p6, p7, p8, p9, p10, p11, p12, p13, p14, p15, p16, p17, p18, kk, b1, b2, b3, b4, b5, b6, b7, b8⟩ := init_shape c13
  obtain ⟨g1, ⟨kwd, dfl, g2⟩, g3, g4, g5⟩ := fnOk_facts b4
  obtain ⟨f1, f2, f3, f4, f5⟩ := scope_facts g1
  have hC := r.base _ _ c2
  have hNn := c3.keeps r.base
  have hfI := r.base _ _ c10
  obtain ⟨hp, g, dr, t, os⟩ := s
  refine wpAny_call_exc_init PySem.F.excBase_Exception hC hNn c4 hfI c11 (fun h₁ e hm => ?_) (le_line (show 2 ≤ cap by decide))
  have kp₁ := hm.keeps
  obtain ⟨ta, he₁, hta, _⟩ := hm.there
  have hC₁ := kp₁ _ _ hC
  have hlen : ([.ref e, .str k tk, .str tx tt] : List Value).length = d.params.args.length := by
    have := congrArg List.length b3
    rw [List.length_map] at this
    rw [this]; rfl
  have hloc : ∀ x, d.scope.names.lookup x = some .local → fd.scope.names.lookup x = some .local := fun x hx => by rw [c16]; exact hx
  refine wpAny_call (codeAny_call_cells (body := d.body) (binds := (d.params.args.map (·.arg)).zip [.ref e, .str k tk, .str tx tt]) ?_ (kp₁ _ _ hfI) c12 ((ok.nolimit.keeps r.base).keeps kp₁) ((c22.keeps r.base).keeps kp₁) c15
    (bindArgs_plain (c14.trans g2) c20 g3 hlen) c17 (fun x hx => ?_) (fun s₁ I => ?_) (by rw [c16]; exact f4) (by rw [c16]; exact f3) (by rw [c16]; exact f1))
  · show A.depth + 1 < recursionLimit
    have : recursionLimit = 1000 := rfl
    exact fm [_, _] [] [.nlt (.a (.v 0) (.l 2)) (.l 1000), .neq (.v 1) (.l 1000)] (.nlt (.a (.v 0) (.l 1)) (.v 1)) [[1, 0, 1, 1]] rfl hdep this
  · rw [b3] at hx
    have hx : x ∈ [(("self" : Str), Value.ref e), (("kind" : Str), Value.str k tk), (("text" : Str), Value.str tx tt)] := hx
    simp only [List.mem_cons, List.not_mem_nil, or_false] at hx
    rcases hx with rfl | rfl | rfl
    · exact .inl (hloc _ b5)
    · exact .inl (hloc _ b6)
    · exact .inl (hloc _ b7)
  · rw [b3] at I
    generalize hL : h₁.objs.size = L at I ⊢
    have kp₂ : ∀ b o, h₁.get? b = some o → s₁.heap.get? b = some o := I.toInCall.keep
    have kp : ∀ b o, hp.get? b = some o → s₁.heap.get? b = some o := fun b o e => kp₂ b o (kp₁ b o e)
    obtain ⟨h₂, t₂, hs₁, _⟩ := I.done
    have kind : (callEnvC fd L fI).scope.kind = .function := by show fd.scope.kind = _; rw [c16]; exact f1
    have kof : ∀ x, (callEnvC fd L fI).kindOf x = d.scope.names.lookup x := fun x => by show fd.scope.names.lookup x = _; rw [c16]
    have hbN : ((([("self" : Str), "kind", "text"] : List Str).zip [Value.ref e, .str k tk, .str tx tt]).map (·.1)).Nodup := by
      show (["self", "kind", "text"] : List Str).Nodup
      decide +kernel
    have ns := I.toInCall.ns
    have v1 := bindL_lookup (kindOf := (callEnvC fd L fI).kindOf) (x := "self") ((kof _).trans b5) (m := fun _ => none) hbN
    have v2 := bindL_lookup (kindOf := (callEnvC fd L fI).kindOf) (x := "kind") ((kof _).trans b6) (m := fun _ => none) hbN
    have v3 := bindL_lookup (kindOf := (callEnvC fd L fI).kindOf) (x := "text") ((kof _).trans b7) (m := fun _ => none) hbN
    generalize bindL (callEnvC fd L fI).kindOf (([("self" : Str), "kind", "text"] : List Str).zip [Value.ref e, .str k tk, .str tx tt]) (fun _ => none) = m at ns v1 v2 v3
    have v1 : m "self" = some (.ref e) := v1.trans (by rfl)
    have v2 : m "kind" = some (.str k tk) := v2.trans (by rfl)
    have v3 : m "text" = some (.str tx tt) := v3.trans (by rfl)
    have heL : L ≠ e := fun z => by
      have := Heap.lt_size he₁
      rw [← z, ← hL] at this
      exact Nat.lt_irrefl _ this
    have heK : e ≠ K := fun z => by
      have := hm.new
      rw [z, hC] at this; cases this
    have g0 : s₁.heap.Ns (callEnvC fd L fI).globals C.mg := by
      show s₁.heap.Ns fd.globals C.mg
      rw [c18]; exact (ok.g.keeps r.base).keeps kp
    have gb : s₁.heap.Ns (callEnvC fd L fI).builtins C.mb := by
      show s₁.heap.Ns fd.builtins C.mb
      rw [c19]; exact (ok.b.keeps r.base).keeps kp
    rw [b1]
    have fr : Fr h₁ (callEnvC fd L fI).locals s₁.heap m := ⟨ns, kp₂, by rw [hL]; exact Nat.le_refl _⟩
    refine wpAny_execs_cons (base_stmt fr kind ((kof _).trans b5) ((kof _).trans b6) ((kof _).trans b7) ((kof _).trans b8) g0 gb cas.exc cas.excB v1 v2 v3 l1 l2 b2 (kp₂ _ _ hC₁) (kp₂ _ _ he₁) fun h₃ t₃ ta' kp₃ he₃ => ?_)
    have kpA : ∀ b o, hp.get? b = some o → h₃.get? b = some o := fun b o e' => kp₃ b o (fun z => by rw [z, hm.new] at e'; cases e') (kp b o e')
    have ns₃ : h₃.Ns (callEnvC fd L fI).locals m := by
      obtain ⟨o, es, ep, e1, r1⟩ := ns
      exact ⟨o, es, ep, kp₃ _ _ heL e1, r1⟩
    refine wpAny_execs_cons (attr_stmt (s := { s₁ with heap := h₃, toks := t₃ }) kind ((kof _).trans b5) ((kof _).trans b6) ns₃ v1 v2 ?_)
    refine store_first (s := { s₁ with heap := h₃, toks := t₃ }) PySem.F.store_Exception (kpA _ _ hC) (c3.keeps fun b o e' => kpA b o (r.base b o e')) c5 c8 noattr_kind he₃ rfl rfl rfl fun h₄ t₄ he₄ nd₄ kp₄ => ?_
    have kpB : ∀ b o, hp.get? b = some o → h₄.get? b = some o := fun b o e' => kp₄ b o (fun z => by rw [z, hm.new] at e'; cases e') (kpA b o e')
    have ns₄ : h₄.Ns (callEnvC fd L fI).locals m := by
      obtain ⟨o, es, ep, e1, r1⟩ := ns₃
      exact ⟨o, es, ep, kp₄ _ _ heL e1, r1⟩
    have hdnew : ∀ b o, hp.get? b = some o → b ≠ h₃.objs.size := fun b o e' z => by
      have := Heap.lt_size (kpA b o e')
      rw [z] at this
      exact Nat.lt_irrefl _ this
    have hde : h₃.objs.size ≠ e := fun z => by
      have := Heap.lt_size he₃
      rw [← z] at this
      exact Nat.lt_irrefl _ this
    refine wpAny_execs_cons (attr_stmt (s := { s₁ with heap := h₄, toks := t₄ }) kind ((kof _).trans b5) ((kof _).trans b7) ns₄ v1 v3 ?_)
    have inst : h₄.Inst e K (fun y => if y = "kind" then some (.str k tk) else none) := ⟨_, he₄, rfl, (fun c z => nomatch z), .inr ⟨_, rfl, hde, nd₄⟩⟩
    refine store_attr PySem.F.store_Exception (kpB _ _ hC) (c3.keeps fun b o e' => kpB b o (r.base b o e')) c5 c9 noattr_text heK inst (fun h₅ t₅ I₅ kp₅ same₅ => ?_)
    obtain ⟨o₅, he₅, hc₅, hd₅, hsl₅, hdd₅⟩ := same₅ _ he₄
    obtain ⟨o₆, he₆, _, _, hN⟩ := I₅
    rw [he₅] at he₆; cases he₆
    have hdict := hdd₅ _ rfl
    have nd₅ : h₅.Ns1 h₃.objs.size (fun y => if y = "text" then some (.str tx tt) else if y = "kind" then some (.str k tk) else none) := by
      rcases hN with ⟨hN, _⟩ | ⟨d', hN, _, hN2⟩
      · rw [hdict] at hN; cases hN
      · rw [hdict] at hN; cases hN; exact hN2
    refine execs_nil_ok ?_
    have heo : o₅ = casObj K h₃.objs.size ta' := by
      obtain ⟨oc, od, odt, osl⟩ := o₅
      have z1 : oc = .ref K := hc₅
      have z2 : odt = .fields #[.ref ta', .none, .none, .none, .bool false, .none] := hd₅
      have z3 : osl = #[] := hsl₅
      have z4 : od = some h₃.objs.size := hdict
      rw [z1, z2, z3, z4]
    refine ⟨rfl, ?_⟩
    have hs₂ : ({ s₁ with heap := h₅, toks := t₅ } : Shared) = { heap := h₅, gens := g, drawn := dr, toks := t₅, os := os } := by rw [hs₁]
    show Q (.ref e) { s₁ with heap := h₅, toks := t₅ }
    rw [hs₂]
    refine h h₅ t₅ e h₃.objs.size ta' _ (fun b o e' => kp₅ b o (fun z => by rw [z, hm.new] at e'; cases e') (fun o₀ dx z1 z2 => ?_) (kpB b o e')) hm.new (by
      cases z : hp.get? h₃.objs.size with
      | none => rfl
      | some o => exact absurd rfl (hdnew _ o z)) (by rw [← heo]; exact he₅) nd₅.ns (by
      show (if ("kind" : Str) = "text" then _ else _) = _
      rw [if_neg (by decide +kernel), if_pos rfl])
    rw [he₄] at z1; cases z1
    cases z2
    exact hdnew b o e'
end
end Mine
end
section
set_option maxRecDepth 100000
open PySem PySem.W PyProof.Rows PySem.Calls
namespace Mine

section
variable {M : Model} {A : Around} {E : Value → Shared → Prop} {env : Env}
variable {nm q : Str} {K N : Addr} {bs bm : List Value} {hdct : Bool} {sn : List Str} {sub : List Value} {ab : Bool} {col : Option Bool} {dd : Option Addr} {k0 k1 k2 k3 k5 : Option Value} {newId : String}

theorem raise_cas {s : Shared} {x : Sem Value} {Q : Flow → Shared → Prop} (hbase : bm.contains (.type "BaseException") = true) (hh : A.handled = none)
    (h : wpAny M A x (fun v s₁ => ∃ e d t, v = .ref e ∧ s₁.heap.get? K = some (excClassObj nm q K N bs bm hdct sn sub ab col dd k0 k1 k2 k3 k5 newId) ∧ s₁.heap.get? e = some (casObj K d t) ∧ E (.ref e) s₁) E s) :
    wpAny M A (raiseStmt env (some x) none) Q E s := by
  have hcB : (Value.ref K :: bm).contains (.type "BaseException") = true := by rw [List.contains_cons, hbase, Bool.or_true]
  unfold raiseStmt
  refine wpAny_bind (wpAny_mono h (fun v s₁ h₁ => ?_) fun _ _ x => x)
  obtain ⟨e, dt, t, rfl, hC, he, hE⟩ := h₁
  obtain ⟨hp, g, d, tk, os⟩ := s₁
  repeat (first | with_reducible refine wpAny_loadPart_at he ?_ | with_reducible refine wpAny_loadPart_at hC ?_ | (with_reducible refine wpAny_isSubtype_exc hC ?_; rw [hcB]) | wp_step)
  exact wpAny_raiseNew_none hh hE
end

theorem funFrames_of {B h : Heap} : ∀ {frs : List Env}, (∀ fe ∈ frs, fe.scope.kind ≠ .module ∧ ∃ L m, fe.frame = some L ∧ B.get? L = none ∧ h.Ns L m) → h.FunFrames B frs
  | [], _ => trivial
  | fe :: r, hf => by
    obtain ⟨h1, L, m, h2, h3, ⟨o, es, ep, e, hd, _⟩⟩ := hf fe (.head _)
    exact ⟨h1, ⟨L, o, h2, h3, e, fun vs q => by rw [hd] at q; cases q⟩, funFrames_of fun x hx => hf x (.tail _ hx)⟩

section
variable {C : Cx} {A : Around} {E : Value → Shared → Prop} {s : Shared} {frs : List Env} {μ : List Addr} {σ σ' : St} {n : Nat} {env : Env} {ρ : PE} {F : Evs}

theorem flew_made {W : List Addr} {h₀ h' : Heap} {μ μ' : List Addr} {k : Str} {e K d t : Addr} {m : Str → Option Value} {tk : Tok} (r : Rel C frs μ' σ' h') (x : Ext C W h₀ μ h' μ') (hK : C.mg "CasFail" = some (.ref K)) (hn : h₀.get? e = none) (hB : C.B.get? e = none)
    (he : h'.get? e = some (casObj K d t)) (hd : h'.Ns d m) (hk : m "kind" = some (.str k tk)) (hdf : d ∉ framesOf frs) : Flew C W frs h₀ μ k σ' e μ' h' := by
  have hX : ∀ b ∈ e :: framesOf frs, b = e ∨ ∃ fe ∈ frs, fe.frame = some b := fun b hb => by
    rcases List.mem_cons.mp hb with rfl | hb
    · exact .inl rfl
    · obtain ⟨fe, hfe, hbf⟩ := List.mem_filterMap.mp hb
      exact .inr ⟨fe, hfe, hbf⟩
  have hfr : ∀ fe ∈ frs, ∀ b, fe.frame = some b → C.B.get? b = none ∧ ∃ o es ep, h'.get? b = some o ∧ o.data = .dict es ep := fun fe hfe b hb => by
    obtain ⟨_, L, m', h2, h3, ⟨o, es, ep, e1, hd1, _⟩⟩ := r.frames fe hfe
    rw [hb] at h2; cases h2
    exact ⟨h3, o, es, ep, e1, hd1⟩
  have kb : KeepBut (e :: framesOf frs) h' (hideAll h' (e :: framesOf frs)) := fun b o hb ho => hideAll_get _ ho hb
  have r0 : Rel C [] μ' σ' h' := ⟨r.base, r.len, r.nodup, r.fresh, r.items, r.tabs, fun fe hfe => nomatch hfe⟩
  have lo : Loose C [] μ' (e :: framesOf frs) h' := by
    refine ⟨fun b hb => ?_, fun b hb q => ?_, fun b hb fe hfe => (nomatch hfe), fun b hb o ho => ?_, fun b hb o ho => ?_⟩
    · rcases hX b hb with rfl | ⟨fe, hfe, hbf⟩
      · exact hB
      · exact (hfr fe hfe b hbf).1
    · obtain ⟨_, _, vs, kk, _, _, e1, _⟩ := r.list_of_mem q
      rcases hX b hb with rfl | ⟨fe, hfe, hbf⟩
      · rw [he] at e1; cases e1
      · obtain ⟨_, o, es, ep, e2, hd2⟩ := hfr fe hfe b hbf
        rw [e1] at e2; cases e2; cases hd2
    · rcases hX b hb with rfl | ⟨fe, hfe, hbf⟩
      · rw [he] at ho; cases ho
        exact ⟨.inl (fun z => nomatch z), .inl (fun z => nomatch z)⟩
      · obtain ⟨_, o', es, ep, e2, hd2⟩ := hfr fe hfe b hbf
        rw [ho] at e2; cases e2
        exact ⟨.inr fun vs n z => by (rw [hd2] at z; cases z), .inr fun vs z => by (rw [hd2] at z; cases z)⟩
    · rcases hX b hb with rfl | ⟨fe, hfe, hbf⟩
      · rw [he] at ho; cases ho
        exact ⟨.inl (fun z => nomatch z), fun vs q t z => by cases z; simp⟩
      · obtain ⟨_, o', es, ep, e2, hd2⟩ := hfr fe hfe b hbf
        rw [ho] at e2; cases e2
        exact ⟨.inr fun vs z => by (rw [hd2] at z; cases z), fun vs q t z => by rw [hd2] at z; cases z⟩
  refine ⟨r, x, hn, hideAll h' (e :: framesOf frs), r0.loose lo kb, fun b o ho => ?_, ⟨fun b o q => of_hideAll _ q, hideAll_none _ (.head _), funFrames_of fun fe hfe => ?_, ?_⟩⟩
  · by_cases hb : b ∈ framesOf frs
    · exact .inr hb
    · obtain ⟨o', ho'⟩ := x.alive b o ho
      refine .inl ⟨o', hideAll_get _ ho' fun q => ?_⟩
      rcases List.mem_cons.mp q with rfl | q
      · rw [hn] at ho; cases ho
      · exact hb q
  · obtain ⟨h1, L, m', h2, h3, h4⟩ := r.frames fe hfe
    exact ⟨h1, L, m', h2, hideAll_none _ (.tail _ (List.mem_filterMap.mpr ⟨fe, hfe, h2⟩)), h4⟩
  · exact ⟨_, _, d, m, tk, he, hK, rfl, rfl, hd, hk, hdf, by simp, .inl rfl⟩

theorem raise_ok (cas : CasOk C) (ok : C.Ok) (S : Sound C n F) (aok : AOk A n frs) (r : Rel C frs μ σ s.heap) (e : EnvRel C s.heap μ env ρ) {x c : Option Expr} {pos : Pos} {o : Out (Fl × Vars)} {Q : Flow → Shared → Prop} (hx : evS F (.Raise x c pos) ρ σ = some o)
    (h : PostS C frs s μ env ρ o Q E) : wpAny (MM C) A (exec (.Raise x c pos) env) Q E s := by
  refine raise_inv hx fun y a b k σ₁ m σ₂ ex ec hab h1 h2 l1 l2 hq => ?_
  subst ex ec hq
  refine raise_elim (P := fun y => wpAny (MM C) A (exec (.Raise (some y) none pos) env) Q E s) hab fun np cpos hg hsa hsb => ?_
  obtain ⟨nm, q, K, N, bs, sn, sub, ab, col, dd, k0, k1, k2, k3, k5, mN, fI, oI, fd, d, c1, c2, c3, c4, c5, c6, c7, c8, c9, c10, c11, c12, c13, c14, c15, c16, c17, c18, c19, c20, c21, c22⟩ := cas.there
  rw [arm_exec_Raise]
  refine wpAny_bind (wpAny_standAt ?_)
  show wpAny (MM C) A (raiseStmt env (some (do let v ← eval (.Call (.Name "CasFail" np) [a, b] [] cpos) env; standAt pos; pure v)) none) Q E s
  refine raise_cas (K := K) (nm := nm) (q := q) (N := N) (bs := bs) (bm := excMro) (hdct := true) (sn := sn) (sub := sub) (ab := ab) (col := col) (dd := dd) (k0 := k0) (k1 := k1) (k2 := k2) (k3 := k3) (k5 := k5) (newId := "Exception.__new__") (by decide +kernel) aok.handled ?_
  have he : starEach [a, b] env = [(false, eval a env), (false, eval b env)] := by
    have e2 : starEach [b] env = [(false, eval b env)] := by cases b <;> first | rfl | cases hsb
    rw [← show (false, eval a env) :: starEach [b] env = [(false, eval a env), (false, eval b env)] by rw [e2]]
    cases a <;> first | rfl | cases hsa
  refine wpAny_bind (wpAny_Call_NameR (global_ok ok r e hg c1 (by decide +kernel) ?_))
  rw [he]
  show wpAny (MM C) A (callWith cpos (.ref K) [] [(false, eval a env), (false, eval b env)] []) _ E s
  unfold callWith
  refine wpAny_bind (wpAny_holding (evalArgs_plain (spliced_cons (S.v aok r e h1 fun vk h' t' μ' r' x' hvk => spliced_cons (S.v (s := { s with heap := h', toks := t' }) aok r' (e.ext0 r x') h2 fun vm h'' t'' μ'' r'' x'' hvm => spliced_nil (wpAny_bind (wpAny_standAt ?_)))))))
  obtain ⟨tk, rfl⟩ := hvk
  obtain ⟨tm, rfl⟩ := hvm
  show wpAny (MM C) A (do
    let r ← match ← keeperOf (.ref K), false with
      | .frame, true => _
      | .frame, false => _
      | .boundFrame, false => _
      | .machine, false => _
      | _, _ => _
    holding [r] point
    pure r) _ E _
  refine wpAny_bind (wpAny_keeperOf_exc (r''.base _ _ c2) ?_)
  refine wpAny_bind (make_ok (s := { s with heap := h'', toks := t'' }) cas ok aok.handled (by have := aok.depth; exact fm [_, _] [] [.nlt (.a (.v 0) (.m 3 (.v 1))) (.l 900)] (.nlt (.a (.v 0) (.l 2)) (.l 1000)) [[1, 1]] rfl this) r'' c1 l1 l2 fun h₃ t₃ ee d t2 mm kp hnew hnewd hee hdd hkk => ?_)
  refine wpAny_bind (wpAny_holding (wpAny_point (wpAny_pure (wpAny_bind (wpAny_standAt (wpAny_pure ?_))))))
  refine ⟨ee, d, t2, rfl, kp _ _ (r''.base _ _ c2), hee, ?_⟩
  have x3 : Ext C [] s.heap μ h₃ μ'' := (x'.trans x'').trans (Ext.of_keeps kp)
  exact h ee h₃ t₃ μ'' (flew_made (r''.keeps kp) x3.wide c1 (none_back (x'.trans x'') hnew) (r''.base_none hnew) hee hdd hkk fun q => by
    obtain ⟨fe, hfe, hbf⟩ := List.mem_filterMap.mp q
    obtain ⟨_, L, m', h2, _, ⟨o, es, ep, e1, _⟩⟩ := r''.frames fe hfe
    rw [hbf] at h2; cases h2
    rw [hnewd] at e1; cases e1)
end
end Mine
end
section
set_option maxRecDepth 100000
open PySem PySem.W PyProof.Rows PySem.Calls
namespace Mine

theorem exc_mro : mroOf (.type "Exception") = pure excMro := by kernel_rfl
theorem exc_noGetattr : typeLookup (.type "Exception") "__getattr__" = pure none := by rw [typeLookup_type, builtinLookup_eq_fast]; kernel_rfl
theorem exc_ga : Slot "Exception" "__getattribute__" "BaseException.__getattribute__" :=
  .of (owner := "BaseException") (n := "__getattribute__") (by rw [typeLookup_type, builtinLookup_eq_fast]; kernel_rfl) (by decide +kernel) (by decide +kernel) (by decide +kernel)
    (by first | exact .inl (by decide +kernel) | exact .inr (by decide +kernel)) (by rw [isSubtype_type]; kernel_rfl)

section
variable {prog : Program} {w : World} {A : Around} {E : Value → Shared → Prop} {h : Heap} {g : Array GenState} {d : Drawn} {t : Nat} {os : OsState} {a : Addr} {o : Obj} {vs : Array Value} {dx : Addr}
  {nm q : Str} {C N : Addr} {bs : List Value} {sn : List Str} {sub : List Value} {ab : Bool} {col : Option Bool} {dd : Option Addr} {k0 k1 k2 k3 k5 : Option Value} {mN m : Str → Option Value} {v : Value}

theorem kind_entry {tk : Tok} {Q : Fin → Shared → Prop} (hC : h.get? C = some (excClassObj nm q C N bs excMro true sn sub ab col dd k0 k1 k2 k3 k5 "Exception.__new__")) (hN : h.Ns N mN) (hk : mN "kind" = none)
    (hx : h.get? a = some o) (hc : o.cls = .ref C) (hd : o.data = .fields vs) (hdx : o.dict = some dx) (hns : h.Ns dx m) (hv : m "kind" = some v) (hq : Q (.done (.ret v)) ⟨h, g, d, t, os⟩) :
    wpAny (model prog w) A (Builtin.«object.__getattribute__» ⟨[.ref a, .str "kind" tk], []⟩) Q E ⟨h, g, d, t, os⟩ := by
  unfold Builtin.«object.__getattribute__»
  repeat (any_goals (first | assumption | (with_reducible refine wpAny_loadPart_at hx ?_; rw [hc]) | (with_reducible refine wpAny_typeLookup_exc hC hN exc_mro noattr_kind ?_; rw [hk]) | (with_reducible refine wpAny_nsGet hns ?_; rw [hv]) | wp_step))
  rw [hd]
  unfold instanceDict
  repeat (first | (with_reducible refine wpAny_loadPart_at hx ?_; rw [hc]) | with_reducible refine wpAny_loadPart_at hC ?_ | wp_step)
  rw [hdx]
  repeat (first | (with_reducible refine wpAny_nsGet hns ?_; rw [hv]) | wp_step)
  exact hq

theorem kind_check {M : Model} {nameV : Value} {Q : Unit → Shared → Prop} (hC : h.get? C = some (excClassObj nm q C N bs excMro true sn sub ab col dd k0 k1 k2 k3 k5 "Exception.__new__"))
    (hx : h.get? a = some o) (hc : o.cls = .ref C) (hq : Q () ⟨h, g, d, t, os⟩) : wpAny M A (checkBuiltinCall "BaseException.__getattribute__" ⟨[.ref a, nameV], []⟩) Q E ⟨h, g, d, t, os⟩ := by
  have hk : builtinKind "BaseException.__getattribute__" = some .slot := by decide +kernel
  have hsplit : splitId "BaseException.__getattribute__" = some ("BaseException", "__getattribute__") := by decide +kernel
  have hcB : (Value.ref C :: excMro).contains (.type "BaseException") = true := by
    have : excMro.contains (.type "BaseException") = true := by decide +kernel
    rw [List.contains_cons, this, Bool.or_true]
  have ha := PySem.F.args_bexc_ga (.ref a) nameV
  simp only [checkBuiltinCall, hk, hsplit]
  refine wpAny_bind ?_
  · unfold isInstance
    repeat (first | (with_reducible refine wpAny_loadPart_at hx ?_; rw [hc]) | (with_reducible refine wpAny_isSubtype_exc hC ?_; rw [hcB]) | wp_step)
    exact hq

theorem kind_attr {expr : Bool} {Q : Value → Shared → Prop} (hC : h.get? C = some (excClassObj nm q C N bs excMro true sn sub ab col dd k0 k1 k2 k3 k5 "Exception.__new__")) (hN : h.Ns N mN) (hk : mN "kind" = none)
    (hg1 : mN "__getattribute__" = none) (hg2 : mN "__getattr__" = none) (hx : h.get? a = some o) (hc : o.cls = .ref C) (hd : o.data = .fields vs) (hdx : o.dict = some dx) (hns : h.Ns dx m) {k : Str} {tk : Tok} (hv : m "kind" = some (.str k tk))
    (hq : ∀ t', Q (.str k tk) ⟨h, g, d, t', os⟩) : wpAny (model prog w) A (getAttr (.ref a) "kind" expr) Q E ⟨h, g, d, t, os⟩ := by
  have f3 := exc_ga.bind (.ref a)
  have hx0 : (expr && onTheHeap (Value.builtin "BaseException.__getattribute__")) = false := by cases expr <;> rfl
  have hx2 : (Value.builtin "BaseException.__getattribute__" == Value.builtin "object.__getattribute__") = false := by decide +kernel
  have hx1 : (onTheHeap (Value.ref C) && Value.builtin "BaseException.__getattribute__" == Value.builtin "object.__getattribute__") = false := by rw [hx2]; rfl
  unfold getAttr getAttrBy
  repeat (any_goals (first | assumption | (with_reducible refine wpAny_loadPart_at hx ?_; rw [hc]) | (with_reducible refine wpAny_typeLookup_exc hC hN exc_mro exc_ga.lookup ?_; rw [hg1]) | (with_reducible refine wpAny_typeLookup_exc hC hN exc_mro exc_noGetattr ?_; rw [hg2]) | wp_step))
  refine codeAny_call_builtin exc_ga.plain PySem.F.entry_bexc_ga (kind_check hC hx hc (kind_entry hC hN hk hx hc hd hdx hns hv ?_))
  repeat (any_goals (first | assumption | wp_step))
  exact hq _
end
end Mine
end
section
set_option maxRecDepth 100000
open PySem PySem.W PyProof.Rows PySem.Calls
namespace Mine

section
variable {C : Cx} {A : Around} {s : Shared} {frs : List Env} {μ : List Addr} {σ σ' : St} {env : Env}

theorem caught_ok (cas : CasOk C) (ok : C.Ok) {h₀ : Heap} (r0 : Rel C frs μ σ h₀) {L : Addr} (hL : h₀.get? L = none) (hfr : A.frames = some (env :: frs)) (hf : env.frame = some L) (hloc : env.locals = L) (hkind : env.scope.kind = .function)
    (hg : env.globals = mainGlobals) (hw : env.kindOf "wrong" = some .local) (hcf : env.kindOf "CasFail" = some .globalImplicit) {W : List Addr} {k : Str} {e : Addr} {μ' : List Addr} (x : Flew C W (env :: frs) h₀ μ k σ' e μ' s.heap)
    {np wp ap rp hp : Pos} {Q : Flow → Shared → Prop} {E : Value → Shared → Prop} (hQ : ∀ h' t' tk, Rel C frs μ' σ' h' → Ext C W h₀ μ h' μ' → Q (.ret (.str k tk)) { s with heap := h', toks := t' }) :
    wpAny (MM C) A (noteFrame (.ref e) env) (fun _ s₂ => wpAny (MM C) A (setFlight (.ref e) none) (fun _ s₃ =>
      wpAny (MM C) A (handleBy (.ref e) env [.ExceptHandler (some (.Name "CasFail" np)) (some "wrong") [.Return (some (.Attribute (.Name "wrong" wp) "kind" ap)) rp] hp]) Q E s₃) E s₂) E s := by
  obtain ⟨B, rB, al, th⟩ := x.body
  obtain ⟨oe, d, m, t, hr, hc, hd, hN, hk, hdf⟩ := th.record
  obtain ⟨nm, q, K, N, bs, sn, sub, ab, col, dd, k0, k1, k2, k3, k5, mN, fI, oI, fd, dI, c1, c2, c3, c4, c5, c6, c7, c8, c9, c10, c11, c12, c13, c14, c15, c16, c17, c18, c19, c20, c21, c22⟩ := cas.there
  rw [c1] at hc
  have hcls : oe.cls = .ref K := (Option.some.inj hc).symm
  refine note_own hfr th.frames hf th.stays th.new hr fun h₁ a1 a2 a3 a4 => ?_
  refine flight_own (s := { s with heap := h₁ }) (to := none) a1 a2 th.new a3 fun h₂ b1 b2 b3 b4 => ?_
  have atC : ∀ {h : Heap}, B.StaysIn h → h.get? K = some (excClassObj nm q K N bs excMro true sn sub ab col dd k0 k1 k2 k3 k5 "Exception.__new__") ∧ h.Ns N mN ∧ h.Ns mainGlobals C.mg := fun hB =>
    ⟨hB _ _ (rB.base _ _ c2), c3.keeps fun b o q => hB b o (rB.base b o q), ok.g.keeps fun b o q => hB b o (rB.base b o q)⟩
  refine wpAny_handleBy_cons (codeAny_handlers_test (Name_function_global hkind hcf (loadGlobal_global (mg := C.mg) (by rw [hg]; exact (atC b1).2.2) c1 ?_))) (by intro q; cases q)
  obtain ⟨oe', vs', T, oT, ts, y1, y2, y3, y4, _⟩ := id b3
  refine wpAny_excMatches_sub_self (atC b1).1 y1 (y2.trans hcls) (by decide +kernel) (codeAny_handlers_suite_as ?_)
  refine flight_own (s := { s with heap := h₂ }) (to := none) b1 b2 th.new b3 fun h₃ d1 d2 d3 d4 => ?_
  have up : s.heap.UpToSlots h₃ := (a4.trans b4).trans d4
  obtain ⟨r3, x3⟩ := x.move (frs' := env :: frs) rB al th.stays d1 up th.frames fun fe hfe => hfe
  obtain ⟨_, L', m', h2, hBL, hnL⟩ := r3.frames env (.head _)
  rw [hf] at h2; cases h2
  have r3' : Rel C frs μ' σ' h₃ := ⟨r3.base, r3.len, r3.nodup, r3.fresh, r3.items, r3.tabs, fun fe hfe => r3.frames fe (List.mem_cons_of_mem _ hfe)⟩
  have lo : Loose C frs μ' [L] h₃ := dict_loose (s := { s with heap := h₀ }) r0 hL hnL r3.lists
  have pk : (env.scope.kind == .class || (env.scope.kind == .module && env.locals != env.globals)) = false := by rw [hkind]; rfl
  refine wpAny_storeName_local (s := { s with heap := h₃ }) hw (by rw [hloc]; exact hnL) (fun h₄ hn₄ hs₄ => ?_) pk
  rw [hloc] at hn₄ hs₄
  obtain ⟨oe₃, vs₃, T₃, oT₃, ts₃, z1, z2, z3, z4, _⟩ := d3
  have heL : e ≠ L := fun q => by
    obtain ⟨o', es, ep, e1, hd1, _⟩ := hnL
    rw [← q, z1] at e1; cases e1; rw [z4] at hd1; cases hd1
  have hdL : d ≠ L := fun q => hdf (List.mem_filterMap.mpr ⟨env, .head _, by rw [q]; exact hf⟩)
  have hLB : B.get? L = none := by
    obtain ⟨_, ⟨L', o, q1, q2, _⟩, _⟩ := th.frames
    rw [hf] at q1; cases q1
    exact q2
  have B4 : B.StaysIn h₄ := fun b o q => (hs₄.2 b fun z => by rw [z, hLB] at q; cases q).trans (d1 b o q)
  refine wpAny_execs_cons (wpAny_Return_some (Attribute_name (wpAny_Name (wpAny_loadName_local hkind hw (by rw [hloc]; exact hn₄) (v := .ref e) (by simp) ?_) (by decide +kernel))))
  refine kind_attr (atC B4).1 (atC B4).2.1 c8 c6 c7 ((hs₄.2 e heL).trans z1) (z2.trans hcls) z4 (z3.trans hd) (m := m) ((up.ns hN).sameBut hs₄ hdL) hk fun t' => ?_
  refine wpAny_nameGoes (s := { s with heap := h₄, toks := t' }) hw (by rw [hloc]; exact hn₄) pk fun h₅ m₅ hn₅ hs₅ => ?_
  rw [hloc] at hs₅
  have kb : KeepBut [L] h₃ h₅ := keepBut_of_sameBut (hs₄.trans hs₅)
  exact hQ _ _ _ (r3'.loose lo kb) (x3.but (fun b hb => by simp at hb; rw [hb]; exact hL) kb)
end
end Mine
end
section
set_option maxRecDepth 100000
open PySem PySem.W PyProof.Rows PySem.Calls
namespace Mine

theorem codeAmong_more {pos p : Pos} {c cv : Value} (l : List Value) (h : TriplesOk l) (hf : codeAmong pos (l ++ [rawInt p.line, rawInt p.col, c]) = some cv) : codeAmong pos l = some cv ∨ cv = c := by
  fun_induction TriplesOk l with
  | case1 =>
    simp only [List.nil_append, rawInt, codeAmong] at hf
    exact ite1 hf fun _ hf => by cases hf; exact .inr rfl
  | case2 a t b u x rest ih =>
    simp only [List.cons_append, codeAmong] at hf ⊢
    by_cases hc : (a == pos.line && b == pos.col) = true
    · rw [if_pos hc] at hf ⊢; cases hf; exact .inl rfl
    · rw [if_neg hc] at hf ⊢; exact ih h hf
  | case3 l h1 h2 => exact h.elim

section
variable {C : Cx} {A : Around} {s : Shared} {frs : List Env} {μ : List Addr} {σ σ' : St} {env : Env} {ρ : PE}

theorem Rel.tab_put {h h' : Heap} (r : Rel C frs μ σ h) (ok : C.Ok) {t : Tab} (ht : t ∈ C.tabs) {ps : Array Value} (hP : h.get? t.P = some (tabObj ps)) (hx : Heap.ExtBut t.P h h') (hP' : ∃ ps', h'.get? t.P = some (tabObj ps')) (htab : TabOk h' t) :
    Rel C frs μ σ h' ∧ Ext C [] h μ h' μ := by
  have hT : t.P ∈ C.T := List.mem_map_of_mem ht
  have x : Ext C [] h μ h' μ := ⟨⟨[], by simp⟩, fun a ha => .inl ha, fun b o e hb => .inl (hx b o (fun q => hb (by rw [q]; simp [hT])) e), fun b o e => by
    by_cases q : b = t.P
    · obtain ⟨ps', h1⟩ := hP'
      exact ⟨_, q ▸ h1⟩
    · exact ⟨o, hx b o q e⟩⟩
  have hb : ∀ b o, h.get? b = some o → o ≠ tabObj ps → h'.get? b = some o := fun b o e hne => hx b o (fun q => by rw [q, hP] at e; cases e; exact hne rfl) e
  refine ⟨⟨fun b o e => hx b o (fun q => by rw [q, (ok.heads t ht).2.2] at e; cases e) (r.base b o e), r.len, r.nodup, r.fresh, fun i l e => ?_, fun t' ht' => ?_, fun fe he => ?_⟩, x⟩
  · obtain ⟨a, vs, n, e1, e2, e3⟩ := r.items i l e
    exact ⟨a, vs, n, e1, hb a _ e2 (fun q => by cases q), VRs.ext r x WOk.nil e3⟩
  · by_cases q : t'.P = t.P
    · rw [ok.tabinj t' ht' t ht q]; exact htab
    · obtain ⟨ps₂, h1, h2, h3⟩ := r.tabs t' ht'
      refine ⟨ps₂, hx _ _ q h1, h2, fun pos cv e => ?_⟩
      obtain ⟨c, o, ws, tk, e', g, hd, hq⟩ := h3 pos cv e
      refine ⟨c, o, ws, tk, e', hx c o (fun z => ?_) g, hd, hq⟩
      rw [z, hP] at g; cases g
      cases hd
      obtain ⟨ps₃, g1, g2, _⟩ := r.tabs t ht
      rw [hP] at g1; cases g1
      have e5 : ps.toList[1]? = some (.str t'.q tk) := by simpa using hq
      generalize ps.toList = l at g2 e5
      match l, g2, e5 with
      | .int _ _ :: .int _ _ :: _ :: _, _, e5 => simp at e5
  · obtain ⟨h1, L, m, h2, h3, ⟨o, es, ep, e, hd, hk, hm⟩⟩ := r.frames fe he
    exact ⟨h1, L, m, h2, h3, ⟨o, es, ep, hb L o e (fun q => by rw [q] at hd; cases hd), hd, hk, hm⟩⟩

structure LamFn (h : Heap) (body : Expr) (sc : Scope) (cl : List (Str × Addr)) (f : Addr) (fd : FuncData) : Prop where
  there : h.get? f = some { cls := .type "function", data := .func fd }
  params : fd.params = ⟨[], [], none, [], [], none, []⟩
  body : fd.body = .expr body
  scope : fd.scope = sc
  closure : fd.closure = cl
  globals : fd.globals = mainGlobals
  builtins : fd.builtins = builtinsNs
  defaults : fd.defaults = .none
  code : h.CodeRec fd.code fd.qualname

theorem lambda_ok (ok : C.Ok) (r : Rel C frs μ σ s.heap) (e : EnvRel C s.heap μ env ρ) (hlam : ρ.lam = true) {body : Expr} {sc : Scope} {pos : Pos} (hfr : freeOk ρ sc.names = true) {Q : Value → Shared → Prop} {E : Value → Shared → Prop}
    (h : ∀ f fd h' t', Rel C frs μ σ h' → Ext C [] s.heap μ h' μ → s.heap.get? f = none → LamFn h' body sc (clOf env sc.names) f fd → Q (.ref f) { s with heap := h', toks := t' }) :
    wpAny (MM C) A (eval (.Lambda ⟨[], [], none, [], [], none, []⟩ body sc pos) env) Q E s := by
  obtain ⟨t, ht, hcode, hqual⟩ := e.lam hlam
  obtain ⟨ps, hP, hok, hcodes⟩ := r.tabs t ht
  obtain ⟨hC, hB, hPn⟩ := ok.heads t ht
  have gs : s.heap.Ns mainGlobals C.mg := ok.g.keeps r.base
  have hgP : mainGlobals ≠ t.P := fun q => by
    obtain ⟨o, es, ep, e1, hd, _⟩ := gs
    rw [q, hP] at e1; cases e1; cases hd
  have hBs : s.heap.BuiltinsAt C.mg t.P := by
    obtain ⟨bm, ob, b1, b2, b3, b4, b5, rest⟩ := hB
    exact ⟨bm, ob, b1, b2, b3, b4, r.base _ _ b5, rest⟩
  refine kla_eval rfl ?_
  cases hca : codeAmong pos ps.toList with
  | none =>
    refine kla_makeFunction (mg := C.mg) (closureOf e hfr) e.globals gs hcode (hC.keeps r.base) hP hok hca hgP hBs fun c' ctv h' tk hx hge hlt hrec htb => ?_
    have htab : TabOk h' t := by
      refine ⟨_, htb, ?_, fun p cv hcv => ?_⟩
      · rw [Array.toList_append]; exact TriplesOk_snoc _ _ _ _ hok
      · rw [Array.toList_append] at hcv
        rcases codeAmong_more _ hok hcv with h1 | h1
        · obtain ⟨c, o, ws, tk', e', g, hd, hq⟩ := hcodes p cv h1
          refine ⟨c, o, ws, tk', e', hx c o (fun z => ?_) g, hd, hq⟩
          rw [z, hP] at g; cases g
          cases hd
          have e5 : ps.toList[1]? = some (.str t.q tk') := by simpa using hq
          generalize ps.toList = l at hok e5
          match l, hok, e5 with
          | .int _ _ :: .int _ _ :: _ :: _, _, e5 => simp at e5
        · rw [h1, ← hqual]; exact hrec
    obtain ⟨r', x'⟩ := r.tab_put ok ht hP hx ⟨_, htb⟩ htab
    have kp : ∀ (o : Obj) b o', h'.get? b = some o' → (h'.push o).get? b = some o' := fun o b o' e => Heap.get?_push_of_some _ e
    refine h h'.objs.size _ _ tk (r'.keeps (kp _)) (x'.trans (Ext.of_keeps (kp _))) (none_back x' (get?_size _)) ⟨Heap.get?_push_size _ rfl, rfl, rfl, rfl, rfl, rfl, rfl, rfl, hrec.keeps (kp _)⟩
  | some cv =>
    have hrec := hcodes pos cv hca
    refine kla_makeFunctionHit (mg := C.mg) (closureOf e hfr) e.globals gs hcode (hC.keeps r.base) hP hok hca hBs fun ctv h' tk hk hsz => ?_
    have kp : ∀ (o : Obj) b o', s.heap.get? b = some o' → (h'.push o).get? b = some o' := fun o b o' e => Heap.get?_push_of_some _ (hk b o' e)
    refine h h'.objs.size _ _ tk (r.keeps (kp _)) (Ext.of_keeps (kp _)) ?_ ⟨Heap.get?_push_size _ rfl, rfl, rfl, rfl, rfl, rfl, rfl, rfl, ?_⟩
    · cases q : s.heap.get? h'.objs.size with
      | none => rfl
      | some o => exact absurd (Heap.lt_size (hk _ _ q)) (Nat.lt_irrefl _)
    · rw [← hqual] at hrec; exact hrec.keeps (kp _)
end
end Mine
end
section
set_option maxRecDepth 100000
open PySem PySem.W PyProof.Rows PySem.Calls
namespace Mine

theorem cellsFrom_nil : ∀ (names : List (Str × NameKind)) (n : Nat), (∀ x ∈ names, x.2 ≠ .cell) → cellsFrom n names [] = []
  | [], _, _ => rfl
  | (x, k) :: r, n, h => by
    simp only [cellsFrom]
    rw [if_neg (by have := h (x, k) (.head _); simpa using this)]
    exact cellsFrom_nil r n fun y hy => h y (.tail _ hy)

section
variable {C : Cx} {A : Around} {s : Shared} {frs : List Env} {μ : List Addr} {σ σ' : St} {env : Env} {ρ : PE} {n : Nat} {F : Evs}

theorem lamCall_ok (ok : C.Ok) (S : Sound C n F) (hdep : A.depth < 999) {h₀ : Heap} {frs₀ : List Env} {μ₀ : List Addr} {σ₀ : St} (r : Rel C frs μ σ s.heap) (e : EnvRel C s.heap μ env ρ) {body : Expr} {sc : Scope} (hsc : scopeOk sc = true) (hfr : freeOk ρ sc.names = true)
    (hnc : ∀ x ∈ sc.names, x.2 ≠ .cell) {f : Addr} {fd : FuncData} (lf : LamFn s.heap body sc (clOf env sc.names) f fd) (aok : ∀ envL, AOk (A.deeper envL) n (envL :: frs)) {o : Out PV} (hx : F.e body (inner ρ sc.names) σ = some o) {Q E : Value → Shared → Prop}
    (hframes : A.frames = some frs) (h : PostV C frs s μ o Q E) : wpAny (MM C) A (call (.ref f) []) Q E s := by
  obtain ⟨f1, f2, f3, f4, f5⟩ := scope_facts hsc
  have hroom : A.depth < recursionLimit := by
    have : recursionLimit = 1000 := rfl
    exact fm [_, _] [] [.nlt (.v 0) (.l 999), .neq (.v 1) (.l 1000)] (.nlt (.v 0) (.v 1)) [[1, 0, 1, 1]] rfl hdep this
  have hb : bindArgs fd ⟨[], []⟩ = pure [] := bindArgs_plain (kwd := []) (dfl := []) (args := []) lf.params lf.defaults List.nodup_nil rfl
  refine wpAny_call (kla_callFunE hroom lf.there rfl (by rw [lf.scope]; exact f4) (by rw [lf.scope]; exact f3) lf.body lf.code ?_)
  rw [hb]
  refine wpAny_pure (wpAny_newFunctionEnv (by rw [lf.scope]; exact hnc) (fun x hx => nomatch hx) (fun h₁ hns hsb => ⟨((ok.nolimit).keeps r.base).fresh _ hsb, ?_⟩) (by rw [lf.scope]; exact f1))
  have kp₁ : ∀ b o, s.heap.get? b = some o → h₁.get? b = some o := fun b o e => hsb.extBut b o (Nat.ne_of_lt (Heap.lt_size e)) (Heap.get?_push_of_some _ e)
  have gone : ∀ b, s.heap.objs.size ≤ b → s.heap.get? b = none := fun b hb => by
    cases q : s.heap.get? b with
    | none => rfl
    | some o => exact absurd (Heap.lt_size q) (Nat.not_lt.mpr hb)
  generalize henvL : newEnv fd.scope s.heap.objs.size fd.globals fd.closure (fd.qualname ++ ".<locals>.") (some f) fd.code none fd.builtins = envL
  have q1 : envL.scope = sc := by rw [← henvL]; exact lf.scope
  have q2 : envL.locals = s.heap.objs.size := by rw [← henvL]; rfl
  have q3 : envL.globals = mainGlobals := by rw [← henvL]; exact lf.globals
  have q4 : envL.cells = cellsFrom (s.heap.objs.size + 1) sc.names [] ++ clOf env sc.names := by
    rw [cellsFrom_nil _ _ hnc, List.nil_append, ← henvL]; exact lf.closure
  have q5 : envL.builtins = builtinsNs := by rw [← henvL]; exact lf.builtins
  have q6 : envL.frame = some s.heap.objs.size := by rw [← henvL]; rfl
  have N : NewCells s.heap s.heap.objs.size sc.names h₁ := ⟨kp₁, rfl, hns, fun x c hm => (by rw [cellsFrom_nil _ _ hnc] at hm; exact (nomatch hm)), by rw [cellsFrom_nil _ _ hnc]; exact List.Pairwise.nil⟩
  obtain ⟨eI, wI⟩ := inner_ok (s := s) (h' := h₁) r e hsc hfr N (env' := envL) (fun x => ⟨fun _ => by show envL.scope.names.lookup x = _; rw [q1], fun q => .inr (by show envL.scope.names.lookup x = _; rw [q1]; exact q)⟩) (by rw [q1]; exact f1) q3 q5 q2 q4
  have ext1 : Ext C [] s.heap μ h₁ μ := Ext.of_keeps kp₁
  have r₁ : Rel C (envL :: frs) μ σ h₁ := by
    have r' := r.keeps kp₁
    refine ⟨r'.base, r'.len, r'.nodup, r'.fresh, r'.items, r'.tabs, fun fe hfe => ?_⟩
    rcases List.mem_cons.mp hfe with rfl | hfe
    · exact ⟨by rw [q1, f1]; decide, _, _, q6, r.base_none (gone _ (Nat.le_refl _)), hns⟩
    · exact r'.frames fe hfe
  refine kla_codeExpr (S.e (s := { s with heap := h₁, toks := s.toks + ([] : List (Str × Value)).length }) (aok envL) r₁ eI hx ?_)
  cases o with
  | ok p σ₁ =>
    intro v h' t' μ' r' x' hv
    exact h v h' t' μ' ⟨r'.base, r'.len, r'.nodup, r'.fresh, r'.items, r'.tabs, fun fe hfe => r'.frames fe (List.mem_cons_of_mem _ hfe)⟩ (ext1.trans x') hv
  | exc k σ₁ =>
    intro e' h' t' μ' fl
    refine leaving_ok (s := { s with heap := h', toks := t' }) (A := A.deeper envL) (Around.frames_deeper hframes) q6 (fl.back ext1) (gone _ (Nat.le_refl _)) fun h'' fl' => ?_
    exact h e' h'' t' μ' fl'
end
end Mine
end
section
set_option maxRecDepth 100000
open PySem PySem.W PyProof.Rows PySem.Calls
namespace Mine

inductive AskedShape (d : Fn) : Prop
  | mk (p1 p2 p3 p4 p5 p6 p7 p8 p9 : Pos)
      (c1 : d.body = [.Try [.Return (some (.Call (.Name "doing" p1) [] [] p2)) p3] [.ExceptHandler (some (.Name "CasFail" p4)) (some "wrong") [.Return (some (.Attribute (.Name "wrong" p5) "kind" p6)) p7] p8] [] [] p9])
      (c2 : d.params.args.map (·.arg) = (["doing"] : List Str))
      (c3 : fnOk d = true)
      (c4 : d.scope.names.lookup ("doing" : Str) = some .local)
      (c5 : d.scope.names.lookup ("wrong" : Str) = some .local)
      (c6 : d.scope.names.lookup ("CasFail" : Str) = some .globalImplicit)
      (c7 : ∀ x ∈ d.scope.names, x.2 ≠ .cell) : AskedShape d
theorem asked_shape {d : Fn} (h : fnOf "_law_asked" = some d) : AskedShape d := by
  have e : fnOf "_law_asked" = some ((fnOf "_law_asked").get (by decide +kernel)) := by simp
  rw [e] at h
  cases h
  exact ⟨_, _, _, _, _, _, _, _, _, rfl, by decide +kernel, by decide +kernel, by decide +kernel, by decide +kernel, by decide +kernel, by decide +kernel⟩

theorem LamFn.keeps {h h' : Heap} {body : Expr} {sc : Scope} {cl : List (Str × Addr)} {f : Addr} {fd : FuncData} (x : LamFn h body sc cl f fd) (k : ∀ b o, h.get? b = some o → h'.get? b = some o) : LamFn h' body sc cl f fd :=
  ⟨k _ _ x.there, x.params, x.body, x.scope, x.closure, x.globals, x.builtins, x.defaults, x.code.keeps k⟩

section
variable {C : Cx} {A : Around} {s : Shared} {frs : List Env} {μ : List Addr} {σ σ' : St} {env : Env} {ρ : PE} {n : Nat} {F : Evs}

theorem AOk.deeper2 (x : AOk A (n + 1) frs) (e1 e2 : Env) : AOk ((A.deeper e1).deeper e2) n (e2 :: e1 :: frs) :=
  ⟨x.handled, by show A.depth + 1 + 1 + 3 * n < 900; have := x.depth; exact fm [_, _] [] [.nlt (.a (.v 0) (.m 3 (.a (.v 1) (.l 1)))) (.l 900)] (.nlt (.a (.a (.a (.v 0) (.l 1)) (.l 1)) (.m 3 (.v 1))) (.l 900)) [[1, 1]] rfl this, by show A.units + 3 + 3 + 40 * n < 9000; have := x.units; exact fm [_, _] [] [.nlt (.a (.v 0) (.m 40 (.a (.v 1) (.l 1)))) (.l 9000)] (.nlt (.a (.a (.a (.v 0) (.l 3)) (.l 3)) (.m 40 (.v 1))) (.l 9000)) [[1, 1]] rfl this, by show (A.frames.map (e1 :: ·)).map (e2 :: ·) = _; rw [x.frames]; rfl⟩

theorem askedCall_ok (cas : CasOk C) (ok : C.Ok) (S : Sound C n F) (aok : AOk A (n + 1) frs) (r : Rel C frs μ σ s.heap) (e : EnvRel C s.heap μ env ρ) {body : Expr} {sc : Scope} (hsc : scopeOk sc = true) (hfr : freeOk ρ sc.names = true)
    (hnc : ∀ x ∈ sc.names, x.2 ≠ .cell) {f : Addr} {fdl : FuncData} (lf : LamFn s.heap body sc (clOf env sc.names) f fdl) {o : Out PV} (hx : F.e body (inner ρ sc.names) σ = some o) {fv : Value} (hf : C.mg "_law_asked" = some fv) {Q E : Value → Shared → Prop}
    {v : PV} {σ₁ : St} (ho : (match o with | .ok v σ₁ => Out.ok v σ₁ | .exc k σ₁ => .ok (.str k) σ₁) = .ok v σ₁) (h : OkV C frs s μ v σ₁ Q) : wpAny (MM C) A (call fv [.ref f]) Q E s := by
  obtain ⟨d, hd⟩ : ∃ d, fnOf "_law_asked" = some d := ⟨(fnOf "_law_asked").get (by decide +kernel), by simp⟩
  obtain ⟨p1, p2, p3, p4, p5, p6, p7, p8, p9, b1, b2, b3, b4, b5, b6, b7⟩ := asked_shape hd
  obtain ⟨g1, ⟨kwd, dfl, g2⟩, g3, g4, g5⟩ := fnOk_facts b3
  obtain ⟨f1, f2, f3, f4, f5⟩ := scope_facts g1
  obtain ⟨a, ob, fd, d1, d2, d3, d4, d5, d6, d7, d8, d9, d10, d11, d12, d13⟩ := ok.defs _ d hd
  rw [hf] at d1; cases d1
  have hlen : ([.ref f] : List Value).length = d.params.args.length := by
    have := congrArg List.length b2
    rw [List.length_map] at this
    rw [this]; rfl
  have gone : ∀ b, s.heap.objs.size ≤ b → s.heap.get? b = none := fun b hb => by
    cases q : s.heap.get? b with
    | none => rfl
    | some o => exact absurd (Heap.lt_size q) (Nat.not_lt.mpr hb)
  refine wpAny_call (codeAny_call_cells (body := d.body) (binds := (d.params.args.map (·.arg)).zip [.ref f]) (by have := aok.depth; have : recursionLimit = 1000 := rfl; exact fm [_, _, _] [] [.nlt (.a (.v 0) (.m 3 (.a (.v 1) (.l 1)))) (.l 900), .neq (.v 2) (.l 1000)] (.nlt (.v 0) (.v 2)) [[1, 0, 1, 1]] rfl (by assumption) this) (r.base _ _ d2) d3 (ok.nolimit.keeps r.base) (d12.keeps r.base) d5
    (bindArgs_plain (d4.trans g2) d10 g3 hlen) d7 (fun x hx => ?_) (fun s₁ I => ?_) (by rw [d6]; exact f4) (by rw [d6]; exact f3) (by rw [d6]; exact f1))
  · rw [b2] at hx
    have hx : x ∈ [(("doing" : Str), Value.ref f)] := hx
    simp only [List.mem_cons, List.not_mem_nil, or_false] at hx
    subst hx
    exact .inl (by rw [d6]; exact b4)
  · rw [b2] at I
    generalize hL : s.heap.objs.size = L at I gone ⊢
    have hscope : (callEnvC fd L a).scope = d.scope := d6
    have kof : ∀ x, (callEnvC fd L a).kindOf x = d.scope.names.lookup x := fun x => by show fd.scope.names.lookup x = _; rw [d6]
    have hframe : (callEnvC fd L a).frame = some L := rfl
    obtain ⟨h₁, t₁, hs₁, _⟩ := I.done
    have kp₁ : ∀ b o, s.heap.get? b = some o → s₁.heap.get? b = some o := I.toInCall.keep
    have ext1 : Ext C [] s.heap μ s₁.heap μ := Ext.of_keeps kp₁
    have hBL : C.B.get? L = none := r.base_none (gone L (Nat.le_refl _))
    have ns := I.toInCall.ns
    have v1 := bindL_lookup (kindOf := (callEnvC fd L a).kindOf) (x := "doing") ((kof _).trans b4) (m := fun _ => none) (binds := ([("doing" : Str)] : List Str).zip [Value.ref f]) (by show (["doing"] : List Str).Nodup; decide +kernel)
    generalize bindL (callEnvC fd L a).kindOf (([("doing" : Str)] : List Str).zip [Value.ref f]) (fun _ => none) = m at ns v1
    have v1 : m "doing" = some (.ref f) := v1.trans (by rfl)
    have ns : s₁.heap.Ns L m := ns
    have r₁ : Rel C (callEnvC fd L a :: frs) μ σ s₁.heap := by
      have r' := r.keeps kp₁
      refine ⟨r'.base, r'.len, r'.nodup, r'.fresh, r'.items, r'.tabs, fun fe hfe => ?_⟩
      rcases List.mem_cons.mp hfe with rfl | hfe
      · exact ⟨by rw [hscope, f1]; decide, L, _, hframe, hBL, ns⟩
      · exact r'.frames fe hfe
    have e₁ := e.ext0 r ext1
    have same : ∀ (h' : Heap) (t' : Nat), ({ s₁ with heap := h', toks := t' } : Shared) = { s with heap := h', toks := t' } := fun h' t' => by rw [hs₁]
    have frm : (A.deeper (callEnvC fd L a)).frames = some (callEnvC fd L a :: frs) := Around.frames_deeper aok.frames
    rw [b1]
    refine wpAny_execs_cons (wpAny_Try_except (wpAny_execs_cons (wpAny_Return_some (wpAny_Call_NameR (ld_name (s := s₁) (by rw [hscope]; exact f1) ((kof _).trans b4) ns v1 (callWith_F0 ⟨_, _, _, _, kp₁ _ _ lf.there⟩ ?_))))))
    refine lamCall_ok ok S (s := s₁) (A := A.deeper (callEnvC fd L a)) (by show A.depth + 1 < 999; have := aok.depth; exact fm [_, _] [] [.nlt (.a (.v 0) (.m 3 (.a (.v 1) (.l 1)))) (.l 900)] (.nlt (.a (.v 0) (.l 1)) (.l 999)) [[1, 1]] rfl this) (h₀ := s.heap) (frs₀ := []) (μ₀ := []) (σ₀ := []) r₁ e₁ hsc hfr hnc (lf.keeps kp₁) (fun envL => aok.deeper2 _ envL) hx frm ?_
    cases o with
    | ok p σ₂ =>
      cases ho
      intro v' h' t' μ' r' x' hv
      show Q _ _
      rw [same]
      exact h v' h' t' μ' ⟨r'.base, r'.len, r'.nodup, r'.fresh, r'.items, r'.tabs, fun fe hfe => r'.frames fe (List.mem_cons_of_mem _ hfe)⟩ (ext1.trans x') hv
    | exc k σ₂ =>
      cases ho
      intro e' h' t' μ' fl
      refine caught_ok (s := { s₁ with heap := h', toks := t' }) cas ok r (gone L (Nat.le_refl _)) frm hframe rfl (by rw [hscope]; exact f1) d8 ((kof _).trans b5) ((kof _).trans b6) (fl.back ext1) fun h'' t'' tk r'' x'' => ?_
      show Q _ _
      have := same h'' t''
      rw [show ({ s₁ with heap := h'', toks := t'' } : Shared) = { s with heap := h'', toks := t'' } from this]
      exact h (.str k tk) h'' t'' μ' r'' x'' ⟨tk, rfl⟩

theorem asked_ok (cas : CasOk C) (ok : C.Ok) (S : Sound C n F) (aok : AOk A (n + 1) frs) (r : Rel C frs μ σ s.heap) (e : EnvRel C s.heap μ env ρ) {args : List Expr} {np pos : Pos} {o : Out PV} (hg : ρ.isGlobal "_law_asked" = true) (hx : evAsked F args ρ σ = some o)
    {Q E : Value → Shared → Prop} (h : PostV C frs s μ o Q E) : wpAny (MM C) A (eval (.Call (.Name "_law_asked" np) args [] pos) env) Q E s := by
  refine evAsked_inv hx fun body sc lp hargs hlam hfr hsc hnk w h1 hq => ?_
  subst hargs
  obtain ⟨d, hd⟩ : ∃ d, fnOf "_law_asked" = some d := ⟨(fnOf "_law_asked").get (by decide +kernel), by simp⟩
  obtain ⟨a, ob, fd, d1, d2, d3, _⟩ := ok.defs _ d hd
  obtain ⟨oc, od, odt, osl⟩ := ob
  cases d3
  refine wpAny_Call_NameR (global_ok ok r e hg d1 (by decide +kernel) (callWith_F ⟨_, _, _, _, r.base _ _ d2⟩ (spliced_cons ?_)))
  refine lambda_ok ok r e hlam hfr fun f fdl h' t' r' x' hnew lf => spliced_nil ⟨⟨_, _, _, _, r'.base _ _ d2⟩, ?_⟩
  have hnc : ∀ x ∈ sc.names, x.2 ≠ .cell := fun x hx q => by
    have := List.all_eq_true.mp hnk x hx
    rw [q] at this
    exact absurd this (by decide)
  subst hq
  cases w with
  | ok v σ₁ => exact askedCall_ok (s := { s with heap := h', toks := t' }) cas ok S aok r' (e.ext0 r x') hsc hfr hnc lf h1 d1 rfl (h.ok.step x')
  | exc k σ₁ => exact askedCall_ok (s := { s with heap := h', toks := t' }) cas ok S aok r' (e.ext0 r x') hsc hfr hnc lf h1 d1 rfl (h.ok.step x')
end
end Mine
end
section
set_option maxRecDepth 100000
open PySem PySem.W PyProof.Rows PySem.Calls
namespace Mine

theorem builtin_no {f : Str} {vs : List PV} {σ σ' : St} {k : Str} (h : builtin f vs σ = some (.exc k σ')) : False := by
  unfold builtin at h
  refine if_els (Q := fun x => x = some (Out.exc k σ') → False) (fun h => bLen_elim (P := fun _ => False) h fun _ _ _ _ h => nomatch h) ?_ h
  refine if_els (Q := fun x => x = some (Out.exc k σ') → False) (fun h => bAbs_elim (P := fun _ => False) h fun _ h => nomatch h) ?_
  refine if_els (Q := fun x => x = some (Out.exc k σ') → False) (fun h => bRange_elim (P := fun _ => False) h (fun _ _ h => nomatch h) fun _ _ _ _ h => nomatch h) ?_
  refine if_els (Q := fun x => x = some (Out.exc k σ') → False) (fun h => bList_elim (P := fun _ => False) h (fun _ _ _ h => alloc_inv h fun _ h => nomatch h) fun _ _ _ h => alloc_inv h fun _ h => nomatch h) ?_
  refine if_els (Q := fun x => x = some (Out.exc k σ') → False) (fun h => two_elim (f := fun vs => bMin vs σ) (P := fun _ => False) (fun _ => .inl rfl) h fun _ _ h => nomatch h) ?_
  refine if_els (Q := fun x => x = some (Out.exc k σ') → False) (fun h => two_elim (f := fun vs => bMax vs σ) (P := fun _ => False) (fun _ => .inr rfl) h fun _ _ h => nomatch h) ?_
  exact if_els (Q := fun x => x = some (Out.exc k σ') → False) (fun h => bSum_elim (P := fun _ => False) h fun _ _ _ _ _ h => nomatch h) fun h => nomatch h

section
variable {C : Cx} {A : Around} {s : Shared} {frs : List Env} {μ : List Addr} {σ σ' : St} {env : Env} {ρ : PE} {n : Nat} {F : Evs}

theorem callE_ok (cas : CasOk C) (ok : C.Ok) (S : Sound C n F) (aok1 : AOk A (n + 1) frs) (r : Rel C frs μ σ s.heap) (e : EnvRel C s.heap μ env ρ) {f : Expr} {args : List Expr} {kws : List Keyword} {pos : Pos} {o : Out PV} (hx : evCall F f args kws pos ρ σ = some o)
    {Q E : Value → Shared → Prop} (h : PostV C frs s μ o Q E) : wpAny (MM C) A (eval (.Call f args kws pos) env) Q E s := by
  have aok := aok1.down
  cases kws with
  | cons => exact no_none hx
  | nil =>
  cases f
  case Name g np =>
    refine ite1 (c := ρ.isGlobal g = true) hx fun hg hx => ?_
    have hx : (if g == "_law_asked" then evAsked F args ρ σ else (evList (fun e σ => F.e e ρ σ) args σ).bind fun vs σ₁ => if builtins.contains g then builtin g vs σ₁ else F.c g vs σ₁) = some o := hx
    by_cases hn : (g == "_law_asked") = true
    · rw [if_pos hn] at hx
      have hn := beq_iff_eq.mp hn
      subst hn
      exact asked_ok cas ok S aok1 r e hg hx h
    · rw [if_neg hn] at hx
      refine bnd hx fun ps σ₁ h1 hx => ?_
      have hplain : (backTo pos (starEach args env)).any (·.1) = false := evList_plain h1
      by_cases hb : builtins.contains g = true
      · rw [if_pos hb] at hx
        obtain ⟨fv, b1, b2, b3, b4⟩ := boot_flat hb
        cases o with
        | exc k σ₂ => exact (builtin_no hx).elim
        | ok z σ₂ =>
          refine wpAny_Call_NameR (builtin_ok ok r e hg b3 b1 b4 ?_)
          have step : wpAny (MM C) A (evalArgs fv true (backTo pos (starEach args env)) []) (fun a s₁ => wpAny (MM C) A (call fv ([] ++ a.pos) a.kw) Q E s₁) E s :=
            args_ok S aok r e h1 fun vs h' t' μ' r' x' hv => builtin_call (s := { s with heap := h', toks := t' }) aok hb r' hv hx (h.ok.step x') b1
          cases fv with
          | builtin id => exact callWith_builtin hplain step
          | type T => exact PyProof.Rows.callWith_type hplain step
          | _ => cases b2
      · rw [if_neg hb] at hx
        obtain ⟨a, ob, fd, d1, d2, d3, d4⟩ := S.cdef hx
        obtain ⟨oc, od, odt, osl⟩ := ob
        cases d3
        refine wpAny_Call_NameR (global_ok ok r e hg d1 d4 (callWith_of (P := FnAt a) (by rw [hplain]; rfl) keeps_F ?_))
        refine args_ok S aok r e h1 fun vs h' t' μ' r' x' hv => ⟨⟨_, _, _, _, r'.base _ _ d2⟩, ?_⟩
        exact S.c (s := { s with heap := h', toks := t' }) aok r' hv d1 hx (h.step x')
  case Attribute ob a apos =>
    refine ite1 (c := (a == "append" && apos.endLine == pos.line) = true) hx fun hc hz => and1 hc fun ha hl => ?_
    have ha := beq_iff_eq.mp ha
    subst ha
    cases ob
    case Name x p =>
      cases args with
      | nil => exact no_none hz
      | cons arg rr => cases rr with
        | cons => exact no_none hz
        | nil => exact ite2 (c := isStar arg = true) hz fun hst hz => append_call S aok r e (by simpa using hst) hl hz h
    all_goals exact no_none hz
  all_goals exact no_none hx

theorem evE_ok (cas : CasOk C) (ok : C.Ok) (S : Sound C n F) (aok1 : AOk A (n + 1) frs) (r : Rel C frs μ σ s.heap) (e : EnvRel C s.heap μ env ρ) {x : Expr} {o : Out PV} (hx : evE F x ρ σ = some o)
    {Q E : Value → Shared → Prop} (h : PostV C frs s μ o Q E) : wpAny (MM C) A (eval x env) Q E s := by
  have aok := aok1.down
  cases x
  case Constant c k pos =>
    cases o with
    | ok p σ₁ => exact const_ok r hx h
    | exc k' σ₁ =>
      exfalso
      cases c <;> exact nomatch hx
  case Name x pos =>
    refine ite2 (c := (x == "__debug__") = true) hx fun hd hx => ?_
    have hx : (match ρ.look x with | some v => Mine.ok v σ | none => none) = some o := hx
    cases hv : ρ.look x with
    | none => rw [hv] at hx; exact no_none hx
    | some v =>
      rw [hv] at hx
      cases hx
      exact name_ok ok r e hv (by simpa using hd) fun w hw => h.ok.here (t := s.toks) r hw
  case Tuple es k pos => exact tuple_ok S aok r e hx h
  case List es pos => exact list_ok S aok r e hx h
  case BinOp l op y pos => exact binopE_ok S aok r e hx h
  case UnaryOp op y pos => exact unaryE_ok S aok r e hx h
  case IfExp t b y pos => exact ifE_ok S aok r e hx h
  case BoolOp op vs pos =>
    rw [arm_eval_BoolOp]
    exact boolE_ok S aok r e hx h
  case Compare l ops cs pos =>
    refine bnd (x := evCmp F l ops cs ρ σ) hx fun c σ₁ h1 hx => ?_
    cases hx
    exact (cmpE_ok S aok r e h1).1 h.ok
  case Subscript v sl pos => exact sub_ok S aok r e hx h
  case Call f args kws pos => exact callE_ok cas ok S aok1 r e hx h
  case ListComp elt gens sc pos =>
    cases o with
    | ok p σ₁ => exact listComp_ok ok S aok r e hx h
    | exc k' σ₁ =>
      exact evComp_elim (P := fun _ => _) hx fun _ _ _ _ _ _ _ _ _ _ _ _ _ h => nomatch h
  all_goals exact no_none hx
end
end Mine
end
section
set_option maxRecDepth 100000
open PySem PySem.W PyProof.Rows PySem.Calls
namespace Mine

theorem sound_step {C : Cx} (cas : CasOk C) (ok : C.Ok) {n : Nat} {F : Evs} (S : Sound C n F) : Sound C (n + 1) F.step where
  e := fun aok r e hx h => evE_ok cas ok S aok r e hx h
  t := fun aok r e hx h => evT_ok S aok.down r e hx h
  s := fun {A s E Q frs μ env ρ σ x o} aok r e hx h => evSs_ok (F := F) (frs := frs) (fun {s μ σ ρ x o Q} r e hx h => evS_ok ok S aok.down r e hx (fun {e' c' pos'} q => by
    subst q
    exact raise_ok cas ok S aok.down r e hx h) h) r e hx h
  c := fun aok r hv hf hx h => call_ok ok S aok r hv hf hx h
  u := fun aok r e hx K => comp_go ok S aok.down r e hx K
  noset := fun {x ρ σ} hx => by
    cases x <;> first | rfl | exact hx.elim
  nolist := fun {elt gens sc pos ρ σ o} hx => by
    exact evComp_elim (P := fun _ => _) (show evComp F elt gens sc ρ σ = some o from hx) fun _ _ _ _ _ _ _ _ _ _ _ _ _ h => ⟨_, _, h.symm⟩
  cdef := fun {f ps σ o} hx => by
    exact evC_inv (show evC F f ps σ = some o from hx) fun d hd _ _ _ => by
      obtain ⟨a, ob, fd, d1, d2, d3, _⟩ := ok.defs f d hd
      exact ⟨a, ob, fd, d1, d2, d3, isGlobal_debug d1 ok.nodebug⟩

theorem sound_none {C : Cx} : Sound C 0 Evs.none where
  e := fun _ _ _ hx => by cases hx
  t := fun _ _ _ hx => by cases hx
  s := fun _ _ _ hx => by cases hx
  c := fun _ _ _ _ hx => by cases hx
  u := fun _ _ _ hx => by cases hx
  noset := fun _ => rfl
  nolist := fun hx => by cases hx
  cdef := fun hx => by cases hx

theorem sound {C : Cx} (cas : CasOk C) (ok : C.Ok) : ∀ n, Sound C n (ev n)
  | 0 => sound_none
  | n + 1 => sound_step cas ok (sound cas ok n)
end Mine
end
section
set_option maxRecDepth 100000
open PySem PySem.W PyProof.Rows PySem.Calls
namespace Mine

noncomputable def lawFn : Fn := (fnOf "law").get (by decide +kernel)

inductive LawShape  : Prop
  | mk (p1 p2 p3 p4 p5 p6 p7 p8 p9 p10 : Pos) (k1 k2 : Nat)
      (c1 : lawFn.body = .Assign [.Name "box" p1] (.List [.Subscript (.Call (.Name "list" p2) [.Name "script" p3] [] p4) (.Slice none (some (.Constant (.int 40) k1 p5)) none p6) p7, .Constant (.int 0) k2 p8] p9) p10 :: lawFn.body.tail)
      (c2 : lawFn.params.args.map (·.arg) = (["script"] : List Str))
      (c3 : fnOk lawFn = true)
      (c4 : lawFn.scope.names.lookup ("script" : Str) = some .local)
      (c5 : lawFn.scope.names.lookup ("box" : Str) = some .local)
      (c6 : lawFn.scope.names.lookup ("list" : Str) = some .globalImplicit) : LawShape
theorem law_shape : LawShape  :=
  ⟨_, _, _, _, _, _, _, _, _, _, _, _, rfl, by decide +kernel, by decide +kernel, by decide +kernel, by decide +kernel, by decide +kernel⟩

theorem ints_vrs {h : Heap} {μ : List Addr} : ∀ {vs : List Value} {ns : List Int}, IntsAre vs ns → VRs h μ (ns.map .int) vs
  | _, _, .nil => rfl
  | _, _, .cons n t r => ⟨.int n t, _, rfl, ⟨t, rfl⟩, ints_vrs r⟩

noncomputable def lawPE (p : PV) : PE := { names := lawFn.scope.names, vars := [("box", p)], lam := true }

section
variable {C : Cx} {A : Around} {s : Shared} {n : Nat}

theorem law_call (ok : C.Ok) (S : Sound C n (ev n)) (aok : AOk A (n + 1) []) (hbase : ∀ b o, C.B.get? b = some o → s.heap.get? b = some o) (htabs : ∀ t ∈ C.tabs, TabOk s.heap t) {la : Addr} {vs : List Value} {ns : List Int}
    (hl : C.B.get? la = some (listOf vs.toArray 0)) (hi : IntsAre vs ns) (hlen : ns.length ≤ 63) {fv : Value} (hf : C.mg "law" = some fv) {vars : Vars} {σ' : St}
    (hx : (ev n).s lawFn.body.tail (lawPE (.lst 2)) [ns.map .int, (ns.take 40).map .int, [.lst 1, .int 0]] = some (.ok (.ret (.bool true), vars) σ')) {R : Result → Shared → Prop}
    (hR : ∀ h' t', (∀ b o, C.B.get? b = some o → h'.get? b = some o) → (∀ t ∈ C.tabs, TabOk h' t) → R (.ok (.ret (.bool true))) { s with heap := h', toks := t' }) :
    codeAny (MM C) A (.call fv ⟨[.ref la], []⟩) R s := by
  have hd : fnOf "law" = some lawFn := by simp [lawFn]
  obtain ⟨p1, p2, p3, p4, p5, p6, p7, p8, p9, p10, k1, k2, b1, b2, b3, b4, b5, b6⟩ := law_shape
  obtain ⟨g1, ⟨kwd, dfl, g2⟩, g3, g4, g5⟩ := fnOk_facts b3
  obtain ⟨f1, f2, f3, f4, f5⟩ := scope_facts g1
  obtain ⟨a, ob, fd, d1, d2, d3, d4, d5, d6, d7, d8, d9, d10, d11, d12, d13⟩ := ok.defs _ _ hd
  rw [hf] at d1; cases d1
  have r : Rel C [] [] [] s.heap := ⟨hbase, rfl, List.nodup_nil, (fun a ha => nomatch ha), (fun i l e => by simp at e), htabs, (fun fe hfe => nomatch hfe)⟩
  have hal : ([.ref la] : List Value).length = lawFn.params.args.length := by
    have := congrArg List.length b2
    rw [List.length_map] at this
    rw [this]; rfl
  have gone : ∀ b, s.heap.objs.size ≤ b → s.heap.get? b = none := fun b hb => by
    cases q : s.heap.get? b with
    | none => rfl
    | some o => exact absurd (Heap.lt_size q) (Nat.not_lt.mpr hb)
  refine codeAny_call_cells (body := lawFn.body) (binds := (lawFn.params.args.map (·.arg)).zip [.ref la]) (by have := aok.depth; have : recursionLimit = 1000 := rfl; exact fm [_, _, _] [] [.nlt (.a (.v 0) (.m 3 (.a (.v 1) (.l 1)))) (.l 900), .neq (.v 2) (.l 1000)] (.nlt (.v 0) (.v 2)) [[1, 0, 1, 1]] rfl (by assumption) this) (hbase _ _ d2) d3 (ok.nolimit.keeps hbase) (d12.keeps hbase) d5
    (bindArgs_plain (d4.trans g2) d10 g3 hal) d7 (fun x hx => ?_) (fun s₁ I => ?_) (by rw [d6]; exact f4) (by rw [d6]; exact f3) (by rw [d6]; exact f1)
  · rw [b2] at hx
    have hx : x ∈ [(("script" : Str), Value.ref la)] := hx
    simp only [List.mem_cons, List.not_mem_nil, or_false] at hx
    subst hx
    exact .inl (by rw [d6]; exact b4)
  · rw [b2] at I
    have keysC : ((cellsFrom (s.heap.objs.size + 1) lawFn.scope.names []).map (·.1)).Nodup := by
      rw [cellsFrom_keys]
      exact nodup_rev ((List.filter_sublist.map _).nodup f2)
    generalize hL : s.heap.objs.size = L at I gone keysC ⊢
    have hscope : (callEnvC fd L a).scope = lawFn.scope := d6
    have kof : ∀ x, (callEnvC fd L a).kindOf x = lawFn.scope.names.lookup x := fun x => by show fd.scope.names.lookup x = _; rw [d6]
    have hcells : (callEnvC fd L a).cells = cellsFrom (L + 1) lawFn.scope.names [] := by
      show cellsFrom (L + 1) fd.scope.names [] = _
      rw [d6]
    have hframe : (callEnvC fd L a).frame = some L := rfl
    obtain ⟨h₁, t₁, hs₁, _⟩ := I.done
    have kp₁ : ∀ b o, s.heap.get? b = some o → s₁.heap.get? b = some o := I.toInCall.keep
    have hBL : C.B.get? L = none := r.base_none (gone L (Nat.le_refl _))
    have ns1 := I.toInCall.ns
    have v1 := bindL_lookup (kindOf := (callEnvC fd L a).kindOf) (x := "script") ((kof _).trans b4) (m := fun _ => none) (binds := ([("script" : Str)] : List Str).zip [Value.ref la]) (by show (["script"] : List Str).Nodup; decide +kernel)
    have nofree : ∀ x, lawFn.scope.names.lookup x ≠ some .free := fun x q => g5 _ (mem_of_lookup q) rfl
    have hasC : ∀ x, lawFn.scope.names.lookup x = some .cell → ∃ c, (cellsFrom (L + 1) lawFn.scope.names []).lookup x = some c := fun x hx => by
      obtain ⟨c, hc⟩ := cellsFrom_has (n := L + 1) (mem_of_lookup hx)
      exact ⟨c, lookup_of_mem keysC hc⟩
    have e₁ : EnvRel C s₁.heap [] (callEnvC fd L a) { names := lawFn.scope.names, vars := [], lam := true } := by
      refine ⟨by rw [hscope]; exact f1, d8, d9, fun x => ⟨fun _ => kof x, fun q => absurd q (nofree x)⟩, fun x q => absurd q (nofree x), ⟨_, ns1, (fun x p _ h2 => nomatch h2)⟩, fun x hx => ?_, fun q hq => ?_, fun x y c hx hy => ?_, hBL, fun x c _ hc => ?_, fun _ => ?_⟩
      · rcases hx with hx | hx
        · obtain ⟨c, h1⟩ := hasC x hx
          have h1' : (callEnvC fd L a).cells.lookup x = some c := by rw [hcells]; exact h1
          exact ⟨c, _, h1', I.cell x c h1', (fun p hp => nomatch hp)⟩
        · exact absurd hx (nofree x)
      · rw [hcells] at hq ⊢
        exact lookup_of_mem keysC hq
      · exact name_of_addr I.apart (mem_of_lookup hx) (mem_of_lookup hy)
      · exact r.base_none (gone c (Nat.le_of_lt (I.above x c (mem_of_lookup hc))))
      · obtain ⟨t, ht, q1, q2⟩ := d13 (by decide +kernel)
        exact ⟨t, ht, q1, q2⟩
    generalize bindL (callEnvC fd L a).kindOf (([("script" : Str)] : List Str).zip [Value.ref la]) (fun _ => none) = m at ns1 v1
    have v1 : m "script" = some (.ref la) := v1.trans (by rfl)
    have r₁ : Rel C [callEnvC fd L a] [] [] s₁.heap := by
      have r' := r.keeps kp₁
      refine ⟨r'.base, r'.len, r'.nodup, r'.fresh, r'.items, r'.tabs, fun fe hfe => ?_⟩
      rcases List.mem_cons.mp hfe with rfl | hfe
      · exact ⟨by rw [hscope, f1]; decide, L, _, hframe, hBL, ns1⟩
      · exact nomatch hfe
    have same : ∀ (h' : Heap) (t' : Nat), ({ s₁ with heap := h', toks := t' } : Shared) = { s with heap := h', toks := t' } := fun h' t' => by rw [hs₁]
    have aok1 : AOk (A.deeper (callEnvC fd L a)) n [callEnvC fd L a] := aok.deeper _
    have hnl : vs.length = ns.length := by
      have := (ints_vrs (h := s.heap) (μ := []) hi).length
      rw [List.length_map] at this
      exact this
    have hc : cap = 4000 := rfl
    rw [b1]
    obtain ⟨fv, bt1, bt2, bt3, bt4⟩ := boot_flat (f := "list") (by decide +kernel)
    have e0 : bootBuiltins "list" = some (.type "list") := by decide +kernel
    refine wpAny_execs_cons (wpAny_Assign_Name (List_ (spliced_cons (Subscript_ (wpAny_Call_NameR (builtin_ok ok r₁ e₁ (x := "list") (by show (lawFn.scope.names.lookup ("list" : Str) == some .globalImplicit) = true; rw [b6]; rfl) bt3 e0 bt4 ?_))))) rfl)
    refine PyProof.Rows.callWith_type rfl (evalArgs_plain (spliced_cons (ld_name (s := s₁) (by rw [hscope]; exact f1) ((kof _).trans b4) ns1 v1 (spliced_nil ?_))))
    refine call_list_seq (hsz := by simp; exact le_line (by exact fm [_, _, _] [] [.nle (.v 0) (.l 63), .neq (.v 1) (.v 0), .neq (.v 2) (.l 4000)] (.nle (.v 1) (.v 2)) [[1, 1, 0, 0, 1, 1]] rfl hlen hnl hc)) la (.inl rfl) (r₁.base _ _ hl) rfl rfl fun h2 c2 kk2 hD => ?_
    have hv2 : VRs h2 [] (ns.map .int) vs := ints_vrs hi
    obtain ⟨r2, x2, w2⟩ := list_made (l := ns.map .int) (p := .lst 0) (σ' := [ns.map .int]) r₁ (by unfold alloc; rw [if_pos (by simp; exact fm [_, _] [] [.nle (.v 0) (.l 63), .neq (.v 1) (.l 4000)] (.nle (.v 0) (.v 1)) [[1, 0, 1, 1]] rfl hlen hc)]; rfl) kk2 (get?_size _) hD (by simpa using hv2)
    refine wpAny_Slice ?_
    rw [evalPart_none, evalPart_some]
    refine wpAny_pure (wpAny_Constant_int (wpAny_pure ?_))
    have x2' : Ext C [] s₁.heap [] h2 [s₁.heap.objs.size] := x2
    refine cut_ok (s := { s₁ with heap := h2, toks := s₁.toks + 1 }) (i := 0) (l := ns.map .int) (l' := (ns.take 40).map .int) (p := .lst 1) (σ' := [ns.map .int, (ns.take 40).map .int]) r2 rfl rfl (by simp; exact fm [_, _] [] [.nle (.v 0) (.l 63), .neq (.v 1) (.l 4000)] (.nle (.v 0) (.v 1)) [[1, 0, 1, 1]] rfl hlen hc) .none (.int 40 _) (fun _ _ => rfl) (fun ws hw => ?_) (by unfold alloc; rw [if_pos (by simp; exact fm [_, _, _] [] [.neq (.v 0) (.l 4000), .or (.an (.nle (.l 40) (.v 1)) (.neq (.v 2) (.l 40))) (.an (.nle (.v 1) (.l 40)) (.neq (.v 2) (.v 1)))] (.nle (.v 2) (.v 0)) [[0, 1, 0, 1, 0, 1], [0, 1, 1, 1, 0, 1]] rfl hc (minn _ _))]; rfl) ?_
    · rw [show (40 : Int) = ((40 : Nat) : Int) from rfl, slicePick_upto']
      simpa using hw.take 40
    · intro v3 h3 t3 μ3 r3 x3 w3
      refine spliced_cons (x := eval (.Constant (.int 0) k2 p8) (callEnvC fd L a)) (rest := []) (wpAny_Constant_int (spliced_nil ?_))
      refine newList_ok (s := { s₁ with heap := h3, toks := t3 + 1 }) (l := [.lst 1, .int 0]) (p := .lst 2) (σ' := [ns.map .int, (ns.take 40).map .int, [.lst 1, .int 0]]) r3 (by unfold alloc; rw [if_pos (by simp; exact fm [_] [] [.neq (.v 0) (.l 4000)] (.nle (.l 2) (.v 0)) [[0, 1, 1]] rfl hc)]; rfl) ⟨v3, _, rfl, w3, .int 0 t3, _, rfl, ⟨t3, rfl⟩, rfl⟩ ?_
      intro v4 h4 t4 μ4 r4 x4 w4
      have e4 : EnvRel C h4 μ4 (callEnvC fd L a) { names := lawFn.scope.names, vars := [], lam := true } := ((e₁.ext0 r₁ x2').ext0 r2 x3).ext0 r3 x4
      refine store_ok (s := { s₁ with heap := h4, toks := t4 }) (p := .lst 2) (vars := [("box", .lst 2)]) r4 e4 (by simp only [PE.set]; rw [b5]; rfl) w4 fun h5 t5 r5 x5 e5 => ?_
      refine S.s (s := { s₁ with heap := h5, toks := t5 }) aok1 r5 e5 hx fun f' h' t' μ' r' x' e' hfl => ?_
      cases hfl with
      | ret hp =>
        cases hp
        show R _ _
        rw [same]
        exact hR h' t' r'.base r'.tabs
end
end Mine
end
section
set_option maxRecDepth 100000
open PySem PySem.W PyProof.Rows PySem.Calls
namespace Mine

noncomputable def defsL : List Stmt → List (Str × Fn)
  | [] => []
  | .FunctionDef n args body _ _ _ sc _ _ _ :: r => (n, ⟨args, body, sc⟩) :: defsL r
  | _ :: r => defsL r

theorem findFn_mem {x : Str} {d : Fn} : ∀ {l : List Stmt}, findFn x l = some d → (x, d) ∈ defsL l
  | [], h => by cases h
  | s :: r, h => by
    cases s
    case FunctionDef n args body _ _ _ sc _ _ _ =>
      have h : (if n == x then some (⟨args, body, sc⟩ : Fn) else findFn x r) = some d := h
      by_cases hn : (n == x) = true
      · rw [if_pos hn] at h
        cases h
        rw [← beq_iff_eq.mp hn]
        exact .head _
      · rw [if_neg hn] at h
        exact .tail _ (findFn_mem h)
    all_goals exact findFn_mem (l := r) h

theorem nsIn_inv {K : Frag} {h : Heap} {ns : Addr} {m : Str → Option Value} {n : Str} {r : Option Value} (X : K.In h) (G : h.Ns ns m) (e : nsIn K ns n = some r) : m n = r := by
  obtain ⟨o, es, ep, ho, hd, _, hf⟩ := G
  unfold nsIn at e
  cases q : K.lookup ns with
  | none => rw [q] at e; exact no_none e
  | some o' =>
    rw [q] at e
    have q2 := X _ _ q
    rw [ho] at q2
    cases q2
    obtain ⟨oc, od, odt, osl⟩ := o
    cases hd
    have e : (match es.toList.find? (·.key.isStr n) with
      | some e => some (some e.val)
      | none => if es.toList.any (·.refKey) then none else some none) = some r := e
    rw [← hf, nsFind, findBy, ← Array.find?_toList]
    cases he : es.toList.find? (·.key.isStr n) with
    | some x => rw [he] at e; cases e; rfl
    | none => rw [he] at e; exact ite2 e fun _ e => Option.some.inj e
theorem ns_of {K : Frag} {h : Heap} {ns : Addr} {m : Str → Option Value} {n : Str} {v : Value} (X : K.In h) (G : h.Ns ns m) (e : nsIn K ns n = some (some v)) : m n = some v := nsIn_inv X G e
theorem ns_none_of {K : Frag} {h : Heap} {ns : Addr} {m : Str → Option Value} {n : Str} (X : K.In h) (G : h.Ns ns m) (e : nsIn K ns n = some none) : m n = none := nsIn_inv X G e

noncomputable def strNs (K : Frag) (ns : Addr) : Bool := match K.lookup ns with
  | some ⟨_, _, .dict es _, _⟩ => es.toList.all fun e => match e.key with
    | .str _ _ => true
    | _ => false
  | _ => false
theorem ns_there {K : Frag} {h : Heap} {ns : Addr} (X : K.In h) (e : strNs K ns = true) : ∃ m, h.Ns ns m := by
  unfold strNs at e
  cases q : K.lookup ns with
  | none => rw [q] at e; exact no_ft e
  | some o =>
    rw [q] at e
    obtain ⟨oc, od, odt, osl⟩ := o
    cases odt
    case dict es n =>
      refine ⟨nsFind es, _, es, n, X _ _ q, rfl, fun x hx => ?_, fun _ => rfl⟩
      have := List.all_eq_true.mp e x (by simpa using hx)
      cases hk : x.key with
      | str a b => exact ⟨a, b, rfl⟩
      | _ => rw [hk] at this; exact no_ft this
    all_goals exact no_ft e

abbrev biNames : List Str := ["len", "abs", "range", "list", "min", "max", "sum", "enumerate"]

structure KOk (K : Frag) : Prop where
  debug : nsIn K mainGlobals "__debug__" = some none
  r0 : ∃ a o t u n, nsIn K mainGlobals "R0" = some (some (.ref a)) ∧ K.lookup a = some o ∧ o.cls = .type "tuple" ∧ o.data = .seq #[.int 0 t, .int 1 u] n
  r1 : ∃ a o t u n, nsIn K mainGlobals "R1" = some (some (.ref a)) ∧ K.lookup a = some o ∧ o.cls = .type "tuple" ∧ o.data = .seq #[.int 1 t, .int 1 u] n
  bi : ∀ x ∈ biNames, nsIn K mainGlobals x = some none
  exc : nsIn K mainGlobals "Exception" = some none
  cas : nsIn K mainGlobals "CasFail" = some (some (.ref 31))
  cls : ∃ nm q bs sn sub ab col dd k0 k1 k2 k3 k5, K.lookup 31 = some (excClassObj nm q 31 30 bs excMro true sn sub ab col dd k0 k1 k2 k3 k5 "Exception.__new__")
  ns : strNs K 30 = true
  n1 : nsIn K 30 "__init__" = some (some (.ref 28))
  n2 : nsIn K 30 "__setattr__" = some none
  n3 : nsIn K 30 "__getattribute__" = some none
  n4 : nsIn K 30 "__getattr__" = some none
  n5 : nsIn K 30 "kind" = some none
  n6 : nsIn K 30 "text" = some none
  init : ∃ oI fd d, K.lookup 28 = some oI ∧ oI.cls = .type "function" ∧ oI.data = .func fd ∧ initFn = some d ∧ fd.params = d.params ∧ fd.body = .stmts d.body ∧ fd.scope = d.scope ∧ fd.closure = [] ∧ fd.globals = mainGlobals ∧ fd.builtins = builtinsNs ∧ fd.defaults = .none ∧
    fd.kwdefaults = .none ∧ codeIn K fd.code fd.qualname = true
  t1 : tabIn K "law" = some (296, 294)
  t2 : tabIn K "_law_single_right" = some (291, 289)

abbrev theTabs : List (Addr × Addr) := [(296, 294), (291, 289)]

abbrev lawTab : Tab := ⟨294, 296, ("law" ++ ".<locals>.") ++ "<lambda>"⟩
abbrev singleTab : Tab := ⟨289, 291, ("_law_single_right" ++ ".<locals>.") ++ "<lambda>"⟩

abbrev theCx (w : World) (h : Heap) (mg mb : Str → Option Value) : Cx := { w := w, B := ghostOf h theTabs, mg := mg, mb := mb, tabs := [lawTab, singleTab] }

section
variable {K : Frag} {p : Program} {loose : List Str} {mean : ExcName → Option Value} {mg mb : Str → Option Value} {h : Heap} {w : World}

theorem ghost_rec (hT : TabsAt theTabs h) {c : Value} {q : Str} (x : h.CodeRec c q) : (ghostOf h theTabs).CodeRec c q := by
  obtain ⟨a, o, ws, t, e, ho, hd, hq⟩ := x
  exact ⟨a, o, ws, t, e, ghost_get hT ho (fun z => by rw [z] at hd; cases hd; simp at hq), hd, hq⟩

theorem tup_vr {B : Heap} {a : Addr} {o : Obj} {i j : Int} {t u : Tok} {n : Nat} (ho : B.get? a = some o) (hc : o.cls = .type "tuple") (hd : o.data = .seq #[.int i t, .int j u] n) : VR B [] (.tup [.int i, .int j]) (.ref a) :=
  ⟨a, _, rfl, ⟨o, ho, hc, n, hd⟩, _, _, rfl, ⟨t, rfl⟩, _, _, rfl, ⟨u, rfl⟩, rfl⟩

theorem cx_ok (X : K.In h) (k : KOk K) (T : Top p loose mean mg mb h) (hT : TabsAt theTabs h) (hrec : (recsOf p).map (fun r => (r.name, r.params, r.body, r.scope)) = (defsL PySem.Challenge.pw_pf0050_01.main.body).map (fun x => (x.1, x.2.params, x.2.body, x.2.scope))) :
    (theCx w h mg mb).Ok where
  defs := fun f d hd => by
    have hm := List.mem_map_of_mem (f := fun x : Str × Fn => (x.1, x.2.params, x.2.body, x.2.scope)) (findFn_mem hd)
    rw [← hrec] at hm
    obtain ⟨r, hr, he⟩ := List.mem_map.mp hm
    obtain ⟨a, o, pm, code, doc, h1, h2, h3, h4⟩ := T.fn r hr
    have e1 : r.name = f := congrArg Prod.fst he
    have e2 : r.params = d.params := congrArg (·.2.1) he
    have e3 : r.body = d.body := congrArg (·.2.2.1) he
    have e4 : r.scope = d.scope := congrArg (·.2.2.2) he
    rw [e1] at h1 h4
    refine ⟨a, o, _, h1, ghost_get hT h2 (fun z => by rw [z] at h3; cases h3), h3, e2, congrArg _ e3, e4, rfl, rfl, rfl, rfl, rfl, by rw [show (docDef r.name r.params r.body r.scope pm code doc).qualname = f from e1]; exact ghost_rec hT h4, fun hl => ?_⟩
    have hq : (docDef r.name r.params r.body r.scope pm code doc).qualname = f := e1
    rw [hq]
    unfold withLams at hl
    rcases Bool.or_eq_true_iff.mp hl with hl | hl
    · have hl := beq_iff_eq.mp hl
      subst hl
      have hc : (docDef r.name r.params r.body r.scope pm code doc).code = .ref 296 := law_code X T.g k.t1 h1 h2 h3
      exact ⟨lawTab, .head _, hc, rfl⟩
    · have hl := beq_iff_eq.mp hl
      subst hl
      have hc : (docDef r.name r.params r.body r.scope pm code doc).code = .ref 291 := law_code X T.g k.t2 h1 h2 h3
      exact ⟨singleTab, .tail _ (.head _), hc, rfl⟩
  nodebug := ns_none_of X T.g k.debug
  g := ghost_ns hT T.g
  b := ghost_ns hT T.b
  nolimit := let ⟨mc, a, r⟩ := T.nolimit; ⟨mc, ghost_ns hT a, r⟩
  consts := fun x q hx => by
    have hx : ([(("R0" : Str), PV.tup [.int 0, .int 1]), ("R1", .tup [.int 1, .int 1])]).lookup x = some q := hx
    rw [List.lookup_cons, List.lookup_cons] at hx
    cases he : x == "R0" with
    | true =>
      rw [he] at hx
      cases hx
      rw [beq_iff_eq.mp he]
      obtain ⟨a, o, t, u, n, h1, h2, h3, h4⟩ := k.r0
      exact ⟨_, ns_of X T.g h1, tup_vr (ghost_get hT (X _ _ h2) (fun z => by rw [z] at h4; cases h4)) h3 h4⟩
    | false =>
      rw [he] at hx
      cases he : x == "R1" with
      | true =>
        rw [he] at hx
        cases hx
        rw [beq_iff_eq.mp he]
        obtain ⟨a, o, t, u, n, h1, h2, h3, h4⟩ := k.r1
        exact ⟨_, ns_of X T.g h1, tup_vr (ghost_get hT (X _ _ h2) (fun z => by rw [z] at h4; cases h4)) h3 h4⟩
      | false => rw [he] at hx; exact no_none hx
  tabinj := fun t ht t' ht' e => by
    simp only [List.mem_cons, List.not_mem_nil, or_false] at ht ht'
    rcases ht with rfl | rfl <;> rcases ht' with rfl | rfl <;> first | rfl | (exact absurd e (by decide))
  heads := fun t ht => by
    have hcode := ghost_code hT
    obtain ⟨bm, ob, b1, b2, b3, b4, b5, b6⟩ := T.bmain
    have hbG : bm ≠ mainGlobals := fun q => by
      obtain ⟨o, es, ep, e, hd, _⟩ := T.g
      rw [q, e] at b3; cases b3; rw [hd] at b6; cases b6
    have hbP : ∀ q ∈ theTabs, bm ≠ q.2 := fun q hq z => by
      rw [z, (hT q hq).2] at b3; cases b3; cases b4
    have hBm : (ghostOf h theTabs).get? bm = some ob := ghost_get hT b3 (fun z => by rw [z] at b4; cases b4)
    simp only [List.mem_cons, List.not_mem_nil, or_false] at ht
    rcases ht with rfl | rfl
    · exact ⟨hcode.1, ⟨bm, ob, b1, b2, hbG, hbP (296, 294) (.head _), hBm, b4, b5, b6⟩, hideAll_none _ (by decide)⟩
    · exact ⟨hcode.2.1, ⟨bm, ob, b1, b2, hbG, hbP (291, 289) (.tail _ (.head _)), hBm, b4, b5, b6⟩, hideAll_none _ (by decide)⟩
  bi := fun x hx => ⟨ns_none_of X T.g (k.bi x hx), T.builtins x (fun z => by
    rw [z] at hx
    exact absurd hx (by decide +kernel))⟩

theorem cas_ok (X : K.In h) (k : KOk K) (T : Top p loose mean mg mb h) (hT : TabsAt theTabs h) : CasOk (theCx w h mg mb) where
  there := by
    obtain ⟨nm, q, bs, sn, sub, ab, col, dd, k0, k1, k2, k3, k5, hc⟩ := k.cls
    obtain ⟨mN, hN⟩ := ns_there X k.ns
    obtain ⟨oI, fd, d, i1, i2, i3, i4, i5, i6, i7, i8, i9, i10, i11, i12, i13⟩ := k.init
    refine ⟨nm, q, 31, 30, bs, sn, sub, ab, col, dd, k0, k1, k2, k3, k5, mN, 28, oI, fd, d, ns_of X T.g k.cas, ghost_get hT (X _ _ hc) (fun z => by cases z), ghost_ns hT hN, ns_of X hN k.n1, ns_none_of X hN k.n2, ns_none_of X hN k.n3, ns_none_of X hN k.n4, ns_none_of X hN k.n5, ns_none_of X hN k.n6,
      ghost_get hT (X _ _ i1) (fun z => by rw [z] at i3; cases i3), i2, i3, i4, i5, i6, i7, i8, i9, i10, i11, i12, ghost_rec hT (codeRec_of X i13)⟩
  exc := ns_none_of X T.g k.exc
  excB := (T.builtins "Exception" (by decide +kernel)).trans (by decide +kernel)
end
end Mine
end
section
set_option maxRecDepth 100000
open PySem PySem.W PyProof.Rows PySem.Calls
namespace Mine

noncomputable def vw : Program := { PySem.Challenge.pw_pf0050_01 with main := { PySem.Challenge.pw_pf0050_01.main with body := (PySem.Challenge.pw_pf0050_01.main.body.zipIdx.filter fun x => !([0, 2, 4, 13, 29, 33, 42, 47] : List Nat).contains x.2).map (·.1) } }

noncomputable def fragAt (as : List Addr) (h : Heap) : Frag := as.filterMap fun a => (h.get? a).map fun o => (a, o)
theorem fragAt_lookup (h : Heap) (a : Addr) : ∀ as : List Addr, (fragAt as h).lookup a = if a ∈ as then h.get? a else none
  | [] => rfl
  | b :: r => by
    have ih := fragAt_lookup h a r
    unfold fragAt at ih ⊢
    rw [List.filterMap_cons]
    cases e : h.get? b with
    | none =>
      show List.lookup a (List.filterMap _ r) = _
      rw [ih]
      by_cases hab : a = b
      · subst hab
        rw [e]; simp
      · simp [hab]
    | some o =>
      show List.lookup a ((b, o) :: List.filterMap _ r) = _
      rw [List.lookup_cons, ih]
      by_cases hab : a = b
      · subst hab
        rw [e]; simp
      · have : (a == b) = false := by simpa using hab
        rw [this]; simp [hab]
noncomputable def fragOf300 (h : Heap) : Frag := fragAt (List.range 300) h
theorem frag_in (h : Heap) : (fragOf300 h).In h := fun a o e => by
  unfold fragOf300 at e
  rw [fragAt_lookup] at e
  split at e
  · exact e
  · cases e
theorem frag_at {h : Heap} {a : Addr} {o : Obj} (ha : a < 300) (e : h.get? a = some o) : (fragOf300 h).lookup a = some o := by
  unfold fragOf300
  rw [fragAt_lookup, if_pos (List.mem_range.mpr ha)]; exact e

noncomputable def isNN : Option (Option Value) → Bool
  | some none => true
  | _ => false
noncomputable def isAt (a : Addr) : Option (Option Value) → Bool
  | some (some (.ref b)) => a == b
  | _ => false
theorem isNN_eq {x : Option (Option Value)} (h : isNN x = true) : x = some none := by
  match x, h with
  | some none, _ => rfl
theorem isAt_eq {a : Addr} {x : Option (Option Value)} (h : isAt a x = true) : x = some (some (.ref a)) := by
  unfold isAt at h
  split at h
  · rw [beq_iff_eq.mp h]
  · cases h

noncomputable def kB (K : Frag) : Bool :=
  isNN (nsIn K mainGlobals "__debug__") && (isAt 42 (nsIn K mainGlobals "R0") && (isAt 43 (nsIn K mainGlobals "R1") && (biNames.all (fun x => isNN (nsIn K mainGlobals x)) && (isNN (nsIn K mainGlobals "Exception") && (isAt 31 (nsIn K mainGlobals "CasFail") && (strNs K 30 &&
  (isAt 28 (nsIn K 30 "__init__") && (isNN (nsIn K 30 "__setattr__") && (isNN (nsIn K 30 "__getattribute__") && (isNN (nsIn K 30 "__getattr__") && (isNN (nsIn K 30 "kind") && (isNN (nsIn K 30 "text") && (codeIn K (.ref 27) "CasFail.__init__" &&
  (tabIn K "law" == some (296, 294) && (tabIn K "_law_single_right" == some (291, 289) && (codeHdIn K 296 294 && codeHdIn K 291 289))))))))))))))))

noncomputable def initD : Fn := initFn.get (by decide +kernel)
noncomputable def initO : Obj := { cls := .type "function", data := .func { name := "__init__", qualname := "CasFail.__init__", params := initD.params, body := .stmts initD.body, scope := initD.scope, globals := mainGlobals, closure := [], defaults := .none, kwdefaults := .none, pyModule := .str "cas.errors" 187, code := .ref 27 } }
noncomputable def r0O : Obj := { cls := .type "tuple", data := .seq #[.int 0 232, .int 1 233] }
noncomputable def r1O : Obj := { cls := .type "tuple", data := .seq #[.int 1 235, .int 1 236] }
noncomputable def casO : Obj := excClassObj "CasFail" "CasFail" 31 30 [.type "Exception"] excMro true [] [] false none none (some (.ref 15)) none (some (.str "CasFail" 189)) (some (.str "CasFail" 197)) (some (.bool true)) "Exception.__new__"

theorem kok_of {h : Heap} (e31 : h.get? 31 = some casO) (e42 : h.get? 42 = some r0O) (e43 : h.get? 43 = some r1O) (e28 : h.get? 28 = some initO) (e : kB (fragOf300 h) = true) : KOk (fragOf300 h) ∧ codeHdIn (fragOf300 h) 296 294 = true ∧ codeHdIn (fragOf300 h) 291 289 = true := by
  unfold kB at e
  generalize hK : fragOf300 h = K at e
  have f31 := frag_at (by decide) e31
  have f42 := frag_at (by decide) e42
  have f43 := frag_at (by decide) e43
  have f28 := frag_at (by decide) e28
  rw [hK] at f31 f42 f43 f28
  simp only [Bool.and_eq_true] at e
  obtain ⟨e1, e2, e3, e4, e5, e6, e7, e8, e9, e10, e11, e12, e13, e14, e15, e16, e17, e18⟩ := e
  refine ⟨{
    debug := isNN_eq e1
    r0 := ⟨42, r0O, 232, 233, 0, isAt_eq e2, f42, rfl, rfl⟩
    r1 := ⟨43, r1O, 235, 236, 0, isAt_eq e3, f43, rfl, rfl⟩
    bi := fun x hx => isNN_eq (List.all_eq_true.mp e4 x hx)
    exc := isNN_eq e5
    cas := isAt_eq e6
    cls := ⟨_, _, _, _, _, _, _, _, _, _, _, _, _, f31⟩
    ns := e7
    n1 := isAt_eq e8
    n2 := isNN_eq e9
    n3 := isNN_eq e10
    n4 := isNN_eq e11
    n5 := isNN_eq e12
    n6 := isNN_eq e13
    init := ⟨initO, _, initD, f28, rfl, rfl, by simp [initD], rfl, rfl, rfl, rfl, rfl, rfl, rfl, rfl, e14⟩
    t1 := beq_iff_eq.mp e15
    t2 := beq_iff_eq.mp e16 }, e17, e18⟩

noncomputable def hk : Hook where
  α := List (Option Obj) × Bool
  obs := fun s => (([31, 42, 43, 28, 294, 289] : List Addr).map s.heap.get?, kB (fragOf300 s.heap))
  val := fun _ => ([some casO, some r0O, some r1O, some initO, some (tabObj #[]), some (tabObj #[])], true)
  says := fun _ h => ∃ K : Frag, K.In h ∧ KOk K ∧ codeHdIn K 296 294 = true ∧ codeHdIn K 291 289 = true ∧ h.get? 294 = some (tabObj #[]) ∧ h.get? 289 = some (tabObj #[])
  of := fun w s x => by
    obtain ⟨x1, x2⟩ := Prod.mk.inj x
    obtain ⟨e31, x1⟩ := List.cons.inj x1
    obtain ⟨e42, x1⟩ := List.cons.inj x1
    obtain ⟨e43, x1⟩ := List.cons.inj x1
    obtain ⟨e28, x1⟩ := List.cons.inj x1
    obtain ⟨e294, x1⟩ := List.cons.inj x1
    obtain ⟨e289, x1⟩ := List.cons.inj x1
    obtain ⟨k, c1, c2⟩ := kok_of e31 e42 e43 e28 x2
    exact ⟨_, frag_in _, k, c1, c2, e294, e289⟩
  keeps := fun w h h' x k => by
    obtain ⟨K, a, b, c1, c2, e1, e2⟩ := x
    exact ⟨K, Frag.In.keeps a k, b, c1, c2, k _ _ e1, k _ _ e2⟩
end Mine
end
section
set_option maxRecDepth 100000
open PySem PySem.W PyProof.Rows PySem.Calls
namespace Mine
noncomputable abbrev pp0 : Program := PySem.Challenge.rw_pf0050_01.row.prog
theorem said : OpenLaw.wellSaid PySem.Challenge.rw_pf0050_01 = true := (congrFun PySem.W.Fast.te9446332074065402090 _).trans (by kernel_rfl)
theorem chains : (chainsOk vw && opensWell PySem.Challenge.rw_pf0050_01.row.toRowW.prog && (frees PySem.Challenge.rw_pf0050_01.row.toRowW && PySem.Challenge.rw_pf0050_01.row.within.isEmpty)) = true := by kernel_rfl
theorem op : opening pp0 = plainProg pp0.main.scope.names := by kernel_rfl
theorem fmods (s : Shared) : fenceModules? pp0 s = some s := by kernel_rfl
theorem bo : ∀ w : World, (fencedOpening treeTable pp0 w 3274).map (fun s => (s.heap, s.gens, s.drawn, s.toks)) = some (boot_heap w.params, Array.mk [], boot_drawn, boot_toks) := boot_open op (by rfl) fmods
noncomputable abbrev xt : Shared → Bool := fun s => xlAt vw [] s && recOk (RowW.records PySem.Challenge.rw_pf0050_01.row.toRowW) s
noncomputable abbrev seenL (s : Shared) := (openSeen vw [] (importedModules pp0.main.body) xt true s, hk.obs s)
noncomputable def runQ (w : World) (os : OsState) := (match (boot_heap w.params).isNs mainGlobals && (Array.mk [] : Array GenState).size == 0 with
  | true => (PySem.W.Fast.tw14082659384304107361 PySem.W.Fast.tw14364793385576792824 pp0 w (boot_heap w.params).objs.size ((boot_heap w.params).nsMap mainGlobals "__annotations__") 3274 ⟨boot_heap w.params, Array.mk [], boot_drawn, boot_toks, os⟩ (topStub pp0)).bind fun s₁ =>
    match staticsOk (PySem.W.Fast.tw5923862056798008813 pp0.main.body) (boot_heap w.params) s₁.heap && namesBound pp0 s₁.heap && gensDone s₁ && laidKept (boot_heap w.params) s₁.heap with
    | true => some s₁
    | false => none
  | false => none : Option Shared).map fun s => (PySem.W.Fast.tw4187177175401517315 vw [] (PySem.W.Fast.tw5923862056798008813 pp0.main.body) xt true s, hk.obs s)
theorem run_eq (w : World) (os : OsState) : (topFrom treeTable pp0 w 3274 ⟨boot_heap w.params, Array.mk [], boot_drawn, boot_toks, os⟩).map seenL = runQ w os := by
  unfold topFrom runQ seenL
  rw [PySem.W.Fast.te14082659384304107361, PySem.W.Fast.te14364793385576792824, PySem.W.Fast.te5923862056798008813, PySem.W.Fast.te4187177175401517315]
  rfl
set_option maxHeartbeats 0 in
theorem run0 (w : World) (os : OsState) : runQ w os = some (openGood vw [], hk.val w) := by kernel_rfl
theorem run (w : World) (os : OsState) : (topFrom treeTable pp0 w 3274 ⟨boot_heap w.params, Array.mk [], boot_drawn, boot_toks, os⟩).map seenL = some (openGood vw [], hk.val w) := (run_eq w os).trans (run0 w os)
theorem left : LeftO pp0 vw [] (fun s => xlAt vw [] s && recOk (RowW.records PySem.Challenge.rw_pf0050_01.row.toRowW) s) hk.obs hk.val 3274 := fun w => by
  obtain ⟨⟨h, gs, d, k, os⟩, e, e'⟩ := Option.map_eq_some_iff.mp (bo w)
  obtain ⟨rfl, rfl, rfl, rfl⟩ : h = boot_heap w.params ∧ gs = Array.mk [] ∧ d = boot_drawn ∧ k = boot_toks := by simpa using e'
  unfold openEnds
  rw [e]
  exact run w os
theorem vw_recs : (recsOf vw).map (fun r => (r.name, r.params, r.body, r.scope)) = (defsL PySem.Challenge.pw_pf0050_01.main.body).map (fun x => (x.1, x.2.params, x.2.body, x.2.scope)) := by kernel_rfl
noncomputable def lawD : DefRec × List (Str × Expr) := (defOf vw "law").get (by decide +kernel)
theorem lawD_eq : defOf vw PySem.Challenge.rw_pf0050_01.row.name = some (lawD.1, lawD.2) := by kernel_rfl
theorem lawD_the : PySem.Challenge.rw_pf0050_01.row.prog.theDef PySem.Challenge.rw_pf0050_01.row.name = some (lawD.1.params, lawD.1.body, lawD.1.scope) := by kernel_rfl
theorem lawD_kw : kwWritten? lawD.1.params.kwonlyargs lawD.1.params.kw_defaults = some lawD.2 := by kernel_rfl
end Mine
end
section
set_option maxRecDepth 100000
open PySem PySem.W PyProof.Rows PySem.Calls
namespace Mine

abbrev fuel : Nat := 120

noncomputable def LawTrue : Prop := ∀ ns : List Int, ns.length ≤ 63 → ∃ vars σ', (ev fuel).s lawFn.body.tail (lawPE (.lst 2)) [ns.map .int, (ns.take 40).map .int, [.lst 1, .int 0]] = some (.ok (.ret (.bool true), vars) σ')

theorem law_raises (a : List WData) (x : ExcName) : PySem.Challenge.rw_pf0050_01.row.claim.raises a x = false := rfl
theorem law_post (a b : List WData) : PySem.Challenge.rw_pf0050_01.row.claim.post a (.bool true) b = true := by
  first
  | kernel_rfl
  | (refine postW_of rfl ?_ rfl; rfl)
  | (show (WShape.has _ _ _ && WTm.holds _ _ _) = true; simp [PySem.Challenge.rw_pf0050_01, OpenLaw.row, WShape.has, WTm.holds, WTm.value])

section
variable {K : Frag} {p : Program} {loose : List Str} {mean : ExcName → Option Value} {mg mb : Str → Option Value} {w : World} {s : Shared}

theorem join (L : LawTrue) (X : K.In s.heap) (k : KOk K) (T : Top p loose mean mg mb s.heap) (hT : TabsAt theTabs s.heap) (hrec : (recsOf p).map (fun r => (r.name, r.params, r.body, r.scope)) = (defsL PySem.Challenge.pw_pf0050_01.main.body).map (fun x => (x.1, x.2.params, x.2.body, x.2.scope)))
    (hg : s.gens = #[]) {fv : Value} (hmg : mg "law" = some fv) {la : Addr} {vs : List Value} {ns : List Int} {P : Params} (hl : Well P s.heap (.ref la) (ofPy (PyData.list (ns.map PyData.int)))) (hli : s.heap.IsList la vs.toArray) (hi : IntsAre vs ns)
    (hlen : ns.length ≤ 63) {cl : Str → Option Addr} {mean' : ExcName → Option Value} {args : List WData} :
    codeAny (model PySem.Challenge.pw_pf0050_01 w) callerA (.call fv ⟨[.ref la], []⟩) (GoodWG PySem.Challenge.rw_pf0050_01.row.claim cl mean' args s) s := by
  have ok := cx_ok (w := w) X k T hT hrec
  have cas := cas_ok (w := w) X k T hT
  obtain ⟨vars, σ', hx⟩ := L ns hlen
  have hlo : s.heap.get? la = some (listOf vs.toArray 0) := by
    cases hl with
    | list e _ =>
      obtain ⟨o, e2, hc, n, hd⟩ := hli
      rw [e] at e2; cases e2
      cases hd
      exact e
  refine kn_post (tabs := theTabs) hT law_raises ?_
  have hbase : ∀ b o, (theCx w s.heap mg mb).B.get? b = some o → s.heap.get? b = some o := fun b o e => of_hideAll _ e
  have aok : AOk callerA (fuel + 1) [] := ⟨rfl, by decide, by decide, rfl⟩
  refine law_call (C := theCx w s.heap mg mb) ok (sound cas ok fuel) aok hbase (fun t ht => ?_) (ghost_get hT hlo (fun z => by cases z)) hi hlen hmg hx fun h' t' kp tb => ?_
  · simp only [List.mem_cons, List.not_mem_nil, or_false] at ht
    rcases ht with rfl | rfl
    · exact ⟨#[], (hT (296, 294) (.head _)).2, trivial, fun pos cv e => nomatch e⟩
    · exact ⟨#[], (hT (291, 289) (.tail _ (.head _))).2, trivial, fun pos cv e => nomatch e⟩
  · have tabOf : ∀ t ∈ (theCx w s.heap mg mb).tabs, GrownAt t.P h' := fun t ht => by
      obtain ⟨ps, h1, _⟩ := tb t ht
      exact ⟨ps, h1⟩
    refine ⟨⟨.inl ⟨.bool true, .bool true, [], rfl, fun c => law_raises _ c, .bool true, law_post _ _, fun _ => ⟨List.nodup_nil, (fun a ha => nomatch ha)⟩⟩, kp, rfl, hg⟩, tabOf lawTab (.head _), tabOf singleTab (.tail _ (.head _)), trivial⟩
end
end Mine
end
section
set_option backward.match.sparseCases false
set_option maxRecDepth 100000
open PySem
namespace Mine

noncomputable def Wp {α : Type} (x : R α) (Q : α → St → Prop) : Prop := ∃ a σ, x = some (.ok a σ) ∧ Q a σ
noncomputable def Wx {α : Type} (x : R α) (k : Str) (Q : St → Prop) : Prop := ∃ σ, x = some (.exc k σ) ∧ Q σ

noncomputable def Le (σ σ' : St) : Prop := ∀ (j : Nat) (l : List PV), σ[j]? = some l → σ'[j]? = some l
theorem Le.refl (σ : St) : Le σ σ := fun _ _ h => h
theorem Le.trans {σ σ₁ σ₂ : St} (a : Le σ σ₁) (b : Le σ₁ σ₂) : Le σ σ₂ := fun j l h => b j l (a j l h)
theorem Le.app (σ τ : St) : Le σ (σ ++ τ) := fun j l h => by
  rw [List.getElem?_append_left (List.getElem?_eq_some_iff.mp h).1]; exact h
theorem Le.none {σ σ' : St} (a : Le σ σ') {i : Nat} (h : σ'[i]? = Option.none) : σ[i]? = Option.none := by
  cases q : σ[i]? with
  | none => rfl
  | some l => rw [a i l q] at h; cases h
theorem Le.set {σ σ' : St} (a : Le σ σ') {i : Nat} (h : σ[i]? = Option.none) (x : List PV) : Le σ (σ'.set i x) := fun j l hj => by
  have hij : i ≠ j := fun q => by rw [q, hj] at h; cases h
  rw [List.getElem?_set_ne hij]
  exact a j l hj

noncomputable def Al (vs : List PV) (σ : St) (Q : PV → St → Prop) : Prop := ∀ i σ', Le σ σ' → σ[i]? = none → σ'[i]? = some vs → Q (.lst i) σ'

section
variable {α β : Type}
theorem Wp.bind {x : R α} {f : α → St → R β} {Q : β → St → Prop} (h : Wp x fun a σ => Wp (f a σ) Q) : Wp (x.bind f) Q := by
  obtain ⟨a, σ, e, b, τ, e2, hq⟩ := h
  exact ⟨b, τ, by rw [e]; exact e2, hq⟩
theorem Wp.bindX {x : R α} {f : α → St → R β} {Q : β → St → Prop} (h : Wp x fun a σ => Wp (f a σ) Q) : Wp (x.bindX f) Q := by
  obtain ⟨a, σ, e, b, τ, e2, hq⟩ := h
  exact ⟨b, τ, by rw [e]; exact e2, hq⟩
theorem Wp.ok {a : α} {σ : St} {Q : α → St → Prop} (h : Q a σ) : Wp (Mine.ok a σ) Q := ⟨a, σ, rfl, h⟩
theorem Wp.mono {x : R α} {Q Q' : α → St → Prop} (h : Wp x Q) (k : ∀ a σ, Q a σ → Q' a σ) : Wp x Q' := by
  obtain ⟨a, σ, e, hq⟩ := h
  exact ⟨a, σ, e, k a σ hq⟩
theorem Wp.alloc {vs : List PV} {σ : St} {Q : PV → St → Prop} (hl : vs.length ≤ cap) (h : Al vs σ Q) : Wp (Mine.alloc vs σ) Q := by
  refine ⟨.lst σ.length, σ ++ [vs], by unfold Mine.alloc; rw [if_pos hl]; rfl, h _ _ (Le.app _ _) (by simp) (by simp)⟩
theorem Wx.bindX {x : R α} {f : α → St → R β} {k : Str} {Q : St → Prop} (h : Wx x k Q) : Wx (x.bindX f) k Q := by
  obtain ⟨σ, e, hq⟩ := h
  exact ⟨σ, by rw [e]; rfl, hq⟩
theorem Wx.bind {x : R α} {f : α → St → R β} {k : Str} {Q : St → Prop} (h : Wp x fun a σ => Wx (f a σ) k Q) : Wx (x.bind f) k Q := by
  obtain ⟨a, σ, e, τ, e2, hq⟩ := h
  exact ⟨τ, by rw [e]; exact e2, hq⟩
theorem Wx.bindX' {x : R α} {f : α → St → R β} {k : Str} {Q : St → Prop} (h : Wp x fun a σ => Wx (f a σ) k Q) : Wx (x.bindX f) k Q := by
  obtain ⟨a, σ, e, τ, e2, hq⟩ := h
  exact ⟨τ, by rw [e]; exact e2, hq⟩
end

abbrev At (vars : Vars) (x : Str) (v : PV) : Prop := vars.lookup x = some v
theorem lk_eq {x : Str} {v : PV} {vars : Vars} : (upd x v vars).lookup x = some v := by rw [lookup_upd, if_pos rfl]
theorem lk_ne {x y : Str} {v w : PV} {vars : Vars} (hn : (x == y) = false) (h : vars.lookup x = some v) : (upd y w vars).lookup x = some v := by
  rw [lookup_upd, if_neg (by simpa using hn)]; exact h
noncomputable def Seen (names : List (Str × NameKind)) (V : Vars) : Vars := V.filter fun x => names.lookup x.1 == some .free
theorem lk_free {names : List (Str × NameKind)} {x : Str} {v : PV} {vars : Vars} (hf : names.lookup x = some .free) (h : vars.lookup x = some v) : (Seen names vars).lookup x = some v := by
  unfold Seen; rw [lookup_filter, if_pos hf]; exact h
theorem look_local {ρ : PE} {x : Str} {v : PV} (hk : ρ.names.lookup x = some .local) (h : ρ.vars.lookup x = some v) : ρ.look x = some v := by unfold PE.look; rw [hk]; exact h
theorem look_cell {ρ : PE} {x : Str} {v : PV} (hk : ρ.names.lookup x = some .cell) (h : ρ.vars.lookup x = some v) : ρ.look x = some v := by unfold PE.look; rw [hk]; exact h
theorem look_free {ρ : PE} {x : Str} {v : PV} (hk : ρ.names.lookup x = some .free) (h : ρ.vars.lookup x = some v) : ρ.look x = some v := by unfold PE.look; rw [hk]; exact h
theorem look_const {ρ : PE} {x : Str} {v : PV} (hk : ρ.names.lookup x = some .globalImplicit) (h : consts.lookup x = some v) : ρ.look x = some v := by unfold PE.look; rw [hk]; exact h

section
variable {n : Nat} {ρ : PE} {σ : St} {Q : PV → St → Prop}

theorem e_int {i : Int} {k : Nat} {p : Pos} (h : Q (.int i) σ) : Wp ((ev (n + 1)).e (.Constant (.int i) k p) ρ σ) Q := ⟨_, _, rfl, h⟩
theorem e_none {k : Nat} {p : Pos} (h : Q .none σ) : Wp ((ev (n + 1)).e (.Constant .none k p) ρ σ) Q := ⟨_, _, rfl, h⟩
theorem e_bool {b : Bool} {k : Nat} {p : Pos} (h : Q (.bool b) σ) : Wp ((ev (n + 1)).e (.Constant (.bool b) k p) ρ σ) Q := ⟨_, _, rfl, h⟩
theorem e_str {x : Str} {k : Nat} {p : Pos} (h : Q (.str x) σ) : Wp ((ev (n + 1)).e (.Constant (.str x) k p) ρ σ) Q := ⟨_, _, rfl, h⟩
theorem e_name {x : Str} {p : Pos} {v : PV} (hl : ρ.look x = some v) (h : Q v σ) (hd : (x == ("__debug__" : Str)) = false := by rfl) : Wp ((ev (n + 1)).e (.Name x p) ρ σ) Q :=
  ⟨v, σ, by show evName x ρ σ = _; unfold evName; rw [hd, hl]; rfl, h⟩
theorem l_nil {f : Expr → St → R PV} {Q : List PV → St → Prop} (h : Q [] σ) : Wp (evList f [] σ) Q := ⟨_, _, rfl, h⟩
theorem l_cons {f : Expr → St → R PV} {e : Expr} {r : List Expr} {Q : List PV → St → Prop} (h : Wp (f e σ) fun v σ₁ => Wp (evList f r σ₁) fun vs σ₂ => Q (v :: vs) σ₂) (hs : isStar e = false := by rfl) : Wp (evList f (e :: r) σ) Q := by
  show Wp (if isStar e then none else (f e σ).bind fun v σ₁ => (evList f r σ₁).bind fun vs σ₂ => Mine.ok (v :: vs) σ₂) Q
  rw [if_neg (by rw [hs]; exact Bool.false_ne_true)]
  exact Wp.bind (h.mono fun v σ₁ h => Wp.bind (h.mono fun vs σ₂ h => Wp.ok h))
theorem e_tuple {es : List Expr} {k : Nat} {p : Pos} (h : Wp (evList (fun e σ => (ev n).e e ρ σ) es σ) fun vs σ' => vs.length ≤ cap ∧ Q (.tup vs) σ') : Wp ((ev (n + 1)).e (.Tuple es k p) ρ σ) Q :=
  Wp.bind (h.mono fun vs σ' h => by rw [if_pos h.1]; exact Wp.ok h.2)
theorem e_list {es : List Expr} {p : Pos} (h : Wp (evList (fun e σ => (ev n).e e ρ σ) es σ) fun vs σ' => vs.length ≤ cap ∧ Al vs σ' Q) : Wp ((ev (n + 1)).e (.List es p) ρ σ) Q :=
  Wp.bind (h.mono fun vs σ' h => Wp.alloc h.1 h.2)
theorem e_bin {l r : Expr} {op : Operator} {p : Pos} (h : Wp ((ev n).e l ρ σ) fun a σ₁ => Wp ((ev n).e r ρ σ₁) fun b σ₂ => Wp (binop op a b σ₂) Q) : Wp ((ev (n + 1)).e (.BinOp l op r p) ρ σ) Q :=
  Wp.bind (h.mono fun a σ₁ h => Wp.bind h)
theorem b_add {x y : Int} (h : Q (.int (x + y)) σ) : Wp (binop .Add (.int x) (.int y) σ) Q := ⟨_, _, rfl, h⟩
theorem b_sub {x y : Int} (h : Q (.int (x - y)) σ) : Wp (binop .Sub (.int x) (.int y) σ) Q := ⟨_, _, rfl, h⟩
theorem b_int {op : Operator} {x y z : Int} (e : binInts op x y = some z) : binop op (.int x) (.int y) σ = some (.ok (.int z) σ) := by
  show (match binInts op x y with | some z => Mine.ok (PV.int z) σ | none => none) = _
  rw [e]; rfl
theorem b_mul {x y : Int} (hx : bitsOk x = true) (hy : bitsOk y = true) (h : Q (.int (x * y)) σ) : Wp (binop .Mult (.int x) (.int y) σ) Q :=
  ⟨.int (x * y), σ, b_int (if_pos (by rw [hx, hy]; rfl)), h⟩
theorem b_div {x y : Int} (hy : y ≠ 0) (hb : bitsOk y = true) (h : Q (.int (x.fdiv y)) σ) : Wp (binop .FloorDiv (.int x) (.int y) σ) Q :=
  ⟨.int (x.fdiv y), σ, b_int (if_pos (by rw [hb, Bool.and_true]; simpa using hy)), h⟩
theorem b_mod {x y : Int} (hy : y ≠ 0) (h : Q (.int (x.fmod y)) σ) : Wp (binop .Mod (.int x) (.int y) σ) Q :=
  ⟨.int (x.fmod y), σ, b_int (if_pos (by simpa using hy)), h⟩
theorem b_cat {i j : Nat} {l m : List PV} (hi : σ[i]? = some l) (hj : σ[j]? = some m) (hl : (l ++ m).length ≤ cap) (h : Al (l ++ m) σ Q) : Wp (binop .Add (.lst i) (.lst j) σ) Q := by
  show Wp (match σ[i]?, σ[j]? with | some l, some m => Mine.alloc (l ++ m) σ | _, _ => none) Q
  rw [hi, hj]
  exact Wp.alloc hl h
theorem b_rep {i : Nat} {v : PV} {m : Int} (hi : σ[i]? = some [v]) (h0 : 0 ≤ m) (h1 : m ≤ 1000) (h : Al (List.replicate m.toNat v) σ Q) : Wp (binop .Mult (.lst i) (.int m) σ) Q := by
  show Wp (match σ[i]? with | some [v] => if decide (0 ≤ m) && decide (m ≤ 1000) then Mine.alloc (List.replicate m.toNat v) σ else none | _ => none) Q
  rw [hi]
  show Wp (if decide (0 ≤ m) && decide (m ≤ 1000) then _ else _) Q
  rw [if_pos (by simp [h0, h1])]
  exact Wp.alloc (by have : cap = 4000 := rfl; simp; exact fm [_] [_] [.ile (.v 0) (.l 1000), .neq (.v 0) (.l 4000)] (.ile (.v 0) (.k (.v 0))) [[1, 0, 1, 1]] rfl h1 this) h
theorem e_neg {x : Expr} {p : Pos} (h : Wp ((ev n).e x ρ σ) fun v σ₁ => ∃ i, v = .int i ∧ Q (.int (-i)) σ₁) : Wp ((ev (n + 1)).e (.UnaryOp .USub x p) ρ σ) Q :=
  Wp.bind (h.mono fun v σ₁ h => by obtain ⟨i, rfl, hq⟩ := h; exact Wp.ok hq)
theorem e_not {x : Expr} {p : Pos} (h : Wp ((ev n).e x ρ σ) fun v σ₁ => ∃ b, v = .bool b ∧ Q (.bool (!b)) σ₁) : Wp ((ev (n + 1)).e (.UnaryOp .Not x p) ρ σ) Q :=
  Wp.bind (h.mono fun v σ₁ h => by obtain ⟨i, rfl, hq⟩ := h; exact Wp.ok hq)
theorem strict_eq {α : Type} {x : R α} {Q : α → St → Prop} (h : Wp x Q) : Wp x.strict Q := Wp.bind (h.mono fun a σ h => Wp.ok h)
theorem e_ife {t b o : Expr} {p : Pos} (h : Wp ((ev n).t t ρ σ) fun c σ₁ => (c = true → Wp ((ev n).e b ρ σ₁) Q) ∧ (c = false → Wp ((ev n).e o ρ σ₁) Q)) : Wp ((ev (n + 1)).e (.IfExp t b o p) ρ σ) Q :=
  Wp.bind (h.mono fun c σ₁ h => by
    cases c with
    | true => exact strict_eq (h.1 rfl)
    | false => exact strict_eq (h.2 rfl))
theorem e_boolop {op : BoolOp} {vs : List Expr} {p : Pos} (h : Wp (boolOps op (fun e σ => (ev n).e e ρ σ) vs σ) Q) : Wp ((ev (n + 1)).e (.BoolOp op vs p) ρ σ) Q := h
theorem bo_last {op : BoolOp} {f : Expr → St → R PV} {x : Expr} (h : Wp (f x σ) Q) : Wp (boolOps op f [x] σ) Q := strict_eq h
theorem bo_cons {op : BoolOp} {f : Expr → St → R PV} {x y : Expr} {r : List Expr} (h : Wp (f x σ) fun v σ₁ => ∃ b, v = .bool b ∧ ((b == (op == .Or)) = true → Q v σ₁) ∧ ((b == (op == .Or)) = false → Wp (boolOps op f (y :: r) σ₁) Q)) : Wp (boolOps op f (x :: y :: r) σ) Q := by
  refine Wp.bind (h.mono fun v σ₁ h => ?_)
  obtain ⟨b, rfl, h1, h2⟩ := h
  show Wp (if b == (op == .Or) then Mine.ok (.bool b) σ₁ else boolOps op f (y :: r) σ₁) Q
  cases q : b == (op == .Or) with
  | true => exact Wp.ok (h1 q)
  | false => exact h2 q
theorem cmp1 {l r : Expr} {op : CmpOp} {Q : Bool → St → Prop} (h : Wp ((ev n).e l ρ σ) fun a σ₁ => Wp ((ev n).e r ρ σ₁) fun b σ₂ => ∃ c, cmp op a b σ₂ = some c ∧ Q c σ₂) (hp : plainIter r = true := by rfl) : Wp (evCmp (ev n) l [op] [r] ρ σ) Q := by
  show Wp (if plainIter r then _ else _) Q
  rw [if_pos hp]
  refine Wp.bind (h.mono fun a σ₁ h => Wp.bind (h.mono fun b σ₂ h => ?_))
  obtain ⟨c, hc, hq⟩ := h
  rw [hc]
  exact Wp.ok hq
theorem e_cmp {l r : Expr} {op : CmpOp} {p : Pos} (h : Wp ((ev n).e l ρ σ) fun a σ₁ => Wp ((ev n).e r ρ σ₁) fun b σ₂ => ∃ c, cmp op a b σ₂ = some c ∧ Q (.bool c) σ₂) (hp : plainIter r = true := by rfl) : Wp ((ev (n + 1)).e (.Compare l [op] [r] p) ρ σ) Q :=
  Wp.bind ((cmp1 (Q := fun c σ => Q (.bool c) σ) h hp).mono fun c σ h => Wp.ok h)
theorem e_sub {v s : Expr} {p : Pos} (h : Wp ((ev n).e v ρ σ) fun a σ₁ => Wp ((ev n).e s ρ σ₁) fun k σ₂ => Wp (getItem a k σ₂) Q) (hc : cutOf s = .item s := by rfl) : Wp ((ev (n + 1)).e (.Subscript v s p) ρ σ) Q :=
  Wp.bind (h.mono fun a σ₁ h => by rw [hc]; exact Wp.bind h)
theorem g_lst {i : Nat} {l : List PV} {m : Int} {v : PV} (hi : σ[i]? = some l) (h0 : 0 ≤ m) (h1 : m ≤ 1000000) (hv : l[m.toNat]? = some v) (h : Q v σ) : Wp (getItem (.lst i) (.int m) σ) Q := by
  show Wp (if decide (0 ≤ m) && decide (m ≤ 1000000) then _ else _) Q
  rw [if_pos (by simp [h0, h1]), hi]
  show Wp (match l[m.toNat]? with | some v => Mine.ok v σ | none => none) Q
  rw [hv]
  exact Wp.ok h
theorem g_tup {l : List PV} {m : Int} {v : PV} (h0 : 0 ≤ m) (h1 : m ≤ 1000000) (hv : l[m.toNat]? = some v) (h : Q v σ) : Wp (getItem (.tup l) (.int m) σ) Q := by
  show Wp (if decide (0 ≤ m) && decide (m ≤ 1000000) then _ else _) Q
  rw [if_pos (by simp [h0, h1])]
  show Wp (match l[m.toNat]? with | some v => Mine.ok v σ | none => none) Q
  rw [hv]
  exact Wp.ok h
theorem e_upto {v u : Expr} {q p : Pos} (h : Wp ((ev n).e v ρ σ) fun a σ₁ => Wp ((ev n).e u ρ σ₁) fun k σ₂ => ∃ i m l, a = .lst i ∧ k = .int m ∧ 0 ≤ m ∧ m ≤ 1000 ∧ σ₂[i]? = some l ∧ l.length ≤ cap ∧ Al (l.take m.toNat) σ₂ Q) :
    Wp ((ev (n + 1)).e (.Subscript v (.Slice none (some u) none q) p) ρ σ) Q :=
  Wp.bind (h.mono fun a σ₁ h => Wp.bind (h.mono fun k σ₂ h => by
    obtain ⟨i, m, l, rfl, rfl, h0, h1, hi, hl, hq⟩ := h
    show Wp (if decide (0 ≤ m) && decide (m ≤ 1000) then _ else _) Q
    rw [if_pos (by simp [h0, h1]), hi]
    show Wp (if l.length ≤ cap then _ else _) Q
    rw [if_pos hl]
    exact Wp.alloc (by simp; exact fm [_, _, _, _] [] [.nle (.v 0) (.v 1), .or (.an (.nle (.v 2) (.v 0)) (.neq (.v 3) (.v 2))) (.an (.nle (.v 0) (.v 2)) (.neq (.v 3) (.v 0)))] (.nle (.v 3) (.v 1)) [[1, 1, 1, 0, 1], [1, 0, 1, 0, 1]] rfl hl (minn _ _)) hq))
theorem e_from {v u : Expr} {q p : Pos} (h : Wp ((ev n).e v ρ σ) fun a σ₁ => Wp ((ev n).e u ρ σ₁) fun k σ₂ => ∃ i m l, a = .lst i ∧ k = .int m ∧ 0 ≤ m ∧ m ≤ 1000 ∧ σ₂[i]? = some l ∧ l.length ≤ cap ∧ Al (l.drop m.toNat) σ₂ Q) :
    Wp ((ev (n + 1)).e (.Subscript v (.Slice (some u) none none q) p) ρ σ) Q :=
  Wp.bind (h.mono fun a σ₁ h => Wp.bind (h.mono fun k σ₂ h => by
    obtain ⟨i, m, l, rfl, rfl, h0, h1, hi, hl, hq⟩ := h
    show Wp (if decide (0 ≤ m) && decide (m ≤ 1000) then _ else _) Q
    rw [if_pos (by simp [h0, h1]), hi]
    show Wp (if l.length ≤ cap then _ else _) Q
    rw [if_pos hl]
    exact Wp.alloc (by simp; exact fm [_, _, _] [] [.nle (.v 0) (.v 1)] (.nle (.v 0) (.a (.v 1) (.v 2))) [[1, 1]] rfl hl) hq))

theorem call_eq {f : Str} {args : List Expr} {p q : Pos} (hg : ρ.isGlobal f = true) (ha : (f == ("_law_asked" : Str)) = false) :
    (ev (n + 1)).e (.Call (.Name f p) args [] q) ρ σ = (evList (fun e σ => (ev n).e e ρ σ) args σ).bind fun vs σ₁ => if builtins.contains f then builtin f vs σ₁ else (ev n).c f vs σ₁ := by
  show (if ρ.isGlobal f then (if f == ("_law_asked" : Str) then _ else _) else none) = _
  rw [if_pos hg, if_neg (by rw [ha]; exact Bool.false_ne_true)]
theorem e_call {f : Str} {args : List Expr} {p q : Pos} (h : Wp (evList (fun e σ => (ev n).e e ρ σ) args σ) fun vs σ₁ => Wp ((ev n).c f vs σ₁) Q) (hg : ρ.isGlobal f = true := by rfl) (ha : (f == ("_law_asked" : Str)) = false := by rfl) (hb : builtins.contains f = false := by rfl) :
    Wp ((ev (n + 1)).e (.Call (.Name f p) args [] q) ρ σ) Q := by
  rw [call_eq hg ha, hb]
  exact Wp.bind (h.mono fun vs σ₁ h => h)
theorem ex_call {f : Str} {args : List Expr} {p q : Pos} {k : Str} {Q : St → Prop} (h : Wp (evList (fun e σ => (ev n).e e ρ σ) args σ) fun vs σ₁ => Wx ((ev n).c f vs σ₁) k Q) (hg : ρ.isGlobal f = true := by rfl) (ha : (f == ("_law_asked" : Str)) = false := by rfl) (hb : builtins.contains f = false := by rfl) :
    Wx ((ev (n + 1)).e (.Call (.Name f p) args [] q) ρ σ) k Q := by
  rw [call_eq hg ha, hb]
  exact Wx.bind (h.mono fun vs σ₁ h => h)
theorem e_bi {f : Str} {args : List Expr} {p q : Pos} (h : Wp (evList (fun e σ => (ev n).e e ρ σ) args σ) fun vs σ₁ => Wp (builtin f vs σ₁) Q) (hb : builtins.contains f = true := by rfl) (hg : ρ.isGlobal f = true := by rfl) (ha : (f == ("_law_asked" : Str)) = false := by rfl) :
    Wp ((ev (n + 1)).e (.Call (.Name f p) args [] q) ρ σ) Q := by
  rw [call_eq hg ha, hb]
  exact Wp.bind (h.mono fun vs σ₁ h => h)
theorem bi_len {i : Nat} {l : List PV} (hi : σ[i]? = some l) (hl : l.length ≤ cap) (h : Q (.int l.length) σ) : Wp (builtin "len" [.lst i] σ) Q := by
  show Wp (match σ[i]? with | some l => if l.length ≤ cap then Mine.ok (.int l.length) σ else none | none => none) Q
  rw [hi]
  show Wp (if l.length ≤ cap then _ else _) Q
  rw [if_pos hl]
  exact Wp.ok h
theorem bi_abs {x : Int} (h : Q (.int (if x < 0 then -x else x)) σ) : Wp (builtin "abs" [.int x] σ) Q := ⟨_, _, rfl, h⟩
theorem bi_range {m : Int} (hm : smallInt m = true) (h : Q (.rng 0 m) σ) : Wp (builtin "range" [.int m] σ) Q := by
  show Wp (if smallInt m then Mine.ok (.rng 0 m) σ else none) Q
  rw [if_pos hm]
  exact Wp.ok h
theorem bi_range2 {a b : Int} (ha : smallInt a = true) (hb : smallInt b = true) (h : Q (.rng a b) σ) : Wp (builtin "range" [.int a, .int b] σ) Q := by
  show Wp (if smallInt a && smallInt b then Mine.ok (.rng a b) σ else none) Q
  rw [if_pos (by rw [ha, hb]; rfl)]
  exact Wp.ok h
theorem bi_list {i : Nat} {l : List PV} (hi : σ[i]? = some l) (hl : l.length ≤ cap) (h : Al l σ Q) : Wp (builtin "list" [.lst i] σ) Q := by
  show Wp (match σ[i]? with | some l => Mine.alloc l σ | none => none) Q
  rw [hi]
  exact Wp.alloc hl h
theorem bi_listr {a b : Int} (hb : b - a ≤ 1000) (h : Al (rangeInts a b) σ Q) : Wp (builtin "list" [.rng a b] σ) Q := by
  show Wp (if decide (b - a ≤ 1000) then Mine.alloc (rangeInts a b) σ else none) Q
  rw [if_pos (by simpa using hb)]
  exact Wp.alloc (by rw [rangeInts_len]; have : cap = 4000 := rfl; exact fm [_, _] [_, _] [.ile (.s (.v 0) (.v 1)) (.l 1000), .neq (.v 0) (.l 4000), .or (.an (.ile (.l 0) (.s (.v 0) (.v 1))) (.ieq (.k (.v 1)) (.s (.v 0) (.v 1)))) (.an (.ile (.s (.v 0) (.v 1)) (.l 0)) (.neq (.v 1) (.l 0)))] (.nle (.v 1) (.v 0)) [[1, 0, 1, 0, 1, 0, 1], [0, 0, 0, 0, 1, 0, 1]] rfl hb this (tona _)) h
theorem e_append {x : Str} {arg : Expr} {p ap q : Pos} {Q : PV → St → Prop} (h : Wp ((ev n).e (.Name x p) ρ σ) fun o σ₁ => Wp ((ev n).e arg ρ σ₁) fun v σ₂ => ∃ i l, o = .lst i ∧ σ₂[i]? = some l ∧ l.length < cap ∧ Q .none (σ₂.set i (l ++ [v])))
    (hl : (ap.endLine == q.line) = true := by rfl) (hs : isStar arg = false := by rfl) : Wp ((ev (n + 1)).e (.Call (.Attribute (.Name x p) "append" ap) [arg] [] q) ρ σ) Q := by
  show Wp (if ("append" : Str) == ("append" : Str) && ap.endLine == q.line then (if isStar arg then none else _) else _) Q
  rw [if_pos (by rw [hl]; rfl), if_neg (by rw [hs]; exact Bool.false_ne_true)]
  refine Wp.bind (h.mono fun o σ₁ h => Wp.bind (h.mono fun v σ₂ h => ?_))
  obtain ⟨i, l, rfl, hi, hc, hq⟩ := h
  show Wp (match σ₂[i]? with | some l => if l.length < cap then Mine.ok .none (σ₂.set i (l ++ [v])) else none | none => none) Q
  rw [hi]
  show Wp (if l.length < cap then _ else _) Q
  rw [if_pos hc]
  exact Wp.ok hq
theorem it_enum {e a : Expr} {Q : It → St → Prop} (ha : enumArg ρ e = some a) (h : Wp ((ev n).e a ρ σ) fun v σ₁ => ∃ i, v = .lst i ∧ Q (.enm i) σ₁) : Wp (iterOf (ev n) e ρ σ) Q := by
  unfold iterOf
  rw [ha]
  exact Wp.bind (h.mono fun v σ₁ h => by obtain ⟨i, rfl, hq⟩ := h; exact Wp.ok hq)
theorem it_plain {e : Expr} {Q : It → St → Prop} (h : Wp ((ev n).e e ρ σ) fun v σ₁ => ∃ it, itOf v = some it ∧ Q it σ₁) (ha : enumArg ρ e = none := by rfl) (hp : plainIter e = true := by rfl) : Wp (iterOf (ev n) e ρ σ) Q := by
  unfold iterOf
  rw [ha]
  show Wp (if plainIter e then _ else _) Q
  rw [if_pos hp]
  exact Wp.bind (h.mono fun v σ₁ h => by obtain ⟨it, hi, hq⟩ := h; rw [hi]; exact Wp.ok hq)
theorem e_comp {N : List (Str × NameKind)} {V : Vars} {L : Bool} {elt target iter : Expr} {ifs : List Expr} {sc : Scope} {p : Pos} (h : Wp (iterOf (ev n) iter ⟨N, V, L⟩ σ) fun it σ₁ => fits it target = true ∧ Wp (compLoop (ev n) target elt ifs it cap 0 ⟨sc.names, Seen sc.names V, false⟩ σ₁) fun vs σ₂ => vs.length ≤ cap ∧ Al vs σ₂ Q)
    (hf : freeOk ⟨N, V, L⟩ sc.names = true := by rfl) (hs : scopeOk sc = true := by decide +kernel) : Wp ((ev (n + 1)).e (.ListComp elt [⟨target, iter, ifs, 0⟩] sc p) ⟨N, V, L⟩ σ) Q := by
  show Wp (if freeOk ⟨N, V, L⟩ sc.names && scopeOk sc && (0 : Nat) == 0 then _ else _) Q
  rw [if_pos (by rw [hf, hs]; rfl)]
  refine Wp.bind (h.mono fun it σ₁ h => ?_)
  rw [if_pos h.1]
  exact Wp.bind (h.2.mono fun vs σ₂ h => Wp.alloc h.1 h.2)

theorem asked_eq {body : Expr} {sc : Scope} {lp p q : Pos} (hl : ρ.lam = true) (hg : ρ.isGlobal "_law_asked" = true) (hf : freeOk ρ sc.names = true) (hs : scopeOk sc = true) (hn : sc.names.all (fun x => x.2 == .free || x.2 == .globalImplicit) = true) :
    (ev (n + 1)).e (.Call (.Name "_law_asked" p) [.Lambda ⟨[], [], none, [], [], none, []⟩ body sc lp] [] q) ρ σ = match (ev n).e body (inner ρ sc.names) σ with
      | some (.ok v σ₁) => ok v σ₁
      | some (.exc k σ₁) => ok (.str k) σ₁
      | none => none := by
  show (if ρ.isGlobal "_law_asked" then (if ("_law_asked" : Str) == ("_law_asked" : Str) then (if ρ.lam && freeOk ρ sc.names && scopeOk sc && sc.names.all (fun x => x.2 == .free || x.2 == .globalImplicit) then _ else _) else _) else none) = _
  rw [if_pos hg, if_pos (by rfl), if_pos (by rw [hl, hf, hs, hn]; rfl)]
  all_goals (
    cases (ev n).e body (inner ρ sc.names) σ with
    | none => rfl
    | some o => cases o <;> rfl)
theorem e_asked {N : List (Str × NameKind)} {V : Vars} {body : Expr} {sc : Scope} {lp p q : Pos} (h : Wp ((ev n).e body ⟨sc.names, Seen sc.names V, false⟩ σ) Q) (hl : PE.lam ⟨N, V, true⟩ = true := by rfl) (hg : PE.isGlobal ⟨N, V, true⟩ "_law_asked" = true := by rfl) (hf : freeOk ⟨N, V, true⟩ sc.names = true := by rfl) (hs : scopeOk sc = true := by decide +kernel)
    (hn : sc.names.all (fun x => x.2 == .free || x.2 == .globalImplicit) = true := by decide +kernel) : Wp ((ev (n + 1)).e (.Call (.Name "_law_asked" p) [.Lambda ⟨[], [], none, [], [], none, []⟩ body sc lp] [] q) ⟨N, V, true⟩ σ) Q := by
  rw [asked_eq hl hg hf hs hn]
  obtain ⟨a, σ', e, hq⟩ := h
  rw [show (ev n).e body (inner ⟨N, V, true⟩ sc.names) σ = _ from e]
  exact Wp.ok hq
theorem e_askedX {N : List (Str × NameKind)} {V : Vars} {body : Expr} {sc : Scope} {lp p q : Pos} {k : Str} (h : Wx ((ev n).e body ⟨sc.names, Seen sc.names V, false⟩ σ) k (fun σ' => Q (.str k) σ')) (hl : PE.lam ⟨N, V, true⟩ = true := by rfl) (hg : PE.isGlobal ⟨N, V, true⟩ "_law_asked" = true := by rfl) (hf : freeOk ⟨N, V, true⟩ sc.names = true := by rfl) (hs : scopeOk sc = true := by decide +kernel)
    (hn : sc.names.all (fun x => x.2 == .free || x.2 == .globalImplicit) = true := by decide +kernel) : Wp ((ev (n + 1)).e (.Call (.Name "_law_asked" p) [.Lambda ⟨[], [], none, [], [], none, []⟩ body sc lp] [] q) ⟨N, V, true⟩ σ) Q := by
  rw [asked_eq hl hg hf hs hn]
  obtain ⟨σ', e, hq⟩ := h
  rw [show (ev n).e body (inner ⟨N, V, true⟩ sc.names) σ = _ from e]
  exact Wp.ok hq
end

section
variable {n : Nat} {ρ : PE} {σ : St} {Q : Bool → St → Prop}
theorem t_not {x : Expr} {p : Pos} (h : Wp ((ev n).t x ρ σ) fun b σ₁ => Q (!b) σ₁) : Wp ((ev (n + 1)).t (.UnaryOp .Not x p) ρ σ) Q :=
  Wp.bind (h.mono fun b σ₁ h => Wp.ok h)
theorem t_cmp {l r : Expr} {op : CmpOp} {p : Pos} (h : Wp ((ev n).e l ρ σ) fun a σ₁ => Wp ((ev n).e r ρ σ₁) fun b σ₂ => ∃ c, cmp op a b σ₂ = some c ∧ Q c σ₂) (hp : plainIter r = true := by rfl) : Wp ((ev (n + 1)).t (.Compare l [op] [r] p) ρ σ) Q := cmp1 h hp
theorem t_boolop {op : BoolOp} {vs : List Expr} {p : Pos} (h : Wp (tests op (fun e σ => (ev n).t e ρ σ) vs σ) Q) : Wp ((ev (n + 1)).t (.BoolOp op vs p) ρ σ) Q := h
theorem ts_nil {op : BoolOp} {f : Expr → St → R Bool} (h : Q (op == .And) σ) : Wp (tests op f [] σ) Q := Wp.ok h
theorem ts_cons {op : BoolOp} {f : Expr → St → R Bool} {x : Expr} {r : List Expr} (h : Wp (f x σ) fun b σ₁ => ((b == (op == .Or)) = true → Q b σ₁) ∧ ((b == (op == .Or)) = false → Wp (tests op f r σ₁) Q)) : Wp (tests op f (x :: r) σ) Q := by
  refine Wp.bind (h.mono fun b σ₁ h => ?_)
  cases q : b == (op == .Or) with
  | true => exact Wp.ok (h.1 q)
  | false => exact h.2 q
theorem t_call {f : Expr} {args : List Expr} {kws : List Keyword} {p : Pos} (h : Wp ((ev n).e (.Call f args kws p) ρ σ) fun v σ₁ => ∃ b, v = .bool b ∧ Q b σ₁) : Wp ((ev (n + 1)).t (.Call f args kws p) ρ σ) Q :=
  Wp.bind (h.mono fun v σ₁ h => by obtain ⟨b, rfl, hq⟩ := h; exact Wp.ok hq)
theorem t_name {x : Str} {p : Pos} {b : Bool} (hl : ρ.look x = some (.bool b)) (h : Q b σ) (hd : (x == ("__debug__" : Str)) = false := by rfl) : Wp ((ev (n + 2)).t (.Name x p) ρ σ) Q :=
  Wp.bind (e_name hl (Wp.ok h) hd)
end

noncomputable def Ws (x : R (Fl × Vars)) (Q : Fl → Vars → St → Prop) : Prop := Wp x fun fv σ => Q fv.1 fv.2 σ

section
variable {n : Nat} {N : List (Str × NameKind)} {V : Vars} {L : Bool} {σ : St} {Q : Fl → Vars → St → Prop}

theorem s_start {b : List Stmt} (h : Ws (evSs (ev n) b ⟨N, V, L⟩ σ) Q) : Ws ((ev (n + 1)).s b ⟨N, V, L⟩ σ) Q := h
theorem ss_nil (h : Q .next V σ) : Ws (evSs (ev n) [] ⟨N, V, L⟩ σ) Q := Wp.ok h
theorem ss_cons {s : Stmt} {r : List Stmt} (h : Ws (evS (ev n) s ⟨N, V, L⟩ σ) fun f V' σ₁ => match f with
    | .next => Ws (evSs (ev n) r ⟨N, V', L⟩ σ₁) Q
    | f => Q f V' σ₁) : Ws (evSs (ev n) (s :: r) ⟨N, V, L⟩ σ) Q := by
  refine Wp.bindX (Wp.mono h fun fv σ₁ h => ?_)
  obtain ⟨f, vars⟩ := fv
  cases f with
  | next => exact h
  | cont => exact Wp.ok h
  | ret v => exact Wp.ok h
theorem s_assign {t value : Expr} {p : Pos} (h : Wp ((ev n).e value ⟨N, V, L⟩ σ) fun v σ₁ => Wp (assignTo (ev n) t ⟨N, V, L⟩ v σ₁) fun vars σ₂ => Q .next vars σ₂) (hc : constTuple t value = false := by rfl) : Ws (evS (ev n) (.Assign [t] value p) ⟨N, V, L⟩ σ) Q := by
  show Wp (if constTuple t value then none else _) _
  rw [if_neg (by rw [hc]; exact Bool.false_ne_true)]
  exact Wp.bind (h.mono fun v σ₁ h => Wp.bind (h.mono fun vars σ₂ h => Wp.ok h))
theorem set_local {x : Str} {v : PV} (hk : N.lookup x = some .local) : PE.set ⟨N, V, L⟩ x v = some (upd x v V) := by unfold PE.set; rw [hk]
theorem set_cell {x : Str} {v : PV} (hk : N.lookup x = some .cell) : PE.set ⟨N, V, L⟩ x v = some (upd x v V) := by unfold PE.set; rw [hk]
theorem a1_name {F : Evs} {x : Str} {p : Pos} {v : PV} {vars : Vars} {Q : Vars → St → Prop} (hs : PE.set ⟨N, V, L⟩ x v = some vars) (h : Q vars σ) : Wp (assign1 F (.Name x p) ⟨N, V, L⟩ v σ) Q := by
  show Wp (match PE.set ⟨N, V, L⟩ x v with | some vars => Mine.ok vars σ | none => none) Q
  rw [hs]
  exact Wp.ok h
theorem a1_sub {o i : Expr} {p : Pos} {v : PV} {Q : Vars → St → Prop} (h : Wp ((ev n).e o ⟨N, V, L⟩ σ) fun ov σ₁ => Wp ((ev n).e i ⟨N, V, L⟩ σ₁) fun iv σ₂ => ∃ j m l, ov = .lst j ∧ iv = .int m ∧ σ₂[j]? = some l ∧ 0 ≤ m ∧ m.toNat < l.length ∧ l.length ≤ cap ∧ Q V (σ₂.set j (l.set m.toNat v))) (hs : isSlice i = false := by rfl) :
    Wp (assign1 (ev n) (.Subscript o i p) ⟨N, V, L⟩ v σ) Q := by
  show Wp (if isSlice i then none else _) Q
  rw [if_neg (by rw [hs]; exact Bool.false_ne_true)]
  refine Wp.bind (h.mono fun ov σ₁ h => Wp.bind (h.mono fun iv σ₂ h => ?_))
  obtain ⟨j, m, l, rfl, rfl, hj, h0, h1, h2, hq⟩ := h
  have e : setItem (.lst j) (.int m) v σ₂ = some (σ₂.set j (l.set m.toNat v)) := by
    show (match σ₂[j]? with | some l => if decide (0 ≤ m) && decide (m.toNat < l.length) && decide (l.length ≤ cap) then some (σ₂.set j (l.set m.toNat v)) else none | none => none) = _
    rw [hj]
    show (if _ then _ else _) = _
    rw [if_pos (by simp [h0, h1, h2])]
  rw [e]
  exact Wp.ok hq
theorem as_name {F : Evs} {x : Str} {p : Pos} {v : PV} {vars : Vars} {Q : Vars → St → Prop} (hs : PE.set ⟨N, V, L⟩ x v = some vars) (h : Q vars σ) : Wp (assignTo F (.Name x p) ⟨N, V, L⟩ v σ) Q := a1_name (F := F) (p := p) hs h
theorem as_sub {F : Evs} {ρ : PE} {o i : Expr} {p : Pos} {v : PV} {Q : Vars → St → Prop} (h : Wp (assign1 F (.Subscript o i p) ρ v σ) Q) : Wp (assignTo F (.Subscript o i p) ρ v σ) Q := h
theorem as_tuple {F : Evs} {ρ : PE} {ts : List Expr} {k : Nat} {p : Pos} {vs : List PV} {Q : Vars → St → Prop} (h : Wp (assignMany F ts vs ρ σ) Q) : Wp (assignTo F (.Tuple ts k p) ρ (.tup vs) σ) Q := h
theorem am_nil {F : Evs} {Q : Vars → St → Prop} (h : Q V σ) : Wp (assignMany F [] [] ⟨N, V, L⟩ σ) Q := Wp.ok h
theorem am_cons {F : Evs} {t : Expr} {ts : List Expr} {v : PV} {vs : List PV} {Q : Vars → St → Prop} (h : Wp (assign1 F t ⟨N, V, L⟩ v σ) fun vars σ₁ => Wp (assignMany F ts vs ⟨N, vars, L⟩ σ₁) Q) : Wp (assignMany F (t :: ts) (v :: vs) ⟨N, V, L⟩ σ) Q := Wp.bind h
theorem s_expr {e : Expr} {p : Pos} (h : Wp ((ev n).e e ⟨N, V, L⟩ σ) fun v σ₁ => v = .none ∧ Q .next V σ₁) : Ws (evS (ev n) (.Expr e p) ⟨N, V, L⟩ σ) Q :=
  Wp.bindX (h.mono fun v σ₁ h => by obtain ⟨rfl, hq⟩ := h; exact Wp.ok hq)
theorem s_return {e : Expr} {p : Pos} (h : Wp ((ev n).e e ⟨N, V, L⟩ σ) fun v σ₁ => Q (.ret v) V σ₁) : Ws (evS (ev n) (.Return (some e) p) ⟨N, V, L⟩ σ) Q :=
  Wp.bind (h.mono fun v σ₁ h => Wp.ok h)
theorem s_if {t : Expr} {b o : List Stmt} {p : Pos} (h : Wp ((ev n).t t ⟨N, V, L⟩ σ) fun c σ₁ => (c = true → Ws ((ev n).s b ⟨N, V, L⟩ σ₁) Q) ∧ (c = false → Ws ((ev n).s o ⟨N, V, L⟩ σ₁) Q)) : Ws (evS (ev n) (.If t b o p) ⟨N, V, L⟩ σ) Q :=
  Wp.bind (h.mono fun c σ₁ h => by
    cases c with
    | true => exact h.1 rfl
    | false => exact h.2 rfl)
theorem s_cont {p : Pos} (h : Q .cont V σ) : Ws (evS (ev n) (.Continue p) ⟨N, V, L⟩ σ) Q := Wp.ok h
theorem s_for {t i : Expr} {b : List Stmt} {p : Pos} (h : Wp (iterOf (ev n) i ⟨N, V, L⟩ σ) fun it σ₁ => fits it t = true ∧ Ws (forLoop (ev n) t b it cap 0 ⟨N, V, L⟩ σ₁) Q) : Ws (evS (ev n) (.For t i b [] p) ⟨N, V, L⟩ σ) Q :=
  Wp.bind (h.mono fun it σ₁ h => by rw [if_pos h.1]; exact h.2)
theorem s_while {t : Expr} {b : List Stmt} {p : Pos} (h : Ws (whileLoop (ev n) t b cap ⟨N, V, L⟩ σ) Q) : Ws (evS (ev n) (.While t b [] p) ⟨N, V, L⟩ σ) Q := h

theorem sx_start {ρ : PE} {b : List Stmt} {k : Str} {Q : St → Prop} (h : Wx (evSs (ev n) b ρ σ) k Q) : Wx ((ev (n + 1)).s b ρ σ) k Q := h
theorem ssx_here {ρ : PE} {s : Stmt} {r : List Stmt} {k : Str} {Q : St → Prop} (h : Wx (evS (ev n) s ρ σ) k Q) : Wx (evSs (ev n) (s :: r) ρ σ) k Q := Wx.bindX h
theorem sx_expr {ρ : PE} {e : Expr} {p : Pos} {k : Str} {Q : St → Prop} (h : Wx ((ev n).e e ρ σ) k Q) : Wx (evS (ev n) (.Expr e p) ρ σ) k Q := Wx.bindX h
theorem sx_if {ρ : PE} {t : Expr} {b o : List Stmt} {p : Pos} {k : Str} {Q : St → Prop} (h : Wp ((ev n).t t ρ σ) fun c σ₁ => c = true ∧ Wx ((ev n).s b ρ σ₁) k Q) : Wx (evS (ev n) (.If t b o p) ρ σ) k Q :=
  Wx.bind (h.mono fun c σ₁ h => by obtain ⟨rfl, hq⟩ := h; exact hq)
theorem sx_raise {ρ : PE} {e a b : Expr} {p : Pos} {k : Str} {Q : St → Prop} (hr : raiseArgs ρ e = some (a, b)) (h : Wp ((ev n).e a ρ σ) fun k' σ₁ => k' = .str k ∧ Wp ((ev n).e b ρ σ₁) fun m σ₂ => ∃ t, m = .str t ∧ t.length ≤ 1000 ∧ Q σ₂) (hk : k.length ≤ 1000 := by decide) : Wx (evS (ev n) (.Raise (some e) none p) ρ σ) k Q := by
  show Wx (match raiseArgs ρ e with | some (a, b) => _ | none => none) k Q
  rw [hr]
  refine Wx.bind (h.mono fun k' σ₁ h => ?_)
  obtain ⟨rfl, h⟩ := h
  refine Wx.bind (h.mono fun m σ₂ h => ?_)
  obtain ⟨t, rfl, ht, hq⟩ := h
  refine ⟨σ₂, ?_, hq⟩
  show (if decide (k.length ≤ 1000) && decide (t.length ≤ 1000) then _ else _) = _
  rw [if_pos (by simp [hk, ht])]

theorem c_call {f : Str} {d : Fn} {vs : List PV} {vars : Vars} {Q : PV → St → Prop} (hd : fnOf f = some d) (h : Ws ((ev n).s d.body ⟨d.scope.names, vars, withLams f⟩ σ) fun fl _ σ₁ => match fl with
    | .ret v => Q v σ₁
    | .next => Q .none σ₁
    | .cont => False) (hz : (d.params.args.map (·.arg)).zip vs = vars := by rfl) (hok : (fnOk d && decide (d.params.args.length = vs.length)) = true := by rfl) : Wp ((ev (n + 1)).c f vs σ) Q := by
  show Wp (match fnOf f with | none => none | some d => _) Q
  rw [hd]
  show Wp (if fnOk d && decide (d.params.args.length = vs.length) then _ else _) Q
  rw [if_pos hok, hz]
  refine Wp.bindX (Wp.mono h fun fv σ₁ h => ?_)
  obtain ⟨f, vars⟩ := fv
  cases f with
  | next => exact Wp.ok h
  | cont => exact h.elim
  | ret v => exact Wp.ok h
theorem cx_call {f : Str} {d : Fn} {vs : List PV} {vars : Vars} {k : Str} {Q : St → Prop} (hd : fnOf f = some d) (h : Wx ((ev n).s d.body ⟨d.scope.names, vars, withLams f⟩ σ) k Q) (hz : (d.params.args.map (·.arg)).zip vs = vars := by rfl)
    (hok : (fnOk d && decide (d.params.args.length = vs.length)) = true := by rfl) : Wx ((ev (n + 1)).c f vs σ) k Q := by
  show Wx (match fnOf f with | none => none | some d => _) k Q
  rw [hd]
  show Wx (if fnOk d && decide (d.params.args.length = vs.length) then _ else _) k Q
  rw [if_pos hok, hz]
  exact Wx.bindX h

noncomputable def Turn (Q : Fl → Vars → St → Prop) (I : Vars → St → Prop) (f : Fl) (V : Vars) (σ : St) : Prop := match f with
  | .ret v => Q (.ret v) V σ
  | _ => I V σ
theorem for_rule {F : Evs} {target : Expr} {body : List Stmt} {it : It} (I : Nat → Vars → St → Prop) (M : Nat) (hM : M < cap) (h0 : I 0 V σ)
    (step : ∀ k V σ, k < M → I k V σ → ∃ v V₁, nextAt σ it k = some v ∧ assignLoop target ⟨N, V, L⟩ v = some V₁ ∧ Ws (F.s body ⟨N, V₁, L⟩ σ) (Turn Q (I (k + 1))))
    (stop : ∀ V σ, I M V σ → nextAt σ it M = none ∧ Q .next V σ) : Ws (forLoop F target body it cap 0 ⟨N, V, L⟩ σ) Q := by
  have main : ∀ (m k : Nat) (V : Vars) (σ : St), k ≤ M → M - k < m → I k V σ → Ws (forLoop F target body it m k ⟨N, V, L⟩ σ) Q := by
    intro m
    induction m with
    | zero => intro k V σ _ h; exact False.elim (fm [_] [] [.nlt (.v 0) (.l 0)] .f [[1]] rfl h)
    | succ m ih =>
      intro k V σ hk hm hI
      rw [for_succ]
      by_cases hkN : k = M
      · subst hkN
        obtain ⟨e, hq⟩ := stop V σ hI
        rw [e]
        exact Wp.ok hq
      · obtain ⟨v, V₁, e1, e2, hw⟩ := step k V σ (by exact fm [_, _] [] [.nle (.v 0) (.v 1), .no (.neq (.v 0) (.v 1))] (.nlt (.v 0) (.v 1)) [[1, 1], [0, 1, 1]] rfl hk hkN) hI
        rw [e1]
        show Ws (match assignLoop target ⟨N, V, L⟩ v with | none => none | some vars => _) Q
        rw [e2]
        refine Wp.bind (Wp.mono hw fun fv σ' h => ?_)
        obtain ⟨f, vars₂⟩ := fv
        cases f with
        | ret v => exact Wp.ok h
        | next => exact ih (k + 1) vars₂ σ' (by exact fm [_, _] [] [.nle (.v 0) (.v 1), .no (.neq (.v 0) (.v 1))] (.nle (.a (.v 0) (.l 1)) (.v 1)) [[1, 1], [0, 1, 1]] rfl hk hkN) (by exact fm [_, _, _, _, _] [] [.nle (.v 0) (.v 1), .nlt (.v 2) (.a (.v 3) (.l 1)), .no (.neq (.v 0) (.v 1)), .or (.an (.nle (.v 0) (.v 1)) (.neq (.a (.v 2) (.v 0)) (.v 1))) (.an (.nle (.v 1) (.v 0)) (.neq (.v 2) (.l 0))), .or (.an (.nle (.a (.v 0) (.l 1)) (.v 1)) (.neq (.a (.v 4) (.a (.v 0) (.l 1))) (.v 1))) (.an (.nle (.v 1) (.a (.v 0) (.l 1))) (.neq (.v 4) (.l 0)))] (.nlt (.v 4) (.v 3)) [[0, 1, 0, 0, 0, 1, 0, 1, 0, 1], [1, 0, 1], [1, 0, 1], [1, 0, 1], [0, 1, 0, 0, 0, 1, 0, 1, 0, 1], [0, 1, 1, 0, 0, 1, 0, 1, 0, 1], [0, 0, 1, 1], [0, 0, 1, 1]] rfl hk hm hkN (subn _ _) (subn _ _)) h
        | cont => exact ih (k + 1) vars₂ σ' (by exact fm [_, _] [] [.nle (.v 0) (.v 1), .no (.neq (.v 0) (.v 1))] (.nle (.a (.v 0) (.l 1)) (.v 1)) [[1, 1], [0, 1, 1]] rfl hk hkN) (by exact fm [_, _, _, _, _] [] [.nle (.v 0) (.v 1), .nlt (.v 2) (.a (.v 3) (.l 1)), .no (.neq (.v 0) (.v 1)), .or (.an (.nle (.v 0) (.v 1)) (.neq (.a (.v 2) (.v 0)) (.v 1))) (.an (.nle (.v 1) (.v 0)) (.neq (.v 2) (.l 0))), .or (.an (.nle (.a (.v 0) (.l 1)) (.v 1)) (.neq (.a (.v 4) (.a (.v 0) (.l 1))) (.v 1))) (.an (.nle (.v 1) (.a (.v 0) (.l 1))) (.neq (.v 4) (.l 0)))] (.nlt (.v 4) (.v 3)) [[0, 1, 0, 0, 0, 1, 0, 1, 0, 1], [1, 0, 1], [1, 0, 1], [1, 0, 1], [0, 1, 0, 0, 0, 1, 0, 1, 0, 1], [0, 1, 1, 0, 0, 1, 0, 1, 0, 1], [0, 0, 1, 1], [0, 0, 1, 1]] rfl hk hm hkN (subn _ _) (subn _ _)) h
  exact main cap 0 V σ (Nat.zero_le _) (by exact fm [_, _, _] [] [.nlt (.v 0) (.v 1), .or (.an (.nle (.l 0) (.v 0)) (.neq (.a (.v 2) (.l 0)) (.v 0))) (.an (.nle (.v 0) (.l 0)) (.neq (.v 2) (.l 0)))] (.nlt (.v 2) (.v 1)) [[1, 0, 1, 0, 1], [1, 0, 1, 0, 1]] rfl hM (subn _ _)) h0

theorem while_rule {F : Evs} {test : Expr} {body : List Stmt} (I : Nat → Vars → St → Prop) (M : Nat) (hM : M < cap) (h0 : I M V σ)
    (step : ∀ k V σ, I k V σ → Wp (F.t test ⟨N, V, L⟩ σ) fun b σ₁ => (b = false → Q .next V σ₁) ∧ (b = true → Ws (F.s body ⟨N, V, L⟩ σ₁) (Turn Q fun V σ => ∃ k', k' < k ∧ I k' V σ))) : Ws (whileLoop F test body cap ⟨N, V, L⟩ σ) Q := by
  have main : ∀ (m k : Nat) (V : Vars) (σ : St), k < m → I k V σ → Ws (whileLoop F test body m ⟨N, V, L⟩ σ) Q := by
    intro m
    induction m with
    | zero => intro k V σ h; exact False.elim (fm [_] [] [.nlt (.v 0) (.l 0)] .f [[1]] rfl h)
    | succ m ih =>
      intro k V σ hk hI
      refine Wp.bind ((step k V σ hI).mono fun b σ₁ h => ?_)
      cases b with
      | false => exact Wp.ok (h.1 rfl)
      | true =>
        refine Wp.bind (Wp.mono (h.2 rfl) fun fv σ' h => ?_)
        obtain ⟨f, vars₂⟩ := fv
        cases f with
        | ret v => exact Wp.ok h
        | next => obtain ⟨k', hk', hI'⟩ := h; exact ih k' vars₂ σ' (by exact fm [_, _, _] [] [.nlt (.v 0) (.a (.v 1) (.l 1)), .nlt (.v 2) (.v 0)] (.nlt (.v 2) (.v 1)) [[1, 1, 1]] rfl hk hk') hI'
        | cont => obtain ⟨k', hk', hI'⟩ := h; exact ih k' vars₂ σ' (by exact fm [_, _, _] [] [.nlt (.v 0) (.a (.v 1) (.l 1)), .nlt (.v 2) (.v 0)] (.nlt (.v 2) (.v 1)) [[1, 1, 1]] rfl hk hk') hI'
  exact main cap M V σ hM h0

theorem comp_rule {F : Evs} {target elt : Expr} {ifs : List Expr} {it : It} {Q : List PV → St → Prop} (I : Nat → Vars → St → List PV → Prop) (M : Nat) (hM : M < cap) (h0 : I 0 V σ [])
    (step : ∀ k V σ xs, k < M → I k V σ xs → ∃ v V₁, nextAt σ it k = some v ∧ assignLoop target ⟨N, V, L⟩ v = some V₁ ∧ Wp (testAll (fun c σ => F.t c ⟨N, V₁, L⟩ σ) ifs σ) fun b σ₁ =>
      (b = true → Wp (F.e elt ⟨N, V₁, L⟩ σ₁) fun x σ₂ => I (k + 1) V₁ σ₂ (xs ++ [x])) ∧ (b = false → I (k + 1) V₁ σ₁ xs))
    (stop : ∀ V σ xs, I M V σ xs → nextAt σ it M = none ∧ Q xs σ) : Wp (compLoop F target elt ifs it cap 0 ⟨N, V, L⟩ σ) Q := by
  have main : ∀ (m k : Nat) (V : Vars) (σ : St) (xs : List PV), k ≤ M → M - k < m → I k V σ xs → Wp (compLoop F target elt ifs it m k ⟨N, V, L⟩ σ) fun ys σ => Q (xs ++ ys) σ := by
    intro m
    induction m with
    | zero => intro k V σ xs _ h; exact False.elim (fm [_] [] [.nlt (.v 0) (.l 0)] .f [[1]] rfl h)
    | succ m ih =>
      intro k V σ xs hk hm hI
      rw [comp_succ]
      by_cases hkN : k = M
      · subst hkN
        obtain ⟨e, hq⟩ := stop V σ xs hI
        rw [e]
        exact Wp.ok (by rw [List.append_nil]; exact hq)
      · obtain ⟨v, V₁, e1, e2, hw⟩ := step k V σ xs (by exact fm [_, _] [] [.nle (.v 0) (.v 1), .no (.neq (.v 0) (.v 1))] (.nlt (.v 0) (.v 1)) [[1, 1], [0, 1, 1]] rfl hk hkN) hI
        rw [e1]
        show Wp (match assignLoop target ⟨N, V, L⟩ v with | none => none | some vars => _) _
        rw [e2]
        refine Wp.bind (hw.mono fun b σ₁ h => ?_)
        cases b with
        | true =>
          refine Wp.bind ((h.1 rfl).mono fun x σ₂ h => Wp.bind ((ih (k + 1) V₁ σ₂ (xs ++ [x]) (by exact fm [_, _] [] [.nle (.v 0) (.v 1), .no (.neq (.v 0) (.v 1))] (.nle (.a (.v 0) (.l 1)) (.v 1)) [[1, 1], [0, 1, 1]] rfl hk hkN) (by exact fm [_, _, _, _, _] [] [.nle (.v 0) (.v 1), .nlt (.v 2) (.a (.v 3) (.l 1)), .no (.neq (.v 0) (.v 1)), .or (.an (.nle (.v 0) (.v 1)) (.neq (.a (.v 2) (.v 0)) (.v 1))) (.an (.nle (.v 1) (.v 0)) (.neq (.v 2) (.l 0))), .or (.an (.nle (.a (.v 0) (.l 1)) (.v 1)) (.neq (.a (.v 4) (.a (.v 0) (.l 1))) (.v 1))) (.an (.nle (.v 1) (.a (.v 0) (.l 1))) (.neq (.v 4) (.l 0)))] (.nlt (.v 4) (.v 3)) [[0, 1, 0, 0, 0, 1, 0, 1, 0, 1], [1, 0, 1], [1, 0, 1], [1, 0, 1], [0, 1, 0, 0, 0, 1, 0, 1, 0, 1], [0, 1, 1, 0, 0, 1, 0, 1, 0, 1], [0, 0, 1, 1], [0, 0, 1, 1]] rfl hk hm hkN (subn _ _) (subn _ _)) h).mono fun ys σ₃ h => Wp.ok ?_))
          simpa using h
        | false => exact ih (k + 1) V₁ σ₁ xs (by exact fm [_, _] [] [.nle (.v 0) (.v 1), .no (.neq (.v 0) (.v 1))] (.nle (.a (.v 0) (.l 1)) (.v 1)) [[1, 1], [0, 1, 1]] rfl hk hkN) (by exact fm [_, _, _, _, _] [] [.nle (.v 0) (.v 1), .nlt (.v 2) (.a (.v 3) (.l 1)), .no (.neq (.v 0) (.v 1)), .or (.an (.nle (.v 0) (.v 1)) (.neq (.a (.v 2) (.v 0)) (.v 1))) (.an (.nle (.v 1) (.v 0)) (.neq (.v 2) (.l 0))), .or (.an (.nle (.a (.v 0) (.l 1)) (.v 1)) (.neq (.a (.v 4) (.a (.v 0) (.l 1))) (.v 1))) (.an (.nle (.v 1) (.a (.v 0) (.l 1))) (.neq (.v 4) (.l 0)))] (.nlt (.v 4) (.v 3)) [[0, 1, 0, 0, 0, 1, 0, 1, 0, 1], [1, 0, 1], [1, 0, 1], [1, 0, 1], [0, 1, 0, 0, 0, 1, 0, 1, 0, 1], [0, 1, 1, 0, 0, 1, 0, 1, 0, 1], [0, 0, 1, 1], [0, 0, 1, 1]] rfl hk hm hkN (subn _ _) (subn _ _)) (h.2 rfl)
  exact (main cap 0 V σ [] (Nat.zero_le _) (by exact fm [_, _, _] [] [.nlt (.v 0) (.v 1), .or (.an (.nle (.l 0) (.v 0)) (.neq (.a (.v 2) (.l 0)) (.v 0))) (.an (.nle (.v 0) (.l 0)) (.neq (.v 2) (.l 0)))] (.nlt (.v 2) (.v 1)) [[1, 0, 1, 0, 1], [1, 0, 1, 0, 1]] rfl hM (subn _ _)) h0).mono fun ys σ h => h
theorem ta_nil {f : Expr → St → R Bool} {Q : Bool → St → Prop} (h : Q true σ) : Wp (testAll f [] σ) Q := Wp.ok h
theorem ta_one {f : Expr → St → R Bool} {e : Expr} {Q : Bool → St → Prop} (h : Wp (f e σ) Q) : Wp (testAll f [e] σ) Q := by
  refine Wp.bind (h.mono fun b σ₁ h => ?_)
  cases b with
  | true => exact Wp.ok h
  | false => exact Wp.ok h
theorem al_name {x : Str} {p : Pos} {v : PV} (hk : N.lookup x = some .local ∨ N.lookup x = some .cell) : assignLoop (.Name x p) ⟨N, V, L⟩ v = some (upd x v V) := by
  show PE.set ⟨N, V, L⟩ x v = _
  rcases hk with hk | hk
  · exact set_local hk
  · exact set_cell hk
theorem al_two {x y : Str} {p q r : Pos} {k : Nat} {v w : PV} (hx : N.lookup x = some .local ∨ N.lookup x = some .cell) (hy : N.lookup y = some .local ∨ N.lookup y = some .cell) : assignLoop (.Tuple [.Name x p, .Name y q] k r) ⟨N, V, L⟩ (.tup [v, w]) = some (upd y w (upd x v V)) := by
  have h1 : PE.set ⟨N, V, L⟩ x v = some (upd x v V) := by rcases hx with hk | hk; exact set_local hk; exact set_cell hk
  have h2 : PE.set ⟨N, upd x v V, L⟩ y w = some (upd y w (upd x v V)) := by rcases hy with hk | hk; exact set_local hk; exact set_cell hk
  show (match PE.set ⟨N, V, L⟩ x v with | some vars => _ | none => none) = _
  rw [h1]
  show (match PE.set ⟨N, upd x v V, L⟩ y w with | some vars => _ | none => none) = _
  rw [h2]
  rfl
end

noncomputable def BackS (P Q : Fl → Vars → St → Prop) : Prop := ∀ f V σ, P f V σ → Q f V σ
theorem BackS.go {P Q : Fl → Vars → St → Prop} {f : Fl} {V : Vars} {σ : St} (h : BackS P Q) (p : P f V σ) : Q f V σ := h f V σ p
theorem gateS {x : R (Fl × Vars)} {P : Fl → Vars → St → Prop} (h : ∀ Q : Fl → Vars → St → Prop, BackS P Q → Ws x Q) : Ws x P := h P fun _ _ _ p => p
noncomputable def BackP {α : Type} (P Q : α → St → Prop) : Prop := ∀ a σ, P a σ → Q a σ
theorem BackP.go {α : Type} {P Q : α → St → Prop} {a : α} {σ : St} (h : BackP P Q) (p : P a σ) : Q a σ := h a σ p
theorem gateP {α : Type} {x : R α} {P : α → St → Prop} (h : ∀ Q : α → St → Prop, BackP P Q → Wp x Q) : Wp x P := h P fun _ _ p => p

theorem om_nn (t : Nat) : (0 : Int) ≤ (t : Int) := by exact fm [_] [] [] (.ile (.l 0) (.k (.v 0))) [[1]] rfl
theorem om_le {a c d : Nat} (h : a ≤ c) (e : Nat.ble c d = true) : a ≤ d := Nat.le_trans h (Nat.le_of_ble_eq_true e)
theorem om_lt {a c d : Nat} (h : a ≤ c) (e : Nat.ble (c + 1) d = true) : a < d := Nat.lt_of_le_of_lt h (Nat.le_of_ble_eq_true e)
theorem om_len {a b c d : Nat} (q : a = b) (h : b ≤ c) (e : Nat.ble c d = true) : a ≤ d := q ▸ om_le h e
theorem om_lenlt {a b c d : Nat} (q : a = b) (h : b ≤ c) (e : Nat.ble (c + 1) d = true) : a < d := q ▸ om_lt h e
theorem om_i3 {a c : Nat} (h : a ≤ c) (e : Nat.ble c 1000 = true) : (a : Int) ≤ 1000 := by have := om_le h e; exact fm [_] [] [.nle (.v 0) (.l 1000)] (.ile (.k (.v 0)) (.l 1000)) [[1, 1]] rfl this
theorem om_i6 {a c : Nat} (h : a ≤ c) (e : Nat.ble c 1000000 = true) : (a : Int) ≤ 1000000 := by have := om_le h e; exact fm [_] [] [.nle (.v 0) (.l 1000000)] (.ile (.k (.v 0)) (.l 1000000)) [[1, 1]] rfl this
theorem om_i3lt {t a c : Nat} (q : t < a) (h : a ≤ c) (e : Nat.ble c 1000 = true) : (t : Int) ≤ 1000 := by have := om_le h e; exact fm [_, _] [] [.nlt (.v 0) (.v 1), .nle (.v 1) (.l 1000)] (.ile (.k (.v 0)) (.l 1000)) [[1, 1, 1]] rfl q this
theorem om_i6lt {t a c : Nat} (q : t < a) (h : a ≤ c) (e : Nat.ble c 1000000 = true) : (t : Int) ≤ 1000000 := by have := om_le h e; exact fm [_, _] [] [.nlt (.v 0) (.v 1), .nle (.v 1) (.l 1000000)] (.ile (.k (.v 0)) (.l 1000000)) [[1, 1, 1]] rfl q this
theorem om_rng {t a : Nat} (q : t < a) : (0 : Int) + (t : Int) < (a : Int) := by exact fm [_, _] [] [.nlt (.v 0) (.v 1)] (.ilt (.a (.l 0) (.k (.v 0))) (.k (.v 1))) [[1, 1]] rfl q
theorem om_rngn {a : Nat} : ¬ (0 : Int) + (a : Int) < (a : Int) := by exact fm [_] [] [] (.no (.ilt (.a (.l 0) (.k (.v 0))) (.k (.v 0)))) [[1]] rfl
theorem om_lelt {t a c d : Nat} (q : t < a) (h : a ≤ c) (e : Nat.ble c d = true) : t ≤ d := Nat.le_trans (Nat.le_of_lt q) (om_le h e)
theorem om_tr {t a b : Nat} (q : t < a) (e : a = b) : t < b := e ▸ q
theorem om_trq {t a b : Nat} (q : t < a) (e : b = a) : t < b := e ▸ q
theorem om_len3 {a b c d e : Nat} (q : a = b) (q' : b = c) (h : c ≤ d) (k : Nat.ble d e = true) : a ≤ e := q ▸ q' ▸ om_le h k
theorem om_0nn {t : Nat} : (0 : Int) ≤ (0 : Int) + (t : Int) := by exact fm [_] [] [] (.ile (.l 0) (.a (.l 0) (.k (.v 0)))) [[1]] rfl
theorem om_0i6 {t a c : Nat} (q : t < a) (h : a ≤ c) (e : Nat.ble c 1000000 = true) : (0 : Int) + (t : Int) ≤ 1000000 := by have := om_le h e; exact fm [_, _] [] [.nlt (.v 0) (.v 1), .nle (.v 1) (.l 1000000)] (.ile (.a (.l 0) (.k (.v 0))) (.l 1000000)) [[1, 1, 1]] rfl q this
theorem om_li3 {l a c : Nat} (q : l = a) (h : a ≤ c) (e : Nat.ble c 1000 = true) : (l : Int) ≤ 1000 := by have := om_le h e; exact fm [_, _] [] [.neq (.v 0) (.v 1), .nle (.v 1) (.l 1000)] (.ile (.k (.v 0)) (.l 1000)) [[1, 0, 1, 1]] rfl q this
theorem om_rngq {t a l : Nat} (q : t < a) (e : l = a) : (0 : Int) + (t : Int) < (l : Int) := by exact fm [_, _, _] [] [.nlt (.v 0) (.v 1), .neq (.v 2) (.v 1)] (.ilt (.a (.l 0) (.k (.v 0))) (.k (.v 2))) [[1, 0, 1, 1]] rfl q e
theorem om_rngnq {a l : Nat} (e : l = a) : ¬ (0 : Int) + (a : Int) < (l : Int) := by exact fm [_, _] [] [.neq (.v 0) (.v 1)] (.no (.ilt (.a (.l 0) (.k (.v 1))) (.k (.v 0)))) [[1, 0, 1]] rfl e
theorem turn_ret {Q : Fl → Vars → St → Prop} {I : Vars → St → Prop} {v : PV} {V : Vars} {σ : St} (h : Q (.ret v) V σ) : Turn Q I (.ret v) V σ := h

noncomputable def q (x : Rat) : PV := .tup [.int x.num, .int x.den]
theorem i0 {x : Rat} {σ : St} {Q : PV → St → Prop} (h : Q (.int x.num) σ) : Wp (getItem (q x) (.int 0) σ) Q := g_tup (by decide) (by decide) rfl h
theorem i1 {x : Rat} {σ : St} {Q : PV → St → Prop} (h : Q (.int x.den) σ) : Wp (getItem (q x) (.int 1) σ) Q := g_tup (by decide) (by decide) rfl h

theorem cx_int {op : CmpOp} {x y : Int} {σ : St} {c : Bool} {P : Bool → Prop} (hc : cmpInts op x y = some c) (h : P c) : ∃ c, cmp op (.int x) (.int y) σ = some c ∧ P c := ⟨c, hc, h⟩
theorem ex_it {v : PV} {it : It} {P : It → Prop} (hc : itOf v = some it) (h : P it) : ∃ it, itOf v = some it ∧ P it := ⟨it, hc, h⟩
theorem ex_bool {c : Bool} {P : Bool → Prop} (h : P c) : ∃ b, PV.bool c = .bool b ∧ P b := ⟨c, rfl, h⟩
theorem ex_int {c : Int} {P : Int → Prop} (h : P c) : ∃ b, PV.int c = .int b ∧ P b := ⟨c, rfl, h⟩
theorem ex_lst {c : Nat} {P : Nat → Prop} (h : P c) : ∃ b, PV.lst c = .lst b ∧ P b := ⟨c, rfl, h⟩

section
variable {n : Nat} {ρ : PE} {σ : St} {Q : Bool → St → Prop}
theorem ts_nilA {f : Expr → St → R Bool} (h : Q true σ) : Wp (tests .And f [] σ) Q := Wp.ok h
theorem ts_nilO {f : Expr → St → R Bool} (h : Q false σ) : Wp (tests .Or f [] σ) Q := Wp.ok h
theorem ts_and {f : Expr → St → R Bool} {x : Expr} {r : List Expr} (h : Wp (f x σ) fun b σ₁ => (b = false → Q false σ₁) ∧ (b = true → Wp (tests .And f r σ₁) Q)) : Wp (tests .And f (x :: r) σ) Q :=
  ts_cons (h.mono fun b σ₁ h => by
    cases b with
    | false => exact ⟨fun _ => h.1 rfl, fun c => absurd c (by decide)⟩
    | true => exact ⟨fun c => absurd c (by decide), fun _ => h.2 rfl⟩)
theorem ts_or {f : Expr → St → R Bool} {x : Expr} {r : List Expr} (h : Wp (f x σ) fun b σ₁ => (b = true → Q true σ₁) ∧ (b = false → Wp (tests .Or f r σ₁) Q)) : Wp (tests .Or f (x :: r) σ) Q :=
  ts_cons (h.mono fun b σ₁ h => by
    cases b with
    | true => exact ⟨fun _ => h.1 rfl, fun c => absurd c (by decide)⟩
    | false => exact ⟨fun c => absurd c (by decide), fun _ => h.2 rfl⟩)
theorem bo_and {f : Expr → St → R PV} {x y : Expr} {r : List Expr} {Q : PV → St → Prop} (h : Wp (f x σ) fun v σ₁ => ∃ b, v = .bool b ∧ ((b = false → Q (.bool false) σ₁) ∧ (b = true → Wp (boolOps .And f (y :: r) σ₁) Q))) : Wp (boolOps .And f (x :: y :: r) σ) Q :=
  bo_cons (h.mono fun v σ₁ h => by
    obtain ⟨b, rfl, h⟩ := h
    refine ⟨b, rfl, ?_⟩
    cases b with
    | false => exact ⟨fun _ => h.1 rfl, fun c => absurd c (by decide)⟩
    | true => exact ⟨fun c => absurd c (by decide), fun _ => h.2 rfl⟩)
theorem bo_or {f : Expr → St → R PV} {x y : Expr} {r : List Expr} {Q : PV → St → Prop} (h : Wp (f x σ) fun v σ₁ => ∃ b, v = .bool b ∧ ((b = true → Q (.bool true) σ₁) ∧ (b = false → Wp (boolOps .Or f (y :: r) σ₁) Q))) : Wp (boolOps .Or f (x :: y :: r) σ) Q :=
  bo_cons (h.mono fun v σ₁ h => by
    obtain ⟨b, rfl, h⟩ := h
    refine ⟨b, rfl, ?_⟩
    cases b with
    | true => exact ⟨fun _ => h.1 rfl, fun c => absurd c (by decide)⟩
    | false => exact ⟨fun c => absurd c (by decide), fun _ => h.2 rfl⟩)
end


inductive All3 (a1 a2 a3 : Prop) : Prop
  | mk (h1 : a1) (h2 : a2) (h3 : a3) : All3 a1 a2 a3
inductive All4 (a1 a2 a3 a4 : Prop) : Prop
  | mk (h1 : a1) (h2 : a2) (h3 : a3) (h4 : a4) : All4 a1 a2 a3 a4
inductive All5 (a1 a2 a3 a4 a5 : Prop) : Prop
  | mk (h1 : a1) (h2 : a2) (h3 : a3) (h4 : a4) (h5 : a5) : All5 a1 a2 a3 a4 a5
inductive All6 (a1 a2 a3 a4 a5 a6 : Prop) : Prop
  | mk (h1 : a1) (h2 : a2) (h3 : a3) (h4 : a4) (h5 : a5) (h6 : a6) : All6 a1 a2 a3 a4 a5 a6
inductive All7 (a1 a2 a3 a4 a5 a6 a7 : Prop) : Prop
  | mk (h1 : a1) (h2 : a2) (h3 : a3) (h4 : a4) (h5 : a5) (h6 : a6) (h7 : a7) : All7 a1 a2 a3 a4 a5 a6 a7
inductive All8 (a1 a2 a3 a4 a5 a6 a7 a8 : Prop) : Prop
  | mk (h1 : a1) (h2 : a2) (h3 : a3) (h4 : a4) (h5 : a5) (h6 : a6) (h7 : a7) (h8 : a8) : All8 a1 a2 a3 a4 a5 a6 a7 a8
inductive All9 (a1 a2 a3 a4 a5 a6 a7 a8 a9 : Prop) : Prop
  | mk (h1 : a1) (h2 : a2) (h3 : a3) (h4 : a4) (h5 : a5) (h6 : a6) (h7 : a7) (h8 : a8) (h9 : a9) : All9 a1 a2 a3 a4 a5 a6 a7 a8 a9
inductive All10 (a1 a2 a3 a4 a5 a6 a7 a8 a9 a10 : Prop) : Prop
  | mk (h1 : a1) (h2 : a2) (h3 : a3) (h4 : a4) (h5 : a5) (h6 : a6) (h7 : a7) (h8 : a8) (h9 : a9) (h10 : a10) : All10 a1 a2 a3 a4 a5 a6 a7 a8 a9 a10
inductive All11 (a1 a2 a3 a4 a5 a6 a7 a8 a9 a10 a11 : Prop) : Prop
  | mk (h1 : a1) (h2 : a2) (h3 : a3) (h4 : a4) (h5 : a5) (h6 : a6) (h7 : a7) (h8 : a8) (h9 : a9) (h10 : a10) (h11 : a11) : All11 a1 a2 a3 a4 a5 a6 a7 a8 a9 a10 a11
inductive All12 (a1 a2 a3 a4 a5 a6 a7 a8 a9 a10 a11 a12 : Prop) : Prop
  | mk (h1 : a1) (h2 : a2) (h3 : a3) (h4 : a4) (h5 : a5) (h6 : a6) (h7 : a7) (h8 : a8) (h9 : a9) (h10 : a10) (h11 : a11) (h12 : a12) : All12 a1 a2 a3 a4 a5 a6 a7 a8 a9 a10 a11 a12

theorem bi_leneq {i m : Nat} {l : List PV} {σ : St} {Q : PV → St → Prop} (hi : σ[i]? = some l) (e : l.length = m) (hl : l.length ≤ cap) (h : Q (.int m) σ) : Wp (builtin "len" [.lst i] σ) Q := bi_len hi hl (by rw [e]; exact h)
theorem nx_rng0 {σ : St} {hi : Int} {j : Nat} (h : (0 : Int) + (j : Int) < hi) : nextAt σ (.rng 0 hi) j = some (.int j) := by
  show (if (0 : Int) + (j : Int) < hi then some (PV.int (0 + (j : Int))) else none) = _
  rw [if_pos h, Int.zero_add]
end Mine
end
section
set_option maxRecDepth 100000
open PySem
namespace Mine

noncomputable def F_gcd : {d : Fn // fnOf "gcd" = some d} := by refine ⟨?_, ?_⟩; rotate_left; conv => lhs; whnf
noncomputable def F_rat : {d : Fn // fnOf "rat" = some d} := by refine ⟨?_, ?_⟩; rotate_left; conv => lhs; whnf
noncomputable def F_radd : {d : Fn // fnOf "radd" = some d} := by refine ⟨?_, ?_⟩; rotate_left; conv => lhs; whnf
noncomputable def F_rsub : {d : Fn // fnOf "rsub" = some d} := by refine ⟨?_, ?_⟩; rotate_left; conv => lhs; whnf
noncomputable def F_rmul : {d : Fn // fnOf "rmul" = some d} := by refine ⟨?_, ?_⟩; rotate_left; conv => lhs; whnf
noncomputable def F_rdiv : {d : Fn // fnOf "rdiv" = some d} := by refine ⟨?_, ?_⟩; rotate_left; conv => lhs; whnf
noncomputable def F_rneg : {d : Fn // fnOf "rneg" = some d} := by refine ⟨?_, ?_⟩; rotate_left; conv => lhs; whnf
noncomputable def F_shape : {d : Fn // fnOf "shape" = some d} := by refine ⟨?_, ?_⟩; rotate_left; conv => lhs; whnf
noncomputable def F_need_shape : {d : Fn // fnOf "need_shape" = some d} := by refine ⟨?_, ?_⟩; rotate_left; conv => lhs; whnf
noncomputable def F_copied : {d : Fn // fnOf "copied" = some d} := by refine ⟨?_, ?_⟩; rotate_left; conv => lhs; whnf
noncomputable def F_unit_matrix : {d : Fn // fnOf "unit_matrix" = some d} := by refine ⟨?_, ?_⟩; rotate_left; conv => lhs; whnf
noncomputable def F_transposed : {d : Fn // fnOf "transposed" = some d} := by refine ⟨?_, ?_⟩; rotate_left; conv => lhs; whnf
noncomputable def F_dot : {d : Fn // fnOf "dot" = some d} := by refine ⟨?_, ?_⟩; rotate_left; conv => lhs; whnf
noncomputable def F_mat_add : {d : Fn // fnOf "mat_add" = some d} := by refine ⟨?_, ?_⟩; rotate_left; conv => lhs; whnf
noncomputable def F_mat_mul : {d : Fn // fnOf "mat_mul" = some d} := by refine ⟨?_, ?_⟩; rotate_left; conv => lhs; whnf
noncomputable def F_mat_power : {d : Fn // fnOf "mat_power" = some d} := by refine ⟨?_, ?_⟩; rotate_left; conv => lhs; whnf
noncomputable def F_trace : {d : Fn // fnOf "trace" = some d} := by refine ⟨?_, ?_⟩; rotate_left; conv => lhs; whnf
noncomputable def F_swap_rows : {d : Fn // fnOf "swap_rows" = some d} := by refine ⟨?_, ?_⟩; rotate_left; conv => lhs; whnf
noncomputable def F_take_off : {d : Fn // fnOf "take_off" = some d} := by refine ⟨?_, ?_⟩; rotate_left; conv => lhs; whnf
noncomputable def F_echelon : {d : Fn // fnOf "echelon" = some d} := by refine ⟨?_, ?_⟩; rotate_left; conv => lhs; whnf
noncomputable def F_rank : {d : Fn // fnOf "rank" = some d} := by refine ⟨?_, ?_⟩; rotate_left; conv => lhs; whnf
noncomputable def F_inverse : {d : Fn // fnOf "inverse" = some d} := by refine ⟨?_, ?_⟩; rotate_left; conv => lhs; whnf
noncomputable def F_pivot_row : {d : Fn // fnOf "pivot_row" = some d} := by refine ⟨?_, ?_⟩; rotate_left; conv => lhs; whnf
noncomputable def F_bareiss_step : {d : Fn // fnOf "bareiss_step" = some d} := by refine ⟨?_, ?_⟩; rotate_left; conv => lhs; whnf
noncomputable def F_determinant : {d : Fn // fnOf "determinant" = some d} := by refine ⟨?_, ?_⟩; rotate_left; conv => lhs; whnf
noncomputable def F_null_base : {d : Fn // fnOf "null_base" = some d} := by refine ⟨?_, ?_⟩; rotate_left; conv => lhs; whnf
noncomputable def F_solve_system : {d : Fn // fnOf "solve_system" = some d} := by refine ⟨?_, ?_⟩; rotate_left; conv => lhs; whnf
noncomputable def F_law_take : {d : Fn // fnOf "_law_take" = some d} := by refine ⟨?_, ?_⟩; rotate_left; conv => lhs; whnf
noncomputable def F_law_matrix : {d : Fn // fnOf "_law_matrix" = some d} := by refine ⟨?_, ?_⟩; rotate_left; conv => lhs; whnf
noncomputable def F_law_product : {d : Fn // fnOf "_law_product" = some d} := by refine ⟨?_, ?_⟩; rotate_left; conv => lhs; whnf
noncomputable def F_law_single_right : {d : Fn // fnOf "_law_single_right" = some d} := by refine ⟨?_, ?_⟩; rotate_left; conv => lhs; whnf
end Mine
end

section
set_option maxRecDepth 100000
set_option maxHeartbeats 8000000
open PySem
namespace Mine
local macro_rules | `(tactic| walk_at "lk") => `(tactic| first
  | with_reducible assumption
  | with_reducible exact lk_eq
  | ((with_reducible refine lk_ne (by with_unfolding_all rfl) ?_); walk_at "lk")
  | ((with_reducible refine lk_free (by with_unfolding_all rfl) ?_); walk_at "lk")
  | exact lk_eq
  | rfl)
local macro_rules | `(tactic| walk_at "nm") => `(tactic| first
  | (refine look_local (by with_unfolding_all rfl) ?_; walk_at "lk")
  | (refine look_free (by with_unfolding_all rfl) ?_; walk_at "lk")
  | (refine look_cell (by with_unfolding_all rfl) ?_; walk_at "lk")
  | (refine look_const (by with_unfolding_all rfl) ?_; rfl))
local macro_rules | `(tactic| walk_at "py1") => `(tactic| first
  | with_reducible first
    | refine e_int ?_
    | refine e_str ?_
    | refine e_none ?_
    | refine e_bool ?_
    | refine e_tuple ?_
    | refine e_list ?_
    | refine e_bin ?_
    | refine e_neg ?_
    | refine e_not ?_
    | refine e_boolop ?_
    | refine bo_last ?_
    | refine bo_and ?_
    | refine bo_or ?_
    | refine e_cmp ?_ (by with_unfolding_all rfl)
    | refine e_upto ?_
    | refine e_from ?_
    | refine e_sub ?_ (by with_unfolding_all rfl)
    | refine l_nil ?_
    | refine l_cons ?_ (by with_unfolding_all rfl)
    | refine e_call ?_ (by with_unfolding_all rfl) (by with_unfolding_all rfl) (by with_unfolding_all rfl)
    | refine e_bi ?_ (by with_unfolding_all rfl) (by with_unfolding_all rfl) (by with_unfolding_all rfl)
    | refine e_append ?_ (by with_unfolding_all rfl) (by with_unfolding_all rfl)
    | refine e_comp ?_ (by with_unfolding_all rfl) (by decide +kernel)
    | refine b_add ?_
    | refine b_sub ?_
    | refine bi_abs ?_
  | ((with_reducible refine e_name (v := ?v) ?hl ?_ (by with_unfolding_all rfl)); (case hl => walk_at "nm")))
local macro_rules | `(tactic| walk_at "py2") => `(tactic| first
  | with_reducible first
    | refine t_not ?_
    | refine t_cmp ?_ (by with_unfolding_all rfl)
    | refine t_boolop ?_
    | refine ts_nilA ?_
    | refine ts_nilO ?_
    | refine ts_and ?_
    | refine ts_or ?_
    | refine t_call ?_
    | refine ss_nil ?_
    | refine s_start ?_
    | refine s_assign ?_ (by with_unfolding_all rfl)
    | refine s_expr ?_
    | refine s_return ?_
    | refine s_if ?_
    | refine s_cont ?_
    | refine s_for ?_
    | refine s_while ?_
    | refine as_name (set_local (by with_unfolding_all rfl)) ?_
    | refine as_name (set_cell (by with_unfolding_all rfl)) ?_
    | refine as_tuple ?_
    | refine as_sub ?_
    | refine am_nil ?_
    | refine am_cons ?_
    | refine a1_name (set_local (by with_unfolding_all rfl)) ?_
    | refine a1_name (set_cell (by with_unfolding_all rfl)) ?_
    | refine a1_sub ?_ (by with_unfolding_all rfl)
    | refine it_enum (by with_unfolding_all rfl) ?_
    | refine it_plain ?_ (by with_unfolding_all rfl) (by with_unfolding_all rfl)
    | refine ta_nil ?_
    | refine ta_one ?_
  | ((with_reducible refine t_name (b := ?b) ?hl ?_ (by with_unfolding_all rfl)); (case hl => walk_at "nm"))
  | ((with_reducible show Ws (evSs _ _ _ _) _); refine ss_cons (gateS ?_); intro _ _))
local macro_rules | `(tactic| walk_at "py3") => `(tactic| first
  | ((with_reducible refine And.intro ?a ?_); (case a => first | with_unfolding_all rfl | exact Nat.le_of_ble_eq_true rfl))
  | with_reducible refine cx_int (by with_unfolding_all rfl) ?_
  | with_reducible refine ex_it (by with_unfolding_all rfl) ?_
  | with_reducible refine ex_bool ?_
  | with_reducible refine ex_int ?_
  | with_reducible refine ex_lst ?_)
local macro_rules | `(tactic| walk_at "py1") => `(tactic| first | with_reducible refine i0 ?_ | with_reducible refine i1 ?_)
local macro_rules | `(tactic| walk_at "back") => `(tactic| first | with_reducible refine BackS.go (by assumption) ?_ | with_reducible refine BackP.go (by assumption) ?_ | with_reducible refine turn_ret ?_)
local macro_rules | `(tactic| walk_at "gate") => `(tactic| first | (refine gateS ?_; intro _ _) | (refine gateP ?_; intro _ _))
local macro_rules | `(tactic| walk_at "asked") => `(tactic| refine e_asked ?_ (by with_unfolding_all rfl) (by with_unfolding_all rfl) (by with_unfolding_all rfl) (by decide +kernel) (by decide +kernel))
local macro_rules | `(tactic| walk_at "askedX") => `(tactic| refine e_askedX (k := "shape") ?_ (by with_unfolding_all rfl) (by with_unfolding_all rfl) (by with_unfolding_all rfl) (by decide +kernel) (by decide +kernel))
local macro_rules | `(tactic| walk_at "om") => `(tactic| first
  | with_reducible first
    | assumption
    | exact Nat.le_of_ble_eq_true rfl
    | exact om_nn _
    | exact Int.zero_add _
    | exact Nat.lt_succ_self _
    | exact om_rng (by assumption)
    | exact om_rngn
    | exact om_0nn
    | exact om_tr (by assumption) (by assumption)
    | exact om_trq (by assumption) (by assumption)
    | exact Eq.trans (by assumption) (by assumption)
    | exact om_rngq (by assumption) (by assumption)
    | exact om_rngnq (by assumption)
    | exact om_le (by assumption) (by decide)
    | exact om_lt (by assumption) (by decide)
    | exact om_len (by assumption) (by assumption) (by decide)
    | exact om_lenlt (by assumption) (by assumption) (by decide)
    | exact om_len3 (by assumption) (by assumption) (by assumption) (by decide)
    | exact om_i3 (by assumption) (by decide)
    | exact om_i6 (by assumption) (by decide)
    | exact om_i3lt (by assumption) (by assumption) (by decide)
    | exact om_i6lt (by assumption) (by assumption) (by decide)
    | exact om_0i6 (by assumption) (by assumption) (by decide)
    | exact om_li3 (by assumption) (by assumption) (by decide)
    | exact om_lelt (by assumption) (by assumption) (by decide)
  | omega)
local macro_rules | `(tactic| walk_at "py") => `(tactic| repeat (first | walk_at "py1" | walk_at "py2" | walk_at "py3" | walk_at "back"))
section

noncomputable def euc : Nat → Nat → Nat → Bool
  | 0, _, y => y == 0
  | k + 1, x, y => y == 0 || euc k y (x % y)
theorem euc_zero : ∀ k x, euc k x 0 = true
  | 0, _ => rfl
  | _ + 1, _ => rfl
theorem euc_ok : ∀ (j x y : Nat), y < 2 ^ j → euc (2 * j) x y = true
  | 0, x, y, h => by
    have : y = 0 := by simpa using h
    subst this; rfl
  | j + 1, x, y, h => by
    have e : 2 * (j + 1) = (2 * j + 1) + 1 := by exact fm [_] [] [] (.neq (.m 2 (.a (.v 0) (.l 1))) (.a (.a (.m 2 (.v 0)) (.l 1)) (.l 1))) [[1], [1]] rfl
    rw [e]
    unfold euc
    by_cases hy : y = 0
    · simp [hy]
    · have hr : x % y < y := Nat.mod_lt _ (Nat.pos_of_ne_zero hy)
      simp only [Bool.or_eq_true, beq_iff_eq, hy, false_or]
      unfold euc
      by_cases hz : x % y = 0
      · simp [hz]
      · simp only [Bool.or_eq_true, beq_iff_eq, hz, false_or]
        refine euc_ok j _ _ ?_
        have h1 : y % (x % y) < x % y := Nat.mod_lt _ (Nat.pos_of_ne_zero hz)
        have h2 : y % (x % y) + (x % y) ≤ y := by
          have h3 := Nat.div_add_mod y (x % y)
          have h4 : 1 ≤ y / (x % y) := (Nat.one_le_div_iff (Nat.pos_of_ne_zero hz)).mpr (Nat.le_of_lt hr)
          have h5 : x % y ≤ (x % y) * (y / (x % y)) := Nat.le_mul_of_pos_right _ h4
          exact fm [_, _, _, _] [] [.neq (.a (.v 0) (.v 1)) (.v 2), .nle (.v 3) (.v 0)] (.nle (.a (.v 1) (.v 3)) (.v 2)) [[1, 0, 1, 1]] rfl h3 h5
        rw [Nat.pow_succ] at h
        exact fm [_, _, _, _] [] [.nlt (.v 0) (.r (.v 1) 2), .nlt (.v 2) (.v 3), .nle (.a (.v 2) (.v 3)) (.v 0)] (.nlt (.v 2) (.v 1)) [[1, 1, 1, 2]] rfl h h1 h2

section
variable {n : Nat} {σ : St} {Q : PV → St → Prop}
theorem abs_cast (a : Int) : (if a < 0 then -a else a) = (a.natAbs : Int) := by split <;> (first | exact fm [_] [_] [.ilt (.v 0) (.l 0), .or (.an (.ile (.l 0) (.v 0)) (.ieq (.k (.v 0)) (.v 0))) (.an (.ile (.v 0) (.l 0)) (.ieq (.k (.v 0)) (.g (.v 0))))] (.ieq (.g (.v 0)) (.k (.v 0))) [[1, 1], [1, 1], [0, 0, 0, 1, 1], [0, 0, 1, 0, 1]] rfl (by assumption) (nabs _) | exact fm [_] [_] [.no (.ilt (.v 0) (.l 0)), .or (.an (.ile (.l 0) (.v 0)) (.ieq (.k (.v 0)) (.v 0))) (.an (.ile (.v 0) (.l 0)) (.ieq (.k (.v 0)) (.g (.v 0))))] (.ieq (.v 0) (.k (.v 0))) [[0, 0, 0, 1, 1], [0, 0, 1, 0, 1], [0, 1, 0, 0, 1], [2, 0, 1, 0, 1]] rfl (by assumption) (nabs _))
theorem gcd_wp {a b : Int} {k : Nat} (hk : b.natAbs < 2 ^ k) (hc : 2 * k < cap) (h : Q (.int (Int.gcd a b)) σ) : Wp ((ev (n + 8)).c "gcd" [.int a, .int b] σ) Q := by
  refine c_call F_gcd.2 ?_
  walk_at "py"
  refine while_rule (fun j vars σ' => σ' = σ ∧ ∃ x y : Nat, At vars "a" (.int x) ∧ At vars "b" (.int y) ∧ Nat.gcd x y = Int.gcd a b ∧ euc j x y = true) (2 * k) hc ?_ ?_
  · repeat walk_at "back"
    refine ⟨rfl, a.natAbs, b.natAbs, ?_, ?_, rfl, euc_ok k _ _ hk⟩
    · rw [← abs_cast]; walk_at "lk"
    · rw [← abs_cast]; walk_at "lk"
  · rintro j vars σ' ⟨rfl, x, y, h1, h2, h3, h4⟩
    walk_at "py"
    refine ⟨fun hy => ?_, fun hy => ?_⟩
    · have hy : y = 0 := by simpa using hy
      subst hy
      walk_at "py"
      rw [← h3] at h
      simpa using h
    · have hy : y ≠ 0 := by simpa using hy
      walk_at "py"
      refine b_mod (by exact fm [_] [] [.no (.neq (.v 0) (.l 0))] (.no (.ieq (.k (.v 0)) (.l 0))) [[1, 1], [1]] rfl hy) ?_
      walk_at "py"
      cases j with
      | zero => simp [euc] at h4; exact False.elim (fm [_] [] [.no (.neq (.v 0) (.l 0)), .neq (.v 0) (.l 0)] .f [[1, 1], [1]] rfl hy h4)
      | succ j =>
        refine ⟨j, Nat.lt_succ_self _, rfl, y, x % y, by walk_at "lk", ?_, ?_, ?_⟩
        · rw [show ((x % y : Nat) : Int) = (x : Int).fmod y by rw [Int.fmod_eq_emod_of_nonneg _ (by walk_at "om")]; rfl]
          walk_at "lk"
        · rw [← h3, Nat.gcd_comm x y]; exact (Nat.gcd_rec y x).symm ▸ Nat.gcd_comm _ _
        · simpa [euc, hy] using h4
end
end
section


noncomputable def Sz (k : Nat) (x : Rat) : Prop := x.num.natAbs < 2 ^ k ∧ x.den < 2 ^ k

theorem pow_le {j k : Nat} (h : j ≤ k) : 2 ^ j ≤ 2 ^ k := Nat.pow_le_pow_right (by decide) h
theorem Sz.mono {j k : Nat} {x : Rat} (h : Sz j x) (hk : j ≤ k) : Sz k x := ⟨Nat.lt_of_lt_of_le h.1 (pow_le hk), Nat.lt_of_lt_of_le h.2 (pow_le hk)⟩
theorem Sz.zero : Sz 1 0 := by constructor <;> decide
theorem Sz.one : Sz 1 1 := by constructor <;> decide
theorem mul_lt_pow {a b j k : Nat} (ha : a < 2 ^ j) (hb : b < 2 ^ k) : a * b < 2 ^ (j + k) := by
  rw [Nat.pow_add]
  repeat walk_at "back"
  exact Nat.mul_lt_mul'' ha hb
theorem add_lt_pow {a b j : Nat} (ha : a < 2 ^ j) (hb : b < 2 ^ j) : a + b < 2 ^ (j + 1) := by rw [Nat.pow_succ]; exact fm [_, _, _] [] [.nlt (.v 0) (.v 1), .nlt (.v 2) (.v 1)] (.nlt (.a (.v 0) (.v 2)) (.r (.v 1) 2)) [[1, 1, 1]] rfl ha hb
theorem Sz.divInt {k : Nat} {t b : Int} (hb : b ≠ 0) (h1 : t.natAbs < 2 ^ k) (h2 : b.natAbs < 2 ^ k) : Sz k (Rat.divInt t b) := by
  constructor
  · rw [Rat.num_divInt]
    have e : (b.sign * t).natAbs ≤ t.natAbs := by
      rw [Int.natAbs_mul]
      have : b.sign.natAbs ≤ 1 := by rcases Int.lt_trichotomy b 0 with h | h | h <;> simp [Int.sign_eq_neg_one_of_neg, Int.sign_eq_one_of_pos, *]
      calc b.sign.natAbs * t.natAbs ≤ 1 * t.natAbs := Nat.mul_le_mul_right _ this
        _ = t.natAbs := Nat.one_mul _
    have e2 : (b.sign * t / (b.gcd t : Int)).natAbs ≤ (b.sign * t).natAbs := Int.natAbs_ediv_le_natAbs _ _
    exact fm [_, _, _, _] [] [.nlt (.v 0) (.v 1), .nle (.v 2) (.v 0), .nle (.v 3) (.v 2)] (.nlt (.v 3) (.v 1)) [[1, 1, 1, 1]] rfl h1 e e2
  · rw [Rat.den_divInt, if_neg hb]
    repeat walk_at "back"
    exact Nat.lt_of_le_of_lt (Nat.div_le_self _ _) h2

theorem den_ne (x : Rat) : (x.den : Int) ≠ 0 := by have := x.den_nz; exact fm [_] [] [.no (.neq (.v 0) (.l 0))] (.no (.ieq (.k (.v 0)) (.l 0))) [[1, 1], [1]] rfl this
theorem add_eq (a b : Rat) : a + b = Rat.divInt (a.num * b.den + b.num * a.den) (a.den * b.den) := by
  have := Rat.divInt_add_divInt a.num b.num (den_ne a) (den_ne b)
  rw [Rat.num_divInt_den, Rat.num_divInt_den] at this
  repeat walk_at "back"
  exact this
theorem sub_eq (a b : Rat) : a - b = Rat.divInt (a.num * b.den - b.num * a.den) (a.den * b.den) := by
  have := Rat.divInt_sub_divInt a.num b.num (den_ne a) (den_ne b)
  rw [Rat.num_divInt_den, Rat.num_divInt_den] at this
  repeat walk_at "back"
  exact this
theorem mul_eq (a b : Rat) : a * b = Rat.divInt (a.num * b.num) (a.den * b.den) := by
  have := Rat.divInt_mul_divInt a.num b.num (d₁ := a.den) (d₂ := b.den)
  rw [Rat.num_divInt_den, Rat.num_divInt_den] at this
  repeat walk_at "back"
  exact this
theorem div_eq (a b : Rat) : a / b = Rat.divInt (a.num * b.den) (a.den * b.num) := by
  have := Rat.divInt_mul_divInt a.num b.den (d₁ := a.den) (d₂ := b.num)
  rw [Rat.num_divInt_den] at this
  rw [Rat.div_def, Rat.inv_def]
  repeat walk_at "back"
  exact this
theorem num_ne {x : Rat} (h : x ≠ 0) : x.num ≠ 0 := fun e => h (Rat.num_eq_zero.mp e)

theorem abs_mul_lt {a b : Int} {j k : Nat} (ha : a.natAbs < 2 ^ j) (hb : b.natAbs < 2 ^ k) : (a * b).natAbs < 2 ^ (j + k) := by rw [Int.natAbs_mul]; exact mul_lt_pow ha hb
theorem abs_add_lt {a b : Int} {j : Nat} (ha : a.natAbs < 2 ^ j) (hb : b.natAbs < 2 ^ j) : (a + b).natAbs < 2 ^ (j + 1) := by rw [Nat.pow_succ]; exact fm [_, _, _, _] [_, _] [.nlt (.v 0) (.v 1), .nlt (.v 2) (.v 1), .or (.an (.ile (.l 0) (.v 0)) (.ieq (.k (.v 0)) (.v 0))) (.an (.ile (.v 0) (.l 0)) (.ieq (.k (.v 0)) (.g (.v 0)))), .or (.an (.ile (.l 0) (.v 1)) (.ieq (.k (.v 2)) (.v 1))) (.an (.ile (.v 1) (.l 0)) (.ieq (.k (.v 2)) (.g (.v 1)))), .or (.an (.ile (.l 0) (.a (.v 0) (.v 1))) (.ieq (.k (.v 3)) (.a (.v 0) (.v 1)))) (.an (.ile (.a (.v 0) (.v 1)) (.l 0)) (.ieq (.k (.v 3)) (.g (.a (.v 0) (.v 1)))))] (.nlt (.v 3) (.r (.v 1) 2)) [[1, 1, 0, 0, 1, 0, 0, 1, 0, 1, 0, 1], [2, 0, 1, 0, 0, 1, 0, 0, 0, 1, 0, 1], [2, 0, 0, 0, 1, 1, 0, 0, 0, 1, 0, 1], [0, 2, 1, 0, 0, 0, 0, 1, 0, 1, 0, 1], [0, 2, 1, 0, 0, 0, 0, 1, 0, 1, 0, 1], [2, 0, 0, 0, 1, 1, 0, 0, 0, 1, 0, 1], [2, 0, 1, 0, 0, 1, 0, 0, 0, 1, 0, 1], [1, 1, 0, 0, 1, 0, 0, 1, 0, 1, 0, 1]] rfl ha hb (nabs _) (nabs _) (nabs _)
theorem abs_sub_lt {a b : Int} {j : Nat} (ha : a.natAbs < 2 ^ j) (hb : b.natAbs < 2 ^ j) : (a - b).natAbs < 2 ^ (j + 1) := by rw [Nat.pow_succ]; exact fm [_, _, _, _] [_, _] [.nlt (.v 0) (.v 1), .nlt (.v 2) (.v 1), .or (.an (.ile (.l 0) (.v 0)) (.ieq (.k (.v 0)) (.v 0))) (.an (.ile (.v 0) (.l 0)) (.ieq (.k (.v 0)) (.g (.v 0)))), .or (.an (.ile (.l 0) (.v 1)) (.ieq (.k (.v 2)) (.v 1))) (.an (.ile (.v 1) (.l 0)) (.ieq (.k (.v 2)) (.g (.v 1)))), .or (.an (.ile (.l 0) (.s (.v 0) (.v 1))) (.ieq (.k (.v 3)) (.s (.v 0) (.v 1)))) (.an (.ile (.s (.v 0) (.v 1)) (.l 0)) (.ieq (.k (.v 3)) (.g (.s (.v 0) (.v 1)))))] (.nlt (.v 3) (.r (.v 1) 2)) [[2, 0, 0, 0, 1, 1, 0, 0, 0, 1, 0, 1], [0, 2, 1, 0, 0, 0, 0, 1, 0, 1, 0, 1], [1, 1, 0, 0, 1, 0, 0, 1, 0, 1, 0, 1], [2, 0, 1, 0, 0, 1, 0, 0, 0, 1, 0, 1], [2, 0, 1, 0, 0, 1, 0, 0, 0, 1, 0, 1], [1, 1, 0, 0, 1, 0, 0, 1, 0, 1, 0, 1], [0, 2, 1, 0, 0, 0, 0, 1, 0, 1, 0, 1], [2, 0, 0, 0, 1, 1, 0, 0, 0, 1, 0, 1]] rfl ha hb (nabs _) (nabs _) (nabs _)
theorem Sz.d {k : Nat} {x : Rat} (h : Sz k x) : (x.den : Int).natAbs < 2 ^ k := h.2
theorem lt_more {a j k : Nat} (h : a < 2 ^ j) (hk : j ≤ k) : a < 2 ^ k := Nat.lt_of_lt_of_le h (pow_le hk)

theorem Sz.add {j k : Nat} {a b : Rat} (ha : Sz j a) (hb : Sz k b) : Sz (j + k + 1) (a + b) := by
  rw [add_eq]
  refine Sz.divInt (Int.mul_ne_zero (den_ne a) (den_ne b)) (abs_add_lt (abs_mul_lt ha.1 hb.d) ?_) (lt_more (abs_mul_lt ha.d hb.d) (by exact fm [_, _] [] [] (.nle (.a (.v 0) (.v 1)) (.a (.a (.v 0) (.v 1)) (.l 1))) [[1]] rfl))
  rw [Nat.add_comm j k]; exact abs_mul_lt hb.1 ha.d
theorem Sz.sub {j k : Nat} {a b : Rat} (ha : Sz j a) (hb : Sz k b) : Sz (j + k + 1) (a - b) := by
  rw [sub_eq]
  refine Sz.divInt (Int.mul_ne_zero (den_ne a) (den_ne b)) (abs_sub_lt (abs_mul_lt ha.1 hb.d) ?_) (lt_more (abs_mul_lt ha.d hb.d) (by exact fm [_, _] [] [] (.nle (.a (.v 0) (.v 1)) (.a (.a (.v 0) (.v 1)) (.l 1))) [[1]] rfl))
  rw [Nat.add_comm j k]; exact abs_mul_lt hb.1 ha.d
theorem Sz.mul {j k : Nat} {a b : Rat} (ha : Sz j a) (hb : Sz k b) : Sz (j + k) (a * b) := by
  rw [mul_eq]
  repeat walk_at "back"
  exact Sz.divInt (Int.mul_ne_zero (den_ne a) (den_ne b)) (abs_mul_lt ha.1 hb.1) (abs_mul_lt ha.d hb.d)
theorem Sz.div {j k : Nat} {a b : Rat} (ha : Sz j a) (hb : Sz k b) (h0 : b ≠ 0) : Sz (j + k) (a / b) := by
  rw [div_eq]
  repeat walk_at "back"
  exact Sz.divInt (Int.mul_ne_zero (den_ne a) (num_ne h0)) (abs_mul_lt ha.1 hb.d) (abs_mul_lt ha.d hb.1)
theorem Sz.neg {k : Nat} {a : Rat} (ha : Sz k a) : Sz k (-a) := ⟨by rw [Rat.neg_num, Int.natAbs_neg]; exact ha.1, by rw [Rat.neg_den]; exact ha.2⟩

theorem bits_of {x : Int} {k : Nat} (h : x.natAbs < 2 ^ k) (hk : k ≤ 4000) : bitsOk x = true := by
  unfold bitsOk
  rw [decide_eq_true_eq]
  by_cases h0 : x.natAbs = 0
  · rw [h0]; decide
  · repeat walk_at "back"
    exact (Nat.log2_lt h0).mpr (lt_more h hk)

abbrev lim : Nat := 900

section
variable {n : Nat} {σ : St} {Q : PV → St → Prop}
theorem gcd_pos {t b : Int} (hb : b ≠ 0) : 0 < Int.gcd t b := Int.gcd_pos_iff.mpr (.inr hb)
theorem q_divInt {t b : Int} (hb : b ≠ 0) : q (Rat.divInt t b) = .tup [.int (t.fdiv (if b > 0 then (Int.gcd t b : Int) else 0 - (Int.gcd t b : Int))), .int (b.fdiv (if b > 0 then (Int.gcd t b : Int) else 0 - (Int.gcd t b : Int)))] := by
  have hg := gcd_pos (t := t) hb
  have d1 : (Int.gcd t b : Int) ∣ t := Int.gcd_dvd_left ..
  have d2 : (Int.gcd t b : Int) ∣ b := Int.gcd_dvd_right ..
  have hc : b.gcd t = t.gcd b := Int.gcd_comm ..
  unfold q
  rw [Rat.num_divInt, Rat.den_divInt, if_neg hb, hc]
  have hn : ((b.natAbs / t.gcd b : Nat) : Int) = (b.natAbs : Int) / (t.gcd b : Int) := by simp
  rw [hn]
  by_cases h : b > 0
  · rw [if_pos h, Int.sign_eq_one_of_pos h, Int.one_mul, Int.fdiv_eq_ediv_of_dvd d1, Int.fdiv_eq_ediv_of_dvd d2]
    have e2 : (b.natAbs : Int) = b := by exact fm [_] [_] [.ilt (.l 0) (.v 0), .or (.an (.ile (.l 0) (.v 0)) (.ieq (.k (.v 0)) (.v 0))) (.an (.ile (.v 0) (.l 0)) (.ieq (.k (.v 0)) (.g (.v 0))))] (.ieq (.k (.v 0)) (.v 0)) [[0, 0, 1, 0, 1], [0, 0, 0, 1, 1], [1, 1], [1, 1]] rfl h (nabs _)
    rw [e2]
  · have h' : b < 0 := by exact fm [] [_] [.no (.ieq (.v 0) (.l 0)), .no (.ilt (.l 0) (.v 0))] (.ilt (.v 0) (.l 0)) [[1, 1], [1, 0, 1]] rfl hb h
    have d1' : (0 - (Int.gcd t b : Int)) ∣ t := by rw [Int.zero_sub]; exact (Int.neg_dvd).mpr d1
    have d2' : (0 - (Int.gcd t b : Int)) ∣ b := by rw [Int.zero_sub]; exact (Int.neg_dvd).mpr d2
    rw [if_neg h, Int.sign_eq_neg_one_of_neg h', Int.fdiv_eq_ediv_of_dvd d1', Int.fdiv_eq_ediv_of_dvd d2', Int.zero_sub, Int.ediv_neg, Int.ediv_neg]
    have e1 : -1 * t = -t := Int.neg_one_mul t
    have e2 : (b.natAbs : Int) = -b := by exact fm [_] [_] [.ilt (.v 0) (.l 0), .or (.an (.ile (.l 0) (.v 0)) (.ieq (.k (.v 0)) (.v 0))) (.an (.ile (.v 0) (.l 0)) (.ieq (.k (.v 0)) (.g (.v 0))))] (.ieq (.k (.v 0)) (.g (.v 0))) [[1, 1], [1, 1], [0, 0, 1, 0, 1], [0, 0, 0, 1, 1]] rfl h' (nabs _)
    rw [e1, e2, Int.neg_ediv_of_dvd d1, Int.neg_ediv_of_dvd d2]

theorem rat_wp {t b : Int} (hb : b ≠ 0) (hs : b.natAbs < 2 ^ 1900) (h : Q (q (Rat.divInt t b)) σ) : Wp ((ev (n + 14)).c "rat" [.int t, .int b] σ) Q := by
  have hg := gcd_pos (t := t) hb
  have hcap : cap = 4000 := rfl
  refine c_call F_rat.2 ?_
  walk_at "py"
  refine ⟨fun hc => absurd (by simpa using hc) hb, fun _ => ?_⟩
  walk_at "py"
  have hgb : (t.gcd b) < 2 ^ 1900 := Nat.lt_of_le_of_lt (Nat.le_of_dvd (by exact fm [_] [_] [.no (.ieq (.v 0) (.l 0)), .or (.an (.ile (.l 0) (.v 0)) (.ieq (.k (.v 0)) (.v 0))) (.an (.ile (.v 0) (.l 0)) (.ieq (.k (.v 0)) (.g (.v 0))))] (.nlt (.l 0) (.v 0)) [[1, 0, 0, 1, 1], [1, 1], [1, 1], [1, 0, 0, 1, 1]] rfl hb (nabs _)) (Int.natAbs_dvd_natAbs.mpr (Int.gcd_dvd_right (a := t) (b := b)))) hs
  rw [q_divInt hb] at h
  refine e_ife ?_
  walk_at "py"
  refine ⟨fun hc => ?_, fun hc => ?_⟩
  · have hc : b > 0 := by simpa using hc
    rw [if_pos hc] at h
    walk_at "py"
    refine gcd_wp (k := 1900) hs (by exact fm [_] [] [.neq (.v 0) (.l 4000)] (.nlt (.l 3800) (.v 0)) [[0, 1, 1]] rfl hcap) ?_
    walk_at "py"
    refine b_div (by exact fm [_] [] [.nlt (.l 0) (.v 0)] (.no (.ieq (.k (.v 0)) (.l 0))) [[1, 1]] rfl hg) (bits_of (k := 1900) hgb (by decide)) ?_
    walk_at "py"
    refine b_div (by exact fm [_] [] [.nlt (.l 0) (.v 0)] (.no (.ieq (.k (.v 0)) (.l 0))) [[1, 1]] rfl hg) (bits_of (k := 1900) hgb (by decide)) ?_
    walk_at "py"
    exact h
  · have hc : ¬ b > 0 := by simpa using hc
    rw [if_neg hc] at h
    walk_at "py"
    refine gcd_wp (k := 1900) hs (by exact fm [_] [] [.neq (.v 0) (.l 4000)] (.nlt (.l 3800) (.v 0)) [[0, 1, 1]] rfl hcap) ?_
    walk_at "py"
    have hgb' : (0 - (t.gcd b : Int)).natAbs < 2 ^ 1900 := by rw [Int.zero_sub, Int.natAbs_neg]; exact hgb
    refine b_div (by exact fm [_] [] [.nlt (.l 0) (.v 0)] (.no (.ieq (.s (.l 0) (.k (.v 0))) (.l 0))) [[1, 0, 1]] rfl hg) (bits_of (k := 1900) hgb' (by decide)) ?_
    walk_at "py"
    refine b_div (by exact fm [_] [] [.nlt (.l 0) (.v 0)] (.no (.ieq (.s (.l 0) (.k (.v 0))) (.l 0))) [[1, 0, 1]] rfl hg) (bits_of (k := 1900) hgb' (by decide)) ?_
    walk_at "py"
    exact h


theorem radd_wp {a b : Rat} (ha : Sz lim a) (hb : Sz lim b) (h : Q (q (a + b)) σ) : Wp ((ev (n + 18)).c "radd" [q a, q b] σ) Q := by
  have b1 := bits_of ha.1 (by decide)
  have b2 := bits_of ha.d (by decide)
  have b3 := bits_of hb.1 (by decide)
  have b4 := bits_of hb.d (by decide)
  refine c_call F_radd.2 ?_
  walk_at "py"
  refine b_mul b1 b4 ?_
  walk_at "py"
  refine b_mul b3 b2 ?_
  walk_at "py"
  refine b_mul b2 b4 ?_
  walk_at "py"
  refine rat_wp (Int.mul_ne_zero (den_ne a) (den_ne b)) (lt_more (abs_mul_lt ha.d hb.d) (by decide)) ?_
  rw [← add_eq]
  repeat walk_at "back"
  exact h
theorem rsub_wp {a b : Rat} (ha : Sz lim a) (hb : Sz lim b) (h : Q (q (a - b)) σ) : Wp ((ev (n + 18)).c "rsub" [q a, q b] σ) Q := by
  have b1 := bits_of ha.1 (by decide)
  have b2 := bits_of ha.d (by decide)
  have b3 := bits_of hb.1 (by decide)
  have b4 := bits_of hb.d (by decide)
  refine c_call F_rsub.2 ?_
  walk_at "py"
  refine b_mul b1 b4 ?_
  walk_at "py"
  refine b_mul b3 b2 ?_
  walk_at "py"
  refine b_mul b2 b4 ?_
  walk_at "py"
  refine rat_wp (Int.mul_ne_zero (den_ne a) (den_ne b)) (lt_more (abs_mul_lt ha.d hb.d) (by decide)) ?_
  rw [← sub_eq]
  repeat walk_at "back"
  exact h
theorem rmul_wp {a b : Rat} (ha : Sz lim a) (hb : Sz lim b) (h : Q (q (a * b)) σ) : Wp ((ev (n + 18)).c "rmul" [q a, q b] σ) Q := by
  have b1 := bits_of ha.1 (by decide)
  have b2 := bits_of ha.d (by decide)
  have b3 := bits_of hb.1 (by decide)
  have b4 := bits_of hb.d (by decide)
  refine c_call F_rmul.2 ?_
  walk_at "py"
  refine b_mul b1 b3 ?_
  walk_at "py"
  refine b_mul b2 b4 ?_
  walk_at "py"
  refine rat_wp (Int.mul_ne_zero (den_ne a) (den_ne b)) (lt_more (abs_mul_lt ha.d hb.d) (by decide)) ?_
  rw [← mul_eq]
  repeat walk_at "back"
  exact h
theorem rdiv_wp {a b : Rat} (ha : Sz lim a) (hb : Sz lim b) (h0 : b ≠ 0) (h : Q (q (a / b)) σ) : Wp ((ev (n + 18)).c "rdiv" [q a, q b] σ) Q := by
  have b1 := bits_of ha.1 (by decide)
  have b2 := bits_of ha.d (by decide)
  have b3 := bits_of hb.1 (by decide)
  have b4 := bits_of hb.d (by decide)
  refine c_call F_rdiv.2 ?_
  walk_at "py"
  refine b_mul b1 b4 ?_
  walk_at "py"
  refine b_mul b2 b3 ?_
  walk_at "py"
  refine rat_wp (Int.mul_ne_zero (den_ne a) (num_ne h0)) (lt_more (abs_mul_lt ha.d hb.1) (by decide)) ?_
  rw [← div_eq]
  repeat walk_at "back"
  exact h
theorem rneg_wp {a : Rat} (h : Q (q (-a)) σ) : Wp ((ev (n + 18)).c "rneg" [q a] σ) Q := by
  refine c_call F_rneg.2 ?_
  walk_at "py"
  have e : q (-a) = .tup [.int (0 - a.num), .int a.den] := by unfold q; rw [Rat.neg_num, Rat.neg_den, Int.zero_sub]
  rw [e] at h
  repeat walk_at "back"
  exact h
end
end
section

noncomputable def Pres (X : List Str) (V₀ V : Vars) : Prop := ∀ x v, X.contains x = false → At V₀ x v → At V x v
theorem Pres.refl {X : List Str} {V : Vars} : Pres X V V := fun _ _ _ h => h
theorem Pres.upd {X : List Str} {V₀ V : Vars} (h : Pres X V₀ V) {y : Str} (hy : X.contains y = true) (w : PV) : Pres X V₀ (upd y w V) := fun x v hx hv => by
  refine lk_ne ?_ (h x v hx hv)
  cases q : x == y with
  | false => rfl
  | true => rw [beq_iff_eq.mp q, hy] at hx; cases hx

theorem nx_lst {σ : St} {k j : Nat} {l : List PV} (h : σ[k]? = some l) : nextAt σ (.lst k) j = l[j]? := by show (σ[k]?.getD [])[j]? = _; rw [h]; rfl
theorem nx_enm {σ : St} {k j : Nat} {l : List PV} {v : PV} (h : σ[k]? = some l) (hv : l[j]? = some v) : nextAt σ (.enm k) j = some (.tup [.int j, v]) := by
  show ((σ[k]?.getD [])[j]?).map (fun v => PV.tup [.int j, v]) = _; rw [h]; show (l[j]?).map _ = _; rw [hv]; rfl
theorem nx_enm_none {σ : St} {k j : Nat} {l : List PV} (h : σ[k]? = some l) (hv : l[j]? = none) : nextAt σ (.enm k) j = none := by
  show ((σ[k]?.getD [])[j]?).map (fun v => PV.tup [.int j, v]) = _; rw [h]; show (l[j]?).map _ = _; rw [hv]; rfl
theorem nx_rng {σ : St} {lo hi : Int} {j : Nat} (h : lo + j < hi) : nextAt σ (.rng lo hi) j = some (.int (lo + j)) := by show (if _ then _ else _) = _; rw [if_pos h]
theorem nx_rng_none {σ : St} {lo hi : Int} {j : Nat} (h : ¬ lo + j < hi) : nextAt σ (.rng lo hi) j = none := by show (if _ then _ else _) = _; rw [if_neg h]
theorem nx_tup {σ : St} {l : List PV} {j : Nat} : nextAt σ (.tup l) j = l[j]? := rfl

section
variable {n : Nat} {N : List (Str × NameKind)} {V : Vars} {L : Bool} {σ : St}

theorem comp_pure {F : Evs} {target elt : Expr} {it : It} {Q : List PV → St → Prop} (X : List Str) (M : Nat) (items : Nat → PV) (P : Nat → PV → St → Prop) (hP : ∀ j x σ σ', Le σ σ' → P j x σ → P j x σ') (hM : M < cap)
    (hnext : ∀ σ', Le σ σ' → (∀ j, j < M → nextAt σ' it j = some (items j)) ∧ nextAt σ' it M = none)
    (hbind : ∀ j V', ∃ V₁, assignLoop target ⟨N, V', L⟩ (items j) = some V₁ ∧ (∀ V₀, Pres X V₀ V' → Pres X V₀ V₁))
    (body : ∀ j V' V₁ σ', j < M → Le σ σ' → Pres X V V' → assignLoop target ⟨N, V', L⟩ (items j) = some V₁ → Wp (F.e elt ⟨N, V₁, L⟩ σ') fun x σ'' => Le σ' σ'' ∧ P j x σ'')
    (h : ∀ xs σ', Le σ σ' → xs.length = M → (∀ j, j < M → ∃ x, xs[j]? = some x ∧ P j x σ') → Q xs σ') : Wp (compLoop F target elt [] it cap 0 ⟨N, V, L⟩ σ) Q := by
  refine comp_rule (fun k V' σ' xs => All4 (Pres X V V') (Le σ σ') (xs.length = k) (∀ j, j < k → ∃ x, xs[j]? = some x ∧ P j x σ')) M hM ⟨Pres.refl, Le.refl _, rfl, fun j hj => by exact False.elim (fm [_] [] [.nlt (.v 0) (.l 0)] .f [[1]] rfl hj)⟩ (fun k V' σ' xs hk hI => ?_) (fun V' σ' xs hI => ?_)
  · obtain ⟨hp, hle, hlen, hx⟩ := hI
    obtain ⟨V₁, e1, e2⟩ := hbind k V'
    refine ⟨items k, V₁, (hnext σ' hle).1 k hk, e1, ta_nil ⟨fun _ => ?_, fun hc => by cases hc⟩⟩
    refine (body k V' V₁ σ' hk hle hp e1).mono fun x σ'' hb => ⟨e2 V hp, hle.trans hb.1, by simp [hlen], fun j hj => ?_⟩
    by_cases hjk : j = k
    · subst hjk
      repeat walk_at "back"
      exact ⟨x, by rw [List.getElem?_append_right (by exact fm [_, _] [] [.neq (.v 0) (.v 1)] (.nle (.v 0) (.v 1)) [[1, 0, 1]] rfl hlen)]; simp [hlen], hb.2⟩
    · obtain ⟨y, hy, hpy⟩ := hx j (by exact fm [_, _] [] [.nlt (.v 0) (.a (.v 1) (.l 1)), .no (.neq (.v 0) (.v 1))] (.nlt (.v 0) (.v 1)) [[1, 1], [0, 1, 1]] rfl hj hjk)
      repeat walk_at "back"
      exact ⟨y, by rw [List.getElem?_append_left (by exact fm [_, _, _] [] [.neq (.v 0) (.v 1), .nlt (.v 2) (.a (.v 1) (.l 1)), .no (.neq (.v 2) (.v 1))] (.nlt (.v 2) (.v 0)) [[0, 0, 1, 1], [0, 1, 0, 1, 1]] rfl hlen hj hjk)]; exact hy, hP j y _ _ hb.1 hpy⟩
  · obtain ⟨hp, hle, hlen, hx⟩ := hI
    repeat walk_at "back"
    exact ⟨(hnext σ' hle).2, h xs σ' hle hlen hx⟩

theorem comp_lst {F : Evs} {x : Str} {tp : Pos} {elt : Expr} {k : Nat} {l : List PV} {Q : List PV → St → Prop} (P : Nat → PV → St → Prop) (hP : ∀ j x σ σ', Le σ σ' → P j x σ → P j x σ') (hl : σ[k]? = some l) (hM : l.length < cap)
    (hx : N.lookup x = some .local ∨ N.lookup x = some .cell)
    (body : ∀ j v V' σ', l[j]? = some v → Le σ σ' → Pres [x] V V' → Wp (F.e elt ⟨N, upd x v V', L⟩ σ') fun y σ'' => Le σ' σ'' ∧ P j y σ'')
    (h : ∀ xs σ', Le σ σ' → xs.length = l.length → (∀ j, j < l.length → ∃ y, xs[j]? = some y ∧ P j y σ') → Q xs σ') : Wp (compLoop F (.Name x tp) elt [] (.lst k) cap 0 ⟨N, V, L⟩ σ) Q := by
  refine comp_pure [x] l.length (fun j => (l[j]?).getD .none) P hP hM (fun σ' hle => ⟨fun j hj => ?_, ?_⟩) (fun j V' => ⟨_, al_name hx, fun V₀ h => h.upd (by simp) _⟩) (fun j V' V₁ σ' hj hle hp e => ?_) h
  · rw [nx_lst (hle _ _ hl)]; simp [hj]
  · rw [nx_lst (hle _ _ hl)]; simp
  · rw [al_name hx] at e; cases e
    repeat walk_at "back"
    exact body j _ V' σ' (by simp [hj]) hle hp
theorem comp_rng {F : Evs} {x : Str} {tp : Pos} {elt : Expr} {M : Nat} {hi : Int} {Q : List PV → St → Prop} (P : Nat → PV → St → Prop) (hP : ∀ j x σ σ', Le σ σ' → P j x σ → P j x σ') (hhi : hi = M) (hM : M < cap)
    (hx : N.lookup x = some .local ∨ N.lookup x = some .cell)
    (body : ∀ (j : Nat) V' σ', j < M → Le σ σ' → Pres [x] V V' → Wp (F.e elt ⟨N, upd x (.int j) V', L⟩ σ') fun y σ'' => Le σ' σ'' ∧ P j y σ'')
    (h : ∀ xs σ', Le σ σ' → xs.length = M → (∀ j, j < M → ∃ y, xs[j]? = some y ∧ P j y σ') → Q xs σ') : Wp (compLoop F (.Name x tp) elt [] (.rng 0 hi) cap 0 ⟨N, V, L⟩ σ) Q := by
  subst hhi
  refine comp_pure [x] M (fun j => .int j) P hP hM (fun σ' hle => ⟨fun j hj => ?_, ?_⟩) (fun j V' => ⟨_, al_name hx, fun V₀ h => h.upd (by simp) _⟩) (fun j V' V₁ σ' hj hle hp e => ?_) h
  · rw [nx_rng (by walk_at "om")]; simp
  · rw [nx_rng_none (by walk_at "om")]
  · rw [al_name hx] at e; cases e
    repeat walk_at "back"
    exact body j V' σ' hj hle hp
theorem comp_enm {F : Evs} {x y : Str} {tp tq tr : Pos} {tk : Nat} {elt : Expr} {k : Nat} {l : List PV} {Q : List PV → St → Prop} (P : Nat → PV → St → Prop) (hP : ∀ j x σ σ', Le σ σ' → P j x σ → P j x σ') (hl : σ[k]? = some l) (hM : l.length < cap)
    (hx : N.lookup x = some .local ∨ N.lookup x = some .cell) (hy : N.lookup y = some .local ∨ N.lookup y = some .cell)
    (body : ∀ (j : Nat) v V' σ', l[j]? = some v → Le σ σ' → Pres [x, y] V V' → Wp (F.e elt ⟨N, upd y v (upd x (.int j) V'), L⟩ σ') fun z σ'' => Le σ' σ'' ∧ P j z σ'')
    (h : ∀ xs σ', Le σ σ' → xs.length = l.length → (∀ j, j < l.length → ∃ z, xs[j]? = some z ∧ P j z σ') → Q xs σ') : Wp (compLoop F (.Tuple [.Name x tp, .Name y tq] tk tr) elt [] (.enm k) cap 0 ⟨N, V, L⟩ σ) Q := by
  refine comp_pure [x, y] l.length (fun j => .tup [.int j, (l[j]?).getD .none]) P hP hM (fun σ' hle => ⟨fun j hj => ?_, ?_⟩) (fun j V' => ⟨_, al_two hx hy, fun V₀ h => (h.upd (by simp) _).upd (by simp) _⟩) (fun j V' V₁ σ' hj hle hp e => ?_) h
  · rw [nx_enm (hle _ _ hl) (v := (l[j]?).getD .none) (by simp [hj])]
  · rw [nx_enm_none (hle _ _ hl) (by simp)]
  · rw [al_two hx hy] at e; cases e
    repeat walk_at "back"
    exact body j _ V' σ' (by simp [hj]) hle hp
end

noncomputable def rowOf (n : Nat) (f : Nat → Rat) : List PV := (List.range n).map fun j => q (f j)
theorem rowOf_len {n : Nat} {f : Nat → Rat} : (rowOf n f).length = n := by simp [rowOf]
theorem rowOf_get {n j : Nat} {f : Nat → Rat} (h : j < n) : (rowOf n f)[j]? = some (q (f j)) := by simp [rowOf, h]
theorem rowOf_ext {n : Nat} {f : Nat → Rat} {xs : List PV} (hl : xs.length = n) (h : ∀ j, j < n → xs[j]? = some (q (f j))) : xs = rowOf n f := by
  apply List.ext_getElem?
  intro j
  by_cases hj : j < n
  · rw [h j hj, rowOf_get hj]
  · rw [List.getElem?_eq_none (by exact fm [_, _, _] [] [.neq (.v 0) (.v 1), .no (.nlt (.v 2) (.v 1))] (.nle (.v 0) (.v 2)) [[1, 0, 1, 1]] rfl hl hj), List.getElem?_eq_none (by rw [rowOf_len]; exact fm [_, _] [] [.no (.nlt (.v 0) (.v 1))] (.nle (.v 1) (.v 0)) [[1, 1]] rfl hj)]

inductive IsRow (σ : St) (v : PV) (n : Nat) (f : Nat → Rat) : Prop
  | mk k (c1 : v = .lst k) (c2 : σ[k]? = some (rowOf n f)) : IsRow σ v n f
inductive RowI (σ : St) (l : List PV) (i n : Nat) (f : Nat → Rat) : Prop
  | mk v (c1 : l[i]? = some v) (c2 : IsRow σ v n f) : RowI σ l i n f
noncomputable def Rows (σ : St) (l : List PV) (m n : Nat) (M : Nat → Nat → Rat) : Prop := l.length = m ∧ ∀ i, i < m → RowI σ l i n (M i)
inductive IsMat (σ : St) (p : PV) (m n : Nat) (M : Nat → Nat → Rat) : Prop
  | mk k l (c1 : p = .lst k) (c2 : σ[k]? = some l) (c3 : Rows σ l m n M) : IsMat σ p m n M

theorem IsRow.le {σ σ' : St} {v n f} (h : IsRow σ v n f) (l : Le σ σ') : IsRow σ' v n f := let ⟨k, e, hk⟩ := h; ⟨k, e, l _ _ hk⟩
theorem Rows.le {σ σ' : St} {r m n M} (h : Rows σ r m n M) (l : Le σ σ') : Rows σ' r m n M := ⟨h.1, fun i hi => let ⟨v, e, hv⟩ := h.2 i hi; ⟨v, e, hv.le l⟩⟩
theorem IsMat.le {σ σ' : St} {p m n M} (h : IsMat σ p m n M) (l : Le σ σ') : IsMat σ' p m n M := let ⟨k, r, e, hk, hr⟩ := h; ⟨k, r, e, l _ _ hk, hr.le l⟩
theorem Rows.get {σ : St} {l : List PV} {m n i : Nat} {M v} (h : Rows σ l m n M) (e : l[i]? = some v) : i < m ∧ IsRow σ v n (M i) := by
  have hi : i < m := by rw [← h.1]; exact (List.getElem?_eq_some_iff.mp e).1
  obtain ⟨w, e2, hw⟩ := h.2 i hi
  rw [e] at e2; cases e2
  repeat walk_at "back"
  exact ⟨hi, hw⟩
theorem Rows.congr {σ : St} {l : List PV} {m n : Nat} {M M'} (h : Rows σ l m n M) (e : ∀ i j, i < m → j < n → M i j = M' i j) : Rows σ l m n M' := by
  refine ⟨h.1, fun i hi => ?_⟩
  obtain ⟨v, e1, k, e2, e3⟩ := h.2 i hi
  refine ⟨v, e1, k, e2, ?_⟩
  rw [e3]
  congr 1
  repeat walk_at "back"
  exact rowOf_ext rowOf_len fun j hj => by rw [rowOf_get hj, e i j hi hj]
theorem IsMat.congr {σ : St} {p m n M M'} (h : IsMat σ p m n M) (e : ∀ i j, i < m → j < n → M i j = M' i j) : IsMat σ p m n M' := let ⟨k, l, a, b, c⟩ := h; ⟨k, l, a, b, c.congr e⟩

noncomputable def sm : Nat → (Nat → Rat) → Rat
  | 0, _ => 0
  | k + 1, f => sm k f + f k
theorem Sz.sm {k c : Nat} {f : Nat → Rat} (h : ∀ t, t < k → Sz c (f t)) : Sz (k * (c + 1) + 1) (sm k f) := by
  induction k with
  | zero => exact Sz.zero.mono (by walk_at "om")
  | succ k ih =>
    have h1 := ih fun t ht => h t (by exact fm [_, _] [] [.nlt (.v 0) (.v 1)] (.nlt (.v 0) (.a (.v 1) (.l 1))) [[1, 1]] rfl ht)
    refine (h1.add (h k (by walk_at "om"))).mono ?_
    rw [Nat.succ_mul]; exact fm [_, _] [] [] (.nle (.a (.a (.a (.v 0) (.l 1)) (.v 1)) (.l 1)) (.a (.a (.v 0) (.a (.v 1) (.l 1))) (.l 1))) [[1]] rfl

section
variable {n : Nat} {σ : St} {Q : PV → St → Prop}
theorem q0 : q 0 = .tup [.int 0, .int 1] := rfl
theorem q1 : q 1 = .tup [.int 1, .int 1] := rfl

theorem dot_wp {k : Nat} {v w : PV} {ka kb kg : Nat} {f g : Nat → Rat} (hv : IsRow σ v k f) (hw : IsRow σ w kg g) (hkg : k ≤ kg) (hk : k ≤ 100) (hf : ∀ t, t < k → Sz ka (f t)) (hg : ∀ t, t < k → Sz kb (g t)) (hka : ka ≤ lim) (hkb : kb ≤ lim)
    (hlim : k * (ka + kb + 1) + 1 ≤ lim) (h : Q (q (sm k fun t => f t * g t)) σ) : Wp ((ev (n + 26)).c "dot" [v, w] σ) Q := by
  obtain ⟨i, rfl, hi⟩ := hv
  obtain ⟨j, rfl, hj⟩ := hw
  have hcap : cap = 4000 := rfl
  refine c_call F_dot.2 ?_
  walk_at "py"
  refine for_rule (fun t V σ' => All3 (σ' = σ) (At V "other" (.lst j)) (At V "found" (q (sm t fun t => f t * g t)))) k (by walk_at "om") ⟨rfl, by walk_at "lk", by walk_at "lk"⟩ ?_ ?_
  · rintro t V σ' ht ⟨rfl, h1, h2⟩
    refine ⟨_, _, nx_enm hi (rowOf_get ht), al_two (.inl rfl) (.inl rfl), ?_⟩
    walk_at "gate"
    walk_at "py"
    refine g_lst hj (by walk_at "om") (by walk_at "om") (v := q (g t)) (by simpa using rowOf_get (by exact fm [_, _, _] [] [.nle (.v 0) (.v 1), .nlt (.v 2) (.v 0)] (.nlt (.v 2) (.v 1)) [[1, 1, 1]] rfl hkg ht)) ?_
    walk_at "py"
    refine rmul_wp ((hf t ht).mono hka) ((hg t ht).mono hkb) ?_
    walk_at "py"
    have hsz : Sz (t * (ka + kb + 1) + 1) (sm t fun t => f t * g t) := Sz.sm fun u hu => (hf u (by exact fm [_, _, _] [] [.nlt (.v 0) (.v 1), .nlt (.v 2) (.v 0)] (.nlt (.v 2) (.v 1)) [[1, 1, 1]] rfl ht hu)).mul (hg u (by exact fm [_, _, _] [] [.nlt (.v 0) (.v 1), .nlt (.v 2) (.v 0)] (.nlt (.v 2) (.v 1)) [[1, 1, 1]] rfl ht hu))
    have hle : t * (ka + kb + 1) + (ka + kb + 1) ≤ k * (ka + kb + 1) := by rw [← Nat.succ_mul]; exact Nat.mul_le_mul_right _ ht
    refine radd_wp (hsz.mono (by exact fm [_, _, _, _, _] [] [.nle (.a (.v 0) (.l 1)) (.v 1), .nle (.a (.v 2) (.a (.a (.v 3) (.v 4)) (.l 1))) (.v 0)] (.nle (.a (.v 2) (.l 1)) (.v 1)) [[1, 1, 1]] rfl hlim hle)) (((hf t ht).mul (hg t ht)).mono (by exact fm [_, _, _, _, _] [] [.nle (.a (.v 0) (.l 1)) (.v 1), .nle (.a (.v 2) (.a (.a (.v 3) (.v 4)) (.l 1))) (.v 0)] (.nle (.a (.v 3) (.v 4)) (.v 1)) [[1, 1, 1]] rfl hlim hle)) ?_
    walk_at "py"
    exact ⟨rfl, by walk_at "lk", by walk_at "lk"⟩
  · rintro V σ' ⟨rfl, h1, h2⟩
    refine ⟨nx_enm_none hi (by simp [rowOf_len]), ?_⟩
    repeat walk_at "back"
    walk_at "py"
    exact h
end
end
section

theorem small_of {x : Int} (h0 : 0 ≤ x) (h1 : x ≤ 1000) : smallInt x = true := by unfold smallInt; simp; exact fm [] [_] [.ile (.l 0) (.v 0), .ile (.v 0) (.l 1000)] (.an (.ile (.g (.l 1000000)) (.v 0)) (.ile (.v 0) (.l 1000000))) [[1, 0, 1], [0, 1, 1]] rfl h0 h1

noncomputable def idm : Nat → Nat → Rat := fun i j => if i = j then 1 else 0
noncomputable def tr (M : Nat → Nat → Rat) : Nat → Nat → Rat := fun i j => M j i
noncomputable def madd (A B : Nat → Nat → Rat) : Nat → Nat → Rat := fun i j => A i j + B i j
noncomputable def mmul (k : Nat) (A B : Nat → Nat → Rat) : Nat → Nat → Rat := fun i j => sm k fun t => A i t * B t j

theorem IsMat.lst {σ : St} {p : PV} {m n : Nat} {M : Nat → Nat → Rat} (h : IsMat σ p m n M) : ∃ k l, p = .lst k ∧ σ[k]? = some l ∧ l.length = m := let ⟨k, l, a, b, c⟩ := h; ⟨k, l, a, b, c.1⟩

section
variable {n : Nat} {σ : St} {Q : PV → St → Prop}

theorem shape_wp {p : PV} {m k : Nat} {M : Nat → Nat → Rat} (hM : IsMat σ p m k M) (h0 : m = 0 → k = 0) (hm : m ≤ 1000) (hk : k ≤ 1000) (h : Q (.tup [.int m, .int k]) σ) : Wp ((ev (n + 12)).c "shape" [p] σ) Q := by
  obtain ⟨a, l, rfl, ha, hl⟩ := hM
  have hcap : cap = 4000 := rfl
  have e := hl.1
  refine c_call F_shape.2 ?_
  walk_at "py"
  refine bi_len ha (by walk_at "om") ?_
  walk_at "py"
  refine e_ife ?_
  walk_at "py"
  refine bi_len ha (by walk_at "om") ?_
  walk_at "py"
  rw [e]
  refine ⟨fun hc => ?_, fun hc => ?_⟩
  · have hc : 0 < m := by simpa using hc
    obtain ⟨v, hv, b, rfl, hb⟩ := hl.2 0 hc
    walk_at "py"
    refine g_lst ha (by decide) (by decide) (by simpa using hv) ?_
    walk_at "py"
    refine bi_len hb (by rw [rowOf_len]; exact fm [_, _] [] [.nle (.v 0) (.l 1000), .neq (.v 1) (.l 4000)] (.nle (.v 0) (.v 1)) [[1, 0, 1, 1]] rfl hk hcap) ?_
    walk_at "py"
    rw [rowOf_len]
    repeat walk_at "back"
    exact h
  · have hc : m = 0 := by simpa using hc
    walk_at "py"
    rw [h0 hc] at h
    repeat walk_at "back"
    exact h

theorem need_wp {t : Str} (h : Q .none σ) : Wp ((ev (n + 8)).c "need_shape" [.bool true, .str t] σ) Q := by
  refine c_call F_need_shape.2 ?_
  walk_at "py"
  refine ⟨(fun hc => by cases hc), fun _ => ?_⟩
  walk_at "py"
  exact h
theorem need_wx {t : Str} (ht : t.length ≤ 1000) {Q : St → Prop} (h : Q σ) : Wx ((ev (n + 8)).c "need_shape" [.bool false, .str t] σ) "shape" Q := by
  refine cx_call F_need_shape.2 (sx_start (ssx_here (sx_if ?_)))
  walk_at "py"
  refine sx_start (ssx_here (sx_raise (by with_unfolding_all rfl) ?_ (by decide +kernel)))
  walk_at "py"
  exact ⟨_, rfl, ht, h⟩

theorem unit_wp {m : Nat} (hm : m ≤ 100) (h : ∀ p σ', Le σ σ' → IsMat σ' p m m idm → Q p σ') : Wp ((ev (n + 12)).c "unit_matrix" [.int m] σ) Q := by
  have hcap : cap = 4000 := rfl
  refine c_call F_unit_matrix.2 ?_
  walk_at "py"
  refine bi_range (small_of (by walk_at "om") (by walk_at "om")) ?_
  walk_at "py"
  refine comp_rng (M := m) (fun i x σ' => IsRow σ' x m (idm i)) (fun i x _ _ l hx => hx.le l) rfl (by walk_at "om") (by first | exact .inl rfl | exact .inr rfl) (fun i V' σ₁ hi hle hp => ?_) (fun xs σ₂ hle hlen hxs => ?_)
  · have h1 : At V' "n" (.int m) := hp _ _ rfl (by walk_at "lk")
    walk_at "py"
    refine bi_range (small_of (by walk_at "om") (by walk_at "om")) ?_
    walk_at "py"
    refine comp_rng (M := m) (fun j x σ' => x = q (idm i j)) (fun j x _ _ l hx => hx) rfl (by walk_at "om") (by first | exact .inl rfl | exact .inr rfl) (fun j V₂ σ₂ hj hle₂ hp₂ => ?_) (fun xs σ₂ hle₂ hlen hxs => ?_)
    · have h2 : At V₂ "row" (.int i) := hp₂ _ _ rfl (by walk_at "lk")
      walk_at "py"
      refine e_ife ?_
      walk_at "py"
      refine ⟨fun hc => ?_, fun hc => ?_⟩
      · have hc : i = j := by simp at hc; exact fm [_, _] [] [.ieq (.k (.v 0)) (.k (.v 1))] (.neq (.v 0) (.v 1)) [[1, 0, 1], [0, 1, 1]] rfl hc
        walk_at "py"
        exact ⟨Le.refl _, by unfold idm; rw [if_pos hc]; rfl⟩
      · have hc : ¬ i = j := by simp at hc; exact fm [_, _] [] [.no (.ieq (.k (.v 0)) (.k (.v 1)))] (.no (.neq (.v 0) (.v 1))) [[1, 1], [1, 0, 1]] rfl hc
        walk_at "py"
        exact ⟨Le.refl _, by unfold idm; rw [if_neg hc]; rfl⟩
    · have hr : xs = rowOf m (idm i) := rowOf_ext hlen fun j hj => by obtain ⟨x, e, hx⟩ := hxs j hj; rw [e, hx]
      refine ⟨by walk_at "om", ?_⟩
      intro k σ₃ le₃ new at₃
      repeat walk_at "back"
      exact ⟨hle₂.trans le₃, k, rfl, by rw [at₃, hr]⟩
  · refine ⟨by walk_at "om", ?_⟩
    intro k σ₃ le₃ new at₃
    walk_at "py"
    exact h _ _ (hle.trans le₃) ⟨k, xs, rfl, at₃, hlen, fun i hi => by obtain ⟨x, e, hx⟩ := hxs i hi; exact ⟨x, e, hx.le le₃⟩⟩

theorem copied_wp {p : PV} {m k : Nat} {M : Nat → Nat → Rat} (hM : IsMat σ p m k M) (hm : m ≤ 1000) (hk : k ≤ 1000) (h : ∀ i l σ', Le σ σ' → σ[i]? = none → σ'[i]? = some l → Rows σ' l m k M → Q (.lst i) σ') : Wp ((ev (n + 12)).c "copied" [p] σ) Q := by
  have hcap : cap = 4000 := rfl
  obtain ⟨a, l, rfl, ha, hl⟩ := hM
  have e := hl.1
  refine c_call F_copied.2 ?_
  walk_at "py"
  refine comp_lst (fun i x σ' => IsRow σ' x k (M i)) (fun i x _ _ l hx => hx.le l) ha (by walk_at "om") (by first | exact .inl rfl | exact .inr rfl) (fun i v V' σ₁ hi hle hp => ?_) (fun xs σ₂ hle hlen hxs => ?_)
  · obtain ⟨_, b, rfl, hb⟩ := hl.get hi
    walk_at "py"
    refine bi_list (hle _ _ hb) (by rw [rowOf_len]; exact fm [_, _] [] [.nle (.v 0) (.l 1000), .neq (.v 1) (.l 4000)] (.nle (.v 0) (.v 1)) [[1, 0, 1, 1]] rfl hk hcap) ?_
    intro j σ₃ le₃ new at₃
    repeat walk_at "back"
    exact ⟨le₃, j, rfl, at₃⟩
  · refine ⟨by walk_at "om", ?_⟩
    intro j σ₃ le₃ new at₃
    walk_at "py"
    exact h _ _ _ (hle.trans le₃) (hle.none new) at₃ ⟨by walk_at "om", fun i hi => by obtain ⟨x, e, hx⟩ := hxs i (by walk_at "om"); exact ⟨x, e, hx.le le₃⟩⟩

theorem transposed_wp {p : PV} {m k : Nat} {M : Nat → Nat → Rat} (hM : IsMat σ p m k M) (h0 : m = 0 → k = 0) (hm : m ≤ 100) (hk : k ≤ 100) (h : ∀ p' σ', Le σ σ' → IsMat σ' p' k m (tr M) → Q p' σ') : Wp ((ev (n + 18)).c "transposed" [p] σ) Q := by
  have hcap : cap = 4000 := rfl
  obtain ⟨a, l, rfl, ha, hl⟩ := id hM
  have e := hl.1
  refine c_call F_transposed.2 ?_
  walk_at "py"
  refine shape_wp hM h0 (by walk_at "om") (by walk_at "om") ?_
  walk_at "py"
  refine g_tup (by decide) (by decide) rfl ?_
  walk_at "py"
  refine bi_range (small_of (by walk_at "om") (by walk_at "om")) ?_
  walk_at "py"
  refine comp_rng (M := k) (fun i x σ' => IsRow σ' x m (tr M i)) (fun i x _ _ l hx => hx.le l) rfl (by walk_at "om") (by first | exact .inl rfl | exact .inr rfl) (fun i V' σ₁ hi hle hp => ?_) (fun xs σ₂ hle hlen hxs => ?_)
  · have h1 : At V' "a" (.lst a) := hp _ _ rfl (by walk_at "lk")
    walk_at "py"
    refine comp_lst (fun j x σ' => x = q (M j i)) (fun j x _ _ l hx => hx) (hle _ _ ha) (by walk_at "om") (by first | exact .inl rfl | exact .inr rfl) (fun j v V₂ σ₂ hj hle₂ hp₂ => ?_) (fun xs σ₂ hle₂ hlen hxs => ?_)
    · obtain ⟨_, b, rfl, hb⟩ := hl.get hj
      have h2 : At V₂ "column" (.int i) := hp₂ _ _ rfl (by walk_at "lk")
      walk_at "py"
      refine g_lst (hle₂ _ _ (hle _ _ hb)) (by walk_at "om") (by walk_at "om") (v := q (M j i)) (by simpa using rowOf_get hi) ?_
      repeat walk_at "back"
      exact ⟨Le.refl _, rfl⟩
    · have hr : xs = rowOf m (tr M i) := rowOf_ext (by walk_at "om") fun j hj => by obtain ⟨x, e, hx⟩ := hxs j (by walk_at "om"); rw [e, hx]; rfl
      refine ⟨by walk_at "om", ?_⟩
      intro k σ₃ le₃ new at₃
      repeat walk_at "back"
      exact ⟨hle₂.trans le₃, k, rfl, by rw [at₃, hr]⟩
  · refine ⟨by walk_at "om", ?_⟩
    intro j σ₃ le₃ new at₃
    walk_at "py"
    exact h _ _ (hle.trans le₃) ⟨j, xs, rfl, at₃, hlen, fun i hi => by obtain ⟨x, e, hx⟩ := hxs i hi; exact ⟨x, e, hx.le le₃⟩⟩
end
end
section

noncomputable def rowD (n : Nat) (f : Nat → Rat) : List PyData := (List.range n).map fun j => .tuple [.int (f j).num, .int (f j).den]
noncomputable def rowsD (m n : Nat) (M : Nat → Nat → Rat) : List PyData := (List.range m).map fun i => .list (rowD n (M i))

theorem listD_map {f : PV → Option PyData} : ∀ {l : List PV} {ds : List PyData}, l.length = ds.length → (∀ i, i < l.length → ∃ v d, l[i]? = some v ∧ ds[i]? = some d ∧ f v = some d) → listD f l = some ds
  | [], [], _, _ => rfl
  | [], _ :: _, h, _ => by simp at h
  | _ :: _, [], h, _ => by simp at h
  | v :: l, d :: ds, hl, h => by
    obtain ⟨v', d', e1, e2, e3⟩ := h 0 (by simp)
    cases e1; cases e2
    have ih := listD_map (f := f) (l := l) (ds := ds) (by simpa using hl) fun i hi => by
      obtain ⟨v', d', e1, e2, e4⟩ := h (i + 1) (by simpa using hi)
      repeat walk_at "back"
      exact ⟨v', d', by simpa using e1, by simpa using e2, e4⟩
    exact listD_cons e3 ih

theorem toD_row {σ : St} {v : PV} {n k : Nat} {f : Nat → Rat} (h : IsRow σ v n f) : toD σ (k + 2) v = some (.list (rowD n f)) := by
  obtain ⟨i, rfl, hi⟩ := h
  show (match σ[i]? with | some l => (listD (toD σ (k + 1)) l).map PyData.list | none => none) = _
  rw [hi]
  show (listD (toD σ (k + 1)) (rowOf n f)).map PyData.list = _
  rw [listD_map (ds := rowD n f) (by simp [rowOf, rowD]) fun j hj => ?_]
  · rfl
  · rw [rowOf_len] at hj
    refine ⟨_, .tuple [.int (f j).num, .int (f j).den], rowOf_get hj, by simp [rowD, hj], ?_⟩
    cases k <;> rfl
theorem toD_mat {σ : St} {p : PV} {m n k : Nat} {M : Nat → Nat → Rat} (h : IsMat σ p m n M) : toD σ (k + 3) p = some (.list (rowsD m n M)) := by
  obtain ⟨i, l, rfl, hi, hr⟩ := h
  show (match σ[i]? with | some l => (listD (toD σ (k + 2)) l).map PyData.list | none => none) = _
  rw [hi]
  show (listD (toD σ (k + 2)) l).map PyData.list = _
  rw [listD_map (ds := rowsD m n M) (by simp [rowsD, hr.1]) fun j hj => ?_]
  · rfl
  · rw [hr.1] at hj
    obtain ⟨v, e, hv⟩ := hr.2 j hj
    repeat walk_at "back"
    exact ⟨v, .list (rowD n (M j)), e, by simp [rowsD, hj], toD_row hv⟩

theorem eqvAll_map {α : Type} {f g : α → PyData} : ∀ {l : List α}, (∀ x ∈ l, PyData.eqv (f x) (g x) = true) → PyData.eqvAll (l.map f) (l.map g) = true
  | [], _ => by simp [PyData.eqvAll]
  | x :: l, h => by
    simp only [List.map_cons, PyData.eqvAll, Bool.and_eq_true]
    repeat walk_at "back"
    exact ⟨h x (.head _), eqvAll_map fun y hy => h y (.tail _ hy)⟩
theorem eqv_row {n : Nat} {f : Nat → Rat} : PyData.eqv (.list (rowD n f)) (.list (rowD n f)) = true := by
  simp only [PyData.eqv]
  repeat walk_at "back"
  exact eqvAll_map fun j _ => by simp [PyData.eqv, PyData.eqvAll]
theorem eqv_rows {m n : Nat} {M : Nat → Nat → Rat} : PyData.eqv (.list (rowsD m n M)) (.list (rowsD m n M)) = true := by
  simp only [PyData.eqv]
  repeat walk_at "back"
  exact eqvAll_map fun j _ => eqv_row

theorem pyEq_of {σ : St} {a b : PV} {x y : PyData} (ha : toD σ 8 a = some x) (hb : toD σ 8 b = some y) : pyEq σ a b = some (PyData.eqv x y) := by
  unfold pyEq; rw [ha, hb]
theorem cmp_mat {σ : St} {a b : PV} {m n : Nat} {A B : Nat → Nat → Rat} (ha : IsMat σ a m n A) (hb : IsMat σ b m n B) (e : ∀ i j, i < m → j < n → A i j = B i j) : cmp .NotEq a b σ = some false ∧ cmp .Eq a b σ = some true := by
  have hb' : IsMat σ b m n A := hb.congr fun i j hi hj => (e i j hi hj).symm
  have h := pyEq_of (toD_mat (k := 5) ha) (toD_mat (k := 5) hb')
  rw [eqv_rows] at h
  obtain ⟨i, l, rfl, _⟩ := ha
  obtain ⟨j, l', rfl, _⟩ := hb
  constructor
  · show (pyEq σ (.lst i) (.lst j)).map (!·) = _; rw [h]; rfl
  · show pyEq σ (.lst i) (.lst j) = _; rw [h]
theorem cmp_mat_str {σ : St} {a : PV} {m n : Nat} {A : Nat → Nat → Rat} {x : Str} (ha : IsMat σ a m n A) (hx : PyData.strOk x = true) : cmp .Eq a (.str x) σ = some false := by
  have h := pyEq_of (b := .str x) (y := .str x) (toD_mat (k := 5) ha) (by show (if PyData.strOk x then some (PyData.str x) else none) = _; rw [if_pos hx])
  obtain ⟨i, l, rfl, _⟩ := ha
  show pyEq σ (.lst i) (.str x) = _
  rw [h]; simp [PyData.eqv]
theorem cmp_mat_nil {σ : St} {a : PV} {m n i : Nat} {A : Nat → Nat → Rat} (ha : IsMat σ a m n A) (hi : σ[i]? = some []) : cmp .NotEq a (.lst i) σ = some (!(m == 0)) := by
  have hb : toD σ 8 (.lst i) = some (.list []) := by
    show (match σ[i]? with | some l => (listD (toD σ 7) l).map PyData.list | none => none) = _
    rw [hi]; rfl
  have h := pyEq_of (toD_mat (k := 5) ha) hb
  obtain ⟨j, l, rfl, _⟩ := ha
  show (pyEq σ (.lst j) (.lst i)).map (!·) = _
  rw [h]
  cases m with
  | zero => simp [rowsD, PyData.eqv, PyData.eqvAll]
  | succ m =>
    obtain ⟨d, ds, e⟩ : ∃ d ds, rowsD (m + 1) n A = d :: ds := by
      cases q : rowsD (m + 1) n A with
      | nil => have := congrArg List.length q; simp [rowsD] at this
      | cons d ds => exact ⟨d, ds, rfl⟩
    rw [e]
    simp [PyData.eqv, PyData.eqvAll]
theorem cmp_pair {σ : St} {a b c d : Int} : cmp .Eq (.tup [.int a, .int b]) (.tup [.int c, .int d]) σ = some (a == c && b == d) := by
  have h : pyEq σ (.tup [.int a, .int b]) (.tup [.int c, .int d]) = some (PyData.eqv (.tuple [.int a, .int b]) (.tuple [.int c, .int d])) := pyEq_of rfl rfl
  show pyEq σ (.tup [.int a, .int b]) (.tup [.int c, .int d]) = _
  rw [h]; simp [PyData.eqv, PyData.eqvAll]
theorem cmp_pair_ne {σ : St} {a b c d : Int} : cmp .NotEq (.tup [.int a, .int b]) (.tup [.int c, .int d]) σ = some (!(a == c && b == d)) := by
  have h : pyEq σ (.tup [.int a, .int b]) (.tup [.int c, .int d]) = some (PyData.eqv (.tuple [.int a, .int b]) (.tuple [.int c, .int d])) := pyEq_of rfl rfl
  show (pyEq σ (.tup [.int a, .int b]) (.tup [.int c, .int d])).map (!·) = _
  rw [h]; simp [PyData.eqv, PyData.eqvAll]
theorem q_inj {x y : Rat} : (x.num == y.num && (x.den : Int) == (y.den : Int)) = decide (x = y) := by
  by_cases h : x = y
  · subst h; simp
  · rw [decide_eq_false h]
    cases q1 : x.num == y.num with
    | false => rfl
    | true =>
      cases q2 : (x.den : Int) == (y.den : Int) with
      | false => rfl
      | true => exact absurd (Rat.ext (beq_iff_eq.mp q1) (by have := beq_iff_eq.mp q2; exact fm [_, _] [] [.ieq (.k (.v 0)) (.k (.v 1))] (.neq (.v 0) (.v 1)) [[1, 0, 1], [0, 1, 1]] rfl this)) h
theorem cmp_q_ne {σ : St} {x y : Rat} : cmp .NotEq (q x) (q y) σ = some (!decide (x = y)) := by unfold q; rw [cmp_pair_ne, q_inj]
theorem cmp_q {σ : St} {x y : Rat} : cmp .Eq (q x) (q y) σ = some (decide (x = y)) := by unfold q; rw [cmp_pair, q_inj]

section
variable {n : Nat} {σ : St} {Q : PV → St → Prop}

theorem mat_add_wp {p p' : PV} {m k ka kb : Nat} {A B : Nat → Nat → Rat} (hA : IsMat σ p m k A) (hB : IsMat σ p' m k B) (h0 : m = 0 → k = 0) (hm : m ≤ 100) (hk : k ≤ 100) (sa : ∀ i j, i < m → j < k → Sz ka (A i j)) (sb : ∀ i j, i < m → j < k → Sz kb (B i j))
    (la : ka ≤ lim) (lb : kb ≤ lim) (h : ∀ r σ', Le σ σ' → IsMat σ' r m k (madd A B) → Q r σ') : Wp ((ev (n + 30)).c "mat_add" [p, p'] σ) Q := by
  have hcap : cap = 4000 := rfl
  obtain ⟨a, l, rfl, ha, hl⟩ := id hA
  obtain ⟨b, l', rfl, hb, hl'⟩ := id hB
  have e := hl.1
  have e' := hl'.1
  refine c_call F_mat_add.2 ?_
  walk_at "py"
  refine shape_wp hA h0 (by walk_at "om") (by walk_at "om") ?_
  walk_at "py"
  refine shape_wp hB h0 (by walk_at "om") (by walk_at "om") ?_
  refine ⟨_, cmp_pair, ?_⟩
  walk_at "py"
  have et : (((m : Int) == (m : Int)) && ((k : Int) == (k : Int))) = true := by simp
  rw [et]
  refine need_wp ?_
  walk_at "py"
  refine comp_enm (fun i x σ' => IsRow σ' x k (madd A B i)) (fun i x _ _ l hx => hx.le l) ha (by walk_at "om") (by first | exact .inl rfl | exact .inr rfl) (by first | exact .inl rfl | exact .inr rfl) (fun i v V' σ₁ hi hle hp => ?_) (fun xs σ₂ hle hlen hxs => ?_)
  · obtain ⟨hi', c, rfl, hc⟩ := hl.get hi
    have h1 : At V' "b" (.lst b) := hp _ _ rfl (by walk_at "lk")
    walk_at "py"
    refine comp_enm (fun j x σ' => x = q (madd A B i j)) (fun j x _ _ l hx => hx) (hle _ _ hc) (by rw [rowOf_len]; exact fm [_, _] [] [.nle (.v 0) (.l 100), .neq (.v 1) (.l 4000)] (.nlt (.v 0) (.v 1)) [[1, 0, 1, 1]] rfl hk hcap) (by first | exact .inl rfl | exact .inr rfl) (by first | exact .inl rfl | exact .inr rfl) (fun j v V₂ σ₂ hj hle₂ hp₂ => ?_) (fun xs σ₂ hle₂ hlen hxs => ?_)
    · have hjk : j < k := by have := (List.getElem?_eq_some_iff.mp hj).1; rwa [rowOf_len] at this
      rw [rowOf_get hjk] at hj
      cases hj
      have h2 : At V₂ "row" (.int i) := hp₂ _ _ rfl (by walk_at "lk")
      have h3 : At V₂ "b" (.lst b) := hp₂ _ _ rfl (by walk_at "lk")
      obtain ⟨w, hw, d, rfl, hd⟩ := hl'.2 i hi'
      walk_at "py"
      refine g_lst (hle₂ _ _ (hle _ _ hb)) (by walk_at "om") (by walk_at "om") (by simpa using hw) ?_
      walk_at "py"
      refine g_lst (hle₂ _ _ (hle _ _ hd)) (by walk_at "om") (by walk_at "om") (v := q (B i j)) (by simpa using rowOf_get hjk) ?_
      walk_at "py"
      refine radd_wp ((sa i j hi' hjk).mono la) ((sb i j hi' hjk).mono lb) ?_
      repeat walk_at "back"
      exact ⟨Le.refl _, rfl⟩
    · rw [rowOf_len] at hlen hxs
      have hr : xs = rowOf k (madd A B i) := rowOf_ext hlen fun j hj => by obtain ⟨x, e, hx⟩ := hxs j hj; rw [e, hx]
      refine ⟨by walk_at "om", ?_⟩
      intro k σ₃ le₃ new at₃
      repeat walk_at "back"
      exact ⟨hle₂.trans le₃, k, rfl, by rw [at₃, hr]⟩
  · refine ⟨by walk_at "om", ?_⟩
    intro j σ₃ le₃ new at₃
    walk_at "py"
    exact h _ _ (hle.trans le₃) ⟨j, xs, rfl, at₃, by walk_at "om", fun i hi => by obtain ⟨x, e, hx⟩ := hxs i (by walk_at "om"); exact ⟨x, e, hx.le le₃⟩⟩
theorem mat_add_wx {p p' : PV} {m k m' k' : Nat} {A B : Nat → Nat → Rat} (hA : IsMat σ p m k A) (hB : IsMat σ p' m' k' B) (h0 : m = 0 → k = 0) (h0' : m' = 0 → k' = 0) (hm : m ≤ 100) (hk : k ≤ 100) (hm' : m' ≤ 100) (hk' : k' ≤ 100) (hne : ¬ (m = m' ∧ k = k')) {Q : St → Prop} (h : Q σ) :
    Wx ((ev (n + 30)).c "mat_add" [p, p'] σ) "shape" Q := by
  refine cx_call F_mat_add.2 (sx_start (ssx_here (sx_expr (ex_call ?_ (by with_unfolding_all rfl) (by with_unfolding_all rfl) (by with_unfolding_all rfl)))))
  walk_at "py"
  refine shape_wp hA h0 (by walk_at "om") (by walk_at "om") ?_
  walk_at "py"
  refine shape_wp hB h0' (by walk_at "om") (by walk_at "om") ?_
  refine ⟨_, cmp_pair, ?_⟩
  walk_at "py"
  have et : (((m : Int) == (m' : Int)) && ((k : Int) == (k' : Int))) = false := by
    rw [Bool.and_eq_false_iff]
    by_cases hmm : m = m'
    · right; simp; exact fm [_, _, _, _] [] [.no (.an (.neq (.v 0) (.v 1)) (.neq (.v 2) (.v 3))), .neq (.v 0) (.v 1)] (.no (.ieq (.k (.v 2)) (.k (.v 3)))) [[1, 1], [1, 0, 1], [1, 0, 0, 1], [1, 0, 0, 0, 1]] rfl hne hmm
    · left; simp; exact fm [_, _] [] [.no (.neq (.v 0) (.v 1))] (.no (.ieq (.k (.v 0)) (.k (.v 1)))) [[1, 1], [1, 0, 1]] rfl hmm
  rw [et]
  repeat walk_at "back"
  exact need_wx (by decide +kernel) h

theorem mat_mul_wp {p p' : PV} {m k t ka kb : Nat} {A B : Nat → Nat → Rat} (hA : IsMat σ p m k A) (hB : IsMat σ p' k t B) (h0 : m = 0 → k = 0) (h0' : k = 0 → t = 0) (hm : m ≤ 100) (hk : k ≤ 100) (ht : t ≤ 100) (sa : ∀ i j, i < m → j < k → Sz ka (A i j)) (sb : ∀ i j, i < k → j < t → Sz kb (B i j))
    (la : ka ≤ lim) (lb : kb ≤ lim) (hlim : k * (ka + kb + 1) + 1 ≤ lim) (h : ∀ r σ', Le σ σ' → IsMat σ' r m t (mmul k A B) → Q r σ') : Wp ((ev (n + 40)).c "mat_mul" [p, p'] σ) Q := by
  have hcap : cap = 4000 := rfl
  obtain ⟨a, l, rfl, ha, hl⟩ := id hA
  obtain ⟨b, l', rfl, hb, hl'⟩ := id hB
  have e := hl.1
  have e' := hl'.1
  refine c_call F_mat_mul.2 ?_
  walk_at "py"
  refine shape_wp hA h0 (by walk_at "om") (by walk_at "om") ?_
  walk_at "py"
  refine g_tup (by decide) (by decide) rfl ?_
  walk_at "py"
  refine bi_len hb (by walk_at "om") ?_
  walk_at "py"
  rw [e', show ((k : Int) == (k : Int)) = true by simp]
  refine need_wp ?_
  walk_at "py"
  refine transposed_wp hB h0' (by walk_at "om") (by walk_at "om") fun pc σ₁ le₁ hC => ?_
  obtain ⟨c, lc, rfl, hc, hlc⟩ := hC
  have ec := hlc.1
  walk_at "py"
  refine comp_lst (fun i x σ' => IsRow σ' x t (mmul k A B i)) (fun i x _ _ l hx => hx.le l) (le₁ _ _ ha) (by walk_at "om") (by first | exact .inl rfl | exact .inr rfl) (fun i v V' σ₂ hi hle hp => ?_) (fun xs σ₂ hle hlen hxs => ?_)
  · obtain ⟨hi', hv⟩ := hl.get hi
    have h1 : At V' "columns" (.lst c) := hp _ _ rfl (by walk_at "lk")
    walk_at "py"
    refine comp_lst (fun j x σ' => x = q (mmul k A B i j)) (fun j x _ _ l hx => hx) (hle _ _ hc) (by walk_at "om") (by first | exact .inl rfl | exact .inr rfl) (fun j w V₂ σ₃ hj hle₂ hp₂ => ?_) (fun xs σ₃ hle₂ hlen hxs => ?_)
    · obtain ⟨hj', hw⟩ := hlc.get hj
      have h2 : At V₂ "row" v := hp₂ _ _ rfl (by walk_at "lk")
      walk_at "py"
      refine dot_wp (ka := ka) (kb := kb) (hv.le (le₁.trans (hle.trans hle₂))) (hw.le (hle.trans hle₂)) (Nat.le_refl _) (by walk_at "om") (fun u hu => sa i u hi' hu) (fun u hu => sb u j hu hj') la lb hlim ?_
      repeat walk_at "back"
      exact ⟨Le.refl _, rfl⟩
    · have hr : xs = rowOf t (mmul k A B i) := rowOf_ext (by walk_at "om") fun j hj => by obtain ⟨x, e, hx⟩ := hxs j (by walk_at "om"); rw [e, hx]
      refine ⟨by walk_at "om", ?_⟩
      intro k σ₃ le₃ new at₃
      repeat walk_at "back"
      exact ⟨hle₂.trans le₃, k, rfl, by rw [at₃, hr]⟩
  · refine ⟨by walk_at "om", ?_⟩
    intro j σ₃ le₃ new at₃
    walk_at "py"
    exact h _ _ (le₁.trans (hle.trans le₃)) ⟨j, xs, rfl, at₃, by walk_at "om", fun i hi => by obtain ⟨x, e, hx⟩ := hxs i (by walk_at "om"); exact ⟨x, e, hx.le le₃⟩⟩
theorem mat_mul_wx {p p' : PV} {m k m' k' : Nat} {A B : Nat → Nat → Rat} (hA : IsMat σ p m k A) (hB : IsMat σ p' m' k' B) (h0 : m = 0 → k = 0) (hm : m ≤ 100) (hk : k ≤ 100) (hm' : m' ≤ 100) (hne : k ≠ m') {Q : St → Prop} (h : Q σ) : Wx ((ev (n + 40)).c "mat_mul" [p, p'] σ) "shape" Q := by
  have hcap : cap = 4000 := rfl
  obtain ⟨b, l', rfl, hb, hl'⟩ := id hB
  have e' := hl'.1
  refine cx_call F_mat_mul.2 (sx_start (ssx_here (sx_expr (ex_call ?_ (by with_unfolding_all rfl) (by with_unfolding_all rfl) (by with_unfolding_all rfl)))))
  walk_at "py"
  refine shape_wp hA h0 (by walk_at "om") (by walk_at "om") ?_
  walk_at "py"
  refine g_tup (by decide) (by decide) rfl ?_
  walk_at "py"
  refine bi_len hb (by walk_at "om") ?_
  walk_at "py"
  rw [e', show ((k : Int) == (m' : Int)) = false by simp; exact fm [_, _] [] [.no (.neq (.v 0) (.v 1))] (.no (.ieq (.k (.v 0)) (.k (.v 1)))) [[1, 1], [1, 0, 1]] rfl hne]
  repeat walk_at "back"
  exact need_wx (by decide +kernel) h

noncomputable def trc (m : Nat) (A : Nat → Nat → Rat) : Rat := sm m fun t => A t t

theorem trace_wp {p : PV} {m ka : Nat} {A : Nat → Nat → Rat} (hA : IsMat σ p m m A) (hm : m ≤ 100) (sa : ∀ i j, i < m → j < m → Sz ka (A i j)) (la : ka ≤ lim) (hlim : m * (ka + 1) + 1 ≤ lim) (h : Q (q (trc m A)) σ) : Wp ((ev (n + 26)).c "trace" [p] σ) Q := by
  have hcap : cap = 4000 := rfl
  obtain ⟨a, l, rfl, ha, hl⟩ := id hA
  have e := hl.1
  refine c_call F_trace.2 ?_
  walk_at "py"
  refine bi_len ha (by walk_at "om") ?_
  walk_at "py"
  refine bi_range (small_of (by walk_at "om") (by walk_at "om")) ?_
  walk_at "py"
  refine for_rule (fun t V σ' => All3 (σ' = σ) (At V "a" (.lst a)) (At V "found" (q (sm t fun t => A t t)))) m (by walk_at "om") ⟨rfl, by walk_at "lk", by walk_at "lk"⟩ ?_ ?_
  · rintro t V σ' ht ⟨rfl, h1, h2⟩
    refine ⟨_, _, nx_rng (by walk_at "om"), al_name (.inl rfl), ?_⟩
    walk_at "gate"
    obtain ⟨v, hv, b, rfl, hb⟩ := hl.2 t ht
    walk_at "py"
    refine g_lst ha (by walk_at "om") (by walk_at "om") (v := .lst b) (by simpa using hv) ?_
    walk_at "py"
    refine g_lst hb (by walk_at "om") (by walk_at "om") (v := q (A t t)) (by simpa using rowOf_get ht) ?_
    walk_at "py"
    have hsz : Sz (t * (ka + 1) + 1) (sm t fun t => A t t) := Sz.sm fun u hu => sa u u (by exact fm [_, _, _] [] [.nlt (.v 0) (.v 1), .nlt (.v 2) (.v 0)] (.nlt (.v 2) (.v 1)) [[1, 1, 1]] rfl ht hu) (by exact fm [_, _, _] [] [.nlt (.v 0) (.v 1), .nlt (.v 2) (.v 0)] (.nlt (.v 2) (.v 1)) [[1, 1, 1]] rfl ht hu)
    have hle : t * (ka + 1) + (ka + 1) ≤ m * (ka + 1) := by rw [← Nat.succ_mul]; exact Nat.mul_le_mul_right _ ht
    refine radd_wp (hsz.mono (by exact fm [_, _, _, _] [] [.nle (.a (.v 0) (.l 1)) (.v 1), .nle (.a (.v 2) (.a (.v 3) (.l 1))) (.v 0)] (.nle (.a (.v 2) (.l 1)) (.v 1)) [[1, 1, 1]] rfl hlim hle)) ((sa t t ht ht).mono la) ?_
    walk_at "py"
    exact ⟨rfl, by walk_at "lk", by walk_at "lk"⟩
  · rintro V σ' ⟨rfl, h1, h2⟩
    refine ⟨nx_rng_none (by walk_at "om"), ?_⟩
    repeat walk_at "back"
    walk_at "py"
    exact h
end
end
section

theorem rowOf_succ {u : Nat} {f : Nat → Rat} : rowOf u f ++ [q (f u)] = rowOf (u + 1) f := by
  unfold rowOf; rw [List.range_succ, List.map_append]; rfl
theorem set_at {σ : St} {i : Nat} {l x : List PV} (h : σ[i]? = some l) : (σ.set i x)[i]? = some x := by
  rw [List.getElem?_set_self (List.getElem?_eq_some_iff.mp h).1]
theorem set_ne {σ : St} {i j : Nat} {l x : List PV} (hij : j ≠ i) (h : σ[j]? = some l) : (σ.set i x)[j]? = some l := by
  rw [List.getElem?_set_ne (Ne.symm hij)]; exact h
theorem ne_of_new {σ : St} {i j : Nat} {l : List PV} (h : σ[i]? = none) (hj : σ[j]? = some l) : i ≠ j := fun e => by rw [e, hj] at h; cases h

inductive RowFI (f : Nat) (σ : St) (l : List PV) (i : Nat) (r : List PV) : Prop
  | mk c (c1 : l[i]? = some (.lst c)) (c2 : c ≠ f) (c3 : σ[c]? = some r) : RowFI f σ l i r
noncomputable def RowsF (f : Nat) (σ : St) (l : List PV) (m n : Nat) (M : Nat → Nat → Rat) : Prop := l.length = m ∧ ∀ i, i < m → RowFI f σ l i (rowOf n (M i))
theorem RowsF.rows {f σ l m n M} (h : RowsF f σ l m n M) : Rows σ l m n M := ⟨h.1, fun i hi => let ⟨c, e, _, hc⟩ := h.2 i hi; ⟨_, e, c, rfl, hc⟩⟩
theorem Rows.apart {σ σ' : St} {l m n M f} (h : Rows σ l m n M) (hf : σ[f]? = none) (le : Le σ σ') : RowsF f σ' l m n M := ⟨h.1, fun i hi => by
  obtain ⟨v, e, c, rfl, hc⟩ := h.2 i hi
  repeat walk_at "back"
  exact ⟨c, e, (ne_of_new hf hc).symm, le _ _ hc⟩⟩
theorem RowsF.le {f σ σ' l m n M} (h : RowsF f σ l m n M) (le : Le σ σ') : RowsF f σ' l m n M := ⟨h.1, fun i hi => let ⟨c, e, a, hc⟩ := h.2 i hi; ⟨c, e, a, le _ _ hc⟩⟩

section
variable {n : Nat} {σ : St} {Q : PV → St → Prop}

theorem product_wp {p p' : PV} {m k t ka kb : Nat} {A B : Nat → Nat → Rat} (hA : IsMat σ p m k A) (hB : IsMat σ p' k t B) (h0 : k = 0 → t = 0) (hm : m ≤ 100) (hk : k ≤ 100) (ht : t ≤ 100) (sa : ∀ i j, i < m → j < k → Sz ka (A i j)) (sb : ∀ i j, i < k → j < t → Sz kb (B i j))
    (la : ka ≤ lim) (lb : kb ≤ lim) (hlim : k * (ka + kb + 1) + 1 ≤ lim) (h : ∀ r σ', Le σ σ' → IsMat σ' r m t (mmul k A B) → Q r σ') : Wp ((ev (n + 40)).c "_law_product" [p, p'] σ) Q := by
  have hcap : cap = 4000 := rfl
  obtain ⟨a, l, rfl, ha, hl⟩ := id hA
  obtain ⟨b, l', rfl, hb, hl'⟩ := id hB
  have e := hl.1
  have e' := hl'.1
  refine c_call F_law_product.2 ?_
  walk_at "py"
  intro f σ₀ le₀ newf atf
  walk_at "py"
  refine for_rule (fun s V σ' => All4 (At V "other" (.lst b)) (At V "found" (.lst f)) (Le σ σ') (∃ r, σ'[f]? = some r ∧ RowsF f σ' r s t (mmul k A B))) m (by walk_at "om") ⟨by walk_at "lk", by walk_at "lk", le₀, [], atf, rfl, fun i hi => by exact False.elim (fm [_] [] [.nlt (.v 0) (.l 0)] .f [[1]] rfl hi)⟩ ?_ ?_
  · rintro s V σ' hs ⟨h1, h2, hle, r, hr, hrows⟩
    obtain ⟨v, hv, c, rfl, hc⟩ := hl.2 s hs
    refine ⟨.lst c, _, by rw [nx_lst (hle _ _ ha)]; exact hv, al_name (.inl rfl), ?_⟩
    walk_at "gate"
    walk_at "py"
    intro ri σ₁ le₁ newr atr
    have hrf : ri ≠ f := ne_of_new newr hr
    walk_at "py"
    refine Wp.mono (Q := fun w σ₂ => w = .int t ∧ Le σ₁ σ₂) (e_ife ?_) ?_
    · walk_at "py"
      intro ei σ₂ le₂ newe ate
      refine ⟨_, cmp_mat_nil (hB.le (hle.trans (le₁.trans le₂))) ate, ?_⟩
      repeat walk_at "back"
      refine ⟨fun hc => ?_, fun hc => ?_⟩
      · have hc : 0 < k := by simp at hc; exact fm [_] [] [.no (.neq (.v 0) (.l 0))] (.nlt (.l 0) (.v 0)) [[1, 1], [1]] rfl hc
        obtain ⟨w, hw, d, rfl, hd⟩ := hl'.2 0 hc
        walk_at "py"
        refine g_lst (le₂ _ _ (le₁ _ _ (hle _ _ hb))) (by decide) (by decide) (by simpa using hw) ?_
        walk_at "py"
        refine bi_len (le₂ _ _ (le₁ _ _ (hle _ _ hd))) (by rw [rowOf_len]; exact fm [_, _] [] [.nle (.v 0) (.l 100), .neq (.v 1) (.l 4000)] (.nle (.v 0) (.v 1)) [[1, 0, 1, 1]] rfl ht hcap) ?_
        rw [rowOf_len]
        repeat walk_at "back"
        exact ⟨rfl, le₂⟩
      · have hc : k = 0 := by simp at hc; exact fm [_] [] [.neq (.v 0) (.l 0)] (.neq (.v 0) (.l 0)) [[1, 0, 1], [0, 0, 1]] rfl hc
        walk_at "py"
        rw [h0 hc]
        repeat walk_at "back"
        exact ⟨rfl, le₂⟩
    · rintro w σ₂ ⟨rfl, le₂⟩
      walk_at "py"
      refine bi_range (small_of (by walk_at "om") (by walk_at "om")) ?_
      walk_at "py"
      refine for_rule (fun u V σ'' => All6 (At V "other" (.lst b)) (At V "found" (.lst f)) (At V "line" (.lst c)) (At V "row" (.lst ri)) (Le σ' σ'') (σ''[ri]? = some (rowOf u (mmul k A B s)))) t (by walk_at "om") ⟨by walk_at "lk", by walk_at "lk", by walk_at "lk", by walk_at "lk", le₁.trans le₂, le₂ _ _ atr⟩ ?_ ?_
      · rintro u V σ'' hu ⟨g1, g2, g3, g4, hle'', hri⟩
        refine ⟨_, _, nx_rng (by walk_at "om"), al_name (.inl rfl), ?_⟩
        walk_at "gate"
        walk_at "py"
        refine for_rule (fun x V σ₃ => All7 (σ₃ = σ'') (At V "other" (.lst b)) (At V "found" (.lst f)) (At V "line" (.lst c)) (At V "row" (.lst ri)) (At V "spot" (.int u)) (At V "worth" (q (sm x fun x => A s x * B x u)))) k (by walk_at "om") ⟨rfl, by walk_at "lk", by walk_at "lk", by walk_at "lk", by walk_at "lk", by rw [show (0 : Int) + (u : Int) = u by walk_at "om"]; walk_at "lk", by walk_at "lk"⟩ ?_ ?_
        · rintro x V σ₃ hx ⟨rfl, j1, j2, j3, j4, j5, j6⟩
          refine ⟨_, _, nx_enm (hle'' _ _ (hle _ _ hc)) (rowOf_get hx), al_two (.inl rfl) (.inl rfl), ?_⟩
          walk_at "gate"
          obtain ⟨w, hw, d, rfl, hd⟩ := hl'.2 x hx
          walk_at "py"
          refine g_lst (hle'' _ _ (hle _ _ hb)) (by walk_at "om") (by walk_at "om") (by simpa using hw) ?_
          walk_at "py"
          refine g_lst (hle'' _ _ (hle _ _ hd)) (by walk_at "om") (by walk_at "om") (v := q (B x u)) (by simpa using rowOf_get hu) ?_
          walk_at "py"
          refine rmul_wp ((sa s x hs hx).mono la) ((sb x u hx hu).mono lb) ?_
          walk_at "py"
          have hsz : Sz (x * (ka + kb + 1) + 1) (sm x fun x => A s x * B x u) := Sz.sm fun y hy => (sa s y hs (by exact fm [_, _, _] [] [.nlt (.v 0) (.v 1), .nlt (.v 2) (.v 0)] (.nlt (.v 2) (.v 1)) [[1, 1, 1]] rfl hx hy)).mul (sb y u (by exact fm [_, _, _] [] [.nlt (.v 0) (.v 1), .nlt (.v 2) (.v 0)] (.nlt (.v 2) (.v 1)) [[1, 1, 1]] rfl hx hy) hu)
          have hle : x * (ka + kb + 1) + (ka + kb + 1) ≤ k * (ka + kb + 1) := by rw [← Nat.succ_mul]; exact Nat.mul_le_mul_right _ hx
          refine radd_wp (hsz.mono (by exact fm [_, _, _, _, _] [] [.nle (.a (.v 0) (.l 1)) (.v 1), .nle (.a (.v 2) (.a (.a (.v 3) (.v 4)) (.l 1))) (.v 0)] (.nle (.a (.v 2) (.l 1)) (.v 1)) [[1, 1, 1]] rfl hlim hle)) (((sa s x hs hx).mul (sb x u hx hu)).mono (by exact fm [_, _, _, _, _] [] [.nle (.a (.v 0) (.l 1)) (.v 1), .nle (.a (.v 2) (.a (.a (.v 3) (.v 4)) (.l 1))) (.v 0)] (.nle (.a (.v 3) (.v 4)) (.v 1)) [[1, 1, 1]] rfl hlim hle)) ?_
          walk_at "py"
          exact ⟨rfl, by walk_at "lk", by walk_at "lk", by walk_at "lk", by walk_at "lk", by walk_at "lk", by walk_at "lk"⟩
        · rintro V σ₃ ⟨rfl, j1, j2, j3, j4, j5, j6⟩
          refine ⟨nx_enm_none (hle'' _ _ (hle _ _ hc)) (by simp [rowOf_len]), ?_⟩
          repeat walk_at "back"
          walk_at "py"
          refine ⟨ri, _, rfl, hri, by rw [rowOf_len]; exact fm [_, _, _] [] [.nle (.v 0) (.l 100), .neq (.v 1) (.l 4000), .nlt (.v 2) (.v 0)] (.nlt (.v 2) (.v 1)) [[1, 0, 1, 1, 1]] rfl ht hcap hu, ?_⟩
          walk_at "py"
          refine ⟨by walk_at "lk", by walk_at "lk", by walk_at "lk", by walk_at "lk", hle''.set newr _, ?_⟩
          rw [set_at hri, ← rowOf_succ]
          rfl
      · rintro V σ'' ⟨g1, g2, g3, g4, hle'', hri⟩
        refine ⟨nx_rng_none (by walk_at "om"), ?_⟩
        repeat walk_at "back"
        walk_at "py"
        refine ⟨f, r, rfl, hle'' _ _ hr, by rw [hrows.1]; exact fm [_, _, _] [] [.nle (.v 0) (.l 100), .neq (.v 1) (.l 4000), .nlt (.v 2) (.v 0)] (.nlt (.v 2) (.v 1)) [[1, 0, 1, 1, 1]] rfl hm hcap hs, ?_⟩
        walk_at "py"
        refine ⟨by walk_at "lk", by walk_at "lk", (hle.trans hle'').set newf _, _, set_at (hle'' _ _ hr), by simp [hrows.1], fun i hi => ?_⟩
        by_cases his : i = s
        · subst his
          repeat walk_at "back"
          exact ⟨ri, by rw [List.getElem?_append_right (by rw [hrows.1]; exact fm [_] [] [] (.nle (.v 0) (.v 0)) [[1]] rfl), hrows.1]; simp, hrf, set_ne hrf hri⟩
        · obtain ⟨x, hx, hxf, hxr⟩ := hrows.2 i (by exact fm [_, _] [] [.nlt (.v 0) (.a (.v 1) (.l 1)), .no (.neq (.v 0) (.v 1))] (.nlt (.v 0) (.v 1)) [[1, 1], [0, 1, 1]] rfl hi his)
          repeat walk_at "back"
          exact ⟨x, by rw [List.getElem?_append_left (by rw [hrows.1]; exact fm [_, _] [] [.nlt (.v 0) (.a (.v 1) (.l 1)), .no (.neq (.v 0) (.v 1))] (.nlt (.v 0) (.v 1)) [[1, 1], [0, 1, 1]] rfl hi his)]; exact hx, hxf, set_ne hxf (hle'' _ _ hxr)⟩
  · rintro V σ' ⟨h1, h2, hle, r, hr, hrows⟩
    refine ⟨by rw [nx_lst (hle _ _ ha)]; simp; exact fm [_, _] [] [.neq (.v 0) (.v 1)] (.nle (.v 0) (.v 1)) [[1, 0, 1]] rfl e, ?_⟩
    repeat walk_at "back"
    walk_at "py"
    exact h _ _ hle ⟨f, r, rfl, hr, hrows.rows⟩
end
end
section
set_option maxRecDepth 100000
open PySem

theorem sm_congr {k : Nat} {f g : Nat → Rat} (h : ∀ t, t < k → f t = g t) : sm k f = sm k g := by
  induction k with
  | zero => rfl
  | succ k ih =>
    show sm k f + f k = sm k g + g k
    rw [ih fun t ht => h t (by exact fm [_, _] [] [.nlt (.v 0) (.v 1)] (.nlt (.v 0) (.a (.v 1) (.l 1))) [[1, 1]] rfl ht), h k (by exact fm [_] [] [] (.nlt (.v 0) (.a (.v 0) (.l 1))) [[1]] rfl)]
theorem sm_zero {k : Nat} : sm k (fun _ => 0) = 0 := by
  induction k with
  | zero => rfl
  | succ k ih => show sm k _ + 0 = 0; rw [ih]; grind
theorem sm_add {k : Nat} {f g : Nat → Rat} : sm k (fun t => f t + g t) = sm k f + sm k g := by
  induction k with
  | zero => show (0 : Rat) = 0 + 0; grind
  | succ k ih => show sm k _ + (f k + g k) = (sm k f + f k) + (sm k g + g k); rw [ih]; grind
theorem sm_mul {k : Nat} {c : Rat} {f : Nat → Rat} : sm k (fun t => c * f t) = c * sm k f := by
  induction k with
  | zero => show (0 : Rat) = c * 0; grind
  | succ k ih => show sm k _ + c * f k = c * (sm k f + f k); rw [ih]; grind
theorem sm_mul' {k : Nat} {c : Rat} {f : Nat → Rat} : sm k (fun t => f t * c) = sm k f * c := by
  rw [sm_congr (g := fun t => c * f t) fun t _ => by grind, sm_mul]; grind
theorem sm_swap {m k : Nat} {f : Nat → Nat → Rat} : sm m (fun i => sm k fun j => f i j) = sm k fun j => sm m fun i => f i j := by
  induction m with
  | zero => show (0 : Rat) = sm k fun _ => 0; rw [sm_zero]
  | succ m ih =>
    show sm m (fun i => sm k fun j => f i j) + sm k (fun j => f m j) = sm k fun j => (sm m (fun i => f i j) + f m j)
    rw [ih, ← sm_add]
theorem sm_one {k a : Nat} {x : Rat} {f : Nat → Rat} (h : a < k) : sm k (fun t => (if t = a then x else 0) * f t) = x * f a := by
  induction k with
  | zero => exact False.elim (fm [_] [] [.nlt (.v 0) (.l 0)] .f [[1]] rfl h)
  | succ k ih =>
    show sm k _ + (if k = a then x else 0) * f k = _
    by_cases hk : k = a
    · subst hk
      rw [if_pos rfl, sm_congr (g := fun _ => 0) fun t ht => by rw [if_neg (by exact fm [_, _] [] [.nlt (.v 0) (.v 1)] (.no (.neq (.v 0) (.v 1))) [[1, 0, 1]] rfl ht)]; grind, sm_zero]
      grind
    · rw [if_neg hk, ih (by exact fm [_, _] [] [.nlt (.v 0) (.a (.v 1) (.l 1)), .no (.neq (.v 1) (.v 0))] (.nlt (.v 0) (.v 1)) [[0, 1, 1], [1, 1]] rfl h hk)]
      grind

theorem mmul_assoc {k l : Nat} {A B C : Nat → Nat → Rat} (i j : Nat) : mmul l (mmul k A B) C i j = mmul k A (mmul l B C) i j := by
  show sm l (fun t => sm k (fun s => A i s * B s t) * C t j) = sm k fun s => A i s * sm l fun t => B s t * C t j
  rw [sm_congr (g := fun t => sm k fun s => A i s * B s t * C t j) fun t _ => sm_mul'.symm, sm_swap]
  exact sm_congr fun s _ => by
    rw [← sm_mul]
    exact sm_congr fun t _ => by grind
theorem mmul_congr {m k n : Nat} {A A' B B' : Nat → Nat → Rat} (hA : ∀ i j, i < m → j < k → A i j = A' i j) (hB : ∀ i j, i < k → j < n → B i j = B' i j) (i j : Nat) (hi : i < m) (hj : j < n) : mmul k A B i j = mmul k A' B' i j :=
  sm_congr fun t ht => by rw [hA i t hi ht, hB t j ht hj]
theorem idm_mul {m : Nat} {A : Nat → Nat → Rat} (i j : Nat) (hi : i < m) : mmul m idm A i j = A i j := by
  show sm m (fun t => idm i t * A t j) = _
  rw [sm_congr (g := fun t => (if t = i then 1 else 0) * A t j) fun t _ => by unfold idm; by_cases h : i = t <;> simp [h, eq_comm], sm_one hi]
  grind

noncomputable def Comb (m n : Nat) (A E : Nat → Nat → Rat) : Prop := ∃ P : Nat → Nat → Rat, ∀ i j, i < m → j < n → E i j = sm m fun k => P i k * A k j

theorem Comb.refl (m n : Nat) (A : Nat → Nat → Rat) : Comb m n A A := ⟨idm, fun i j hi hj => (idm_mul i j hi).symm⟩
theorem Comb.trans {m n : Nat} {A B C : Nat → Nat → Rat} (h : Comb m n A B) (h' : Comb m n B C) : Comb m n A C := by
  obtain ⟨P, hP⟩ := h
  obtain ⟨P', hP'⟩ := h'
  refine ⟨mmul m P' P, fun i j hi hj => ?_⟩
  rw [hP' i j hi hj]
  have := mmul_assoc (k := m) (l := m) (A := P') (B := P) (C := A) i j
  show _ = mmul m (mmul m P' P) A i j
  rw [this]
  exact sm_congr fun k hk => by rw [hP k j hk hj]; rfl
theorem comb_two {m n : Nat} {A E : Nat → Nat → Rat} (h : ∀ i, i < m → ∃ a b x y, a < m ∧ b < m ∧ ∀ j, j < n → E i j = x * A a j + y * A b j) : Comb m n A E := by
  have h' : ∀ i, ∃ p : (Nat × Nat) × Rat × Rat, i < m → p.1.1 < m ∧ p.1.2 < m ∧ ∀ j, j < n → E i j = p.2.1 * A p.1.1 j + p.2.2 * A p.1.2 j := fun i => by
    by_cases hi : i < m
    · obtain ⟨a, b, x, y, r⟩ := h i hi
      exact ⟨((a, b), (x, y)), fun _ => r⟩
    · exact ⟨((0, 0), (0, 0)), fun q => absurd q hi⟩
  obtain ⟨f, hf⟩ := Classical.axiomOfChoice h'
  refine ⟨fun i k => (if k = (f i).1.1 then (f i).2.1 else 0) + (if k = (f i).1.2 then (f i).2.2 else 0), fun i j hi hj => ?_⟩
  obtain ⟨h1, h2, h3⟩ := hf i hi
  rw [h3 j hj, sm_congr (g := fun k => (if k = (f i).1.1 then (f i).2.1 else 0) * A k j + (if k = (f i).1.2 then (f i).2.2 else 0) * A k j) fun k _ => Rat.add_mul _ _ _, sm_add, sm_one h1, sm_one h2]

noncomputable def Rk (m n : Nat) (A : Nat → Nat → Rat) (r : Nat) : Prop :=
  (∃ X Y : Nat → Nat → Rat, ∀ i j, i < m → j < n → A i j = sm r fun t => X i t * Y t j) ∧
  (∃ U V : Nat → Nat → Rat, ∀ i t, i < r → t < r → idm i t = sm m fun a => U i a * sm n fun b => A a b * V b t)

theorem Rk.turn {m n r : Nat} {A : Nat → Nat → Rat} (h : Rk m n A r) : Rk n m (tr A) r := by
  obtain ⟨⟨X, Y, hXY⟩, U, V, hUV⟩ := h
  refine ⟨⟨tr Y, tr X, fun i j hi hj => ?_⟩, tr V, tr U, fun i t hi ht => ?_⟩
  · show A j i = _
    rw [hXY j i hj hi]
    exact sm_congr fun t _ => by show X j t * Y t i = Y t i * X j t; grind
  · have e : idm i t = idm t i := by unfold idm; by_cases h : i = t <;> simp [h, eq_comm]
    rw [e, hUV t i ht hi]
    rw [sm_congr (g := fun a => sm n fun b => U t a * (A a b * V b i)) fun a _ => sm_mul.symm, sm_swap]
    refine sm_congr fun b _ => ?_
    show _ = V b i * sm m fun a => A a b * U t a
    rw [← sm_mul]
    exact sm_congr fun a _ => by grind

theorem no_fewer {r k : Nat} (hr : r ≤ 3) (P R : Nat → Nat → Rat) (h : ∀ i t, i < r → t < r → idm i t = sm k fun s => P i s * R s t) : r ≤ k := by
  have hk : k < r → False := fun hk => by
    have h3 : r = 1 ∨ r = 2 ∨ r = 3 := by exact fm [_, _] [] [.nle (.v 0) (.l 3), .nlt (.v 1) (.v 0)] (.or (.neq (.v 0) (.l 1)) (.or (.neq (.v 0) (.l 2)) (.neq (.v 0) (.l 3)))) [[1, 0, 0, 0, 1], [0, 0, 0, 1, 1], [0, 0, 1, 1], [0, 0, 1, 1], [0, 0, 1, 1], [0, 0, 1, 1], [1, 0, 0, 0, 1], [0, 1, 1]] rfl hr hk
    have hkk : k = 0 ∨ k = 1 ∨ k = 2 := by exact fm [_, _] [] [.nle (.v 0) (.l 3), .nlt (.v 1) (.v 0)] (.or (.neq (.v 1) (.l 0)) (.or (.neq (.v 1) (.l 1)) (.neq (.v 1) (.l 2)))) [[1, 1, 0, 0, 1], [0, 0, 0, 1, 1], [0, 0, 1, 1], [0, 0, 1, 1], [0, 0, 1], [0, 0, 1], [0, 0, 1], [0, 0, 1]] rfl hr hk
    rcases h3 with rfl | rfl | rfl <;> rcases hkk with rfl | rfl | rfl <;> first | (first | exact fm [] [] [.nlt (.l 1) (.l 1)] .f [[1]] rfl hk | exact fm [] [] [.nlt (.l 2) (.l 1)] .f [[1]] rfl hk | exact fm [] [] [.nlt (.l 2) (.l 2)] .f [[1]] rfl hk) | skip
    · have a := h 0 0 (by exact fm [] [] [] (.nlt (.l 0) (.l 1)) [[1]] rfl) (by exact fm [] [] [] (.nlt (.l 0) (.l 1)) [[1]] rfl)
      simp [idm, sm] at a
    · have a := h 0 0 (by exact fm [] [] [] (.nlt (.l 0) (.l 2)) [[1]] rfl) (by exact fm [] [] [] (.nlt (.l 0) (.l 2)) [[1]] rfl)
      simp [idm, sm] at a
    · have a := h 0 0 (by exact fm [] [] [] (.nlt (.l 0) (.l 2)) [[1]] rfl) (by exact fm [] [] [] (.nlt (.l 0) (.l 2)) [[1]] rfl)
      have b := h 0 1 (by exact fm [] [] [] (.nlt (.l 0) (.l 2)) [[1]] rfl) (by exact fm [] [] [] (.nlt (.l 1) (.l 2)) [[1]] rfl)
      have c := h 1 0 (by exact fm [] [] [] (.nlt (.l 1) (.l 2)) [[1]] rfl) (by exact fm [] [] [] (.nlt (.l 0) (.l 2)) [[1]] rfl)
      have d := h 1 1 (by exact fm [] [] [] (.nlt (.l 1) (.l 2)) [[1]] rfl) (by exact fm [] [] [] (.nlt (.l 1) (.l 2)) [[1]] rfl)
      simp [idm, sm] at a b c d
      grind
    · have a := h 0 0 (by exact fm [] [] [] (.nlt (.l 0) (.l 3)) [[1]] rfl) (by exact fm [] [] [] (.nlt (.l 0) (.l 3)) [[1]] rfl)
      simp [idm, sm] at a
    · have a := h 0 0 (by exact fm [] [] [] (.nlt (.l 0) (.l 3)) [[1]] rfl) (by exact fm [] [] [] (.nlt (.l 0) (.l 3)) [[1]] rfl)
      have b := h 0 1 (by exact fm [] [] [] (.nlt (.l 0) (.l 3)) [[1]] rfl) (by exact fm [] [] [] (.nlt (.l 1) (.l 3)) [[1]] rfl)
      have c := h 1 0 (by exact fm [] [] [] (.nlt (.l 1) (.l 3)) [[1]] rfl) (by exact fm [] [] [] (.nlt (.l 0) (.l 3)) [[1]] rfl)
      have d := h 1 1 (by exact fm [] [] [] (.nlt (.l 1) (.l 3)) [[1]] rfl) (by exact fm [] [] [] (.nlt (.l 1) (.l 3)) [[1]] rfl)
      simp [idm, sm] at a b c d
      grind
    · have a := h 0 0 (by exact fm [] [] [] (.nlt (.l 0) (.l 3)) [[1]] rfl) (by exact fm [] [] [] (.nlt (.l 0) (.l 3)) [[1]] rfl)
      have b := h 0 1 (by exact fm [] [] [] (.nlt (.l 0) (.l 3)) [[1]] rfl) (by exact fm [] [] [] (.nlt (.l 1) (.l 3)) [[1]] rfl)
      have c := h 0 2 (by exact fm [] [] [] (.nlt (.l 0) (.l 3)) [[1]] rfl) (by exact fm [] [] [] (.nlt (.l 2) (.l 3)) [[1]] rfl)
      have d := h 1 0 (by exact fm [] [] [] (.nlt (.l 1) (.l 3)) [[1]] rfl) (by exact fm [] [] [] (.nlt (.l 0) (.l 3)) [[1]] rfl)
      have e := h 1 1 (by exact fm [] [] [] (.nlt (.l 1) (.l 3)) [[1]] rfl) (by exact fm [] [] [] (.nlt (.l 1) (.l 3)) [[1]] rfl)
      have f := h 1 2 (by exact fm [] [] [] (.nlt (.l 1) (.l 3)) [[1]] rfl) (by exact fm [] [] [] (.nlt (.l 2) (.l 3)) [[1]] rfl)
      have g := h 2 0 (by exact fm [] [] [] (.nlt (.l 2) (.l 3)) [[1]] rfl) (by exact fm [] [] [] (.nlt (.l 0) (.l 3)) [[1]] rfl)
      have i := h 2 1 (by exact fm [] [] [] (.nlt (.l 2) (.l 3)) [[1]] rfl) (by exact fm [] [] [] (.nlt (.l 1) (.l 3)) [[1]] rfl)
      have j := h 2 2 (by exact fm [] [] [] (.nlt (.l 2) (.l 3)) [[1]] rfl) (by exact fm [] [] [] (.nlt (.l 2) (.l 3)) [[1]] rfl)
      simp [idm, sm] at a b c d e f g i j
      grind
  exact Nat.le_of_not_lt hk

theorem Rk.le {m n r r' : Nat} {A : Nat → Nat → Rat} (h : Rk m n A r) (h' : Rk m n A r') (hr : r ≤ 3) : r ≤ r' := by
  obtain ⟨_, U, V, hUV⟩ := h
  obtain ⟨⟨X, Y, hXY⟩, _⟩ := h'
  refine no_fewer hr (fun i s => sm m fun a => U i a * X a s) (fun s t => sm n fun b => Y s b * V b t) fun i t hi ht => ?_
  rw [hUV i t hi ht]
  rw [sm_congr (g := fun a => sm r' fun s => (U i a * X a s) * sm n fun b => Y s b * V b t) fun a ha => ?_, sm_swap]
  · exact sm_congr fun s _ => sm_mul'
  · rw [sm_congr (g := fun b => sm r' fun s => X a s * Y s b * V b t) fun b hb => by rw [hXY a b ha hb, sm_mul'], sm_swap, ← sm_mul]
    refine sm_congr fun s _ => ?_
    rw [← sm_mul, ← sm_mul]
    exact sm_congr fun b _ => by grind
theorem Rk.uniq {m n r r' : Nat} {A : Nat → Nat → Rat} (h : Rk m n A r) (h' : Rk m n A r') (hr : r ≤ 3) (hr' : r' ≤ 3) : r = r' := Nat.le_antisymm (h.le h' hr) (h'.le h hr')
end
section
set_option maxRecDepth 100000
open PySem

noncomputable def bd : Nat → Nat
  | 0 => 2
  | r + 1 => 4 * bd r + 1
theorem bd_le {r : Nat} (h : r ≤ 3) : bd r ≤ 149 := by
  have : r = 0 ∨ r = 1 ∨ r = 2 ∨ r = 3 := by exact fm [_] [] [.nle (.v 0) (.l 3)] (.or (.neq (.v 0) (.l 0)) (.or (.neq (.v 0) (.l 1)) (.or (.neq (.v 0) (.l 2)) (.neq (.v 0) (.l 3))))) [[1, 0, 0, 0, 1], [0, 0, 0, 1, 1], [0, 0, 1, 1], [0, 0, 1, 1], [0, 1, 1], [0, 1, 1], [0, 1, 1], [0, 1, 1], [0, 1], [0, 1], [0, 1], [0, 1], [0, 1], [0, 1], [0, 1], [0, 1]] rfl h
  rcases this with rfl | rfl | rfl | rfl <;> decide
theorem bd_le2 {r : Nat} (h : r ≤ 2) : bd r ≤ 37 := by
  have : r = 0 ∨ r = 1 ∨ r = 2 := by exact fm [_] [] [.nle (.v 0) (.l 2)] (.or (.neq (.v 0) (.l 0)) (.or (.neq (.v 0) (.l 1)) (.neq (.v 0) (.l 2)))) [[1, 0, 0, 1], [0, 0, 1, 1], [0, 1, 1], [0, 1, 1], [0, 1], [0, 1], [0, 1], [0, 1]] rfl h
  rcases this with rfl | rfl | rfl <;> decide

noncomputable def sw (r p i : Nat) : Nat := if i = r then p else if i = p then r else i
theorem sw_lt {r p i m : Nat} (hr : r < m) (hp : p < m) (hi : i < m) : sw r p i < m := by unfold sw; split; exact hp; split; exact hr; exact hi
theorem sw_sw {r p i : Nat} : sw r p (sw r p i) = i := by unfold sw; grind
theorem sw_ge {r p i : Nat} (hp : r ≤ p) (hi : r < i) : r ≤ sw r p i := by unfold sw; grind

noncomputable def swapR (E : Nat → Nat → Rat) (r p : Nat) : Nat → Nat → Rat := fun i => E (sw r p i)
noncomputable def scaleR (E : Nat → Nat → Rat) (r : Nat) (x : Rat) : Nat → Nat → Rat := fun i j => if i = r then E r j / x else E i j
noncomputable def offR (E : Nat → Nat → Rat) (i r : Nat) (x : Rat) : Nat → Nat → Rat := fun i' j => if i' = i then E i j - x * E r j else E i' j
noncomputable def piv (E : Nat → Nat → Rat) (r p col : Nat) : Nat → Nat → Rat := fun i j => if i = r then E p j / E p col else E (sw r p i) j - E (sw r p i) col * (E p j / E p col)

structure Ech (m n : Nat) (A E : Nat → Nat → Rat) (col : Nat) (cs : List Nat) : Prop where
  le : cs.length ≤ m
  lt : ∀ (t c : Nat), cs[t]? = some c → c < col
  zero : ∀ i j, cs.length ≤ i → i < m → j < col → E i j = 0
  delta : ∀ (t c i : Nat), cs[t]? = some c → i < m → E i c = if i = t then 1 else 0
  fwd : Comb m n A E
  bwd : Comb m n E A
  size : ∀ i j, i < m → j < n → Sz (bd cs.length) (E i j)

theorem Ech.start {m n : Nat} {A : Nat → Nat → Rat} (h : ∀ i j, i < m → j < n → Sz 2 (A i j)) : Ech m n A A 0 [] :=
  ⟨Nat.zero_le _, fun t c e => by simp at e, fun i j _ _ hj => by exact False.elim (fm [_] [] [.nlt (.v 0) (.l 0)] .f [[1]] rfl hj), fun t c i e => by simp at e, .refl .., .refl .., h⟩
theorem Ech.skip {m n col : Nat} {A E : Nat → Nat → Rat} {cs : List Nat} (h : Ech m n A E col cs) (hz : ∀ i, cs.length ≤ i → i < m → E i col = 0) : Ech m n A E (col + 1) cs :=
  ⟨h.le, fun t c e => Nat.lt_succ_of_lt (h.lt t c e), fun i j h1 h2 h3 => by
    by_cases hj : j = col
    · rw [hj]; exact hz i h1 h2
    · exact h.zero i j h1 h2 (by exact fm [_, _] [] [.nlt (.v 0) (.a (.v 1) (.l 1)), .no (.neq (.v 0) (.v 1))] (.nlt (.v 0) (.v 1)) [[1, 1], [0, 1, 1]] rfl h3 hj), h.delta, h.fwd, h.bwd, h.size⟩
theorem Ech.pivot {m n col p : Nat} {A E : Nat → Nat → Rat} {cs : List Nat} (h : Ech m n A E col cs) (hp : cs.length ≤ p) (hpm : p < m) (hn : E p col ≠ 0) (hcol : col < n) : Ech m n A (piv E cs.length p col) (col + 1) (cs ++ [col]) := by
  have hr : cs.length < m := by exact fm [_, _, _] [] [.nle (.v 0) (.v 1), .nlt (.v 1) (.v 2)] (.nlt (.v 0) (.v 2)) [[1, 1, 1]] rfl hp hpm
  have old : ∀ (t c : Nat), cs[t]? = some c → t < cs.length := fun t c e => (List.getElem?_eq_some_iff.mp e).1
  have ecs : ∀ (t c : Nat), (cs ++ [col])[t]? = some c → (cs[t]? = some c) ∨ (t = cs.length ∧ c = col) := fun t c e => by
    by_cases ht : t < cs.length
    · rw [List.getElem?_append_left ht] at e; exact .inl e
    · rw [List.getElem?_append_right (by exact fm [_, _] [] [.no (.nlt (.v 0) (.v 1))] (.nle (.v 1) (.v 0)) [[1, 1]] rfl ht)] at e
      have h1 : t - cs.length = 0 := by
        have := (List.getElem?_eq_some_iff.mp e).1
        simp at this; exact fm [_] [] [.neq (.v 0) (.l 0)] (.neq (.v 0) (.l 0)) [[1, 0, 1], [0, 0, 1]] rfl this
      rw [h1] at e
      simp at e
      exact .inr ⟨by exact fm [_, _, _] [] [.no (.nlt (.v 0) (.v 1)), .neq (.v 2) (.l 0), .or (.an (.nle (.v 1) (.v 0)) (.neq (.a (.v 2) (.v 1)) (.v 0))) (.an (.nle (.v 0) (.v 1)) (.neq (.v 2) (.l 0)))] (.neq (.v 0) (.v 1)) [[0, 1, 0, 0, 0, 1, 1], [1, 0, 0, 0, 0, 0, 1], [0, 0, 0, 1, 0, 0, 1], [1, 0, 0, 0, 0, 0, 1]] rfl ht h1 (subn _ _), e.symm⟩
  have newcol : ∀ i, i < m → piv E cs.length p col i col = if i = cs.length then 1 else 0 := fun i hi => by
    unfold piv
    by_cases hir : i = cs.length
    · rw [if_pos hir, if_pos hir]; grind
    · rw [if_neg hir, if_neg hir]; grind
  have kill : ∀ (t c i : Nat), cs[t]? = some c → i < m → piv E cs.length p col i c = if i = t then 1 else 0 := fun t c i e hi => by
    have ht := old t c e
    have z : E p c = 0 := by rw [h.delta t c p e hpm, if_neg (by exact fm [_, _, _] [] [.nle (.v 0) (.v 1), .nlt (.v 2) (.v 0)] (.no (.neq (.v 1) (.v 2))) [[1, 1, 1]] rfl hp ht)]
    unfold piv
    rw [z]
    by_cases hir : i = cs.length
    · rw [if_pos hir, if_neg (by exact fm [_, _, _] [] [.nlt (.v 0) (.v 1), .neq (.v 2) (.v 1)] (.no (.neq (.v 2) (.v 0))) [[1, 0, 1, 1]] rfl ht hir)]; grind
    · rw [if_neg hir, h.delta t c _ e (sw_lt hr hpm hi)]
      have : (sw cs.length p i = t) ↔ i = t := by unfold sw; grind
      by_cases hit : i = t
      · rw [if_pos (this.mpr hit), if_pos hit]; grind
      · rw [if_neg (fun q => hit (this.mp q)), if_neg hit]; grind
  refine ⟨by simp; exact fm [_, _] [] [.nlt (.v 0) (.v 1)] (.nle (.a (.v 0) (.l 1)) (.v 1)) [[1, 1]] rfl hr, fun t c e => ?_, fun i j h1 h2 h3 => ?_, fun t c i e hi => ?_, ?_, ?_, fun i j hi hj => ?_⟩
  · rcases ecs t c e with e | ⟨_, rfl⟩
    · exact Nat.lt_succ_of_lt (h.lt t c e)
    · exact Nat.lt_succ_self _
  · simp at h1
    by_cases hj : j = col
    · rw [hj, newcol i h2, if_neg (by exact fm [_, _] [] [.nle (.a (.v 0) (.l 1)) (.v 1)] (.no (.neq (.v 1) (.v 0))) [[1, 1]] rfl h1)]
    · have z1 : E p j = 0 := h.zero p j hp hpm (by exact fm [_, _] [] [.nlt (.v 0) (.a (.v 1) (.l 1)), .no (.neq (.v 0) (.v 1))] (.nlt (.v 0) (.v 1)) [[1, 1], [0, 1, 1]] rfl h3 hj)
      have z2 : E (sw cs.length p i) j = 0 := h.zero _ j (sw_ge hp (by exact fm [_, _] [] [.nle (.a (.v 0) (.l 1)) (.v 1)] (.nlt (.v 0) (.v 1)) [[1, 1]] rfl h1)) (sw_lt hr hpm h2) (by exact fm [_, _] [] [.nlt (.v 0) (.a (.v 1) (.l 1)), .no (.neq (.v 0) (.v 1))] (.nlt (.v 0) (.v 1)) [[1, 1], [0, 1, 1]] rfl h3 hj)
      unfold piv
      rw [if_neg (by exact fm [_, _] [] [.nle (.a (.v 0) (.l 1)) (.v 1)] (.no (.neq (.v 1) (.v 0))) [[1, 1]] rfl h1), z1, z2]; grind
  · rcases ecs t c e with e | ⟨rfl, rfl⟩
    · exact kill t c i e hi
    · exact newcol i hi
  · refine h.fwd.trans (comb_two fun i hi => ?_)
    by_cases hir : i = cs.length
    · refine ⟨p, p, 1 / E p col, 0, hpm, hpm, fun j hj => ?_⟩
      unfold piv
      rw [if_pos hir]; grind
    · refine ⟨sw cs.length p i, p, 1, -(E (sw cs.length p i) col / E p col), sw_lt hr hpm hi, hpm, fun j hj => ?_⟩
      unfold piv
      rw [if_neg hir]; grind
  · refine (comb_two fun k hk => ?_).trans h.bwd
    by_cases hir : sw cs.length p k = cs.length
    · have hkp : k = p := by unfold sw at hir; grind
      refine ⟨cs.length, cs.length, E p col, 0, hr, hr, fun j hj => ?_⟩
      unfold piv
      rw [if_pos rfl, hkp]; grind
    · refine ⟨sw cs.length p k, cs.length, 1, E k col, sw_lt hr hpm hk, hr, fun j hj => ?_⟩
      unfold piv
      rw [if_neg hir, if_pos rfl, sw_sw]; grind
  · have s1 := h.size p col hpm hcol
    have s2 := h.size p j hpm hj
    have e : (cs ++ [col]).length = cs.length + 1 := by simp
    rw [e]
    unfold piv
    split
    · exact (s2.div s1 hn).mono (by show _ ≤ 4 * bd cs.length + 1; exact fm [_] [] [] (.nle (.a (.v 0) (.v 0)) (.a (.m 4 (.v 0)) (.l 1))) [[1]] rfl)
    · have hs := sw_lt hr hpm hi
      exact ((h.size _ j hs hj).sub ((h.size _ col hs hcol).mul (s2.div s1 hn))).mono (by show _ ≤ 4 * bd cs.length + 1; exact fm [_] [] [] (.nle (.a (.a (.v 0) (.a (.v 0) (.a (.v 0) (.v 0)))) (.l 1)) (.a (.m 4 (.v 0)) (.l 1))) [[1]] rfl)

theorem sm_cut {m r : Nat} {f : Nat → Rat} (h : r ≤ m) (hz : ∀ t, r ≤ t → t < m → f t = 0) : sm m f = sm r f := by
  induction m with
  | zero => have : r = 0 := by exact fm [_] [] [.nle (.v 0) (.l 0)] (.neq (.v 0) (.l 0)) [[1, 1], [0, 1]] rfl h
            rw [this]
  | succ m ih =>
    by_cases hr : r = m + 1
    · rw [hr]
    · show sm m f + f m = _
      rw [ih (by exact fm [_, _] [] [.nle (.v 0) (.a (.v 1) (.l 1)), .no (.neq (.v 0) (.a (.v 1) (.l 1)))] (.nle (.v 0) (.v 1)) [[1, 1], [0, 1, 1]] rfl h hr) fun t h1 h2 => hz t h1 (by exact fm [_, _] [] [.nlt (.v 0) (.v 1)] (.nlt (.v 0) (.a (.v 1) (.l 1))) [[1, 1]] rfl h2), hz m (by exact fm [_, _] [] [.nle (.v 0) (.a (.v 1) (.l 1)), .no (.neq (.v 0) (.a (.v 1) (.l 1)))] (.nle (.v 0) (.v 1)) [[1, 1], [0, 1, 1]] rfl h hr) (by exact fm [_] [] [] (.nlt (.v 0) (.a (.v 0) (.l 1))) [[1]] rfl)]
      grind

theorem Ech.rank {m n : Nat} {A E : Nat → Nat → Rat} {cs : List Nat} (h : Ech m n A E n cs) : Rk m n A cs.length := by
  obtain ⟨P, hP⟩ := h.fwd
  obtain ⟨X, hX⟩ := h.bwd
  refine ⟨⟨X, E, fun i j hi hj => ?_⟩, P, fun b t => if b = (cs[t]?).getD 0 then 1 else 0, fun i t hi ht => ?_⟩
  · rw [hX i j hi hj]
    exact sm_cut h.le fun t h1 h2 => by rw [h.zero t j h1 h2 hj]; grind
  · have e : cs[t]? = some ((cs[t]?).getD 0) := by simp [ht]
    generalize (cs[t]?).getD 0 = c at e
    have hc := h.lt t c e
    rw [sm_congr (g := fun a => P i a * A a c) fun a _ => ?_, ← hP i c (by have := h.le; exact fm [_, _, _] [] [.nlt (.v 0) (.v 1), .nle (.v 1) (.v 2)] (.nlt (.v 0) (.v 2)) [[1, 1, 1]] rfl hi this) hc, h.delta t c i e (by have := h.le; exact fm [_, _, _] [] [.nlt (.v 0) (.v 1), .nle (.v 1) (.v 2)] (.nlt (.v 0) (.v 2)) [[1, 1, 1]] rfl hi this)]
    · rfl
    · congr 1
      rw [sm_congr (g := fun b => (if b = c then 1 else 0) * A a b) fun b _ => by grind, sm_one hc]
      grind
end
section

inductive RowXI (X : List Nat) (σ : St) (l : List PV) (i : Nat) (r : List PV) : Prop
  | mk c (c1 : l[i]? = some (.lst c)) (c2 : c ∉ X) (c3 : σ[c]? = some r) : RowXI X σ l i r
noncomputable def RowsX (X : List Nat) (σ : St) (l : List PV) (m n : Nat) (M : Nat → Nat → Rat) : Prop := l.length = m ∧ ∀ i, i < m → RowXI X σ l i (rowOf n (M i))
theorem RowsX.rows {X σ l m n M} (h : RowsX X σ l m n M) : Rows σ l m n M := ⟨h.1, fun i hi => let ⟨c, e, _, hc⟩ := h.2 i hi; ⟨_, e, c, rfl, hc⟩⟩
theorem RowsX.le {X σ σ' l m n M} (h : RowsX X σ l m n M) (le : Le σ σ') : RowsX X σ' l m n M := ⟨h.1, fun i hi => let ⟨c, e, a, hc⟩ := h.2 i hi; ⟨c, e, a, le _ _ hc⟩⟩
theorem RowsX.congr {X σ l m n M M'} (h : RowsX X σ l m n M) (e : ∀ i j, i < m → j < n → M i j = M' i j) : RowsX X σ l m n M' := ⟨h.1, fun i hi => by
  obtain ⟨c, e1, a, hc⟩ := h.2 i hi
  refine ⟨c, e1, a, ?_⟩
  rw [hc]
  congr 1
  repeat walk_at "back"
  exact rowOf_ext rowOf_len fun j hj => by rw [rowOf_get hj, e i j hi hj]⟩
noncomputable def Lf (f : Nat) (σ σ' : St) : Prop := ∀ (j : Nat) (l : List PV), j ≠ f → σ[j]? = some l → σ'[j]? = some l
theorem Le.lf {f σ σ'} (h : Le σ σ') : Lf f σ σ' := fun j l _ e => h j l e
theorem Lf.refl {f σ} : Lf f σ σ := fun _ _ _ e => e
theorem Lf.trans {f σ σ₁ σ₂} (a : Lf f σ σ₁) (b : Lf f σ₁ σ₂) : Lf f σ σ₂ := fun j l h e => b j l h (a j l h e)
theorem Lf.set {f : Nat} {σ : St} {x : List PV} : Lf f σ (σ.set f x) := fun j l h e => set_ne h e
theorem Le.lf_new {f σ₀ σ σ'} (h : Le σ₀ σ) (hf : σ₀[f]? = Option.none) (k : Lf f σ σ') : Le σ₀ σ' := fun j l e => k j l (fun q => by rw [q, hf] at e; cases e) (h j l e)
theorem RowsX.lf {X f σ σ' l m n M} (h : RowsX X σ l m n M) (hf : f ∈ X) (k : Lf f σ σ') : RowsX X σ' l m n M := ⟨h.1, fun i hi => by
  obtain ⟨c, e1, a, hc⟩ := h.2 i hi
  repeat walk_at "back"
  exact ⟨c, e1, a, k _ _ (fun q => a (q ▸ hf)) hc⟩⟩
theorem RowsX.put {X σ l m n M} (h : RowsX X σ l m n M) {i c : Nat} {g : Nat → Rat} (hc : c ∉ X) (hg : σ[c]? = some (rowOf n g)) (hi : i < m) : RowsX X σ (l.set i (.lst c)) m n (fun i' j => if i' = i then g j else M i' j) := ⟨by simp [h.1], fun i' hi' => by
  by_cases e : i' = i
  · subst e
    refine ⟨c, by rw [List.getElem?_set_self (by rw [h.1]; exact hi)], hc, ?_⟩
    simp only [if_true]
    repeat walk_at "back"
    exact hg
  · obtain ⟨d, e1, a, hd⟩ := h.2 i' hi'
    refine ⟨d, by rw [List.getElem?_set_ne (Ne.symm e)]; exact e1, a, ?_⟩
    simp only [if_neg e]
    repeat walk_at "back"
    exact hd⟩
theorem not_in {X : List Nat} {σ : St} {c : Nat} (hX : ∀ x ∈ X, ∃ y, σ[x]? = some y) (h : σ[c]? = none) : c ∉ X := fun q => by
  obtain ⟨y, hy⟩ := hX c q
  rw [h] at hy; cases hy

section
variable {n : Nat} {σ : St} {Q : PV → St → Prop}

theorem swap_wp {f m k i j : Nat} {l : List PV} {X : List Nat} {E : Nat → Nat → Rat} (hf : σ[f]? = some l) (hr : RowsX X σ l m k E) (hX : f ∈ X) (hi : i < m) (hj : j < m) (hm : m ≤ 1000)
    (h : ∀ σ' l', Lf f σ σ' → σ'[f]? = some l' → RowsX X σ' l' m k (swapR E i j) → Q .none σ') : Wp ((ev (n + 12)).c "swap_rows" [.lst f, .int i, .int j] σ) Q := by
  have hcap : cap = 4000 := rfl
  obtain ⟨ci, ei, ai, hci⟩ := hr.2 i hi
  obtain ⟨cj, ej, aj, hcj⟩ := hr.2 j hj
  refine c_call F_swap_rows.2 ?_
  walk_at "py"
  refine g_lst hf (by walk_at "om") (by walk_at "om") (by simpa using ej) ?_
  walk_at "py"
  refine g_lst hf (by walk_at "om") (by walk_at "om") (by simpa using ei) ?_
  walk_at "py"
  refine ⟨f, i, l, rfl, rfl, hf, by walk_at "om", by rw [hr.1]; simpa using hi, by rw [hr.1]; exact fm [_, _] [] [.nle (.v 0) (.l 1000), .neq (.v 1) (.l 4000)] (.nle (.v 0) (.v 1)) [[1, 0, 1, 1]] rfl hm hcap, ?_⟩
  walk_at "py"
  refine ⟨f, j, _, rfl, rfl, set_at hf, by walk_at "om", by simp [hr.1]; exact hj, by simp [hr.1]; exact fm [_, _] [] [.nle (.v 0) (.l 1000), .neq (.v 1) (.l 4000)] (.nle (.v 0) (.v 1)) [[1, 0, 1, 1]] rfl hm hcap, ?_⟩
  walk_at "py"
  refine h _ _ (Lf.set.trans Lf.set) (set_at (set_at hf)) ?_
  have h1 := (hr.put ai hci hj).put aj hcj hi
  have h2 := ((hr.put aj hcj hi).put ai hci hj).lf hX (Lf.set (x := l.set (i : Int).toNat (.lst cj)) |>.trans (Lf.set (x := (l.set (i : Int).toNat (.lst cj)).set (j : Int).toNat (.lst ci))))
  simp only [Int.toNat_natCast] at h2 ⊢
  refine h2.congr fun i' j' _ _ => ?_
  unfold swapR sw
  by_cases e1 : i' = i
  · by_cases e2 : i' = j
    · subst e1; subst e2; simp
    · subst e1; simp [e2]
  · by_cases e2 : i' = j
    · subst e2; simp [e1]
    · simp [e1, e2]

theorem take_off_wp {f m k i s ke ks kx : Nat} {l : List PV} {X : List Nat} {E : Nat → Nat → Rat} {x : Rat} (hf : σ[f]? = some l) (hr : RowsX X σ l m k E) (hX : f ∈ X) (hXa : ∀ x ∈ X, ∃ y, σ[x]? = some y) (hi : i < m) (hs : s < m) (hm : m ≤ 1000) (hk : k ≤ 1000)
    (se : ∀ j, j < k → Sz ke (E i j)) (ss : ∀ j, j < k → Sz ks (E s j)) (sx : Sz kx x) (le : ke ≤ lim) (ls : ks ≤ lim) (lx : kx + ks ≤ lim)
    (h : ∀ σ' l', Lf f σ σ' → σ'[f]? = some l' → RowsX X σ' l' m k (offR E i s x) → Q .none σ') : Wp ((ev (n + 30)).c "take_off" [.lst f, .int i, .int s, q x] σ) Q := by
  have hcap : cap = 4000 := rfl
  obtain ⟨ci, ei, ai, hci⟩ := hr.2 i hi
  obtain ⟨cs, es, as, hcs⟩ := hr.2 s hs
  refine c_call F_take_off.2 ?_
  walk_at "py"
  refine g_lst hf (by walk_at "om") (by walk_at "om") (by simpa using ei) ?_
  walk_at "py"
  refine comp_enm (fun j y σ' => y = q (E i j - x * E s j)) (fun j y _ _ l hy => hy) hci (by rw [rowOf_len]; exact fm [_, _] [] [.nle (.v 0) (.l 1000), .neq (.v 1) (.l 4000)] (.nlt (.v 0) (.v 1)) [[1, 0, 1, 1]] rfl hk hcap) (by first | exact .inl rfl | exact .inr rfl) (by first | exact .inl rfl | exact .inr rfl) (fun j v V₂ σ₂ hj hle₂ hp₂ => ?_) (fun xs σ₂ hle₂ hlen hxs => ?_)
  · have hjk : j < k := by have := (List.getElem?_eq_some_iff.mp hj).1; rwa [rowOf_len] at this
    rw [rowOf_get hjk] at hj
    cases hj
    have h1 : At V₂ "a" (.lst f) := hp₂ _ _ rfl (by walk_at "lk")
    have h2 : At V₂ "source" (.int s) := hp₂ _ _ rfl (by walk_at "lk")
    have h3 : At V₂ "number" (q x) := hp₂ _ _ rfl (by walk_at "lk")
    walk_at "py"
    refine g_lst (hle₂ _ _ hf) (by walk_at "om") (by walk_at "om") (by simpa using es) ?_
    walk_at "py"
    refine g_lst (hle₂ _ _ hcs) (by walk_at "om") (by walk_at "om") (v := q (E s j)) (by simpa using rowOf_get hjk) ?_
    walk_at "py"
    refine rmul_wp (sx.mono (by exact fm [_, _, _] [] [.nle (.a (.v 0) (.v 1)) (.v 2)] (.nle (.v 0) (.v 2)) [[1, 1]] rfl lx)) ((ss j hjk).mono ls) ?_
    walk_at "py"
    refine rsub_wp ((se j hjk).mono le) ((sx.mul (ss j hjk)).mono lx) ?_
    repeat walk_at "back"
    exact ⟨Le.refl _, rfl⟩
  · rw [rowOf_len] at hlen hxs
    have hrow : xs = rowOf k (fun j => E i j - x * E s j) := rowOf_ext hlen fun j hj => by obtain ⟨y, e, hy⟩ := hxs j hj; rw [e, hy]
    refine ⟨by walk_at "om", ?_⟩
    intro ri σ₃ le₃ new at₃
    have hle := hle₂.trans le₃
    walk_at "py"
    refine ⟨f, i, l, rfl, rfl, hle _ _ hf, by walk_at "om", by rw [hr.1]; simpa using hi, by rw [hr.1]; exact fm [_, _] [] [.nle (.v 0) (.l 1000), .neq (.v 1) (.l 4000)] (.nle (.v 0) (.v 1)) [[1, 0, 1, 1]] rfl hm hcap, ?_⟩
    walk_at "py"
    refine h _ _ (hle.lf.trans Lf.set) (set_at (hle _ _ hf)) ?_
    rw [hrow] at at₃
    have hnew : ri ∉ X := not_in hXa (hle₂.none new)
    have h2 := ((hr.le hle).put hnew at₃ hi).lf hX (Lf.set (x := l.set (i : Int).toNat (.lst ri)))
    simp only [Int.toNat_natCast] at h2 ⊢
    repeat walk_at "back"
    exact h2
end
end
section

noncomputable def colsOf (cs : List Nat) : List PV := cs.map fun (c : Nat) => PV.int c
theorem colsOf_len {cs : List Nat} : (colsOf cs).length = cs.length := by simp [colsOf]
theorem colsOf_snoc {cs : List Nat} {c : Nat} : colsOf cs ++ [.int c] = colsOf (cs ++ [c]) := by simp [colsOf]

noncomputable def offs (E : Nat → Nat → Rat) (r col s : Nat) : Nat → Nat → Rat := fun i j => if i < s ∧ i ≠ r then E i j - E i col * E r j else E i j

section
variable {n : Nat} {σ : St} {Q : PV → St → Prop}

theorem copied_wp' {p : PV} {m k : Nat} {M : Nat → Nat → Rat} (hM : IsMat σ p m k M) (hm : m ≤ 1000) (hk : k ≤ 1000) (h : ∀ i l σ', Le σ σ' → σ[i]? = none → σ'[i]? = some l → RowsF i σ' l m k M → Q (.lst i) σ') : Wp ((ev (n + 12)).c "copied" [p] σ) Q := by
  have hcap : cap = 4000 := rfl
  obtain ⟨a, l, rfl, ha, hl⟩ := hM
  have e := hl.1
  refine c_call F_copied.2 ?_
  walk_at "py"
  refine comp_lst (fun i x σ' => IsRow σ' x k (M i)) (fun i x _ _ l hx => hx.le l) ha (by walk_at "om") (by first | exact .inl rfl | exact .inr rfl) (fun i v V' σ₁ hi hle hp => ?_) (fun xs σ₂ hle hlen hxs => ?_)
  · obtain ⟨_, b, rfl, hb⟩ := hl.get hi
    walk_at "py"
    refine bi_list (hle _ _ hb) (by rw [rowOf_len]; exact fm [_, _] [] [.nle (.v 0) (.l 1000), .neq (.v 1) (.l 4000)] (.nle (.v 0) (.v 1)) [[1, 0, 1, 1]] rfl hk hcap) ?_
    intro j σ₃ le₃ new at₃
    repeat walk_at "back"
    exact ⟨le₃, j, rfl, at₃⟩
  · refine ⟨by walk_at "om", ?_⟩
    intro j σ₃ le₃ new at₃
    walk_at "py"
    refine h _ _ _ (hle.trans le₃) (hle.none new) at₃ (Rows.apart (σ := σ₂) ⟨by walk_at "om", fun i hi => ?_⟩ new le₃)
    obtain ⟨x, e, hx⟩ := hxs i (by walk_at "om")
    repeat walk_at "back"
    exact ⟨x, e, hx⟩

theorem echelon_wp {p : PV} {m k : Nat} {A : Nat → Nat → Rat} (hA : IsMat σ p m k A) (h0 : m = 0 → k = 0) (hm : m ≤ 3) (hk : k ≤ 100) (sa : ∀ i j, i < m → j < k → Sz 2 (A i j))
    (h : ∀ f pi σ' l E cs, Le σ σ' → σ'[f]? = some l → Rows σ' l m k E → σ'[pi]? = some (colsOf cs) → Ech m k A E k cs → Q (.tup [.lst f, .lst pi]) σ') : Wp ((ev (n + 46)).c "echelon" [p] σ) Q := by
  have hcap : cap = 4000 := rfl
  refine c_call F_echelon.2 ?_
  walk_at "py"
  refine copied_wp' hA (by walk_at "om") (by walk_at "om") fun f l₁ σ₁ le₁ newf atf rows₁ => ?_
  walk_at "py"
  intro pi σ₂ le₂ newp atp
  have hpf : pi ≠ f := ne_of_new newp atf
  have newp' : σ[pi]? = none := le₁.none newp
  walk_at "py"
  refine shape_wp (hA.le (le₁.trans le₂)) h0 (by walk_at "om") (by walk_at "om") ?_
  walk_at "py"
  refine g_tup (by decide) (by decide) rfl ?_
  walk_at "py"
  refine bi_range (small_of (by walk_at "om") (by walk_at "om")) ?_
  walk_at "py"
  have X0 : RowsX [f, pi] σ₂ l₁ m k A := ⟨rows₁.1, fun i hi => by
    obtain ⟨c, e, a, hc⟩ := rows₁.2 i hi
    repeat walk_at "back"
    exact ⟨c, e, by simp only [List.mem_cons, List.not_mem_nil, or_false, not_or]; exact ⟨a, (ne_of_new newp hc).symm⟩, le₂ _ _ hc⟩⟩
  refine for_rule (fun col V σ' => All4 (At V "found" (.lst f)) (At V "pivots" (.lst pi)) (Le σ σ') (∃ l E cs, σ'[f]? = some l ∧ σ'[pi]? = some (colsOf cs) ∧ RowsX [f, pi] σ' l m k E ∧ Ech m k A E col cs)) k (by walk_at "om")
    ⟨by walk_at "lk", by walk_at "lk", le₁.trans le₂, l₁, A, [], le₂ _ _ atf, atp, X0, .start sa⟩ ?_ ?_
  · rintro col V σ' hcol ⟨h1, h2, hle, l, E, cs, hf, hp, hX, hE⟩
    have hlen := hX.1
    have hcs := hE.le
    refine ⟨_, _, nx_rng0 (by walk_at "om"), al_name (by first | exact .inl rfl | exact .inr rfl), ?_⟩
    walk_at "gate"
    walk_at "py"
    refine bi_leneq hp colsOf_len (by rw [colsOf_len]; exact fm [_, _, _] [] [.nle (.v 0) (.l 3), .neq (.v 1) (.l 4000), .nle (.v 2) (.v 0)] (.nle (.v 2) (.v 1)) [[1, 0, 1, 1, 1]] rfl hm hcap hcs) ?_
    walk_at "py"
    refine bi_leneq hf hlen (by walk_at "om") ?_
    walk_at "py"
    refine bi_range2 (small_of (by walk_at "om") (by exact fm [_, _] [] [.nle (.v 0) (.l 3), .nle (.v 1) (.v 0)] (.ile (.k (.v 1)) (.l 1000)) [[1, 1, 1]] rfl hm hcs)) (small_of (by walk_at "om") (by walk_at "om")) ?_
    walk_at "py"
    refine comp_rule (fun j V₂ σ₂ xs => σ₂ = σ' ∧ Pres ["at"] (Seen _ _) V₂ ∧ (xs = [] → ∀ i, cs.length ≤ i → i < cs.length + j → E i col = 0) ∧ (∀ v, xs[0]? = some v → ∃ p : Nat, v = .int p ∧ cs.length ≤ p ∧ p < cs.length + j ∧ E p col ≠ 0) ∧ xs.length ≤ j) (m - cs.length) (by exact fm [_, _, _, _] [] [.nle (.v 0) (.l 3), .neq (.v 1) (.l 4000), .or (.an (.nle (.v 2) (.v 0)) (.neq (.a (.v 3) (.v 2)) (.v 0))) (.an (.nle (.v 0) (.v 2)) (.neq (.v 3) (.l 0)))] (.nlt (.v 3) (.v 1)) [[1, 0, 1, 0, 1, 0, 1], [0, 0, 1, 0, 1, 0, 1]] rfl hm hcap (subn _ _))
      ⟨rfl, Pres.refl, fun _ i a1 a2 => False.elim (fm [_, _] [] [.nle (.v 0) (.v 1), .nlt (.v 1) (.a (.v 0) (.l 0))] .f [[1, 1]] rfl a1 a2), fun v e => by simp at e, by simp⟩ ?_ ?_
    · rintro j V₂ σ₂ xs hj ⟨rfl, hp₂, hz, hn, hl⟩
      refine ⟨_, _, nx_rng (by exact fm [_, _, _, _] [] [.nlt (.v 0) (.v 1), .or (.an (.nle (.v 2) (.v 3)) (.neq (.a (.v 1) (.v 2)) (.v 3))) (.an (.nle (.v 3) (.v 2)) (.neq (.v 1) (.l 0)))] (.ilt (.a (.k (.v 2)) (.k (.v 0))) (.k (.v 3))) [[1, 0, 1, 0, 1], [1, 0, 1]] rfl hj (subn _ _)), al_name (by first | exact .inl rfl | exact .inr rfl), ?_⟩
      walk_at "gate"
      rw [show (cs.length : Int) + (j : Int) = ((cs.length + j : Nat) : Int) by exact fm [_, _] [] [] (.ieq (.a (.k (.v 0)) (.k (.v 1))) (.k (.a (.v 0) (.v 1)))) [[1], [1]] rfl]
      have g1 : At V₂ "found" (.lst f) := hp₂ _ _ rfl (by walk_at "lk")
      have g2 : At V₂ "column" (.int col) := hp₂ _ _ rfl (by walk_at "lk")
      obtain ⟨c, ec, ac, hc⟩ := hX.2 (cs.length + j) (by exact fm [_, _, _, _] [] [.nlt (.v 0) (.v 1), .or (.an (.nle (.v 2) (.v 3)) (.neq (.a (.v 1) (.v 2)) (.v 3))) (.an (.nle (.v 3) (.v 2)) (.neq (.v 1) (.l 0)))] (.nlt (.a (.v 2) (.v 0)) (.v 3)) [[1, 0, 1, 0, 1], [1, 0, 1]] rfl hj (subn _ _))
      walk_at "py"
      refine g_lst hf (by walk_at "om") (by exact fm [_, _, _, _] [] [.nle (.v 0) (.l 3), .nlt (.v 1) (.v 2), .or (.an (.nle (.v 3) (.v 0)) (.neq (.a (.v 2) (.v 3)) (.v 0))) (.an (.nle (.v 0) (.v 3)) (.neq (.v 2) (.l 0)))] (.ile (.k (.a (.v 3) (.v 1))) (.l 1000000)) [[1, 1, 0, 1, 0, 1], [0, 1, 0, 1]] rfl hm hj (subn _ _)) (by rw [Int.toNat_natCast]; exact ec) ?_
      walk_at "py"
      refine g_lst hc (by walk_at "om") (by walk_at "om") (v := q (E (cs.length + j) col)) (by simpa using rowOf_get hcol) ?_
      walk_at "py"
      refine ⟨_, cmp_q_ne (y := 0), ?_⟩
      repeat walk_at "back"
      refine ⟨fun hb => ?_, fun hb => ?_⟩
      · have hb : E (cs.length + j) col ≠ 0 := by simpa using hb
        walk_at "py"
        refine ⟨hp₂.upd (by rfl) _, fun hx => by simp at hx, fun v e => ?_, by simp; exact fm [_, _] [] [.nle (.v 0) (.v 1)] (.nle (.v 0) (.v 1)) [[1, 1]] rfl hl⟩
        cases xs with
        | nil =>
          simp at e
          repeat walk_at "back"
          exact ⟨cs.length + j, e.symm, by exact fm [_, _] [] [] (.nle (.v 0) (.a (.v 0) (.v 1))) [[1]] rfl, by exact fm [_, _] [] [] (.nlt (.a (.v 0) (.v 1)) (.a (.v 0) (.a (.v 1) (.l 1)))) [[1]] rfl, hb⟩
        | cons x xs =>
          simp at e
          obtain ⟨p, e1, e2, e3, e4⟩ := hn v (by simpa using e)
          repeat walk_at "back"
          exact ⟨p, e1, e2, by exact fm [_, _, _] [] [.nlt (.v 0) (.a (.v 1) (.v 2))] (.nlt (.v 0) (.a (.v 1) (.a (.v 2) (.l 1)))) [[1, 1]] rfl e3, e4⟩
      · have hb : E (cs.length + j) col = 0 := by simpa using hb
        repeat walk_at "back"
        refine ⟨rfl, hp₂.upd (by rfl) _, fun hx i hi1 hi2 => ?_, fun v e => ?_, by exact fm [_, _] [] [.nle (.v 0) (.v 1)] (.nle (.v 0) (.a (.v 1) (.l 1))) [[1, 1]] rfl hl⟩
        · by_cases e : i = cs.length + j
          · rw [e]; exact hb
          · repeat walk_at "back"
            exact hz hx i hi1 (by exact fm [_, _, _] [] [.nlt (.v 0) (.a (.v 1) (.a (.v 2) (.l 1))), .no (.neq (.v 0) (.a (.v 1) (.v 2)))] (.nlt (.v 0) (.a (.v 1) (.v 2))) [[1, 1], [0, 1, 1]] rfl hi2 e)
        · obtain ⟨p, e1, e2, e3, e4⟩ := hn v e
          repeat walk_at "back"
          exact ⟨p, e1, e2, by exact fm [_, _, _] [] [.nlt (.v 0) (.a (.v 1) (.v 2))] (.nlt (.v 0) (.a (.v 1) (.a (.v 2) (.l 1)))) [[1, 1]] rfl e3, e4⟩
    · rintro V₂ σ₂ xs ⟨rfl, hp₂, hz, hn, hl⟩
      refine ⟨nx_rng_none (by exact fm [_, _, _] [] [.or (.an (.nle (.v 0) (.v 1)) (.neq (.a (.v 2) (.v 0)) (.v 1))) (.an (.nle (.v 1) (.v 0)) (.neq (.v 2) (.l 0)))] (.no (.ilt (.a (.k (.v 0)) (.k (.v 2))) (.k (.v 1)))) [[0, 0, 1, 1], [1, 0, 0, 1]] rfl (subn _ _)), by exact fm [_, _, _, _, _] [] [.nle (.v 0) (.l 3), .neq (.v 1) (.l 4000), .nle (.v 2) (.v 3), .or (.an (.nle (.v 4) (.v 0)) (.neq (.a (.v 3) (.v 4)) (.v 0))) (.an (.nle (.v 0) (.v 4)) (.neq (.v 3) (.l 0)))] (.nle (.v 2) (.v 1)) [[1, 0, 1, 1, 0, 1, 0, 1], [0, 0, 0, 1, 0, 1, 0, 1]] rfl hm hcap hl (subn _ _), ?_⟩
      repeat walk_at "back"
      intro si σ₃ le₃ new₃ at₃
      walk_at "py"
      refine bi_len at₃ (by exact fm [_, _, _, _, _] [] [.nle (.v 0) (.l 3), .neq (.v 1) (.l 4000), .nle (.v 2) (.v 3), .or (.an (.nle (.v 4) (.v 0)) (.neq (.a (.v 3) (.v 4)) (.v 0))) (.an (.nle (.v 0) (.v 4)) (.neq (.v 3) (.l 0)))] (.nle (.v 2) (.v 1)) [[1, 0, 1, 1, 0, 1, 0, 1], [0, 0, 0, 1, 0, 1, 0, 1]] rfl hm hcap hl (subn _ _)) ?_
      walk_at "py"
      refine ⟨fun hb => ?_, fun hb => ?_⟩
      · have hb : xs = [] := by
          cases xs with
          | nil => rfl
          | cons x xs => exfalso; first | (simp at hb; done) | (simp at hb; exact fm [_] [] [.ieq (.a (.k (.v 0)) (.l 1)) (.l 0)] .f [[1]] rfl hb)
        walk_at "py"
        exact ⟨by walk_at "lk", by walk_at "lk", hle.trans le₃, l, E, cs, le₃ _ _ hf, le₃ _ _ hp, hX.le le₃, hE.skip fun i h1 h2 => hz hb i h1 (by exact fm [_, _, _, _] [] [.nlt (.v 0) (.v 1), .or (.an (.nle (.v 2) (.v 1)) (.neq (.a (.v 3) (.v 2)) (.v 1))) (.an (.nle (.v 1) (.v 2)) (.neq (.v 3) (.l 0)))] (.nlt (.v 0) (.a (.v 2) (.v 3))) [[1, 0, 0, 1, 1], [1, 1, 0, 0, 1]] rfl h2 (subn _ _))⟩
      · have hb : xs ≠ [] := fun e => by rw [e] at hb; simp at hb
        obtain ⟨v, ev⟩ : ∃ v, xs[0]? = some v := by
          cases xs with
          | nil => exact absurd rfl hb
          | cons x xs => exact ⟨x, rfl⟩
        obtain ⟨p, rfl, p1, p2, p3⟩ := hn v ev
        walk_at "py"
        refine g_lst at₃ (by decide) (by decide) (by simpa using ev) ?_
        walk_at "py"
        refine swap_wp (i := cs.length) (j := p) (le₃ _ _ hf) (hX.le le₃) (by simp) (by exact fm [_, _, _, _] [] [.nle (.v 0) (.v 1), .nlt (.v 1) (.a (.v 0) (.v 2)), .or (.an (.nle (.v 0) (.v 3)) (.neq (.a (.v 2) (.v 0)) (.v 3))) (.an (.nle (.v 3) (.v 0)) (.neq (.v 2) (.l 0)))] (.nlt (.v 0) (.v 3)) [[1, 1, 0, 1, 0, 1], [1, 1, 0, 1]] rfl p1 p2 (subn _ _)) (by exact fm [_, _, _, _] [] [.nle (.v 0) (.v 1), .nlt (.v 2) (.a (.v 0) (.v 3)), .or (.an (.nle (.v 0) (.v 1)) (.neq (.a (.v 3) (.v 0)) (.v 1))) (.an (.nle (.v 1) (.v 0)) (.neq (.v 3) (.l 0)))] (.nlt (.v 2) (.v 1)) [[0, 1, 0, 1, 0, 1], [1, 1, 0, 1, 0, 1]] rfl hcs p2 (subn _ _)) (by walk_at "om") fun σ₄ l₄ lf₄ hf₄ hX₄ => ?_
        have hr : cs.length < m := by exact fm [_, _, _, _] [] [.nle (.v 0) (.v 1), .nlt (.v 1) (.a (.v 0) (.v 2)), .or (.an (.nle (.v 0) (.v 3)) (.neq (.a (.v 2) (.v 0)) (.v 3))) (.an (.nle (.v 3) (.v 0)) (.neq (.v 2) (.l 0)))] (.nlt (.v 0) (.v 3)) [[1, 1, 0, 1, 0, 1], [1, 1, 0, 1]] rfl p1 p2 (subn _ _)
        have hle₄ : Le σ σ₄ := (hle.trans le₃).lf_new newf lf₄
        have hp₄ : σ₄[pi]? = some (colsOf cs) := lf₄ _ _ hpf (le₃ _ _ hp)
        have hS : ∀ j, swapR E cs.length p cs.length j = E p j := fun j => by unfold swapR sw; rw [if_pos rfl]
        have hpm : p < m := by exact fm [_, _, _, _] [] [.nlt (.v 0) (.a (.v 1) (.v 2)), .nlt (.v 1) (.v 3), .or (.an (.nle (.v 1) (.v 3)) (.neq (.a (.v 2) (.v 1)) (.v 3))) (.an (.nle (.v 3) (.v 1)) (.neq (.v 2) (.l 0)))] (.nlt (.v 0) (.v 3)) [[1, 0, 0, 1, 0, 1], [0, 1, 1]] rfl p2 hr (subn _ _)
        have hb2 : bd cs.length ≤ 37 := bd_le2 (by exact fm [_, _] [] [.nle (.v 0) (.l 3), .nlt (.v 1) (.v 0)] (.nle (.v 1) (.l 2)) [[1, 1, 1]] rfl hm hr)
        have hlim : lim = 900 := rfl
        obtain ⟨cr, ecr, acr, hcr⟩ := hX₄.2 cs.length hr
        have hlen₄ := hX₄.1
        walk_at "py"
        refine g_lst hf₄ (by walk_at "om") (by walk_at "om") (by rw [Int.toNat_natCast]; exact ecr) ?_
        walk_at "py"
        refine g_lst hcr (by walk_at "om") (by walk_at "om") (v := q (E p col)) (by rw [← hS]; simpa using rowOf_get hcol) ?_
        walk_at "py"
        refine g_lst hf₄ (by walk_at "om") (by walk_at "om") (by rw [Int.toNat_natCast]; exact ecr) ?_
        walk_at "py"
        refine comp_lst (fun j y σ' => y = q (E p j / E p col)) (fun j y _ _ l hy => hy) hcr (by rw [rowOf_len]; exact fm [_, _] [] [.nle (.v 0) (.l 100), .neq (.v 1) (.l 4000)] (.nlt (.v 0) (.v 1)) [[1, 0, 1, 1]] rfl hk hcap) (by first | exact .inl rfl | exact .inr rfl) (fun j v V₃ σ₅ hj hle₅ hp₅ => ?_) (fun ys σ₅ hle₅ hlen₅ hys => ?_)
        · have hjk : j < k := by have := (List.getElem?_eq_some_iff.mp hj).1; rwa [rowOf_len] at this
          rw [rowOf_get hjk] at hj
          cases hj
          have g1 : At V₃ "lead" (q (E p col)) := hp₅ _ _ rfl (by walk_at "lk")
          walk_at "py"
          rw [hS]
          refine rdiv_wp ((hE.size p j hpm hjk).mono (by walk_at "om")) ((hE.size p col hpm hcol).mono (by walk_at "om")) p3 ?_
          repeat walk_at "back"
          exact ⟨Le.refl _, rfl⟩
        · rw [rowOf_len] at hlen₅ hys
          have hrow : ys = rowOf k (fun j => E p j / E p col) := rowOf_ext hlen₅ fun j hj => by obtain ⟨y, e, hy⟩ := hys j hj; rw [e, hy]
          refine ⟨by walk_at "om", ?_⟩
          intro ri σ₆ le₆ new₆ at₆
          have hle₆ := hle₅.trans le₆
          walk_at "py"
          refine ⟨f, cs.length, l₄, rfl, rfl, hle₆ _ _ hf₄, by walk_at "om", by rw [hlen₄]; simpa using hr, by walk_at "om", ?_⟩
          have hri : ri ∉ [f, pi] := not_in (σ := σ₄) (by
            intro x hx
            simp only [List.mem_cons, List.not_mem_nil, or_false] at hx
            rcases hx with rfl | rfl
            · repeat walk_at "back"
              exact ⟨_, hf₄⟩
            · repeat walk_at "back"
              exact ⟨_, hp₄⟩) (hle₅.none new₆)
          rw [hrow] at at₆
          have hX₆ := (((hX₄.le hle₆).put hri at₆ hr).lf (f := f) (by simp) (Lf.set (x := l₄.set cs.length (.lst ri)))).congr (M' := fun i j => if i = cs.length then E p j / E p col else E (sw cs.length p i) j) fun i j _ _ => rfl
          have hf₆ : (σ₆.set f (l₄.set cs.length (.lst ri)))[f]? = some (l₄.set cs.length (.lst ri)) := set_at (hle₆ _ _ hf₄)
          have hp₆ : (σ₆.set f (l₄.set cs.length (.lst ri)))[pi]? = some (colsOf cs) := set_ne hpf (hle₆ _ _ hp₄)
          have hle₇ : Le σ (σ₆.set f (l₄.set cs.length (.lst ri))) := (hle₄.trans hle₆).set newf _
          simp only [Int.toNat_natCast]
          generalize σ₆.set f (l₄.set cs.length (.lst ri)) = σ₇ at hX₆ hf₆ hp₆ hle₇ ⊢
          generalize l₄.set cs.length (.lst ri) = l₇ at hX₆ hf₆
          generalize hE' : (fun (i j : Nat) => if i = cs.length then E p j / E p col else E (sw cs.length p i) j) = E' at hX₆
          have eE : ∀ i j, E' i j = if i = cs.length then E p j / E p col else E (sw cs.length p i) j := fun i j => by rw [← hE']
          have sE : ∀ i j, i < m → j < k → i ≠ cs.length → Sz (bd cs.length) (E' i j) := fun i j hi hj hne => by rw [eE, if_neg hne]; exact hE.size _ j (sw_lt hr hpm hi) hj
          have sR : ∀ j, j < k → Sz (bd cs.length + bd cs.length) (E' cs.length j) := fun j hj => by rw [eE, if_pos rfl]; exact (hE.size p j hpm hj).div (hE.size p col hpm hcol) p3
          clear hE' hcr hrow hys hle₅ hlen₅
          have hlen₇ := hX₆.1
          walk_at "py"
          refine bi_leneq hf₆ hlen₇ (by walk_at "om") ?_
          walk_at "py"
          refine bi_range (small_of (by walk_at "om") (by walk_at "om")) ?_
          walk_at "py"
          refine for_rule (fun s V σ' => All7 (At V "found" (.lst f)) (At V "pivots" (.lst pi)) (At V "row" (.int cs.length)) (At V "column" (.int col)) (Le σ σ') (σ'[pi]? = some (colsOf cs)) (∃ l, σ'[f]? = some l ∧ RowsX [f, pi] σ' l m k (offs E' cs.length col s))) m (by walk_at "om")
            ⟨by walk_at "lk", by walk_at "lk", by walk_at "lk", by walk_at "lk", hle₇, hp₆, l₇, hf₆, hX₆.congr fun i j _ _ => by unfold offs; rw [if_neg (by exact fm [_, _] [] [] (.no (.an (.nlt (.v 0) (.l 0)) (.no (.neq (.v 0) (.v 1))))) [[1], [1]] rfl)]⟩ ?_ ?_
          · rintro s V₄ σ₈ hs ⟨g1, g2, g3, g4, hle₈, hp₈, l₈, hf₈, hX₈⟩
            refine ⟨_, _, nx_rng0 (by walk_at "om"), al_name (by first | exact .inl rfl | exact .inr rfl), ?_⟩
            walk_at "gate"
            obtain ⟨c, ec, ac, hc⟩ := hX₈.2 s hs
            have hlen₈ := hX₈.1
            have off_s : ∀ j, offs E' cs.length col s s j = E' s j := fun j => by unfold offs; rw [if_neg (by exact fm [_, _] [] [] (.no (.an (.nlt (.v 0) (.v 0)) (.no (.neq (.v 0) (.v 1))))) [[1], [1]] rfl)]
            have off_r : ∀ j, offs E' cs.length col s cs.length j = E' cs.length j := fun j => by unfold offs; rw [if_neg (by exact fm [_, _] [] [] (.no (.an (.nlt (.v 0) (.v 1)) (.no (.neq (.v 0) (.v 0))))) [[0, 1], [0, 1]] rfl)]
            have keep : (s = cs.length ∨ E' s col = 0) → RowsX [f, pi] σ₈ l₈ m k (offs E' cs.length col (s + 1)) := fun hk => hX₈.congr fun i j _ _ => by
              unfold offs
              by_cases his : i = s
              · subst his
                rw [if_neg (by exact fm [_, _] [] [] (.no (.an (.nlt (.v 0) (.v 0)) (.no (.neq (.v 0) (.v 1))))) [[1], [1]] rfl)]
                by_cases hir : i = cs.length
                · rw [if_neg (by exact fm [_, _] [] [.neq (.v 0) (.v 1)] (.no (.an (.nlt (.v 0) (.a (.v 0) (.l 1))) (.no (.neq (.v 0) (.v 1))))) [[1, 0, 0, 1], [0, 1, 0, 1]] rfl hir)]
                · rw [if_pos ⟨by walk_at "om", hir⟩]
                  rcases hk with hk | hk
                  · repeat walk_at "back"
                    exact absurd hk hir
                  · rw [hk]; grind
              · have : (i < s ∧ i ≠ cs.length) ↔ (i < s + 1 ∧ i ≠ cs.length) := ⟨fun q9 => ⟨Nat.lt_succ_of_lt q9.1, q9.2⟩, fun q9 => ⟨Nat.lt_of_le_of_ne (Nat.le_of_lt_succ q9.1) his, q9.2⟩⟩
                by_cases hc : i < s ∧ i ≠ cs.length
                · rw [if_pos hc, if_pos (this.mp hc)]
                · rw [if_neg hc, if_neg (fun z => hc (this.mpr z))]
            walk_at "py"
            refine ⟨fun hb => ?_, fun hb => ?_⟩
            · have hb : s = cs.length := by simp at hb; exact fm [_, _] [] [.ieq (.k (.v 0)) (.k (.v 1))] (.neq (.v 0) (.v 1)) [[1, 0, 1], [0, 1, 1]] rfl hb
              refine ⟨fun hb2 => (by cases hb2), fun _ => ?_⟩
              walk_at "py"
              exact ⟨by walk_at "lk", by walk_at "lk", by walk_at "lk", by walk_at "lk", hle₈, hp₈, l₈, hf₈, keep (.inl hb)⟩
            · have hb : s ≠ cs.length := by simp at hb; exact fm [_, _] [] [.no (.ieq (.k (.v 0)) (.k (.v 1)))] (.no (.neq (.v 0) (.v 1))) [[1, 1], [1, 0, 1]] rfl hb
              walk_at "py"
              refine g_lst hf₈ (by walk_at "om") (by walk_at "om") (by rw [Int.toNat_natCast]; exact ec) ?_
              walk_at "py"
              refine g_lst hc (by walk_at "om") (by walk_at "om") (v := q (E' s col)) (by rw [← off_s]; simpa using rowOf_get hcol) ?_
              walk_at "py"
              refine ⟨_, cmp_q_ne (y := 0), ?_⟩
              repeat walk_at "back"
              refine ⟨fun hz => ?_, fun hz => ?_⟩
              · have hz : E' s col = 0 := by simpa using hz
                refine ⟨fun hb2 => (by cases hb2), fun _ => ?_⟩
                walk_at "py"
                exact ⟨by walk_at "lk", by walk_at "lk", by walk_at "lk", by walk_at "lk", hle₈, hp₈, l₈, hf₈, keep (.inr hz)⟩
              · walk_at "py"
                refine ⟨fun _ => ?_, fun hb2 => (by cases hb2)⟩
                walk_at "py"
                refine g_lst hf₈ (by walk_at "om") (by walk_at "om") (by rw [Int.toNat_natCast]; exact ec) ?_
                walk_at "py"
                refine g_lst hc (by walk_at "om") (by walk_at "om") (v := q (E' s col)) (by rw [← off_s]; simpa using rowOf_get hcol) ?_
                walk_at "py"
                refine take_off_wp (i := s) (s := cs.length) (ke := bd cs.length) (ks := bd cs.length + bd cs.length) (kx := bd cs.length) hf₈ hX₈ (by simp) (by
                  intro x hx
                  simp only [List.mem_cons, List.not_mem_nil, or_false] at hx
                  rcases hx with rfl | rfl
                  · repeat walk_at "back"
                    exact ⟨_, hf₈⟩
                  · repeat walk_at "back"
                    exact ⟨_, hp₈⟩) hs hr (by walk_at "om") (by walk_at "om") (fun j hj => by rw [off_s]; exact sE s j hs hj hb) (fun j hj => by rw [off_r]; exact sR j hj) (sE s col hs hcol hb) (by walk_at "om") (by exact fm [_, _] [] [.nle (.v 0) (.l 37), .neq (.v 1) (.l 900)] (.nle (.a (.v 0) (.v 0)) (.v 1)) [[2, 0, 1, 1]] rfl hb2 hlim) (by exact fm [_, _] [] [.nle (.v 0) (.l 37), .neq (.v 1) (.l 900)] (.nle (.a (.v 0) (.a (.v 0) (.v 0))) (.v 1)) [[3, 0, 1, 1]] rfl hb2 hlim) fun σ₉ l₉ lf₉ hf₉ hX₉ => ?_
                walk_at "py"
                refine ⟨by walk_at "lk", by walk_at "lk", by walk_at "lk", by walk_at "lk", hle₈.lf_new newf lf₉, lf₉ _ _ hpf hp₈, l₉, hf₉, hX₉.congr fun i j _ _ => ?_⟩
                unfold offR
                by_cases his : i = s
                · subst his
                  rw [if_pos rfl, off_s, off_r]
                  unfold offs
                  rw [if_pos ⟨by walk_at "om", hb⟩]
                · rw [if_neg his]
                  unfold offs
                  have : (i < s ∧ i ≠ cs.length) ↔ (i < s + 1 ∧ i ≠ cs.length) := ⟨fun q9 => ⟨Nat.lt_succ_of_lt q9.1, q9.2⟩, fun q9 => ⟨Nat.lt_of_le_of_ne (Nat.le_of_lt_succ q9.1) his, q9.2⟩⟩
                  by_cases hc : i < s ∧ i ≠ cs.length
                  · rw [if_pos hc, if_pos (this.mp hc)]
                  · rw [if_neg hc, if_neg (fun z => hc (this.mpr z))]
          · rintro V₄ σ₈ ⟨g1, g2, g3, g4, hle₈, hp₈, l₈, hf₈, hX₈⟩
            refine ⟨nx_rng_none (by walk_at "om"), ?_⟩
            repeat walk_at "back"
            walk_at "py"
            refine ⟨pi, _, rfl, hp₈, by rw [colsOf_len]; exact fm [_, _, _] [] [.nle (.v 0) (.l 3), .neq (.v 1) (.l 4000), .nlt (.v 2) (.v 0)] (.nlt (.v 2) (.v 1)) [[1, 0, 1, 1, 1]] rfl hm hcap hr, ?_⟩
            walk_at "py"
            rw [colsOf_snoc]
            refine ⟨by walk_at "lk", by walk_at "lk", hle₈.set newp' _, l₈, piv E cs.length p col, cs ++ [col], set_ne (Ne.symm hpf) hf₈, set_at hp₈, (hX₈.lf (f := pi) (by simp) Lf.set).congr fun i j hi hj => ?_, hE.pivot p1 hpm p3 hcol⟩
            unfold offs piv
            by_cases hir : i = cs.length
            · rw [if_neg (by exact fm [_, _, _] [] [.neq (.v 0) (.v 1)] (.no (.an (.nlt (.v 0) (.v 2)) (.no (.neq (.v 0) (.v 1))))) [[1, 0, 0, 1], [0, 1, 0, 1]] rfl hir), eE, if_pos hir, if_pos hir]
            · rw [if_pos ⟨hi, hir⟩, if_neg hir, eE i j, eE i col, eE cs.length j, if_neg hir, if_neg hir, if_pos rfl]
  · rintro V σ' ⟨h1, h2, hle, l, E, cs, hf, hp, hX, hE⟩
    refine ⟨nx_rng_none (by walk_at "om"), ?_⟩
    repeat walk_at "back"
    walk_at "py"
    exact h _ _ _ _ _ _ hle hf hX.rows hp hE
end
end
section

theorem ssx_next {n : Nat} {N : List (Str × NameKind)} {V : Vars} {L : Bool} {σ : St} {s : Stmt} {r : List Stmt} {k : Str} {Q : St → Prop} (h : Ws (evS (ev n) s ⟨N, V, L⟩ σ) fun f V' σ₁ => f = .next ∧ Wx (evSs (ev n) r ⟨N, V', L⟩ σ₁) k Q) : Wx (evSs (ev n) (s :: r) ⟨N, V, L⟩ σ) k Q := by
  refine Wx.bindX' (Wp.mono h fun fv σ₁ h => ?_)
  obtain ⟨f, V'⟩ := fv
  obtain ⟨rfl, h⟩ := h
  repeat walk_at "back"
  exact h
theorem rowOf_app {a b : Nat} {f g : Nat → Rat} : rowOf a f ++ rowOf b g = rowOf (a + b) (fun j => if j < a then f j else g (j - a)) := by
  refine rowOf_ext (by simp [rowOf_len]) fun j hj => ?_
  by_cases h : j < a
  · rw [List.getElem?_append_left (by rw [rowOf_len]; exact h), rowOf_get h, if_pos h]
  · rw [List.getElem?_append_right (by rw [rowOf_len]; exact fm [_, _] [] [.no (.nlt (.v 0) (.v 1))] (.nle (.v 1) (.v 0)) [[1, 1]] rfl h), rowOf_len, rowOf_get (by exact fm [_, _, _, _] [] [.nlt (.v 0) (.a (.v 1) (.v 2)), .no (.nlt (.v 0) (.v 1)), .or (.an (.nle (.v 1) (.v 0)) (.neq (.a (.v 3) (.v 1)) (.v 0))) (.an (.nle (.v 0) (.v 1)) (.neq (.v 3) (.l 0)))] (.nlt (.v 3) (.v 2)) [[1, 0, 0, 1, 0, 1], [1, 1, 0, 1, 0, 1]] rfl hj h (subn _ _)), if_neg h]
theorem rowOf_drop {a b : Nat} {f : Nat → Rat} : (rowOf (a + b) f).drop a = rowOf b (fun j => f (a + j)) := by
  refine rowOf_ext (by simp [rowOf_len]) fun j hj => ?_
  rw [List.getElem?_drop, rowOf_get (by exact fm [_, _, _] [] [.nlt (.v 0) (.v 1)] (.nlt (.a (.v 2) (.v 0)) (.a (.v 2) (.v 1))) [[1, 1]] rfl hj)]
theorem rowOf_set {n c : Nat} {f : Nat → Rat} {x : Rat} : (rowOf n f).set c (q x) = rowOf n (fun j => if j = c then x else f j) := by
  refine rowOf_ext (by simp [rowOf_len]) fun j hj => ?_
  by_cases h : j = c
  · subst h
    rw [List.getElem?_set_self (by rw [rowOf_len]; exact hj), if_pos rfl]
  · rw [List.getElem?_set_ne (Ne.symm h), rowOf_get hj, if_neg h]
theorem rowOf_rep {n : Nat} {x : Rat} : List.replicate n (q x) = rowOf n (fun _ => x) := by
  refine rowOf_ext (by simp) fun j hj => by simp [hj]

theorem allInts_map {l : List Int} : allInts (l.map PV.int) = some l := by
  induction l with
  | nil => rfl
  | cons x l ih => show (allInts (l.map PV.int)).map (x :: ·) = _; rw [ih]; rfl
theorem colsOf_ints {cs : List Nat} : colsOf cs = (cs.map fun (c : Nat) => (c : Int)).map PV.int := by simp [colsOf]
theorem toD_ints {σ : St} {i k : Nat} {l : List Int} (h : σ[i]? = some (l.map PV.int)) : toD σ (k + 2) (.lst i) = some (.list (l.map PyData.int)) := by
  show (match σ[i]? with | some l => (listD (toD σ (k + 1)) l).map PyData.list | none => none) = _
  rw [h]
  show (listD (toD σ (k + 1)) (l.map PV.int)).map PyData.list = _
  rw [listD_map (ds := l.map PyData.int) (by simp) fun j hj => ?_]
  · rfl
  · simp at hj
    refine ⟨.int l[j], .int l[j], by simp [hj], by simp [hj], rfl⟩
theorem cmp_ints {σ : St} {i j : Nat} {l m : List Int} (hi : σ[i]? = some (l.map PV.int)) (hj : σ[j]? = some (m.map PV.int)) : ∃ c, cmp .NotEq (.lst i) (.lst j) σ = some c := by
  have h := pyEq_of (toD_ints (k := 6) hi) (toD_ints (k := 6) hj)
  refine ⟨!(PyData.eqv (.list (l.map PyData.int)) (.list (m.map PyData.int))), ?_⟩
  show (pyEq σ (.lst i) (.lst j)).map (!·) = _
  rw [h]; rfl
theorem cmp_in {σ : St} {i : Nat} {x : Int} {cs : List Nat} (hi : σ[i]? = some (colsOf cs)) : cmp .In (.int x) (.lst i) σ = some (cs.any fun c => (c : Int) == x) := by
  show (match σ[i]? with | some l => (allInts l).map (fun (ns : List Int) => ns.any (· == x)) | none => none) = _
  rw [hi]
  show (allInts (colsOf cs)).map (fun (ns : List Int) => ns.any (· == x)) = _
  rw [colsOf_ints, allInts_map]
  show some ((cs.map fun (c : Nat) => (c : Int)).any fun y => y == x) = _
  rw [List.any_map]
  rfl
theorem ex_cmp_in {σ : St} {i : Nat} {x : Int} {cs : List Nat} {P : Bool → Prop} (hi : σ[i]? = some (colsOf cs)) (h : P (cs.any fun c => (c : Int) == x)) : ∃ c, cmp .In (.int x) (.lst i) σ = some c ∧ P c := ⟨_, cmp_in hi, h⟩

section
variable {n : Nat} {σ : St} {Q : PV → St → Prop}

theorem rank_wp {p : PV} {m k : Nat} {A : Nat → Nat → Rat} (hA : IsMat σ p m k A) (h0 : m = 0 → k = 0) (hm : m ≤ 3) (hk : k ≤ 100) (sa : ∀ i j, i < m → j < k → Sz 2 (A i j)) (h : ∀ r σ', Le σ σ' → r ≤ 3 → Rk m k A r → Q (.int (r : Nat)) σ') : Wp ((ev (n + 56)).c "rank" [p] σ) Q := by
  have hcap : cap = 4000 := rfl
  refine c_call F_rank.2 ?_
  walk_at "py"
  refine echelon_wp hA h0 hm hk sa fun f pi σ' l E cs hle hf hr hp hE => ?_
  have hcs := hE.le
  walk_at "py"
  refine g_tup (by decide) (by decide) rfl ?_
  walk_at "py"
  refine bi_leneq hp colsOf_len (by rw [colsOf_len]; exact fm [_, _, _] [] [.nle (.v 0) (.l 3), .neq (.v 1) (.l 4000), .nle (.v 2) (.v 0)] (.nle (.v 2) (.v 1)) [[1, 0, 1, 1, 1]] rfl hm hcap hcs) ?_
  walk_at "py"
  exact h _ _ hle (by exact fm [_, _] [] [.nle (.v 0) (.l 3), .nle (.v 1) (.v 0)] (.nle (.v 1) (.l 3)) [[1, 1, 1]] rfl hm hcs) hE.rank

theorem inverse_wp {p : PV} {m : Nat} {A : Nat → Nat → Rat} (hA : IsMat σ p m m A) (hm : m ≤ 3) (sa : ∀ i j, i < m → j < m → Sz 2 (A i j)) (h : ∀ v σ', Le σ σ' → (v = .none ∨ ∃ B, IsMat σ' v m m B) → Q v σ') : Wp ((ev (n + 60)).c "inverse" [p] σ) Q := by
  have hcap : cap = 4000 := rfl
  obtain ⟨a, l, rfl, ha, hl⟩ := id hA
  have hlen := hl.1
  refine c_call F_inverse.2 ?_
  walk_at "py"
  refine bi_leneq ha hlen (by walk_at "om") ?_
  walk_at "py"
  refine shape_wp hA (fun e => e) (by walk_at "om") (by walk_at "om") ?_
  walk_at "py"
  refine g_tup (by decide) (by decide) rfl ?_
  walk_at "py"
  refine ⟨fun _ => ?_, fun hc => absurd hc (by simp)⟩
  walk_at "py"
  refine need_wp ?_
  walk_at "py"
  refine comp_enm (fun i x σ' => IsRow σ' x (m + m) (fun j => if j < m then A i j else idm i (j - m))) (fun i x _ _ l hx => hx.le l) ha (by walk_at "om") (by first | exact .inl rfl | exact .inr rfl) (by first | exact .inl rfl | exact .inr rfl) (fun i v V' σ₁ hi hle hp => ?_) (fun xs σ₂ hle hlen₂ hxs => ?_)
  · obtain ⟨hi', c, rfl, hc⟩ := hl.get hi
    have h1 : At V' "n" (.int m) := hp _ _ rfl (by walk_at "lk")
    walk_at "py"
    refine bi_list (hle _ _ hc) (by rw [rowOf_len]; exact fm [_, _] [] [.nle (.v 0) (.l 3), .neq (.v 1) (.l 4000)] (.nle (.v 0) (.v 1)) [[1, 0, 1, 1]] rfl hm hcap) ?_
    intro c1 σ₂ le₂ new₂ at₂
    walk_at "py"
    refine unit_wp (by walk_at "om") fun pu σ₃ le₃ hU => ?_
    obtain ⟨u, lu, rfl, hu, hlu⟩ := hU
    obtain ⟨w, hw, d, rfl, hd⟩ := hlu.2 i hi'
    walk_at "py"
    refine g_lst hu (by walk_at "om") (by walk_at "om") (by rw [Int.toNat_natCast]; exact hw) ?_
    refine b_cat (le₃ _ _ at₂) hd (by rw [List.length_append, rowOf_len, rowOf_len]; exact fm [_, _] [] [.nle (.v 0) (.l 3), .neq (.v 1) (.l 4000)] (.nle (.a (.v 0) (.v 0)) (.v 1)) [[2, 0, 1, 1]] rfl hm hcap) ?_
    intro c2 σ₄ le₄ new₄ at₄
    rw [rowOf_app] at at₄
    repeat walk_at "back"
    exact ⟨le₂.trans (le₃.trans le₄), c2, rfl, at₄⟩
  · refine ⟨by walk_at "om", ?_⟩
    intro j σ₃ le₃ new at₃
    have hW : IsMat σ₃ (.lst j) m (m + m) (fun i j => if j < m then A i j else idm i (j - m)) := ⟨j, xs, rfl, at₃, by walk_at "om", fun i hi => by obtain ⟨x, e, hx⟩ := hxs i (by walk_at "om"); exact ⟨x, e, hx.le le₃⟩⟩
    walk_at "py"
    refine echelon_wp hW (by walk_at "om") hm (by exact fm [_] [] [.nle (.v 0) (.l 3)] (.nle (.a (.v 0) (.v 0)) (.l 100)) [[2, 1]] rfl hm) (fun i j hi hj => ?_) fun f pi σ₄ l₄ E cs hle₄ hf₄ hr₄ hp₄ hE => ?_
    · by_cases hjm : j < m
      · simp only [if_pos hjm]; exact sa i j hi hjm
      · simp only [if_neg hjm]
        unfold idm
        split
        · repeat walk_at "back"
          exact Sz.one.mono (by decide)
        · repeat walk_at "back"
          exact Sz.zero.mono (by decide)
    have hcs := hE.le
    have hl4 := hr₄.1
    walk_at "py"
    refine ⟨pi, m, _, rfl, rfl, by walk_at "om", by walk_at "om", hp₄, by rw [colsOf_len]; exact fm [_, _, _] [] [.nle (.v 0) (.l 3), .neq (.v 1) (.l 4000), .nle (.v 2) (.v 0)] (.nle (.v 2) (.v 1)) [[1, 0, 1, 1, 1]] rfl hm hcap hcs, ?_⟩
    intro t1 σ₅ le₅ new₅ at₅
    walk_at "py"
    refine bi_range (small_of (by walk_at "om") (by walk_at "om")) ?_
    walk_at "py"
    refine bi_listr (by exact fm [_] [] [.nle (.v 0) (.l 3)] (.ile (.s (.k (.v 0)) (.l 0)) (.l 1000)) [[1, 1]] rfl hm) ?_
    intro t2 σ₆ le₆ new₆ at₆
    have e1 : ∃ is : List Int, (colsOf cs).take (m : Int).toNat = is.map PV.int := ⟨_, by rw [colsOf_ints, ← List.map_take]⟩
    obtain ⟨is, e1⟩ := e1
    have e2 : ∃ js : List Int, rangeInts 0 (m : Int) = js.map PV.int := ⟨(List.range ((m : Int) - 0).toNat).map fun (i : Nat) => 0 + (i : Int), by unfold rangeInts; rw [List.map_map]; rfl⟩
    obtain ⟨js, e2⟩ := e2
    rw [e1] at at₅
    rw [e2] at at₆
    obtain ⟨c, hc⟩ := cmp_ints (le₆ _ _ at₅) at₆
    refine ⟨c, hc, fun _ => ?_, fun _ => ?_⟩
    · walk_at "py"
      repeat walk_at "back"
      exact h _ _ (hle.trans (le₃.trans (hle₄.trans (le₅.trans le₆)))) (.inl rfl)
    · walk_at "py"
      have le₇ := le₅.trans le₆
      refine comp_lst (fun i x σ' => IsRow σ' x m (fun j => E i (m + j))) (fun i x _ _ l hx => hx.le l) (le₇ _ _ hf₄) (by walk_at "om") (by first | exact .inl rfl | exact .inr rfl) (fun i v V' σ₁ hi hle hp => ?_) (fun ys σ₈ hle₈ hlen₈ hys => ?_)
      · obtain ⟨hi', c, rfl, hc⟩ := hr₄.get hi
        have g1 : At V' "n" (.int m) := hp _ _ rfl (by walk_at "lk")
        walk_at "py"
        refine ⟨c, m, _, rfl, rfl, by walk_at "om", by walk_at "om", hle _ _ (le₇ _ _ hc), by rw [rowOf_len]; exact fm [_, _] [] [.nle (.v 0) (.l 3), .neq (.v 1) (.l 4000)] (.nle (.a (.v 0) (.v 0)) (.v 1)) [[2, 0, 1, 1]] rfl hm hcap, ?_⟩
        intro t σ₉ le₉ new₉ at₉
        rw [Int.toNat_natCast, rowOf_drop] at at₉
        repeat walk_at "back"
        exact ⟨le₉, t, rfl, at₉⟩
      · refine ⟨by walk_at "om", ?_⟩
        intro t σ₉ le₉ new₉ at₉
        walk_at "py"
        exact h _ _ (hle.trans (le₃.trans (hle₄.trans (le₇.trans (hle₈.trans le₉))))) (.inr ⟨_, t, ys, rfl, at₉, by walk_at "om", fun i hi => by obtain ⟨x, e, hx⟩ := hys i (by walk_at "om"); exact ⟨x, e, hx.le le₉⟩⟩)
theorem inverse_wx {p : PV} {m k : Nat} {A : Nat → Nat → Rat} (hA : IsMat σ p m k A) (h0 : m ≠ 0) (hm : m ≤ 100) (hk : k ≤ 100) (hne : m ≠ k) {Q : St → Prop} (h : Q σ) : Wx ((ev (n + 60)).c "inverse" [p] σ) "shape" Q := by
  have hcap : cap = 4000 := rfl
  obtain ⟨a, l, rfl, ha, hl⟩ := id hA
  have hlen := hl.1
  refine cx_call F_inverse.2 (sx_start (ssx_next ?_))
  walk_at "py"
  refine bi_leneq ha hlen (by walk_at "om") ?_
  walk_at "py"
  refine ssx_here (sx_expr (ex_call ?_ (by with_unfolding_all rfl) (by with_unfolding_all rfl) (by with_unfolding_all rfl)))
  walk_at "py"
  refine shape_wp hA (fun e => absurd e h0) (by walk_at "om") (by walk_at "om") ?_
  walk_at "py"
  refine g_tup (by decide) (by decide) rfl ?_
  walk_at "py"
  refine ⟨fun hc => absurd hc (by simp; exact fm [_, _] [] [.no (.neq (.v 0) (.v 1))] (.no (.ieq (.k (.v 0)) (.k (.v 1)))) [[1, 1], [1, 0, 1]] rfl hne), fun _ => ?_⟩
  walk_at "py"
  rw [show ((m : Int) == 0) = false by simp; exact h0]
  repeat walk_at "back"
  exact need_wx (by decide +kernel) h
end
end
section

theorem one_q0 : [q 0] = rowOf 1 (fun _ => 0) := rfl
theorem colsOf_get {cs : List Nat} {s : Nat} (h : s < cs.length) : ∃ c, cs[s]? = some c ∧ (colsOf cs)[s]? = some (.int (c : Nat)) := ⟨cs[s], by simp [h], by simp [colsOf, h]⟩

section
variable {n : Nat} {σ : St} {Q : PV → St → Prop}

theorem null_wp {p : PV} {m k : Nat} {A : Nat → Nat → Rat} (hA : IsMat σ p m k A) (h0 : m = 0 → k = 0) (hm : m ≤ 3) (hk : k ≤ 100) (sa : ∀ i j, i < m → j < k → Sz 2 (A i j)) (h : ∀ w σ' r B, Le σ σ' → IsMat σ' w r k B → Q w σ') : Wp ((ev (n + 60)).c "null_base" [p] σ) Q := by
  have hcap : cap = 4000 := rfl
  refine c_call F_null_base.2 ?_
  walk_at "py"
  refine echelon_wp hA h0 hm hk sa fun f pi σ₁ l E cs hle hf hr hp hE => ?_
  have hcs := hE.le
  have hlr := hr.1
  walk_at "py"
  intro fo σ₂ le₂ newo ato
  walk_at "py"
  refine shape_wp (hA.le (hle.trans le₂)) h0 (by walk_at "om") (by walk_at "om") ?_
  walk_at "py"
  refine g_tup (by decide) (by decide) rfl ?_
  walk_at "py"
  refine bi_range (small_of (by walk_at "om") (by walk_at "om")) ?_
  walk_at "py"
  refine for_rule (fun c V σ' => All6 (At V "a" p) (At V "reduced" (.lst f)) (At V "pivots" (.lst pi)) (At V "found" (.lst fo)) (Le σ₁ σ') (∃ l B, σ'[fo]? = some l ∧ l.length ≤ c ∧ RowsF fo σ' l l.length k B)) k (by walk_at "om")
    ⟨by walk_at "lk", by walk_at "lk", by walk_at "lk", by walk_at "lk", le₂, [], fun _ _ => 0, ato, by simp, rfl, fun i hi => by simp at hi⟩ ?_ ?_
  · rintro c V σ' hc ⟨h1, h2, h3, h4, hle', lo, B, ho, hlo, hB⟩
    refine ⟨_, _, nx_rng0 (by walk_at "om"), al_name (by first | exact .inl rfl | exact .inr rfl), ?_⟩
    walk_at "gate"
    walk_at "py"
    refine ex_cmp_in (hle' _ _ hp) ⟨fun _ => ?_, fun _ => ?_⟩
    · walk_at "py"
      repeat walk_at "back"
      exact ⟨by walk_at "lk", by walk_at "lk", by walk_at "lk", by walk_at "lk", hle', lo, B, ho, by exact fm [_, _] [] [.nle (.v 0) (.v 1)] (.nle (.v 0) (.a (.v 1) (.l 1))) [[1, 1]] rfl hlo, hB⟩
    · walk_at "py"
      intro t1 σ₃ le₃ new₃ at₃
      walk_at "py"
      refine shape_wp (hA.le (hle.trans (hle'.trans le₃))) h0 (by walk_at "om") (by walk_at "om") ?_
      walk_at "py"
      refine g_tup (by decide) (by decide) rfl ?_
      refine b_rep (v := q 0) at₃ (by walk_at "om") (by walk_at "om") ?_
      intro oi σ₄ le₄ new₄ at₄
      rw [Int.toNat_natCast, rowOf_rep] at at₄
      have newi : σ'[oi]? = none := le₃.none new₄
      have hof : oi ≠ fo := ne_of_new newi ho
      walk_at "py"
      refine ⟨oi, c, _, rfl, rfl, at₄, by walk_at "om", by rw [rowOf_len]; simpa using hc, by rw [rowOf_len]; exact fm [_, _] [] [.nle (.v 0) (.l 100), .neq (.v 1) (.l 4000)] (.nle (.v 0) (.v 1)) [[1, 0, 1, 1]] rfl hk hcap, ?_⟩
      have e1 : (rowOf k fun _ => (0 : Rat)).set (c : Int).toNat (.tup [.int 1, .int 1]) = rowOf k _ := rowOf_set (x := 1)
      rw [e1]
      walk_at "py"
      refine for_rule (fun s V σ'' => All8 (At V "a" p) (At V "reduced" (.lst f)) (At V "pivots" (.lst pi)) (At V "found" (.lst fo)) (At V "one" (.lst oi)) (At V "column" (.int c)) (Le σ' σ'') (∃ g, σ''[oi]? = some (rowOf k g))) cs.length (by exact fm [_, _, _] [] [.nle (.v 0) (.l 3), .neq (.v 1) (.l 4000), .nle (.v 2) (.v 0)] (.nlt (.v 2) (.v 1)) [[1, 0, 1, 1, 1]] rfl hm hcap hcs)
        ⟨by walk_at "lk", by walk_at "lk", by walk_at "lk", by walk_at "lk", by walk_at "lk", by walk_at "lk", (le₃.trans le₄).set newi _, _, set_at at₄⟩ ?_ ?_
      · rintro s V₂ σ₅ hs ⟨g1, g2, g3, g4, g5, g6, hle₅, g, hg⟩
        obtain ⟨b, hb, hb'⟩ := colsOf_get hs
        have hbk := hE.lt s b hb
        obtain ⟨w, hw, d, rfl, hd⟩ := hr.2 s (by exact fm [_, _, _] [] [.nle (.v 0) (.v 1), .nlt (.v 2) (.v 0)] (.nlt (.v 2) (.v 1)) [[1, 1, 1]] rfl hcs hs)
        have le5 := hle'.trans hle₅
        refine ⟨_, _, nx_enm (le5 _ _ hp) hb', al_two (by first | exact .inl rfl | exact .inr rfl) (by first | exact .inl rfl | exact .inr rfl), ?_⟩
        walk_at "gate"
        walk_at "py"
        refine g_lst (le5 _ _ hf) (by walk_at "om") (by exact fm [_, _, _] [] [.nle (.v 0) (.l 3), .nle (.v 1) (.v 0), .nlt (.v 2) (.v 1)] (.ile (.k (.v 2)) (.l 1000000)) [[1, 1, 1, 1]] rfl hm hcs hs) (by rw [Int.toNat_natCast]; exact hw) ?_
        walk_at "py"
        refine g_lst (le5 _ _ hd) (by walk_at "om") (by walk_at "om") (v := q (E s c)) (by simpa using rowOf_get hc) ?_
        walk_at "py"
        refine rneg_wp ?_
        walk_at "py"
        refine ⟨oi, b, _, rfl, rfl, hg, by walk_at "om", by rw [rowOf_len]; simpa using hbk, by rw [rowOf_len]; exact fm [_, _] [] [.nle (.v 0) (.l 100), .neq (.v 1) (.l 4000)] (.nle (.v 0) (.v 1)) [[1, 0, 1, 1]] rfl hk hcap, ?_⟩
        rw [rowOf_set]
        walk_at "py"
        exact ⟨by walk_at "lk", by walk_at "lk", by walk_at "lk", by walk_at "lk", by walk_at "lk", by walk_at "lk", hle₅.set newi _, _, set_at hg⟩
      · rintro V₂ σ₅ ⟨g1, g2, g3, g4, g5, g6, hle₅, g, hg⟩
        have le5 := hle'.trans hle₅
        refine ⟨nx_enm_none (le5 _ _ hp) (by simp [colsOf_len]), ?_⟩
        repeat walk_at "back"
        walk_at "py"
        refine ⟨fo, lo, rfl, hle₅ _ _ ho, by exact fm [_, _, _, _] [] [.nle (.v 0) (.l 100), .neq (.v 1) (.l 4000), .nlt (.v 2) (.v 0), .nle (.v 3) (.v 2)] (.nlt (.v 3) (.v 1)) [[1, 0, 1, 1, 1, 1]] rfl hk hcap hc hlo, ?_⟩
        walk_at "py"
        have newo' : σ₁[fo]? = none := newo
        refine ⟨by walk_at "lk", by walk_at "lk", by walk_at "lk", by walk_at "lk", le5.set newo' _, _, fun i j => if i = lo.length then g j else B i j, set_at (hle₅ _ _ ho), by simp; exact fm [_, _] [] [.nle (.v 0) (.v 1)] (.nle (.v 0) (.v 1)) [[1, 1]] rfl hlo, by simp, fun i hi => ?_⟩
        simp at hi
        by_cases e : i = lo.length
        · subst e
          refine ⟨oi, by simp, hof, ?_⟩
          simp only [if_true]
          repeat walk_at "back"
          exact set_ne hof hg
        · obtain ⟨x, e1, e2, e3⟩ := hB.2 i (by exact fm [_, _] [] [.nlt (.v 0) (.a (.v 1) (.l 1)), .no (.neq (.v 0) (.v 1))] (.nlt (.v 0) (.v 1)) [[1, 1], [0, 1, 1]] rfl hi e)
          refine ⟨x, by rw [List.getElem?_append_left (by exact fm [_, _] [] [.nlt (.v 0) (.a (.v 1) (.l 1)), .no (.neq (.v 0) (.v 1))] (.nlt (.v 0) (.v 1)) [[1, 1], [0, 1, 1]] rfl hi e)]; exact e1, e2, ?_⟩
          simp only [if_neg e]
          repeat walk_at "back"
          exact set_ne e2 (hle₅ _ _ e3)
  · rintro V σ' ⟨h1, h2, h3, h4, hle', lo, B, ho, hlo, hB⟩
    refine ⟨nx_rng_none (by walk_at "om"), ?_⟩
    repeat walk_at "back"
    walk_at "py"
    exact h _ _ _ B (hle.trans hle') ⟨fo, lo, rfl, ho, hB.rows⟩

theorem solve_wp {p : PV} {m k b : Nat} {A : Nat → Nat → Rat} (hA : IsMat σ p m k A) (hb : σ[b]? = some (rowOf m fun _ => 0)) (h0 : m = 0 → k = 0) (hm : m ≤ 3) (hk : k ≤ 50) (sa : ∀ i j, i < m → j < k → Sz 2 (A i j))
    (h : ∀ u w σ' r B, Le σ σ' → (u = .none ∨ ∃ g, IsRow σ' u k g) → IsMat σ' w r k B → Q (.tup [u, w]) σ') : Wp ((ev (n + 66)).c "solve_system" [p, .lst b] σ) Q := by
  have hcap : cap = 4000 := rfl
  obtain ⟨a, l, rfl, ha, hl⟩ := id hA
  have hlen := hl.1
  refine c_call F_solve_system.2 ?_
  walk_at "py"
  refine bi_leneq ha hlen (by walk_at "om") ?_
  walk_at "py"
  refine bi_leneq hb rowOf_len (by rw [rowOf_len]; exact fm [_, _] [] [.nle (.v 0) (.l 3), .neq (.v 1) (.l 4000)] (.nle (.v 0) (.v 1)) [[1, 0, 1, 1]] rfl hm hcap) ?_
  walk_at "py"
  rw [show ((m : Int) == (m : Int)) = true by simp]
  refine need_wp ?_
  walk_at "py"
  refine shape_wp hA h0 (by walk_at "om") (by walk_at "om") ?_
  walk_at "py"
  refine g_tup (by decide) (by decide) rfl ?_
  walk_at "py"
  refine comp_enm (fun i x σ' => IsRow σ' x (k + 1) (fun j => if j < k then A i j else 0)) (fun i x _ _ l hx => hx.le l) ha (by walk_at "om") (by first | exact .inl rfl | exact .inr rfl) (by first | exact .inl rfl | exact .inr rfl) (fun i v V' σ₁ hi hle hp => ?_) (fun xs σ₂ hle hlen₂ hxs => ?_)
  · obtain ⟨hi', c, rfl, hc⟩ := hl.get hi
    have h1 : At V' "b" (.lst b) := hp _ _ rfl (by walk_at "lk")
    walk_at "py"
    refine bi_list (hle _ _ hc) (by rw [rowOf_len]; exact fm [_, _] [] [.nle (.v 0) (.l 50), .neq (.v 1) (.l 4000)] (.nle (.v 0) (.v 1)) [[1, 0, 1, 1]] rfl hk hcap) ?_
    intro c1 σ₂ le₂ new₂ at₂
    walk_at "py"
    refine g_lst (le₂ _ _ (hle _ _ hb)) (by walk_at "om") (by walk_at "om") (v := q 0) (by simpa using rowOf_get hi') ?_
    walk_at "py"
    intro c2 σ₃ le₃ new₃ at₃
    rw [one_q0] at at₃
    refine b_cat (le₃ _ _ at₂) at₃ (by rw [List.length_append, rowOf_len, rowOf_len]; exact fm [_, _] [] [.nle (.v 0) (.l 50), .neq (.v 1) (.l 4000)] (.nle (.a (.v 0) (.l 1)) (.v 1)) [[1, 0, 1, 1]] rfl hk hcap) ?_
    intro c3 σ₄ le₄ new₄ at₄
    rw [rowOf_app] at at₄
    repeat walk_at "back"
    exact ⟨le₂.trans (le₃.trans le₄), c3, rfl, at₄⟩
  · refine ⟨by walk_at "om", ?_⟩
    intro j σ₃ le₃ new at₃
    have hK : ∃ K, (m = 0 → K = 0) ∧ (m ≠ 0 → K = k + 1) ∧ K ≤ 100 := by
      by_cases e : m = 0
      · repeat walk_at "back"
        exact ⟨0, fun _ => rfl, fun z => absurd e z, by walk_at "om"⟩
      · repeat walk_at "back"
        exact ⟨k + 1, fun z => absurd z e, fun _ => rfl, by exact fm [_] [] [.nle (.v 0) (.l 50)] (.nle (.a (.v 0) (.l 1)) (.l 100)) [[1, 1]] rfl hk⟩
    obtain ⟨K, hK0, hK1, hK2⟩ := hK
    have hW : IsMat σ₃ (.lst j) m K (fun i j => if j < k then A i j else 0) := ⟨j, xs, rfl, at₃, by walk_at "om", fun i hi => by
      obtain ⟨x, e, hx⟩ := hxs i (by walk_at "om")
      rw [hK1 (by exact fm [_, _] [] [.nlt (.v 0) (.v 1)] (.no (.neq (.v 1) (.l 0))) [[1, 1]] rfl hi)]
      repeat walk_at "back"
      exact ⟨x, e, hx.le le₃⟩⟩
    walk_at "py"
    refine echelon_wp hW hK0 hm hK2 (fun i j hi hj => ?_) fun f pi σ₄ l₄ E cs hle₄ hf₄ hr₄ hp₄ hE => ?_
    · split
      · rename_i hjk; exact sa i j hi hjk
      · repeat walk_at "back"
        exact Sz.zero.mono (by decide)
    have hcs := hE.le
    have hl4 := hr₄.1
    have le4 := hle.trans (le₃.trans hle₄)
    walk_at "py"
    refine ex_cmp_in hp₄ ⟨fun _ => ?_, fun hw => ?_⟩
    · walk_at "py"
      refine null_wp (hA.le le4) h0 hm (by walk_at "om") sa fun w σ₅ r B le₅ hB => ?_
      walk_at "py"
      exact h _ _ _ _ _ (le4.trans le₅) (.inl rfl) hB
    · have hnw : ∀ (t c : Nat), cs[t]? = some c → c < k := fun t c e => by
        have h1 := hE.lt t c e
        have ht := (List.getElem?_eq_some_iff.mp e).1
        rw [hK1 (by exact fm [_, _, _] [] [.nle (.v 0) (.v 1), .nlt (.v 2) (.v 0)] (.no (.neq (.v 1) (.l 0))) [[1, 1, 1]] rfl hcs ht)] at h1
        have h2 : c ≠ k := fun z => by
          rw [List.any_eq_false] at hw
          have := hw c (List.mem_of_getElem? e)
          rw [z] at this
          simp at this
        exact fm [_, _] [] [.nlt (.v 0) (.a (.v 1) (.l 1)), .no (.neq (.v 0) (.v 1))] (.nlt (.v 0) (.v 1)) [[1, 1], [0, 1, 1]] rfl h1 h2
      walk_at "py"
      intro t1 σ₅ le₅ new₅ at₅
      walk_at "py"
      refine b_rep (v := q 0) at₅ (by walk_at "om") (by walk_at "om") ?_
      intro fo σ₆ le₆ new₆ at₆
      rw [Int.toNat_natCast, rowOf_rep] at at₆
      have newf : σ₄[fo]? = none := le₅.none new₆
      walk_at "py"
      refine for_rule (fun s V σ'' => All6 (At V "a" (.lst a)) (At V "reduced" (.lst f)) (At V "found" (.lst fo)) (At V "width" (.int k)) (Le σ₄ σ'') (∃ g, σ''[fo]? = some (rowOf k g))) cs.length (by exact fm [_, _, _] [] [.nle (.v 0) (.l 3), .neq (.v 1) (.l 4000), .nle (.v 2) (.v 0)] (.nlt (.v 2) (.v 1)) [[1, 0, 1, 1, 1]] rfl hm hcap hcs)
        ⟨by walk_at "lk", by walk_at "lk", by walk_at "lk", by walk_at "lk", le₅.trans le₆, _, at₆⟩ ?_ ?_
      · rintro s V₂ σ₇ hs ⟨g1, g2, g3, g4, hle₇, g, hg⟩
        obtain ⟨c, hc, hc'⟩ := colsOf_get hs
        have hck := hnw s c hc
        obtain ⟨w, hw, d, rfl, hd⟩ := hr₄.2 s (by exact fm [_, _, _] [] [.nle (.v 0) (.v 1), .nlt (.v 2) (.v 0)] (.nlt (.v 2) (.v 1)) [[1, 1, 1]] rfl hcs hs)
        have hKk : k < K := by rw [hK1 (by exact fm [_, _, _] [] [.nle (.v 0) (.v 1), .nlt (.v 2) (.v 0)] (.no (.neq (.v 1) (.l 0))) [[1, 1, 1]] rfl hcs hs)]; exact fm [_] [] [] (.nlt (.v 0) (.a (.v 0) (.l 1))) [[1]] rfl
        refine ⟨_, _, nx_enm (hle₇ _ _ hp₄) hc', al_two (by first | exact .inl rfl | exact .inr rfl) (by first | exact .inl rfl | exact .inr rfl), ?_⟩
        walk_at "gate"
        walk_at "py"
        refine g_lst (hle₇ _ _ hf₄) (by walk_at "om") (by exact fm [_, _, _] [] [.nle (.v 0) (.l 3), .nle (.v 1) (.v 0), .nlt (.v 2) (.v 1)] (.ile (.k (.v 2)) (.l 1000000)) [[1, 1, 1, 1]] rfl hm hcs hs) (by rw [Int.toNat_natCast]; exact hw) ?_
        walk_at "py"
        refine g_lst (hle₇ _ _ hd) (by walk_at "om") (by walk_at "om") (v := q (E s k)) (by simpa using rowOf_get hKk) ?_
        walk_at "py"
        refine ⟨fo, c, _, rfl, rfl, hg, by walk_at "om", by rw [rowOf_len]; simpa using hck, by rw [rowOf_len]; exact fm [_, _, _] [] [.neq (.v 0) (.l 4000), .nle (.v 1) (.l 100), .nlt (.v 2) (.v 1)] (.nle (.v 2) (.v 0)) [[0, 1, 1, 1, 1]] rfl hcap hK2 hKk, ?_⟩
        rw [rowOf_set]
        walk_at "py"
        exact ⟨by walk_at "lk", by walk_at "lk", by walk_at "lk", by walk_at "lk", hle₇.set newf _, _, set_at hg⟩
      · rintro V₂ σ₇ ⟨g1, g2, g3, g4, hle₇, g, hg⟩
        refine ⟨nx_enm_none (hle₇ _ _ hp₄) (by simp [colsOf_len]), ?_⟩
        repeat walk_at "back"
        walk_at "py"
        refine null_wp (hA.le (le4.trans hle₇)) h0 hm (by walk_at "om") sa fun w σ₈ r B le₈ hB => ?_
        walk_at "py"
        exact h _ _ _ _ _ (le4.trans (hle₇.trans le₈)) (.inr ⟨g, fo, rfl, le₈ _ _ hg⟩) hB
theorem solve_wx {p : PV} {m k b t : Nat} {A : Nat → Nat → Rat} {g : Nat → Rat} (hA : IsMat σ p m k A) (hb : σ[b]? = some (rowOf t g)) (hm : m ≤ 100) (ht : t ≤ 100) (hne : m ≠ t) {Q : St → Prop} (h : Q σ) : Wx ((ev (n + 66)).c "solve_system" [p, .lst b] σ) "shape" Q := by
  have hcap : cap = 4000 := rfl
  obtain ⟨a, l, rfl, ha, hl⟩ := id hA
  have hlen := hl.1
  refine cx_call F_solve_system.2 (sx_start (ssx_here (sx_expr (ex_call ?_ (by with_unfolding_all rfl) (by with_unfolding_all rfl) (by with_unfolding_all rfl)))))
  walk_at "py"
  refine bi_leneq ha hlen (by walk_at "om") ?_
  walk_at "py"
  refine bi_leneq hb rowOf_len (by rw [rowOf_len]; exact fm [_, _] [] [.nle (.v 0) (.l 100), .neq (.v 1) (.l 4000)] (.nle (.v 0) (.v 1)) [[1, 0, 1, 1]] rfl ht hcap) ?_
  walk_at "py"
  rw [show ((m : Int) == (t : Int)) = false by simp; exact fm [_, _] [] [.no (.neq (.v 0) (.v 1))] (.no (.ieq (.k (.v 0)) (.k (.v 1)))) [[1, 1], [1, 0, 1]] rfl hne]
  repeat walk_at "back"
  exact need_wx (by decide +kernel) h
end
end
section

noncomputable def mpow (m : Nat) (A : Nat → Nat → Rat) : Nat → Nat → Nat → Rat
  | 0 => idm
  | k + 1 => mmul m (mpow m A k) A
noncomputable def Eqm (m : Nat) (A B : Nat → Nat → Rat) : Prop := ∀ i j, i < m → j < m → A i j = B i j
theorem Eqm.refl {m A} : Eqm m A A := fun _ _ _ _ => rfl
theorem Eqm.symm {m A B} (h : Eqm m A B) : Eqm m B A := fun i j hi hj => (h i j hi hj).symm
theorem Eqm.trans {m A B C} (h : Eqm m A B) (h' : Eqm m B C) : Eqm m A C := fun i j hi hj => (h i j hi hj).trans (h' i j hi hj)
theorem Eqm.mul {m A A' B B'} (h : Eqm m A A') (h' : Eqm m B B') : Eqm m (mmul m A B) (mmul m A' B') := fun i j hi hj => mmul_congr (n := m) h h' i j hi hj
theorem eqm_assoc {m A B C} : Eqm m (mmul m (mmul m A B) C) (mmul m A (mmul m B C)) := fun i j _ _ => mmul_assoc i j
theorem eqm_idl {m A} : Eqm m (mmul m idm A) A := fun i j hi _ => idm_mul i j hi
theorem eqm_idr {m A} : Eqm m (mmul m A idm) A := fun i j _ hj => by
  show sm m (fun t => A i t * idm t j) = _
  rw [sm_congr (g := fun t => (if t = j then 1 else 0) * A i t) fun t _ => by unfold idm; grind, sm_one hj]
  grind
theorem mpow_comm {m A} : ∀ k, Eqm m (mmul m A (mpow m A k)) (mmul m (mpow m A k) A)
  | 0 => eqm_idr.trans eqm_idl.symm
  | k + 1 => eqm_assoc.symm.trans ((mpow_comm k).mul .refl)
theorem mpow_sq {m A} : ∀ k, Eqm m (mpow m (mmul m A A) k) (mpow m A (2 * k))
  | 0 => .refl
  | k + 1 => ((mpow_sq k).mul .refl).trans eqm_assoc.symm
theorem mpow_even {m F B} (k : Nat) : Eqm m (mmul m F (mpow m (mmul m B B) k)) (mmul m F (mpow m B (2 * k))) := Eqm.mul .refl (mpow_sq k)
theorem mpow_odd {m F B} (k : Nat) : Eqm m (mmul m (mmul m F B) (mpow m (mmul m B B) k)) (mmul m F (mpow m B (2 * k + 1))) :=
  eqm_assoc.trans (Eqm.mul .refl ((Eqm.mul .refl (mpow_sq k)).trans (mpow_comm (2 * k))))

theorem Sz.mmul {m k n ka kb : Nat} {A B : Nat → Nat → Rat} (hm : k ≤ 3) (sa : ∀ i j, i < m → j < k → Sz ka (A i j)) (sb : ∀ i j, i < k → j < n → Sz kb (B i j)) : ∀ i j, i < m → j < n → Sz (3 * (ka + kb + 1) + 1) (mmul k A B i j) := fun i j hi hj =>
  (Sz.sm fun t ht => (sa i t hi ht).mul (sb t j ht hj)).mono (by have := Nat.mul_le_mul_right (ka + kb + 1) hm; exact fm [_, _, _] [] [.nle (.v 0) (.m 3 (.a (.a (.v 1) (.v 2)) (.l 1)))] (.nle (.a (.v 0) (.l 1)) (.a (.m 3 (.a (.a (.v 1) (.v 2)) (.l 1))) (.l 1))) [[1, 1]] rfl this)

noncomputable def bF : Nat → Nat
  | 0 => 343
  | 1 => 13
  | _ => 1
noncomputable def bB : Nat → Nat
  | 0 => 100
  | 1 => 100
  | 2 => 16
  | _ => 2

section
variable {n : Nat} {σ : St} {Q : PV → St → Prop}

theorem power_wp {p : PV} {m t : Nat} {A : Nat → Nat → Rat} (hA : IsMat σ p m m A) (hm : m ≤ 3) (ht : t ≤ 4) (sa : ∀ i j, i < m → j < m → Sz 2 (A i j)) (h : ∀ r σ', Le σ σ' → IsMat σ' r m m (mpow m A t) → Q r σ') : Wp ((ev (n + 56)).c "mat_power" [p, .int t] σ) Q := by
  have hcap : cap = 4000 := rfl
  have hlim : lim = 900 := rfl
  obtain ⟨a, l, rfl, ha, hl⟩ := id hA
  have hlen := hl.1
  refine c_call F_mat_power.2 ?_
  walk_at "py"
  refine bi_leneq ha hlen (by walk_at "om") ?_
  walk_at "py"
  refine shape_wp hA (fun e => e) (by walk_at "om") (by walk_at "om") ?_
  walk_at "py"
  refine g_tup (by decide) (by decide) rfl ?_
  walk_at "py"
  rw [show ((m : Int) == (m : Int)) = true by simp]
  refine need_wp ?_
  walk_at "py"
  refine bi_leneq ha hlen (by walk_at "om") ?_
  walk_at "py"
  refine unit_wp (by walk_at "om") fun pf σ₁ le₁ hF => ?_
  walk_at "py"
  refine while_rule (fun k V σ' => k ≤ 4 ∧ ∃ pf pb F B, At V "n" (.int k) ∧ At V "found" pf ∧ At V "base" pb ∧ Le σ σ' ∧ IsMat σ' pf m m F ∧ IsMat σ' pb m m B ∧ (∀ i j, i < m → j < m → Sz (bF k) (F i j)) ∧ (∀ i j, i < m → j < m → Sz (bB k) (B i j)) ∧ Eqm m (mmul m F (mpow m B k)) (mpow m A t)) t (by walk_at "om") ?_ ?_
  · refine ⟨ht, pf, .lst a, idm, A, by walk_at "lk", by walk_at "lk", by walk_at "lk", le₁, hF, hA.le le₁, fun i j hi hj => ?_, fun i j hi hj => (sa i j hi hj).mono ?_, eqm_idl⟩
    · have : Sz 1 (idm i j) := by
        unfold idm
        split
        · repeat walk_at "back"
          exact Sz.one
        · repeat walk_at "back"
          exact Sz.zero
      refine this.mono ?_
      have : t = 0 ∨ t = 1 ∨ t = 2 ∨ t = 3 ∨ t = 4 := by exact fm [_] [] [.nle (.v 0) (.l 4)] (.or (.neq (.v 0) (.l 0)) (.or (.neq (.v 0) (.l 1)) (.or (.neq (.v 0) (.l 2)) (.or (.neq (.v 0) (.l 3)) (.neq (.v 0) (.l 4)))))) [[1, 0, 0, 0, 0, 1], [0, 0, 0, 0, 1, 1], [0, 0, 0, 1, 1], [0, 0, 0, 1, 1], [0, 0, 1, 1], [0, 0, 1, 1], [0, 0, 1, 1], [0, 0, 1, 1], [0, 1, 1], [0, 1, 1], [0, 1, 1], [0, 1, 1], [0, 1, 1], [0, 1, 1], [0, 1, 1], [0, 1, 1], [0, 1], [0, 1], [0, 1], [0, 1], [0, 1], [0, 1], [0, 1], [0, 1], [0, 1], [0, 1], [0, 1], [0, 1], [0, 1], [0, 1], [0, 1], [0, 1]] rfl ht
      rcases this with rfl | rfl | rfl | rfl | rfl <;> decide
    · have : t = 0 ∨ t = 1 ∨ t = 2 ∨ t = 3 ∨ t = 4 := by exact fm [_] [] [.nle (.v 0) (.l 4)] (.or (.neq (.v 0) (.l 0)) (.or (.neq (.v 0) (.l 1)) (.or (.neq (.v 0) (.l 2)) (.or (.neq (.v 0) (.l 3)) (.neq (.v 0) (.l 4)))))) [[1, 0, 0, 0, 0, 1], [0, 0, 0, 0, 1, 1], [0, 0, 0, 1, 1], [0, 0, 0, 1, 1], [0, 0, 1, 1], [0, 0, 1, 1], [0, 0, 1, 1], [0, 0, 1, 1], [0, 1, 1], [0, 1, 1], [0, 1, 1], [0, 1, 1], [0, 1, 1], [0, 1, 1], [0, 1, 1], [0, 1, 1], [0, 1], [0, 1], [0, 1], [0, 1], [0, 1], [0, 1], [0, 1], [0, 1], [0, 1], [0, 1], [0, 1], [0, 1], [0, 1], [0, 1], [0, 1], [0, 1]] rfl ht
      rcases this with rfl | rfl | rfl | rfl | rfl <;> decide
  · rintro k V σ' ⟨hk, pf, pb, F, B, h1, h2, h3, hle, hF, hB, sF, sB, he⟩
    walk_at "py"
    refine ⟨fun hc => ?_, fun hc => ?_⟩
    · have hk0 : k = 0 := by simp at hc; exact fm [_] [] [.neq (.v 0) (.l 0)] (.neq (.v 0) (.l 0)) [[1, 0, 1], [0, 0, 1]] rfl hc
      subst hk0
      walk_at "py"
      exact h _ _ hle (hF.congr fun i j hi hj => (eqm_idr i j hi hj).symm.trans (he i j hi hj))
    · have hk0 : k ≠ 0 := by simp at hc; exact fm [_] [] [.nlt (.l 0) (.v 0)] (.no (.neq (.v 0) (.l 0))) [[1, 1]] rfl hc
      have k4 : k = 1 ∨ k = 2 ∨ k = 3 ∨ k = 4 := by exact fm [_] [] [.nle (.v 0) (.l 4), .no (.neq (.v 0) (.l 0))] (.or (.neq (.v 0) (.l 1)) (.or (.neq (.v 0) (.l 2)) (.or (.neq (.v 0) (.l 3)) (.neq (.v 0) (.l 4))))) [[1, 0, 0, 0, 0, 1], [0, 0, 0, 0, 1, 1], [0, 0, 0, 1, 1], [0, 0, 0, 1, 1], [0, 0, 1, 1], [0, 0, 1, 1], [0, 0, 1, 1], [0, 0, 1, 1], [0, 1, 1], [0, 1, 1], [0, 1, 1], [0, 1, 1], [0, 1, 1], [0, 1, 1], [0, 1, 1], [0, 1, 1], [0, 1], [0, 1], [0, 1], [0, 1], [0, 1], [0, 1], [0, 1], [0, 1], [0, 1], [0, 1], [0, 1], [0, 1], [0, 1], [0, 1], [0, 1], [0, 1]] rfl hk hk0
      rcases k4 with rfl | rfl | rfl | rfl
      · walk_at "py"
        refine b_mod (by decide) ?_
        walk_at "py"
        refine ⟨fun _ => ?_, fun hc => absurd hc (by decide)⟩
        walk_at "py"
        refine mat_mul_wp (ka := 13) (kb := 100) hF hB (fun e => e) (fun e => e) (by walk_at "om") (by walk_at "om") (by walk_at "om") sF sB (by decide) (by decide) (by exact fm [_, _] [] [.nle (.v 0) (.l 3), .neq (.v 1) (.l 900)] (.nle (.a (.r (.v 0) 114) (.l 1)) (.v 1)) [[114, 0, 1, 1]] rfl hm hlim) fun r σ₂ le₂ hr => ?_
        walk_at "py"
        refine e_ife ?_
        walk_at "py"
        refine ⟨fun hc => absurd hc (by decide), fun _ => ?_⟩
        walk_at "py"
        refine b_div (by decide) (by decide) ?_
        walk_at "py"
        exact ⟨0, by decide, by decide, r, pb, _, B, by walk_at "lk", by walk_at "lk", by walk_at "lk", hle.trans le₂, hr, hB.le le₂, Sz.mmul hm sF sB, sB, eqm_idr.trans ((Eqm.mul .refl eqm_idl.symm).trans he)⟩
      · walk_at "py"
        refine b_mod (by decide) ?_
        walk_at "py"
        refine ⟨fun hc => absurd hc (by decide), fun _ => ?_⟩
        walk_at "py"
        refine e_ife ?_
        walk_at "py"
        refine ⟨fun _ => ?_, fun hc => absurd hc (by decide)⟩
        walk_at "py"
        refine mat_mul_wp (ka := 16) (kb := 16) hB hB (fun e => e) (fun e => e) (by walk_at "om") (by walk_at "om") (by walk_at "om") sB sB (by decide) (by decide) (by exact fm [_, _] [] [.nle (.v 0) (.l 3), .neq (.v 1) (.l 900)] (.nle (.a (.r (.v 0) 33) (.l 1)) (.v 1)) [[33, 0, 1, 1]] rfl hm hlim) fun r σ₂ le₂ hr => ?_
        walk_at "py"
        refine b_div (by decide) (by decide) ?_
        walk_at "py"
        exact ⟨1, by decide, by decide, pf, r, F, _, by walk_at "lk", by walk_at "lk", by walk_at "lk", hle.trans le₂, hF.le le₂, hr, fun i j hi hj => (sF i j hi hj).mono (by decide), Sz.mmul hm sB sB, (mpow_even 1).trans he⟩
      · walk_at "py"
        refine b_mod (by decide) ?_
        walk_at "py"
        refine ⟨fun _ => ?_, fun hc => absurd hc (by decide)⟩
        walk_at "py"
        refine mat_mul_wp (ka := 1) (kb := 2) hF hB (fun e => e) (fun e => e) (by walk_at "om") (by walk_at "om") (by walk_at "om") sF sB (by decide) (by decide) (by exact fm [_, _] [] [.nle (.v 0) (.l 3), .neq (.v 1) (.l 900)] (.nle (.a (.r (.v 0) 4) (.l 1)) (.v 1)) [[4, 0, 1, 1]] rfl hm hlim) fun r σ₂ le₂ hr => ?_
        walk_at "py"
        refine e_ife ?_
        walk_at "py"
        refine ⟨fun _ => ?_, fun hc => absurd hc (by decide)⟩
        walk_at "py"
        refine mat_mul_wp (ka := 2) (kb := 2) (hB.le le₂) (hB.le le₂) (fun e => e) (fun e => e) (by walk_at "om") (by walk_at "om") (by walk_at "om") sB sB (by decide) (by decide) (by exact fm [_, _] [] [.nle (.v 0) (.l 3), .neq (.v 1) (.l 900)] (.nle (.a (.r (.v 0) 5) (.l 1)) (.v 1)) [[5, 0, 1, 1]] rfl hm hlim) fun r' σ₃ le₃ hr' => ?_
        walk_at "py"
        refine b_div (by decide) (by decide) ?_
        walk_at "py"
        exact ⟨1, by decide, by decide, r, r', _, _, by walk_at "lk", by walk_at "lk", by walk_at "lk", hle.trans (le₂.trans le₃), hr.le le₃, hr', fun i j hi hj => (Sz.mmul hm sF sB i j hi hj).mono (by decide), fun i j hi hj => (Sz.mmul hm sB sB i j hi hj).mono (by decide), (mpow_odd 1).trans he⟩
      · walk_at "py"
        refine b_mod (by decide) ?_
        walk_at "py"
        refine ⟨fun hc => absurd hc (by decide), fun _ => ?_⟩
        walk_at "py"
        refine e_ife ?_
        walk_at "py"
        refine ⟨fun _ => ?_, fun hc => absurd hc (by decide)⟩
        walk_at "py"
        refine mat_mul_wp (ka := 2) (kb := 2) hB hB (fun e => e) (fun e => e) (by walk_at "om") (by walk_at "om") (by walk_at "om") sB sB (by decide) (by decide) (by exact fm [_, _] [] [.nle (.v 0) (.l 3), .neq (.v 1) (.l 900)] (.nle (.a (.r (.v 0) 5) (.l 1)) (.v 1)) [[5, 0, 1, 1]] rfl hm hlim) fun r σ₂ le₂ hr => ?_
        walk_at "py"
        refine b_div (by decide) (by decide) ?_
        walk_at "py"
        exact ⟨2, by decide, by decide, pf, r, F, _, by walk_at "lk", by walk_at "lk", by walk_at "lk", hle.trans le₂, hF.le le₂, hr, fun i j hi hj => (sF i j hi hj).mono (by decide), Sz.mmul hm sB sB, (mpow_even 2).trans he⟩
theorem power_wx {p : PV} {m k : Nat} {t : Int} {A : Nat → Nat → Rat} (hA : IsMat σ p m k A) (h0 : m = 0 → k = 0) (hm : m ≤ 100) (hk : k ≤ 100) (hne : m ≠ k) {Q : St → Prop} (h : Q σ) : Wx ((ev (n + 56)).c "mat_power" [p, .int t] σ) "shape" Q := by
  have hcap : cap = 4000 := rfl
  obtain ⟨a, l, rfl, ha, hl⟩ := id hA
  have hlen := hl.1
  refine cx_call F_mat_power.2 (sx_start (ssx_here (sx_expr (ex_call ?_ (by with_unfolding_all rfl) (by with_unfolding_all rfl) (by with_unfolding_all rfl)))))
  walk_at "py"
  refine bi_leneq ha hlen (by walk_at "om") ?_
  walk_at "py"
  refine shape_wp hA h0 (by walk_at "om") (by walk_at "om") ?_
  walk_at "py"
  refine g_tup (by decide) (by decide) rfl ?_
  walk_at "py"
  rw [show ((m : Int) == (k : Int)) = false by simp; exact fm [_, _] [] [.no (.neq (.v 0) (.v 1))] (.no (.ieq (.k (.v 0)) (.k (.v 1)))) [[1, 1], [1, 0, 1]] rfl hne]
  repeat walk_at "back"
  exact need_wx (by decide +kernel) h
end
end
section

noncomputable def rowI (n : Nat) (f : Nat → Int) : List PV := (List.range n).map fun j => .int (f j)
theorem rowI_len {n : Nat} {f : Nat → Int} : (rowI n f).length = n := by simp [rowI]
theorem rowI_get {n j : Nat} {f : Nat → Int} (h : j < n) : (rowI n f)[j]? = some (.int (f j)) := by simp [rowI, h]
theorem rowI_ext {n : Nat} {f : Nat → Int} {xs : List PV} (hl : xs.length = n) (h : ∀ j, j < n → xs[j]? = some (.int (f j))) : xs = rowI n f := by
  apply List.ext_getElem?
  intro j
  by_cases hj : j < n
  · rw [h j hj, rowI_get hj]
  · rw [List.getElem?_eq_none (by exact fm [_, _, _] [] [.neq (.v 0) (.v 1), .no (.nlt (.v 2) (.v 1))] (.nle (.v 0) (.v 2)) [[1, 0, 1, 1]] rfl hl hj), List.getElem?_eq_none (by rw [rowI_len]; exact fm [_, _] [] [.no (.nlt (.v 0) (.v 1))] (.nle (.v 1) (.v 0)) [[1, 1]] rfl hj)]
theorem rowI_set {n c : Nat} {f : Nat → Int} {x : Int} : (rowI n f).set c (.int x) = rowI n (fun j => if j = c then x else f j) := by
  refine rowI_ext (by simp [rowI_len]) fun j hj => ?_
  by_cases h : j = c
  · subst h
    rw [List.getElem?_set_self (by rw [rowI_len]; exact hj), if_pos rfl]
  · rw [List.getElem?_set_ne (Ne.symm h), rowI_get hj, if_neg h]
theorem rowI_ints {n : Nat} {f : Nat → Int} : rowI n f = ((List.range n).map f).map PV.int := by simp [rowI]

inductive RowII (σ : St) (l : List PV) (i : Nat) (r : List PV) : Prop
  | mk c (c1 : l[i]? = some (.lst c)) (c2 : σ[c]? = some r) : RowII σ l i r
inductive IsIMat (σ : St) (p : PV) (m k : Nat) (A : Nat → Nat → Int) : Prop
  | mk a l (c1 : p = .lst a) (c2 : σ[a]? = some l) (c3 : l.length = m) (c4 : ∀ i, i < m → RowII σ l i (rowI k (A i))) : IsIMat σ p m k A

structure GI (σ₀ σ : St) (f : Nat) (l : List PV) (c : Nat → Nat) (m : Nat) (M : Nat → Nat → Int) : Prop where
  there : σ[f]? = some l
  newf : σ₀[f]? = none
  len : l.length = m
  row : ∀ i, i < m → l[i]? = some (.lst (c i))
  ne : ∀ i, i < m → c i ≠ f
  new : ∀ i, i < m → σ₀[c i]? = none
  val : ∀ i, i < m → σ[c i]? = some (rowI m (M i))
  inj : ∀ i j, i < m → j < m → c i = c j → i = j

theorem GI.put {σ₀ σ f l c m M} (g : GI σ₀ σ f l c m M) {i j : Nat} (hi : i < m) (x : Int) : GI σ₀ (σ.set (c i) ((rowI m (M i)).set j (.int x))) f l c m (fun i' j' => if i' = i ∧ j' = j then x else M i' j') where
  there := set_ne (Ne.symm (g.ne i hi)) g.there
  newf := g.newf
  len := g.len
  row := g.row
  ne := g.ne
  new := g.new
  val := fun i' hi' => by
    by_cases e : i' = i
    · subst e
      rw [set_at (g.val i' hi), rowI_set]
      congr 2
      funext j'
      by_cases e2 : j' = j <;> simp [e2]
    · rw [set_ne (fun z => e (g.inj i' i hi' hi z)) (g.val i' hi')]
      congr 2
      funext j'
      simp [e]
  inj := g.inj
theorem GI.swap {σ₀ σ f l c m M} (g : GI σ₀ σ f l c m M) {i j : Nat} (hi : i < m) (hj : j < m) : GI σ₀ ((σ.set f (l.set i (.lst (c j)))).set f ((l.set i (.lst (c j))).set j (.lst (c i)))) f ((l.set i (.lst (c j))).set j (.lst (c i))) (fun k => c (sw i j k)) m (fun k => M (sw i j k)) where
  there := set_at (set_at g.there)
  newf := g.newf
  len := by simp [g.len]
  row := fun k hk => by
    have hl := g.len
    unfold sw
    by_cases e1 : k = j
    · subst e1
      rw [List.getElem?_set_self (by simp; exact fm [_, _, _] [] [.nlt (.v 0) (.v 1), .neq (.v 2) (.v 1)] (.nlt (.v 0) (.v 2)) [[1, 0, 1, 1]] rfl hk hl)]
      by_cases e2 : k = i
      · subst e2; simp
      · simp [e2]
    · rw [List.getElem?_set_ne (Ne.symm e1)]
      by_cases e2 : k = i
      · subst e2
        rw [List.getElem?_set_self (by walk_at "om")]; simp
      · rw [List.getElem?_set_ne (Ne.symm e2), g.row k hk]; simp [e1, e2]
  ne := fun k hk => g.ne _ (sw_lt hi hj hk)
  new := fun k hk => g.new _ (sw_lt hi hj hk)
  val := fun k hk => by
    have h1 := g.ne _ (sw_lt hi hj hk)
    repeat walk_at "back"
    exact set_ne h1 (set_ne h1 (g.val _ (sw_lt hi hj hk)))
  inj := fun a b ha hb e => by
    have := g.inj _ _ (sw_lt hi hj ha) (sw_lt hi hj hb) e
    have h2 : sw i j (sw i j a) = sw i j (sw i j b) := by rw [this]
    rwa [sw_sw, sw_sw] at h2

theorem fdiv_lt {x d : Int} {k : Nat} (h : x.natAbs < 2 ^ k) (hd : d ≠ 0) : (x.fdiv d).natAbs < 2 ^ k := by
  refine Nat.lt_of_le_of_lt ?_ h
  rcases Int.lt_or_gt_of_ne hd with hneg | hpos
  · have e : x.fdiv d = (-x).fdiv (-d) := (Int.neg_fdiv_neg x d).symm
    rw [e, Int.fdiv_eq_ediv_of_nonneg _ (by exact fm [] [_] [.ilt (.v 0) (.l 0)] (.ile (.l 0) (.g (.v 0))) [[1, 1]] rfl hneg)]
    have := Int.natAbs_ediv_le_natAbs (-x) (-d)
    rwa [Int.natAbs_neg] at this
  · rw [Int.fdiv_eq_ediv_of_nonneg _ (by exact fm [] [_] [.ilt (.l 0) (.v 0)] (.ile (.l 0) (.v 0)) [[1, 1]] rfl hpos)]
    repeat walk_at "back"
    exact Int.natAbs_ediv_le_natAbs x d

section
variable {n : Nat} {σ : St} {Q : PV → St → Prop}

theorem pivot_row_wp {σ₀ : St} {f m s : Nat} {l : List PV} {c : Nat → Nat} {M : Nat → Nat → Int} (g : GI σ₀ σ f l c m M) (hs : s < m) (hm : m ≤ 100) (h1 : ∀ p, s ≤ p → p < m → M p s ≠ 0 → Q (.int (p : Nat)) σ) (h2 : Q .none σ) : Wp ((ev (n + 16)).c "pivot_row" [.lst f, .int s] σ) Q := by
  have hcap : cap = 4000 := rfl
  have hlen := g.len
  refine c_call F_pivot_row.2 ?_
  walk_at "py"
  refine bi_len g.there (by walk_at "om") ?_
  rw [hlen]
  walk_at "py"
  refine bi_range2 (small_of (by walk_at "om") (by walk_at "om")) (small_of (by walk_at "om") (by walk_at "om")) ?_
  walk_at "py"
  refine for_rule (fun k V σ' => All3 (σ' = σ) (At V "a" (.lst f)) (At V "step" (.int s))) (m - s) (by exact fm [_, _, _, _] [] [.nle (.v 0) (.l 100), .neq (.v 1) (.l 4000), .or (.an (.nle (.v 2) (.v 0)) (.neq (.a (.v 3) (.v 2)) (.v 0))) (.an (.nle (.v 0) (.v 2)) (.neq (.v 3) (.l 0)))] (.nlt (.v 3) (.v 1)) [[1, 0, 1, 0, 1, 0, 1], [0, 0, 1, 0, 1, 0, 1]] rfl hm hcap (subn _ _)) ⟨rfl, by walk_at "lk", by walk_at "lk"⟩ ?_ ?_
  · rintro k V σ' hk ⟨rfl, g1, g2⟩
    refine ⟨_, _, nx_rng (by exact fm [_, _, _, _] [] [.nlt (.v 0) (.v 1), .or (.an (.nle (.v 2) (.v 3)) (.neq (.a (.v 1) (.v 2)) (.v 3))) (.an (.nle (.v 3) (.v 2)) (.neq (.v 1) (.l 0)))] (.ilt (.a (.k (.v 2)) (.k (.v 0))) (.k (.v 3))) [[1, 0, 1, 0, 1], [1, 0, 1]] rfl hk (subn _ _)), al_name (.inl rfl), ?_⟩
    walk_at "gate"
    rw [show (s : Int) + (k : Int) = ((s + k : Nat) : Int) by exact fm [_, _] [] [] (.ieq (.a (.k (.v 0)) (.k (.v 1))) (.k (.a (.v 0) (.v 1)))) [[1], [1]] rfl]
    walk_at "py"
    refine g_lst g.there (by walk_at "om") (by exact fm [_, _, _, _] [] [.nle (.v 0) (.l 100), .nlt (.v 1) (.v 2), .or (.an (.nle (.v 3) (.v 0)) (.neq (.a (.v 2) (.v 3)) (.v 0))) (.an (.nle (.v 0) (.v 3)) (.neq (.v 2) (.l 0)))] (.ile (.k (.a (.v 3) (.v 1))) (.l 1000000)) [[1, 1, 0, 1, 0, 1], [0, 1, 0, 1]] rfl hm hk (subn _ _)) (by rw [Int.toNat_natCast]; exact g.row (s + k) (by exact fm [_, _, _, _] [] [.nlt (.v 0) (.v 1), .or (.an (.nle (.v 2) (.v 3)) (.neq (.a (.v 1) (.v 2)) (.v 3))) (.an (.nle (.v 3) (.v 2)) (.neq (.v 1) (.l 0)))] (.nlt (.a (.v 2) (.v 0)) (.v 3)) [[1, 0, 1, 0, 1], [1, 0, 1]] rfl hk (subn _ _))) ?_
    walk_at "py"
    refine g_lst (g.val (s + k) (by exact fm [_, _, _, _] [] [.nlt (.v 0) (.v 1), .or (.an (.nle (.v 2) (.v 3)) (.neq (.a (.v 1) (.v 2)) (.v 3))) (.an (.nle (.v 3) (.v 2)) (.neq (.v 1) (.l 0)))] (.nlt (.a (.v 2) (.v 0)) (.v 3)) [[1, 0, 1, 0, 1], [1, 0, 1]] rfl hk (subn _ _))) (by walk_at "om") (by walk_at "om") (by rw [Int.toNat_natCast]; exact rowI_get hs) ?_
    walk_at "py"
    refine ⟨fun hc => ?_, fun hc => ?_⟩
    · walk_at "py"
      repeat walk_at "back"
      exact h1 (s + k) (by exact fm [_, _] [] [] (.nle (.v 0) (.a (.v 0) (.v 1))) [[1]] rfl) (by exact fm [_, _, _, _] [] [.nlt (.v 0) (.v 1), .or (.an (.nle (.v 2) (.v 3)) (.neq (.a (.v 1) (.v 2)) (.v 3))) (.an (.nle (.v 3) (.v 2)) (.neq (.v 1) (.l 0)))] (.nlt (.a (.v 2) (.v 0)) (.v 3)) [[1, 0, 1, 0, 1], [1, 0, 1]] rfl hk (subn _ _)) (by simpa using hc)
    · walk_at "py"
      repeat walk_at "back"
      exact ⟨rfl, by walk_at "lk", by walk_at "lk"⟩
  · rintro V σ' ⟨rfl, g1, g2⟩
    refine ⟨nx_rng_none (by exact fm [_, _, _] [] [.or (.an (.nle (.v 0) (.v 1)) (.neq (.a (.v 2) (.v 0)) (.v 1))) (.an (.nle (.v 1) (.v 0)) (.neq (.v 2) (.l 0)))] (.no (.ilt (.a (.k (.v 0)) (.k (.v 2))) (.k (.v 1)))) [[0, 0, 1, 1], [1, 0, 0, 1]] rfl (subn _ _)), ?_⟩
    repeat walk_at "back"
    walk_at "py"
    exact h2

theorem bareiss_wp {σ₀ : St} {f m s b : Nat} {l : List PV} {c : Nat → Nat} {M : Nat → Nat → Int} {ah : Int} (g : GI σ₀ σ f l c m M) (hle : Le σ₀ σ) (hs : s < m) (hm : m ≤ 100) (hb : ∀ i j, i < m → j < m → (M i j).natAbs < 2 ^ b) (hb4 : b ≤ 900) (ha : ah ≠ 0) (hab : ah.natAbs < 2 ^ b)
    (h : ∀ σ' M', Le σ₀ σ' → GI σ₀ σ' f l c m M' → (∀ j, M' s j = M s j) → (∀ i j, i < m → j < m → (M' i j).natAbs < 2 ^ (2 * b + 1)) → Q .none σ') : Wp ((ev (n + 20)).c "bareiss_step" [.lst f, .int s, .int ah] σ) Q := by
  have hcap : cap = 4000 := rfl
  have hlen := g.len
  have big : ∀ {x : Int}, x.natAbs < 2 ^ b → x.natAbs < 2 ^ (2 * b + 1) := fun h => lt_more h (by exact fm [_] [] [] (.nle (.v 0) (.a (.m 2 (.v 0)) (.l 1))) [[1]] rfl)
  refine c_call F_bareiss_step.2 ?_
  walk_at "py"
  refine g_lst g.there (by walk_at "om") (by walk_at "om") (by rw [Int.toNat_natCast]; exact g.row s hs) ?_
  walk_at "py"
  refine g_lst (g.val s hs) (by walk_at "om") (by walk_at "om") (by rw [Int.toNat_natCast]; exact rowI_get hs) ?_
  walk_at "py"
  refine bi_len g.there (by walk_at "om") ?_
  rw [hlen]
  walk_at "py"
  refine bi_range2 (small_of (by exact fm [_] [] [] (.ile (.l 0) (.a (.k (.v 0)) (.l 1))) [[1]] rfl) (by exact fm [_, _] [] [.nlt (.v 0) (.v 1), .nle (.v 1) (.l 100)] (.ile (.a (.k (.v 0)) (.l 1)) (.l 1000)) [[1, 1, 1]] rfl hs hm)) (small_of (by walk_at "om") (by walk_at "om")) ?_
  walk_at "py"
  refine for_rule (fun k V σ' => All6 (At V "a" (.lst f)) (At V "step" (.int s)) (At V "ahead" (.int ah)) (At V "lead" (.int (M s s))) (Le σ₀ σ') (∃ M', GI σ₀ σ' f l c m M' ∧ (∀ i j, (i ≤ s ∨ s + 1 + k ≤ i) → M' i j = M i j) ∧ ∀ i j, i < m → j < m → (M' i j).natAbs < 2 ^ (2 * b + 1))) (m - (s + 1)) (by exact fm [_, _, _, _] [] [.nle (.v 0) (.l 100), .neq (.v 1) (.l 4000), .or (.an (.nle (.a (.v 2) (.l 1)) (.v 0)) (.neq (.a (.v 3) (.a (.v 2) (.l 1))) (.v 0))) (.an (.nle (.v 0) (.a (.v 2) (.l 1))) (.neq (.v 3) (.l 0)))] (.nlt (.v 3) (.v 1)) [[1, 0, 1, 0, 1, 0, 1], [0, 0, 1, 0, 1, 0, 1]] rfl hm hcap (subn _ _))
    ⟨by walk_at "lk", by walk_at "lk", by walk_at "lk", by walk_at "lk", hle, M, g, fun _ _ _ => rfl, fun i j hi hj => big (hb i j hi hj)⟩ ?_ ?_
  · rintro k V σ' hk ⟨g1, g2, g3, g4, hle', M', g', same, hM'⟩
    have hrow : s + 1 + k < m := by exact fm [_, _, _, _] [] [.nlt (.v 0) (.v 1), .or (.an (.nle (.a (.v 2) (.l 1)) (.v 3)) (.neq (.a (.v 1) (.a (.v 2) (.l 1))) (.v 3))) (.an (.nle (.v 3) (.a (.v 2) (.l 1))) (.neq (.v 1) (.l 0)))] (.nlt (.a (.a (.v 2) (.l 1)) (.v 0)) (.v 3)) [[1, 0, 1, 0, 1], [1, 0, 1]] rfl hk (subn _ _)
    refine ⟨_, _, nx_rng (by exact fm [_, _, _] [] [.nlt (.a (.a (.v 0) (.l 1)) (.v 1)) (.v 2)] (.ilt (.a (.a (.k (.v 0)) (.l 1)) (.k (.v 1))) (.k (.v 2))) [[1, 1]] rfl hrow), al_name (.inl rfl), ?_⟩
    walk_at "gate"
    rw [show (s : Int) + 1 + (k : Int) = ((s + 1 + k : Nat) : Int) by exact fm [_, _] [] [] (.ieq (.a (.a (.k (.v 0)) (.l 1)) (.k (.v 1))) (.k (.a (.a (.v 0) (.l 1)) (.v 1)))) [[1], [1]] rfl]
    generalize hrr : s + 1 + k = r at hrow same
    walk_at "py"
    refine g_lst g'.there (by walk_at "om") (by walk_at "om") (by rw [Int.toNat_natCast]; exact g'.row r hrow) ?_
    walk_at "py"
    refine g_lst (g'.val r hrow) (by walk_at "om") (by walk_at "om") (by rw [Int.toNat_natCast]; exact rowI_get hs) ?_
    rw [same r s (by exact fm [_, _] [] [] (.or (.nle (.v 0) (.v 1)) (.nle (.v 0) (.v 0))) [[0, 1]] rfl)]
    walk_at "py"
    refine bi_len g'.there (by walk_at "om") ?_
    rw [hlen]
    walk_at "py"
    refine bi_range2 (small_of (by exact fm [_] [] [] (.ile (.l 0) (.a (.k (.v 0)) (.l 1))) [[1]] rfl) (by exact fm [_, _, _, _] [] [.nle (.v 0) (.l 100), .neq (.a (.a (.v 1) (.l 1)) (.v 2)) (.v 3), .nlt (.v 3) (.v 0)] (.ile (.a (.k (.v 1)) (.l 1)) (.l 1000)) [[1, 1, 0, 1, 1]] rfl hm hrr hrow)) (small_of (by walk_at "om") (by walk_at "om")) ?_
    walk_at "py"
    refine for_rule (fun u V σ'' => All8 (At V "a" (.lst f)) (At V "step" (.int s)) (At V "ahead" (.int ah)) (At V "lead" (.int (M s s))) (At V "row" (.int r)) (At V "first" (.int (M r s))) (Le σ₀ σ'') (∃ M'', GI σ₀ σ'' f l c m M'' ∧ (∀ i j, i ≠ r → M'' i j = M' i j) ∧ (∀ j, s + 1 + u ≤ j → M'' r j = M r j) ∧ ∀ i j, i < m → j < m → (M'' i j).natAbs < 2 ^ (2 * b + 1))) (m - (s + 1)) (by exact fm [_, _, _, _] [] [.nle (.v 0) (.l 100), .neq (.v 1) (.l 4000), .or (.an (.nle (.a (.v 2) (.l 1)) (.v 0)) (.neq (.a (.v 3) (.a (.v 2) (.l 1))) (.v 0))) (.an (.nle (.v 0) (.a (.v 2) (.l 1))) (.neq (.v 3) (.l 0)))] (.nlt (.v 3) (.v 1)) [[1, 0, 1, 0, 1, 0, 1], [0, 0, 1, 0, 1, 0, 1]] rfl hm hcap (subn _ _))
      ⟨by walk_at "lk", by walk_at "lk", by walk_at "lk", by walk_at "lk", by walk_at "lk", by walk_at "lk", hle', M', g', fun _ _ _ => rfl, fun j _ => same r j (by exact fm [_, _] [] [] (.or (.nle (.v 0) (.v 1)) (.nle (.v 0) (.v 0))) [[0, 1]] rfl), hM'⟩ ?_ ?_
    · rintro u V₂ σ'' hu ⟨j1, j2, j3, j4, j5, j6, hle'', M'', g'', oth, sam, hM''⟩
      have hcol : s + 1 + u < m := by exact fm [_, _, _, _] [] [.nlt (.v 0) (.v 1), .or (.an (.nle (.a (.v 2) (.l 1)) (.v 3)) (.neq (.a (.v 1) (.a (.v 2) (.l 1))) (.v 3))) (.an (.nle (.v 3) (.a (.v 2) (.l 1))) (.neq (.v 1) (.l 0)))] (.nlt (.a (.a (.v 2) (.l 1)) (.v 0)) (.v 3)) [[1, 0, 1, 0, 1], [1, 0, 1]] rfl hu (subn _ _)
      refine ⟨_, _, nx_rng (by exact fm [_, _, _] [] [.nlt (.a (.a (.v 0) (.l 1)) (.v 1)) (.v 2)] (.ilt (.a (.a (.k (.v 0)) (.l 1)) (.k (.v 1))) (.k (.v 2))) [[1, 1]] rfl hcol), al_name (.inl rfl), ?_⟩
      walk_at "gate"
      rw [show (s : Int) + 1 + (u : Int) = ((s + 1 + u : Nat) : Int) by exact fm [_, _] [] [] (.ieq (.a (.a (.k (.v 0)) (.l 1)) (.k (.v 1))) (.k (.a (.a (.v 0) (.l 1)) (.v 1)))) [[1], [1]] rfl]
      generalize huu : s + 1 + u = x at hcol sam
      walk_at "py"
      refine g_lst g''.there (by walk_at "om") (by walk_at "om") (by rw [Int.toNat_natCast]; exact g''.row r hrow) ?_
      walk_at "py"
      refine g_lst (g''.val r hrow) (by walk_at "om") (by walk_at "om") (by rw [Int.toNat_natCast]; exact rowI_get hcol) ?_
      rw [sam x (by exact fm [_] [] [] (.nle (.v 0) (.v 0)) [[1]] rfl)]
      walk_at "py"
      have b1 := hb r x hrow hcol
      have b2 := hb s s hs hs
      have b3 := hb r s hrow hs
      have b4 := hb s x hs hcol
      refine b_mul (bits_of b1 (by walk_at "om")) (bits_of b2 (by walk_at "om")) ?_
      walk_at "py"
      refine g_lst g''.there (by walk_at "om") (by walk_at "om") (by rw [Int.toNat_natCast]; exact g''.row s hs) ?_
      walk_at "py"
      refine g_lst (g''.val s hs) (by walk_at "om") (by walk_at "om") (by rw [Int.toNat_natCast]; exact rowI_get hcol) ?_
      rw [oth s x (by exact fm [_, _, _] [] [.neq (.a (.a (.v 0) (.l 1)) (.v 1)) (.v 2)] (.no (.neq (.v 0) (.v 2))) [[1, 0, 0, 1]] rfl hrr), same s x (by exact fm [_, _] [] [] (.or (.nle (.v 0) (.v 0)) (.nle (.v 1) (.v 0))) [[1]] rfl)]
      refine b_mul (bits_of b3 (by walk_at "om")) (bits_of b4 (by walk_at "om")) ?_
      walk_at "py"
      refine b_div ha (bits_of hab (by walk_at "om")) ?_
      walk_at "py"
      refine g_lst g''.there (by walk_at "om") (by walk_at "om") (by rw [Int.toNat_natCast]; exact g''.row r hrow) ?_
      walk_at "py"
      refine ⟨c r, x, _, rfl, rfl, g''.val r hrow, by walk_at "om", by rw [rowI_len]; simpa using hcol, by rw [rowI_len]; exact fm [_, _] [] [.nle (.v 0) (.l 100), .neq (.v 1) (.l 4000)] (.nle (.v 0) (.v 1)) [[1, 0, 1, 1]] rfl hm hcap, ?_⟩
      walk_at "py"
      have bound : ((M r x * M s s - M r s * M s x).fdiv ah).natAbs < 2 ^ (2 * b + 1) := by
        refine fdiv_lt ?_ ha
        rw [show 2 * b + 1 = (b + b) + 1 by exact fm [_] [] [] (.neq (.a (.m 2 (.v 0)) (.l 1)) (.a (.a (.v 0) (.v 0)) (.l 1))) [[1], [1]] rfl]
        repeat walk_at "back"
        exact abs_sub_lt (abs_mul_lt b1 b2) (abs_mul_lt b3 b4)
      rw [Int.toNat_natCast]
      refine ⟨by walk_at "lk", by walk_at "lk", by walk_at "lk", by walk_at "lk", by walk_at "lk", by walk_at "lk", hle''.set (g''.new r hrow) _, _, g''.put hrow _, fun i j hi => ?_, fun j hj => ?_, fun i j hi hj => ?_⟩
      · rw [if_neg (by exact fm [_, _, _, _] [] [.no (.neq (.v 0) (.v 1))] (.no (.an (.neq (.v 0) (.v 1)) (.neq (.v 2) (.v 3)))) [[1, 1], [1, 0, 1]] rfl hi)]; exact oth i j hi
      · rw [if_neg (by exact fm [_, _, _, _, _] [] [.neq (.a (.a (.v 0) (.l 1)) (.v 1)) (.v 2), .nle (.a (.a (.v 0) (.l 1)) (.a (.v 1) (.l 1))) (.v 3)] (.no (.an (.neq (.v 4) (.v 4)) (.neq (.v 3) (.v 2)))) [[0, 1, 1, 0, 0, 1]] rfl huu hj)]; exact sam j (by exact fm [_, _, _, _] [] [.neq (.a (.a (.v 0) (.l 1)) (.v 1)) (.v 2), .nle (.a (.a (.v 0) (.l 1)) (.a (.v 1) (.l 1))) (.v 3)] (.nle (.v 2) (.v 3)) [[0, 1, 1, 1]] rfl huu hj)
      · split
        · repeat walk_at "back"
          exact bound
        · repeat walk_at "back"
          exact hM'' i j hi hj
    · rintro V₂ σ'' ⟨j1, j2, j3, j4, j5, j6, hle'', M'', g'', oth, sam, hM''⟩
      refine ⟨nx_rng_none (by exact fm [_, _, _] [] [.or (.an (.nle (.a (.v 0) (.l 1)) (.v 1)) (.neq (.a (.v 2) (.a (.v 0) (.l 1))) (.v 1))) (.an (.nle (.v 1) (.a (.v 0) (.l 1))) (.neq (.v 2) (.l 0)))] (.no (.ilt (.a (.a (.k (.v 0)) (.l 1)) (.k (.v 2))) (.k (.v 1)))) [[0, 0, 1, 1], [1, 0, 0, 1]] rfl (subn _ _)), ?_⟩
      repeat walk_at "back"
      walk_at "py"
      refine g_lst g''.there (by walk_at "om") (by walk_at "om") (by rw [Int.toNat_natCast]; exact g''.row r hrow) ?_
      walk_at "py"
      refine ⟨c r, s, _, rfl, rfl, g''.val r hrow, by walk_at "om", by rw [rowI_len]; simpa using hs, by rw [rowI_len]; exact fm [_, _] [] [.nle (.v 0) (.l 100), .neq (.v 1) (.l 4000)] (.nle (.v 0) (.v 1)) [[1, 0, 1, 1]] rfl hm hcap, ?_⟩
      walk_at "py"
      rw [Int.toNat_natCast]
      refine ⟨by walk_at "lk", by walk_at "lk", by walk_at "lk", by walk_at "lk", hle''.set (g''.new r hrow) _, _, g''.put hrow 0, fun i j hi => ?_, fun i j hi hj => ?_⟩
      · rw [if_neg (by exact fm [_, _, _, _, _] [] [.neq (.a (.a (.v 0) (.l 1)) (.v 1)) (.v 2), .or (.nle (.v 3) (.v 0)) (.nle (.a (.a (.v 0) (.l 1)) (.a (.v 1) (.l 1))) (.v 3))] (.no (.an (.neq (.v 3) (.v 2)) (.neq (.v 4) (.v 0)))) [[1, 0, 1, 0, 1], [0, 1, 1, 1]] rfl hrr hi), oth i j (by exact fm [_, _, _, _] [] [.neq (.a (.a (.v 0) (.l 1)) (.v 1)) (.v 2), .or (.nle (.v 3) (.v 0)) (.nle (.a (.a (.v 0) (.l 1)) (.a (.v 1) (.l 1))) (.v 3))] (.no (.neq (.v 3) (.v 2))) [[1, 0, 1, 0, 1], [0, 1, 1, 1]] rfl hrr hi)]
        repeat walk_at "back"
        exact same i j (by exact fm [_, _, _, _] [] [.neq (.a (.a (.v 0) (.l 1)) (.v 1)) (.v 2), .or (.nle (.v 3) (.v 0)) (.nle (.a (.a (.v 0) (.l 1)) (.a (.v 1) (.l 1))) (.v 3))] (.or (.nle (.v 3) (.v 0)) (.nle (.v 2) (.v 3))) [[0, 0, 1, 1], [0, 1, 1, 0, 1]] rfl hrr hi)
      · split
        · repeat walk_at "back"
          exact Nat.two_pow_pos _
        · repeat walk_at "back"
          exact hM'' i j hi hj
  · rintro V σ' ⟨g1, g2, g3, g4, hle', M', g', same, hM'⟩
    refine ⟨nx_rng_none (by exact fm [_, _, _] [] [.or (.an (.nle (.a (.v 0) (.l 1)) (.v 1)) (.neq (.a (.v 2) (.a (.v 0) (.l 1))) (.v 1))) (.an (.nle (.v 1) (.a (.v 0) (.l 1))) (.neq (.v 2) (.l 0)))] (.no (.ilt (.a (.a (.k (.v 0)) (.l 1)) (.k (.v 2))) (.k (.v 1)))) [[0, 0, 1, 1], [1, 0, 0, 1]] rfl (subn _ _)), ?_⟩
    repeat walk_at "back"
    walk_at "py"
    exact h _ _ hle' g' (fun j => same s j (by exact fm [_, _] [] [] (.or (.nle (.v 0) (.v 0)) (.nle (.a (.a (.v 0) (.l 1)) (.v 1)) (.v 0))) [[1]] rfl)) hM'
end
end
section

theorem Ws.mono {x : R (Fl × Vars)} {Q Q' : Fl → Vars → St → Prop} (h : Ws x Q) (k : ∀ f V σ, Q f V σ → Q' f V σ) : Ws x Q' := Wp.mono h fun fv σ h => k _ _ _ h

theorem cmp_nil_nil {σ : St} {i j : Nat} (hi : σ[i]? = some []) (hj : σ[j]? = some []) : cmp .NotEq (.lst i) (.lst j) σ = some false := by
  have a : toD σ 8 (.lst i) = some (.list []) := toD_ints (k := 6) (l := []) hi
  have b : toD σ 8 (.lst j) = some (.list []) := toD_ints (k := 6) (l := []) hj
  have h := pyEq_of a b
  show (pyEq σ (.lst i) (.lst j)).map (!·) = _
  rw [h]; simp [PyData.eqv, PyData.eqvAll]
theorem cmp_rows_nil {σ : St} {i j m k : Nat} {A : Nat → Nat → Int} (hi : IsIMat σ (.lst i) m k A) (hm : m ≠ 0) (hj : σ[j]? = some []) : cmp .NotEq (.lst i) (.lst j) σ = some true := by
  have b : toD σ 8 (.lst j) = some (.list []) := toD_ints (k := 6) (l := []) hj
  obtain ⟨a, l, e, ha, hl, hr⟩ := hi
  cases e
  have a : toD σ 8 (.lst i) = some (.list ((List.range m).map fun i => .list ((List.range k).map fun j => .int (A i j)))) := by
    show (match σ[i]? with | some l => (listD (toD σ 7) l).map PyData.list | none => none) = _
    rw [ha]
    show (listD (toD σ 7) l).map PyData.list = _
    rw [listD_map (ds := (List.range m).map fun i => .list ((List.range k).map fun j => .int (A i j))) (by simp [hl]) fun x hx => ?_]
    · rfl
    · rw [hl] at hx
      obtain ⟨c, e, hc⟩ := hr x hx
      refine ⟨_, .list ((List.range k).map fun j => .int (A x j)), e, by simp [hx], ?_⟩
      rw [rowI_ints] at hc
      rw [toD_ints (k := 5) hc]
      simp
  have h := pyEq_of a b
  show (pyEq σ (.lst i) (.lst j)).map (!·) = _
  rw [h]
  cases m with
  | zero => exact absurd rfl hm
  | succ m =>
    rw [List.range_succ_eq_map]
    simp [PyData.eqv, PyData.eqvAll]

noncomputable def bI : Nat → Nat
  | 0 => 2
  | s + 1 => 2 * bI s + 1
theorem bI_le {s : Nat} (h : s ≤ 3) : bI s ≤ 23 := by
  have : s = 0 ∨ s = 1 ∨ s = 2 ∨ s = 3 := by exact fm [_] [] [.nle (.v 0) (.l 3)] (.or (.neq (.v 0) (.l 0)) (.or (.neq (.v 0) (.l 1)) (.or (.neq (.v 0) (.l 2)) (.neq (.v 0) (.l 3))))) [[1, 0, 0, 0, 1], [0, 0, 0, 1, 1], [0, 0, 1, 1], [0, 0, 1, 1], [0, 1, 1], [0, 1, 1], [0, 1, 1], [0, 1, 1], [0, 1], [0, 1], [0, 1], [0, 1], [0, 1], [0, 1], [0, 1], [0, 1]] rfl h
  rcases this with rfl | rfl | rfl | rfl <;> decide

section
variable {n : Nat} {σ : St} {Q : PV → St → Prop}

theorem det_wp {p : PV} {m : Nat} {A : Nat → Nat → Int} (hA : IsIMat σ p m m A) (hm : m ≤ 3) (sa : ∀ i j, i < m → j < m → (A i j).natAbs < 2 ^ 2) (h : ∀ i σ', Le σ σ' → Q (.int i) σ') : Wp ((ev (n + 40)).c "determinant" [p] σ) Q := by
  have hcap : cap = 4000 := rfl
  obtain ⟨a, l, rfl, ha, hl, hr⟩ := id hA
  refine c_call F_determinant.2 ?_
  walk_at "py"
  refine comp_rule (fun k V σ' xs => σ = σ' ∧ Pres ["row"] (Seen _ _) V ∧ xs = []) m (by walk_at "om") ⟨rfl, Pres.refl, rfl⟩ ?_ ?_
  · rintro k V σ' xs hk ⟨rfl, hp, rfl⟩
    obtain ⟨c, ec, hc⟩ := hr k hk
    have g1 : At V "a" (.lst a) := hp _ _ rfl (by walk_at "lk")
    refine ⟨_, _, by rw [nx_lst ha]; exact ec, al_name (.inl rfl), ?_⟩
    walk_at "gate"
    walk_at "py"
    refine bi_leneq hc rowI_len (by rw [rowI_len]; exact fm [_, _] [] [.nle (.v 0) (.l 3), .neq (.v 1) (.l 4000)] (.nle (.v 0) (.v 1)) [[1, 0, 1, 1]] rfl hm hcap) ?_
    walk_at "py"
    refine bi_leneq ha hl (by walk_at "om") ?_
    walk_at "py"
    exact ⟨fun hc => absurd hc (by simp), fun _ => ⟨rfl, hp.upd (by rfl) _, rfl⟩⟩
  · rintro V σ' xs ⟨rfl, hp, rfl⟩
    refine ⟨by rw [nx_lst ha]; simp; exact fm [_, _] [] [.neq (.v 0) (.v 1)] (.nle (.v 0) (.v 1)) [[1, 0, 1]] rfl hl, by simp, ?_⟩
    repeat walk_at "back"
    intro t1 σ₁ le₁ new₁ at₁
    walk_at "py"
    intro t2 σ₂ le₂ new₂ at₂
    refine ⟨_, cmp_nil_nil (le₂ _ _ at₁) at₂, ?_⟩
    repeat walk_at "back"
    refine ⟨fun hc => absurd hc (by decide), fun _ => ?_⟩
    have le2 := le₁.trans le₂
    walk_at "py"
    refine comp_rule (fun k V σ' xs => All4 (Le σ₂ σ') (xs.length = k) ((∀ j, j < k → ∃ c : Nat, xs[j]? = some (PV.lst c) ∧ σ₂[c]? = none ∧ σ'[c]? = some (rowI m (A j)))) (∀ (i j c : Nat), xs[i]? = some (PV.lst c) → xs[j]? = some (PV.lst c) → i = j)) m (by walk_at "om") ⟨Le.refl _, rfl, fun j hj => by exact False.elim (fm [_] [] [.nlt (.v 0) (.l 0)] .f [[1]] rfl hj), fun i j c e => by simp at e⟩ ?_ ?_
    · rintro k V₂ σ' xs hk ⟨hle, hxl, hx, hinj⟩
      obtain ⟨c, ec, hc⟩ := hr k hk
      refine ⟨_, _, by rw [nx_lst (hle _ _ (le2 _ _ ha))]; exact ec, al_name (.inl rfl), ?_⟩
      walk_at "gate"
      walk_at "py"
      refine ⟨fun _ => ?_, fun hc => by cases hc⟩
      walk_at "py"
      refine bi_list (hle _ _ (le2 _ _ hc)) (by rw [rowI_len]; exact fm [_, _] [] [.nle (.v 0) (.l 3), .neq (.v 1) (.l 4000)] (.nle (.v 0) (.v 1)) [[1, 0, 1, 1]] rfl hm hcap) ?_
      intro d σ₃ le₃ new₃ at₃
      have dnew : ∀ j, xs[j]? ≠ some (PV.lst d) := fun j e => by
        have hj : j < k := by rw [← hxl]; exact (List.getElem?_eq_some_iff.mp e).1
        obtain ⟨c', e1, _, e2⟩ := hx j hj
        rw [e] at e1; cases e1
        rw [new₃] at e2; cases e2
      have lastOf : ∀ (j c' : Nat), (xs ++ [PV.lst d])[j]? = some (.lst c') → (xs[j]? = some (.lst c') ∧ j < k) ∨ (j = k ∧ c' = d) := fun j c' e => by
        by_cases hj : j < k
        · rw [List.getElem?_append_left (by walk_at "om")] at e; exact .inl ⟨e, hj⟩
        · rw [List.getElem?_append_right (by exact fm [_, _, _] [] [.neq (.v 0) (.v 1), .no (.nlt (.v 2) (.v 1))] (.nle (.v 0) (.v 2)) [[1, 0, 1, 1]] rfl hxl hj), hxl] at e
          have : j - k = 0 := by
            have := (List.getElem?_eq_some_iff.mp e).1
            simp at this; exact fm [_] [] [.neq (.v 0) (.l 0)] (.neq (.v 0) (.l 0)) [[1, 0, 1], [0, 0, 1]] rfl this
          rw [this] at e
          simp at e
          repeat walk_at "back"
          exact .inr ⟨by exact fm [_, _, _] [] [.no (.nlt (.v 0) (.v 1)), .neq (.v 2) (.l 0), .or (.an (.nle (.v 1) (.v 0)) (.neq (.a (.v 2) (.v 1)) (.v 0))) (.an (.nle (.v 0) (.v 1)) (.neq (.v 2) (.l 0)))] (.neq (.v 0) (.v 1)) [[0, 1, 0, 0, 0, 1, 1], [1, 0, 0, 0, 0, 0, 1], [0, 0, 0, 1, 0, 0, 1], [1, 0, 0, 0, 0, 0, 1]] rfl hj this (subn _ _), by cases e; rfl⟩
      refine ⟨hle.trans le₃, by simp [hxl], fun j hj => ?_, fun i j c' e1 e2 => ?_⟩
      · by_cases e : j = k
        · subst e
          repeat walk_at "back"
          exact ⟨d, by rw [List.getElem?_append_right (by exact fm [_, _] [] [.neq (.v 0) (.v 1)] (.nle (.v 0) (.v 1)) [[1, 0, 1]] rfl hxl), hxl]; simp, hle.none new₃, at₃⟩
        · obtain ⟨c', e1, e2, e3⟩ := hx j (by exact fm [_, _] [] [.nlt (.v 0) (.a (.v 1) (.l 1)), .no (.neq (.v 0) (.v 1))] (.nlt (.v 0) (.v 1)) [[1, 1], [0, 1, 1]] rfl hj e)
          repeat walk_at "back"
          exact ⟨c', by rw [List.getElem?_append_left (by exact fm [_, _, _] [] [.neq (.v 0) (.v 1), .nlt (.v 2) (.a (.v 1) (.l 1)), .no (.neq (.v 2) (.v 1))] (.nlt (.v 2) (.v 0)) [[0, 0, 1, 1], [0, 1, 0, 1, 1]] rfl hxl hj e)]; exact e1, e2, le₃ _ _ e3⟩
      · rcases lastOf i c' e1 with ⟨f1, f2⟩ | ⟨f1, f2⟩ <;> rcases lastOf j c' e2 with ⟨g1, g2⟩ | ⟨g1, g2⟩
        · repeat walk_at "back"
          exact hinj i j c' f1 g1
        · rw [g2] at f1; exact absurd f1 (dnew i)
        · rw [f2] at g1; exact absurd g1 (dnew j)
        · exact fm [_, _, _] [] [.neq (.v 0) (.v 1), .neq (.v 2) (.v 1)] (.neq (.v 0) (.v 2)) [[1, 0, 0, 1, 1], [0, 1, 1, 0, 1]] rfl f1 g1
    · rintro V₂ σ' xs ⟨hle, hxl, hx, hinj⟩
      refine ⟨by rw [nx_lst (hle _ _ (le2 _ _ ha))]; simp; exact fm [_, _] [] [.neq (.v 0) (.v 1)] (.nle (.v 0) (.v 1)) [[1, 0, 1]] rfl hl, by walk_at "om", ?_⟩
      repeat walk_at "back"
      intro f σ₃ le₃ new₃ at₃
      have hc : ∃ c : Nat → Nat, ∀ j, j < m → xs[j]? = some (.lst (c j)) ∧ σ₂[c j]? = none ∧ σ'[c j]? = some (rowI m (A j)) := by
        refine ⟨fun j => if hj : j < m then Classical.choose (hx j hj) else 0, fun j hj => ?_⟩
        simp only [dif_pos hj]
        repeat walk_at "back"
        exact Classical.choose_spec (hx j hj)
      obtain ⟨c, hc⟩ := hc
      have le3 := le2.trans (hle.trans le₃)
      have G : GI σ σ₃ f xs c m A := {
        there := at₃
        newf := le2.none (hle.none new₃)
        len := hxl
        row := fun i hi => (hc i hi).1
        ne := fun i hi e => by have := (hc i hi).2.2; rw [e, new₃] at this; cases this
        new := fun i hi => le2.none (hc i hi).2.1
        val := fun i hi => le₃ _ _ (hc i hi).2.2
        inj := fun i j hi hj e => hinj i j (c i) (hc i hi).1 (by rw [e]; exact (hc j hj).1) }
      walk_at "py"
      refine bi_leneq (le3 _ _ ha) hl (by walk_at "om") ?_
      walk_at "py"
      refine bi_range (small_of (by walk_at "om") (by walk_at "om")) ?_
      walk_at "py"
      refine for_rule (fun s V σ' => All3 (At V "found" (.lst f)) (Le σ σ') (∃ sg ah l c M, At V "sign" (.int sg) ∧ At V "ahead" (.int ah) ∧ sg.natAbs ≤ 1 ∧ ah ≠ 0 ∧ ah.natAbs < 2 ^ bI s ∧ GI σ σ' f l c m M ∧ ∀ i j, i < m → j < m → (M i j).natAbs < 2 ^ bI s)) m (by walk_at "om")
        ⟨by walk_at "lk", le3, 1, 1, xs, c, A, by walk_at "lk", by walk_at "lk", by decide, by decide, by decide, G, sa⟩ ?_ ?_
      · rintro s V₃ σ₄ hs ⟨g1, hle₄, sg, ah, l₄, c₄, M, g2, g3, hsg, hah, hah2, G₄, hM⟩
        have hbs := bI_le (s := s) (by walk_at "om")
        have hlen₄ := G₄.len
        refine ⟨_, _, nx_rng0 (by walk_at "om"), al_name (.inl rfl), ?_⟩
        walk_at "gate"
        walk_at "py"
        refine pivot_row_wp G₄ hs (by walk_at "om") (fun p hp hpm hMp => ?_) ?_
        · walk_at "py"
          refine ⟨_, rfl, fun hc => absurd hc (by decide), fun _ => ?_⟩
          refine s_start (ss_nil ?_)
          repeat walk_at "back"
          repeat walk_at "back"
          refine ss_cons ?_
          refine Ws.mono (Q := fun fl V' σ' => fl = .next ∧ At V' "found" (.lst f) ∧ At V' "step" (.int s) ∧ At V' "ahead" (.int ah) ∧ Le σ σ' ∧ ∃ sg l c M', At V' "sign" (.int sg) ∧ sg.natAbs ≤ 1 ∧ GI σ σ' f l c m M' ∧ (∀ i j, i < m → j < m → (M' i j).natAbs < 2 ^ bI s) ∧ M' s s ≠ 0) (s_if ?_) ?_
          · walk_at "py"
            refine ⟨fun hc => ?_, fun hc => ?_⟩
            · walk_at "py"
              refine g_lst G₄.there (by walk_at "om") (by walk_at "om") (by rw [Int.toNat_natCast]; exact G₄.row s hs) ?_
              walk_at "py"
              refine g_lst G₄.there (by walk_at "om") (by walk_at "om") (by rw [Int.toNat_natCast]; exact G₄.row p hpm) ?_
              walk_at "py"
              refine ⟨f, p, _, rfl, rfl, G₄.there, by walk_at "om", by rw [hlen₄]; simpa using hpm, by walk_at "om", ?_⟩
              walk_at "py"
              refine ⟨f, s, _, rfl, rfl, set_at G₄.there, by walk_at "om", by simp [hlen₄]; exact hs, by simp [hlen₄]; exact fm [_, _] [] [.nle (.v 0) (.l 3), .neq (.v 1) (.l 4000)] (.nle (.v 0) (.v 1)) [[1, 0, 1, 1]] rfl hm hcap, ?_⟩
              walk_at "py"
              rw [Int.toNat_natCast, Int.toNat_natCast]
              refine ⟨by walk_at "lk", by walk_at "lk", by walk_at "lk", (hle₄.set G₄.newf _).set G₄.newf _, -sg, _, _, _, by walk_at "lk", by exact fm [_, _] [_] [.nle (.v 0) (.l 1), .or (.an (.ile (.l 0) (.v 0)) (.ieq (.k (.v 0)) (.v 0))) (.an (.ile (.v 0) (.l 0)) (.ieq (.k (.v 0)) (.g (.v 0)))), .or (.an (.ile (.l 0) (.g (.v 0))) (.ieq (.k (.v 1)) (.g (.v 0)))) (.an (.ile (.g (.v 0)) (.l 0)) (.ieq (.k (.v 1)) (.g (.g (.v 0)))))] (.nle (.v 1) (.l 1)) [[0, 1, 0, 0, 0, 1, 0, 1], [1, 0, 0, 1, 0, 1, 0, 1], [1, 0, 0, 1, 0, 1, 0, 1], [0, 1, 0, 0, 0, 1, 0, 1]] rfl hsg (nabs _) (nabs _), G₄.swap hpm hs, fun i j hi hj => hM _ j (sw_lt hpm hs hi) hj, ?_⟩
              have : sw p s s = p := by unfold sw; split <;> simp_all
              rw [this]; exact hMp
            · have hps : p = s := by simp at hc; exact fm [_, _] [] [.ieq (.k (.v 0)) (.k (.v 1))] (.neq (.v 0) (.v 1)) [[1, 0, 1], [0, 1, 1]] rfl hc
              walk_at "py"
              exact ⟨by walk_at "lk", by walk_at "lk", by walk_at "lk", hle₄, sg, l₄, c₄, M, by walk_at "lk", hsg, G₄, hM, by rw [← hps]; rw [hps] at hMp ⊢; exact hMp⟩
          · rintro fl V₅ σ₅ ⟨rfl, j1, j2, j3, hle₅, sg', l₅, c₅, M', j4, hsg', G₅, hM', hne⟩
            walk_at "py"
            refine bareiss_wp G₅ hle₅ hs (by walk_at "om") hM' (by walk_at "om") hah hah2 fun σ₆ M₆ hle₆ G₆ same₆ hM₆ => ?_
            walk_at "py"
            refine g_lst G₆.there (by walk_at "om") (by walk_at "om") (by rw [Int.toNat_natCast]; exact G₆.row s hs) ?_
            walk_at "py"
            refine g_lst (G₆.val s hs) (by walk_at "om") (by walk_at "om") (by rw [Int.toNat_natCast]; exact rowI_get hs) ?_
            walk_at "py"
            exact ⟨by walk_at "lk", hle₆, sg', M₆ s s, l₅, c₅, M₆, by walk_at "lk", by walk_at "lk", hsg', by rw [same₆]; exact hne, hM₆ s s hs hs, G₆, hM₆⟩
        · walk_at "py"
          refine ⟨_, rfl, fun _ => ?_, fun hc => absurd hc (by decide)⟩
          walk_at "py"
          exact h _ _ hle₄
      · rintro V₃ σ₄ ⟨g1, hle₄, sg, ah, l₄, c₄, M, g2, g3, hsg, hah, hah2, G₄, hM⟩
        have hbs := bI_le (s := m) (by walk_at "om")
        refine ⟨nx_rng_none (by walk_at "om"), ?_⟩
        repeat walk_at "back"
        walk_at "py"
        refine b_mul (bits_of (k := 1) (by walk_at "om") (by decide)) (bits_of hah2 (by walk_at "om")) ?_
        repeat walk_at "back"
        exact h _ _ hle₄

theorem det_wx {p : PV} {m k : Nat} {A : Nat → Nat → Int} (hA : IsIMat σ p m k A) (h0 : m ≠ 0) (hm : m ≤ 100) (hk : k ≤ 100) (hne : m ≠ k) {Q : St → Prop} (h : ∀ σ', Le σ σ' → Q σ') : Wx ((ev (n + 40)).c "determinant" [p] σ) "shape" Q := by
  have hcap : cap = 4000 := rfl
  obtain ⟨a, l, rfl, ha, hl, hr⟩ := id hA
  refine cx_call F_determinant.2 (sx_start (ssx_here (sx_if ?_)))
  walk_at "py"
  refine comp_rule (fun k V σ' xs => σ' = σ ∧ Pres ["row"] (Seen _ _) V ∧ xs = l.take k) m (by walk_at "om") ⟨rfl, Pres.refl, by simp⟩ ?_ ?_
  · rintro j V σ' xs hj ⟨rfl, hp, rfl⟩
    obtain ⟨c, ec, hc⟩ := hr j hj
    have g1 : At V "a" (.lst a) := hp _ _ rfl (by walk_at "lk")
    refine ⟨_, _, by rw [nx_lst ha]; exact ec, al_name (.inl rfl), ?_⟩
    walk_at "gate"
    walk_at "py"
    refine bi_leneq hc rowI_len (by rw [rowI_len]; exact fm [_, _] [] [.nle (.v 0) (.l 100), .neq (.v 1) (.l 4000)] (.nle (.v 0) (.v 1)) [[1, 0, 1, 1]] rfl hk hcap) ?_
    walk_at "py"
    refine bi_leneq ha hl (by walk_at "om") ?_
    walk_at "py"
    refine ⟨fun _ => ?_, fun hc => absurd hc (by simp; exact fm [_, _] [] [.no (.neq (.v 0) (.v 1))] (.no (.ieq (.k (.v 1)) (.k (.v 0)))) [[1, 0, 1], [1, 1]] rfl hne)⟩
    walk_at "py"
    refine ⟨hp.upd (by rfl) _, ?_⟩
    rw [List.take_add_one, ec]
    rfl
  · rintro V σ' xs ⟨rfl, hp, rfl⟩
    refine ⟨by rw [nx_lst ha]; simp; exact fm [_, _] [] [.neq (.v 0) (.v 1)] (.nle (.v 0) (.v 1)) [[1, 0, 1]] rfl hl, by simp; exact fm [_, _, _, _] [] [.nle (.v 0) (.l 100), .neq (.v 1) (.l 4000), .or (.an (.nle (.v 0) (.v 2)) (.neq (.v 3) (.v 0))) (.an (.nle (.v 2) (.v 0)) (.neq (.v 3) (.v 2)))] (.nle (.v 3) (.v 1)) [[1, 0, 1, 0, 1, 0, 1], [1, 0, 1, 1, 1, 0, 1]] rfl hm hcap (minn _ _), ?_⟩
    repeat walk_at "back"
    rw [List.take_of_length_le (by exact fm [_, _] [] [.neq (.v 0) (.v 1)] (.nle (.v 0) (.v 1)) [[1, 0, 1]] rfl hl)]
    intro t1 σ₁ le₁ new₁ at₁
    walk_at "py"
    intro t2 σ₂ le₂ new₂ at₂
    have le2 := le₁.trans le₂
    refine ⟨_, cmp_rows_nil (A := A) (k := k) ⟨t1, l, rfl, le₂ _ _ at₁, hl, fun i hi => by obtain ⟨c, e, hc⟩ := hr i hi; exact ⟨c, e, le2 _ _ hc⟩⟩ h0 at₂, rfl, ?_⟩
    refine sx_start (ssx_here (sx_raise (by with_unfolding_all rfl) ?_ (by decide +kernel)))
    walk_at "py"
    exact ⟨_, rfl, by decide +kernel, h _ le2⟩
end
end
section

theorem Ws.monoD {x : R (Fl × Vars)} {Q Q' : Fl → Vars → St → Prop} (h : Ws x Q) (k : ∀ f V σ, Q f V σ → Q' f V σ) : Ws x Q' := Wp.mono h fun fv σ h => k _ _ _ h

structure Bx (b s : Nat) (ns : List Int) (t : Nat) (σ : St) : Prop where
  box : σ[b]? = some [.lst s, .int t]
  scr : σ[s]? = some (ns.map .int)
theorem Bx.ne {b s ns t σ} (h : Bx b s ns t σ) : s ≠ b := fun e => by
  have h1 := h.scr
  rw [e, h.box] at h1
  cases ns with
  | nil => simp at h1
  | cons x r => simp at h1
theorem Bx.le {b s ns t σ σ'} (h : Bx b s ns t σ) (l : Le σ σ') : Bx b s ns t σ' := ⟨l _ _ h.box, l _ _ h.scr⟩
theorem Bx.row {b s ns t σ c k f} (h : Bx b s ns t σ) (e : σ[c]? = some (rowOf k f)) : c ≠ b := fun q => by
  rw [q, h.box] at e
  cases k with
  | zero => simp [rowOf] at e
  | succ k =>
    have e2 := congrArg (fun o => (o.getD [])[0]?) e
    simp [rowOf, Mine.q] at e2
theorem Bx.mat {b s ns t σ σ' p m k M} (h : Bx b s ns t σ) (l : Lf b σ σ') (hM : IsMat σ p m k M) : IsMat σ' p m k M := by
  obtain ⟨a, r, rfl, ha, hl, hr⟩ := hM
  refine ⟨a, r, rfl, l _ _ (fun q => ?_) ha, hl, fun i hi => ?_⟩
  · rw [q, h.box] at ha
    cases ha
    obtain ⟨v, e1, c, rfl, e2⟩ := hr 1 (by simp at hl; exact fm [_] [] [.neq (.l 2) (.v 0)] (.nlt (.l 1) (.v 0)) [[1, 0, 1]] rfl hl)
    simp at e1
  · obtain ⟨v, e1, c, rfl, e2⟩ := hr i hi
    repeat walk_at "back"
    exact ⟨_, e1, c, rfl, l _ _ (h.row e2) e2⟩

theorem bits20 {x : Int} (h : x.natAbs < 2 ^ 40) : bitsOk x = true := bits_of h (by decide)

section
variable {n : Nat} {σ : St} {Q : PV → St → Prop}
theorem take_wp {b s t : Nat} {ns : List Int} {w : Int} (hb : Bx b s ns t σ) (ht : t ≤ 1000) (hn : ns.length ≤ 40) (hw : 0 < w) (h : ∀ (d : Nat) σ', (d : Int) < w → Lf b σ σ' → Bx b s ns (t + 1) σ' → Q (.int d) σ') : Wp ((ev (n + 12)).c "_law_take" [.lst b, .int w] σ) Q := by
  have hcap : cap = 4000 := rfl
  refine c_call F_law_take.2 ?_
  walk_at "py"
  refine g_lst hb.box (by decide) (by decide) rfl ?_
  walk_at "py"
  refine ⟨b, 1, _, rfl, rfl, hb.box, by decide, by simp, by simp; exact fm [_] [] [.neq (.v 0) (.l 4000)] (.nle (.l 2) (.v 0)) [[0, 1, 1]] rfl hcap, ?_⟩
  have hb' : Bx b s ns (t + 1) (σ.set b ([PV.lst s, PV.int t].set (Int.toNat 1) (.int (t + 1)))) := ⟨by rw [set_at hb.box]; rfl, set_ne hb.ne hb.scr⟩
  walk_at "py"
  have fin : ∀ x : Int, Q (.int (x.fmod w)) (σ.set b ([PV.lst s, PV.int t].set (Int.toNat 1) (.int (t + 1)))) := fun x => by
    have h1 := Int.fmod_nonneg_of_pos x hw
    have h2 := Int.fmod_lt_of_pos x hw
    have := h (x.fmod w).toNat _ (by exact fm [_] [_, _] [.ile (.l 0) (.v 0), .ilt (.v 0) (.v 1), .or (.an (.ile (.l 0) (.v 0)) (.ieq (.k (.v 0)) (.v 0))) (.an (.ile (.v 0) (.l 0)) (.neq (.v 0) (.l 0)))] (.ilt (.k (.v 0)) (.v 1)) [[0, 1, 0, 1, 0, 1], [1, 1, 0, 1, 0, 1]] rfl h1 h2 (tona _)) Lf.set hb'
    rwa [Int.toNat_of_nonneg h1] at this
  refine e_ife ?_
  walk_at "py"
  refine g_lst hb'.box (by decide) (by decide) rfl ?_
  walk_at "py"
  refine bi_len hb'.scr (by simp; exact fm [_, _] [] [.nle (.v 0) (.l 40), .neq (.v 1) (.l 4000)] (.nle (.v 0) (.v 1)) [[1, 0, 1, 1]] rfl hn hcap) ?_
  walk_at "py"
  refine ⟨fun hc => ?_, fun hc => ?_⟩
  · have hc : t < ns.length := by simp at hc; exact fm [_, _] [] [.nlt (.v 0) (.v 1)] (.nlt (.v 0) (.v 1)) [[1, 1]] rfl hc
    walk_at "py"
    refine g_lst hb'.box (by decide) (by decide) rfl ?_
    walk_at "py"
    refine g_lst hb'.scr (by walk_at "om") (by walk_at "om") (v := .int ns[t]) (by simp [hc]) ?_
    walk_at "py"
    refine b_mod (by exact fm [] [_] [.ilt (.l 0) (.v 0)] (.no (.ieq (.v 0) (.l 0))) [[1, 1]] rfl hw) ?_
    walk_at "py"
    exact fin _
  · have b1 : ∀ x : Int, x.natAbs ≤ 10000000 → bitsOk x = true := fun x hx => bits20 (by walk_at "om")
    have m1 : (t : Int) * t ≤ 1000 * 1000 := Int.mul_le_mul (by walk_at "om") (by walk_at "om") (by walk_at "om") (by exact fm [] [] [] (.ile (.l 0) (.l 1000)) [[1]] rfl)
    have m0 : (0 : Int) ≤ t * t := Int.mul_nonneg (by walk_at "om") (by walk_at "om")
    walk_at "py"
    refine b_mul (by decide) (b1 _ (by exact fm [_, _] [] [.nle (.v 0) (.l 1000), .or (.an (.ile (.l 0) (.k (.v 0))) (.ieq (.k (.v 1)) (.k (.v 0)))) (.an (.ile (.k (.v 0)) (.l 0)) (.ieq (.k (.v 1)) (.g (.k (.v 0)))))] (.nle (.v 1) (.l 10000000)) [[1, 0, 1, 0, 1], [0, 0, 1, 0, 1]] rfl ht (nabs _))) ?_
    walk_at "py"
    refine b_mul (b1 _ (by exact fm [_, _] [] [.nle (.v 0) (.l 1000), .or (.an (.ile (.l 0) (.m 5 (.k (.v 0)))) (.ieq (.k (.v 1)) (.m 5 (.k (.v 0))))) (.an (.ile (.m 5 (.k (.v 0))) (.l 0)) (.ieq (.k (.v 1)) (.g (.m 5 (.k (.v 0))))))] (.nle (.v 1) (.l 10000000)) [[5, 0, 1, 0, 1], [0, 0, 1, 0, 1]] rfl ht (nabs _))) (b1 _ (by exact fm [_, _] [] [.nle (.v 0) (.l 1000), .or (.an (.ile (.l 0) (.k (.v 0))) (.ieq (.k (.v 1)) (.k (.v 0)))) (.an (.ile (.k (.v 0)) (.l 0)) (.ieq (.k (.v 1)) (.g (.k (.v 0)))))] (.nle (.v 1) (.l 10000000)) [[1, 0, 1, 0, 1], [0, 0, 1, 0, 1]] rfl ht (nabs _))) ?_
    walk_at "py"
    refine b_mul (by decide) (b1 _ (by exact fm [_, _] [] [.nle (.v 0) (.l 1000), .or (.an (.ile (.l 0) (.k (.v 0))) (.ieq (.k (.v 1)) (.k (.v 0)))) (.an (.ile (.k (.v 0)) (.l 0)) (.ieq (.k (.v 1)) (.g (.k (.v 0)))))] (.nle (.v 1) (.l 10000000)) [[1, 0, 1, 0, 1], [0, 0, 1, 0, 1]] rfl ht (nabs _))) ?_
    walk_at "py"
    refine b_mod (by decide) ?_
    walk_at "py"
    refine b_mod (by exact fm [] [_] [.ilt (.l 0) (.v 0)] (.no (.ieq (.v 0) (.l 0))) [[1, 1]] rfl hw) ?_
    walk_at "py"
    exact fin _

theorem matrix_wp {b s t : Nat} {ns : List Int} (hb : Bx b s ns t σ) (ht : t ≤ 900) (hn : ns.length ≤ 40) (h : ∀ p m k M t' σ', Lf b σ σ' → Bx b s ns t' σ' → t' ≤ t + 20 → IsMat σ' p m k M → (m = 0 ↔ k = 0) → m ≤ 3 → k ≤ 3 → (∀ i j, i < m → j < k → Sz 2 (M i j)) → Q p σ') : Wp ((ev (n + 40)).c "_law_matrix" [.lst b] σ) Q := by
  have hcap : cap = 4000 := rfl
  refine c_call F_law_matrix.2 ?_
  walk_at "py"
  refine take_wp hb (by walk_at "om") hn (by decide) fun m σ₁ hm lf₁ hb₁ => ?_
  walk_at "py"
  refine take_wp hb₁ (by exact fm [_] [] [.nle (.v 0) (.l 900)] (.nle (.a (.v 0) (.l 1)) (.l 1000)) [[1, 1]] rfl ht) hn (by decide) fun k σ₂ hk lf₂ hb₂ => ?_
  walk_at "py"
  refine bi_range (small_of (by walk_at "om") (by exact fm [_] [] [.ilt (.k (.v 0)) (.l 4)] (.ile (.k (.v 0)) (.l 1000)) [[1, 1]] rfl hm)) ?_
  walk_at "py"
  refine comp_rule (fun i V σ' xs => All5 (Pres ["line"] (Seen _ _) V) (Lf b σ σ') ((∃ t', Bx b s ns t' σ' ∧ t' ≤ t + 2 + 6 * i)) (xs.length = i) (∀ i', i' < i → ∃ c f, xs[i']? = some (PV.lst c) ∧ σ'[c]? = some (rowOf (1 + k) f) ∧ ∀ j, j < 1 + k → Sz 2 (f j))) m (by exact fm [_, _] [] [.neq (.v 0) (.l 4000), .ilt (.k (.v 1)) (.l 4)] (.nlt (.v 1) (.v 0)) [[0, 1, 1, 1]] rfl hcap hm) ⟨Pres.refl, lf₁.trans lf₂, ⟨_, hb₂, by exact fm [_] [] [] (.nle (.a (.a (.v 0) (.l 1)) (.l 1)) (.a (.a (.v 0) (.l 2)) (.l 0))) [[1]] rfl⟩, rfl, fun i hi => by exact False.elim (fm [_] [] [.nlt (.v 0) (.l 0)] .f [[1]] rfl hi)⟩ ?_ ?_
  · rintro i V σ' xs hi ⟨hp, lf', ⟨t', hb', ht'⟩, hxl, hx⟩
    refine ⟨_, _, nx_rng (by walk_at "om"), al_name (.inl rfl), ?_⟩
    walk_at "gate"
    have g1 : At V "box" (.lst b) := hp _ _ rfl (by walk_at "lk")
    have g2 : At V "wide" (.int (1 + k)) := hp _ _ rfl (by walk_at "lk")
    walk_at "py"
    refine ⟨fun _ => ?_, fun hc => by cases hc⟩
    walk_at "py"
    refine bi_range (small_of (by exact fm [_] [] [] (.ile (.l 0) (.a (.l 1) (.k (.v 0)))) [[1]] rfl) (by exact fm [_] [] [.ilt (.k (.v 0)) (.l 3)] (.ile (.a (.l 1) (.k (.v 0))) (.l 1000)) [[1, 1]] rfl hk)) ?_
    walk_at "py"
    refine comp_rule (fun j V₂ σ'' ys => All5 (Pres ["spot"] (Seen _ _) V₂) (Lf b σ' σ'') ((∃ t'', Bx b s ns t'' σ'' ∧ t'' ≤ t' + 2 * j)) (ys.length = j) (∀ j', j' < j → ∃ x : Rat, ys[j']? = some (Mine.q x) ∧ Sz 2 x)) (1 + k) (by exact fm [_, _] [] [.neq (.v 0) (.l 4000), .ilt (.k (.v 1)) (.l 3)] (.nlt (.a (.l 1) (.v 1)) (.v 0)) [[0, 1, 1, 1]] rfl hcap hk) ⟨Pres.refl, Lf.refl, ⟨_, hb', by exact fm [_] [] [] (.nle (.v 0) (.a (.v 0) (.l 0))) [[1]] rfl⟩, rfl, fun j hj => by exact False.elim (fm [_] [] [.nlt (.v 0) (.l 0)] .f [[1]] rfl hj)⟩ ?_ ?_
    · rintro j V₂ σ₃ ys hj ⟨hp₂, lf₃, ⟨t₃, hb₃, ht₃⟩, hyl, hy⟩
      refine ⟨_, _, nx_rng (by exact fm [_, _] [] [.nlt (.v 0) (.a (.l 1) (.v 1))] (.ilt (.a (.l 0) (.k (.v 0))) (.a (.l 1) (.k (.v 1)))) [[1, 1]] rfl hj), al_name (.inl rfl), ?_⟩
      walk_at "gate"
      have g3 : At V₂ "box" (.lst b) := hp₂ _ _ rfl (by walk_at "lk")
      walk_at "py"
      refine ⟨fun _ => ?_, fun hc => by cases hc⟩
      walk_at "py"
      refine take_wp hb₃ (by exact fm [_, _, _, _, _, _, _] [] [.nle (.v 0) (.l 900), .ilt (.k (.v 1)) (.l 4), .ilt (.k (.v 2)) (.l 3), .nlt (.v 3) (.v 1), .nle (.v 4) (.a (.a (.v 0) (.l 2)) (.m 6 (.v 3))), .nlt (.v 5) (.a (.l 1) (.v 2)), .nle (.v 6) (.a (.v 4) (.m 2 (.v 5)))] (.nle (.v 6) (.l 1000)) [[1, 6, 2, 6, 1, 2, 1, 1]] rfl ht hm hk hi ht' hj ht₃) hn (by decide) fun x σ₄ hxx lf₄ hb₄ => ?_
      walk_at "py"
      refine take_wp hb₄ (by exact fm [_, _, _, _, _, _, _] [] [.nle (.v 0) (.l 900), .ilt (.k (.v 1)) (.l 4), .ilt (.k (.v 2)) (.l 3), .nlt (.v 3) (.v 1), .nle (.v 4) (.a (.a (.v 0) (.l 2)) (.m 6 (.v 3))), .nlt (.v 5) (.a (.l 1) (.v 2)), .nle (.v 6) (.a (.v 4) (.m 2 (.v 5)))] (.nle (.a (.v 6) (.l 1)) (.l 1000)) [[1, 6, 2, 6, 1, 2, 1, 1]] rfl ht hm hk hi ht' hj ht₃) hn (by decide) fun y σ₅ hyy lf₅ hb₅ => ?_
      walk_at "py"
      refine rat_wp (by exact fm [_] [] [] (.no (.ieq (.a (.l 1) (.k (.v 0))) (.l 0))) [[1]] rfl) ?_ ?_
      · repeat walk_at "back"
        exact Nat.lt_of_lt_of_le (m := 2 ^ 2) (by exact fm [_, _] [] [.ilt (.k (.v 0)) (.l 2), .or (.an (.ile (.l 0) (.a (.l 1) (.k (.v 0)))) (.ieq (.k (.v 1)) (.a (.l 1) (.k (.v 0))))) (.an (.ile (.a (.l 1) (.k (.v 0))) (.l 0)) (.ieq (.k (.v 1)) (.g (.a (.l 1) (.k (.v 0))))))] (.nlt (.v 1) (.l 4)) [[1, 0, 1, 0, 1], [0, 1]] rfl hyy (nabs _)) (Nat.pow_le_pow_right (by decide) (by decide))
      have hsz : Sz 2 (Rat.divInt (x - 3) (1 + y)) := by
        have hy2 : y = 0 ∨ y = 1 := by exact fm [_] [] [.ilt (.k (.v 0)) (.l 2)] (.or (.neq (.v 0) (.l 0)) (.neq (.v 0) (.l 1))) [[1, 0, 1], [0, 1, 1], [0, 1], [0, 1]] rfl hyy
        have hx2 : x = 0 ∨ x = 1 ∨ x = 2 ∨ x = 3 ∨ x = 4 ∨ x = 5 ∨ x = 6 := lt7 x (by omega)
        rcases hy2 with rfl | rfl <;> rcases hx2 with rfl | rfl | rfl | rfl | rfl | rfl | rfl <;> (unfold Sz; decide +kernel)
      refine ⟨hp₂.upd (by rfl) _, lf₃.trans (lf₄.trans lf₅), ⟨_, hb₅, by exact fm [_, _, _] [] [.nle (.v 0) (.a (.v 1) (.m 2 (.v 2)))] (.nle (.a (.a (.v 0) (.l 1)) (.l 1)) (.a (.v 1) (.m 2 (.a (.v 2) (.l 1))))) [[1, 1]] rfl ht₃⟩, by simp [hyl], fun j' hj' => ?_⟩
      by_cases e : j' = j
      · subst e
        repeat walk_at "back"
        exact ⟨_, by rw [List.getElem?_append_right (by exact fm [_, _] [] [.neq (.v 0) (.v 1)] (.nle (.v 0) (.v 1)) [[1, 0, 1]] rfl hyl), hyl]; simp, hsz⟩
      · obtain ⟨z, e1, e2⟩ := hy j' (by exact fm [_, _] [] [.nlt (.v 0) (.a (.v 1) (.l 1)), .no (.neq (.v 0) (.v 1))] (.nlt (.v 0) (.v 1)) [[1, 1], [0, 1, 1]] rfl hj' e)
        repeat walk_at "back"
        exact ⟨z, by rw [List.getElem?_append_left (by exact fm [_, _, _] [] [.neq (.v 0) (.v 1), .nlt (.v 2) (.a (.v 1) (.l 1)), .no (.neq (.v 2) (.v 1))] (.nlt (.v 2) (.v 0)) [[0, 0, 1, 1], [0, 1, 0, 1, 1]] rfl hyl hj' e)]; exact e1, e2⟩
    · rintro V₂ σ₃ ys ⟨hp₂, lf₃, ⟨t₃, hb₃, ht₃⟩, hyl, hy⟩
      refine ⟨nx_rng_none (by exact fm [_] [] [] (.no (.ilt (.a (.l 0) (.k (.a (.l 1) (.v 0)))) (.a (.l 1) (.k (.v 0))))) [[1]] rfl), by exact fm [_, _, _] [] [.neq (.v 0) (.l 4000), .ilt (.k (.v 1)) (.l 3), .neq (.v 2) (.a (.l 1) (.v 1))] (.nle (.v 2) (.v 0)) [[0, 1, 1, 1, 0, 1]] rfl hcap hk hyl, ?_⟩
      repeat walk_at "back"
      have hf : ∃ f : Nat → Rat, ∀ j, j < 1 + k → ys[j]? = some (Mine.q (f j)) ∧ Sz 2 (f j) := by
        refine ⟨fun j => if hj : j < 1 + k then Classical.choose (hy j hj) else 0, fun j hj => ?_⟩
        simp only [dif_pos hj]
        repeat walk_at "back"
        exact Classical.choose_spec (hy j hj)
      obtain ⟨f, hf⟩ := hf
      have ey : ys = rowOf (1 + k) f := rowOf_ext hyl fun j hj => (hf j hj).1
      intro c σ₄ le₄ new₄ at₄
      refine ⟨hp.upd (by rfl) _, lf'.trans (lf₃.trans le₄.lf), ⟨_, hb₃.le le₄, by exact fm [_, _, _, _, _] [] [.ilt (.k (.v 0)) (.l 3), .nle (.v 1) (.a (.a (.v 2) (.l 2)) (.m 6 (.v 3))), .nle (.v 4) (.a (.v 1) (.m 2 (.a (.l 1) (.v 0))))] (.nle (.v 4) (.a (.a (.v 2) (.l 2)) (.m 6 (.a (.v 3) (.l 1))))) [[2, 1, 1, 1]] rfl hk ht' ht₃⟩, by simp [hxl], fun i' hi' => ?_⟩
      by_cases e : i' = i
      · subst e
        repeat walk_at "back"
        exact ⟨c, f, by rw [List.getElem?_append_right (by exact fm [_, _] [] [.neq (.v 0) (.v 1)] (.nle (.v 0) (.v 1)) [[1, 0, 1]] rfl hxl), hxl]; simp, by rw [at₄, ey], fun j hj => (hf j hj).2⟩
      · obtain ⟨c', f', e1, e2, e3⟩ := hx i' (by exact fm [_, _] [] [.nlt (.v 0) (.a (.v 1) (.l 1)), .no (.neq (.v 0) (.v 1))] (.nlt (.v 0) (.v 1)) [[1, 1], [0, 1, 1]] rfl hi' e)
        repeat walk_at "back"
        exact ⟨c', f', by rw [List.getElem?_append_left (by exact fm [_, _, _] [] [.neq (.v 0) (.v 1), .nlt (.v 2) (.a (.v 1) (.l 1)), .no (.neq (.v 2) (.v 1))] (.nlt (.v 2) (.v 0)) [[0, 0, 1, 1], [0, 1, 0, 1, 1]] rfl hxl hi' e)]; exact e1, le₄ _ _ (lf₃ _ _ (hb'.row e2) e2), e3⟩
  · rintro V σ' xs ⟨hp, lf', ⟨t', hb', ht'⟩, hxl, hx⟩
    refine ⟨nx_rng_none (by walk_at "om"), by exact fm [_, _, _] [] [.neq (.v 0) (.l 4000), .ilt (.k (.v 1)) (.l 4), .neq (.v 2) (.v 1)] (.nle (.v 2) (.v 0)) [[0, 1, 1, 1, 0, 1]] rfl hcap hm hxl, ?_⟩
    repeat walk_at "back"
    have hf : ∃ f : Nat → Nat → Rat, ∀ i, i < m → (∃ c, xs[i]? = some (PV.lst c) ∧ σ'[c]? = some (rowOf (1 + k) (f i))) ∧ ∀ j, j < 1 + k → Sz 2 (f i j) := by
      have hx' : ∀ i, i < m → ∃ f : Nat → Rat, (∃ c, xs[i]? = some (PV.lst c) ∧ σ'[c]? = some (rowOf (1 + k) f)) ∧ ∀ j, j < 1 + k → Sz 2 (f j) := fun i hi => by
        obtain ⟨c, f, e1, e2, e3⟩ := hx i hi
        repeat walk_at "back"
        exact ⟨f, ⟨c, e1, e2⟩, e3⟩
      refine ⟨fun i => if hi : i < m then Classical.choose (hx' i hi) else fun _ => 0, fun i hi => ?_⟩
      simp only [dif_pos hi]
      repeat walk_at "back"
      exact Classical.choose_spec (hx' i hi)
    obtain ⟨f, hf⟩ := hf
    intro p σ₄ le₄ new₄ at₄
    by_cases hm0 : m = 0
    · subst hm0
      repeat walk_at "back"
      exact h (.lst p) 0 0 f t' σ₄ (lf'.trans le₄.lf) (hb'.le le₄) (by exact fm [_, _] [] [.nle (.v 0) (.a (.a (.v 1) (.l 2)) (.l 0))] (.nle (.v 0) (.a (.v 1) (.l 20))) [[1, 1]] rfl ht') ⟨p, xs, rfl, at₄, hxl, fun i hi => by exact False.elim (fm [_] [] [.nlt (.v 0) (.l 0)] .f [[1]] rfl hi)⟩ (by walk_at "om") (by walk_at "om") (by walk_at "om") (fun i j hi => by exact False.elim (fm [_] [] [.nlt (.v 0) (.l 0)] .f [[1]] rfl hi))
    · repeat walk_at "back"
      exact h (.lst p) m (1 + k) f t' σ₄ (lf'.trans le₄.lf) (hb'.le le₄) (by exact fm [_, _, _] [] [.ilt (.k (.v 0)) (.l 4), .nle (.v 1) (.a (.a (.v 2) (.l 2)) (.m 6 (.v 0)))] (.nle (.v 1) (.a (.v 2) (.l 20))) [[6, 1, 1]] rfl hm ht') ⟨p, xs, rfl, at₄, hxl, fun i hi => by
        obtain ⟨⟨c, e1, e2⟩, _⟩ := hf i hi
        repeat walk_at "back"
        exact ⟨_, e1, c, rfl, le₄ _ _ e2⟩⟩ ⟨fun q => by exact fm [_, _] [] [.no (.neq (.v 0) (.l 0)), .neq (.v 0) (.l 0)] (.neq (.a (.l 1) (.v 1)) (.l 0)) [[1, 1], [1, 1], [1], [0, 0, 0, 1]] rfl hm0 q, fun q => by exact fm [_, _] [] [.neq (.a (.l 1) (.v 0)) (.l 0)] (.neq (.v 1) (.l 0)) [[1], [1]] rfl q⟩ (by exact fm [_] [] [.ilt (.k (.v 0)) (.l 4)] (.nle (.v 0) (.l 3)) [[1, 1]] rfl hm) (by exact fm [_] [] [.ilt (.k (.v 0)) (.l 3)] (.nle (.a (.l 1) (.v 0)) (.l 3)) [[1, 1]] rfl hk) (fun i j hi hj => (hf i hi).2 j hj)
end
end
section
set_option backward.match.sparseCases false
set_option maxRecDepth 100000
open PySem

mutual
noncomputable def mv (π : Nat → Nat) : PV → PV
  | .none => .none
  | .bool b => .bool b
  | .int i => .int i
  | .str x => .str x
  | .lst i => .lst (π i)
  | .tup l => .tup (mvL π l)
  | .rng a b => .rng a b
noncomputable def mvL (π : Nat → Nat) : List PV → List PV
  | [] => []
  | v :: r => mv π v :: mvL π r
end
theorem mvL_map (π : Nat → Nat) : ∀ l : List PV, mvL π l = l.map (mv π)
  | [] => rfl
  | v :: r => by show mv π v :: mvL π r = _; rw [mvL_map π r]; rfl
theorem mv_tup (π : Nat → Nat) (l : List PV) : mv π (.tup l) = .tup (l.map (mv π)) := by show PV.tup (mvL π l) = _; rw [mvL_map]

structure Sim (π : Nat → Nat) (σ₀ τ σ : St) : Prop where
  inj : ∀ i j, π i = π j → i = j
  len : ∀ i, π (τ.length + i) = σ.length + i
  val : ∀ (i : Nat) (l : List PV), τ[i]? = some l → σ[π i]? = some (l.map (mv π))
  keep : ∀ (j : Nat) (l : List PV), (∀ i, π i ≠ j) → σ₀[j]? = some l → σ[j]? = some l

section
variable {π : Nat → Nat} {σ₀ τ σ : St}
theorem Sim.get (S : Sim π σ₀ τ σ) (i : Nat) : σ[π i]? = (τ[i]?).map (·.map (mv π)) := by
  cases h : τ[i]? with
  | some l => exact S.val i l h
  | none =>
    have hi := List.getElem?_eq_none_iff.mp h
    have := S.len (i - τ.length)
    rw [show τ.length + (i - τ.length) = i by exact fm [_, _, _] [] [.nle (.v 0) (.v 1), .or (.an (.nle (.v 0) (.v 1)) (.neq (.a (.v 2) (.v 0)) (.v 1))) (.an (.nle (.v 1) (.v 0)) (.neq (.v 2) (.l 0)))] (.neq (.a (.v 0) (.v 2)) (.v 1)) [[0, 0, 1, 0, 1], [0, 0, 0, 1, 1], [1, 0, 1, 0, 1], [0, 1, 0, 0, 1]] rfl hi (subn _ _)] at this
    rw [this]
    exact List.getElem?_eq_none (by exact fm [_, _] [] [] (.nle (.v 0) (.a (.v 0) (.v 1))) [[1]] rfl)
theorem Sim.new (S : Sim π σ₀ τ σ) : π τ.length = σ.length := S.len 0
theorem Sim.alloc (S : Sim π σ₀ τ σ) (l : List PV) : Sim π σ₀ (τ ++ [l]) (σ ++ [l.map (mv π)]) where
  inj := S.inj
  len i := by
    have := S.len (1 + i)
    simp only [List.length_append, List.length_cons, List.length_nil]
    rw [show τ.length + (0 + 1) + i = τ.length + (1 + i) by exact fm [_, _] [] [] (.neq (.a (.a (.v 0) (.l 1)) (.v 1)) (.a (.v 0) (.a (.l 1) (.v 1)))) [[1], [1]] rfl, this]; exact fm [_, _] [] [] (.neq (.a (.v 0) (.a (.l 1) (.v 1))) (.a (.a (.v 0) (.l 1)) (.v 1))) [[1], [1]] rfl
  val i m h := by
    by_cases hi : i < τ.length
    · rw [List.getElem?_append_left hi] at h
      have := S.val i m h
      rw [List.getElem?_append_left (List.getElem?_eq_some_iff.mp this).1]; exact this
    · rw [List.getElem?_append_right (by exact fm [_, _] [] [.no (.nlt (.v 0) (.v 1))] (.nle (.v 1) (.v 0)) [[1, 1]] rfl hi)] at h
      have h0 : i - τ.length = 0 := by
        have := (List.getElem?_eq_some_iff.mp h).1
        simp at this; exact fm [_] [] [.neq (.v 0) (.l 0)] (.neq (.v 0) (.l 0)) [[1, 0, 1], [0, 0, 1]] rfl this
      rw [h0] at h
      simp at h
      have hi : i = τ.length := by exact fm [_, _, _] [] [.no (.nlt (.v 0) (.v 1)), .neq (.v 2) (.l 0), .or (.an (.nle (.v 1) (.v 0)) (.neq (.a (.v 2) (.v 1)) (.v 0))) (.an (.nle (.v 0) (.v 1)) (.neq (.v 2) (.l 0)))] (.neq (.v 0) (.v 1)) [[0, 1, 0, 0, 0, 1, 1], [1, 0, 0, 0, 0, 0, 1], [0, 0, 0, 1, 0, 0, 1], [1, 0, 0, 0, 0, 0, 1]] rfl hi h0 (subn _ _)
      rw [hi, S.new, List.getElem?_append_right (Nat.le_refl _), Nat.sub_self, ← h]
      rfl
  keep j m hj h := by
    have := S.keep j m hj h
    rw [List.getElem?_append_left (List.getElem?_eq_some_iff.mp this).1]; exact this
theorem Sim.set (S : Sim π σ₀ τ σ) (i : Nat) (l : List PV) : Sim π σ₀ (τ.set i l) (σ.set (π i) (l.map (mv π))) where
  inj := S.inj
  len k := by simpa using S.len k
  val j m h := by
    by_cases hij : i = j
    · subst hij
      have hi : i < τ.length := by have := (List.getElem?_eq_some_iff.mp h).1; simpa using this
      rw [List.getElem?_set_self hi] at h
      cases h
      have : (σ[π i]?).isSome := by rw [S.get, List.getElem?_eq_getElem hi]; rfl
      rw [List.getElem?_set_self (by simpa using this)]
    · rw [List.getElem?_set_ne hij] at h
      rw [List.getElem?_set_ne (fun e => hij (S.inj _ _ e))]
      exact S.val j m h
  keep j m hj h := by
    rw [List.getElem?_set_ne (hj i)]
    exact S.keep j m hj h

noncomputable def Mo {α : Type} (π : Nat → Nat) (σ₀ : St) (f : α → α) (x x' : R α) : Prop := match x with
  | none => True
  | some (.ok a τ) => ∃ σ, x' = some (.ok (f a) σ) ∧ Sim π σ₀ τ σ
  | some (.exc k τ) => ∃ σ, x' = some (.exc k σ) ∧ Sim π σ₀ τ σ

theorem Mo.bind {α β : Type} {f : α → α} {g : β → β} {x x' : R α} {k k' : α → St → R β} (h : Mo π σ₀ f x x') (hk : ∀ a τ σ, Sim π σ₀ τ σ → Mo π σ₀ g (k a τ) (k' (f a) σ)) : Mo π σ₀ g (x.bind k) (x'.bind k') := by
  cases x with
  | none => trivial
  | some o => cases o with
    | ok a τ => obtain ⟨σ, rfl, hs⟩ := h; exact hk a τ σ hs
    | exc e τ => trivial
theorem Mo.bindX {α β : Type} {f : α → α} {g : β → β} {x x' : R α} {k k' : α → St → R β} (h : Mo π σ₀ f x x') (hk : ∀ a τ σ, Sim π σ₀ τ σ → Mo π σ₀ g (k a τ) (k' (f a) σ)) : Mo π σ₀ g (x.bindX k) (x'.bindX k') := by
  cases x with
  | none => trivial
  | some o => cases o with
    | ok a τ => obtain ⟨σ, rfl, hs⟩ := h; exact hk a τ σ hs
    | exc e τ => obtain ⟨σ, rfl, hs⟩ := h; exact ⟨σ, rfl, hs⟩
theorem Mo.ok {α : Type} {f : α → α} (S : Sim π σ₀ τ σ) (a : α) : Mo π σ₀ f (Mine.ok a τ) (Mine.ok (f a) σ) := ⟨σ, rfl, S⟩
theorem Mo.strict {α : Type} {f : α → α} {x x' : R α} (h : Mo π σ₀ f x x') : Mo π σ₀ f x.strict x'.strict := h.bind fun a τ σ S => Mo.ok S a
theorem Mo.alloc (S : Sim π σ₀ τ σ) (l : List PV) : Mo π σ₀ (mv π) (Mine.alloc l τ) (Mine.alloc (l.map (mv π)) σ) := by
  unfold Mine.alloc
  rw [List.length_map]
  by_cases h : l.length ≤ cap
  · rw [if_pos h, if_pos h, ← S.new]
    exact ⟨_, rfl, S.alloc l⟩
  · rw [if_neg h]; trivial

theorem leafD_mv (v : PV) : leafD (mv π v) = leafD v := by cases v <;> rfl
theorem listD_mv {f g : PV → Option PyData} (h : ∀ v, g (mv π v) = f v) : ∀ l : List PV, listD g (l.map (mv π)) = listD f l
  | [] => rfl
  | v :: r => by
    show (match g (mv π v), listD g (r.map (mv π)) with | some d, some ds => some (d :: ds) | _, _ => none) = _
    rw [h v, listD_mv h r]; rfl
theorem toD_mv (S : Sim π σ₀ τ σ) : ∀ (n : Nat) (v : PV), toD σ n (mv π v) = toD τ n v
  | 0, v => leafD_mv v
  | n + 1, v => by
    cases v with
    | lst i =>
      show (match σ[π i]? with | some l => (listD (toD σ n) l).map PyData.list | none => none) = (match τ[i]? with | some l => (listD (toD τ n) l).map PyData.list | none => none)
      rw [S.get]
      cases τ[i]? with
      | none => rfl
      | some l => show (listD (toD σ n) (l.map (mv π))).map _ = _; rw [listD_mv (toD_mv S n)]
    | tup l =>
      rw [mv_tup]
      show (listD (toD σ n) (l.map (mv π))).map _ = (listD (toD τ n) l).map _
      rw [listD_mv (toD_mv S n)]
    | none => rfl
    | bool b => rfl
    | int i => rfl
    | str x => rfl
    | rng a b => rfl
theorem pyEq_mv (S : Sim π σ₀ τ σ) (a b : PV) : pyEq σ (mv π a) (mv π b) = pyEq τ a b := by
  show (match toD σ 8 (mv π a), toD σ 8 (mv π b) with | some da, some db => some (PyData.eqv da db) | _, _ => none) = _
  rw [toD_mv S, toD_mv S]; rfl
theorem isNone_mv (v : PV) : isNone (mv π v) = isNone v := by cases v <;> rfl
theorem allInts_mv : ∀ l : List PV, allInts (l.map (mv π)) = allInts l
  | [] => rfl
  | v :: r => by
    cases v with
    | int i => show (allInts (r.map (mv π))).map _ = (allInts r).map _; rw [allInts_mv r]
    | none => rfl
    | bool b => rfl
    | str x => rfl
    | lst i => rfl
    | tup l => rfl
    | rng a b => rfl
theorem cmpVals_mv (S : Sim π σ₀ τ σ) (op : CmpOp) (a b : PV) : cmpVals op (mv π a) (mv π b) σ = cmpVals op a b τ := by
  cases op with
  | Eq => exact pyEq_mv S a b
  | NotEq => show (pyEq σ (mv π a) (mv π b)).map _ = (pyEq τ a b).map _; rw [pyEq_mv S]
  | Is => cases b <;> first | exact isNone_mv a | rfl
  | IsNot => cases b <;> first | (show (isNone (mv π a)).map _ = (isNone a).map _; rw [isNone_mv]) | rfl
  | In =>
    cases a with
    | int x =>
      cases b with
      | lst i =>
        show (match σ[π i]? with | some l => (allInts l).map fun ns : List Int => ns.any (· == x) | none => none) = (match τ[i]? with | some l => (allInts l).map fun ns : List Int => ns.any (· == x) | none => none)
        rw [S.get]
        cases τ[i]? with
        | none => rfl
        | some l => show (allInts (l.map (mv π))).map _ = _; rw [allInts_mv]
      | none => rfl
      | bool b => rfl
      | int i => rfl
      | str x => rfl
      | tup l => rfl
      | rng a b => rfl
    | none => rfl
    | bool b => rfl
    | lst i => rfl
    | str x => rfl
    | tup l => rfl
    | rng a b => rfl
  | _ => rfl
theorem cmp_mv (S : Sim π σ₀ τ σ) (op : CmpOp) (a b : PV) : cmp op (mv π a) (mv π b) σ = cmp op a b τ := by
  have h := cmpVals_mv S op a b
  cases a <;> cases b <;> first | rfl | exact h

theorem binop_mv (S : Sim π σ₀ τ σ) (op : Operator) (a b : PV) : Mo π σ₀ (mv π) (binop op a b τ) (binop op (mv π a) (mv π b) σ) := by
  cases a with
  | int x =>
    cases b with
    | int y =>
      show Mo π σ₀ (mv π) (match binInts op x y with | some z => Mine.ok (PV.int z) τ | none => none) (match binInts op x y with | some z => Mine.ok (PV.int z) σ | none => none)
      cases binInts op x y with
      | none => trivial
      | some z => exact Mo.ok S (PV.int z)
    | _ => trivial
  | lst i =>
    cases b with
    | lst j =>
      cases op with
      | Add =>
        show Mo π σ₀ (mv π) (match τ[i]?, τ[j]? with | some l, some m => Mine.alloc (l ++ m) τ | _, _ => none) (match σ[π i]?, σ[π j]? with | some l, some m => Mine.alloc (l ++ m) σ | _, _ => none)
        rw [S.get, S.get]
        cases τ[i]? with
        | none => trivial
        | some l => cases τ[j]? with
          | none => trivial
          | some m =>
            show Mo π σ₀ (mv π) (Mine.alloc (l ++ m) τ) (Mine.alloc (l.map (mv π) ++ m.map (mv π)) σ)
            rw [← List.map_append]
            exact Mo.alloc S _
      | _ => trivial
    | int n =>
      cases op with
      | Mult =>
        show Mo π σ₀ (mv π) (match τ[i]? with | some [v] => if decide (0 ≤ n) && decide (n ≤ 1000) then Mine.alloc (List.replicate n.toNat v) τ else none | _ => none) (match σ[π i]? with | some [v] => if decide (0 ≤ n) && decide (n ≤ 1000) then Mine.alloc (List.replicate n.toNat v) σ else none | _ => none)
        rw [S.get]
        cases τ[i]? with
        | none => trivial
        | some l =>
          match l with
          | [] => trivial
          | [v] =>
            show Mo π σ₀ (mv π) (if decide (0 ≤ n) && decide (n ≤ 1000) then Mine.alloc (List.replicate n.toNat v) τ else none) (if decide (0 ≤ n) && decide (n ≤ 1000) then Mine.alloc (List.replicate n.toNat (mv π v)) σ else none)
            by_cases h : (decide (0 ≤ n) && decide (n ≤ 1000)) = true
            · rw [if_pos h, if_pos h, ← List.map_replicate]
              exact Mo.alloc S _
            · rw [if_neg h]; trivial
          | _ :: _ :: _ => trivial
      | _ => trivial
    | _ => trivial
  | _ => trivial

theorem getItem_mv (S : Sim π σ₀ τ σ) (a k : PV) : Mo π σ₀ (mv π) (getItem a k τ) (getItem (mv π a) (mv π k) σ) := by
  cases a with
  | lst i =>
    cases k with
    | int n =>
      show Mo π σ₀ (mv π) (if decide (0 ≤ n) && decide (n ≤ 1000000) then (match τ[i]? with | some l => (match l[n.toNat]? with | some v => Mine.ok v τ | none => none) | none => none) else none)
        (if decide (0 ≤ n) && decide (n ≤ 1000000) then (match σ[π i]? with | some l => (match l[n.toNat]? with | some v => Mine.ok v σ | none => none) | none => none) else none)
      by_cases h : (decide (0 ≤ n) && decide (n ≤ 1000000)) = true
      · rw [if_pos h, if_pos h, S.get]
        cases τ[i]? with
        | none => trivial
        | some l =>
          show Mo π σ₀ (mv π) (match l[n.toNat]? with | some v => Mine.ok v τ | none => none) (match (l.map (mv π))[n.toNat]? with | some v => Mine.ok v σ | none => none)
          rw [List.getElem?_map]
          cases l[n.toNat]? with
          | none => trivial
          | some v => exact Mo.ok S v
      · rw [if_neg h]; trivial
    | _ => trivial
  | tup l =>
    rw [mv_tup]
    cases k with
    | int n =>
      show Mo π σ₀ (mv π) (if decide (0 ≤ n) && decide (n ≤ 1000000) then (match l[n.toNat]? with | some v => Mine.ok v τ | none => none) else none)
        (if decide (0 ≤ n) && decide (n ≤ 1000000) then (match (l.map (mv π))[n.toNat]? with | some v => Mine.ok v σ | none => none) else none)
      by_cases h : (decide (0 ≤ n) && decide (n ≤ 1000000)) = true
      · rw [if_pos h, if_pos h, List.getElem?_map]
        cases l[n.toNat]? with
        | none => trivial
        | some v => exact Mo.ok S v
      · rw [if_neg h]; trivial
    | _ => trivial
  | _ => trivial

theorem setItem_mv (S : Sim π σ₀ τ σ) {a k v : PV} {τ' : St} (h : setItem a k v τ = some τ') : ∃ σ', setItem (mv π a) (mv π k) (mv π v) σ = some σ' ∧ Sim π σ₀ τ' σ' := by
  cases a with
  | lst i =>
    cases k with
    | int n =>
      have h : (match τ[i]? with | some l => if decide (0 ≤ n) && decide (n.toNat < l.length) && decide (l.length ≤ cap) then some (τ.set i (l.set n.toNat v)) else none | none => none) = some τ' := h
      show ∃ σ', (match σ[π i]? with | some l => if decide (0 ≤ n) && decide (n.toNat < l.length) && decide (l.length ≤ cap) then some (σ.set (π i) (l.set n.toNat (mv π v))) else none | none => none) = some σ' ∧ Sim π σ₀ τ' σ'
      rw [S.get]
      cases q : τ[i]? with
      | none => rw [q] at h; cases h
      | some l =>
        rw [q] at h
        have h : (if decide (0 ≤ n) && decide (n.toNat < l.length) && decide (l.length ≤ cap) then some (τ.set i (l.set n.toNat v)) else none) = some τ' := h
        show ∃ σ', (if decide (0 ≤ n) && decide (n.toNat < (l.map (mv π)).length) && decide ((l.map (mv π)).length ≤ cap) then some (σ.set (π i) ((l.map (mv π)).set n.toNat (mv π v))) else none) = some σ' ∧ Sim π σ₀ τ' σ'
        rw [List.length_map]
        by_cases hc : (decide (0 ≤ n) && decide (n.toNat < l.length) && decide (l.length ≤ cap)) = true
        · rw [if_pos hc] at h ⊢
          cases h
          rw [← List.map_set]
          exact ⟨_, rfl, S.set i _⟩
        · rw [if_neg hc] at h; cases h
    | _ => cases h
  | _ => cases h

noncomputable def mvV (π : Nat → Nat) (V : Vars) : Vars := V.map fun x => (x.1, mv π x.2)
noncomputable def mvP (π : Nat → Nat) (ρ : PE) : PE := ⟨ρ.names, mvV π ρ.vars, ρ.lam⟩
theorem lookup_mvV (x : Str) : ∀ V : Vars, (mvV π V).lookup x = (V.lookup x).map (mv π)
  | [] => rfl
  | (y, w) :: r => by
    show List.lookup x ((y, mv π w) :: mvV π r) = _
    rw [List.lookup_cons, List.lookup_cons]
    cases x == y with
    | true => rfl
    | false => exact lookup_mvV x r
theorem upd_mvV (x : Str) (v : PV) : ∀ V : Vars, upd x (mv π v) (mvV π V) = mvV π (upd x v V)
  | [] => rfl
  | (y, w) :: r => by
    show (if y == x then (y, mv π v) :: mvV π r else (y, mv π w) :: upd x (mv π v) (mvV π r)) = mvV π (if y == x then (y, v) :: r else (y, w) :: upd x v r)
    rw [upd_mvV x v r]
    cases y == x <;> rfl
theorem consts_mv (x : Str) : (consts.lookup x).map (mv π) = consts.lookup x := by
  unfold consts
  rw [List.lookup_cons, List.lookup_cons]
  cases x == "R0" with
  | true => rfl
  | false => cases x == "R1" with
    | true => rfl
    | false => rfl
theorem look_mv (ρ : PE) (x : Str) : (mvP π ρ).look x = (ρ.look x).map (mv π) := by
  show (match ρ.names.lookup x with
    | some .local => (mvV π ρ.vars).lookup x
    | some .cell => (mvV π ρ.vars).lookup x
    | some .free => (mvV π ρ.vars).lookup x
    | some .globalImplicit => consts.lookup x
    | _ => none) = _
  rw [lookup_mvV]
  unfold PE.look
  cases List.lookup x ρ.names with
  | none => rfl
  | some k => cases k <;> first | rfl | exact (consts_mv x).symm
theorem set_mv (ρ : PE) (x : Str) (v : PV) : (mvP π ρ).set x (mv π v) = (ρ.set x v).map (mvV π) := by
  show (match ρ.names.lookup x with
    | some .local => some (upd x (mv π v) (mvV π ρ.vars))
    | some .cell => some (upd x (mv π v) (mvV π ρ.vars))
    | _ => none) = _
  rw [upd_mvV]
  unfold PE.set
  cases List.lookup x ρ.names with
  | none => rfl
  | some k => cases k <;> rfl
theorem inner_mv (ρ : PE) (names : List (Str × NameKind)) : inner (mvP π ρ) names = mvP π (inner ρ names) := by
  show (⟨names, (mvV π ρ.vars).filter _, false⟩ : PE) = ⟨names, mvV π (ρ.vars.filter _), false⟩
  congr 1
  unfold mvV
  rw [List.filter_map]
  rfl
theorem withVars_mv (ρ : PE) (V : Vars) : { mvP π ρ with vars := mvV π V } = mvP π { ρ with vars := V } := rfl
end
end
section
set_option backward.match.sparseCases false
set_option maxRecDepth 100000
open PySem

noncomputable def mvFl (π : Nat → Nat) : Fl → Fl
  | .next => .next
  | .cont => .cont
  | .ret v => .ret (mv π v)
noncomputable def mvF (π : Nat → Nat) (x : Fl × Vars) : Fl × Vars := (mvFl π x.1, mvV π x.2)
noncomputable def mvI (π : Nat → Nat) : It → It
  | .lst i => .lst (π i)
  | .tup l => .tup (l.map (mv π))
  | .rng a b => .rng a b
  | .enm i => .enm (π i)

structure Com (π : Nat → Nat) (σ₀ : St) (F : Evs) : Prop where
  e : ∀ e ρ τ σ, Sim π σ₀ τ σ → Mo π σ₀ (mv π) (F.e e ρ τ) (F.e e (mvP π ρ) σ)
  t : ∀ e ρ τ σ, Sim π σ₀ τ σ → Mo π σ₀ id (F.t e ρ τ) (F.t e (mvP π ρ) σ)
  s : ∀ b ρ τ σ, Sim π σ₀ τ σ → Mo π σ₀ (mvF π) (F.s b ρ τ) (F.s b (mvP π ρ) σ)
  c : ∀ f vs τ σ, Sim π σ₀ τ σ → Mo π σ₀ (mv π) (F.c f vs τ) (F.c f (vs.map (mv π)) σ)

section
variable {π : Nat → Nat} {σ₀ τ σ : St} {F : Evs}

theorem evList_mv {f f' : Expr → St → R PV} (h : ∀ e τ σ, Sim π σ₀ τ σ → Mo π σ₀ (mv π) (f e τ) (f' e σ)) : ∀ (l : List Expr) (τ σ : St), Sim π σ₀ τ σ → Mo π σ₀ (List.map (mv π)) (evList f l τ) (evList f' l σ)
  | [], τ, σ, S => Mo.ok S []
  | e :: r, τ, σ, S => by
    show Mo π σ₀ (List.map (mv π)) (if isStar e then none else (f e τ).bind fun v σ₁ => (evList f r σ₁).bind fun vs σ₂ => Mine.ok (v :: vs) σ₂) (if isStar e then none else (f' e σ).bind fun v σ₁ => (evList f' r σ₁).bind fun vs σ₂ => Mine.ok (v :: vs) σ₂)
    cases isStar e with
    | true => trivial
    | false => exact Mo.bind (h e τ σ S) fun v τ₁ σ₁ S₁ => Mo.bind (evList_mv h r τ₁ σ₁ S₁) fun vs τ₂ σ₂ S₂ => Mo.ok S₂ (v :: vs)

theorem nextAt_mv (S : Sim π σ₀ τ σ) (it : It) (k : Nat) : nextAt σ (mvI π it) k = (nextAt τ it k).map (mv π) := by
  cases it with
  | lst i =>
    show (σ[π i]?.getD [])[k]? = ((τ[i]?.getD [])[k]?).map (mv π)
    rw [S.get]
    cases τ[i]? with
    | none => rfl
    | some l => exact List.getElem?_map ..
  | tup l => exact List.getElem?_map ..
  | rng a b =>
    show (if _ then _ else _) = (if _ then _ else _ : Option PV).map (mv π)
    split <;> rfl
  | enm i =>
    show ((σ[π i]?.getD [])[k]?).map _ = (((τ[i]?.getD [])[k]?).map _).map (mv π)
    rw [S.get]
    cases τ[i]? with
    | none => rfl
    | some l =>
      show ((l.map (mv π))[k]?).map _ = ((l[k]?).map _).map (mv π)
      rw [List.getElem?_map]
      cases l[k]? <;> rfl
theorem itOf_mv (v : PV) : itOf (mv π v) = (itOf v).map (mvI π) := by
  cases v with
  | tup l => rw [mv_tup]; rfl
  | _ => rfl
theorem fits_mv (it : It) (t : Expr) : fits (mvI π it) t = fits it t := by cases t <;> first | rfl | (cases it <;> rfl)

theorem iterOf_mv (C : Com π σ₀ F) (e : Expr) (ρ : PE) (S : Sim π σ₀ τ σ) : Mo π σ₀ (mvI π) (iterOf F e ρ τ) (iterOf F e (mvP π ρ) σ) := by
  show Mo π σ₀ (mvI π) (match enumArg ρ e with
    | some a => (F.e a ρ τ).bind fun v σ₁ => match v with
      | .lst i => Mine.ok (.enm i) σ₁
      | _ => none
    | none => if plainIter e then (F.e e ρ τ).bind fun v σ₁ => match itOf v with
      | some it => Mine.ok it σ₁
      | none => none
      else none) (match enumArg ρ e with
    | some a => (F.e a (mvP π ρ) σ).bind fun v σ₁ => match v with
      | .lst i => Mine.ok (.enm i) σ₁
      | _ => none
    | none => if plainIter e then (F.e e (mvP π ρ) σ).bind fun v σ₁ => match itOf v with
      | some it => Mine.ok it σ₁
      | none => none
      else none)
  cases enumArg ρ e with
  | some a =>
    refine Mo.bind (C.e a ρ τ σ S) fun v τ₁ σ₁ S₁ => ?_
    cases v with
    | lst i => exact Mo.ok (f := mvI π) S₁ (It.enm i)
    | _ => trivial
  | none =>
    cases plainIter e with
    | false => trivial
    | true =>
      refine Mo.bind (C.e e ρ τ σ S) fun v τ₁ σ₁ S₁ => ?_
      rw [itOf_mv]
      cases itOf v with
      | none => trivial
      | some it => exact Mo.ok S₁ it

theorem assignNames_mv : ∀ (ts : List Expr) (ρ : PE) (vs : List PV), assignNames (mvP π ρ) ts (vs.map (mv π)) = (assignNames ρ ts vs).map (mvV π)
  | [], ρ, [] => rfl
  | [], ρ, _ :: _ => rfl
  | t :: ts, ρ, [] => by cases t <;> rfl
  | t :: ts, ρ, v :: vs => by
    cases t with
    | Name x p =>
      show (match (mvP π ρ).set x (mv π v) with | some vars => assignNames { mvP π ρ with vars := vars } ts (vs.map (mv π)) | none => none) = (match ρ.set x v with | some vars => assignNames { ρ with vars := vars } ts vs | none => none).map (mvV π)
      rw [set_mv]
      cases ρ.set x v with
      | none => rfl
      | some V => exact assignNames_mv ts { ρ with vars := V } vs
    | _ => rfl
theorem assignLoop_mv (t : Expr) (ρ : PE) (v : PV) : assignLoop t (mvP π ρ) (mv π v) = (assignLoop t ρ v).map (mvV π) := by
  cases t with
  | Name x p => exact set_mv ρ x v
  | Tuple ts k p =>
    cases v with
    | tup vs => rw [mv_tup]; exact assignNames_mv ts ρ vs
    | _ => rfl
  | _ => rfl

theorem assign1_mv (C : Com π σ₀ F) (t : Expr) (ρ : PE) (v : PV) (S : Sim π σ₀ τ σ) : Mo π σ₀ (mvV π) (assign1 F t ρ v τ) (assign1 F t (mvP π ρ) (mv π v) σ) := by
  cases t with
  | Name x p =>
    show Mo π σ₀ (mvV π) (match ρ.set x v with | some vars => Mine.ok vars τ | none => none) (match (mvP π ρ).set x (mv π v) with | some vars => Mine.ok vars σ | none => none)
    rw [set_mv]
    cases ρ.set x v with
    | none => trivial
    | some V => exact Mo.ok S V
  | Subscript o i p =>
    show Mo π σ₀ (mvV π) (if isSlice i then none else _) (if isSlice i then none else _)
    cases isSlice i with
    | true => trivial
    | false =>
      refine Mo.bind (C.e o ρ τ σ S) fun ov τ₁ σ₁ S₁ => Mo.bind (C.e i ρ τ₁ σ₁ S₁) fun iv τ₂ σ₂ S₂ => ?_
      cases q : setItem ov iv v τ₂ with
      | none => trivial
      | some τ₃ =>
        obtain ⟨σ₃, e, S₃⟩ := setItem_mv S₂ q
        rw [e]
        exact Mo.ok S₃ ρ.vars
  | _ => trivial
theorem assignMany_mv (C : Com π σ₀ F) : ∀ (ts : List Expr) (vs : List PV) (ρ : PE) (τ σ : St), Sim π σ₀ τ σ → Mo π σ₀ (mvV π) (assignMany F ts vs ρ τ) (assignMany F ts (vs.map (mv π)) (mvP π ρ) σ)
  | [], [], ρ, τ, σ, S => Mo.ok S ρ.vars
  | [], _ :: _, ρ, τ, σ, S => trivial
  | _ :: _, [], ρ, τ, σ, S => trivial
  | t :: ts, v :: vs, ρ, τ, σ, S => Mo.bind (assign1_mv C t ρ v S) fun V τ₁ σ₁ S₁ => assignMany_mv C ts vs { ρ with vars := V } τ₁ σ₁ S₁
theorem assignTo_mv (C : Com π σ₀ F) (t : Expr) (ρ : PE) (v : PV) (S : Sim π σ₀ τ σ) : Mo π σ₀ (mvV π) (assignTo F t ρ v τ) (assignTo F t (mvP π ρ) (mv π v) σ) := by
  have h := assign1_mv C t ρ v S
  cases t with
  | Tuple ts k p =>
    cases v with
    | tup vs => rw [mv_tup]; exact assignMany_mv C ts vs ρ τ σ S
    | _ => trivial
  | _ => exact h

theorem testAll_mv {f f' : Expr → St → R Bool} (h : ∀ e τ σ, Sim π σ₀ τ σ → Mo π σ₀ id (f e τ) (f' e σ)) : ∀ (l : List Expr) (τ σ : St), Sim π σ₀ τ σ → Mo π σ₀ id (testAll f l τ) (testAll f' l σ)
  | [], τ, σ, S => Mo.ok (f := id) S true
  | e :: r, τ, σ, S => by
    refine Mo.bind (h e τ σ S) fun b τ₁ σ₁ S₁ => ?_
    cases b with
    | true => exact testAll_mv h r τ₁ σ₁ S₁
    | false => exact Mo.ok (f := id) S₁ false
theorem compLoop_mv (C : Com π σ₀ F) (target elt : Expr) (ifs : List Expr) (it : It) : ∀ (n k : Nat) (ρ : PE) (τ σ : St), Sim π σ₀ τ σ → Mo π σ₀ (List.map (mv π)) (compLoop F target elt ifs it n k ρ τ) (compLoop F target elt ifs (mvI π it) n k (mvP π ρ) σ)
  | 0, _, _, _, _, _ => trivial
  | n + 1, k, ρ, τ, σ, S => by
    rw [comp_succ, comp_succ, nextAt_mv S]
    cases nextAt τ it k with
    | none => exact Mo.ok (f := List.map (mv π)) S []
    | some v =>
      show Mo π σ₀ (List.map (mv π)) (match assignLoop target ρ v with | none => none | some vars => _) (match assignLoop target (mvP π ρ) (mv π v) with | none => none | some vars => _)
      rw [assignLoop_mv]
      cases assignLoop target ρ v with
      | none => trivial
      | some V =>
        refine Mo.bind (testAll_mv (fun e τ σ S => C.t e { ρ with vars := V } τ σ S) ifs τ σ S) fun b τ₁ σ₁ S₁ => ?_
        cases b with
        | true => exact Mo.bind (C.e elt { ρ with vars := V } τ₁ σ₁ S₁) fun x τ₂ σ₂ S₂ => Mo.bind (compLoop_mv C target elt ifs it n (k + 1) { ρ with vars := V } τ₂ σ₂ S₂) fun xs τ₃ σ₃ S₃ => Mo.ok S₃ (x :: xs)
        | false => exact compLoop_mv C target elt ifs it n (k + 1) { ρ with vars := V } τ₁ σ₁ S₁

theorem boolOps_mv {f f' : Expr → St → R PV} (op : BoolOp) (h : ∀ e τ σ, Sim π σ₀ τ σ → Mo π σ₀ (mv π) (f e τ) (f' e σ)) : ∀ (l : List Expr) (τ σ : St), Sim π σ₀ τ σ → Mo π σ₀ (mv π) (boolOps op f l τ) (boolOps op f' l σ)
  | [], τ, σ, S => trivial
  | [x], τ, σ, S => Mo.strict (h x τ σ S)
  | x :: y :: r, τ, σ, S => by
    refine Mo.bind (h x τ σ S) fun v τ₁ σ₁ S₁ => ?_
    cases v with
    | bool b =>
      show Mo π σ₀ (mv π) (if b == (op == .Or) then Mine.ok (.bool b) τ₁ else boolOps op f (y :: r) τ₁) (if b == (op == .Or) then Mine.ok (.bool b) σ₁ else boolOps op f' (y :: r) σ₁)
      cases b == (op == .Or) with
      | true => exact Mo.ok S₁ (PV.bool b)
      | false => exact boolOps_mv op h (y :: r) τ₁ σ₁ S₁
    | _ => trivial
theorem tests_mv {f f' : Expr → St → R Bool} (op : BoolOp) (h : ∀ e τ σ, Sim π σ₀ τ σ → Mo π σ₀ id (f e τ) (f' e σ)) : ∀ (l : List Expr) (τ σ : St), Sim π σ₀ τ σ → Mo π σ₀ id (tests op f l τ) (tests op f' l σ)
  | [], τ, σ, S => Mo.ok (f := id) S _
  | x :: r, τ, σ, S => by
    refine Mo.bind (h x τ σ S) fun b τ₁ σ₁ S₁ => ?_
    show Mo π σ₀ id (if b == (op == .Or) then Mine.ok b τ₁ else tests op f r τ₁) (if b == (op == .Or) then Mine.ok b σ₁ else tests op f' r σ₁)
    cases b == (op == .Or) with
    | true => exact Mo.ok (f := id) S₁ b
    | false => exact tests_mv op h r τ₁ σ₁ S₁

theorem rangeInts_mv (a b : Int) : (rangeInts a b).map (mv π) = rangeInts a b := by
  unfold rangeInts
  rw [List.map_map]
  rfl
theorem bLen_mv (S : Sim π σ₀ τ σ) (vs : List PV) : Mo π σ₀ (mv π) (bLen vs τ) (bLen (vs.map (mv π)) σ) := by
  match vs with
  | [] => trivial
  | v :: _ :: _ => cases v <;> trivial
  | [v] =>
    cases v with
    | lst i =>
      show Mo π σ₀ (mv π) (match τ[i]? with | some l => if l.length ≤ cap then Mine.ok (.int l.length) τ else none | none => none) (match σ[π i]? with | some l => if l.length ≤ cap then Mine.ok (.int l.length) σ else none | none => none)
      rw [S.get]
      cases τ[i]? with
      | none => trivial
      | some l =>
        show Mo π σ₀ (mv π) (if l.length ≤ cap then Mine.ok (.int l.length) τ else none) (if (l.map (mv π)).length ≤ cap then Mine.ok (.int (l.map (mv π)).length) σ else none)
        rw [List.length_map]
        by_cases h : l.length ≤ cap
        · rw [if_pos h, if_pos h]; exact Mo.ok S (PV.int l.length)
        · rw [if_neg h]; trivial
    | _ => trivial
theorem bAbs_mv (S : Sim π σ₀ τ σ) (vs : List PV) : Mo π σ₀ (mv π) (bAbs vs τ) (bAbs (vs.map (mv π)) σ) := by
  match vs with
  | [] => trivial
  | v :: _ :: _ => cases v <;> trivial
  | [v] =>
    cases v with
    | int x => exact Mo.ok S (PV.int (if x < 0 then -x else x))
    | _ => trivial
theorem bRange_mv (S : Sim π σ₀ τ σ) (vs : List PV) : Mo π σ₀ (mv π) (bRange vs τ) (bRange (vs.map (mv π)) σ) := by
  match vs with
  | [] => trivial
  | [v] =>
    cases v with
    | int x =>
      show Mo π σ₀ (mv π) (if smallInt x then Mine.ok (.rng 0 x) τ else none) (if smallInt x then Mine.ok (.rng 0 x) σ else none)
      cases smallInt x with
      | true => exact Mo.ok S (PV.rng 0 x)
      | false => trivial
    | _ => trivial
  | [v, w] =>
    cases v with
    | int x =>
      cases w with
      | int y =>
        show Mo π σ₀ (mv π) (if smallInt x && smallInt y then Mine.ok (.rng x y) τ else none) (if smallInt x && smallInt y then Mine.ok (.rng x y) σ else none)
        cases smallInt x && smallInt y with
        | true => exact Mo.ok S (PV.rng x y)
        | false => trivial
      | _ => trivial
    | _ => trivial
  | v :: w :: _ :: _ => cases v <;> cases w <;> trivial
theorem bList_mv (S : Sim π σ₀ τ σ) (vs : List PV) : Mo π σ₀ (mv π) (bList vs τ) (bList (vs.map (mv π)) σ) := by
  match vs with
  | [] => trivial
  | v :: _ :: _ => cases v <;> trivial
  | [v] =>
    cases v with
    | lst i =>
      show Mo π σ₀ (mv π) (match τ[i]? with | some l => Mine.alloc l τ | none => none) (match σ[π i]? with | some l => Mine.alloc l σ | none => none)
      rw [S.get]
      cases τ[i]? with
      | none => trivial
      | some l => exact Mo.alloc S l
    | rng a b =>
      show Mo π σ₀ (mv π) (if decide (b - a ≤ 1000) then Mine.alloc (rangeInts a b) τ else none) (if decide (b - a ≤ 1000) then Mine.alloc (rangeInts a b) σ else none)
      cases decide (b - a ≤ 1000) with
      | true =>
        have h := Mo.alloc S (rangeInts a b)
        rw [rangeInts_mv] at h
        exact h
      | false => trivial
    | _ => trivial
theorem bTwo_mv (S : Sim π σ₀ τ σ) (vs : List PV) : Mo π σ₀ (mv π) (bMin vs τ) (bMin (vs.map (mv π)) σ) ∧ Mo π σ₀ (mv π) (bMax vs τ) (bMax (vs.map (mv π)) σ) := by
  match vs with
  | [] => exact ⟨trivial, trivial⟩
  | [v] => cases v <;> exact ⟨trivial, trivial⟩
  | v :: w :: _ :: _ => cases v <;> cases w <;> exact ⟨trivial, trivial⟩
  | [v, w] =>
    cases v with
    | int x =>
      cases w with
      | int y => exact ⟨Mo.ok S (PV.int (if y < x then y else x)), Mo.ok S (PV.int (if y > x then y else x))⟩
      | _ => exact ⟨trivial, trivial⟩
    | _ => exact ⟨trivial, trivial⟩
theorem bSum_mv (S : Sim π σ₀ τ σ) (vs : List PV) : Mo π σ₀ (mv π) (bSum vs τ) (bSum (vs.map (mv π)) σ) := by
  match vs with
  | [] => trivial
  | v :: _ :: _ => cases v <;> trivial
  | [v] =>
    cases v with
    | lst i =>
      show Mo π σ₀ (mv π) (match τ[i]? with | some l => (match allInts l with | some ns => Mine.ok (.int ns.sum) τ | none => none) | none => none) (match σ[π i]? with | some l => (match allInts l with | some ns => Mine.ok (.int ns.sum) σ | none => none) | none => none)
      rw [S.get]
      cases τ[i]? with
      | none => trivial
      | some l =>
        show Mo π σ₀ (mv π) (match allInts l with | some ns => Mine.ok (.int ns.sum) τ | none => none) (match allInts (l.map (mv π)) with | some ns => Mine.ok (.int ns.sum) σ | none => none)
        rw [allInts_mv]
        cases allInts l with
        | none => trivial
        | some ns => exact Mo.ok S (PV.int ns.sum)
    | _ => trivial
theorem builtin_mv (S : Sim π σ₀ τ σ) (f : Str) (vs : List PV) : Mo π σ₀ (mv π) (builtin f vs τ) (builtin f (vs.map (mv π)) σ) := by
  unfold builtin
  cases f == "len" with
  | true => exact bLen_mv S vs
  | false => cases f == "abs" with
  | true => exact bAbs_mv S vs
  | false => cases f == "range" with
  | true => exact bRange_mv S vs
  | false => cases f == "list" with
  | true => exact bList_mv S vs
  | false => cases f == "min" with
  | true => exact (bTwo_mv S vs).1
  | false => cases f == "max" with
  | true => exact (bTwo_mv S vs).2
  | false => cases f == "sum" with
  | true => exact bSum_mv S vs
  | false => trivial
end
end
section
set_option backward.match.sparseCases false
set_option maxRecDepth 100000
open PySem
section
variable {π : Nat → Nat} {σ₀ τ σ : St} {F : Evs}

theorem evUn_mv (C : Com π σ₀ F) (op : UnaryOp) (x : Expr) (ρ : PE) (S : Sim π σ₀ τ σ) : Mo π σ₀ (mv π) (evUn F op x ρ τ) (evUn F op x (mvP π ρ) σ) := by
  refine Mo.bind (C.e x ρ τ σ S) fun v τ₁ σ₁ S₁ => ?_
  cases op <;> cases v <;> first | trivial | exact Mo.ok S₁ (PV.int _) | exact Mo.ok S₁ (PV.bool _)
theorem evCmp_mv (C : Com π σ₀ F) (l : Expr) (ops : List CmpOp) (cs : List Expr) (ρ : PE) (S : Sim π σ₀ τ σ) : Mo π σ₀ id (evCmp F l ops cs ρ τ) (evCmp F l ops cs (mvP π ρ) σ) := by
  match ops, cs with
  | [op], [r] =>
    unfold evCmp
    show Mo π σ₀ id (if plainIter r then _ else _) (if plainIter r then _ else _)
    cases plainIter r with
    | false => trivial
    | true =>
      refine Mo.bind (C.e l ρ τ σ S) fun a τ₁ σ₁ S₁ => Mo.bind (C.e r ρ τ₁ σ₁ S₁) fun b τ₂ σ₂ S₂ => ?_
      rw [cmp_mv S₂]
      cases cmp op a b τ₂ with
      | none => trivial
      | some c => exact Mo.ok (f := id) S₂ c
  | [], _ => trivial
  | [_], [] => trivial
  | [_], _ :: _ :: _ => trivial
  | _ :: _ :: _, _ => trivial

theorem cutTake_mv (S : Sim π σ₀ τ σ) (g : List PV → Nat → List PV) (hg : ∀ l k, g (l.map (mv π)) k = (g l k).map (mv π)) (i : Nat) (n : Int) :
    Mo π σ₀ (mv π) (if decide (0 ≤ n) && decide (n ≤ 1000) then (match τ[i]? with | some l => if l.length ≤ cap then Mine.alloc (g l n.toNat) τ else none | none => none) else none)
      (if decide (0 ≤ n) && decide (n ≤ 1000) then (match σ[π i]? with | some l => if l.length ≤ cap then Mine.alloc (g l n.toNat) σ else none | none => none) else none) := by
  cases decide (0 ≤ n) && decide (n ≤ 1000) with
  | false => trivial
  | true =>
    show Mo π σ₀ (mv π) (match τ[i]? with | some l => if l.length ≤ cap then Mine.alloc (g l n.toNat) τ else none | none => none) (match σ[π i]? with | some l => if l.length ≤ cap then Mine.alloc (g l n.toNat) σ else none | none => none)
    rw [S.get]
    cases τ[i]? with
    | none => trivial
    | some l =>
      show Mo π σ₀ (mv π) (if l.length ≤ cap then Mine.alloc (g l n.toNat) τ else none) (if (l.map (mv π)).length ≤ cap then Mine.alloc (g (l.map (mv π)) n.toNat) σ else none)
      rw [List.length_map, hg]
      by_cases h : l.length ≤ cap
      · rw [if_pos h, if_pos h]; exact Mo.alloc S _
      · rw [if_neg h]; trivial
theorem evSub_mv (C : Com π σ₀ F) (v s : Expr) (ρ : PE) (S : Sim π σ₀ τ σ) : Mo π σ₀ (mv π) (evSub F v s ρ τ) (evSub F v s (mvP π ρ) σ) := by
  unfold evSub
  refine Mo.bind (C.e v ρ τ σ S) fun a τ₁ σ₁ S₁ => ?_
  cases cutOf s with
  | upto u =>
    refine Mo.bind (C.e u ρ τ₁ σ₁ S₁) fun n τ₂ σ₂ S₂ => ?_
    cases a with
    | lst i => cases n with
      | int n => exact cutTake_mv S₂ (fun l k => l.take k) (fun l k => (List.map_take ..).symm) i n
      | _ => trivial
    | _ => trivial
  | «from» u =>
    refine Mo.bind (C.e u ρ τ₁ σ₁ S₁) fun n τ₂ σ₂ S₂ => ?_
    cases a with
    | lst i => cases n with
      | int n => exact cutTake_mv S₂ (fun l k => l.drop k) (fun l k => (List.map_drop ..).symm) i n
      | _ => trivial
    | _ => trivial
  | item i => exact Mo.bind (C.e i ρ τ₁ σ₁ S₁) fun k τ₂ σ₂ S₂ => getItem_mv S₂ a k
  | bad => trivial

theorem evAsked_mv (C : Com π σ₀ F) (args : List Expr) (ρ : PE) (S : Sim π σ₀ τ σ) : Mo π σ₀ (mv π) (evAsked F args ρ τ) (evAsked F args (mvP π ρ) σ) := by
  unfold evAsked
  cases lambdaOf args with
  | none => trivial
  | some x =>
    obtain ⟨body, sc⟩ := x
    show Mo π σ₀ (mv π) (if ρ.lam && freeOk ρ sc.names && scopeOk sc && sc.names.all (fun x => x.2 == .free || x.2 == .globalImplicit) then _ else none)
      (if ρ.lam && freeOk ρ sc.names && scopeOk sc && sc.names.all (fun x => x.2 == .free || x.2 == .globalImplicit) then _ else none)
    cases ρ.lam && freeOk ρ sc.names && scopeOk sc && sc.names.all (fun x => x.2 == .free || x.2 == .globalImplicit) with
    | false => trivial
    | true =>
      have h := C.e body (inner ρ sc.names) τ σ S
      rw [← inner_mv] at h
      show Mo π σ₀ (mv π) (match F.e body (inner ρ sc.names) τ with
        | some (.ok v σ₁) => Mine.ok v σ₁
        | some (.exc k σ₁) => Mine.ok (.str k) σ₁
        | none => none) (match F.e body (inner (mvP π ρ) sc.names) σ with
        | some (.ok v σ₁) => Mine.ok v σ₁
        | some (.exc k σ₁) => Mine.ok (.str k) σ₁
        | none => none)
      revert h
      cases F.e body (inner ρ sc.names) τ with
      | none => exact fun _ => trivial
      | some o => cases o with
        | ok a τ₁ => rintro ⟨σ₁, e, S₁⟩; rw [e]; exact Mo.ok S₁ a
        | exc k τ₁ => rintro ⟨σ₁, e, S₁⟩; rw [e]; exact Mo.ok S₁ (PV.str k)

theorem append_mv (C : Com π σ₀ F) (x : Str) (p : Pos) (arg : Expr) (ρ : PE) (S : Sim π σ₀ τ σ) :
    Mo π σ₀ (mv π) (if isStar arg then none else (F.e (.Name x p) ρ τ).bind fun o σ₁ => (F.e arg ρ σ₁).bind fun v σ₂ => match o with
          | .lst i => match σ₂[i]? with
            | some l => if l.length < cap then Mine.ok .none (σ₂.set i (l ++ [v])) else none
            | none => none
          | _ => none) (if isStar arg then none else (F.e (.Name x p) (mvP π ρ) σ).bind fun o σ₁ => (F.e arg (mvP π ρ) σ₁).bind fun v σ₂ => match o with
          | .lst i => match σ₂[i]? with
            | some l => if l.length < cap then Mine.ok .none (σ₂.set i (l ++ [v])) else none
            | none => none
          | _ => none) := by
  cases isStar arg with
  | true => trivial
  | false =>
    refine Mo.bind (C.e (.Name x p) ρ τ σ S) fun o τ₁ σ₁ S₁ => Mo.bind (C.e arg ρ τ₁ σ₁ S₁) fun v τ₂ σ₂ S₂ => ?_
    cases o with
    | lst i =>
      show Mo π σ₀ (mv π) (match τ₂[i]? with | some l => if l.length < cap then Mine.ok .none (τ₂.set i (l ++ [v])) else none | none => none) (match σ₂[π i]? with | some l => if l.length < cap then Mine.ok .none (σ₂.set (π i) (l ++ [mv π v])) else none | none => none)
      rw [S₂.get]
      cases τ₂[i]? with
      | none => trivial
      | some l =>
        show Mo π σ₀ (mv π) (if l.length < cap then Mine.ok .none (τ₂.set i (l ++ [v])) else none) (if (l.map (mv π)).length < cap then Mine.ok .none (σ₂.set (π i) (l.map (mv π) ++ [mv π v])) else none)
        rw [List.length_map]
        by_cases h : l.length < cap
        · rw [if_pos h, if_pos h]
          have S₃ := S₂.set i (l ++ [v])
          rw [List.map_append] at S₃
          exact Mo.ok S₃ PV.none
        · rw [if_neg h]; trivial
    | _ => trivial

theorem evCall_mv (C : Com π σ₀ F) (f : Expr) (args : List Expr) (kws : List Keyword) (pos : Pos) (ρ : PE) (S : Sim π σ₀ τ σ) : Mo π σ₀ (mv π) (evCall F f args kws pos ρ τ) (evCall F f args kws pos (mvP π ρ) σ) := by
  cases kws with
  | cons => trivial
  | nil =>
    cases f with
    | Name f p =>
      show Mo π σ₀ (mv π) (if ρ.isGlobal f then (if f == "_law_asked" then evAsked F args ρ τ else (evList (fun e σ => F.e e ρ σ) args τ).bind fun vs σ₁ => if builtins.contains f then builtin f vs σ₁ else F.c f vs σ₁) else none)
        (if ρ.isGlobal f then (if f == "_law_asked" then evAsked F args (mvP π ρ) σ else (evList (fun e σ => F.e e (mvP π ρ) σ) args σ).bind fun vs σ₁ => if builtins.contains f then builtin f vs σ₁ else F.c f vs σ₁) else none)
      cases ρ.isGlobal f with
      | false => trivial
      | true =>
        cases f == "_law_asked" with
        | true => exact evAsked_mv C args ρ S
        | false =>
          refine Mo.bind (evList_mv (fun e τ σ S => C.e e ρ τ σ S) args τ σ S) fun vs τ₁ σ₁ S₁ => ?_
          cases builtins.contains f with
          | true => exact builtin_mv S₁ f vs
          | false => exact C.c f vs τ₁ σ₁ S₁
    | Attribute o a apos =>
      unfold evCall
      show Mo π σ₀ (mv π) (if a == "append" && apos.endLine == pos.line then _ else none) (if a == "append" && apos.endLine == pos.line then _ else none)
      cases a == "append" && apos.endLine == pos.line with
      | false => trivial
      | true =>
        cases o with
        | Name x p =>
          match args with
          | [] => trivial
          | [arg] => exact append_mv C x p arg ρ S
          | _ :: _ :: _ => trivial
        | _ => trivial
    | _ => trivial

theorem evComp_mv (C : Com π σ₀ F) (elt : Expr) (gens : List Comprehension) (sc : Scope) (ρ : PE) (S : Sim π σ₀ τ σ) : Mo π σ₀ (mv π) (evComp F elt gens sc ρ τ) (evComp F elt gens sc (mvP π ρ) σ) := by
  match gens with
  | [] => trivial
  | ⟨_, _, _, _⟩ :: _ :: _ => trivial
  | [⟨target, iter, ifs, isAsync⟩] =>
    show Mo π σ₀ (mv π) (if freeOk ρ sc.names && scopeOk sc && isAsync == 0 then (iterOf F iter ρ τ).bind fun it σ₁ => if fits it target then (compLoop F target elt ifs it cap 0 (inner ρ sc.names) σ₁).bind fun vs σ₂ => Mine.alloc vs σ₂ else none else none)
      (if freeOk ρ sc.names && scopeOk sc && isAsync == 0 then (iterOf F iter (mvP π ρ) σ).bind fun it σ₁ => if fits it target then (compLoop F target elt ifs it cap 0 (inner (mvP π ρ) sc.names) σ₁).bind fun vs σ₂ => Mine.alloc vs σ₂ else none else none)
    cases freeOk ρ sc.names && scopeOk sc && isAsync == 0 with
    | false => trivial
    | true =>
      refine Mo.bind (iterOf_mv C iter ρ S) fun it τ₁ σ₁ S₁ => ?_
      rw [fits_mv, inner_mv]
      cases fits it target with
      | false => trivial
      | true => exact Mo.bind (compLoop_mv C target elt ifs it cap 0 (inner ρ sc.names) τ₁ σ₁ S₁) fun vs τ₂ σ₂ S₂ => Mo.alloc S₂ vs

theorem evName_mv (x : Str) (ρ : PE) (S : Sim π σ₀ τ σ) : Mo π σ₀ (mv π) (evName x ρ τ) (evName x (mvP π ρ) σ) := by
  unfold evName
  rw [look_mv]
  cases x == "__debug__" with
  | true => trivial
  | false => cases ρ.look x with
    | none => trivial
    | some v => exact Mo.ok S v
theorem evConst_mv (c : Const) (S : Sim π σ₀ τ σ) : Mo π σ₀ (mv π) (evConst c τ) (evConst c σ) := by
  cases c with
  | none => exact Mo.ok S PV.none
  | bool b => exact Mo.ok S (PV.bool b)
  | int i => exact Mo.ok S (PV.int i)
  | str x => exact Mo.ok S (PV.str x)
  | _ => trivial

theorem evE_mv (C : Com π σ₀ F) (e : Expr) (ρ : PE) (S : Sim π σ₀ τ σ) : Mo π σ₀ (mv π) (evE F e ρ τ) (evE F e (mvP π ρ) σ) := by
  cases e with
  | Constant c k p => exact evConst_mv c S
  | Name x p => exact evName_mv x ρ S
  | Tuple es k p =>
    refine Mo.bind (evList_mv (fun e τ σ S => C.e e ρ τ σ S) es τ σ S) fun vs τ₁ σ₁ S₁ => ?_
    rw [List.length_map]
    by_cases h : vs.length ≤ cap
    · rw [if_pos h, if_pos h]
      have := Mo.ok S₁ (PV.tup vs) (f := mv π)
      rw [mv_tup] at this
      exact this
    · rw [if_neg h]; trivial
  | List es p => exact Mo.bind (evList_mv (fun e τ σ S => C.e e ρ τ σ S) es τ σ S) fun vs τ₁ σ₁ S₁ => Mo.alloc S₁ vs
  | BinOp l op r p => exact Mo.bind (C.e l ρ τ σ S) fun a τ₁ σ₁ S₁ => Mo.bind (C.e r ρ τ₁ σ₁ S₁) fun b τ₂ σ₂ S₂ => binop_mv S₂ op a b
  | UnaryOp op x p => exact evUn_mv C op x ρ S
  | IfExp t b o p =>
    refine Mo.bind (C.t t ρ τ σ S) fun c τ₁ σ₁ S₁ => ?_
    cases c with
    | true => exact Mo.strict (C.e b ρ τ₁ σ₁ S₁)
    | false => exact Mo.strict (C.e o ρ τ₁ σ₁ S₁)
  | BoolOp op vs p => exact boolOps_mv op (fun e τ σ S => C.e e ρ τ σ S) vs τ σ S
  | Compare l ops cs p => exact Mo.bind (evCmp_mv C l ops cs ρ S) fun c τ₁ σ₁ S₁ => Mo.ok S₁ (PV.bool c)
  | Subscript v s p => exact evSub_mv C v s ρ S
  | Call f args kws pos => exact evCall_mv C f args kws pos ρ S
  | ListComp elt gens sc p => exact evComp_mv C elt gens sc ρ S
  | _ => trivial

theorem evTruth_mv (C : Com π σ₀ F) (e : Expr) (ρ : PE) (S : Sim π σ₀ τ σ) : Mo π σ₀ id (evTruth F e ρ τ) (evTruth F e (mvP π ρ) σ) := by
  refine Mo.bind (C.e e ρ τ σ S) fun v τ₁ σ₁ S₁ => ?_
  cases v with
  | bool b => exact Mo.ok (f := id) S₁ b
  | _ => trivial
theorem evT_mv (C : Com π σ₀ F) (e : Expr) (ρ : PE) (S : Sim π σ₀ τ σ) : Mo π σ₀ id (evT F e ρ τ) (evT F e (mvP π ρ) σ) := by
  have h := evTruth_mv C e ρ S
  cases e with
  | UnaryOp op x p =>
    cases op with
    | Not => exact Mo.bind (C.t x ρ τ σ S) fun b τ₁ σ₁ S₁ => Mo.ok (f := id) S₁ (!b)
    | _ => trivial
  | BoolOp op vs p => exact tests_mv op (fun e τ σ S => C.t e ρ τ σ S) vs τ σ S
  | IfExp => trivial
  | Compare l ops cs p => exact evCmp_mv C l ops cs ρ S
  | _ => exact h

theorem forLoop_mv (C : Com π σ₀ F) (target : Expr) (body : List Stmt) (it : It) : ∀ (n k : Nat) (ρ : PE) (τ σ : St), Sim π σ₀ τ σ → Mo π σ₀ (mvF π) (forLoop F target body it n k ρ τ) (forLoop F target body (mvI π it) n k (mvP π ρ) σ)
  | 0, _, _, _, _, _ => trivial
  | n + 1, k, ρ, τ, σ, S => by
    rw [for_succ, for_succ, nextAt_mv S]
    cases nextAt τ it k with
    | none => exact Mo.ok (f := mvF π) S (Fl.next, ρ.vars)
    | some v =>
      show Mo π σ₀ (mvF π) (match assignLoop target ρ v with | none => none | some vars => _) (match assignLoop target (mvP π ρ) (mv π v) with | none => none | some vars => _)
      rw [assignLoop_mv]
      cases assignLoop target ρ v with
      | none => trivial
      | some V =>
        refine Mo.bind (C.s body { ρ with vars := V } τ σ S) fun fv τ₁ σ₁ S₁ => ?_
        obtain ⟨fl, V₁⟩ := fv
        cases fl with
        | ret v => exact Mo.ok (f := mvF π) S₁ (Fl.ret v, V₁)
        | next => exact forLoop_mv C target body it n (k + 1) { ρ with vars := V₁ } τ₁ σ₁ S₁
        | cont => exact forLoop_mv C target body it n (k + 1) { ρ with vars := V₁ } τ₁ σ₁ S₁
theorem whileLoop_mv (C : Com π σ₀ F) (test : Expr) (body : List Stmt) : ∀ (n : Nat) (ρ : PE) (τ σ : St), Sim π σ₀ τ σ → Mo π σ₀ (mvF π) (whileLoop F test body n ρ τ) (whileLoop F test body n (mvP π ρ) σ)
  | 0, _, _, _, _ => trivial
  | n + 1, ρ, τ, σ, S => by
    refine Mo.bind (C.t test ρ τ σ S) fun b τ₁ σ₁ S₁ => ?_
    cases b with
    | false => exact Mo.ok (f := mvF π) S₁ (Fl.next, ρ.vars)
    | true =>
      refine Mo.bind (C.s body ρ τ₁ σ₁ S₁) fun fv τ₂ σ₂ S₂ => ?_
      obtain ⟨fl, V₁⟩ := fv
      cases fl with
      | ret v => exact Mo.ok (f := mvF π) S₂ (Fl.ret v, V₁)
      | next => exact whileLoop_mv C test body n { ρ with vars := V₁ } τ₂ σ₂ S₂
      | cont => exact whileLoop_mv C test body n { ρ with vars := V₁ } τ₂ σ₂ S₂

theorem raise_mv (C : Com π σ₀ F) (e c : Option Expr) (p : Pos) (ρ : PE) (S : Sim π σ₀ τ σ) : Mo π σ₀ (mvF π) (evS F (.Raise e c p) ρ τ) (evS F (.Raise e c p) (mvP π ρ) σ) := by
  cases e with
  | none => trivial
  | some e =>
    cases c with
    | some c => trivial
    | none =>
      show Mo π σ₀ (mvF π) (match raiseArgs ρ e with
        | some (a, b) => (F.e a ρ τ).bind fun k σ₁ => (F.e b ρ σ₁).bind fun m σ₂ => match k, m with
          | .str k, .str m => if decide (k.length ≤ 1000) && decide (m.length ≤ 1000) then some (.exc k σ₂) else none
          | _, _ => none
        | none => none) (match raiseArgs ρ e with
        | some (a, b) => (F.e a (mvP π ρ) σ).bind fun k σ₁ => (F.e b (mvP π ρ) σ₁).bind fun m σ₂ => match k, m with
          | .str k, .str m => if decide (k.length ≤ 1000) && decide (m.length ≤ 1000) then some (.exc k σ₂) else none
          | _, _ => none
        | none => none)
      cases raiseArgs ρ e with
      | none => trivial
      | some x =>
        obtain ⟨a, b⟩ := x
        refine Mo.bind (C.e a ρ τ σ S) fun k τ₁ σ₁ S₁ => Mo.bind (C.e b ρ τ₁ σ₁ S₁) fun m τ₂ σ₂ S₂ => ?_
        cases k with
        | str k =>
          cases m with
          | str m =>
            show Mo π σ₀ (mvF π) (if decide (k.length ≤ 1000) && decide (m.length ≤ 1000) then some (.exc k τ₂) else none) (if decide (k.length ≤ 1000) && decide (m.length ≤ 1000) then some (.exc k σ₂) else none)
            cases decide (k.length ≤ 1000) && decide (m.length ≤ 1000) with
            | true => exact ⟨σ₂, rfl, S₂⟩
            | false => trivial
          | _ => trivial
        | _ => trivial

theorem evS_mv (C : Com π σ₀ F) (s : Stmt) (ρ : PE) (S : Sim π σ₀ τ σ) : Mo π σ₀ (mvF π) (evS F s ρ τ) (evS F s (mvP π ρ) σ) := by
  cases s with
  | Assign ts value p =>
    match ts with
    | [] => trivial
    | _ :: _ :: _ => trivial
    | [t] =>
      show Mo π σ₀ (mvF π) (if constTuple t value then none else _) (if constTuple t value then none else _)
      cases constTuple t value with
      | true => trivial
      | false => exact Mo.bind (C.e value ρ τ σ S) fun v τ₁ σ₁ S₁ => Mo.bind (assignTo_mv C t ρ v S₁) fun V τ₂ σ₂ S₂ => Mo.ok (f := mvF π) S₂ (Fl.next, V)
  | Expr e p =>
    refine Mo.bindX (C.e e ρ τ σ S) fun v τ₁ σ₁ S₁ => ?_
    cases v with
    | none => exact Mo.ok (f := mvF π) S₁ (Fl.next, ρ.vars)
    | _ => trivial
  | Return v p =>
    cases v with
    | none => trivial
    | some e => exact Mo.bind (C.e e ρ τ σ S) fun v τ₁ σ₁ S₁ => Mo.ok (f := mvF π) S₁ (Fl.ret v, ρ.vars)
  | If test body orelse p =>
    refine Mo.bind (C.t test ρ τ σ S) fun b τ₁ σ₁ S₁ => ?_
    cases b with
    | true => exact C.s body ρ τ₁ σ₁ S₁
    | false => exact C.s orelse ρ τ₁ σ₁ S₁
  | While test body orelse p =>
    match orelse with
    | [] => exact whileLoop_mv C test body cap ρ τ σ S
    | _ :: _ => trivial
  | For target iter body orelse p =>
    match orelse with
    | [] =>
      refine Mo.bind (iterOf_mv C iter ρ S) fun it τ₁ σ₁ S₁ => ?_
      rw [fits_mv]
      cases fits it target with
      | true => exact forLoop_mv C target body it cap 0 ρ τ₁ σ₁ S₁
      | false => trivial
    | _ :: _ => trivial
  | Continue p => exact Mo.ok (f := mvF π) S (Fl.cont, ρ.vars)
  | Raise e c p => exact raise_mv C e c p ρ S
  | _ => trivial
theorem evSs_mv (C : Com π σ₀ F) : ∀ (b : List Stmt) (ρ : PE) (τ σ : St), Sim π σ₀ τ σ → Mo π σ₀ (mvF π) (evSs F b ρ τ) (evSs F b (mvP π ρ) σ)
  | [], ρ, τ, σ, S => Mo.ok (f := mvF π) S (Fl.next, ρ.vars)
  | s :: r, ρ, τ, σ, S => by
    refine Mo.bindX (evS_mv C s ρ S) fun fv τ₁ σ₁ S₁ => ?_
    obtain ⟨fl, V⟩ := fv
    cases fl with
    | next => exact evSs_mv C r { ρ with vars := V } τ₁ σ₁ S₁
    | cont => exact Mo.ok (f := mvF π) S₁ (Fl.cont, V)
    | ret v => exact Mo.ok (f := mvF π) S₁ (Fl.ret v, V)
theorem evC_mv (C : Com π σ₀ F) (f : Str) (vs : List PV) (S : Sim π σ₀ τ σ) : Mo π σ₀ (mv π) (evC F f vs τ) (evC F f (vs.map (mv π)) σ) := by
  unfold evC
  cases fnOf f with
  | none => trivial
  | some d =>
    show Mo π σ₀ (mv π) (if fnOk d && decide (d.params.args.length = vs.length) then _ else none) (if fnOk d && decide (d.params.args.length = (vs.map (mv π)).length) then _ else none)
    rw [List.length_map]
    cases fnOk d && decide (d.params.args.length = vs.length) with
    | false => trivial
    | true =>
      have h := C.s d.body { names := d.scope.names, vars := (d.params.args.map (·.arg)).zip vs, lam := withLams f } τ σ S
      have e : mvP π { names := d.scope.names, vars := (d.params.args.map (·.arg)).zip vs, lam := withLams f } = { names := d.scope.names, vars := (d.params.args.map (·.arg)).zip (vs.map (mv π)), lam := withLams f } := by
        show (⟨d.scope.names, mvV π _, withLams f⟩ : PE) = _
        congr 1
        unfold mvV
        rw [List.zip_map_right]
        rfl
      rw [e] at h
      refine Mo.bindX h fun fv τ₁ σ₁ S₁ => ?_
      obtain ⟨fl, V⟩ := fv
      cases fl with
      | ret v => exact Mo.ok S₁ v
      | next => exact Mo.ok S₁ PV.none
      | cont => trivial

theorem Com.step (C : Com π σ₀ F) : Com π σ₀ F.step where
  e e ρ _ _ S := evE_mv C e ρ S
  t e ρ _ _ S := evT_mv C e ρ S
  s b ρ τ σ S := evSs_mv C b ρ τ σ S
  c f vs _ _ S := evC_mv C f vs S
theorem ev_mv : ∀ n, Com π σ₀ (ev n)
  | 0 => ⟨fun _ _ _ _ _ => trivial, fun _ _ _ _ _ => trivial, fun _ _ _ _ _ => trivial, fun _ _ _ _ _ => trivial⟩
  | n + 1 => (ev_mv n).step
end
end
section
set_option maxRecDepth 100000
open PySem

noncomputable def same : PV → PV → Bool
  | .int x, .int y => x == y
  | .lst i, .lst j => i == j
  | _, _ => false
noncomputable def sameL : List PV → List PV → Bool
  | [], [] => true
  | a :: r, b :: t => same a b && sameL r t
  | _, _ => false
noncomputable def sameS : St → St → Bool
  | [], [] => true
  | a :: r, b :: t => sameL a b && sameS r t
  | _, _ => false
theorem same_eq {a b : PV} (h : same a b = true) : a = b := by
  cases a with
  | int x => cases b with
    | int y => exact congrArg PV.int (beq_iff_eq.mp h)
    | _ => exact no_ft h
  | lst i => cases b with
    | lst j => exact congrArg PV.lst (beq_iff_eq.mp h)
    | _ => exact no_ft h
  | _ => exact no_ft h
theorem sameL_eq : ∀ {a b : List PV}, sameL a b = true → a = b
  | [], [], _ => rfl
  | [], _ :: _, h => by cases h
  | _ :: _, [], h => by cases h
  | x :: r, y :: t, h => by
    refine and1 (a := same x y) (b := sameL r t) h fun h1 h2 => ?_
    rw [same_eq h1, sameL_eq h2]
theorem sameS_eq : ∀ {a b : St}, sameS a b = true → a = b
  | [], [], _ => rfl
  | [], _ :: _, h => by cases h
  | _ :: _, [], h => by cases h
  | x :: r, y :: t, h => by
    refine and1 (a := sameL x y) (b := sameS r t) h fun h1 h2 => ?_
    rw [sameL_eq h1, sameS_eq h2]

noncomputable def sys (w : Nat) (x y : Int) : St := [[.lst 1, .lst 2], List.replicate w (.int 0), .int 2 :: List.replicate (w - 1) (.int 0), [.int x, .int y]]
noncomputable def wsOk (n w : Nat) (x y : Int) (no : Bool) : Bool := match (ev (n + 41)).c "whole_solutions" [.lst 0, .lst 3, .int w] (sys w x y) with
  | some (.ok (.tup [v, _]) τ) => isNone v == some no && sameS (τ.take 4) (sys w x y)
  | _ => false
theorem ws1 (n : Nat) : wsOk n 1 1 0 true = true := by kernel_rfl
theorem ws2 (n : Nat) : wsOk n 2 1 0 true = true := by kernel_rfl
theorem ws3 (n : Nat) : wsOk n 3 1 0 true = true := by kernel_rfl
theorem ws10 (n : Nat) : wsOk n 1 0 0 false = true := by kernel_rfl
theorem ws11 (n : Nat) : wsOk n 1 0 1 true = true := by kernel_rfl
theorem ws12 (n : Nat) : wsOk n 1 0 2 false = true := by kernel_rfl
theorem ws13 (n : Nat) : wsOk n 1 0 3 true = true := by kernel_rfl
theorem ws20 (n : Nat) : wsOk n 2 0 0 false = true := by kernel_rfl
theorem ws21 (n : Nat) : wsOk n 2 0 1 true = true := by kernel_rfl
theorem ws22 (n : Nat) : wsOk n 2 0 2 false = true := by kernel_rfl
theorem ws23 (n : Nat) : wsOk n 2 0 3 true = true := by kernel_rfl
theorem ws30 (n : Nat) : wsOk n 3 0 0 false = true := by kernel_rfl
theorem ws31 (n : Nat) : wsOk n 3 0 1 true = true := by kernel_rfl
theorem ws32 (n : Nat) : wsOk n 3 0 2 false = true := by kernel_rfl
theorem ws33 (n : Nat) : wsOk n 3 0 3 true = true := by kernel_rfl
end
section
set_option maxRecDepth 100000
open PySem

noncomputable def pl (a b c d N : Nat) : Nat → Nat
  | 0 => a
  | 1 => b
  | 2 => c
  | 3 => d
  | i + 4 => N + i

theorem pl_big {x N n : Nat} {P : Prop} (hx : x < N) (h : x = N + n) : P := absurd (h ▸ hx) (Nat.not_lt.mpr (Nat.le_add_right N n))
theorem pl_inj {a b c d N : Nat} (ha : a < N) (hb : b < N) (hc : c < N) (hd : d < N) (hab : a ≠ b) (hac : a ≠ c) (had : a ≠ d) (hbc : b ≠ c) (hbd : b ≠ d) (hcd : c ≠ d) : ∀ i j, pl a b c d N i = pl a b c d N j → i = j := by
  intro i j h
  match i, j with
  | 0, 0 => rfl
  | 0, 1 => exact absurd h hab
  | 0, 2 => exact absurd h hac
  | 0, 3 => exact absurd h had
  | 0, _ + 4 => exact pl_big ha h
  | 1, 0 => exact absurd h.symm hab
  | 1, 1 => rfl
  | 1, 2 => exact absurd h hbc
  | 1, 3 => exact absurd h hbd
  | 1, _ + 4 => exact pl_big hb h
  | 2, 0 => exact absurd h.symm hac
  | 2, 1 => exact absurd h.symm hbc
  | 2, 2 => rfl
  | 2, 3 => exact absurd h hcd
  | 2, _ + 4 => exact pl_big hc h
  | 3, 0 => exact absurd h.symm had
  | 3, 1 => exact absurd h.symm hbd
  | 3, 2 => exact absurd h.symm hcd
  | 3, 3 => rfl
  | 3, _ + 4 => exact pl_big hd h
  | _ + 4, 0 => exact pl_big ha h.symm
  | _ + 4, 1 => exact pl_big hb h.symm
  | _ + 4, 2 => exact pl_big hc h.symm
  | _ + 4, 3 => exact pl_big hd h.symm
  | _ + 4, _ + 4 => exact congrArg (· + 4) (Nat.add_left_cancel (n := N) h)

section
variable {n : Nat} {σ : St}
theorem ws_wp {a b c d w : Nat} {x y : Int} {no : Bool} (hok : wsOk n w x y no = true) (ea : σ[a]? = some [.lst b, .lst c]) (eb : σ[b]? = some (List.replicate w (.int 0))) (ec : σ[c]? = some (.int 2 :: List.replicate (w - 1) (.int 0))) (ed : σ[d]? = some [.int x, .int y]) (hdb : d ≠ b) (hdc : d ≠ c) {Q : PV → St → Prop}
    (h : ∀ v u σ', Le σ σ' → isNone v = some no → Q (.tup [v, u]) σ') : Wp ((ev (n + 41)).c "whole_solutions" [.lst a, .lst d, .int w] σ) Q := by
  have la := (List.getElem?_eq_some_iff.mp ea).1
  have lb := (List.getElem?_eq_some_iff.mp eb).1
  have lc := (List.getElem?_eq_some_iff.mp ec).1
  have ld := (List.getElem?_eq_some_iff.mp ed).1
  have hab : a ≠ b := fun e => by
    rw [e, eb] at ea
    cases w with
    | zero => simp at ea
    | succ w => simp [List.replicate_succ] at ea
  have hac : a ≠ c := fun e => by rw [e, ec] at ea; cases ea
  have had : a ≠ d := fun e => by rw [e, ed] at ea; cases ea
  have hbc : b ≠ c := fun e => by
    rw [e, ec] at eb
    cases w with
    | zero => simp at eb
    | succ w =>
      simp [List.replicate_succ] at eb
      all_goals (injection eb with e0; exact absurd e0 (by decide))
  have S : Sim (pl a b c d σ.length) σ (sys w x y) σ := {
    inj := pl_inj la lb lc ld hab hac had hbc hdb.symm hdc.symm
    len := fun i => by show pl a b c d σ.length (4 + i) = _; rw [Nat.add_comm]; rfl
    val := fun i l e => by
      match i with
      | 0 => cases e; exact ea
      | 1 => cases e; rw [List.map_replicate]; exact eb
      | 2 => cases e; rw [List.map_cons, List.map_replicate]; exact ec
      | 3 => cases e; exact ed
      | i + 4 => cases e
    keep := fun j l _ e => e }
  have M := (ev_mv (π := pl a b c d σ.length) (σ₀ := σ) (n + 41)).c "whole_solutions" [.lst 0, .lst 3, .int w] _ _ S
  unfold wsOk at hok
  revert M hok
  cases (ev (n + 41)).c "whole_solutions" [.lst 0, .lst 3, .int w] (sys w x y) with
  | none => intro hok; cases hok
  | some o =>
    cases o with
    | exc k τ => intro hok; cases hok
    | ok r τ =>
      cases r with
      | tup l =>
        match l with
        | [] => intro hok; cases hok
        | [_] => intro hok; cases hok
        | _ :: _ :: _ :: _ => intro hok; cases hok
        | [v, u] =>
          intro hok
          have hok : (isNone v == some no && sameS (τ.take 4) (sys w x y)) = true := hok
          rw [Bool.and_eq_true] at hok
          have h1 : isNone v = some no := by simpa using hok.1
          have h2 := sameS_eq hok.2
          rintro ⟨σ', e, S'⟩
          refine ⟨_, σ', e, ?_⟩
          rw [mv_tup]
          refine h _ _ σ' (fun j l hj => ?_) (by rw [isNone_mv]; exact h1)
          have back : ∀ i, i < 4 → τ[i]? = (sys w x y)[i]? := fun i hi => by rw [← h2, List.getElem?_take, if_pos hi]
          by_cases q : ∃ i, pl a b c d σ.length i = j
          · obtain ⟨i, rfl⟩ := q
            have hi : i < 4 := by
              match i with
              | 0 => exact fm [] [] [] (.nlt (.l 0) (.l 4)) [[1]] rfl
              | 1 => exact fm [] [] [] (.nlt (.l 1) (.l 4)) [[1]] rfl
              | 2 => exact fm [] [] [] (.nlt (.l 2) (.l 4)) [[1]] rfl
              | 3 => exact fm [] [] [] (.nlt (.l 3) (.l 4)) [[1]] rfl
              | i + 4 =>
                have := (List.getElem?_eq_some_iff.mp hj).1
                simp only [pl] at this; exact fm [_, _] [] [.nlt (.a (.v 0) (.v 1)) (.v 0)] (.nlt (.a (.v 1) (.l 4)) (.l 4)) [[1]] rfl this
            have e1 := S'.get i
            have e2 := S.get i
            rw [back i hi] at e1
            rw [e1, ← e2]
            exact hj
          · exact S'.keep j l (fun i e => q ⟨i, e⟩) hj
      | _ => intro hok; cases hok
end
end
section

theorem c_callL {n : Nat} {σ : St} {f : Str} {d : Fn} {vs : List PV} {vars : Vars} {Q : PV → St → Prop} (hd : fnOf f = some d) (hw : withLams f = true) (h : Ws ((ev n).s d.body ⟨d.scope.names, vars, true⟩ σ) fun fl _ σ₁ => match fl with
    | .ret v => Q v σ₁
    | .next => Q .none σ₁
    | .cont => False) (hz : (d.params.args.map (·.arg)).zip vs = vars := by rfl) (hok : (fnOk d && decide (d.params.args.length = vs.length)) = true := by rfl) : Wp ((ev (n + 1)).c f vs σ) Q := by
  rw [← hw] at h
  repeat walk_at "back"
  exact c_call hd h hz hok

theorem toD_shape {σ : St} : toD σ 8 (.str "shape") = some (.str "shape") := by
  show (if PyData.strOk "shape" then some (PyData.str "shape") else none) = _
  rw [if_pos (by decide +kernel)]
theorem cmp_str_ne {σ : St} : cmp .NotEq (.str "shape") (.str "shape") σ = some false := by
  have h : pyEq σ (.str "shape") (.str "shape") = some (PyData.eqv (.str "shape") (.str "shape")) := pyEq_of toD_shape toD_shape
  show (pyEq σ (.str "shape") (.str "shape")).map (!·) = _
  rw [h]; simp [PyData.eqv]
theorem cmp_str_eq {σ : St} : cmp .Eq (.str "shape") (.str "shape") σ = some true := by
  have h : pyEq σ (.str "shape") (.str "shape") = some (PyData.eqv (.str "shape") (.str "shape")) := pyEq_of toD_shape toD_shape
  show pyEq σ (.str "shape") (.str "shape") = _
  rw [h]; simp [PyData.eqv]
theorem cmp_none_str {σ : St} : cmp .Eq .none (.str "shape") σ = some false := by
  have h : pyEq σ .none (.str "shape") = some (PyData.eqv .none (.str "shape")) := pyEq_of rfl toD_shape
  show pyEq σ .none (.str "shape") = _
  rw [h]; simp [PyData.eqv]
theorem cmp_int_str {σ : St} {i : Int} : cmp .Eq (.int i) (.str "shape") σ = some false := by
  have h : pyEq σ (.int i) (.str "shape") = some (PyData.eqv (.int i) (.str "shape")) := pyEq_of rfl toD_shape
  show pyEq σ (.int i) (.str "shape") = _
  rw [h]; simp [PyData.eqv]
theorem cmp_bool_eq {σ : St} {a b : Bool} : cmp .Eq (.bool a) (.bool b) σ = some (a == b) := by
  have h : pyEq σ (.bool a) (.bool b) = some (PyData.eqv (.bool a) (.bool b)) := pyEq_of rfl rfl
  show pyEq σ (.bool a) (.bool b) = _
  rw [h]; cases a <;> cases b <;> simp [PyData.eqv]
theorem cmp_bool_ne {σ : St} {a b : Bool} : cmp .NotEq (.bool a) (.bool b) σ = some (!(a == b)) := by
  have h : pyEq σ (.bool a) (.bool b) = some (PyData.eqv (.bool a) (.bool b)) := pyEq_of rfl rfl
  show (pyEq σ (.bool a) (.bool b)).map (!·) = _
  rw [h]; cases a <;> cases b <;> simp [PyData.eqv]
end
section

noncomputable def bP : Nat → Nat
  | 0 => 1
  | 1 => 13
  | 2 => 49
  | 3 => 157
  | _ => 481
theorem Sz.idm {i j : Nat} : Sz 1 (idm i j) := by
  unfold Mine.idm
  split
  · repeat walk_at "back"
    exact Sz.one
  · repeat walk_at "back"
    exact Sz.zero
theorem Sz.pow {m : Nat} {A : Nat → Nat → Rat} (hm : m ≤ 3) (sa : ∀ i j, i < m → j < m → Sz 2 (A i j)) : ∀ t, t ≤ 4 → ∀ i j, i < m → j < m → Sz (bP t) (mpow m A t i j)
  | 0, _ => fun i j _ _ => Sz.idm
  | 1, h => fun i j hi hj => (Sz.mmul hm (ka := bP 0) (Sz.pow hm sa 0 (by walk_at "om")) sa i j hi hj).mono (by decide)
  | 2, h => fun i j hi hj => (Sz.mmul hm (ka := bP 1) (Sz.pow hm sa 1 (by walk_at "om")) sa i j hi hj).mono (by decide)
  | 3, h => fun i j hi hj => (Sz.mmul hm (ka := bP 2) (Sz.pow hm sa 2 (by walk_at "om")) sa i j hi hj).mono (by decide)
  | 4, h => fun i j hi hj => (Sz.mmul hm (ka := bP 3) (Sz.pow hm sa 3 (by walk_at "om")) sa i j hi hj).mono (by decide)
  | _ + 5, h => by exact False.elim (fm [_] [] [.nle (.a (.v 0) (.l 5)) (.l 4)] .f [[1]] rfl h)

section
variable {n : Nat} {σ : St} {Q : PV → St → Prop}
theorem single_wp {p : PV} {m k b s t : Nat} {ns : List Int} {A : Nat → Nat → Rat} (hb : Bx b s ns t σ) (ht : t ≤ 900) (hn : ns.length ≤ 40) (hA : IsMat σ p m k A) (h0 : m = 0 ↔ k = 0) (hm : m ≤ 3) (hk : k ≤ 3) (sa : ∀ i j, i < m → j < k → Sz 2 (A i j))
    (h : ∀ t' σ', Lf b σ σ' → Bx b s ns t' σ' → t' ≤ t + 1 → Q (.bool true) σ') : Wp ((ev (n + 90)).c "_law_single_right" [.lst b, p] σ) Q := by
  have hcap : cap = 4000 := rfl
  obtain ⟨a, l, rfl, ha, hl⟩ := id hA
  have hlen := hl.1
  refine c_callL F_law_single_right.2 rfl ?_
  walk_at "py"
  refine bi_leneq ha hlen (by walk_at "om") ?_
  walk_at "py"
  refine Wp.mono (Q := fun w σ₂ => w = .int k ∧ Le σ σ₂) (e_ife ?_) ?_
  · walk_at "py"
    intro ei σ₂ le₂ newe ate
    refine ⟨_, cmp_mat_nil (hA.le le₂) ate, ?_⟩
    repeat walk_at "back"
    refine ⟨fun hc => ?_, fun hc => ?_⟩
    · have hc : 0 < m := by simp at hc; exact fm [_] [] [.no (.neq (.v 0) (.l 0))] (.nlt (.l 0) (.v 0)) [[1, 1], [1]] rfl hc
      obtain ⟨w, hw, d, rfl, hd⟩ := hl.2 0 hc
      walk_at "py"
      refine g_lst (le₂ _ _ ha) (by decide) (by decide) (by simpa using hw) ?_
      walk_at "py"
      refine bi_leneq (le₂ _ _ hd) rowOf_len (by rw [rowOf_len]; exact fm [_, _] [] [.nle (.v 0) (.l 3), .neq (.v 1) (.l 4000)] (.nle (.v 0) (.v 1)) [[1, 0, 1, 1]] rfl hk hcap) ?_
      repeat walk_at "back"
      exact ⟨rfl, le₂⟩
    · have hc : m = 0 := by simp at hc; exact fm [_] [] [.neq (.v 0) (.l 0)] (.neq (.v 0) (.l 0)) [[1, 0, 1], [0, 0, 1]] rfl hc
      walk_at "py"
      rw [h0.mp hc]
      repeat walk_at "back"
      exact ⟨rfl, le₂⟩
  rintro w σ₂ ⟨rfl, le₂⟩
  walk_at "py"
  refine take_wp (hb.le le₂) (by walk_at "om") hn (by decide) fun tm σ₃ htm lf₃ hb₃ => ?_
  walk_at "py"
  have lf3 := le₂.lf.trans lf₃
  replace hA := hb.mat lf3 hA
  replace h : ∀ σ', Le σ₃ σ' → Q (.bool true) σ' := fun σ' le' => h (t + 1) σ' (lf3.trans le'.lf) (hb₃.le le') (by exact fm [_] [] [] (.nle (.a (.v 0) (.l 1)) (.a (.v 0) (.l 1))) [[1]] rfl)
  clear hl ha hlen lf3 lf₃ hb₃ le₂ hb ht hn
  refine bi_range (small_of (by walk_at "om") (by walk_at "om")) ?_
  walk_at "py"
  refine comp_rng (M := m) (fun i x σ' => IsRow σ' x m (idm i)) (fun i x _ _ l hx => hx.le l) rfl (by walk_at "om") (by first | exact .inl rfl | exact .inr rfl) (fun i V' σ₁ hi hle hp => ?_) (fun xs σ₂ hle hlen hxs => ?_)
  · have h1 : At V' "high" (.int m) := hp _ _ rfl (by walk_at "lk")
    walk_at "py"
    refine bi_range (small_of (by walk_at "om") (by walk_at "om")) ?_
    walk_at "py"
    refine comp_rng (M := m) (fun j x σ' => x = q (idm i j)) (fun j x _ _ l hx => hx) rfl (by walk_at "om") (by first | exact .inl rfl | exact .inr rfl) (fun j V₂ σ₂ hj hle₂ hp₂ => ?_) (fun xs σ₂ hle₂ hlen hxs => ?_)
    · have h2 : At V₂ "line" (.int i) := hp₂ _ _ rfl (by walk_at "lk")
      refine e_ife ?_
      walk_at "py"
      refine ⟨fun hc => ?_, fun hc => ?_⟩
      · have hc : i = j := by simp at hc; exact fm [_, _] [] [.ieq (.k (.v 0)) (.k (.v 1))] (.neq (.v 0) (.v 1)) [[1, 0, 1], [0, 1, 1]] rfl hc
        walk_at "py"
        exact ⟨Le.refl _, by unfold idm; rw [if_pos hc]; rfl⟩
      · have hc : ¬ i = j := by simp at hc; exact fm [_, _] [] [.no (.ieq (.k (.v 0)) (.k (.v 1)))] (.no (.neq (.v 0) (.v 1))) [[1, 1], [1, 0, 1]] rfl hc
        walk_at "py"
        exact ⟨Le.refl _, by unfold idm; rw [if_neg hc]; rfl⟩
    · have hr : xs = rowOf m (idm i) := rowOf_ext hlen fun j hj => by obtain ⟨x, e, hx⟩ := hxs j hj; rw [e, hx]
      refine ⟨by walk_at "om", ?_⟩
      intro k σ₃ le₃ new at₃
      repeat walk_at "back"
      exact ⟨hle₂.trans le₃, k, rfl, by rw [at₃, hr]⟩
  refine ⟨by walk_at "om", ?_⟩
  intro pd σ₄ le₄ new₄ at₄
  have hD : IsMat σ₄ (.lst pd) m m idm := ⟨pd, xs, rfl, at₄, hlen, fun i hi => by obtain ⟨x, e, hx⟩ := hxs i hi; exact ⟨x, e, hx.le le₄⟩⟩
  have le4 := hle.trans le₄
  clear at₄ hxs hle hlen new₄ le₄
  obtain ⟨hs, ehs⟩ : ∃ hs, hs = ((m : Int) == (k : Int)) := ⟨_, rfl⟩
  rw [← ehs]
  have hst : hs = true → m = k := fun e => by rw [e] at ehs; have := ehs.symm; simp at this; exact fm [_, _] [] [.ieq (.k (.v 0)) (.k (.v 1))] (.neq (.v 0) (.v 1)) [[1, 0, 1], [0, 1, 1]] rfl this
  have hsf : hs = false → m ≠ k := fun e => by rw [e] at ehs; have := ehs.symm; simp at this; exact fm [_, _] [] [.no (.ieq (.k (.v 0)) (.k (.v 1)))] (.no (.neq (.v 0) (.v 1))) [[1, 1], [1, 0, 1]] rfl this
  clear ehs
  walk_at "py"
  refine Wp.mono (Q := fun w σ' => σ' = σ₄ ∧ ∃ u : Nat, w = .int u ∧ u ≤ 4 ∧ (hs = true → u = tm) ∧ (hs = false → u = 0)) (e_ife ?_) ?_
  · walk_at "py"
    refine ⟨fun hc => ?_, fun hc => ?_⟩
    · walk_at "py"
      repeat walk_at "back"
      exact ⟨tm, rfl, by exact fm [_] [] [.ilt (.k (.v 0)) (.l 5)] (.nle (.v 0) (.l 4)) [[1, 1]] rfl htm, fun _ => rfl, fun e => by rw [e] at hc; cases hc⟩
    · walk_at "py"
      repeat walk_at "back"
      exact ⟨0, rfl, by walk_at "om", fun e => (by rw [e] at hc; cases hc), fun _ => rfl⟩
  rintro w σ₅ ⟨rfl, ut, rfl, hu4, hut, huf⟩
  walk_at "py"
  refine bi_range (small_of (by walk_at "om") (by walk_at "om")) ?_
  walk_at "py"
  refine for_rule (fun u V σ' => All7 (Le σ₃ σ') (At V "one" (.lst a)) (At V "times" (.int tm)) (At V "high" (.int m)) (At V "wide" (.int k)) (At V "has_like_sides" (.bool hs)) (∃ pd, At V "due" pd ∧ (hs = true → IsMat σ' pd m m (mpow m A u)))) ut (by walk_at "om")
    ⟨le4, by walk_at "lk", by walk_at "lk", by walk_at "lk", by walk_at "lk", by walk_at "lk", _, by walk_at "lk", fun _ => hD⟩ ?_ ?_
  · rintro u V σ' hu ⟨hle, g1, g2, g3, g4, g5, pd, g6, hD⟩
    have hs1 : hs = true := by
      cases hs with
      | true => rfl
      | false => have := huf rfl; exact False.elim (fm [_, _] [] [.nlt (.v 0) (.v 1), .neq (.v 1) (.l 0)] .f [[1, 1]] rfl hu this)
    have hmk := hst hs1
    subst hmk
    refine ⟨_, _, nx_rng (by walk_at "om"), al_name (by first | exact .inl rfl | exact .inr rfl), ?_⟩
    walk_at "gate"
    walk_at "py"
    have hu3 : u < 4 := by exact fm [_, _] [] [.nle (.v 0) (.l 4), .nlt (.v 1) (.v 0)] (.nlt (.v 1) (.l 4)) [[1, 1, 1]] rfl hu4 hu
    have hb3 : bP u ≤ 157 := by
      have : u = 0 ∨ u = 1 ∨ u = 2 ∨ u = 3 := by exact fm [_] [] [.nlt (.v 0) (.l 4)] (.or (.neq (.v 0) (.l 0)) (.or (.neq (.v 0) (.l 1)) (.or (.neq (.v 0) (.l 2)) (.neq (.v 0) (.l 3))))) [[1, 0, 0, 0, 1], [0, 0, 0, 1, 1], [0, 0, 1, 1], [0, 0, 1, 1], [0, 1, 1], [0, 1, 1], [0, 1, 1], [0, 1, 1], [0, 1], [0, 1], [0, 1], [0, 1], [0, 1], [0, 1], [0, 1], [0, 1]] rfl hu3
      rcases this with rfl | rfl | rfl | rfl <;> decide
    have hlim : lim = 900 := rfl
    refine product_wp (ka := bP u) (kb := 2) (hD hs1) (hA.le hle) (fun e => e) (by walk_at "om") (by walk_at "om") (by walk_at "om") (Sz.pow hm sa u (by exact fm [_] [] [.nlt (.v 0) (.l 4)] (.nle (.v 0) (.l 4)) [[1, 1]] rfl hu3)) sa (by walk_at "om") (by walk_at "om") ?_ fun r σ₅ le₅ hr => ?_
    · have : m * (bP u + 2 + 1) ≤ 3 * 160 := Nat.mul_le_mul hm (by exact fm [_] [] [.nle (.v 0) (.l 157)] (.nle (.a (.a (.v 0) (.l 2)) (.l 1)) (.l 160)) [[1, 1]] rfl hb3)
      exact fm [_, _] [] [.neq (.v 0) (.l 900), .nle (.v 1) (.l 480)] (.nle (.a (.v 1) (.l 1)) (.v 0)) [[0, 1, 1, 1]] rfl hlim this
    walk_at "py"
    exact ⟨hle.trans le₅, by walk_at "lk", by walk_at "lk", by walk_at "lk", by walk_at "lk", by walk_at "lk", r, by walk_at "lk", fun _ => hr⟩
  rintro V σ₅ ⟨le₅, g1, g2, g3, g4, g5, pd, g6, hD⟩
  refine ⟨nx_rng_none (by walk_at "om"), ?_⟩
  repeat walk_at "back"
  repeat walk_at "back"
  refine ss_cons (Ws.mono (Q := fun fl V' σ' => fl = .next ∧ V' = V ∧ Le σ₅ σ') (s_if (t_cmp ?_ (by with_unfolding_all rfl))) ?_)
  · cases q : hs with
    | true =>
      have hmk := hst q
      subst hmk
      rw [q] at g5 hD hut
      rw [hut rfl] at hD
      walk_at "asked"
      walk_at "py"
      refine power_wp (hA.le le₅) hm (by exact fm [_] [] [.ilt (.k (.v 0)) (.l 5)] (.nle (.v 0) (.l 4)) [[1, 1]] rfl htm) sa fun r σ₆ le₆ hr => ?_
      refine e_ife ?_
      walk_at "py"
      refine ⟨fun _ => ?_, fun hc => by cases hc⟩
      walk_at "py"
      refine ⟨_, (cmp_mat hr ((hD rfl).le le₆) fun i j _ _ => rfl).1, ?_⟩
      repeat walk_at "back"
      refine ⟨fun hc => absurd hc (by decide), fun _ => ?_⟩
      walk_at "py"
      exact le₆
    | false =>
      rw [q] at g5
      walk_at "askedX"
      refine ex_call ?_ (by with_unfolding_all rfl) (by with_unfolding_all rfl) (by with_unfolding_all rfl)
      walk_at "py"
      refine power_wx (hA.le le₅) h0.mp (by walk_at "om") (by walk_at "om") (hsf q) ?_
      refine e_ife ?_
      walk_at "py"
      refine ⟨fun hc => (by cases hc), fun _ => ?_⟩
      walk_at "py"
      refine ⟨_, cmp_str_ne, ?_⟩
      repeat walk_at "back"
      refine ⟨fun hc => absurd hc (by decide), fun _ => ?_⟩
      walk_at "py"
      exact Le.refl _
  rintro fl V' σ₆ ⟨rfl, rfl, le₆⟩
  repeat walk_at "back"
  refine ss_cons (Ws.mono (Q := fun fl V'' σ' => fl = .next ∧ V'' = V' ∧ Le σ₆ σ') (s_if (t_boolop (ts_or (Wp.mono (Q := fun b σ' => b = false ∧ Le σ₆ σ') (t_boolop (ts_and ?_)) ?_)))) ?_)
  · walk_at "py"
    refine ⟨fun _ => ⟨rfl, Le.refl _⟩, fun hc => ?_⟩
    have hm0 : 0 < m := by simpa using hc
    cases q : hs with
    | true =>
      have hmk := hst q
      subst hmk
      rw [q] at g5
      walk_at "py"
      walk_at "asked"
      walk_at "py"
      refine inverse_wp (hA.le (le₅.trans le₆)) hm sa fun v σ₇ le₇ hv => ?_
      have hcmp : cmp .Eq v (.str "shape") σ₇ = some false := by
        rcases hv with rfl | ⟨B, hB⟩
        · repeat walk_at "back"
          exact cmp_none_str
        · repeat walk_at "back"
          exact cmp_mat_str hB (by decide +kernel)
      walk_at "py"
      refine ⟨_, hcmp, ?_⟩
      walk_at "py"
      refine ⟨_, cmp_bool_eq, ?_⟩
      repeat walk_at "back"
      refine ⟨fun _ => ⟨rfl, le₇⟩, fun hc => by cases hc⟩
    | false =>
      rw [q] at g5
      walk_at "py"
      walk_at "askedX"
      refine ex_call ?_ (by with_unfolding_all rfl) (by with_unfolding_all rfl) (by with_unfolding_all rfl)
      walk_at "py"
      refine inverse_wx (hA.le (le₅.trans le₆)) (by exact fm [_] [] [.nlt (.l 0) (.v 0)] (.no (.neq (.v 0) (.l 0))) [[1, 1]] rfl hm0) (by walk_at "om") (by walk_at "om") (hsf q) ?_
      walk_at "py"
      refine ⟨_, cmp_str_eq, ?_⟩
      walk_at "py"
      refine ⟨_, cmp_bool_eq, ?_⟩
      repeat walk_at "back"
      refine ⟨fun _ => ⟨rfl, Le.refl _⟩, fun hc => by cases hc⟩
  · rintro c σ₇ ⟨rfl, le₇⟩
    refine ⟨fun hc => (by cases hc), fun _ => ?_⟩
    walk_at "py"
    refine shape_wp (hA.le (le₅.trans (le₆.trans le₇))) h0.mp (by walk_at "om") (by walk_at "om") ?_
    walk_at "py"
    refine ⟨_, cmp_pair_ne, ?_⟩
    repeat walk_at "back"
    refine ⟨fun hc => (by simp at hc), fun _ => ?_⟩
    walk_at "py"
    refine ⟨fun hc => (by cases hc), fun _ => ?_⟩
    walk_at "py"
    exact le₇
  rintro fl V'' σ₇ ⟨rfl, rfl, le₇⟩
  have le7 := le₅.trans (le₆.trans le₇)
  replace hA := hA.le le7
  replace h : ∀ σ', Le σ₇ σ' → Q (.bool true) σ' := fun σ' le' => h σ' (le7.trans le')
  clear le7 le₅ le₆ le₇ hD g6 g2 hut huf hu4 le4
  obtain ⟨a', l, ea, ha, hl⟩ := id hA
  cases ea
  have hlen := hl.1
  walk_at "py"
  refine comp_lst (fun i x σ' => ∃ c, x = .lst c ∧ σ'[c]? = some (rowI k fun j => (A i j).num)) (fun i x _ _ l hx => let ⟨c, e, hc⟩ := hx; ⟨c, e, l _ _ hc⟩) ha (by walk_at "om") (by first | exact .inl rfl | exact .inr rfl) (fun i v V' σ₈ hi hle hp => ?_) (fun xs σ₈ hle hlen' hxs => ?_)
  · obtain ⟨hi', c, rfl, hc⟩ := hl.get hi
    walk_at "py"
    refine comp_lst (fun j x σ' => x = .int (A i j).num) (fun j x _ _ l hx => hx) (hle _ _ hc) (by rw [rowOf_len]; exact fm [_, _] [] [.nle (.v 0) (.l 3), .neq (.v 1) (.l 4000)] (.nlt (.v 0) (.v 1)) [[1, 0, 1, 1]] rfl hk hcap) (by first | exact .inl rfl | exact .inr rfl) (fun j w V₂ σ₉ hj hle₂ hp₂ => ?_) (fun ys σ₉ hle₂ hlen hxs => ?_)
    · have hjk : j < k := by have := (List.getElem?_eq_some_iff.mp hj).1; rwa [rowOf_len] at this
      rw [rowOf_get hjk] at hj
      cases hj
      walk_at "py"
      exact ⟨Le.refl _, rfl⟩
    · rw [rowOf_len] at hlen hxs
      have hr : ys = rowI k (fun j => (A i j).num) := rowI_ext hlen fun j hj => by obtain ⟨x, e, hx⟩ := hxs j hj; rw [e, hx]
      refine ⟨by walk_at "om", ?_⟩
      intro c' σ₃ le₃ new at₃
      repeat walk_at "back"
      exact ⟨hle₂.trans le₃, c', rfl, by rw [at₃, hr]⟩
  refine ⟨by walk_at "om", ?_⟩
  intro pw σ₉ le₉ new₉ at₉
  have hW : IsIMat σ₉ (.lst pw) m k (fun i j => (A i j).num) := ⟨pw, xs, rfl, at₉, by walk_at "om", fun i hi => by
    obtain ⟨x, e, c, rfl, hc⟩ := hxs i (by walk_at "om")
    repeat walk_at "back"
    exact ⟨c, e, le₉ _ _ hc⟩⟩
  have le9 := hle.trans le₉
  clear hle le₉ new₉ at₉ hxs hlen'
  refine as_name (set_cell (by with_unfolding_all rfl)) ?_
  have f1 : At (upd "whole" (.lst pw) V'') "one" (.lst a) := by walk_at "lk"
  have f2 : At (upd "whole" (.lst pw) V'') "high" (.int m) := by walk_at "lk"
  have f3 : At (upd "whole" (.lst pw) V'') "has_like_sides" (.bool hs) := by walk_at "lk"
  have f4 : At (upd "whole" (.lst pw) V'') "whole" (.lst pw) := by walk_at "lk"
  generalize upd "whole" (.lst pw) V'' = V at f1 f2 f3 f4 ⊢
  clear g1 g3 g4 g5
  repeat walk_at "back"
  refine ss_cons (Ws.mono (Q := fun fl V' σ' => fl = .next ∧ V' = V ∧ Le σ₉ σ') (s_if (t_cmp ?_ (by with_unfolding_all rfl))) ?_)
  · cases q : hs with
    | true =>
      have hmk := hst q
      subst hmk
      rw [q] at f3
      refine e_cmp ?_ (by with_unfolding_all rfl)
      walk_at "asked"
      walk_at "py"
      refine det_wp hW hm (fun i j hi hj => (sa i j hi hj).1) fun i σ₈ le₈ => ?_
      walk_at "py"
      refine ⟨_, cmp_int_str, ?_⟩
      walk_at "py"
      refine ⟨fun hc => ⟨_, cmp_bool_ne, fun hc => absurd hc (by decide), fun _ => ?_⟩, fun hc => ?_⟩
      · walk_at "py"
        repeat walk_at "back"
        exact le₈
      · walk_at "py"
        refine ⟨_, cmp_bool_ne, ?_⟩
        repeat walk_at "back"
        refine ⟨fun hc => absurd hc (by decide), fun _ => ?_⟩
        walk_at "py"
        exact le₈
    | false =>
      have hmk := hsf q
      have hm0 : m ≠ 0 := fun e => hmk (by rw [e, h0.mp e])
      rw [q] at f3
      refine e_cmp ?_ (by with_unfolding_all rfl)
      walk_at "askedX"
      refine ex_call ?_ (by with_unfolding_all rfl) (by with_unfolding_all rfl) (by with_unfolding_all rfl)
      walk_at "py"
      refine det_wx hW hm0 (by walk_at "om") (by walk_at "om") hmk fun σ₈ le₈ => ?_
      walk_at "py"
      refine ⟨_, cmp_str_eq, ?_⟩
      walk_at "py"
      refine ⟨fun hc => (by simp at hc; exact False.elim (fm [_] [] [.no (.neq (.v 0) (.l 0)), .neq (.v 0) (.l 0)] .f [[1, 1], [1]] rfl hm0 hc)), fun hc => ?_⟩
      walk_at "py"
      refine ⟨_, cmp_bool_ne, ?_⟩
      repeat walk_at "back"
      refine ⟨fun hc => absurd hc (by decide), fun _ => ?_⟩
      walk_at "py"
      exact le₈
  rintro fl V' σ₈ ⟨rfl, rfl, le₈⟩
  have hA₈ := hA.le (le9.trans le₈)
  repeat walk_at "back"
  refine ss_cons (Ws.mono (Q := fun fl V'' σ' => fl = .next ∧ V'' = V' ∧ Le σ₈ σ') (s_if (t_boolop (ts_and ?_))) ?_)
  · walk_at "py"
    refine ⟨fun _ => ?_, fun hc => ?_⟩
    · refine ⟨fun hc => (by cases hc), fun _ => ?_⟩
      walk_at "py"
      exact Le.refl _
    walk_at "py"
    refine transposed_wp hA₈ h0.mp (by walk_at "om") (by walk_at "om") fun p₁ σ₁ le₁ hT => ?_
    walk_at "py"
    refine transposed_wp hT h0.mpr (by walk_at "om") (by walk_at "om") fun p₂ σ₂ le₂ hT₂ => ?_
    walk_at "py"
    refine ⟨_, (cmp_mat hT₂ (hA₈.le (le₁.trans le₂)) fun i j _ _ => rfl).1, ?_⟩
    repeat walk_at "back"
    refine ⟨fun hc => absurd hc (by decide), fun _ => ?_⟩
    walk_at "py"
    refine transposed_wp (hA₈.le (le₁.trans le₂)) h0.mp (by walk_at "om") (by walk_at "om") fun p₃ σ₃ le₃ hT₃ => ?_
    walk_at "py"
    refine rank_wp hT₃ h0.mpr hk (by walk_at "om") (fun i j hi hj => sa j i hj hi) fun r σ₄ le₄ hr hR => ?_
    walk_at "py"
    refine rank_wp (hA₈.le (le₁.trans (le₂.trans (le₃.trans le₄)))) h0.mp hm (by walk_at "om") sa fun r' σ₅ le₅ hr' hR' => ?_
    have e := hR'.turn.uniq hR hr' hr
    subst e
    walk_at "py"
    refine ⟨fun hc => (by simp at hc), fun _ => ?_⟩
    walk_at "py"
    refine ⟨fun _ => ?_, fun hc => (by cases hc)⟩
    refine ⟨fun hc => (by cases hc), fun _ => ?_⟩
    walk_at "py"
    exact le₁.trans (le₂.trans (le₃.trans (le₄.trans le₅)))
  rintro fl V'' σ₁ ⟨rfl, rfl, le₁⟩
  have hA₁ := hA₈.le le₁
  have le11 := le9.trans (le₈.trans le₁)
  walk_at "py"
  refine Wp.mono (Q := fun w σ' => σ' = σ₁ ∧ ∃ u : Nat, w = .int u ∧ u ≤ m ∧ (hs = true → u = m) ∧ (hs = false → u = 0)) (e_ife ?_) ?_
  · walk_at "py"
    refine ⟨fun hc => ?_, fun hc => ?_⟩
    · walk_at "py"
      repeat walk_at "back"
      exact ⟨m, rfl, by exact fm [_] [] [] (.nle (.v 0) (.v 0)) [[1]] rfl, fun _ => rfl, fun e => by rw [e] at hc; cases hc⟩
    · walk_at "py"
      repeat walk_at "back"
      exact ⟨0, rfl, by walk_at "om", fun e => (by rw [e] at hc; cases hc), fun _ => rfl⟩
  rintro w σ₅ ⟨rfl, u, rfl, hu, hut, huf⟩
  have hlim : lim = 900 := rfl
  obtain ⟨a', l, ea, ha, hl⟩ := id hA₁
  cases ea
  have hlen := hl.1
  walk_at "py"
  refine bi_range (small_of (by walk_at "om") (by exact fm [_, _] [] [.nle (.v 0) (.l 3), .nle (.v 1) (.v 0)] (.ile (.k (.v 1)) (.l 1000)) [[1, 1, 1]] rfl hm hu)) ?_
  walk_at "py"
  refine for_rule (fun v V σ' => All4 (σ' = σ₅) (At V "one" (.lst a)) (At V "has_like_sides" (.bool hs)) (At V "sums" (q (sm v fun t => A t t)))) u (by exact fm [_, _, _] [] [.nle (.v 0) (.l 3), .neq (.v 1) (.l 4000), .nle (.v 2) (.v 0)] (.nlt (.v 2) (.v 1)) [[1, 0, 1, 1, 1]] rfl hm hcap hu) ⟨rfl, by walk_at "lk", by walk_at "lk", by walk_at "lk"⟩ ?_ ?_
  · rintro v V σ' hv ⟨rfl, g1, g2, g3⟩
    have hs1 : hs = true := by
      cases hs with
      | true => rfl
      | false => have := huf rfl; exact False.elim (fm [_, _] [] [.nlt (.v 0) (.v 1), .neq (.v 1) (.l 0)] .f [[1, 1]] rfl hv this)
    have hmk := hst hs1
    subst hmk
    refine ⟨_, _, nx_rng (by walk_at "om"), al_name (by first | exact .inl rfl | exact .inr rfl), ?_⟩
    walk_at "gate"
    obtain ⟨w, hw, c, rfl, hc⟩ := hl.2 v (by exact fm [_, _, _] [] [.nle (.v 0) (.v 1), .nlt (.v 2) (.v 0)] (.nlt (.v 2) (.v 1)) [[1, 1, 1]] rfl hu hv)
    walk_at "py"
    refine g_lst ha (by walk_at "om") (by exact fm [_, _, _] [] [.nle (.v 0) (.l 3), .nle (.v 1) (.v 0), .nlt (.v 2) (.v 1)] (.ile (.a (.l 0) (.k (.v 2))) (.l 1000000)) [[1, 1, 1, 1]] rfl hm hu hv) (v := .lst c) (by simpa using hw) ?_
    walk_at "py"
    refine g_lst hc (by walk_at "om") (by exact fm [_, _, _] [] [.nle (.v 0) (.l 3), .nle (.v 1) (.v 0), .nlt (.v 2) (.v 1)] (.ile (.a (.l 0) (.k (.v 2))) (.l 1000000)) [[1, 1, 1, 1]] rfl hm hu hv) (v := q (A v v)) (by simpa using rowOf_get (by exact fm [_, _, _] [] [.nle (.v 0) (.v 1), .nlt (.v 2) (.v 0)] (.nlt (.v 2) (.v 1)) [[1, 1, 1]] rfl hu hv)) ?_
    walk_at "py"
    have hsz : Sz (v * (2 + 1) + 1) (sm v fun t => A t t) := Sz.sm fun u hu => sa u u (by exact fm [_, _, _, _] [] [.nle (.v 0) (.v 1), .nlt (.v 2) (.v 0), .nlt (.v 3) (.v 2)] (.nlt (.v 3) (.v 1)) [[1, 1, 1, 1]] rfl (by assumption) hv hu) (by exact fm [_, _, _, _] [] [.nle (.v 0) (.v 1), .nlt (.v 2) (.v 0), .nlt (.v 3) (.v 2)] (.nlt (.v 3) (.v 1)) [[1, 1, 1, 1]] rfl (by assumption) hv hu)
    refine radd_wp (hsz.mono (by exact fm [_, _, _, _] [] [.nle (.v 0) (.l 3), .nle (.v 1) (.v 0), .neq (.v 2) (.l 900), .nlt (.v 3) (.v 1)] (.nle (.a (.r (.v 3) 3) (.l 1)) (.v 2)) [[3, 3, 0, 1, 3, 1]] rfl hm hu hlim hv)) ((sa v v (by exact fm [_, _, _] [] [.nle (.v 0) (.v 1), .nlt (.v 2) (.v 0)] (.nlt (.v 2) (.v 1)) [[1, 1, 1]] rfl hu hv) (by exact fm [_, _, _] [] [.nle (.v 0) (.v 1), .nlt (.v 2) (.v 0)] (.nlt (.v 2) (.v 1)) [[1, 1, 1]] rfl hu hv)).mono (by walk_at "om")) ?_
    walk_at "py"
    exact ⟨rfl, by walk_at "lk", by walk_at "lk", by walk_at "lk"⟩
  rintro V σ' ⟨rfl, g1, g2, g3⟩
  refine ⟨nx_rng_none (by walk_at "om"), ?_⟩
  repeat walk_at "back"
  walk_at "py"
  refine ⟨fun _ => ?_, fun hc => ?_⟩
  · repeat walk_at "back"
    exact h _ le11
  have hs1 : hs = true := by cases hs with
    | true => rfl
    | false => cases hc
  have hmk := hst hs1
  subst hmk
  rw [hut hs1] at g3
  walk_at "py"
  refine trace_wp (ka := 2) hA₁ (by walk_at "om") sa (by walk_at "om") (by exact fm [_, _] [] [.nle (.v 0) (.l 3), .neq (.v 1) (.l 900)] (.nle (.a (.r (.v 0) 3) (.l 1)) (.v 1)) [[3, 0, 1, 1]] rfl hm hlim) ?_
  walk_at "py"
  refine ⟨_, cmp_q, ?_⟩
  have e : (trc m A = sm m fun t => A t t) := rfl
  rw [decide_eq_true e]
  repeat walk_at "back"
  exact h _ le11
end
end
section

noncomputable def F_whole : {d : Fn // fnOf "whole_solutions" = some d} := by refine ⟨?_, ?_⟩; rotate_left; conv => lhs; whnf
noncomputable def F_law : {d : Fn // fnOf "law" = some d} := by refine ⟨?_, ?_⟩; rotate_left; conv => lhs; whnf
theorem lawFn_eq : lawFn = F_law.1 := by
  unfold lawFn
  repeat walk_at "back"
  exact Option.some.inj ((Option.some_get _).trans F_law.2)

section
variable {n : Nat} {σ : St} {Q : PV → St → Prop}
theorem whole_wx {a c : Nat} {l r : List PV} {w : PV} (ha : σ[a]? = some l) (hc : σ[c]? = some r) (hl : l.length ≤ 100) (hr : r.length ≤ 100) (hne : l.length ≠ r.length) {Q : St → Prop} (h : Q σ) : Wx ((ev (n + 40)).c "whole_solutions" [.lst a, .lst c, w] σ) "shape" Q := by
  have hcap : cap = 4000 := rfl
  refine cx_call F_whole.2 (sx_start (ssx_here (sx_expr (ex_call ?_ (by with_unfolding_all rfl) (by with_unfolding_all rfl) (by with_unfolding_all rfl)))))
  walk_at "py"
  refine bi_len ha (by walk_at "om") ?_
  walk_at "py"
  refine bi_len hc (by walk_at "om") ?_
  walk_at "py"
  rw [show ((l.length : Int) == (r.length : Int)) = false by simp; exact fm [_, _] [] [.no (.neq (.v 0) (.v 1))] (.no (.ieq (.k (.v 0)) (.k (.v 1)))) [[1, 1], [1, 0, 1]] rfl hne]
  repeat walk_at "back"
  exact need_wx (by decide +kernel) h

theorem toD_tup {σ : St} {k : Nat} {a b : PV} {x y : PyData} (ha : toD σ k a = some x) (hb : toD σ k b = some y) : toD σ (k + 1) (.tup [a, b]) = some (.tuple [x, y]) := by
  show (listD (toD σ k) [a, b]).map PyData.tuple = _
  rw [listD_cons ha (listD_cons hb (show listD (toD σ k) [] = some [] from rfl))]; rfl
theorem toD_none {σ : St} {k : Nat} : toD σ (k + 1) .none = some .none := rfl
theorem cmp_tup_str {σ : St} {u w : PV} {k r : Nat} {B : Nat → Nat → Rat} (hu : u = .none ∨ ∃ g, IsRow σ u k g) (hw : IsMat σ w r k B) : cmp .Eq (.tup [u, w]) (.str "shape") σ = some false := by
  have hu' : ∃ x, toD σ 7 u = some x := by
    rcases hu with rfl | ⟨g, hg⟩
    · repeat walk_at "back"
      exact ⟨_, rfl⟩
    · repeat walk_at "back"
      exact ⟨_, toD_row (k := 5) hg⟩
  obtain ⟨x, hx⟩ := hu'
  have h := pyEq_of (toD_tup hx (toD_mat (k := 4) hw)) toD_shape
  show pyEq σ (.tup [u, w]) (.str "shape") = _
  rw [h]; simp [PyData.eqv]
theorem cmp_two_mats {σ : St} {a b c d : PV} {m n m' n' : Nat} {A B : Nat → Nat → Rat} (ha : IsMat σ a m n A) (hb : IsMat σ b m' n' B) (hc : IsMat σ c m n A) (hd : IsMat σ d m' n' B) : cmp .Eq (.tup [a, b]) (.tup [c, d]) σ = some true := by
  have h := pyEq_of (toD_tup (toD_mat (k := 4) ha) (toD_mat (k := 4) hb)) (toD_tup (toD_mat (k := 4) hc) (toD_mat (k := 4) hd))
  show pyEq σ (.tup [a, b]) (.tup [c, d]) = _
  rw [h]
  simp only [PyData.eqv, PyData.eqvAll]
  have e1 := eqv_rows (m := m) (n := n) (M := A)
  have e2 := eqv_rows (m := m') (n := n') (M := B)
  simp only [PyData.eqv] at e1 e2
  rw [e1, e2]; rfl
theorem cmp_is {σ : St} {v : PV} {no : Bool} (h : isNone v = some no) : cmp .Is v .none σ = some no := by
  cases v <;> first | exact h | cases h
theorem cmp_isnot {σ : St} {v : PV} {no : Bool} (h : isNone v = some no) : cmp .IsNot v .none σ = some (!no) := by
  have e : cmpVals .IsNot v .none σ = some (!no) := by show (isNone v).map (!·) = _; rw [h]; rfl
  cases v <;> first | exact e | cases h

end
end
section


structure Fo (σ : St) (a b ka kb m₁ k₁ m₂ k₂ : Nat) (A B : Nat → Nat → Rat) : Prop where
  a : IsMat σ (.lst a) m₁ k₁ A
  b : IsMat σ (.lst b) m₂ k₂ B
  ka : IsMat σ (.lst ka) m₁ k₁ A
  kb : IsMat σ (.lst kb) m₂ k₂ B
theorem Fo.le {σ σ' : St} {a b ka kb m₁ k₁ m₂ k₂ A B} (f : Fo σ a b ka kb m₁ k₁ m₂ k₂ A B) (l : Le σ σ') : Fo σ' a b ka kb m₁ k₁ m₂ k₂ A B := ⟨f.a.le l, f.b.le l, f.ka.le l, f.kb.le l⟩
theorem Fo.lf {σ σ' : St} {c s t : Nat} {ns : List Int} {a b ka kb m₁ k₁ m₂ k₂ A B} (f : Fo σ a b ka kb m₁ k₁ m₂ k₂ A B) (h : Bx c s ns t σ) (l : Lf c σ σ') : Fo σ' a b ka kb m₁ k₁ m₂ k₂ A B := ⟨h.mat l f.a, h.mat l f.b, h.mat l f.ka, h.mat l f.kb⟩

theorem law_ws {ns ms : List Int} (hms : ms.length ≤ 40) : Ws ((ev 120).s F_law.1.body.tail ⟨F_law.1.scope.names, [("box", .lst 2)], true⟩ [ns.map .int, ms.map .int, [.lst 1, .int 0]]) (fun fl _ _ => fl = .ret (.bool true)) := by
  have hcap : cap = 4000 := rfl
  have hb : Bx 2 1 ms 0 [ns.map .int, ms.map .int, [.lst 1, .int 0]] := ⟨rfl, rfl⟩
  generalize ([ns.map .int, ms.map .int, [.lst 1, .int 0]] : St) = σ at hb ⊢
  walk_at "py"
  refine matrix_wp hb (by walk_at "om") hms fun p₁ m₁ k₁ A t₁ σ₁ lf₁ hb₁ ht₁ hA h0A hm₁ hk₁ sA => ?_
  walk_at "py"
  refine matrix_wp hb₁ (by walk_at "om") hms fun p₂ m₂ k₂ B t₂ σ₂ lf₂ hb₂ ht₂ hB h0B hm₂ hk₂ sB => ?_
  replace hA := hb₁.mat lf₂ hA
  obtain ⟨a, la, rfl, ha, hla⟩ := id hA
  obtain ⟨b, lb, rfl, hb', hlb⟩ := id hB
  have hlena := hla.1
  have hlenb := hlb.1
  replace hb := hb₂
  have ht : t₂ ≤ 40 := by exact fm [_, _] [] [.nle (.v 0) (.l 20), .nle (.v 1) (.a (.v 0) (.l 20))] (.nle (.v 1) (.l 40)) [[1, 1, 1]] rfl ht₁ ht₂
  clear hb₁ lf₁ lf₂ hb₂ ht₁ ht₂
  walk_at "py"
  refine comp_lst (fun i x σ' => IsRow σ' x k₁ (A i)) (fun i x _ _ l hx => hx.le l) ha (by walk_at "om") (by first | exact .inl rfl | exact .inr rfl) (fun i v V' σ₁ hi hle hp => ?_) (fun xs σ₃ hle hlen hxs => ?_)
  · obtain ⟨_, c, rfl, hc⟩ := hla.get hi
    walk_at "py"
    refine bi_list (hle _ _ hc) (by rw [rowOf_len]; exact fm [_, _] [] [.neq (.v 0) (.l 4000), .nle (.v 1) (.l 3)] (.nle (.v 1) (.v 0)) [[0, 1, 1, 1]] rfl hcap hk₁) ?_
    intro j σ₃ le₃ new at₃
    repeat walk_at "back"
    exact ⟨le₃, j, rfl, at₃⟩
  refine ⟨by walk_at "om", ?_⟩
  intro ka σ₄ le₄ new₄ at₄
  have hKA : IsMat σ₄ (.lst ka) m₁ k₁ A := ⟨ka, xs, rfl, at₄, by walk_at "om", fun i hi => by obtain ⟨x, e, hx⟩ := hxs i (by walk_at "om"); exact ⟨x, e, hx.le le₄⟩⟩
  have le4 := hle.trans le₄
  clear hxs hlen at₄ new₄ le₄ hle
  walk_at "py"
  refine comp_lst (fun i x σ' => IsRow σ' x k₂ (B i)) (fun i x _ _ l hx => hx.le l) (le4 _ _ hb') (by walk_at "om") (by first | exact .inl rfl | exact .inr rfl) (fun i v V' σ₁ hi hle hp => ?_) (fun ys σ₃ hle hlen hxs => ?_)
  · obtain ⟨_, c, rfl, hc⟩ := (hlb.le le4).get hi
    walk_at "py"
    refine bi_list (hle _ _ hc) (by rw [rowOf_len]; exact fm [_, _] [] [.neq (.v 0) (.l 4000), .nle (.v 1) (.l 3)] (.nle (.v 1) (.v 0)) [[0, 1, 1, 1]] rfl hcap hk₂) ?_
    intro j σ₃ le₃ new at₃
    repeat walk_at "back"
    exact ⟨le₃, j, rfl, at₃⟩
  refine ⟨by walk_at "om", ?_⟩
  intro kb σ₅ le₅ new₅ at₅
  have hKB : IsMat σ₅ (.lst kb) m₂ k₂ B := ⟨kb, ys, rfl, at₅, by walk_at "om", fun i hi => by obtain ⟨x, e, hx⟩ := hxs i (by walk_at "om"); exact ⟨x, e, hx.le le₅⟩⟩
  replace hKA := hKA.le (hle.trans le₅)
  have le5 := le4.trans (hle.trans le₅)
  replace hA := hA.le le5
  replace hB := hB.le le5
  replace ha := le5 _ _ ha
  replace hb' := le5 _ _ hb'
  replace hla := hla.le le5
  replace hlb := hlb.le le5
  replace hb := hb.le le5
  clear hxs hlen at₅ new₅ le₅ hle le4 le5
  walk_at "py"
  refine comp_pure ["some"] 2 (fun j => if j = 0 then .lst a else .lst b) (fun j x _ => x = if j = 0 then .tup [.int m₁, .int k₁] else .tup [.int m₂, .int k₂]) (fun j x _ _ _ h => h) (by exact fm [_] [] [.neq (.v 0) (.l 4000)] (.nlt (.l 2) (.v 0)) [[0, 1, 1]] rfl hcap) (fun σ' le => ⟨fun j hj => ?_, rfl⟩) (fun j V' => ⟨_, al_name (by first | exact .inl rfl | exact .inr rfl), fun V₀ h => h.upd (by rfl) _⟩) (fun j V' V₁ σ₆ hj hle hp e => ?_) (fun xs σ₆ le₆ hlen hxs => ?_)
  · have : j = 0 ∨ j = 1 := by exact fm [_] [] [.nlt (.v 0) (.l 2)] (.or (.neq (.v 0) (.l 0)) (.neq (.v 0) (.l 1))) [[1, 0, 1], [0, 1, 1], [0, 1], [0, 1]] rfl hj
    rcases this with rfl | rfl <;> rfl
  · rw [al_name (by first | exact .inl rfl | exact .inr rfl)] at e
    cases e
    obtain ⟨c, m, k, C, ec, hC, h0, hm, hk, et⟩ : ∃ c m k C, (if j = 0 then PV.lst a else .lst b) = .lst c ∧ IsMat σ₆ (.lst c) m k C ∧ (m = 0 ↔ k = 0) ∧ m ≤ 3 ∧ k ≤ 3 ∧ (if j = 0 then PV.tup [.int m₁, .int k₁] else .tup [.int m₂, .int k₂]) = .tup [.int m, .int k] := by
      by_cases hj0 : j = 0
      · subst hj0; exact ⟨a, m₁, k₁, A, rfl, hA.le hle, h0A, hm₁, hk₁, rfl⟩
      · rw [if_neg hj0, if_neg hj0]; exact ⟨b, m₂, k₂, B, rfl, hB.le hle, h0B, hm₂, hk₂, rfl⟩
    rw [ec, et]
    obtain ⟨c', l, e1, hc, hl⟩ := id hC
    cases e1
    have hlen := hl.1
    clear ec et hp
    walk_at "py"
    refine bi_leneq hc hlen (by walk_at "om") ?_
    walk_at "py"
    refine Wp.mono (Q := fun w σ' => w = .int k ∧ Le σ₆ σ') (e_ife ?_) ?_
    · walk_at "py"
      intro ei σ₂ le₂ newe ate
      refine ⟨_, cmp_mat_nil (hC.le le₂) ate, ?_⟩
      repeat walk_at "back"
      refine ⟨fun hc' => ?_, fun hc' => ?_⟩
      · have hm0 : 0 < m := by simp at hc'; exact fm [_] [] [.no (.neq (.v 0) (.l 0))] (.nlt (.l 0) (.v 0)) [[1, 1], [1]] rfl hc'
        obtain ⟨w, hw, d, rfl, hd⟩ := hl.2 0 hm0
        walk_at "py"
        refine g_lst (le₂ _ _ hc) (by decide) (by decide) (by simpa using hw) ?_
        walk_at "py"
        refine bi_leneq (le₂ _ _ hd) rowOf_len (by rw [rowOf_len]; exact fm [_, _] [] [.neq (.v 0) (.l 4000), .nle (.v 1) (.l 3)] (.nle (.v 1) (.v 0)) [[0, 1, 1, 1]] rfl hcap hk) ?_
        repeat walk_at "back"
        exact ⟨rfl, le₂⟩
      · have hc' : m = 0 := by simp at hc'; exact fm [_] [] [.neq (.v 0) (.l 0)] (.neq (.v 0) (.l 0)) [[1, 0, 1], [0, 0, 1]] rfl hc'
        walk_at "py"
        rw [h0.mp hc']
        repeat walk_at "back"
        exact ⟨rfl, le₂⟩
    rintro w σ' ⟨rfl, le'⟩
    walk_at "py"
    exact ⟨le', rfl⟩
  refine ⟨by exact fm [_, _] [] [.neq (.v 0) (.l 4000), .neq (.v 1) (.l 2)] (.nle (.v 1) (.v 0)) [[0, 1, 1, 0, 1]] rfl hcap hlen, ?_⟩
  intro sh σ₇ le₇ new₇ at₇
  have ex : xs = [.tup [.int m₁, .int k₁], .tup [.int m₂, .int k₂]] := by
    obtain ⟨x, e1, rfl⟩ := hxs 0 (by exact fm [] [] [] (.nlt (.l 0) (.l 2)) [[1]] rfl)
    obtain ⟨y, e2, rfl⟩ := hxs 1 (by walk_at "om")
    match xs, hlen with
    | [x, y], _ => simp at e1 e2; rw [e1, e2]
  subst ex
  have le7 := le₆.trans le₇
  replace hA := hA.le le7
  replace hB := hB.le le7
  replace ha := le7 _ _ ha
  replace hb' := le7 _ _ hb'
  replace hla := hla.le le7
  replace hlb := hlb.le le7
  replace hb := hb.le le7
  replace hKA := hKA.le le7
  replace hKB := hKB.le le7
  clear hxs hlen new₇ le₇ le7 le₆
  walk_at "py"
  have v1 : At (upd "shapes" (.lst sh) (upd "kept" (.tup [.lst ka, .lst kb]) (upd "other" (.lst b) (upd "one" (.lst a) [("box", .lst 2)])))) "one" (.lst a) := by walk_at "lk"
  have v2 : At (upd "shapes" (.lst sh) (upd "kept" (.tup [.lst ka, .lst kb]) (upd "other" (.lst b) (upd "one" (.lst a) [("box", .lst 2)])))) "other" (.lst b) := by walk_at "lk"
  have v3 : At (upd "shapes" (.lst sh) (upd "kept" (.tup [.lst ka, .lst kb]) (upd "other" (.lst b) (upd "one" (.lst a) [("box", .lst 2)])))) "kept" (.tup [.lst ka, .lst kb]) := by walk_at "lk"
  have v4 : At (upd "shapes" (.lst sh) (upd "kept" (.tup [.lst ka, .lst kb]) (upd "other" (.lst b) (upd "one" (.lst a) [("box", .lst 2)])))) "box" (.lst 2) := by walk_at "lk"
  have v5 : At (upd "shapes" (.lst sh) (upd "kept" (.tup [.lst ka, .lst kb]) (upd "other" (.lst b) (upd "one" (.lst a) [("box", .lst 2)])))) "shapes" (.lst sh) := by walk_at "lk"
  generalize upd "shapes" (.lst sh) (upd "kept" (.tup [.lst ka, .lst kb]) (upd "other" (.lst b) (upd "one" (.lst a) [("box", .lst 2)]))) = V at v1 v2 v3 v4 v5 ⊢
  have F : Fo σ₇ a b ka kb m₁ k₁ m₂ k₂ A B := ⟨hA, hB, hKA, hKB⟩
  have hlim : lim = 900 := rfl
  clear hKA hKB hA hB
  refine Wp.mono (Q := fun w σ' => Le σ₇ σ' ∧ (m₁ = m₂ ∧ k₁ = k₂ → IsMat σ' w m₁ k₁ (madd A B)) ∧ (¬ (m₁ = m₂ ∧ k₁ = k₂) → w = .str "shape")) (e_ife ?_) ?_
  · walk_at "py"
    refine g_lst at₇ (by decide) (by decide) rfl ?_
    walk_at "py"
    refine g_lst at₇ (by decide) (by decide) rfl ?_
    refine ⟨_, cmp_pair, ?_⟩
    repeat walk_at "back"
    refine ⟨fun hc => ?_, fun hc => ?_⟩
    · have hc : m₁ = m₂ ∧ k₁ = k₂ := by simp at hc; exact fm [_, _, _, _] [] [.an (.ieq (.k (.v 0)) (.k (.v 1))) (.ieq (.k (.v 2)) (.k (.v 3)))] (.an (.neq (.v 0) (.v 1)) (.neq (.v 2) (.v 3))) [[1, 0, 0, 0, 1], [0, 1, 0, 0, 1], [0, 0, 1, 0, 1], [0, 0, 0, 1, 1]] rfl hc
      obtain ⟨rfl, rfl⟩ := hc
      walk_at "py"
      refine comp_enm (fun i x σ' => IsRow σ' x k₁ (madd A B i)) (fun i x _ _ l hx => hx.le l) ha (by walk_at "om") (by first | exact .inl rfl | exact .inr rfl) (by first | exact .inl rfl | exact .inr rfl) (fun i v V' σ₁ hi hle hp => ?_) (fun xs σ₂ hle hlen hxs => ?_)
      · obtain ⟨hi', c, rfl, hc⟩ := hla.get hi
        have h1 : At V' "other" (.lst b) := hp _ _ rfl (by walk_at "lk")
        walk_at "py"
        refine comp_enm (fun j x σ' => x = q (madd A B i j)) (fun j x _ _ l hx => hx) (hle _ _ hc) (by rw [rowOf_len]; exact fm [_, _] [] [.neq (.v 0) (.l 4000), .nle (.v 1) (.l 3)] (.nlt (.v 1) (.v 0)) [[0, 1, 1, 1]] rfl hcap hk₁) (by first | exact .inl rfl | exact .inr rfl) (by first | exact .inl rfl | exact .inr rfl) (fun j v V₂ σ₂ hj hle₂ hp₂ => ?_) (fun xs σ₂ hle₂ hlen hxs => ?_)
        · have hjk : j < k₁ := by have := (List.getElem?_eq_some_iff.mp hj).1; rwa [rowOf_len] at this
          rw [rowOf_get hjk] at hj
          cases hj
          have h2 : At V₂ "line" (.int i) := hp₂ _ _ rfl (by walk_at "lk")
          have h3 : At V₂ "other" (.lst b) := hp₂ _ _ rfl (by walk_at "lk")
          obtain ⟨w, hw, d, rfl, hd⟩ := hlb.2 i hi'
          walk_at "py"
          refine g_lst (hle₂ _ _ (hle _ _ hb')) (by walk_at "om") (by walk_at "om") (by simpa using hw) ?_
          walk_at "py"
          refine g_lst (hle₂ _ _ (hle _ _ hd)) (by walk_at "om") (by walk_at "om") (v := q (B i j)) (by simpa using rowOf_get hjk) ?_
          walk_at "py"
          refine radd_wp ((sA i j hi' hjk).mono (by walk_at "om")) ((sB i j hi' hjk).mono (by walk_at "om")) ?_
          repeat walk_at "back"
          exact ⟨Le.refl _, rfl⟩
        · rw [rowOf_len] at hlen hxs
          have hr : xs = rowOf k₁ (madd A B i) := rowOf_ext hlen fun j hj => by obtain ⟨x, e, hx⟩ := hxs j hj; rw [e, hx]
          refine ⟨by walk_at "om", ?_⟩
          intro k σ₃ le₃ new at₃
          repeat walk_at "back"
          exact ⟨hle₂.trans le₃, k, rfl, by rw [at₃, hr]⟩
      · refine ⟨by walk_at "om", ?_⟩
        intro j σ₃ le₃ new at₃
        repeat walk_at "back"
        exact ⟨hle.trans le₃, fun _ => ⟨j, xs, rfl, at₃, by walk_at "om", fun i hi => by obtain ⟨x, e, hx⟩ := hxs i (by walk_at "om"); exact ⟨x, e, hx.le le₃⟩⟩, fun z => absurd ⟨rfl, rfl⟩ z⟩
    · have hc : ¬ (m₁ = m₂ ∧ k₁ = k₂) := fun z => by rw [z.1, z.2] at hc; simp at hc
      walk_at "py"
      exact ⟨Le.refl _, fun z => absurd z hc, fun _ => rfl⟩
  rintro pd σ₁ ⟨le₁, hd1, hd2⟩
  replace F := F.le le₁
  replace hb := hb.le le₁
  replace at₇ := le₁ _ _ at₇
  clear ha hb' hla hlb hlena hlenb le₁
  refine as_name (set_local (by with_unfolding_all rfl)) ?_
  have w1 : At (upd "due" pd V) "one" (.lst a) := by walk_at "lk"
  have w2 : At (upd "due" pd V) "other" (.lst b) := by walk_at "lk"
  have w3 : At (upd "due" pd V) "kept" (.tup [.lst ka, .lst kb]) := by walk_at "lk"
  have w4 : At (upd "due" pd V) "box" (.lst 2) := by walk_at "lk"
  have w5 : At (upd "due" pd V) "shapes" (.lst sh) := by walk_at "lk"
  have w6 : At (upd "due" pd V) "due" pd := by walk_at "lk"
  generalize upd "due" pd V = V₁ at w1 w2 w3 w4 w5 w6 ⊢
  clear v1 v2 v3 v4 v5
  repeat walk_at "back"
  refine ss_cons (Ws.mono (Q := fun fl V' σ' => fl = .next ∧ V' = V₁ ∧ Le σ₁ σ') (s_if (t_cmp ?_ (by with_unfolding_all rfl))) ?_)
  · by_cases hh : m₁ = m₂ ∧ k₁ = k₂
    · replace hd1 := hd1 hh
      obtain ⟨rfl, rfl⟩ := hh
      walk_at "asked"
      walk_at "py"
      refine mat_add_wp (ka := 2) (kb := 2) F.a F.b h0A.mp (by walk_at "om") (by walk_at "om") sA sB (by walk_at "om") (by walk_at "om") fun r σ₆ le₆ hr => ?_
      walk_at "py"
      refine ⟨_, (cmp_mat hr (hd1.le le₆) fun i j _ _ => rfl).1, ?_⟩
      repeat walk_at "back"
      refine ⟨fun hc => absurd hc (by decide), fun _ => ?_⟩
      walk_at "py"
      exact le₆
    · replace hd2 := hd2 hh
      subst hd2
      walk_at "askedX"
      refine ex_call ?_ (by with_unfolding_all rfl) (by with_unfolding_all rfl) (by with_unfolding_all rfl)
      walk_at "py"
      refine mat_add_wx F.a F.b h0A.mp h0B.mp (by walk_at "om") (by walk_at "om") (by walk_at "om") (by walk_at "om") hh ?_
      walk_at "py"
      refine ⟨_, cmp_str_ne, ?_⟩
      repeat walk_at "back"
      refine ⟨fun hc => absurd hc (by decide), fun _ => ?_⟩
      walk_at "py"
      exact Le.refl _
  rintro fl V' σ₂ ⟨rfl, rfl, le₂⟩
  replace F := F.le le₂
  replace hb := hb.le le₂
  replace at₇ := le₂ _ _ at₇
  clear hd1 hd2 w6 le₂
  repeat walk_at "back"
  refine ss_cons (s_assign ?_ (by with_unfolding_all rfl))
  refine Wp.mono (Q := fun w σ' => Le σ₂ σ' ∧ (k₁ = m₂ → IsMat σ' w m₁ k₂ (mmul k₁ A B)) ∧ (k₁ ≠ m₂ → w = .str "shape")) (e_ife ?_) ?_
  · walk_at "py"
    refine g_lst at₇ (by decide) (by decide) rfl ?_
    walk_at "py"
    refine g_tup (by decide) (by decide) rfl ?_
    walk_at "py"
    refine g_lst at₇ (by decide) (by decide) rfl ?_
    walk_at "py"
    refine g_tup (by decide) (by decide) rfl ?_
    walk_at "py"
    refine ⟨fun hc => ?_, fun hc => ?_⟩
    · have hc : k₁ = m₂ := by simp at hc; exact fm [_, _] [] [.ieq (.k (.v 0)) (.k (.v 1))] (.neq (.v 0) (.v 1)) [[1, 0, 1], [0, 1, 1]] rfl hc
      subst hc
      walk_at "py"
      refine product_wp (ka := 2) (kb := 2) F.a F.b h0B.mp (by walk_at "om") (by walk_at "om") (by walk_at "om") sA sB (by walk_at "om") (by walk_at "om") (by exact fm [_, _] [] [.nle (.v 0) (.l 3), .neq (.v 1) (.l 900)] (.nle (.a (.r (.v 0) 5) (.l 1)) (.v 1)) [[5, 0, 1, 1]] rfl hk₁ hlim) fun r σ₃ le₃ hr => ?_
      repeat walk_at "back"
      exact ⟨le₃, fun _ => hr, fun z => absurd rfl z⟩
    · have hc : k₁ ≠ m₂ := by simp at hc; exact fm [_, _] [] [.no (.ieq (.k (.v 0)) (.k (.v 1)))] (.no (.neq (.v 0) (.v 1))) [[1, 1], [1, 0, 1]] rfl hc
      walk_at "py"
      exact ⟨Le.refl _, fun z => absurd z hc, fun _ => rfl⟩
  rintro pd σ₃ ⟨le₃, hd1, hd2⟩
  replace F := F.le le₃
  replace hb := hb.le le₃
  clear at₇ le₃
  refine as_name (set_local (by with_unfolding_all rfl)) ?_
  have v1 : At (upd "due" pd V') "one" (.lst a) := by walk_at "lk"
  have v2 : At (upd "due" pd V') "other" (.lst b) := by walk_at "lk"
  have v3 : At (upd "due" pd V') "kept" (.tup [.lst ka, .lst kb]) := by walk_at "lk"
  have v4 : At (upd "due" pd V') "box" (.lst 2) := by walk_at "lk"
  have v6 : At (upd "due" pd V') "due" pd := by walk_at "lk"
  generalize upd "due" pd V' = V₁ at v1 v2 v3 v4 v6 ⊢
  clear w1 w2 w3 w4 w5
  repeat walk_at "back"
  refine ss_cons (Ws.mono (Q := fun fl V' σ' => fl = .next ∧ V' = V₁ ∧ Le σ₃ σ') (s_if (t_cmp ?_ (by with_unfolding_all rfl))) ?_)
  · by_cases hh : k₁ = m₂
    · replace hd1 := hd1 hh
      subst hh
      walk_at "asked"
      walk_at "py"
      refine mat_mul_wp (ka := 2) (kb := 2) F.a F.b h0A.mp h0B.mp (by walk_at "om") (by walk_at "om") (by walk_at "om") sA sB (by walk_at "om") (by walk_at "om") (by exact fm [_, _] [] [.nle (.v 0) (.l 3), .neq (.v 1) (.l 900)] (.nle (.a (.r (.v 0) 5) (.l 1)) (.v 1)) [[5, 0, 1, 1]] rfl hk₁ hlim) fun r σ₆ le₆ hr => ?_
      walk_at "py"
      refine ⟨_, (cmp_mat hr (hd1.le le₆) fun i j _ _ => rfl).1, ?_⟩
      repeat walk_at "back"
      refine ⟨fun hc => absurd hc (by decide), fun _ => ?_⟩
      walk_at "py"
      exact le₆
    · replace hd2 := hd2 hh
      subst hd2
      walk_at "askedX"
      refine ex_call ?_ (by with_unfolding_all rfl) (by with_unfolding_all rfl) (by with_unfolding_all rfl)
      walk_at "py"
      refine mat_mul_wx F.a F.b h0A.mp (by walk_at "om") (by walk_at "om") (by walk_at "om") hh ?_
      walk_at "py"
      refine ⟨_, cmp_str_ne, ?_⟩
      repeat walk_at "back"
      refine ⟨fun hc => absurd hc (by decide), fun _ => ?_⟩
      walk_at "py"
      exact Le.refl _
  rintro fl V' σ₄ ⟨rfl, rfl, le₄⟩
  replace F := F.le le₄
  replace hb := hb.le le₄
  clear hd1 hd2 v6 le₄
  repeat walk_at "back"
  refine ss_cons (Ws.mono (Q := fun fl V'' σ' => fl = .next ∧ V'' = V' ∧ Fo σ' a b ka kb m₁ k₁ m₂ k₂ A B ∧ ∃ t', Bx 2 1 ms t' σ' ∧ t' ≤ 50) (s_if ?_) ?_)
  · walk_at "py"
    refine single_wp hb (by walk_at "om") hms F.a h0A hm₁ hk₁ sA fun t₃ σ₅ lf₅ hb₅ ht₅ => ?_
    replace F := F.lf hb lf₅
    walk_at "py"
    refine ⟨fun hc => (by cases hc), fun _ => ?_⟩
    walk_at "py"
    refine single_wp hb₅ (by exact fm [_, _] [] [.nle (.v 0) (.l 40), .nle (.v 1) (.a (.v 0) (.l 1))] (.nle (.v 1) (.l 900)) [[1, 1, 1]] rfl ht ht₅) hms F.b h0B hm₂ hk₂ sB fun t₄ σ₆ lf₆ hb₆ ht₆ => ?_
    replace F := F.lf hb₅ lf₆
    walk_at "py"
    refine ⟨fun hc => (by cases hc), fun _ => ?_⟩
    walk_at "py"
    refine ⟨fun hc => (by cases hc), fun _ => ?_⟩
    walk_at "py"
    exact ⟨F, t₄, hb₆, by exact fm [_, _, _] [] [.nle (.v 0) (.l 40), .nle (.v 1) (.a (.v 0) (.l 1)), .nle (.v 2) (.a (.v 1) (.l 1))] (.nle (.v 2) (.l 50)) [[1, 1, 1, 1]] rfl ht ht₅ ht₆⟩
  rintro fl V'' σ₅ ⟨rfl, rfl, F, t₃, hb, ht₃⟩
  walk_at "py"
  intro z1 σ₆ le₆ new₆ at₆
  have hz : z1 ≠ 2 := ne_of_new new₆ hb.box
  walk_at "py"
  refine take_wp (hb.le le₆) (by walk_at "om") hms (by decide) fun d σ₇ hd lf₇ hb₇ => ?_
  replace F := (F.le le₆).lf (hb.le le₆) lf₇
  have at₇ := lf₇ _ _ hz at₆
  refine b_rep at₇ (by walk_at "om") (by exact fm [_] [] [.ilt (.k (.v 0)) (.l 4)] (.ile (.k (.v 0)) (.l 1000)) [[1, 1]] rfl hd) ?_
  intro wl σ₈ le₈ new₈ at₈
  rw [Int.toNat_natCast, ← q0, rowOf_rep] at at₈
  replace F := F.le le₈
  replace hb := hb₇.le le₈
  clear at₆ at₇ le₆ le₈ lf₇ hb₇ new₆ new₈ hz
  refine as_name (set_cell (by with_unfolding_all rfl)) ?_
  have w1 : At (upd "wanted" (.lst wl) V'') "one" (.lst a) := by walk_at "lk"
  have w2 : At (upd "wanted" (.lst wl) V'') "other" (.lst b) := by walk_at "lk"
  have w3 : At (upd "wanted" (.lst wl) V'') "kept" (.tup [.lst ka, .lst kb]) := by walk_at "lk"
  have w4 : At (upd "wanted" (.lst wl) V'') "box" (.lst 2) := by walk_at "lk"
  have w5 : At (upd "wanted" (.lst wl) V'') "wanted" (.lst wl) := by walk_at "lk"
  generalize upd "wanted" (.lst wl) V'' = V₁ at w1 w2 w3 w4 w5 ⊢
  clear v1 v2 v3 v4
  repeat walk_at "back"
  refine ss_cons (Ws.mono (Q := fun fl V' σ' => fl = .next ∧ V' = V₁ ∧ Le σ₈ σ') (s_if (t_cmp ?_ (by with_unfolding_all rfl))) ?_)
  · obtain ⟨a', la, ea, ha, hla⟩ := id F.a
    cases ea
    have hlena := hla.1
    refine e_cmp ?_ (by with_unfolding_all rfl)
    by_cases hh : m₁ = d
    · subst hh
      walk_at "asked"
      walk_at "py"
      refine solve_wp F.a at₈ h0A.mp hm₁ (by walk_at "om") sA fun u w σ₉ r C le₉ hu hw => ?_
      walk_at "py"
      refine ⟨_, cmp_tup_str hu hw, ?_⟩
      walk_at "py"
      refine bi_leneq (le₉ _ _ at₈) rowOf_len (by rw [rowOf_len]; exact fm [_, _] [] [.neq (.v 0) (.l 4000), .nle (.v 1) (.l 3)] (.nle (.v 1) (.v 0)) [[0, 1, 1, 1]] rfl hcap hm₁) ?_
      walk_at "py"
      refine bi_leneq (le₉ _ _ ha) hlena (by walk_at "om") ?_
      walk_at "py"
      refine ⟨_, cmp_bool_ne, ?_⟩
      repeat walk_at "back"
      refine ⟨fun hc => (by simp at hc), fun _ => ?_⟩
      walk_at "py"
      exact le₉
    · walk_at "askedX"
      refine ex_call ?_ (by with_unfolding_all rfl) (by with_unfolding_all rfl) (by with_unfolding_all rfl)
      walk_at "py"
      refine solve_wx F.a at₈ (by walk_at "om") (by exact fm [_] [] [.ilt (.k (.v 0)) (.l 4)] (.nle (.v 0) (.l 100)) [[1, 1]] rfl hd) hh ?_
      walk_at "py"
      refine ⟨_, cmp_str_eq, ?_⟩
      walk_at "py"
      refine bi_leneq at₈ rowOf_len (by rw [rowOf_len]; exact fm [_, _] [] [.neq (.v 0) (.l 4000), .ilt (.k (.v 1)) (.l 4)] (.nle (.v 1) (.v 0)) [[0, 1, 1, 1]] rfl hcap hd) ?_
      walk_at "py"
      refine bi_leneq ha hlena (by walk_at "om") ?_
      walk_at "py"
      refine ⟨_, cmp_bool_ne, ?_⟩
      repeat walk_at "back"
      refine ⟨fun hc => ?_, fun _ => ?_⟩
      · exfalso
        simp at hc
        exact fm [_, _] [] [.no (.neq (.v 0) (.v 1)), .ieq (.k (.v 1)) (.k (.v 0))] .f [[1, 0, 1], [1, 1]] rfl hh hc
      · walk_at "py"
        repeat walk_at "back"
        exact Le.refl _
  rintro fl V' σ₁ ⟨rfl, rfl, le₁⟩
  replace F := F.le le₁
  replace hb := hb.le le₁
  clear at₈ le₁ w5
  walk_at "py"
  refine take_wp hb (by exact fm [_] [] [.nle (.v 0) (.l 50)] (.nle (.a (.v 0) (.l 1)) (.l 1000)) [[1, 1]] rfl ht₃) hms (by decide) fun d₂ σ₂ hd₂ lf₂ hb₂ => ?_
  replace F := F.lf hb lf₂
  replace hb := hb₂
  clear hb₂ lf₂
  walk_at "py"
  obtain ⟨w, ew, hw⟩ : ∃ w : Nat, (1 : Int) + (d₂ : Int) = (w : Int) ∧ (w = 1 ∨ w = 2 ∨ w = 3) := ⟨1 + d₂, by exact fm [_] [] [] (.ieq (.a (.l 1) (.k (.v 0))) (.k (.a (.l 1) (.v 0)))) [[1], [1]] rfl, by exact fm [_] [] [.ilt (.k (.v 0)) (.l 3)] (.or (.neq (.a (.l 1) (.v 0)) (.l 1)) (.or (.neq (.a (.l 1) (.v 0)) (.l 2)) (.neq (.a (.l 1) (.v 0)) (.l 3)))) [[1, 0, 0, 1], [0, 0, 1, 1], [0, 1, 1], [0, 1, 1], [0, 1], [0, 1], [0, 1], [0, 1]] rfl hd₂⟩
  rw [ew]
  intro r1 σ₃ le₃ new₃ at₃
  walk_at "py"
  refine b_rep at₃ (by walk_at "om") (by exact fm [_, _] [] [.ilt (.k (.v 0)) (.l 3), .ieq (.a (.l 1) (.k (.v 0))) (.k (.v 1))] (.ile (.k (.v 1)) (.l 1000)) [[1, 0, 1, 1]] rfl hd₂ ew) ?_
  rw [Int.toNat_natCast]
  intro rb σ₄ le₄ new₄ at₄
  replace F := F.le (le₃.trans le₄)
  replace hb := hb.le (le₃.trans le₄)
  clear at₃ new₃ le₃ le₄ new₄ ew
  have rb2 : rb ≠ 2 := fun e => by
    rw [e, hb.box] at at₄
    rcases hw with rfl | rfl | rfl <;> simp [List.replicate] at at₄
  walk_at "py"
  intro r2 σ₅ le₅ new₅ at₅
  walk_at "py"
  intro r3 σ₆ le₆ new₆ at₆
  walk_at "py"
  refine b_rep at₆ (by exact fm [_] [] [.or (.neq (.v 0) (.l 1)) (.or (.neq (.v 0) (.l 2)) (.neq (.v 0) (.l 3)))] (.ile (.l 0) (.s (.k (.v 0)) (.l 1))) [[0, 1, 1], [0, 1, 1], [0, 1, 1]] rfl hw) (by exact fm [_] [] [.or (.neq (.v 0) (.l 1)) (.or (.neq (.v 0) (.l 2)) (.neq (.v 0) (.l 3)))] (.ile (.s (.k (.v 0)) (.l 1)) (.l 1000)) [[1, 0, 1], [1, 0, 1], [1, 0, 1]] rfl hw) ?_
  intro r4 σ₇ le₇ new₇ at₇
  refine b_cat (le₇ _ _ (le₆ _ _ at₅)) at₇ (by simp; exact fm [_, _, _] [] [.neq (.v 0) (.l 4000), .or (.neq (.v 1) (.l 1)) (.or (.neq (.v 1) (.l 2)) (.neq (.v 1) (.l 3))), .or (.an (.nle (.l 1) (.v 1)) (.neq (.a (.v 2) (.l 1)) (.v 1))) (.an (.nle (.v 1) (.l 1)) (.neq (.v 2) (.l 0)))] (.nle (.a (.v 2) (.l 1)) (.v 0)) [[0, 1, 1, 0, 0, 1, 0, 1], [0, 1, 0, 0, 0, 1, 0, 1], [0, 1, 1, 0, 0, 1, 0, 1], [0, 1, 0, 0, 0, 1, 0, 1], [0, 1, 1, 0, 0, 1, 0, 1], [0, 1, 0, 0, 0, 1, 0, 1]] rfl hcap hw (subn _ _)) ?_
  intro rc σ₈ le₈ new₈ at₈
  rw [show ((w : Int) - 1).toNat = w - 1 by exact fm [_, _, _] [] [.or (.an (.ile (.l 0) (.s (.k (.v 0)) (.l 1))) (.ieq (.k (.v 1)) (.s (.k (.v 0)) (.l 1)))) (.an (.ile (.s (.k (.v 0)) (.l 1)) (.l 0)) (.neq (.v 1) (.l 0))), .or (.an (.nle (.l 1) (.v 0)) (.neq (.a (.v 2) (.l 1)) (.v 0))) (.an (.nle (.v 0) (.l 1)) (.neq (.v 2) (.l 0)))] (.neq (.v 1) (.v 2)) [[0, 1, 0, 0, 0, 1, 1], [0, 0, 1, 0, 1, 0, 1], [0, 1, 0, 1, 0, 0, 1], [0, 0, 0, 0, 1, 0, 1], [0, 1, 0, 0, 0, 0, 1], [1, 0, 0, 0, 1, 0, 1], [0, 1, 0, 0, 0, 0, 1], [0, 0, 0, 0, 1, 0, 1]] rfl (tona _) (subn _ _)] at at₈
  have le58 := le₅.trans (le₆.trans (le₇.trans le₈))
  replace F := F.le le58
  replace hb := hb.le le58
  replace at₄ := le58 _ _ at₄
  clear at₅ at₆ at₇ new₅ new₆ new₇ new₈ le₅ le₆ le₇ le₈ le58
  have rc2 : rc ≠ 2 := fun e => by rw [e, hb.box] at at₈; simp at at₈
  walk_at "py"
  intro ra σ₉ le₉ new₉ at₉
  have ra2 : ra ≠ 2 := ne_of_new new₉ hb.box
  replace F := F.le le₉
  replace hb := hb.le le₉
  replace at₄ := le₉ _ _ at₄
  replace at₈ := le₉ _ _ at₈
  clear new₉ le₉
  walk_at "py"
  refine take_wp hb (by exact fm [_] [] [.nle (.v 0) (.l 50)] (.nle (.a (.a (.v 0) (.l 1)) (.l 1)) (.l 1000)) [[1, 1]] rfl ht₃) hms (by decide) fun d₃ σ₁₀ hd₃ lf₁₀ hb₁₀ => ?_
  replace F := F.lf hb lf₁₀
  replace hb := hb₁₀
  replace at₄ := lf₁₀ _ _ rb2 at₄
  replace at₈ := lf₁₀ _ _ rc2 at₈
  replace at₉ := lf₁₀ _ _ ra2 at₉
  clear lf₁₀ hb₁₀ rb2 rc2 ra2
  walk_at "py"
  have ws1 : ∀ n, wsOk n w 1 0 true = true := by
    rcases hw with rfl | rfl | rfl
    · repeat walk_at "back"
      exact ws1
    · repeat walk_at "back"
      exact ws2
    · repeat walk_at "back"
      exact ws3
  have ws2 : ∀ n, wsOk n w 0 (d₃ : Int) ((d₃ : Int).fmod 2 == 1) = true := by
    have h4 : d₃ = 0 ∨ d₃ = 1 ∨ d₃ = 2 ∨ d₃ = 3 := by exact fm [_] [] [.ilt (.k (.v 0)) (.l 4)] (.or (.neq (.v 0) (.l 0)) (.or (.neq (.v 0) (.l 1)) (.or (.neq (.v 0) (.l 2)) (.neq (.v 0) (.l 3))))) [[1, 0, 0, 0, 1], [0, 0, 0, 1, 1], [0, 0, 1, 1], [0, 0, 1, 1], [0, 1, 1], [0, 1, 1], [0, 1, 1], [0, 1, 1], [0, 1], [0, 1], [0, 1], [0, 1], [0, 1], [0, 1], [0, 1], [0, 1]] rfl hd₃
    rcases hw with rfl | rfl | rfl <;> rcases h4 with rfl | rfl | rfl | rfl
    · repeat walk_at "back"
      exact ws10
    · repeat walk_at "back"
      exact ws11
    · repeat walk_at "back"
      exact ws12
    · repeat walk_at "back"
      exact ws13
    · repeat walk_at "back"
      exact ws20
    · repeat walk_at "back"
      exact ws21
    · repeat walk_at "back"
      exact ws22
    · repeat walk_at "back"
      exact ws23
    · repeat walk_at "back"
      exact ws30
    · repeat walk_at "back"
      exact ws31
    · repeat walk_at "back"
      exact ws32
    · repeat walk_at "back"
      exact ws33
  intro rd σ₁₁ le₁₁ new₁₁ at₁₁
  walk_at "py"
  refine ws_wp (no := true) (ws1 _) (le₁₁ _ _ at₉) (le₁₁ _ _ at₄) (le₁₁ _ _ at₈) at₁₁ (ne_of_new new₁₁ at₄) (ne_of_new new₁₁ at₈) fun v u σ₁₂ le₁₂ hv => ?_
  have le1 := le₁₁.trans le₁₂
  replace F := F.le le1
  replace at₄ := le1 _ _ at₄
  replace at₈ := le1 _ _ at₈
  replace at₉ := le1 _ _ at₉
  clear le1 le₁₁ le₁₂ at₁₁ new₁₁ hb
  walk_at "py"
  refine g_tup (by decide) (by decide) rfl ?_
  walk_at "py"
  refine ⟨_, cmp_isnot hv, ?_⟩
  repeat walk_at "back"
  refine ⟨fun hc => absurd hc (by decide), fun _ => ?_⟩
  walk_at "py"
  intro re σ₁₃ le₁₃ new₁₃ at₁₃
  walk_at "py"
  refine ws_wp (ws2 _) (le₁₃ _ _ at₉) (le₁₃ _ _ at₄) (le₁₃ _ _ at₈) at₁₃ (ne_of_new new₁₃ at₄) (ne_of_new new₁₃ at₈) fun v' u' σ₁₄ le₁₄ hv' => ?_
  have le1 := le₁₃.trans le₁₄
  replace F := F.le le1
  replace at₉ := le1 _ _ at₉
  clear le1 le₁₃ le₁₄ at₁₃ new₁₃ at₄ at₈
  walk_at "py"
  refine g_tup (by decide) (by decide) rfl ?_
  walk_at "py"
  refine ⟨_, cmp_is hv', ?_⟩
  walk_at "py"
  refine b_mod (by decide) ?_
  walk_at "py"
  refine ⟨_, cmp_bool_ne, ?_⟩
  repeat walk_at "back"
  refine ⟨fun hc => (by simp at hc), fun _ => ?_⟩
  walk_at "py"
  refine ⟨fun hc => (by cases hc), fun _ => ?_⟩
  walk_at "py"
  walk_at "askedX"
  refine ex_call ?_ (by with_unfolding_all rfl) (by with_unfolding_all rfl) (by with_unfolding_all rfl)
  walk_at "py"
  intro rf σ₁₅ le₁₅ new₁₅ at₁₅
  walk_at "py"
  refine whole_wx (le₁₅ _ _ at₉) at₁₅ (by simp) (by simp) (by simp) ?_
  walk_at "py"
  refine ⟨_, cmp_str_ne, ?_⟩
  repeat walk_at "back"
  refine ⟨fun hc => absurd hc (by decide), fun _ => ?_⟩
  replace F := F.le le₁₅
  walk_at "py"
  refine ⟨_, cmp_two_mats F.a F.b F.ka F.kb, ?_⟩
  repeat walk_at "back"
  exact rfl
theorem law_true : LawTrue := by
  intro ns h
  have hms : (ns.take 40).length ≤ 40 := by simp; exact fm [_, _] [] [.or (.an (.nle (.l 40) (.v 0)) (.neq (.v 1) (.l 40))) (.an (.nle (.v 0) (.l 40)) (.neq (.v 1) (.v 0)))] (.nle (.v 1) (.l 40)) [[0, 1, 0, 1], [1, 1, 0, 1]] rfl (minn _ _)
  obtain ⟨fv, σ', e, hq⟩ := law_ws (ns := ns) hms
  obtain ⟨fl, V⟩ := fv
  have hq : fl = .ret (.bool true) := hq
  subst hq
  refine ⟨V, σ', ?_⟩
  unfold lawPE
  rw [lawFn_eq]
  repeat walk_at "back"
  exact e
end
end Mine
end
open PySem PySem.W PyProof.Rows PySem.Calls
set_option maxRecDepth 100000
set_option maxHeartbeats 8000000 in
theorem PySem.Challenge.cw_pf0050_01_holds : PySem.Challenge.rw_pf0050_01.Holds := by
  refine holds_law Mine.said fun said' => ?_
  refine W.holds_open (q := Mine.vw) (loose := []) (Xt := fun s => xlAt Mine.vw [] s && recOk (RowW.records PySem.Challenge.rw_pf0050_01.row.toRowW) s) (XP := XL Mine.vw []) (Yf := Mine.hk.obs) (Ya := Mine.hk.val) (YP := Mine.hk.says) (N := 3274)
    Mine.left Mine.hk.of Mine.hk.keeps (fun s e => xl_of s (Bool.and_eq_true_iff.mp e).1) XL.keeps Mine.lawD_eq Mine.lawD_the Mine.lawD_kw (fun s e => recFacts_of (Bool.and_eq_true_iff.mp e).2) (by first | rfl | kernel_rfl) said' Mine.chains ⟨rfl, rfl, rfl, rfl, rfl, by decide +kernel⟩ ?hw ?hc
  case hw => w_witness2
  intro w s₀ s₁ mg mb G Y fa o pm cd doc dV kV ho hd' hcd hD hmg hg args vals as hpre hlay hrd hwl hlo
  obtain ⟨K, KX, kok, c1, c2, t1, t2⟩ := Y
  have hT : TabsAt Mine.theTabs s₁.heap := List.forall_mem_cons.mpr ⟨⟨codeHd_of_K KX c1, t1⟩, List.forall_mem_cons.mpr ⟨⟨codeHd_of_K KX c2, t2⟩, fun _ h => nomatch h⟩⟩
  clear ho hd' hcd hD
  have hmg : mg "law" = some (.ref fa) := hmg
  refine Ground.open G ?_
  intro T B D TE TW
  wrow_args hpre hlay hrd hwl hlo
  refine enter_call ?_
  exact Mine.join Mine.law_true KX kok T hT Mine.vw_recs hg hmg (by assumption) (by assumption) (by assumption) (by omega)
