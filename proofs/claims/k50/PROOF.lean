import PyProof.Rows.All
import Wide.All
import OpenK.AllK
import Wide.FinOn
import HandS.ForMost
import HandS.Defaults
import HandS.Zip
import HandS.Rev
import HandS.RevRange
import HandS.TupAny
import HandS.TupMul
import HandS.Deep
import HandS.IsInst
import HandS.SortInts
import HandS.SortRule
import HandS.Sort
import HandS.Conv
import HandS.Small
import HandS.SetFor
import HandS.TupLe
import HandS.TupLen
import HandS.More
import KE.KStateDown
import HandS.Ends
import HandS.Head0
import HandS.Head1
import HandS.Head2
import HandS.HeadEnd
import HandS.HeadHook1
import HandS.HeadHook2
import PySem.Challenge.RW_bridgefind_k50_whole_a_key_changes_littl
set_option Elab.async false
set_option linter.all false
set_option maxRecDepth 100000
set_option maxHeartbeats 4000000
/-! The data layer: values as trees of data, objects that may change by their places, and the hand layer's judgements read over these. -/
namespace DL
open PySem PySem.Spec PyProof.Rows L2

/-! ### data -/
inductive D where
  | non | bl (b : Bool) | int (i : Int) | str (x : Str) | ty (n : String)
  | lst (xs : List D) | tup (xs : List D)
  | dk (kvs : List (Key × D)) | dt (kvs : List (List Key × D))
  | scr (ns : List Int) | ob (a : Addr)
/-- what an object that may change holds -/
inductive MO where
  | lst (xs : List D) | dk (kvs : List (Key × D)) | dt (kvs : List (List Key × D)) | ins (C : Addr) (fs : List (Str × D))
abbrev Mu := Addr → Option MO
def upm (μ : Mu) (a : Addr) (m : MO) : Mu := fun b => if b = a then some m else μ b
theorem upm_same {μ : Mu} {a : Addr} {m : MO} : upm μ a m a = some m := by unfold upm; rw [if_pos rfl]
theorem upm_ne {μ : Mu} {a b : Addr} {m : MO} (h : b ≠ a) : upm μ a m b = μ b := by unfold upm; rw [if_neg h]
theorem upm_upm {μ : Mu} {a : Addr} {m n : MO} : upm (upm μ a m) a n = upm μ a n := by
  funext b; unfold upm; by_cases h : b = a
  · rw [if_pos h, if_pos h]
  · rw [if_neg h, if_neg h, if_neg h]
theorem upm_self {μ : Mu} {a : Addr} {m : MO} (h : μ a = some m) : upm μ a m = μ := by
  funext b; unfold upm; split
  · rename_i e; rw [e, h]
  · rfl
theorem upm_comm {μ : Mu} {a b : Addr} {m n : MO} (h : a ≠ b) : upm (upm μ a m) b n = upm (upm μ b n) a m := by
  funext c; unfold upm
  by_cases h1 : c = a
  · subst h1; rw [if_neg h, if_pos rfl, if_pos rfl]
  · rw [if_neg h1, if_neg h1]

mutual
inductive Rp (K : PySem.W.Frag) (F : Hp) : D → V → Prop where
  | non : Rp K F .non .non
  | bl {b} : Rp K F (.bl b) (.bl b)
  | int {i} : Rp K F (.int i) (.int i)
  | str {x} : Rp K F (.str x) (.str x)
  | ty {n} : Rp K F (.ty n) (.ty n)
  | ob {a} : Rp K F (.ob a) (.ref a)
  | lst {a ds vs} : F a = some (.lst vs) → RpL K F ds vs → Rp K F (.lst ds) (.ref a)
  | tup {a ds vs} : F a = some (.tup vs) → RpL K F ds vs → Rp K F (.tup ds) (.ref a)
  | dk {a kvs vs} : F a = some (.dK vs) → kvs.map Prod.fst = vs.map Prod.fst → RpL K F (kvs.map Prod.snd) (vs.map Prod.snd) → Rp K F (.dk kvs) (.ref a)
  | dt {a kvs vs} : F a = some (.dT vs) → kvs.map Prod.fst = vs.map Prod.fst → RpL K F (kvs.map Prod.snd) (vs.map Prod.snd) → Rp K F (.dt kvs) (.ref a)
  | scr {a ns} : SqL K F a (ns.map V.int) → Rp K F (.scr ns) (.ref a)
inductive RpL (K : PySem.W.Frag) (F : Hp) : List D → List V → Prop where
  | nil : RpL K F [] []
  | cons {d ds v vs} : Rp K F d v → RpL K F ds vs → RpL K F (d :: ds) (v :: vs)
end

abbrev Ext (F F' : Hp) : Prop := Same F F'
theorem ext_upd {F : Hp} {a : Addr} {o : HO} (h : F a = none) : Ext F (upd F a o) := fun b u e => by
  rw [upd_ne (ne_of_none e h)]; exact e

mutual
theorem Rp.mono {K : PySem.W.Frag} {F F' : Hp} (x : Ext F F') : ∀ {d : D} {v : V}, Rp K F d v → Rp K F' d v
  | _, _, .non => .non
  | _, _, .bl => .bl
  | _, _, .int => .int
  | _, _, .str => .str
  | _, _, .ty => .ty
  | _, _, .ob => .ob
  | _, _, .lst h r => .lst (x _ _ h) (RpL.mono x r)
  | _, _, .tup h r => .tup (x _ _ h) (RpL.mono x r)
  | _, _, .dk h e r => .dk (x _ _ h) e (RpL.mono x r)
  | _, _, .dt h e r => .dt (x _ _ h) e (RpL.mono x r)
  | _, _, .scr h => .scr (x.seq h)
theorem RpL.mono {K : PySem.W.Frag} {F F' : Hp} (x : Ext F F') : ∀ {ds : List D} {vs : List V}, RpL K F ds vs → RpL K F' ds vs
  | _, _, .nil => .nil
  | _, _, .cons h r => .cons (Rp.mono x h) (RpL.mono x r)
end
section
variable {K : PySem.W.Frag} {F : Hp}
theorem RpL.length : ∀ {ds : List D} {vs : List V}, RpL K F ds vs → ds.length = vs.length
  | _, _, .nil => rfl
  | _, _, .cons _ r => congrArg Nat.succ r.length
theorem RpL.append : ∀ {ds es : List D} {vs ws : List V}, RpL K F ds vs → RpL K F es ws → RpL K F (ds ++ es) (vs ++ ws)
  | _, _, _, _, .nil, s => s
  | _, _, _, _, .cons h r, s => .cons h (r.append s)
theorem RpL.take : ∀ {ds : List D} {vs : List V} (n : Nat), RpL K F ds vs → RpL K F (ds.take n) (vs.take n)
  | _, _, 0, _ => .nil
  | _, _, _ + 1, .nil => .nil
  | _, _, n + 1, .cons h r => .cons h (r.take n)
theorem RpL.drop : ∀ {ds : List D} {vs : List V} (n : Nat), RpL K F ds vs → RpL K F (ds.drop n) (vs.drop n)
  | _, _, 0, r => r
  | _, _, _ + 1, .nil => .nil
  | _, _, n + 1, .cons _ r => r.drop n
theorem RpL.get : ∀ {ds : List D} {vs : List V} {i : Nat} {d : D}, RpL K F ds vs → ds[i]? = some d → ∃ v, vs[i]? = some v ∧ Rp K F d v
  | _, _, _, _, .nil, e => by simp at e
  | _, _, 0, _, .cons h _, e => by simp at e; subst e; exact ⟨_, rfl, h⟩
  | _, _, i + 1, d, .cons _ r, e => by
    obtain ⟨v, h1, h2⟩ := RpL.get (i := i) (d := d) r (by simpa using e)
    exact ⟨v, by simpa using h1, h2⟩
theorem RpL.get' : ∀ {ds : List D} {vs : List V} {i : Nat} {v : V}, RpL K F ds vs → vs[i]? = some v → ∃ d, ds[i]? = some d ∧ Rp K F d v
  | _, _, _, _, .nil, e => by simp at e
  | _, _, 0, _, .cons h _, e => by simp at e; subst e; exact ⟨_, rfl, h⟩
  | _, _, i + 1, d, .cons _ r, e => by
    obtain ⟨v, h1, h2⟩ := RpL.get' (i := i) (v := d) r (by simpa using e)
    exact ⟨v, by simpa using h1, h2⟩
theorem RpL.set {d : D} {v : V} (h : Rp K F d v) : ∀ {ds : List D} {vs : List V} (i : Nat), RpL K F ds vs → RpL K F (ds.set i d) (vs.set i v)
  | _, _, _, .nil => .nil
  | _, _, 0, .cons _ r => .cons h r
  | _, _, i + 1, .cons q r => .cons q (RpL.set h i r)
theorem RpL.eraseIdx : ∀ {ds : List D} {vs : List V} (i : Nat), RpL K F ds vs → RpL K F (ds.eraseIdx i) (vs.eraseIdx i)
  | _, _, _, .nil => .nil
  | _, _, 0, .cons _ r => r
  | _, _, i + 1, .cons q r => .cons q (r.eraseIdx i)
theorem RpL.reverse {ds : List D} {vs : List V} (r : RpL K F ds vs) : RpL K F ds.reverse vs.reverse := by
  induction ds generalizing vs with
  | nil => cases r; exact .nil
  | cons d ds ih =>
    cases r with
    | cons h r => rw [List.reverse_cons, List.reverse_cons]; exact (ih r).append (.cons h .nil)
theorem RpL.ints : ∀ {ns : List Int} {vs : List V}, RpL K F (ns.map D.int) vs → vs = ns.map V.int
  | [], _, .nil => rfl
  | n :: ns, _, .cons h r => by cases h; exact congrArg _ (RpL.ints r)
theorem RpL.of_ints : ∀ {ns : List Int}, RpL K F (ns.map D.int) (ns.map V.int)
  | [] => .nil
  | _ :: _ => .cons .int RpL.of_ints
theorem RpL.bls : ∀ {ns : List Bool} {vs : List V}, RpL K F (ns.map D.bl) vs → vs = ns.map V.bl
  | [], _, .nil => rfl
  | n :: ns, _, .cons h r => by cases h; exact congrArg _ (RpL.bls r)
theorem RpL.strs : ∀ {ns : List Str} {vs : List V}, RpL K F (ns.map D.str) vs → vs = ns.map V.str
  | [], _, .nil => rfl
  | n :: ns, _, .cons h r => by cases h; exact congrArg _ (RpL.strs r)
theorem RpL.of_strs : ∀ {ns : List Str}, RpL K F (ns.map D.str) (ns.map V.str)
  | [] => .nil
  | _ :: _ => .cons .str RpL.of_strs
end

/-! ### objects that may change -/
inductive RO (K : PySem.W.Frag) (F : Hp) : MO → HO → Prop where
  | lst {ds vs} : RpL K F ds vs → RO K F (.lst ds) (.lst vs)
  | dk {kvs vs} : kvs.map Prod.fst = vs.map Prod.fst → RpL K F (kvs.map Prod.snd) (vs.map Prod.snd) → RO K F (.dk kvs) (.dK vs)
  | dt {kvs vs} : kvs.map Prod.fst = vs.map Prod.fst → RpL K F (kvs.map Prod.snd) (vs.map Prod.snd) → RO K F (.dt kvs) (.dT vs)
  | ins {C dx fs vs} : fs.map Prod.fst = vs.map Prod.fst → RpL K F (fs.map Prod.snd) (vs.map Prod.snd) → RO K F (.ins C fs) (.ins C dx vs)
theorem RO.mono {K : PySem.W.Frag} {F F' : Hp} (x : Ext F F') {m : MO} {o : HO} (r : RO K F m o) : RO K F' m o := by
  cases r with
  | lst r => exact .lst (r.mono x)
  | dk e r => exact .dk e (r.mono x)
  | dt e r => exact .dt e (r.mono x)
  | ins e r => exact .ins e (r.mono x)

/-- the state as it is known: F what stays as it is, μ what may change -/
structure Abs (K : PySem.W.Frag) (F : Hp) (μ : Mu) (H : Hp) : Prop where
  sub : ∀ a o, F a = some o → H a = some o
  own : ∀ a m, μ a = some m → F a = none ∧ ∃ o, H a = some o ∧ RO K F m o
section
variable {K : PySem.W.Frag} {F : Hp} {μ μ' : Mu} {H : Hp}
theorem Abs.free (A : Abs K F μ H) {p : Addr} (h : H p = none) : F p = none := by
  cases e : F p with
  | none => rfl
  | some o => rw [A.sub _ _ e] at h; cases h
theorem Abs.freeM (A : Abs K F μ H) {p : Addr} (h : H p = none) : μ p = none := by
  cases e : μ p with
  | none => rfl
  | some o => obtain ⟨_, o, ho, _⟩ := A.own _ _ e; rw [ho] at h; cases h
/-- fewer things known -/
theorem Abs.less (A : Abs K F μ H) (h : ∀ a m, μ' a = some m → μ a = some m) : Abs K F μ' H := ⟨A.sub, fun a m e => A.own a m (h a m e)⟩
/-- a new thing that stays -/
theorem Abs.new (A : Abs K F μ H) {p : Addr} {o : HO} (h : H p = none) : Abs K (upd F p o) μ (upd H p o) ∧ Ext F (upd F p o) := by
  refine ⟨⟨fun a u e => ?_, fun a m e => ?_⟩, ext_upd (A.free h)⟩
  · by_cases ha : a = p
    · subst ha; rw [upd_same] at e ⊢; exact e
    · rw [upd_ne ha] at e ⊢; exact A.sub _ _ e
  · obtain ⟨n, u, hu, r⟩ := A.own a m e
    have ha : a ≠ p := ne_of_none hu h
    exact ⟨by rw [upd_ne ha]; exact n, u, by rw [upd_ne ha]; exact hu, r.mono (ext_upd (A.free h))⟩
/-- a new thing that may change -/
theorem Abs.newM (A : Abs K F μ H) {p : Addr} {o : HO} {m : MO} (h : H p = none) (r : RO K F m o) : Abs K F (upm μ p m) (upd H p o) := by
  refine ⟨fun a u e => ?_, fun a m' e => ?_⟩
  · have ha : a ≠ p := ne_of_none (A.sub _ _ e) h
    rw [upd_ne ha]; exact A.sub _ _ e
  · by_cases ha : a = p
    · subst ha; rw [upm_same] at e; cases e
      exact ⟨A.free h, o, upd_same, r⟩
    · rw [upm_ne ha] at e; rw [upd_ne ha]; exact A.own a m' e
/-- a thing that is changed -/
theorem Abs.put (A : Abs K F μ H) {p : Addr} {o : HO} {m m0 : MO} (h : μ p = some m0) (r : RO K F m o) : Abs K F (upm μ p m) (upd H p o) := by
  obtain ⟨n, u, hu, _⟩ := A.own p m0 h
  refine ⟨fun a u e => ?_, fun a m' e => ?_⟩
  · have ha : a ≠ p := ne_of_none e n
    rw [upd_ne ha]; exact A.sub _ _ e
  · by_cases ha : a = p
    · subst ha; rw [upm_same] at e; cases e
      exact ⟨n, o, upd_same, r⟩
    · rw [upm_ne ha] at e; rw [upd_ne ha]; exact A.own a m' e
/-- a thing that changes no more -/
theorem Abs.frz (A : Abs K F μ H) {p : Addr} {m : MO} (h : μ p = some m) (hl : ∀ a n, μ' a = some n → μ a = some n) (hp : μ' p = none) : ∃ o, RO K F m o ∧ Abs K (upd F p o) μ' H ∧ Ext F (upd F p o) := by
  obtain ⟨n, o, ho, r⟩ := A.own p m h
  refine ⟨o, r, ⟨fun a u e => ?_, fun a m' e => ?_⟩, ext_upd n⟩
  · by_cases ha : a = p
    · subst ha; rw [upd_same] at e; cases e; exact ho
    · rw [upd_ne ha] at e; exact A.sub _ _ e
  · have ha : a ≠ p := by rintro rfl; rw [hp] at e; cases e
    obtain ⟨n', u, hu, r'⟩ := A.own a m' (hl _ _ e)
    exact ⟨by rw [upd_ne ha]; exact n', u, hu, r'.mono (ext_upd n)⟩
theorem Abs.lstM (A : Abs K F μ H) {p : Addr} {ds : List D} (h : μ p = some (.lst ds)) : ∃ vs, H p = some (.lst vs) ∧ RpL K F ds vs := by
  obtain ⟨n, o, ho, r⟩ := A.own p _ h
  cases r with
  | lst r => exact ⟨_, ho, r⟩
theorem Abs.dkM (A : Abs K F μ H) {p : Addr} {kvs : List (Key × D)} (h : μ p = some (.dk kvs)) : ∃ vs, H p = some (.dK vs) ∧ kvs.map Prod.fst = vs.map Prod.fst ∧ RpL K F (kvs.map Prod.snd) (vs.map Prod.snd) := by
  obtain ⟨n, o, ho, r⟩ := A.own p _ h
  cases r with
  | dk e r => exact ⟨_, ho, e, r⟩
theorem Abs.dtM (A : Abs K F μ H) {p : Addr} {kvs : List (List Key × D)} (h : μ p = some (.dt kvs)) : ∃ vs, H p = some (.dT vs) ∧ kvs.map Prod.fst = vs.map Prod.fst ∧ RpL K F (kvs.map Prod.snd) (vs.map Prod.snd) := by
  obtain ⟨n, o, ho, r⟩ := A.own p _ h
  cases r with
  | dt e r => exact ⟨_, ho, e, r⟩
theorem Abs.insM (A : Abs K F μ H) {p C : Addr} {fs : List (Str × D)} (h : μ p = some (.ins C fs)) : ∃ dx vs, H p = some (.ins C dx vs) ∧ fs.map Prod.fst = vs.map Prod.fst ∧ RpL K F (fs.map Prod.snd) (vs.map Prod.snd) := by
  obtain ⟨n, o, ho, r⟩ := A.own p _ h
  cases r with
  | ins e r => exact ⟨_, _, ho, e, r⟩
end

/-! ### slots -/
abbrev Rho := List (Option D)
structure RS (K : PySem.W.Frag) (F : Hp) (ρ : Rho) (σ : L2.St) : Prop where
  len : ρ.length = σ.length
  get : ∀ (i : Nat) (d : D), ρ[i]? = some (some d) → ∃ v : V, σ[i]? = some (some v) ∧ Rp K F d v
theorem RS.mono {K : PySem.W.Frag} {F F' : Hp} {ρ : Rho} {σ : L2.St} (r : RS K F ρ σ) (x : Ext F F') : RS K F' ρ σ :=
  ⟨r.len, fun i d e => let ⟨v, h1, h2⟩ := r.get i d e; ⟨v, h1, h2.mono x⟩⟩
theorem RS.set {K : PySem.W.Frag} {F : Hp} {ρ : Rho} {σ : L2.St} (r : RS K F ρ σ) {d : D} {v : V} (h : Rp K F d v) (i : Nat) : RS K F (ρ.set i (some d)) (σ.set i (some v)) := by
  refine ⟨by simp [r.len], fun j e he => ?_⟩
  by_cases hj : i = j
  · subst hj
    have hi : i < ρ.length := by
      have := (List.getElem?_eq_some_iff.mp he).1
      simpa using this
    rw [List.getElem?_set_self hi] at he
    cases he
    exact ⟨v, by rw [List.getElem?_set_self (by rw [← r.len]; exact hi)], h⟩
  · rw [List.getElem?_set_ne hj] at he
    obtain ⟨w, h1, h2⟩ := r.get j e he
    exact ⟨w, by rw [List.getElem?_set_ne hj]; exact h1, h2⟩
theorem RS.start {K : PySem.W.Frag} {F : Hp} {ds : List D} {vs : List V} (r : RpL K F ds vs) (N : List Str) : RS K F (ds.map some ++ List.replicate (N.length - ds.length) none) (start N vs) := by
  have hl := r.length
  refine ⟨by simp [L2.start, hl], fun i d e => ?_⟩
  by_cases hi : i < ds.length
  · rw [List.getElem?_append_left (by simpa using hi), List.getElem?_map] at e
    cases q : ds[i]? with
    | none => rw [q] at e; cases e
    | some d' =>
      rw [q] at e; cases e
      obtain ⟨v, h1, h2⟩ := r.get q
      refine ⟨v, ?_, h2⟩
      unfold L2.start
      rw [List.getElem?_append_left (by simp; omega), List.getElem?_map, h1]; rfl
  · exfalso
    rw [List.getElem?_append_right (by simpa using hi)] at e
    rw [List.getElem?_replicate] at e
    split at e <;> cases e
/-- the datum in slot i -/
def slot : Rho → Nat → Option D
  | [], _ => none
  | x :: _, 0 => x
  | _ :: r, i + 1 => slot r i
theorem slot_get : ∀ {ρ : Rho} {i : Nat} {d : D}, slot ρ i = some d → ρ[i]? = some (some d)
  | [], _, _, e => by cases e
  | x :: _, 0, _, e => by simp [slot] at e; simp [e]
  | _ :: r, i + 1, d, e => by simpa using slot_get (ρ := r) (i := i) (d := d) e
/-- a value put in slot i -/
def put : Rho → Nat → D → Rho
  | [], _, _ => []
  | _ :: r, 0, d => some d :: r
  | x :: r, i + 1, d => x :: put r i d
theorem put_eq : ∀ (ρ : Rho) (i : Nat) (d : D), put ρ i d = ρ.set i (some d)
  | [], _, _ => rfl
  | _ :: _, 0, _ => rfl
  | x :: r, i + 1, d => by show x :: put r i d = x :: r.set i (some d); rw [put_eq r i d]

/-! ### readings -/
abbrev QD := D → Mu → Prop
abbrev RE := Rho → Mu → QD → Prop
abbrev QB := Bool → Mu → Prop
abbrev RT := Rho → Mu → QB → Prop
abbrev QL := List D → Mu → Prop
abbrev RA := Rho → Mu → QL → Prop
structure EndsD where
  nx : Rho → Mu → Prop
  rt : QD
  bk : Rho → Mu → Prop := fun _ _ => False
  ct : Rho → Mu → Prop := fun _ _ => False
abbrev RSt := EndsD → Rho → Mu → Prop
abbrev RG := D → Rho → Mu → (Rho → Mu → Prop) → Prop

def OutE (K : PySem.W.Frag) (F : Hp) (q : QD) (Q : VK) : Prop := ∀ F' v H' d μ', Ext F F' → Abs K F' μ' H' → Rp K F' d v → q d μ' → Q v H'
def OutB (K : PySem.W.Frag) (F : Hp) (q : QB) (Q : Bool → Hp → Prop) : Prop := ∀ F' b H' μ', Ext F F' → Abs K F' μ' H' → q b μ' → Q b H'
def OutL (K : PySem.W.Frag) (F : Hp) (q : QL) (Q : List V → Hp → Prop) : Prop := ∀ F' vs H' ds μ', Ext F F' → Abs K F' μ' H' → RpL K F' ds vs → q ds μ' → Q vs H'
def OutN (K : PySem.W.Frag) (F : Hp) (q : Rho → Mu → Prop) (Q : L2.St → Hp → Prop) : Prop := ∀ F' σ' H' ρ' μ', Ext F F' → Abs K F' μ' H' → RS K F' ρ' σ' → q ρ' μ' → Q σ' H'
structure OutS (K : PySem.W.Frag) (F : Hp) (E : EndsD) (D' : Ends) : Prop where
  nx : OutN K F E.nx D'.nx
  rt : OutE K F E.rt D'.rt
  bk : OutN K F E.bk D'.bk
  ct : OutN K F E.ct D'.ct
section
variable {K : PySem.W.Frag} {F F' : Hp}
theorem OutE.mono {q : QD} {Q : VK} (h : OutE K F q Q) (x : Ext F F') : OutE K F' q Q := fun F2 v H' d μ' e => h F2 v H' d μ' (Same.trans x e)
theorem OutB.mono {q : QB} {Q : Bool → Hp → Prop} (h : OutB K F q Q) (x : Ext F F') : OutB K F' q Q := fun F2 v H' μ' e => h F2 v H' μ' (Same.trans x e)
theorem OutL.mono {q : QL} {Q : List V → Hp → Prop} (h : OutL K F q Q) (x : Ext F F') : OutL K F' q Q := fun F2 v H' d μ' e => h F2 v H' d μ' (Same.trans x e)
theorem OutN.mono {q : Rho → Mu → Prop} {Q : L2.St → Hp → Prop} (h : OutN K F q Q) (x : Ext F F') : OutN K F' q Q := fun F2 v H' d μ' e => h F2 v H' d μ' (Same.trans x e)
theorem OutS.mono {E : EndsD} {D' : Ends} (h : OutS K F E D') (x : Ext F F') : OutS K F' E D' := ⟨h.nx.mono x, h.rt.mono x, h.bk.mono x, h.ct.mono x⟩
end
def upE (K : PySem.W.Frag) (t : RE) : TE := fun σ H Q => ∃ F ρ μ q, Abs K F μ H ∧ RS K F ρ σ ∧ t ρ μ q ∧ OutE K F q Q
def upT (K : PySem.W.Frag) (t : RT) : TT := fun σ H Q => ∃ F ρ μ q, Abs K F μ H ∧ RS K F ρ σ ∧ t ρ μ q ∧ OutB K F q Q
def upA (K : PySem.W.Frag) (t : RA) : TA := fun σ H Q => ∃ F ρ μ q, Abs K F μ H ∧ RS K F ρ σ ∧ t ρ μ q ∧ OutL K F q Q
def upS (K : PySem.W.Frag) (t : RSt) : TS := fun D' σ H => ∃ F ρ μ E, Abs K F μ H ∧ RS K F ρ σ ∧ t E ρ μ ∧ OutS K F E D'
def upG (K : PySem.W.Frag) (g : RG) : TG := fun v σ H Q => ∃ F d ρ μ q, Abs K F μ H ∧ RS K F ρ σ ∧ Rp K F d v ∧ g d ρ μ q ∧ OutN K F q Q
abbrev DE (X : Cx) (e : Expr) (t : RE) : Prop := PE X e (upE X.K t)
abbrev DT (X : Cx) (e : Expr) (t : RT) : Prop := PT X e (upT X.K t)
abbrev DW (X : Cx) (e : Expr) (t : RT) : Prop := PW X e (upT X.K t)
abbrev DA (X : Cx) (es : List Expr) (t : RA) : Prop := PA X es (upA X.K t)
abbrev DS (X : Cx) (st : Stmt) (t : RSt) : Prop := PS X st (upS X.K t)
abbrev DSs (X : Cx) (st : List Stmt) (t : RSt) : Prop := PSs X st (upS X.K t)
abbrev DG (X : Cx) (tg : Expr) (g : RG) : Prop := PG X tg (upG X.K g)

section
variable {X : Cx}
theorem weakE {e : Expr} {t t' : TE} (h : PE X e t) (k : ∀ σ H Q, t' σ H Q → t σ H Q) : PE X e t' := ⟨fun p s σ H Q I x => h.run p s σ H Q I (k σ H Q x)⟩
theorem weakT {e : Expr} {t t' : TT} (h : PT X e t) (k : ∀ σ H Q, t' σ H Q → t σ H Q) : PT X e t' := ⟨fun p s σ H Q I x => h.run p s σ H Q I (k σ H Q x)⟩
theorem weakW {e : Expr} {t t' : TT} (h : PW X e t) (k : ∀ σ H Q, t' σ H Q → t σ H Q) : PW X e t' := ⟨fun wh p s σ H Q I x => h.run wh p s σ H Q I (k σ H Q x)⟩
theorem weakA {e : List Expr} {t t' : TA} (h : PA X e t) (k : ∀ σ H Q, t' σ H Q → t σ H Q) : PA X e t' := ⟨fun ps p s σ H Q I x => h.run ps p s σ H Q I (k σ H Q x)⟩
theorem weakS {e : Stmt} {t t' : TS} (h : PS X e t) (k : ∀ D' σ H, t' D' σ H → t D' σ H) : PS X e t' := ⟨fun p s σ H Q I x => h.run p s σ H Q I (k Q σ H x)⟩
theorem weakSs {e : List Stmt} {t t' : TS} (h : PSs X e t) (k : ∀ D' σ H, t' D' σ H → t D' σ H) : PSs X e t' := ⟨fun p s σ H Q I x => h.run p s σ H Q I (k Q σ H x)⟩
theorem weakG {e : Expr} {t t' : TG} (h : PG X e t) (k : ∀ v σ H Q, t' v σ H Q → t v σ H Q) : PG X e t' := by
  refine ⟨?_⟩
  intros
  apply h.run <;> first | assumption | (apply k; assumption)
theorem OpR.weak {f : Value → Value → Sem Value} {r r' : R2} (h : OpR X f r) (k : ∀ x y H Q, r' x y H Q → r x y H Q) : OpR X f r' := fun p s σ H x y v u Q I rx ry q => h p s σ H x y v u Q I rx ry (k _ _ _ _ q)
theorem UnR.weak {f : Value → Sem Value} {r r' : V → Hp → VK → Prop} (h : UnR X f r) (k : ∀ x H Q, r' x H Q → r x H Q) : UnR X f r' := fun p s σ H x v Q I rx q => h p s σ H x v Q I rx (k _ _ _ q)
theorem CallR.weak {f : Value} {r r' : List V → Hp → VK → Prop} (h : CallR X f r) (k : ∀ x H Q, r' x H Q → r x H Q) : CallR X f r' := fun p s σ H x v Q I rx q => h p s σ H x v Q I rx (k _ _ _ q)
theorem MtR.weak {id : String} {r r' : V → List V → Hp → VK → Prop} (h : MtR X id r) (k : ∀ x xs H Q, r' x xs H Q → r x xs H Q) : MtR X id r' := by
  intro p s σ H x xs v us Q I rx rxs q
  exact h p s σ H x xs v us Q I rx rxs (k _ _ _ _ q)
theorem IxR.weak {r r' : R2} (h : IxR X r) (k : ∀ x y H Q, r' x y H Q → r x y H Q) : IxR X r' := by
  unfold IxR at h ⊢
  intros
  apply h <;> first | assumption | (apply k; assumption)
theorem SlR.weak {r r' : V → Option Int → Option Int → Hp → VK → Prop} (h : L2.SlR X r) (k : ∀ x lo hi H Q, r' x lo hi H Q → r x lo hi H Q) : L2.SlR X r' := by
  unfold L2.SlR at h ⊢
  intros
  apply h <;> first | assumption | (apply k; assumption)
theorem TruR.weak {r r' : V → Hp → (Bool → Hp → Prop) → Prop} (h : TruR X r) (k : ∀ x H Q, r' x H Q → r x H Q) : TruR X r' := fun p s σ H x v Q I rx q => h p s σ H x v Q I rx (k _ _ _ q)
end
end DL

/-! The data layer's expressions. -/
namespace DL
open PySem PySem.Spec PyProof.Rows L2

/-! ### looking through a place -/
def moD (a : Addr) : Option MO → D
  | some (.lst ds) => .lst ds
  | some (.dk kvs) => .dk kvs
  | some (.dt kvs) => .dt kvs
  | some (.ins _ _) => .ob a
  | none => .ob a
def rs (μ : Mu) : D → D
  | .ob a => moD a (μ a)
  | d => d
theorem rs_ob {μ : Mu} {a : Addr} : rs μ (.ob a) = moD a (μ a) := rfl
def isFlat : D → Bool
  | .non | .bl _ | .int _ | .str _ | .ty _ | .scr _ | .tup _ => true
  | _ => false
theorem rs_flat {μ : Mu} {d e : D} (h : rs μ d = e) (f : isFlat e = true) : d = e := by
  cases d with
  | ob a =>
    rw [rs_ob] at h
    cases h' : μ a with
    | none => rw [h'] at h; subst h; cases f
    | some m => rw [h'] at h; cases m <;> (subst h; cases f)
  | _ => exact h
section
variable {K : PySem.W.Frag} {F H : Hp} {μ : Mu} {d : D} {v : V}
theorem view_lst (A : Abs K F μ H) (r : Rp K F d v) {ds : List D} (e : rs μ d = .lst ds) : ∃ a vs, v = .ref a ∧ H a = some (.lst vs) ∧ RpL K F ds vs := by
  cases r with
  | lst h r => injection e with e; subst e; exact ⟨_, _, rfl, A.sub _ _ h, r⟩
  | @ob a =>
    rw [rs_ob] at e
    cases h : μ a with
    | none => rw [h] at e; cases e
    | some m =>
      rw [h] at e
      cases m with
      | lst xs => injection e with e; subst e; obtain ⟨vs, h1, h2⟩ := A.lstM h; exact ⟨a, vs, rfl, h1, h2⟩
      | dk xs => cases e
      | dt xs => cases e
      | ins C fs => cases e
  | _ => cases e
theorem view_tup (A : Abs K F μ H) (r : Rp K F d v) {ds : List D} (e : rs μ d = .tup ds) : ∃ a vs, v = .ref a ∧ H a = some (.tup vs) ∧ F a = some (.tup vs) ∧ RpL K F ds vs := by
  cases r with
  | tup h r => injection e with e; subst e; exact ⟨_, _, rfl, A.sub _ _ h, h, r⟩
  | @ob a =>
    rw [rs_ob] at e
    cases h : μ a with
    | none => rw [h] at e; cases e
    | some m => rw [h] at e; cases m <;> cases e
  | _ => cases e
theorem view_dk (A : Abs K F μ H) (r : Rp K F d v) {kvs : List (Key × D)} (e : rs μ d = .dk kvs) : ∃ a vs, v = .ref a ∧ H a = some (.dK vs) ∧ kvs.map Prod.fst = vs.map Prod.fst ∧ RpL K F (kvs.map Prod.snd) (vs.map Prod.snd) := by
  cases r with
  | dk h q r => injection e with e; subst e; exact ⟨_, _, rfl, A.sub _ _ h, q, r⟩
  | @ob a =>
    rw [rs_ob] at e
    cases h : μ a with
    | none => rw [h] at e; cases e
    | some m =>
      rw [h] at e
      cases m with
      | dk xs => injection e with e; subst e; obtain ⟨vs, h1, h2, h3⟩ := A.dkM h; exact ⟨a, vs, rfl, h1, h2, h3⟩
      | lst xs => cases e
      | dt xs => cases e
      | ins C fs => cases e
  | _ => cases e
theorem view_dt (A : Abs K F μ H) (r : Rp K F d v) {kvs : List (List Key × D)} (e : rs μ d = .dt kvs) : ∃ a vs, v = .ref a ∧ H a = some (.dT vs) ∧ kvs.map Prod.fst = vs.map Prod.fst ∧ RpL K F (kvs.map Prod.snd) (vs.map Prod.snd) := by
  cases r with
  | dt h q r => injection e with e; subst e; exact ⟨_, _, rfl, A.sub _ _ h, q, r⟩
  | @ob a =>
    rw [rs_ob] at e
    cases h : μ a with
    | none => rw [h] at e; cases e
    | some m =>
      rw [h] at e
      cases m with
      | dt xs => injection e with e; subst e; obtain ⟨vs, h1, h2, h3⟩ := A.dtM h; exact ⟨a, vs, rfl, h1, h2, h3⟩
      | lst xs => cases e
      | dk xs => cases e
      | ins C fs => cases e
  | _ => cases e
/-- the items of a list that is read -/
def itm (μ : Mu) (d : D) : Option (List D) := match rs μ d with
  | .lst ds => some ds
  | .scr ns => some (ns.map D.int)
  | _ => none
theorem view_itm (A : Abs K F μ H) (r : Rp K F d v) {ds : List D} (e : itm μ d = some ds) : ∃ a vs, v = .ref a ∧ SqL K H a vs ∧ RpL K F ds vs := by
  unfold itm at e
  cases h : rs μ d with
  | lst xs =>
    rw [h] at e; cases e
    obtain ⟨a, vs, h1, h2, h3⟩ := view_lst A r h
    exact ⟨a, vs, h1, SqL.of h2, h3⟩
  | scr ns =>
    rw [h] at e; cases e
    cases r with
    | scr h' => injection h with h; subst h; exact ⟨_, _, rfl, Same.seq A.sub h', RpL.of_ints⟩
    | @ob a =>
      rw [rs_ob] at h
      cases h' : μ a with
      | none => rw [h'] at h; cases h
      | some m => rw [h'] at h; cases m <;> cases h
    | _ => cases h
  | _ => rw [h] at e; cases e
/-- a plain datum's own value -/
theorem rp_int {i : Int} (r : Rp K F (.int i) v) : v = .int i := by cases r; rfl
theorem rp_bl {i : Bool} (r : Rp K F (.bl i) v) : v = .bl i := by cases r; rfl
theorem rp_str {i : Str} (r : Rp K F (.str i) v) : v = .str i := by cases r; rfl
theorem rp_non (r : Rp K F .non v) : v = .non := by cases r; rfl
theorem rp_ty {n : String} (r : Rp K F (.ty n) v) : v = .ty n := by cases r; rfl
theorem rp_ob {a : Addr} (r : Rp K F (.ob a) v) : v = .ref a := by cases r; rfl
end

/-! ### new lists: of one's own (they may change), or such as stay -/
def newL (own : Bool) (ds : List D) (μ : Mu) (q : QD) : Prop := match own with
  | false => q (.lst ds) μ
  | true => ∀ p, μ p = none → q (.ob p) (upm μ p (.lst ds))
section
variable {K : PySem.W.Frag} {F H : Hp} {μ : Mu} {q : QD} {Q : VK}
theorem newL_ok {own : Bool} {ds : List D} {vs : List V} (A : Abs K F μ H) (r : RpL K F ds vs) (h : newL own ds μ q) (o : OutE K F q Q) {p : Addr} (hp : H p = none) : Q (.ref p) (upd H p (.lst vs)) := by
  cases own with
  | false =>
    obtain ⟨A', x⟩ := A.new (o := .lst vs) hp
    exact o _ _ _ _ _ x A' (.lst upd_same (r.mono x)) h
  | true => exact o F _ _ _ _ (Same.refl F) (A.newM hp (.lst r)) .ob (h p (A.freeM hp))
theorem newT_ok {ds : List D} {vs : List V} (A : Abs K F μ H) (r : RpL K F ds vs) (h : q (.tup ds) μ) (o : OutE K F q Q) {p : Addr} (hp : H p = none) : Q (.ref p) (upd H p (.tup vs)) := by
  obtain ⟨A', x⟩ := A.new (o := .tup vs) hp
  exact o _ _ _ _ _ x A' (.tup upd_same (r.mono x)) h
end

/-! ### operators by values -/
abbrev R2D := D → D → Mu → QD → Prop
def up2 (K : PySem.W.Frag) (r : R2D) : R2 := fun x y H Q => ∃ F μ d e q, Abs K F μ H ∧ Rp K F d x ∧ Rp K F e y ∧ r d e μ q ∧ OutE K F q Q
def up1 (K : PySem.W.Frag) (r : D → Mu → QD → Prop) : V → Hp → VK → Prop := fun x H Q => ∃ F μ d q, Abs K F μ H ∧ Rp K F d x ∧ r d μ q ∧ OutE K F q Q
def upL (K : PySem.W.Frag) (r : List D → Mu → QD → Prop) : List V → Hp → VK → Prop := fun xs H Q => ∃ F μ ds q, Abs K F μ H ∧ RpL K F ds xs ∧ r ds μ q ∧ OutE K F q Q
abbrev OpD (X : Cx) (f : Value → Value → Sem Value) (r : R2D) : Prop := OpR X f (up2 X.K r)
abbrev CallD (X : Cx) (f : Value) (r : List D → Mu → QD → Prop) : Prop := CallR X f (upL X.K r)

def rOp (r : R2D) (ta tb : RE) : RE := fun ρ μ q => ta ρ μ fun d1 μ1 => tb ρ μ1 fun d2 μ2 => r d1 d2 μ2 q
def rv (i : Nat) : RE := fun ρ μ q => match slot ρ i with
  | some d => q d μ
  | none => False
def rc (d : D) : RE := fun _ μ q => q d μ
section
variable {X : Cx} {a b c : Expr} {ta tb tc : RE} {pos : Pos}
theorem dv (i : Nat) {x : Str} {pos : Pos} (hN : X.N[i]? = some x := by rfl) (hv : Vis X.env.scope x := by first | exact Or.inl rfl | exact Or.inr (Or.inl rfl) | exact Or.inr (Or.inr rfl)) (hd : (x == ("__debug__" : Str)) = false := by decide)
    (hcd : (x == ("__classdict__" : Str)) = false := by decide) : DE X (.Name x pos) (rv i) :=
  weakE (pe_var hN hv hd hcd) fun σ H Q ⟨F, ρ, μ, q, A, R, h, o⟩ => by
    unfold rv at h
    cases e : slot ρ i with
    | none => rw [e] at h; exact h.elim
    | some d =>
      rw [e] at h
      obtain ⟨v, h1, h2⟩ := R.get i d (slot_get e)
      exact ⟨v, h1, o F v H d μ (Same.refl F) A h2 h⟩
theorem cst {v : V} {d : D} {e : Expr} (h : PE X e (tC v)) (k : ∀ F, Rp X.K F d v) : DE X e (rc d) :=
  weakE h fun σ H Q ⟨F, ρ, μ, q, A, R, h, o⟩ => o F v H d μ (Same.refl F) A (k F) h
theorem d_int {i j pos} : DE X (.Constant (.int i) j pos) (rc (.int i)) := cst pe_int fun _ => .int
theorem d_bl {i j pos} : DE X (.Constant (.bool i) j pos) (rc (.bl i)) := cst pe_bl fun _ => .bl
theorem d_non {j pos} : DE X (.Constant .none j pos) (rc .non) := cst pe_non fun _ => .non
theorem d_str {i j pos} : DE X (.Constant (.str i) j pos) (rc (.str i)) := cst pe_str fun _ => .str
theorem d_ty {x : Str} {n : String} {pos : Pos} (hm : X.mg x = none) (hv : bootBuiltins x = some (.type n)) (hg : Gl X x := by rfl) (hn : x ≠ "__name__" := by decide) (hd : (x == ("__debug__" : Str)) = false := by decide) : DE X (.Name x pos) (rc (.ty n)) :=
  cst (pe_bltn (v := .ty n) hg hm hv rfl hn hd) fun _ => .ty
theorem d_gint {x : Str} {i : Int} {pos : Pos} (hm : ∃ t, X.mg x = some (.int i t)) (hg : Gl X x := by rfl) (hd : (x == ("__debug__" : Str)) = false := by decide) : DE X (.Name x pos) (rc (.int i)) := by
  obtain ⟨t, hm⟩ := hm
  exact cst (pe_glob (v := .int i) hg hm ⟨t, rfl⟩ hd) fun _ => .int
theorem d_gstr {x z : Str} {pos : Pos} (hm : ∃ t, X.mg x = some (.str z t)) (hg : Gl X x := by rfl) (hd : (x == ("__debug__" : Str)) = false := by decide) : DE X (.Name x pos) (rc (.str z)) := by
  obtain ⟨t, hm⟩ := hm
  exact cst (pe_glob (v := .str z) hg hm ⟨t, rfl⟩ hd) fun _ => .str
theorem d_gob {x : Str} {a : Addr} {pos : Pos} (hm : X.mg x = some (.ref a)) (hg : Gl X x := by rfl) (hd : (x == ("__debug__" : Str)) = false := by decide) : DE X (.Name x pos) (rc (.ob a)) :=
  cst (pe_glob (v := .ref a) hg hm rfl hd) fun _ => .ob
/-- two in a row -/
theorem two {r : R2D} {σ : L2.St} {H : Hp} {Q : VK} (h : upE X.K (rOp r ta tb) σ H Q) : tOp (up2 X.K r) (upE X.K ta) (upE X.K tb) σ H Q := by
  obtain ⟨F, ρ, μ, q, A, R, h, o⟩ := h
  refine ⟨F, ρ, μ, _, A, R, h, fun F1 x H1 d1 μ1 e1 A1 r1 h1 => ?_⟩
  refine ⟨F1, ρ, μ1, _, A1, R.mono e1, h1, fun F2 y H2 d2 μ2 e2 A2 r2 h2 => ?_⟩
  exact ⟨F2, μ2, d1, d2, q, A2, r1.mono e2, r2, h2, o.mono (Same.trans e1 e2)⟩
theorem d_op {op : Operator} {r : R2D} (ho : OpD X (binaryOp op) r) (ha : DE X a ta) (hb : DE X b tb) : DE X (.BinOp a op b pos) (rOp r ta tb) := weakE (pe_op ho ha hb) fun _ _ _ => two
def rUn (r : D → Mu → QD → Prop) (ta : RE) : RE := fun ρ μ q => ta ρ μ fun d μ1 => r d μ1 q
theorem d_un {op : UnaryOp} {r : D → Mu → QD → Prop} (ho : UnR X (unaryOp op) (up1 X.K r)) (ha : DE X a ta) : DE X (.UnaryOp op a pos) (rUn r ta) := weakE (pe_un ho ha) fun σ H Q ⟨F, ρ, μ, q, A, R, h, o⟩ =>
  ⟨F, ρ, μ, _, A, R, h, fun F1 x H1 d1 μ1 e1 A1 r1 h1 => ⟨F1, μ1, d1, q, A1, r1, h1, o.mono e1⟩⟩
theorem d_cmp {op : CmpOp} {r : R2D} (ho : OpD X (compareOp op) r) (ha : DE X a ta) (hb : DE X b tb) (hm : behindInMarks op b = false := by first | exact nomark _ | rfl) : DE X (.Compare a [op] [b] pos) (rOp r ta tb) := weakE (pe_cmpR ho ha hb hm) fun _ _ _ => two
def rB (t : RE) : RT := fun ρ μ q => t ρ μ fun d μ1 => match d with
  | .bl b => q b μ1
  | _ => False
theorem rB_out {t : RE} {σ : L2.St} {H : Hp} {Q : Bool → Hp → Prop} (h : upT X.K (rB t) σ H Q) : upE X.K t σ H fun x H1 => ∃ k, x = .bl k ∧ Q k H1 := by
  obtain ⟨F, ρ, μ, q, A, R, h, o⟩ := h
  refine ⟨F, ρ, μ, _, A, R, h, fun F1 x H1 d1 μ1 e1 A1 r1 h1 => ?_⟩
  cases d1 with
  | bl b => cases r1; exact ⟨b, rfl, o F1 b H1 μ1 e1 A1 h1⟩
  | _ => exact (h1 : False).elim
theorem t_cmp {op : CmpOp} {r : R2D} (ho : OpD X (compareOp op) r) (ha : DE X a ta) (hb : DE X b tb) (hm : behindInMarks op b = false := by first | exact nomark _ | rfl) : DT X (.Compare a [op] [b] pos) (rB (rOp r ta tb)) :=
  weakT (pt_cmpR ho ha hb hm) fun σ H Q h => two (rB_out h)
/-- a chain of two comparisons -/
def rCh (r r' : R2D) (ta tb tc : RE) : RE := fun ρ μ q => ta ρ μ fun d1 μ1 => tb ρ μ1 fun d2 μ2 => r d1 d2 μ2 fun z μ3 => match z with
  | .bl true => tc ρ μ3 fun d3 μ4 => r' d2 d3 μ4 q
  | .bl false => q (.bl false) μ3
  | _ => False
theorem chn {r r' : R2D} {σ : L2.St} {H : Hp} {Q : VK} (h : upE X.K (rCh r r' ta tb tc) σ H Q) : tChain (up2 X.K r) (up2 X.K r') (upE X.K ta) (upE X.K tb) (upE X.K tc) σ H Q := by
  obtain ⟨F, ρ, μ, q, A, R, h, o⟩ := h
  refine ⟨F, ρ, μ, _, A, R, h, fun F1 x H1 d1 μ1 e1 A1 r1 h1 => ?_⟩
  refine ⟨F1, ρ, μ1, _, A1, R.mono e1, h1, fun F2 y H2 d2 μ2 e2 A2 r2 h2 => ?_⟩
  refine ⟨F2, μ2, d1, d2, _, A2, r1.mono e2, r2, h2, fun F3 z H3 d3 μ3 e3 A3 r3 h3 => ?_⟩
  have o3 := o.mono (Same.trans e1 (Same.trans e2 e3))
  cases d3 with
  | bl k =>
    cases r3
    refine ⟨k, rfl, ?_⟩
    cases k with
    | false => exact iteF (o3 F3 _ _ _ _ (Same.refl _) A3 .bl h3)
    | true =>
      refine iteT ⟨F3, ρ, μ3, _, A3, R.mono (Same.trans e1 (Same.trans e2 e3)), h3, fun F4 w' H4 d4 μ4 e4 A4 r4 h4 => ?_⟩
      exact ⟨F4, μ4, d2, d4, q, A4, r2.mono (Same.trans e3 e4), r4, h4, o3.mono e4⟩
  | _ => exact (h3 : False).elim
theorem d_chain {op op' : CmpOp} {r r' : R2D} (ho : OpD X (compareOp op) r) (ho' : OpD X (compareOp op') r') (ha : DE X a ta) (hb : DE X b tb) (hc : DE X c tc) (hm : lastMarks [op, op'] [b, c] = false := by with_unfolding_all rfl) : DE X (.Compare a [op, op'] [b, c] pos) (rCh r r' ta tb tc) :=
  weakE (pe_chain ho ho' ha hb hc hm) fun _ _ _ => chn
theorem t_chain {op op' : CmpOp} {r r' : R2D} (ho : OpD X (compareOp op) r) (ho' : OpD X (compareOp op') r') (ha : DE X a ta) (hb : DE X b tb) (hc : DE X c tc) (hm : lastMarks [op, op'] [b, c] = false := by with_unfolding_all rfl) : DT X (.Compare a [op, op'] [b, c] pos) (rB (rCh r r' ta tb tc)) :=
  weakT (pt_chain ho ho' ha hb hc hm) fun σ H Q h => chn (rB_out h)
/-! ### tests -/
variable {u u' : RT} {rest : List Expr}
def rAnd (t u : RT) : RT := fun ρ μ q => t ρ μ fun c μ1 => match c with
  | true => u ρ μ1 q
  | false => q false μ1
def rOr (t u : RT) : RT := fun ρ μ q => t ρ μ fun c μ1 => match c with
  | true => q true μ1
  | false => u ρ μ1 q
def rNot (t : RT) : RT := fun ρ μ q => t ρ μ fun c μ1 => q (!c) μ1
theorem w_and1 (ha : DT X a u) : DW X (.BoolOp .And [a] pos) u := pw_and1 ha
theorem w_or1 (ha : DT X a u) : DW X (.BoolOp .Or [a] pos) u := pw_or1 ha
theorem w_and (ha : DT X a u) (hb : DW X (.BoolOp .And (b :: rest) pos) u') : DW X (.BoolOp .And (a :: b :: rest) pos) (rAnd u u') :=
  weakW (pw_and ha hb) fun σ H Q ⟨F, ρ, μ, q, A, R, h, o⟩ => ⟨F, ρ, μ, _, A, R, h, fun F1 k H1 μ1 e1 A1 h1 => by
    cases k with
    | true => exact iteT ⟨F1, ρ, μ1, q, A1, R.mono e1, h1, o.mono e1⟩
    | false => exact iteF (o F1 _ _ _ e1 A1 h1)⟩
theorem w_or (ha : DT X a u) (hb : DW X (.BoolOp .Or (b :: rest) pos) u') : DW X (.BoolOp .Or (a :: b :: rest) pos) (rOr u u') :=
  weakW (pw_or ha hb) fun σ H Q ⟨F, ρ, μ, q, A, R, h, o⟩ => ⟨F, ρ, μ, _, A, R, h, fun F1 k H1 μ1 e1 A1 h1 => by
    cases k with
    | false => exact iteF ⟨F1, ρ, μ1, q, A1, R.mono e1, h1, o.mono e1⟩
    | true => exact iteT (o F1 _ _ _ e1 A1 h1)⟩
theorem t_not (ha : DT X a u) : DT X (.UnaryOp .Not a pos) (rNot u) :=
  weakT (pt_not ha) fun σ H Q ⟨F, ρ, μ, q, A, R, h, o⟩ => ⟨F, ρ, μ, _, A, R, h, fun F1 k H1 μ1 e1 A1 h1 => o F1 _ _ _ e1 A1 h1⟩
/-- truth of a datum -/
def truD (μ : Mu) (d : D) : Option Bool := match rs μ d with
  | .non => some false
  | .bl b => some b
  | .int i => some (i != 0)
  | .lst xs => some (!xs.isEmpty)
  | .tup xs => some (!xs.isEmpty)
  | .dk xs => some (!xs.isEmpty)
  | _ => none
def rTru (t : RE) : RT := fun ρ μ q => t ρ μ fun d μ1 => match truD μ1 d with
  | some b => q b μ1
  | none => False
theorem rpl_empty {K : PySem.W.Frag} {F : Hp} {ds : List D} {vs : List V} (r : RpL K F ds vs) : (!ds.isEmpty) = !vs.isEmpty := by
  cases r <;> rfl
theorem truD_ok {K : PySem.W.Frag} {F H : Hp} {μ : Mu} {d : D} {v : V} {b : Bool} (A : Abs K F μ H) (r : Rp K F d v) (e : truD μ d = some b) : TruV K v H b := by
  unfold truD at e
  cases h : rs μ d with
  | lst xs =>
    rw [h] at e; cases e
    obtain ⟨a, vs, rfl, h2, h3⟩ := view_lst A r h
    exact .inl ⟨vs, SqL.of h2, rpl_empty h3⟩
  | tup xs =>
    rw [h] at e; cases e
    obtain ⟨a, vs, rfl, h2, _, h3⟩ := view_tup A r h
    exact .inr (.inl ⟨vs, SqT.of h2, rpl_empty h3⟩)
  | dk xs =>
    rw [h] at e; cases e
    obtain ⟨a, vs, rfl, h2, h3, _⟩ := view_dk A r h
    refine .inr (.inr ⟨vs, h2, ?_⟩)
    cases xs <;> cases vs <;> first | rfl | cases h3
  | non => rw [h] at e; cases e; cases rs_flat h rfl; cases r; rfl
  | bl c => rw [h] at e; cases e; cases rs_flat h rfl; cases r; rfl
  | int c => rw [h] at e; cases e; cases rs_flat h rfl; cases r; rfl
  | _ => rw [h] at e; cases e
theorem t_truth (ha : DE X a ta) (he : ∀ whole, isTrue a X.env whole = (do let v ← whole; standAt a.pos; holding [v] (truthy v)) := by exact fun _ => rfl) : DT X a (rTru ta) :=
  weakT (pt_truth ha he) fun σ H Q ⟨F, ρ, μ, q, A, R, h, o⟩ => ⟨F, ρ, μ, _, A, R, h, fun F1 x H1 d1 μ1 e1 A1 r1 h1 => by
    cases e : truD μ1 d1 with
    | none => rw [e] at h1; exact h1.elim
    | some b => rw [e] at h1; exact ⟨b, truD_ok A1 r1 e, o F1 b H1 μ1 e1 A1 h1⟩⟩
/-! ### and, or, not as values of truths -/
def rAndV (ta tb : RE) : RE := fun ρ μ q => ta ρ μ fun x μ1 => match x with
  | .bl true => tb ρ μ1 q
  | .bl false => q (.bl false) μ1
  | _ => False
def rOrV (ta tb : RE) : RE := fun ρ μ q => ta ρ μ fun x μ1 => match x with
  | .bl true => q (.bl true) μ1
  | .bl false => tb ρ μ1 q
  | _ => False
def rNotV (ta : RE) : RE := fun ρ μ q => ta ρ μ fun x μ1 => match x with
  | .bl b => q (.bl (!b)) μ1
  | _ => False
theorem d_one {op} (h : DE X a ta) : DE X (.BoolOp op [a] pos) ta := pe_one h
theorem d_and (ha : DE X a ta) (hb : DE X (.BoolOp .And (b :: rest) pos) tb) : DE X (.BoolOp .And (a :: b :: rest) pos) (rAndV ta tb) :=
  weakE (pe_and ha hb) fun σ H Q ⟨F, ρ, μ, q, A, R, h, o⟩ => ⟨F, ρ, μ, _, A, R, h, fun F1 x H1 d1 μ1 e1 A1 r1 h1 => by
    cases d1 with
    | bl k =>
      cases r1
      cases k with
      | true => exact ⟨_, rfl, iteT ⟨F1, ρ, μ1, q, A1, R.mono e1, h1, o.mono e1⟩⟩
      | false => exact ⟨_, rfl, iteF (o F1 _ _ _ _ e1 A1 .bl h1)⟩
    | _ => exact (h1 : False).elim⟩
theorem d_or (ha : DE X a ta) (hb : DE X (.BoolOp .Or (b :: rest) pos) tb) : DE X (.BoolOp .Or (a :: b :: rest) pos) (rOrV ta tb) :=
  weakE (pe_or ha hb) fun σ H Q ⟨F, ρ, μ, q, A, R, h, o⟩ => ⟨F, ρ, μ, _, A, R, h, fun F1 x H1 d1 μ1 e1 A1 r1 h1 => by
    cases d1 with
    | bl k =>
      cases r1
      cases k with
      | false => exact ⟨_, rfl, iteF ⟨F1, ρ, μ1, q, A1, R.mono e1, h1, o.mono e1⟩⟩
      | true => exact ⟨_, rfl, iteT (o F1 _ _ _ _ e1 A1 .bl h1)⟩
    | _ => exact (h1 : False).elim⟩
theorem d_not (ha : DE X a ta) : DE X (.UnaryOp .Not a pos) (rNotV ta) :=
  weakE (pe_not ha) fun σ H Q ⟨F, ρ, μ, q, A, R, h, o⟩ => ⟨F, ρ, μ, _, A, R, h, fun F1 x H1 d1 μ1 e1 A1 r1 h1 => by
    cases d1 with
    | bl k => cases r1; exact ⟨_, rfl, o F1 _ _ _ _ e1 A1 .bl h1⟩
    | _ => exact (h1 : False).elim⟩
/-! ### arguments -/
variable {e : Expr} {es : List Expr} {te : RE} {t : RA}
def rNil : RA := fun _ μ q => q [] μ
def rCons (te : RE) (t : RA) : RA := fun ρ μ q => te ρ μ fun d μ1 => t ρ μ1 fun ds μ2 => q (d :: ds) μ2
theorem a_nil : DA X [] rNil := weakA pa_nil fun σ H Q ⟨F, ρ, μ, q, A, R, h, o⟩ => o F _ _ _ _ (Same.refl F) A .nil h
theorem a_cons (he : DE X e te) (ha : DA X es t) (hs : starEach (e :: es) X.env = (false, eval e X.env) :: starEach es X.env := by rfl) : DA X (e :: es) (rCons te t) :=
  weakA (pa_cons he ha hs) fun σ H Q ⟨F, ρ, μ, q, A, R, h, o⟩ => ⟨F, ρ, μ, _, A, R, h, fun F1 x H1 d1 μ1 e1 A1 r1 h1 =>
    ⟨F1, ρ, μ1, _, A1, R.mono e1, h1, fun F2 xs H2 ds μ2 e2 A2 r2 h2 => o F2 _ _ _ _ (Same.trans e1 e2) A2 (.cons (r1.mono e2) r2) h2⟩⟩
def rLst (own : Bool) (t : RA) : RE := fun ρ μ q => t ρ μ fun ds μ1 => ds.length ≤ sizeLine ∧ newL own ds μ1 q
def rTup (t : RA) : RE := fun ρ μ q => t ρ μ fun ds μ1 => ds.length ≤ sizeLine ∧ q (.tup ds) μ1
theorem d_lst (own : Bool) (h : DA X es t) : DE X (.List es pos) (rLst own t) :=
  weakE (pe_lst h) fun σ H Q ⟨F, ρ, μ, q, A, R, h, o⟩ => ⟨F, ρ, μ, _, A, R, h, fun F1 vs H1 ds μ1 e1 A1 r1 h1 => ⟨r1.length ▸ h1.1, fun p hp => newL_ok A1 r1 h1.2 (o.mono e1) hp⟩⟩
theorem d_tup {k} (h : DA X es t) : DE X (.Tuple es k pos) (rTup t) :=
  weakE (pe_tup h) fun σ H Q ⟨F, ρ, μ, q, A, R, h, o⟩ => ⟨F, ρ, μ, _, A, R, h, fun F1 vs H1 ds μ1 e1 A1 r1 h1 => ⟨r1.length ▸ h1.1, fun p hp => newT_ok A1 r1 h1.2 (o.mono e1) hp⟩⟩
/-! ### built-ins by name -/
def rCB (r : List D → Mu → QD → Prop) (t : RA) : RE := fun ρ μ q => t ρ μ fun ds μ1 => r ds μ1 q
theorem cb_out {r : List D → Mu → QD → Prop} {σ : L2.St} {H : Hp} {Q : VK} (h : upE X.K (rCB r t) σ H Q) : tCB (upL X.K r) (upA X.K t) σ H Q := by
  obtain ⟨F, ρ, μ, q, A, R, h, o⟩ := h
  exact ⟨F, ρ, μ, _, A, R, h, fun F1 vs H1 ds μ1 e1 A1 r1 h1 => ⟨F1, μ1, ds, q, A1, r1, h1, o.mono e1⟩⟩
theorem d_callB {id : String} {r : List D → Mu → QD → Prop} {x : Str} {p : Pos} (hc : CallD X (.builtin id) r) (hm : X.mg x = none) (hv : bootBuiltins x = some (.builtin id)) (ha : DA X (e :: es) t) (hg : Gl X x := by rfl) (hn : x ≠ "__name__" := by decide) (hdb : (x == ("__debug__" : Str)) = false := by decide)
    (he : starEach (e :: es) X.env = (false, eval e X.env) :: starEach es X.env := by rfl) (hpl : (backTo pos (starEach es X.env)).any (·.1) = false := by rfl) : DE X (.Call (.Name x p) (e :: es) [] pos) (rCB r t) :=
  weakE (pe_callB hc hg hm hv ha hn hdb he hpl) fun _ _ _ => cb_out
theorem d_callTy {T : String} {r : List D → Mu → QD → Prop} {x : Str} {p : Pos} (hc : CallD X (.type T) r) (hm : X.mg x = none) (hv : bootBuiltins x = some (.type T)) (ha : DA X (e :: es) t) (hg : Gl X x := by rfl) (hn : x ≠ "__name__" := by decide) (hdb : (x == ("__debug__" : Str)) = false := by decide)
    (he : starEach (e :: es) X.env = (false, eval e X.env) :: starEach es X.env := by rfl) (hpl : (backTo pos (starEach es X.env)).any (·.1) = false := by rfl) : DE X (.Call (.Name x p) (e :: es) [] pos) (rCB r t) :=
  weakE (pe_callTy hc hg hm hv ha hn hdb he hpl) fun _ _ _ => cb_out
end
end DL

/-! The data layer's operators. -/
namespace DL
open PySem PySem.Spec PyProof.Rows L2

section
variable {K : PySem.W.Frag} {F H : Hp} {μ : Mu} {q : QD} {Q : VK} {d : D} {v : V}
theorem OutE.same (o : OutE K F q Q) (A : Abs K F μ H) (r : Rp K F d v) (h : q d μ) : Q v H := o F v H d μ (Same.refl F) A r h
end

/-! ### arithmetic -/
def opAdd (own : Bool) : R2D := fun d e μ q => match rs μ d, rs μ e with
  | .int i, .int j => q (.int (i + j)) μ
  | .str x, .str y => x.length + y.length ≤ sizeLine ∧ q (.str (x ++ y)) μ
  | .lst xs, .lst ys => xs.length + ys.length ≤ sizeLine ∧ newL own (xs ++ ys) μ q
  | .tup xs, .tup ys => xs.length + ys.length ≤ sizeLine ∧ q (.tup (xs ++ ys)) μ
  | _, _ => False
def opSub : R2D := fun d e μ q => match rs μ d, rs μ e with
  | .int i, .int j => q (.int (i - j)) μ
  | _, _ => False
def opMul (own : Bool) : R2D := fun d e μ q => match rs μ d, rs μ e with
  | .int i, .int j => CMul i j ∧ q (.int (i * j)) μ
  | .lst xs, .int k => (-(2 ^ 63) ≤ k ∧ k < 2 ^ 63 ∧ xs.length * k.toNat ≤ sizeLine) ∧ newL own (List.replicate k.toNat xs).flatten μ q
  | .tup xs, .int k => (xs ≠ [] ∧ 2 ≤ k ∧ k ≤ 1000 ∧ xs.length ≤ 1000) ∧ q (.tup (List.replicate k.toNat xs).flatten) μ
  | _, _ => False
def opFdv : R2D := fun d e μ q => match rs μ d, rs μ e with
  | .int i, .int j => CDiv i j ∧ q (.int (i / j)) μ
  | _, _ => False
def opMod : R2D := fun d e μ q => match rs μ d, rs μ e with
  | .int i, .int j => 0 < j ∧ q (.int (i % j)) μ
  | _, _ => False
def opPow : R2D := fun d e μ q => match rs μ d, rs μ e with
  | .int i, .int j => CPow i j ∧ q (.int (i ^ j.toNat)) μ
  | _, _ => False
def opShr : R2D := fun d e μ q => match rs μ d, rs μ e with
  | .int i, .int j => 0 ≤ j ∧ q (.int (i / 2 ^ j.toNat)) μ
  | _, _ => False
def unNeg : D → Mu → QD → Prop := fun d μ q => match rs μ d with
  | .int i => q (.int (-i)) μ
  | _ => False
theorem rpl_nil {K : PySem.W.Frag} {F : Hp} {ds : List D} {vs : List V} (r : RpL K F ds vs) : ds = [] ↔ vs = [] := by
  cases r <;> simp
theorem rpl_rep {K : PySem.W.Frag} {F : Hp} {ds : List D} {vs : List V} (r : RpL K F ds vs) : ∀ n : Nat, RpL K F (List.replicate n ds).flatten (List.replicate n vs).flatten
  | 0 => .nil
  | n + 1 => by
    rw [List.replicate_succ, List.replicate_succ, List.flatten_cons, List.flatten_cons]
    exact r.append (rpl_rep r n)
section
variable {X : Cx}
theorem o_add (own : Bool) : OpD X (binaryOp .Add) (opAdd own) := by
  intro p s σ H x y v u Q I rx ry ⟨F, μ, d, e, q, A, r1, r2, h, o⟩
  unfold opAdd at h
  cases h1 : rs μ d <;> cases h2 : rs μ e <;> rw [h1, h2] at h <;> try exact (h : False).elim
  case int.int i j =>
    cases rs_flat h1 rfl; cases rs_flat h2 rfl; cases r1; cases r2
    exact op_add p s σ H _ _ v u Q I rx ry ⟨i, j, rfl, rfl, o.same A .int h⟩
  case str.str i j =>
    cases rs_flat h1 rfl; cases rs_flat h2 rfl; cases r1; cases r2
    exact op_add_str p s σ H _ _ v u Q I rx ry ⟨i, j, rfl, rfl, h.1, o.same A .str h.2⟩
  case lst.lst i j =>
    obtain ⟨a, vs, rfl, ha, ra⟩ := view_lst A r1 h1
    obtain ⟨b, ws, rfl, hb, rb⟩ := view_lst A r2 h2
    exact op_cat p s σ H _ _ v u Q I rx ry ⟨a, b, vs, ws, rfl, rfl, ha, hb, by rw [← ra.length, ← rb.length]; exact h.1, fun c hc => newL_ok A (ra.append rb) h.2 o hc⟩
  case tup.tup i j =>
    obtain ⟨a, vs, rfl, ha, fa, ra⟩ := view_tup A r1 h1
    obtain ⟨b, ws, rfl, hb, fb, rb⟩ := view_tup A r2 h2
    refine op_catA p s σ H _ _ v u Q I rx ry ⟨a, b, vs, ws, rfl, rfl, SqT.of ha, SqT.of hb, by rw [← ra.length, ← rb.length]; exact h.1, fun e1 => ?_, fun e1 e2 => ?_, fun e1 e2 c hc => newT_ok A (ra.append rb) h.2 o hc⟩
    · cases (rpl_nil ra).mpr e1
      exact o.same A (.tup fb rb) h.2
    · cases (rpl_nil rb).mpr e2
      have h3 := h.2
      rw [List.append_nil] at h3
      exact o.same A (.tup fa ra) h3
theorem o_sub : OpD X (binaryOp .Sub) opSub := by
  intro p s σ H x y v u Q I rx ry ⟨F, μ, d, e, q, A, r1, r2, h, o⟩
  unfold opSub at h
  cases h1 : rs μ d <;> cases h2 : rs μ e <;> rw [h1, h2] at h <;> try exact (h : False).elim
  cases rs_flat h1 rfl; cases rs_flat h2 rfl; cases r1; cases r2
  exact op_sub p s σ H _ _ v u Q I rx ry ⟨_, _, rfl, rfl, o.same A .int h⟩
theorem o_mul (own : Bool) : OpD X (binaryOp .Mult) (opMul own) := by
  intro p s σ H x y v u Q I rx ry ⟨F, μ, d, e, q, A, r1, r2, h, o⟩
  unfold opMul at h
  cases h1 : rs μ d <;> cases h2 : rs μ e <;> rw [h1, h2] at h <;> try exact (h : False).elim
  case int.int i j =>
    cases rs_flat h1 rfl; cases rs_flat h2 rfl; cases r1; cases r2
    exact op_mul p s σ H _ _ v u Q I rx ry ⟨i, j, rfl, rfl, h.1, o.same A .int h.2⟩
  case lst.int i j =>
    cases rs_flat h2 rfl; cases r2
    obtain ⟨a, vs, rfl, ha, ra⟩ := view_lst A r1 h1
    exact op_rep p s σ H _ _ v u Q I rx ry ⟨a, j, vs, rfl, rfl, ha, h.1.1, h.1.2.1, by rw [← ra.length]; exact h.1.2.2, fun c hc => newL_ok A (rpl_rep ra _) h.2 o hc⟩
  case tup.int i j =>
    cases rs_flat h2 rfl; cases r2
    obtain ⟨a, vs, rfl, ha, fa, ra⟩ := view_tup A r1 h1
    exact op_repT p s σ H _ _ v u Q I rx ry ⟨a, j, vs, rfl, rfl, SqT.of ha, fun z => h.1.1 ((rpl_nil ra).mpr z), h.1.2.1, h.1.2.2.1, by rw [← ra.length]; exact h.1.2.2.2, fun c hc => newT_ok A (rpl_rep ra _) h.2 o hc⟩
theorem o_fdv : OpD X (binaryOp .FloorDiv) opFdv := by
  intro p s σ H x y v u Q I rx ry ⟨F, μ, d, e, q, A, r1, r2, h, o⟩
  unfold opFdv at h
  cases h1 : rs μ d <;> cases h2 : rs μ e <;> rw [h1, h2] at h <;> try exact (h : False).elim
  cases rs_flat h1 rfl; cases rs_flat h2 rfl; cases r1; cases r2
  exact op_fdiv p s σ H _ _ v u Q I rx ry ⟨_, _, rfl, rfl, h.1, o.same A .int h.2⟩
theorem o_mod : OpD X (binaryOp .Mod) opMod := by
  intro p s σ H x y v u Q I rx ry ⟨F, μ, d, e, q, A, r1, r2, h, o⟩
  unfold opMod at h
  cases h1 : rs μ d <;> cases h2 : rs μ e <;> rw [h1, h2] at h <;> try exact (h : False).elim
  cases rs_flat h1 rfl; cases rs_flat h2 rfl; cases r1; cases r2
  exact op_mod p s σ H _ _ v u Q I rx ry ⟨_, _, rfl, rfl, h.1, o.same A .int h.2⟩
theorem o_pow : OpD X (binaryOp .Pow) opPow := by
  intro p s σ H x y v u Q I rx ry ⟨F, μ, d, e, q, A, r1, r2, h, o⟩
  unfold opPow at h
  cases h1 : rs μ d <;> cases h2 : rs μ e <;> rw [h1, h2] at h <;> try exact (h : False).elim
  cases rs_flat h1 rfl; cases rs_flat h2 rfl; cases r1; cases r2
  exact op_pow p s σ H _ _ v u Q I rx ry ⟨_, _, rfl, rfl, h.1, o.same A .int h.2⟩
theorem o_shr : OpD X (binaryOp .RShift) opShr := by
  intro p s σ H x y v u Q I rx ry ⟨F, μ, d, e, q, A, r1, r2, h, o⟩
  unfold opShr at h
  cases h1 : rs μ d <;> cases h2 : rs μ e <;> rw [h1, h2] at h <;> try exact (h : False).elim
  cases rs_flat h1 rfl; cases rs_flat h2 rfl; cases r1; cases r2
  exact op_shr p s σ H _ _ v u Q I rx ry ⟨_, _, rfl, rfl, h.1, o.same A .int h.2⟩
theorem u_neg : UnR X (unaryOp .USub) (up1 X.K unNeg) := by
  intro p s σ H x v Q I rx ⟨F, μ, d, q, A, r1, h, o⟩
  unfold unNeg at h
  cases h1 : rs μ d <;> rw [h1] at h <;> try exact (h : False).elim
  cases rs_flat h1 rfl; cases r1
  exact un_neg p s σ H _ v Q I rx ⟨_, rfl, o.same A .int h⟩
end

/-! ### order -/
def intsOf : List D → Option (List Int)
  | [] => some []
  | .int i :: r => (intsOf r).map (i :: ·)
  | _ => none
theorem intsOf_map (ns : List Int) : intsOf (ns.map D.int) = some ns := by
  induction ns with
  | nil => rfl
  | cons n ns ih => show (intsOf (ns.map D.int)).map (n :: ·) = _; rw [ih]; rfl
theorem intsOf_eq : ∀ {ds : List D} {ns : List Int}, intsOf ds = some ns → ds = ns.map D.int
  | [], ns, h => by cases h; rfl
  | .int i :: r, ns, h => by
    change (intsOf r).map (i :: ·) = some ns at h
    cases e : intsOf r with
    | none => rw [e] at h; cases h
    | some ms => rw [e] at h; cases h; rw [intsOf_eq e]; rfl
  | .non :: r, ns, h => by cases h
  | .bl _ :: r, ns, h => by cases h
  | .str _ :: r, ns, h => by cases h
  | .ty _ :: r, ns, h => by cases h
  | .lst _ :: r, ns, h => by cases h
  | .tup _ :: r, ns, h => by cases h
  | .dk _ :: r, ns, h => by cases h
  | .dt _ :: r, ns, h => by cases h
  | .scr _ :: r, ns, h => by cases h
  | .ob _ :: r, ns, h => by cases h
def opLt : R2D := fun d e μ q => match rs μ d, rs μ e with
  | .int i, .int j => q (.bl (decide (i < j))) μ
  | .tup xs, .tup ys => match intsOf xs, intsOf ys with
    | some ns, some ms => q (.bl (HT.lexLt ns ms)) μ
    | _, _ => False
  | _, _ => False
def opLe : R2D := fun d e μ q => match rs μ d, rs μ e with
  | .int i, .int j => q (.bl (decide (i ≤ j))) μ
  | _, _ => False
def opGt : R2D := fun d e μ q => match rs μ d, rs μ e with
  | .int i, .int j => q (.bl (decide (j < i))) μ
  | _, _ => False
def opGe : R2D := fun d e μ q => match rs μ d, rs μ e with
  | .int i, .int j => q (.bl (decide (j ≤ i))) μ
  | _, _ => False
section
variable {X : Cx}
theorem o_lt (hu : X.A.units < cLine) : OpD X (compareOp .Lt) opLt := by
  intro p s σ H x y v u Q I rx ry ⟨F, μ, d, e, q, A, r1, r2, h, o⟩
  unfold opLt at h
  cases h1 : rs μ d <;> cases h2 : rs μ e <;> rw [h1, h2] at h <;> try exact (h : False).elim
  case int.int i j =>
    cases rs_flat h1 rfl; cases rs_flat h2 rfl; cases r1; cases r2
    exact op_lt p s σ H _ _ v u Q I rx ry ⟨i, j, rfl, rfl, o.same A .bl h⟩
  case tup.tup i j =>
    obtain ⟨a, vs, rfl, ha, fa, ra⟩ := view_tup A r1 h1
    obtain ⟨b, ws, rfl, hb, fb, rb⟩ := view_tup A r2 h2
    cases e1 : intsOf i with
    | none => simp only [e1] at h
    | some ns =>
      cases e2 : intsOf j with
      | none => simp only [e1, e2] at h
      | some ms =>
        simp only [e1, e2] at h
        rw [intsOf_eq e1] at ra
        rw [intsOf_eq e2] at rb
        rw [ra.ints] at ha
        rw [rb.ints] at hb
        exact op_ltT hu p s σ H _ _ v u Q I rx ry ⟨a, b, ns, ms, rfl, rfl, SqT.of ha, SqT.of hb, o.same A .bl h⟩
theorem o_le : OpD X (compareOp .LtE) opLe := by
  intro p s σ H x y v u Q I rx ry ⟨F, μ, d, e, q, A, r1, r2, h, o⟩
  unfold opLe at h
  cases h1 : rs μ d <;> cases h2 : rs μ e <;> rw [h1, h2] at h <;> try exact (h : False).elim
  cases rs_flat h1 rfl; cases rs_flat h2 rfl; cases r1; cases r2
  exact op_le p s σ H _ _ v u Q I rx ry ⟨_, _, rfl, rfl, o.same A .bl h⟩
theorem o_gt : OpD X (compareOp .Gt) opGt := by
  intro p s σ H x y v u Q I rx ry ⟨F, μ, d, e, q, A, r1, r2, h, o⟩
  unfold opGt at h
  cases h1 : rs μ d <;> cases h2 : rs μ e <;> rw [h1, h2] at h <;> try exact (h : False).elim
  cases rs_flat h1 rfl; cases rs_flat h2 rfl; cases r1; cases r2
  exact op_gt p s σ H _ _ v u Q I rx ry ⟨_, _, rfl, rfl, o.same A .bl h⟩
theorem o_ge : OpD X (compareOp .GtE) opGe := by
  intro p s σ H x y v u Q I rx ry ⟨F, μ, d, e, q, A, r1, r2, h, o⟩
  unfold opGe at h
  cases h1 : rs μ d <;> cases h2 : rs μ e <;> rw [h1, h2] at h <;> try exact (h : False).elim
  cases rs_flat h1 rfl; cases rs_flat h2 rfl; cases r1; cases r2
  exact op_ge p s σ H _ _ v u Q I rx ry ⟨_, _, rfl, rfl, o.same A .bl h⟩
end

/-! ### == of data -/
mutual
def toPy : D → PyData
  | .bl b => .bool b
  | .int i => .int i
  | .str x => .str x
  | .lst xs => .list (toPyL xs)
  | .tup xs => .tuple (toPyL xs)
  | _ => .none
def toPyL : List D → List PyData
  | [] => []
  | d :: r => toPy d :: toPyL r
end
mutual
def pyOk : D → Bool
  | .non => true
  | .bl _ => true
  | .int _ => true
  | .str _ => true
  | .lst xs => pyOkL xs
  | .tup xs => pyOkL xs
  | _ => false
def pyOkL : List D → Bool
  | [] => true
  | d :: r => pyOk d && pyOkL r
end
theorem ok_and {a b : Bool} (h : (a && b) = true) : a = true ∧ b = true := Bool.and_eq_true_iff.mp h
mutual
theorem dp_of {K : PySem.W.Frag} {F H : Hp} (s : ∀ a o, F a = some o → H a = some o) : ∀ {d : D} {v : V}, pyOk d = true → Rp K F d v → Dp K H v (toPy d)
  | .non, _, _, .non => .non
  | .bl b, _, _, .bl => .bl b
  | .int i, _, _, .int => .int i
  | .str x, _, _, .str => .str x
  | .lst xs, _, k, .lst h r => .lst (SqL.of (s _ _ h)) (dpA_of s (by simpa [pyOk] using k) r)
  | .tup xs, _, k, .tup h r => .tup (SqT.of (s _ _ h)) (dpA_of s (by simpa [pyOk] using k) r)
  | .ty _, _, k, _ => by simp [pyOk] at k
  | .dk _, _, k, _ => by simp [pyOk] at k
  | .dt _, _, k, _ => by simp [pyOk] at k
  | .scr _, _, k, _ => by simp [pyOk] at k
  | .ob _, _, k, _ => by simp [pyOk] at k
theorem dpA_of {K : PySem.W.Frag} {F H : Hp} (s : ∀ a o, F a = some o → H a = some o) : ∀ {ds : List D} {vs : List V}, pyOkL ds = true → RpL K F ds vs → DpAll K H vs (toPyL ds)
  | [], _, _, .nil => .nil
  | d :: ds, _, k, .cons h r => .cons (dp_of s (ok_and (by simpa only [pyOkL] using k)).1 h) (dpA_of s (ok_and (by simpa only [pyOkL] using k)).2 r)
end
theorem view_py {K : PySem.W.Frag} {F H : Hp} {μ : Mu} {d : D} {v : V} (A : Abs K F μ H) (r : Rp K F d v) (k : pyOk (rs μ d) = true) : Dp K H v (toPy (rs μ d)) := by
  cases d with
  | ob a =>
    rw [rs_ob] at k ⊢
    cases h : μ a with
    | none => rw [h] at k; simp [moD, pyOk] at k
    | some m =>
      rw [h] at k
      cases m with
      | lst ds =>
        obtain ⟨vs, h1, h2⟩ := A.lstM h
        cases r
        exact .lst (SqL.of h1) (dpA_of A.sub (by simpa [moD, pyOk] using k) h2)
      | dk ds => simp [moD, pyOk] at k
      | dt ds => simp [moD, pyOk] at k
      | ins C ds => simp [moD, pyOk] at k
  | _ => exact dp_of A.sub k r
def shp (d : D) : Bool := pyOk d && SeqAt.shaped (toPy d)
def eqD (d e : D) : Bool := PyData.eqv (toPy d) (toPy e)
def opEq : R2D := fun d e μ q => shp (rs μ d) = true ∧ shp (rs μ e) = true ∧ q (.bl (eqD (rs μ d) (rs μ e))) μ
def opNe : R2D := fun d e μ q => shp (rs μ d) = true ∧ shp (rs μ e) = true ∧ q (.bl (!eqD (rs μ d) (rs μ e))) μ
def flatD : D → Bool
  | .non => true
  | .bl _ => true
  | .int _ => true
  | .str _ => true
  | _ => false
def inD (d : D) (ds : List D) : Bool := ds.any fun z => eqD z d
def opIn (neg : Bool) : R2D := fun d e μ q => match rs μ e with
  | .lst xs => shp (rs μ d) = true ∧ shp (.lst xs) = true ∧ q (.bl (if neg then !inD (rs μ d) xs else inD (rs μ d) xs)) μ
  | .tup xs => flatD (rs μ d) = true ∧ xs.all flatD = true ∧ q (.bl (if neg then !inD (rs μ d) xs else inD (rs μ d) xs)) μ
  | _ => False
def isNonD : D → Bool
  | .non => true
  | _ => false
def opIs (neg : Bool) : R2D := fun d e μ q => match e with
  | .non => q (.bl (if neg then !isNonD d else isNonD d)) μ
  | .bl b => match d with
    | .bl a => q (.bl (if neg then !decide (a = b) else decide (a = b))) μ
    | _ => False
  | _ => False
theorem toPyL_any {d : PyData} : ∀ ds : List D, ((toPyL ds).any fun z => PyData.eqv z d) = ds.any fun z => PyData.eqv (toPy z) d
  | [] => rfl
  | x :: r => by simp only [toPyL, List.any_cons, toPyL_any r]
theorem flat_V {K : PySem.W.Frag} {F : Hp} {d : D} {v : V} (f : flatD d = true) (r : Rp K F d v) : flatV v = true := by
  cases d with
  | non => cases r; rfl
  | bl b => cases r; rfl
  | int i => cases r; rfl
  | str x => cases r; rfl
  | _ => cases f
theorem eq_V {K : PySem.W.Frag} {F : Hp} {d e : D} {v u : V} (f : flatD d = true) (r : Rp K F d v) (f' : flatD e = true) (r' : Rp K F e u) : eqV v u = eqD d e := by
  cases d with
  | non => cases r; cases e with
    | non => cases r'; rfl
    | bl b => cases r'; rfl
    | int i => cases r'; rfl
    | str x => cases r'; rfl
    | _ => cases f'
  | bl b => cases r; cases e with
    | non => cases r'; rfl
    | bl b => cases r'; rfl
    | int i => cases r'; rfl
    | str x => cases r'; rfl
    | _ => cases f'
  | int i => cases r; cases e with
    | non => cases r'; rfl
    | bl b => cases r'; rfl
    | int i => cases r'; rfl
    | str x => cases r'; rfl
    | _ => cases f'
  | str x => cases r; cases e with
    | non => cases r'; rfl
    | bl b => cases r'; rfl
    | int i => cases r'; rfl
    | str x => cases r'; rfl
    | _ => cases f'
  | _ => cases f
theorem in_V {K : PySem.W.Frag} {F : Hp} {d : D} {v : V} (f : flatD d = true) (r : Rp K F d v) : ∀ {ds : List D} {vs : List V}, ds.all flatD = true → RpL K F ds vs → vs.all flatV = true ∧ inV v vs = inD d ds
  | _, _, _, .nil => ⟨rfl, rfl⟩
  | x :: ds, _, h, .cons h1 r1 => by
    have h' := ok_and (by simpa only [List.all_cons] using h)
    obtain ⟨a, b⟩ := in_V f r h'.2 r1
    refine ⟨by simp only [List.all_cons, flat_V h'.1 h1, a, Bool.and_self], ?_⟩
    show (List.any (_ :: _) _) = (List.any (_ :: _) _)
    rw [List.any_cons, List.any_cons, eq_V h'.1 h1 f r]
    exact congrArg _ b
section
variable {X : Cx}
theorem o_eq (hu : X.A.units + 64 < cLine) : OpD X (compareOp .Eq) opEq := by
  intro p s σ H x y v u Q I rx ry ⟨F, μ, d, e, q, A, r1, r2, ⟨h1, h2, h⟩, o⟩
  obtain ⟨k1, s1⟩ := ok_and h1
  obtain ⟨k2, s2⟩ := ok_and h2
  exact op_eqD hu p s σ H x y v u Q I rx ry ⟨_, _, view_py A r1 k1, view_py A r2 k2, s1, s2, o.same A .bl h⟩
theorem o_ne (hu : X.A.units + 64 < cLine) : OpD X (compareOp .NotEq) opNe := by
  intro p s σ H x y v u Q I rx ry ⟨F, μ, d, e, q, A, r1, r2, ⟨h1, h2, h⟩, o⟩
  obtain ⟨k1, s1⟩ := ok_and h1
  obtain ⟨k2, s2⟩ := ok_and h2
  exact op_neD hu p s σ H x y v u Q I rx ry ⟨_, _, view_py A r1 k1, view_py A r2 k2, s1, s2, o.same A .bl h⟩
theorem o_in (hu : X.A.units + 65 < cLine) : OpD X (compareOp .In) (opIn false) := by
  intro p s σ H x y v u Q I rx ry ⟨F, μ, d, e, q, A, r1, r2, h, o⟩
  unfold opIn at h
  cases h2 : rs μ e <;> rw [h2] at h <;> try exact (h : False).elim
  case lst xs =>
    obtain ⟨k1, k2, h⟩ := h
    obtain ⟨k1, s1⟩ := ok_and k1
    obtain ⟨k2, s2⟩ := ok_and k2
    refine op_inD hu p s σ H x y v u Q I rx ry ⟨_, toPyL xs, view_py A r1 k1, by have z := view_py A r2 (by rw [h2]; exact k2); rw [h2] at z; simpa only [toPy] using z, s1, by simpa only [toPy] using s2, o.same A ?_ h⟩
    rw [toPyL_any]
    exact .bl
  case tup xs =>
    obtain ⟨k1, k2, h⟩ := h
    obtain ⟨a, vs, rfl, ha, fa, ra⟩ := view_tup A r2 h2
    have e1 : rs μ d = d := by
      cases d with
      | ob b => rw [rs_ob] at k1; cases h' : μ b with
        | none => rw [h'] at k1; cases k1
        | some m => rw [h'] at k1; cases m <;> cases k1
      | _ => rfl
    rw [e1] at k1 h
    obtain ⟨z1, z2⟩ := in_V k1 r1 k2 ra
    refine op_in_seq p s σ H x _ v u Q I rx ry ⟨a, vs, rfl, .inr (SqT.of ha), flat_V k1 r1, z1, o.same A ?_ h⟩
    show Rp _ _ _ (V.bl (inV x vs))
    rw [z2]
    exact .bl
theorem o_notin (hu : X.A.units + 65 < cLine) : OpD X (compareOp .NotIn) (opIn true) := by
  intro p s σ H x y v u Q I rx ry ⟨F, μ, d, e, q, A, r1, r2, h, o⟩
  unfold opIn at h
  cases h2 : rs μ e <;> rw [h2] at h <;> try exact (h : False).elim
  case lst xs =>
    obtain ⟨k1, k2, h⟩ := h
    obtain ⟨k1, s1⟩ := ok_and k1
    obtain ⟨k2, s2⟩ := ok_and k2
    refine op_notInD hu p s σ H x y v u Q I rx ry ⟨_, toPyL xs, view_py A r1 k1, by have z := view_py A r2 (by rw [h2]; exact k2); rw [h2] at z; simpa only [toPy] using z, s1, by simpa only [toPy] using s2, o.same A ?_ h⟩
    rw [toPyL_any]
    exact .bl
  case tup xs =>
    obtain ⟨k1, k2, h⟩ := h
    obtain ⟨a, vs, rfl, ha, fa, ra⟩ := view_tup A r2 h2
    have e1 : rs μ d = d := by
      cases d with
      | ob b => rw [rs_ob] at k1; cases h' : μ b with
        | none => rw [h'] at k1; cases k1
        | some m => rw [h'] at k1; cases m <;> cases k1
      | _ => rfl
    rw [e1] at k1 h
    obtain ⟨z1, z2⟩ := in_V k1 r1 k2 ra
    refine op_notIn_seq p s σ H x _ v u Q I rx ry ⟨a, vs, rfl, .inr (SqT.of ha), flat_V k1 r1, z1, o.same A ?_ h⟩
    show Rp _ _ _ (V.bl (!inV x vs))
    rw [z2]
    exact .bl
theorem rp_isnon {K : PySem.W.Frag} {F : Hp} {d : D} {x : V} (r : Rp K F d x) : decide (x = .non) = isNonD d := by
  cases r <;> first | rfl | exact decide_eq_false (fun z => nomatch z)
theorem o_is : OpD X (compareOp .Is) (opIs false) := by
  intro p s σ H x y v u Q I rx ry ⟨F, μ, d, e, q, A, r1, r2, h, o⟩
  unfold opIs at h
  cases r2 <;> try exact (h : False).elim
  case non => exact op_isN p s σ H x _ v u Q I rx ry ⟨rfl, by rw [rp_isnon r1]; exact o.same A .bl h⟩
  case bl b =>
    cases r1 <;> try exact (h : False).elim
    exact op_is_bl p s σ H _ _ v u Q I rx ry ⟨_, _, rfl, rfl, o.same A .bl h⟩
theorem o_isnot : OpD X (compareOp .IsNot) (opIs true) := by
  intro p s σ H x y v u Q I rx ry ⟨F, μ, d, e, q, A, r1, r2, h, o⟩
  unfold opIs at h
  cases r2 <;> try exact (h : False).elim
  case non => exact op_notN p s σ H x _ v u Q I rx ry ⟨rfl, by rw [rp_isnon r1]; exact o.same A .bl h⟩
  case bl b =>
    cases r1 <;> try exact (h : False).elim
    exact op_isnot_bl p s σ H _ _ v u Q I rx ry ⟨_, _, rfl, rfl, o.same A .bl h⟩
end
end DL

/-! The data layer: subscripts, slices, dicts, built-ins. -/
namespace DL
open PySem PySem.Spec PyProof.Rows L2

/-! ### subscripts -/
theorem rpl_at {K : PySem.W.Frag} {F : Hp} {ds : List D} {vs : List V} {i : Int} {d : D} (r : RpL K F ds vs) (h : atI ds i = some d) : ∃ v, atI vs i = some v ∧ Rp K F d v := by
  unfold atI at h ⊢
  rw [← r.length]
  cases e : ixN ds.length i with
  | none => rw [e] at h; cases h
  | some j => rw [e] at h; exact r.get h
def opIx : R2D := fun d e μ q => match e with
  | .int i => match rs μ d with
    | .lst xs => match atI xs i with
      | some x => q x μ
      | none => False
    | .tup xs => match atI xs i with
      | some x => q x μ
      | none => False
    | .scr ns => match atI ns i with
      | some n => q (.int n) μ
      | none => False
    | .str z => z.length ≤ sizeLine ∧ match atI z.cps.toList i with
      | some c => q (.str ⟨#[c]⟩) μ
      | none => False
    | _ => False
  | _ => False
section
variable {X : Cx}
theorem i_ix : IxR X (up2 X.K opIx) := by
  intro value slice p s σ H x y v u Q I rx ry ⟨F, μ, d, e, q, A, r1, r2, h, o⟩ hs
  unfold opIx at h
  cases r2 <;> try exact (h : False).elim
  case int i =>
  cases h1 : rs μ d <;> simp only [h1] at h <;> try exact (h : False).elim
  case lst xs =>
    obtain ⟨a, vs, rfl, ha, ra⟩ := view_lst A r1 h1
    cases e : atI xs i with
    | none => simp only [e] at h
    | some z =>
      simp only [e] at h
      obtain ⟨w, e1, e2⟩ := rpl_at ra e
      exact ix_list value slice p s σ H _ _ v u Q I rx ry ⟨a, vs, i, w, rfl, rfl, SqL.of ha, e1, o.same A e2 h⟩ hs
  case tup xs =>
    obtain ⟨a, vs, rfl, ha, fa, ra⟩ := view_tup A r1 h1
    cases e : atI xs i with
    | none => simp only [e] at h
    | some z =>
      simp only [e] at h
      obtain ⟨w, e1, e2⟩ := rpl_at ra e
      exact ix_tup value slice p s σ H _ _ v u Q I rx ry ⟨a, vs, i, w, rfl, rfl, SqT.of ha, e1, o.same A e2 h⟩ hs
  case scr ns =>
    cases rs_flat h1 rfl
    cases r1 with
    | scr hq =>
      cases e : atI ns i with
      | none => simp only [e] at h
      | some z =>
        simp only [e] at h
        refine ix_list value slice p s σ H _ _ v u Q I rx ry ⟨_, _, i, .int z, rfl, rfl, Same.seq A.sub hq, ?_, o.same A .int h⟩ hs
        unfold atI at e ⊢
        rw [List.length_map]
        cases e2 : ixN ns.length i with
        | none => rw [e2] at e; cases e
        | some j => rw [e2] at e; show (ns.map V.int)[j]? = _; rw [List.getElem?_map, show ns[j]? = some z from e]; rfl
  case str z =>
    cases rs_flat h1 rfl
    cases r1
    cases e : atI z.cps.toList i with
    | none => simp only [e] at h; exact h.2.elim
    | some c =>
      simp only [e] at h
      exact ix_str value slice p s σ H _ _ v u Q I rx ry ⟨z, i, c, rfl, rfl, h.1, e, o.same A .str h.2⟩ hs
variable {a b : Expr} {ta tb : RE} {pos p2 : Pos}
theorem d_ix (ha : DE X a ta) (hb : DE X b tb) (hs : PlainIx b := by exact fun _ _ => rfl) : DE X (.Subscript a b pos) (rOp opIx ta tb) := weakE (pe_ix i_ix ha hb hs) fun _ _ _ => two
/-! ### slices -/
def cutL (xs : List D) (lo hi : Option Int) : List D := (xs.drop (HT.sIx xs.length 0 lo)).take (HT.sIx xs.length xs.length hi - HT.sIx xs.length 0 lo)
theorem rpl_cutL {K : PySem.W.Frag} {F : Hp} {ds : List D} {vs : List V} (r : RpL K F ds vs) (lo hi : Option Int) : RpL K F (cutL ds lo hi) (cutV vs lo hi) := by
  unfold cutL cutV
  rw [r.length]
  exact (r.drop _).take _
def slD (own : Bool) : D → Option Int → Option Int → Mu → QD → Prop := fun d lo hi μ q => match rs μ d with
  | .lst xs => newL own (cutL xs lo hi) μ q
  | .tup xs => q (.tup (cutL xs lo hi)) μ
  | .str z => z.length ≤ sizeLine ∧ q (.str (cutS z lo hi)) μ
  | _ => False
abbrev QO := Option Int → Mu → Prop
abbrev RO' := Rho → Mu → QO → Prop
def OutO (K : PySem.W.Frag) (F : Hp) (q : QO) (Q : Option Int → Hp → Prop) : Prop := ∀ F' i H' μ', Ext F F' → Abs K F' μ' H' → q i μ' → Q i H'
def upO (K : PySem.W.Frag) (t : RO') : TO := fun σ H Q => ∃ F ρ μ q, Abs K F μ H ∧ RS K F ρ σ ∧ t ρ μ q ∧ OutO K F q Q
def rNoP : RO' := fun _ μ q => q none μ
def rSoP (t : RE) : RO' := fun ρ μ q => t ρ μ fun d μ1 => match d with
  | .int i => q (some i) μ1
  | _ => False
theorem o_none : PO X none (upO X.K rNoP) := by
  refine ⟨fun pins s σ H Q I ⟨F, ρ, μ, q, A, R, h, o⟩ => po_none.run pins s σ H Q I ?_⟩
  exact o F none H μ (Same.refl F) A h
theorem o_some {e : Expr} {t : RE} (he : DE X e t) : PO X (some e) (upO X.K (rSoP t)) := by
  refine ⟨fun pins s σ H Q I ⟨F, ρ, μ, q, A, R, h, o⟩ => (po_some he).run pins s σ H Q I ?_⟩
  refine ⟨F, ρ, μ, _, A, R, h, fun F1 x H1 d1 μ1 e1 A1 r1 h1 => ?_⟩
  cases d1 with
  | int i => cases r1; exact ⟨i, rfl, o F1 _ _ _ e1 A1 h1⟩
  | _ => exact (h1 : False).elim
def rSl (own : Bool) (t : RE) (lo hi : RO') : RE := fun ρ μ q => t ρ μ fun d μ1 => lo ρ μ1 fun l μ2 => hi ρ μ2 fun u μ3 => slD own d l u μ3 q
def upSl (K : PySem.W.Frag) (own : Bool) : V → Option Int → Option Int → Hp → VK → Prop := fun x lo hi H Q => ∃ F μ d q, Abs K F μ H ∧ Rp K F d x ∧ slD own d lo hi μ q ∧ OutE K F q Q
theorem i_sl (own : Bool) : L2.SlR X (upSl X.K own) := by
  intro p s σ H x v vl vu lo hi sl Q I rx hs pl pu ⟨F, μ, d, q, A, r1, h, o⟩
  unfold slD at h
  cases h1 : rs μ d <;> rw [h1] at h <;> try exact (h : False).elim
  case lst xs =>
    obtain ⟨a, vs, rfl, ha, ra⟩ := view_lst A r1 h1
    exact sl_list p s σ H _ v vl vu lo hi sl Q I rx hs pl pu ⟨a, vs, rfl, SqL.of ha, fun c hc => newL_ok A (rpl_cutL ra lo hi) h o hc⟩
  case tup xs =>
    obtain ⟨a, vs, rfl, ha, fa, ra⟩ := view_tup A r1 h1
    refine sl_tupA p s σ H _ v vl vu lo hi sl Q I rx hs pl pu ⟨a, vs, rfl, SqT.of ha, fun e => ?_, fun _ c hc => newT_ok A (rpl_cutL ra lo hi) h o hc⟩
    have e2 : cutL xs lo hi = xs := by
      unfold cutL
      rw [ra.length, e.1, e.2, List.drop_zero, Nat.sub_zero, ← ra.length, List.take_length]
    have h : q (.tup (cutL xs lo hi)) μ := h
    rw [e2] at h
    exact o.same A (.tup fa ra) h
  case str z =>
    cases rs_flat h1 rfl
    cases r1
    exact sl_str p s σ H _ v vl vu lo hi sl Q I rx hs pl pu ⟨z, rfl, h.1, o.same A .str h.2⟩
theorem d_slice (own : Bool) {lo hi : Option Expr} {tl th : RO'} (he : DE X a ta) (hl : PO X lo (upO X.K tl)) (hu : PO X hi (upO X.K th)) : DE X (.Subscript a (.Slice lo hi none p2) pos) (rSl own ta tl th) :=
  weakE (pe_slice (i_sl own) he hl hu) fun σ H Q ⟨F, ρ, μ, q, A, R, h, o⟩ =>
    ⟨F, ρ, μ, _, A, R, h, fun F1 x H1 d1 μ1 e1 A1 r1 h1 =>
      ⟨F1, ρ, μ1, _, A1, R.mono e1, h1, fun F2 l H2 μ2 e2 A2 h2 =>
        ⟨F2, ρ, μ2, _, A2, R.mono (Same.trans e1 e2), h2, fun F3 u H3 μ3 e3 A3 h3 =>
          ⟨F3, μ3, d1, q, A3, r1.mono (Same.trans e2 e3), h3, o.mono (Same.trans e1 (Same.trans e2 e3))⟩⟩⟩⟩
end

/-! ### dicts -/
section
variable {κ α : Type} [DecidableEq κ]
def valG (kvs : List (κ × α)) (k : κ) : Option α := (kvs.find? fun kv => decide (kv.1 = k)).map (·.2)
def putG (kvs : List (κ × α)) (k : κ) (v : α) : List (κ × α) :=
  if (kvs.any fun kv => decide (kv.1 = k)) = true then kvs.map (fun kv => if kv.1 = k then (kv.1, v) else kv) else kvs ++ [(k, v)]
theorem valG_nil {k : κ} : valG ([] : List (κ × α)) k = none := rfl
theorem valG_pos {p : κ × α} {r : List (κ × α)} {k : κ} (e : p.1 = k) : valG (p :: r) k = some p.2 := by simp [valG, List.find?_cons, e]
theorem valG_neg {p : κ × α} {r : List (κ × α)} {k : κ} (e : ¬ p.1 = k) : valG (p :: r) k = valG r k := by simp [valG, List.find?_cons, e]
end
structure RKV (K : PySem.W.Frag) (F : Hp) {κ : Type} (kvs : List (κ × D)) (vs : List (κ × V)) : Prop where
  keys : kvs.map Prod.fst = vs.map Prod.fst
  vals : RpL K F (kvs.map Prod.snd) (vs.map Prod.snd)
section
variable {κ : Type} [DecidableEq κ] {K : PySem.W.Frag} {F : Hp}
theorem RKV.ind {P : List (κ × D) → List (κ × V) → Prop} (h0 : P [] []) (h1 : ∀ k d v kvs vs, Rp K F d v → RKV K F kvs vs → P kvs vs → P ((k, d) :: kvs) ((k, v) :: vs)) : ∀ {kvs : List (κ × D)} {vs : List (κ × V)}, RKV K F kvs vs → P kvs vs
  | [], [], _ => h0
  | (k, d) :: kvs, (k', v) :: vs, r => by
    obtain ⟨e, l⟩ := r
    rw [List.map_cons, List.map_cons] at e
    rw [List.map_cons, List.map_cons] at l
    injection e with e1 e2
    cases l with
    | cons a b =>
      obtain rfl : k = k' := e1
      exact h1 k d v kvs vs a ⟨e2, b⟩ (RKV.ind h0 h1 ⟨e2, b⟩)
  | [], _ :: _, r => by cases r.keys
  | _ :: _, [], r => by cases r.keys
theorem RKV.length {kvs : List (κ × D)} {vs : List (κ × V)} (r : RKV K F kvs vs) : kvs.length = vs.length := by
  have := congrArg List.length r.keys
  simpa using this
theorem RKV.val {kvs : List (κ × D)} {vs : List (κ × V)} (r : RKV K F kvs vs) (k : κ) : (valG kvs k = none ∧ valV vs k = none) ∨ ∃ d v, valG kvs k = some d ∧ valV vs k = some v ∧ Rp K F d v := by
  refine RKV.ind (K := K) (F := F) (P := fun kvs vs => (valG kvs k = none ∧ valV vs k = none) ∨ ∃ d v, valG kvs k = some d ∧ valV vs k = some v ∧ Rp K F d v) (.inl ⟨rfl, rfl⟩) (fun k' d v kvs vs rp _ ih => ?_) r
  by_cases h : k' = k
  · exact .inr ⟨d, v, valG_pos h, valV_pos h, rp⟩
  · rw [valG_neg (p := (k', d)) h, valV_neg (p := (k', v)) h]; exact ih
theorem RKV.put {kvs : List (κ × D)} {vs : List (κ × V)} (r : RKV K F kvs vs) (k : κ) {d : D} {v : V} (rp : Rp K F d v) : RKV K F (putG kvs k d) (putK vs k v) := by
  have hany : (kvs.any fun kv => decide (kv.1 = k)) = (vs.any fun kv => decide (kv.1 = k)) := by
    refine RKV.ind (K := K) (F := F) (P := fun kvs vs => (kvs.any fun kv => decide (kv.1 = k)) = (vs.any fun kv => decide (kv.1 = k))) rfl (fun k' d v kvs vs _ _ ih => ?_) r
    rw [List.any_cons, List.any_cons, ih]
  unfold putG putK
  rw [hany]
  by_cases hb : (vs.any fun kv => decide (kv.1 = k)) = true
  · rw [if_pos hb, if_pos hb]
    refine RKV.ind (K := K) (F := F) (P := fun kvs vs => RKV K F (kvs.map fun kv => if kv.1 = k then (kv.1, d) else kv) (vs.map fun kv => if kv.1 = k then (kv.1, v) else kv)) ⟨rfl, .nil⟩ (fun k' d' v' kvs vs rp' _ ih => ?_) r
    by_cases h : k' = k
    · simp only [List.map_cons, h, if_true]
      exact ⟨by simp only [List.map_cons]; rw [ih.keys], by simp only [List.map_cons]; exact .cons rp ih.vals⟩
    · simp only [List.map_cons, h, if_false]
      exact ⟨by simp only [List.map_cons]; rw [ih.keys], by simp only [List.map_cons]; exact .cons rp' ih.vals⟩
  · rw [if_neg hb, if_neg hb]
    exact ⟨by rw [List.map_append, List.map_append, r.keys]; rfl, by rw [List.map_append, List.map_append]; exact r.vals.append (.cons rp .nil)⟩
end
/-- a datum as a key -/
def keyOf : D → Option Key
  | .int i => some (.inl i)
  | .str x => some (.inr x)
  | _ => none
def keysOf : List D → Option (List Key)
  | [] => some []
  | d :: r => match keyOf d, keysOf r with
    | some k, some ks => some (k :: ks)
    | _, _ => none
theorem keyOf_v {K : PySem.W.Frag} {F : Hp} {d : D} {v : V} {k : Key} (h : keyOf d = some k) (r : Rp K F d v) : v = kV k := by
  cases r <;> first | cases h | skip
  all_goals rfl
theorem keysOf_v {K : PySem.W.Frag} {F : Hp} : ∀ {ds : List D} {vs : List V} {ks : List Key}, keysOf ds = some ks → RpL K F ds vs → vs = ks.map kV
  | [], _, ks, h, .nil => by cases h; rfl
  | d :: ds, _, ks, h, .cons r1 r2 => by
    unfold keysOf at h
    cases e1 : keyOf d with
    | none => simp only [e1] at h; cases h
    | some k =>
      cases e2 : keysOf ds with
      | none => simp only [e1, e2] at h; cases h
      | some ks' =>
        simp only [e1, e2] at h
        cases h
        rw [keyOf_v e1 r1, keysOf_v e2 r2]; rfl
/-- what a dict has at a key: none: it is no such dict or no such key -/
def dGet (μ : Mu) (d y : D) : Option (Option D) := match rs μ d with
  | .dk kvs => (keyOf y).map fun k => valG kvs k
  | .dt kvs => match y with
    | .tup ds => (keysOf ds).map fun k => valG kvs k
    | _ => none
  | _ => none
theorem dGet_ok {K : PySem.W.Frag} {F H : Hp} {μ : Mu} {d y : D} {v w : V} {r : Option D} (A : Abs K F μ H) (r1 : Rp K F d v) (r2 : Rp K F y w) (h : dGet μ d y = some r) :
    ∃ a o, v = .ref a ∧ DGet H a w o ∧ ((r = none ∧ o = none) ∨ ∃ x z, r = some x ∧ o = some z ∧ Rp K F x z) := by
  unfold dGet at h
  cases h1 : rs μ d <;> rw [h1] at h <;> try (cases h; done)
  case dk kvs =>
    obtain ⟨a, vs, rfl, ha, e1, e2⟩ := view_dk A r1 h1
    cases e : keyOf y with
    | none => simp only [e] at h; cases h
    | some k =>
      simp only [e] at h
      cases h
      cases keyOf_v e r2
      refine ⟨a, valV vs k, rfl, DGet.k ha, ?_⟩
      rcases (RKV.mk (K := K) (F := F) e1 e2).val k with ⟨z1, z2⟩ | ⟨x, z, z1, z2, z3⟩
      · exact .inl ⟨z1, z2⟩
      · exact .inr ⟨x, z, z1, z2, z3⟩
  case dt kvs =>
    obtain ⟨a, vs, rfl, ha, e1, e2⟩ := view_dt A r1 h1
    cases r2 <;> try (cases h; done)
    case tup b ds ws hb rl =>
      simp only at h
      cases e : keysOf ds with
      | none => simp only [e] at h; cases h
      | some k =>
        simp only [e] at h
        cases h
        refine ⟨a, valV vs k, rfl, DGet.t ha (by rw [← keysOf_v e rl]; exact A.sub _ _ hb), ?_⟩
        rcases (RKV.mk (K := K) (F := F) e1 e2).val k with ⟨z1, z2⟩ | ⟨x, z, z1, z2, z3⟩
        · exact .inl ⟨z1, z2⟩
        · exact .inr ⟨x, z, z1, z2, z3⟩
section
variable {X : Cx} {o i f : Expr} {td ty tx : RE} {pos apos cpos : Pos}
def rDGet (td ty : RE) : RE := fun ρ μ q => td ρ μ fun d μ1 => ty ρ μ1 fun y μ2 => match dGet μ2 d y with
  | some (some x) => q x μ2
  | _ => False
theorem d_dget (hu : X.A.units + 1 < cLine) (ho : DE X o td) (hi : DE X i ty) (hs : NoSl i := by exact fun _ _ => rfl) : DE X (.Subscript o i pos) (rDGet td ty) :=
  weakE (pe_dget hu ho hi hs) fun σ H Q ⟨F, ρ, μ, q, A, R, h, o⟩ =>
    ⟨F, ρ, μ, _, A, R, h, fun F1 x H1 d1 μ1 e1 A1 r1 h1 => ⟨F1, ρ, μ1, _, A1, R.mono e1, h1, fun F2 y H2 d2 μ2 e2 A2 r2 h2 => by
      cases e : dGet μ2 d1 d2 with
      | none => simp only [e] at h2
      | some r =>
        obtain ⟨a, w, z1, z2, z3⟩ := dGet_ok A2 (r1.mono e2) r2 e
        cases r with
        | none => simp only [e] at h2
        | some d =>
          simp only [e] at h2
          rcases z3 with ⟨z3, _⟩ | ⟨x', z, z3, z4, z5⟩
          · cases z3
          · cases z3; subst z4
            exact ⟨a, z, z1, z2, o F2 _ _ _ _ (Same.trans e1 e2) A2 z5 h2⟩⟩⟩
def rDIn (neg : Bool) (ty td : RE) : RE := fun ρ μ q => ty ρ μ fun y μ1 => td ρ μ1 fun d μ2 => match dGet μ2 d y with
  | some r => q (.bl (if neg then !r.isSome else r.isSome)) μ2
  | none => False
theorem d_din (hu : X.A.units + 1 < cLine) (hi : DE X i ty) (ho : DE X o td) (h1 : behindInMarks .In o = false := by rfl) : DE X (.Compare i [.In] [o] pos) (rDIn false ty td) :=
  weakE (pe_cmp (pc_din hu hi ho) h1) fun σ H Q ⟨F, ρ, μ, q, A, R, h, o⟩ =>
    ⟨F, ρ, μ, _, A, R, h, fun F1 x H1 d1 μ1 e1 A1 r1 h1 => ⟨F1, ρ, μ1, _, A1, R.mono e1, h1, fun F2 y H2 d2 μ2 e2 A2 r2 h2 => by
      cases e : dGet μ2 d2 d1 with
      | none => simp only [e] at h2
      | some r =>
        simp only [e] at h2
        obtain ⟨a, w, z1, z2, z3⟩ := dGet_ok A2 r2 (r1.mono e2) e
        refine ⟨a, w, z1, z2, o F2 _ _ _ _ (Same.trans e1 e2) A2 ?_ h2⟩
        rcases z3 with ⟨rfl, rfl⟩ | ⟨x', z, rfl, rfl, z5⟩ <;> exact .bl⟩⟩
theorem d_dnotin (hu : X.A.units + 1 < cLine) (hi : DE X i ty) (ho : DE X o td) (h1 : behindInMarks .NotIn o = false := by rfl) : DE X (.Compare i [.NotIn] [o] pos) (rDIn true ty td) :=
  weakE (pe_cmp (pc_dnotin hu hi ho) h1) fun σ H Q ⟨F, ρ, μ, q, A, R, h, o⟩ =>
    ⟨F, ρ, μ, _, A, R, h, fun F1 x H1 d1 μ1 e1 A1 r1 h1 => ⟨F1, ρ, μ1, _, A1, R.mono e1, h1, fun F2 y H2 d2 μ2 e2 A2 r2 h2 => by
      cases e : dGet μ2 d2 d1 with
      | none => simp only [e] at h2
      | some r =>
        simp only [e] at h2
        obtain ⟨a, w, z1, z2, z3⟩ := dGet_ok A2 r2 (r1.mono e2) e
        refine ⟨a, w, z1, z2, o F2 _ _ _ _ (Same.trans e1 e2) A2 ?_ h2⟩
        rcases z3 with ⟨rfl, rfl⟩ | ⟨x', z, rfl, rfl, z5⟩ <;> exact .bl⟩⟩
theorem t_of (h : DE X o td) (he : ∀ whole, isTrue o X.env whole = (do let v ← whole; standAt o.pos; holding [v] (truthy v)) := by exact fun _ => rfl) : DT X o (rB td) :=
  weakT (pt_val h he) fun σ H Q h => rB_out h
theorem t_din (hu : X.A.units + 1 < cLine) (hi : DE X i ty) (ho : DE X o td) (h1 : behindInMarks .In o = false := by rfl) : DT X (.Compare i [.In] [o] pos) (rB (rDIn false ty td)) :=
  weakT (pt_cmp (pc_din hu hi ho) h1) fun σ H Q h => by
    obtain ⟨F, ρ, μ, q, A, R, h, o⟩ := h
    refine ⟨F, ρ, μ, _, A, R, h, fun F1 x H1 d1 μ1 e1 A1 r1 h1 => ⟨F1, ρ, μ1, _, A1, R.mono e1, h1, fun F2 y H2 d2 μ2 e2 A2 r2 h2 => ?_⟩⟩
    cases e : dGet μ2 d2 d1 with
    | none => simp only [e] at h2
    | some r =>
      simp only [e] at h2
      obtain ⟨a, w, z1, z2, z3⟩ := dGet_ok A2 r2 (r1.mono e2) e
      refine ⟨a, w, z1, z2, _, rfl, ?_⟩
      rcases z3 with ⟨rfl, rfl⟩ | ⟨x', z, rfl, rfl, z5⟩ <;> exact o F2 _ _ _ (Same.trans e1 e2) A2 h2
theorem t_dnotin (hu : X.A.units + 1 < cLine) (hi : DE X i ty) (ho : DE X o td) (h1 : behindInMarks .NotIn o = false := by rfl) : DT X (.Compare i [.NotIn] [o] pos) (rB (rDIn true ty td)) :=
  weakT (pt_cmp (pc_dnotin hu hi ho) h1) fun σ H Q h => by
    obtain ⟨F, ρ, μ, q, A, R, h, o⟩ := h
    refine ⟨F, ρ, μ, _, A, R, h, fun F1 x H1 d1 μ1 e1 A1 r1 h1 => ⟨F1, ρ, μ1, _, A1, R.mono e1, h1, fun F2 y H2 d2 μ2 e2 A2 r2 h2 => ?_⟩⟩
    cases e : dGet μ2 d2 d1 with
    | none => simp only [e] at h2
    | some r =>
      simp only [e] at h2
      obtain ⟨a, w, z1, z2, z3⟩ := dGet_ok A2 r2 (r1.mono e2) e
      refine ⟨a, w, z1, z2, _, rfl, ?_⟩
      rcases z3 with ⟨rfl, rfl⟩ | ⟨x', z, rfl, rfl, z5⟩ <;> exact o F2 _ _ _ (Same.trans e1 e2) A2 h2
/-- d.get(k, x) -/
def isDict (μ : Mu) (d : D) : Bool := match rs μ d with
  | .dk _ => true
  | .dt _ => true
  | _ => false
def rDGet2 (td ty tx : RE) : RE := fun ρ μ q => td ρ μ fun d μ1 => isDict μ1 d = true ∧ ty ρ μ1 fun y μ2 => tx ρ μ2 fun x μ3 => match dGet μ3 d y with
  | some (some z) => q z μ3
  | some none => q x μ3
  | _ => False
theorem isDict_ok {K : PySem.W.Frag} {F H : Hp} {μ : Mu} {d : D} {v : V} (A : Abs K F μ H) (r : Rp K F d v) (h : isDict μ d = true) : ∃ a, v = .ref a ∧ IsD H a := by
  unfold isDict at h
  cases h1 : rs μ d <;> rw [h1] at h <;> try (cases h; done)
  case dk kvs =>
    obtain ⟨a, vs, z1, z2, _⟩ := view_dk A r h1
    exact ⟨a, z1, .inl ⟨vs, .inl z2⟩⟩
  case dt kvs =>
    obtain ⟨a, vs, z1, z2, _⟩ := view_dt A r h1
    exact ⟨a, z1, .inr ⟨vs, .inl z2⟩⟩
theorem d_dget2 (hu : X.A.units + 1 < cLine) (ho : DE X o td) (he : DE X i ty) (hf : DE X f tx) (m : M2 X o "get" apos i f cpos := by exact ⟨rfl, rfl, rfl, rfl⟩) : DE X (.Call (.Attribute o "get" apos) [i, f] [] cpos) (rDGet2 td ty tx) :=
  weakE (pe_dget2 hu ho he hf m) fun σ H Q ⟨F, ρ, μ, q, A, R, h, o⟩ =>
    ⟨F, ρ, μ, _, A, R, h, fun F1 x H1 d1 μ1 e1 A1 r1 ⟨k1, h1⟩ => by
      obtain ⟨a, z1, z2⟩ := isDict_ok A1 r1 k1
      refine ⟨a, z1, z2, F1, ρ, μ1, _, A1, R.mono e1, h1, fun F2 y H2 d2 μ2 e2 A2 r2 h2 => ⟨F2, ρ, μ2, _, A2, R.mono (Same.trans e1 e2), h2, fun F3 w H3 d3 μ3 e3 A3 r3 h3 => ?_⟩⟩
      cases e : dGet μ3 d1 d2 with
      | none => simp only [e] at h3
      | some r =>
        obtain ⟨a', w', y1, y2, y3⟩ := dGet_ok A3 (r1.mono (Same.trans e2 e3)) (r2.mono e3) e
        subst z1
        cases y1
        have ex := Same.trans e1 (Same.trans e2 e3)
        cases r with
        | none =>
          simp only [e] at h3
          rcases y3 with ⟨_, rfl⟩ | ⟨_, _, z3, _⟩
          · exact ⟨_, y2, o F3 _ _ _ _ ex A3 r3 h3⟩
          · cases z3
        | some d =>
          simp only [e] at h3
          rcases y3 with ⟨z3, _⟩ | ⟨x', z, z3, rfl, z5⟩
          · cases z3
          · cases z3
            exact ⟨_, y2, o F3 _ _ _ _ ex A3 z5 h3⟩⟩
end
end DL

/-! Sorting, in plain Lean. -/
namespace BM
abbrev Ent := Int × Int
section
variable {α : Type} (le : α → α → Bool)
def insG (x : α) : List α → List α
  | [] => [x]
  | y :: r => if le x y then x :: y :: r else y :: insG x r
def sortG : List α → List α
  | [] => []
  | x :: r => insG le x (sortG r)
theorem insG_perm (x : α) : ∀ l : List α, (insG le x l).Perm (x :: l)
  | [] => List.Perm.refl _
  | y :: r => by
    unfold insG
    split
    · exact List.Perm.refl _
    · exact ((insG_perm x r).cons y).trans (List.Perm.swap x y r)
theorem sortG_perm : ∀ l : List α, (sortG le l).Perm l
  | [] => List.Perm.refl _
  | x :: r => (insG_perm le x _).trans ((sortG_perm r).cons x)
structure Tot : Prop where
  total : ∀ a b, le a b = true ∨ le b a = true
  trans : ∀ a b c, le a b = true → le b c = true → le a c = true
  anti : ∀ a b, le a b = true → le b a = true → a = b
variable {le}
theorem insG_srt (T : Tot le) (x : α) : ∀ l : List α, l.Pairwise (fun a b => le a b = true) → (insG le x l).Pairwise (fun a b => le a b = true)
  | [], _ => List.pairwise_singleton _ _
  | y :: r, h => by
    have h' := List.pairwise_cons.mp h
    unfold insG
    split
    · rename_i e
      refine List.pairwise_cons.mpr ⟨fun z hz => ?_, h⟩
      rcases List.mem_cons.mp hz with rfl | hz
      · exact e
      · exact T.trans _ _ _ e (h'.1 z hz)
    · rename_i e
      refine List.pairwise_cons.mpr ⟨fun z hz => ?_, insG_srt T x r h'.2⟩
      rcases List.mem_cons.mp ((insG_perm le x r).mem_iff.mp hz) with rfl | hz
      · rcases T.total z y with q | q
        · exact absurd q e
        · exact q
      · exact h'.1 z hz
theorem sortG_srt (T : Tot le) : ∀ l : List α, (sortG le l).Pairwise (fun a b => le a b = true)
  | [] => List.Pairwise.nil
  | x :: r => insG_srt T x _ (sortG_srt T r)
theorem srt_unique (T : Tot le) : ∀ {l m : List α}, l.Perm m → l.Pairwise (fun a b => le a b = true) → m.Pairwise (fun a b => le a b = true) → l = m
  | [], m, p, _, _ => by rw [List.nil_perm.mp p]
  | x :: l, [], p, _, _ => by cases List.perm_nil.mp p
  | x :: l, y :: m, p, h1, h2 => by
    have a1 := List.pairwise_cons.mp h1
    have a2 := List.pairwise_cons.mp h2
    have e : x = y := by
      have hx : x ∈ y :: m := p.mem_iff.mp List.mem_cons_self
      have hy : y ∈ x :: l := p.mem_iff.mpr List.mem_cons_self
      rcases List.mem_cons.mp hx with q | q
      · exact q
      · rcases List.mem_cons.mp hy with q' | q'
        · exact q'.symm
        · exact T.anti _ _ (a1.1 _ q') (a2.1 _ q)
    subst e
    rw [srt_unique T (List.Perm.cons_inv p) a1.2 a2.2]
theorem sortG_unique (T : Tot le) {l m : List α} (p : l.Perm m) (h : l.Pairwise (fun a b => le a b = true)) : l = sortG le m :=
  srt_unique T (p.trans (sortG_perm le m).symm) h (sortG_srt T m)
theorem sortG_id (T : Tot le) {l : List α} (h : l.Pairwise (fun a b => le a b = true)) : sortG le l = l := (sortG_unique T (List.Perm.refl l) h).symm
theorem sortG_congr (T : Tot le) {l m : List α} (p : l.Perm m) : sortG le l = sortG le m := sortG_unique T ((sortG_perm le l).trans p) (sortG_srt T l)
end
def leI (a b : Int) : Bool := decide (a ≤ b)
theorem totI : Tot leI := ⟨fun a b => by simp only [leI, decide_eq_true_eq]; omega, fun a b c => by simp only [leI, decide_eq_true_eq]; omega, fun a b => by simp only [leI, decide_eq_true_eq]; omega⟩
def ltE (a b : Ent) : Bool := decide (a.1 < b.1 ∨ (a.1 = b.1 ∧ a.2 < b.2))
def leE (a b : Ent) : Bool := decide (a.1 < b.1 ∨ (a.1 = b.1 ∧ a.2 ≤ b.2))
theorem totE : Tot leE := by
  refine ⟨fun a b => ?_, fun a b c => ?_, fun a b h1 h2 => ?_⟩
  · simp only [leE, decide_eq_true_eq]; omega
  · simp only [leE, decide_eq_true_eq]; omega
  · simp only [leE, decide_eq_true_eq] at h1 h2
    exact Prod.ext (by omega) (by omega)
abbrev sortI := sortG leI
abbrev sortP := sortG leE
/-- the least of some numbers, the greatest -/
def lmin : List Int → Int
  | [] => 0
  | x :: r => r.foldl (fun a b => if b < a then b else a) x
def lmax : List Int → Int
  | [] => 0
  | x :: r => r.foldl (fun a b => if a < b then b else a) x
theorem foldmin_le : ∀ (r : List Int) (x : Int), r.foldl (fun a b => if b < a then b else a) x ≤ x ∧ (∀ y ∈ r, r.foldl (fun a b => if b < a then b else a) x ≤ y) ∧ (r.foldl (fun a b => if b < a then b else a) x ∈ x :: r)
  | [], x => ⟨Int.le_refl _, (fun _ h => by cases h), List.mem_cons_self⟩
  | z :: r, x => by
    rw [List.foldl_cons]
    obtain ⟨h1, h2, h3⟩ := foldmin_le r (if z < x then z else x)
    have e1 : (if z < x then z else x) ≤ x := by split <;> omega
    have e2 : (if z < x then z else x) ≤ z := by split <;> omega
    refine ⟨Int.le_trans h1 e1, fun y hy => ?_, ?_⟩
    · rcases List.mem_cons.mp hy with rfl | hy
      · exact Int.le_trans h1 e2
      · exact h2 y hy
    · rcases List.mem_cons.mp h3 with h | h
      · rw [h]; split
        · exact List.mem_cons_of_mem _ List.mem_cons_self
        · exact List.mem_cons_self
      · exact List.mem_cons_of_mem _ (List.mem_cons_of_mem _ h)
theorem foldmax_le : ∀ (r : List Int) (x : Int), x ≤ r.foldl (fun a b => if a < b then b else a) x ∧ (∀ y ∈ r, y ≤ r.foldl (fun a b => if a < b then b else a) x) ∧ (r.foldl (fun a b => if a < b then b else a) x ∈ x :: r)
  | [], x => ⟨Int.le_refl _, (fun _ h => by cases h), List.mem_cons_self⟩
  | z :: r, x => by
    rw [List.foldl_cons]
    obtain ⟨h1, h2, h3⟩ := foldmax_le r (if x < z then z else x)
    have e1 : x ≤ (if x < z then z else x) := by split <;> omega
    have e2 : z ≤ (if x < z then z else x) := by split <;> omega
    refine ⟨Int.le_trans e1 h1, fun y hy => ?_, ?_⟩
    · rcases List.mem_cons.mp hy with rfl | hy
      · exact Int.le_trans e2 h1
      · exact h2 y hy
    · rcases List.mem_cons.mp h3 with h | h
      · rw [h]; split
        · exact List.mem_cons_of_mem _ List.mem_cons_self
        · exact List.mem_cons_self
      · exact List.mem_cons_of_mem _ (List.mem_cons_of_mem _ h)
theorem lmin_mem {l : List Int} (h : l ≠ []) : lmin l ∈ l := by
  cases l with
  | nil => exact absurd rfl h
  | cons x r => exact (foldmin_le r x).2.2
theorem lmin_le {l : List Int} {y : Int} (h : y ∈ l) : lmin l ≤ y := by
  cases l with
  | nil => cases h
  | cons x r =>
    rcases List.mem_cons.mp h with rfl | h
    · exact (foldmin_le r y).1
    · exact (foldmin_le r x).2.1 y h
theorem lmax_mem {l : List Int} (h : l ≠ []) : lmax l ∈ l := by
  cases l with
  | nil => exact absurd rfl h
  | cons x r => exact (foldmax_le r x).2.2
theorem le_lmax {l : List Int} {y : Int} (h : y ∈ l) : y ≤ lmax l := by
  cases l with
  | nil => cases h
  | cons x r =>
    rcases List.mem_cons.mp h with rfl | h
    · exact (foldmax_le r y).1
    · exact (foldmax_le r x).2.1 y h
end BM

/-! The data layer: built-ins by value, methods of lists, fields. -/
namespace DL
open PySem PySem.Spec PyProof.Rows L2 BM

theorem rpl1 {K : PySem.W.Frag} {F : Hp} {d : D} {vs : List V} (r : RpL K F [d] vs) : ∃ v, vs = [v] ∧ Rp K F d v := by
  cases r with
  | cons h r => cases r; exact ⟨_, rfl, h⟩
theorem rpl2 {K : PySem.W.Frag} {F : Hp} {d e : D} {vs : List V} (r : RpL K F [d, e] vs) : ∃ v w, vs = [v, w] ∧ Rp K F d v ∧ Rp K F e w := by
  cases r with
  | cons h r => obtain ⟨w, rfl, h2⟩ := rpl1 r; exact ⟨_, _, rfl, h, h2⟩
abbrev RC := List D → Mu → QD → Prop
/-! ### len, abs, min, max, sum, any, all -/
def lenD (μ : Mu) (d : D) : Option Nat := match rs μ d with
  | .lst xs => some xs.length
  | .tup xs => some xs.length
  | .scr ns => some ns.length
  | .str z => if z.length ≤ sizeLine then some z.length else none
  | .dk kvs => some kvs.length
  | .dt kvs => some kvs.length
  | _ => none
def cLen : RC := fun ds μ q => match ds with
  | [d] => match lenD μ d with
    | some n => q (.int n) μ
    | none => False
  | _ => False
def cAbs : RC := fun ds μ q => match ds with
  | [.int i] => q (.int (if i < 0 then -i else i)) μ
  | _ => False
def cMin : RC := fun ds μ q => match ds with
  | [.int i, .int j] => q (.int (if j < i then j else i)) μ
  | [d] => match itm μ d with
    | some xs => match intsOf xs with
      | some ns => ns ≠ [] ∧ q (.int (lmin ns)) μ
      | none => False
    | none => False
  | _ => False
def cMax : RC := fun ds μ q => match ds with
  | [.int i, .int j] => q (.int (if j > i then j else i)) μ
  | [d] => match itm μ d with
    | some xs => match intsOf xs with
      | some ns => ns ≠ [] ∧ q (.int (lmax ns)) μ
      | none => False
    | none => False
  | _ => False
def cSum : RC := fun ds μ q => match ds with
  | [d] => match itm μ d with
    | some xs => match intsOf xs with
      | some ns => q (.int ns.sum) μ
      | none => False
    | none => False
  | _ => False
def blsOf : List D → Option (List Bool)
  | [] => some []
  | .bl i :: r => (blsOf r).map (i :: ·)
  | _ => none
theorem blsOf_map (ns : List Bool) : blsOf (ns.map D.bl) = some ns := by
  induction ns with
  | nil => rfl
  | cons n ns ih => show (blsOf (ns.map D.bl)).map (n :: ·) = _; rw [ih]; rfl
theorem blsOf_eq : ∀ {ds : List D} {ns : List Bool}, blsOf ds = some ns → ds = ns.map D.bl
  | [], ns, h => by cases h; rfl
  | .bl i :: r, ns, h => by
    change (blsOf r).map (i :: ·) = some ns at h
    cases e : blsOf r with
    | none => rw [e] at h; cases h
    | some ms => rw [e] at h; cases h; rw [blsOf_eq e]; rfl
  | .non :: r, ns, h => by cases h
  | .int _ :: r, ns, h => by cases h
  | .str _ :: r, ns, h => by cases h
  | .ty _ :: r, ns, h => by cases h
  | .lst _ :: r, ns, h => by cases h
  | .tup _ :: r, ns, h => by cases h
  | .dk _ :: r, ns, h => by cases h
  | .dt _ :: r, ns, h => by cases h
  | .scr _ :: r, ns, h => by cases h
  | .ob _ :: r, ns, h => by cases h
def cAny : RC := fun ds μ q => match ds with
  | [d] => match itm μ d with
    | some xs => match blsOf xs with
      | some bs => q (.bl (bs.any id)) μ
      | none => False
    | none => False
  | _ => False
def cAll : RC := fun ds μ q => match ds with
  | [d] => match itm μ d with
    | some xs => match blsOf xs with
      | some bs => q (.bl (bs.all id)) μ
      | none => False
    | none => False
  | _ => False
/-- a list of ints that is read -/
theorem view_ints {K : PySem.W.Frag} {F H : Hp} {μ : Mu} {d : D} {v : V} {xs : List D} {ns : List Int} (A : Abs K F μ H) (r : Rp K F d v) (e : itm μ d = some xs) (e2 : intsOf xs = some ns) : ∃ a, v = .ref a ∧ SqL K H a (ns.map V.int) := by
  obtain ⟨a, vs, rfl, h2, h3⟩ := view_itm A r e
  rw [intsOf_eq e2] at h3
  rw [h3.ints] at h2
  exact ⟨a, rfl, h2⟩
theorem view_bls {K : PySem.W.Frag} {F H : Hp} {μ : Mu} {d : D} {v : V} {xs : List D} {ns : List Bool} (A : Abs K F μ H) (r : Rp K F d v) (e : itm μ d = some xs) (e2 : blsOf xs = some ns) : ∃ a, v = .ref a ∧ SqL K H a (ns.map V.bl) := by
  obtain ⟨a, vs, rfl, h2, h3⟩ := view_itm A r e
  rw [blsOf_eq e2] at h3
  rw [h3.bls] at h2
  exact ⟨a, rfl, h2⟩
section
variable {X : Cx}
theorem c_len : CallD X (.builtin "len") cLen := by
  intro p s σ H vs us Q I rv ⟨F, μ, ds, q, A, r, h, o⟩
  unfold cLen at h
  rcases ds with _ | ⟨d, _ | ⟨d2, ds⟩⟩ <;> try exact (h : False).elim
  obtain ⟨v, rfl, r1⟩ := rpl1 r
  simp only at h
  unfold lenD at h
  cases h1 : rs μ d <;> simp only [h1] at h <;> try exact (h : False).elim
  case lst xs =>
    obtain ⟨a, vs, rfl, ha, ra⟩ := view_lst A r1 h1
    exact call_len_seq p s σ H _ us Q I rv ⟨a, vs, rfl, .inl (SqL.of ha), by rw [← ra.length]; exact o.same A .int h⟩
  case tup xs =>
    obtain ⟨a, vs, rfl, ha, fa, ra⟩ := view_tup A r1 h1
    exact call_len_seq p s σ H _ us Q I rv ⟨a, vs, rfl, .inr (SqT.of ha), by rw [← ra.length]; exact o.same A .int h⟩
  case scr ns =>
    cases rs_flat h1 rfl
    cases r1 with
    | scr hq => exact call_len_seq p s σ H _ us Q I rv ⟨_, _, rfl, .inl (Same.seq A.sub hq), by rw [List.length_map]; exact o.same A .int h⟩
  case str z =>
    cases rs_flat h1 rfl
    cases r1
    by_cases hz : z.length ≤ sizeLine
    · simp only [hz, if_true] at h
      exact call_len_str p s σ H _ us Q I rv ⟨z, rfl, hz, o.same A .int h⟩
    · simp only [hz, if_false] at h
  case dk kvs =>
    obtain ⟨a, vs, rfl, ha, e1, e2⟩ := view_dk A r1 h1
    have e := (RKV.mk (K := X.K) (F := F) e1 e2).length
    exact call_lenD p s σ H _ us Q I rv ⟨a, vs, rfl, ha, by rw [← e]; exact o.same A .int h⟩
  case dt kvs =>
    obtain ⟨a, vs, rfl, ha, e1, e2⟩ := view_dt A r1 h1
    have e := (RKV.mk (K := X.K) (F := F) e1 e2).length
    exact call_len_dT p s σ H _ us Q I rv ⟨a, vs, rfl, ha, by rw [← e]; exact o.same A .int h⟩
theorem c_abs : CallD X (.builtin "abs") cAbs := by
  intro p s σ H vs us Q I rv ⟨F, μ, ds, q, A, r, h, o⟩
  unfold cAbs at h
  split at h
  · obtain ⟨v, rfl, r1⟩ := rpl1 r
    cases r1
    exact call_abs p s σ H _ us Q I rv ⟨_, rfl, o.same A .int h⟩
  · exact h.elim
theorem c_min (hc : X.calm = true) : CallD X (.builtin "min") cMin := by
  intro p s σ H vs us Q I rv ⟨F, μ, ds, q, A, r, h, o⟩
  unfold cMin at h
  split at h
  · obtain ⟨v, w, rfl, r1, r2⟩ := rpl2 r
    cases r1; cases r2
    exact call_min2 hc p s σ H _ us Q I rv ⟨_, _, rfl, o.same A .int h⟩
  · rename_i d
    obtain ⟨v, rfl, r1⟩ := rpl1 r
    cases e : itm μ d with
    | none => simp only [e] at h
    | some xs =>
      simp only [e] at h
      cases e2 : intsOf xs with
      | none => simp only [e2] at h
      | some ns =>
        simp only [e2] at h
        obtain ⟨a, rfl, ha⟩ := view_ints A r1 e e2
        refine cr_min hc p s σ H _ us Q I rv ⟨a, ns, rfl, ha, List.length_pos_iff.mpr h.1, fun m hm hle => ?_⟩
        have em : m = lmin ns := Int.le_antisymm (hle _ (lmin_mem h.1)) (lmin_le hm)
        subst em
        exact o.same A .int h.2
  · exact h.elim
theorem c_max (hc : X.calm = true) : CallD X (.builtin "max") cMax := by
  intro p s σ H vs us Q I rv ⟨F, μ, ds, q, A, r, h, o⟩
  unfold cMax at h
  split at h
  · obtain ⟨v, w, rfl, r1, r2⟩ := rpl2 r
    cases r1; cases r2
    exact call_max2 hc p s σ H _ us Q I rv ⟨_, _, rfl, o.same A .int h⟩
  · rename_i d
    obtain ⟨v, rfl, r1⟩ := rpl1 r
    cases e : itm μ d with
    | none => simp only [e] at h
    | some xs =>
      simp only [e] at h
      cases e2 : intsOf xs with
      | none => simp only [e2] at h
      | some ns =>
        simp only [e2] at h
        obtain ⟨a, rfl, ha⟩ := view_ints A r1 e e2
        refine cr_max hc p s σ H _ us Q I rv ⟨a, ns, rfl, ha, List.length_pos_iff.mpr h.1, fun m hm hle => ?_⟩
        have em : m = lmax ns := Int.le_antisymm (le_lmax hm) (hle _ (lmax_mem h.1))
        subst em
        exact o.same A .int h.2
  · exact h.elim
theorem c_sum (hc : X.calm = true) : CallD X (.builtin "sum") cSum := by
  intro p s σ H vs us Q I rv ⟨F, μ, ds, q, A, r, h, o⟩
  unfold cSum at h
  split at h
  · rename_i d
    obtain ⟨v, rfl, r1⟩ := rpl1 r
    cases e : itm μ d with
    | none => simp only [e] at h
    | some xs =>
      simp only [e] at h
      cases e2 : intsOf xs with
      | none => simp only [e2] at h
      | some ns =>
        simp only [e2] at h
        obtain ⟨a, rfl, ha⟩ := view_ints A r1 e e2
        exact cr_sum hc p s σ H _ us Q I rv ⟨a, ns, rfl, ha, o.same A .int h⟩
  · exact h.elim
theorem c_any (hc : X.calm = true) : CallD X (.builtin "any") cAny := by
  intro p s σ H vs us Q I rv ⟨F, μ, ds, q, A, r, h, o⟩
  unfold cAny at h
  split at h
  · rename_i d
    obtain ⟨v, rfl, r1⟩ := rpl1 r
    cases e : itm μ d with
    | none => simp only [e] at h
    | some xs =>
      simp only [e] at h
      cases e2 : blsOf xs with
      | none => simp only [e2] at h
      | some ns =>
        simp only [e2] at h
        obtain ⟨a, rfl, ha⟩ := view_bls A r1 e e2
        exact cr_any hc p s σ H _ us Q I rv ⟨a, ns, rfl, ha, o.same A .bl h⟩
  · exact h.elim
theorem c_all (hc : X.calm = true) : CallD X (.builtin "all") cAll := by
  intro p s σ H vs us Q I rv ⟨F, μ, ds, q, A, r, h, o⟩
  unfold cAll at h
  split at h
  · rename_i d
    obtain ⟨v, rfl, r1⟩ := rpl1 r
    cases e : itm μ d with
    | none => simp only [e] at h
    | some xs =>
      simp only [e] at h
      cases e2 : blsOf xs with
      | none => simp only [e2] at h
      | some ns =>
        simp only [e2] at h
        obtain ⟨a, rfl, ha⟩ := view_bls A r1 e e2
        exact cr_all hc p s σ H _ us Q I rv ⟨a, ns, rfl, ha, o.same A .bl h⟩
  · exact h.elim
end
/-! ### list(..), tuple(..), int(..), isinstance -/
def seqD (μ : Mu) (d : D) : Option (List D) := match rs μ d with
  | .lst xs => some xs
  | .tup xs => some xs
  | .scr ns => some (ns.map D.int)
  | _ => none
theorem view_seq {K : PySem.W.Frag} {F H : Hp} {μ : Mu} {d : D} {v : V} {ds : List D} (A : Abs K F μ H) (r : Rp K F d v) (e : seqD μ d = some ds) : ∃ a vs, v = .ref a ∧ (SqL K H a vs ∨ SqT K H a vs) ∧ RpL K F ds vs := by
  unfold seqD at e
  cases h1 : rs μ d <;> rw [h1] at e <;> try (cases e; done)
  case lst xs =>
    cases e
    obtain ⟨a, vs, rfl, ha, ra⟩ := view_lst A r h1
    exact ⟨a, vs, rfl, .inl (SqL.of ha), ra⟩
  case tup xs =>
    cases e
    obtain ⟨a, vs, rfl, ha, fa, ra⟩ := view_tup A r h1
    exact ⟨a, vs, rfl, .inr (SqT.of ha), ra⟩
  case scr ns =>
    cases e
    cases rs_flat h1 rfl
    cases r with
    | scr hq => exact ⟨_, _, rfl, .inl (Same.seq A.sub hq), RpL.of_ints⟩
def keyD : Key → D
  | .inl i => .int i
  | .inr x => .str x
def cList (own : Bool) : RC := fun ds μ q => match ds with
  | [d] => match seqD μ d with
    | some xs => newL own xs μ q
    | none => match rs μ d with
      | .dk kvs => newL own (kvs.map fun kv => keyD kv.1) μ q
      | _ => False
  | _ => False
def cTuple : RC := fun ds μ q => match ds with
  | [d] => match seqD μ d with
    | some xs => q (.tup xs) μ
    | none => False
  | _ => False
def cInt : RC := fun ds μ q => match ds with
  | [.int i] => q (.int i) μ
  | [.bl b] => q (.int (if b then 1 else 0)) μ
  | _ => False
theorem rpl_keys {K : PySem.W.Frag} {F : Hp} : ∀ {kvs : List (Key × D)} {vs : List (Key × V)}, kvs.map Prod.fst = vs.map Prod.fst → RpL K F (kvs.map fun kv => keyD kv.1) (vs.map fun kv => kV kv.1)
  | [], [], _ => .nil
  | (k, d) :: kvs, (k', v) :: vs, e => by
    rw [List.map_cons, List.map_cons] at e
    injection e with e1 e2
    obtain rfl : k = k' := e1
    refine .cons ?_ (rpl_keys e2)
    cases k with
    | inl i => exact .int
    | inr x => exact .str
  | [], _ :: _, e => by cases e
  | _ :: _, [], e => by cases e
section
variable {X : Cx}
theorem c_list (hc : X.calm = true) (own : Bool) : CallD X (.type "list") (cList own) := by
  intro p s σ H vs us Q I rv ⟨F, μ, ds, q, A, r, h, o⟩
  unfold cList at h
  split at h
  · rename_i d
    obtain ⟨v, rfl, r1⟩ := rpl1 r
    cases e : seqD μ d with
    | some xs =>
      simp only [e] at h
      obtain ⟨a, vs, rfl, ha, ra⟩ := view_seq A r1 e
      exact call_list_of p s σ H _ us Q I rv ⟨a, vs, rfl, ha, fun c hc => newL_ok A ra h o hc⟩
    | none =>
      simp only [e] at h
      cases h1 : rs μ d <;> simp only [h1] at h <;> try exact (h : False).elim
      case dk kvs =>
        obtain ⟨a, vs, rfl, ha, e1, e2⟩ := view_dk A r1 h1
        exact call_list_dK hc p s σ H _ us Q I rv ⟨a, vs, rfl, ha, fun c hc => newL_ok A (rpl_keys e1) h o hc⟩
  · exact h.elim
theorem c_tuple : CallD X (.type "tuple") cTuple := by
  intro p s σ H vs us Q I rv ⟨F, μ, ds, q, A, r, h, o⟩
  unfold cTuple at h
  split at h
  · rename_i d
    obtain ⟨v, rfl, r1⟩ := rpl1 r
    cases e : seqD μ d with
    | some xs =>
      simp only [e] at h
      unfold seqD at e
      cases h1 : rs μ d <;> rw [h1] at e <;> try (cases e; done)
      case lst ys =>
        cases e
        obtain ⟨a, vs, rfl, ha, ra⟩ := view_lst A r1 h1
        exact call_tuple_of p s σ H _ us Q I rv ⟨a, vs, rfl, .inl ⟨SqL.of ha, fun c hc => newT_ok A ra h o hc⟩⟩
      case tup ys =>
        cases e
        obtain ⟨a, vs, rfl, ha, fa, ra⟩ := view_tup A r1 h1
        exact call_tuple_of p s σ H _ us Q I rv ⟨a, vs, rfl, .inr ⟨SqT.of ha, o.same A (.tup fa ra) h⟩⟩
      case scr ns =>
        cases e
        cases rs_flat h1 rfl
        cases r1 with
        | scr hq => exact call_tuple_of p s σ H _ us Q I rv ⟨_, _, rfl, .inl ⟨Same.seq A.sub hq, fun c hc => newT_ok A RpL.of_ints h o hc⟩⟩
    | none => simp only [e] at h
  · exact h.elim
theorem c_int : CallD X (.type "int") cInt := by
  intro p s σ H vs us Q I rv ⟨F, μ, ds, q, A, r, h, o⟩
  unfold cInt at h
  split at h
  · obtain ⟨v, rfl, r1⟩ := rpl1 r
    cases r1
    exact call_int1 p s σ H _ us Q I rv (.inl ⟨_, rfl, o.same A .int h⟩)
  · obtain ⟨v, rfl, r1⟩ := rpl1 r
    cases r1
    exact call_int1 p s σ H _ us Q I rv (.inr ⟨_, rfl, o.same A .int h⟩)
  · exact h.elim
end
/-- the name of a datum's built-in class -/
def tyD (μ : Mu) (d : D) : Option String := match rs μ d with
  | .non => some "NoneType"
  | .bl _ => some "bool"
  | .int _ => some "int"
  | .str _ => some "str"
  | .lst _ => some "list"
  | .tup _ => some "tuple"
  | .dk _ => some "dict"
  | .dt _ => some "dict"
  | _ => none
/-- whether a built-in class is one (a finite table) -/
def isaB (t n : String) : Bool := t == n || (t == "bool" && n == "int")
def okB (n : String) : Bool := n == "int" || n == "bool" || n == "str" || n == "list" || n == "tuple"
def tysOf : List D → Option (List String)
  | [] => some []
  | .ty n :: r => (tysOf r).map (n :: ·)
  | _ => none
def cIsi : RC := fun ds μ q => match ds with
  | [d, .ty n] => okB n = true ∧ match tyD μ d with
    | some t => q (.bl (isaB t n)) μ
    | none => False
  | [d, .tup cs] => match tysOf cs with
    | some ns => ns.all okB = true ∧ match tyD μ d with
      | some t => q (.bl (ns.any (isaB t))) μ
      | none => False
    | none => False
  | _ => False
theorem tyD_ok {K : PySem.W.Frag} {F H : Hp} {μ : Mu} {d : D} {v : V} {t : String} (A : Abs K F μ H) (r : Rp K F d v) (e : tyD μ d = some t) : TyX K H v (.type t) ∧ t ∈ ["NoneType", "bool", "int", "str", "list", "tuple", "dict"] := by
  unfold tyD at e
  cases h1 : rs μ d <;> rw [h1] at e <;> try (cases e; done)
  case non => cases e; cases rs_flat h1 rfl; cases r; exact ⟨.base .non, by simp⟩
  case bl b => cases e; cases rs_flat h1 rfl; cases r; exact ⟨.base (.bl _), by simp⟩
  case int b => cases e; cases rs_flat h1 rfl; cases r; exact ⟨.base (.int _), by simp⟩
  case str b => cases e; cases rs_flat h1 rfl; cases r; exact ⟨.base (.str _), by simp⟩
  case lst xs => cases e; obtain ⟨a, vs, rfl, ha, ra⟩ := view_lst A r h1; exact ⟨.base (.lst ha), by simp⟩
  case tup xs => cases e; obtain ⟨a, vs, rfl, ha, ra⟩ := view_tup A r h1; exact ⟨.base (.tup ha), by simp⟩
  case dk xs => cases e; obtain ⟨a, vs, rfl, ha, ra⟩ := view_dk A r h1; exact ⟨.base (.dK ha), by simp⟩
  case dt xs => cases e; obtain ⟨a, vs, rfl, ha, ra⟩ := view_dt A r h1; exact ⟨.base (.dT ha), by simp⟩
theorem kitB_tab : (["NoneType", "bool", "int", "str", "list", "tuple", "dict"].all fun t => ["int", "bool", "str", "list", "tuple"].all fun n => decide (kitB t n = some (isaB t n))) = true := by decide +kernel
theorem kitB_ok {t n : String} (h1 : t ∈ ["NoneType", "bool", "int", "str", "list", "tuple", "dict"]) (h2 : okB n = true) : kitB t n = some (isaB t n) := by
  have hn : n ∈ ["int", "bool", "str", "list", "tuple"] := by
    simp only [okB, Bool.or_eq_true, beq_iff_eq] at h2
    simp only [List.mem_cons, List.not_mem_nil, or_false]
    rcases h2 with (((h | h) | h) | h) | h <;> simp [h]
  exact of_decide_eq_true (List.all_eq_true.mp (List.all_eq_true.mp kitB_tab t h1) n hn)
theorem tysOf_v {K : PySem.W.Frag} {F : Hp} : ∀ {cs : List D} {vs : List V} {ns : List String}, tysOf cs = some ns → RpL K F cs vs → Paired ClsV vs (ns.map fun n => Value.type n)
  | [], _, ns, h, .nil => by cases h; exact .nil
  | .ty n :: r, _, ns, h, .cons r1 r2 => by
    change (tysOf r).map (n :: ·) = some ns at h
    cases e : tysOf r with
    | none => rw [e] at h; cases h
    | some ms =>
      rw [e] at h; cases h
      cases r1
      exact .cons (.ty n) (tysOf_v e r2)
  | .non :: r, _, ns, h, _ => by cases h
  | .int _ :: r, _, ns, h, _ => by cases h
  | .str _ :: r, _, ns, h, _ => by cases h
  | .bl _ :: r, _, ns, h, _ => by cases h
  | .lst _ :: r, _, ns, h, _ => by cases h
  | .tup _ :: r, _, ns, h, _ => by cases h
  | .dk _ :: r, _, ns, h, _ => by cases h
  | .dt _ :: r, _, ns, h, _ => by cases h
  | .scr _ :: r, _, ns, h, _ => by cases h
  | .ob _ :: r, _, ns, h, _ => by cases h
theorem kitAny_ok {K : PySem.W.Frag} {t : String} (ht : t ∈ ["NoneType", "bool", "int", "str", "list", "tuple", "dict"]) : ∀ {ns : List String}, ns.all okB = true → PySem.W.kitAny K (.type t) (ns.map fun n => Value.type n) = some (ns.any (isaB t))
  | [], _ => kitAny_nil
  | n :: ns, h => by
    have h' := ok_and (by simpa only [List.all_cons] using h)
    refine kitAny_cons (kit_ty (kitB_ok ht h'.1)) (fun hb => ?_) fun hb => ?_
    · rw [List.any_cons, hb, Bool.false_or]; exact kitAny_ok ht h'.2
    · rw [List.any_cons, hb, Bool.true_or]
section
variable {X : Cx}
theorem c_isi : CallD X (.builtin "isinstance") cIsi := by
  intro p s σ H vs us Q I rv ⟨F, μ, ds, q, A, r, h, o⟩
  unfold cIsi at h
  split at h
  · rename_i d n
    obtain ⟨v, w, rfl, r1, r2⟩ := rpl2 r
    cases r2
    cases e : tyD μ d with
    | none => simp only [e] at h; exact h.2.elim
    | some t =>
      simp only [e] at h
      obtain ⟨z1, z2⟩ := tyD_ok A r1 e
      exact call_isi p s σ H _ us Q I rv ⟨v, .ty n, .type t, .type n, isaB t n, rfl, .ty n, z1, kit_ty (kitB_ok z2 h.1), o.same A .bl h.2⟩
  · rename_i d cs
    obtain ⟨v, w, rfl, r1, r2⟩ := rpl2 r
    cases r2 with
    | tup hf rl =>
      cases e0 : tysOf cs with
      | none => simp only [e0] at h
      | some ns =>
        simp only [e0] at h
        cases e : tyD μ d with
        | none => simp only [e] at h; exact h.2.elim
        | some t =>
          simp only [e] at h
          obtain ⟨z1, z2⟩ := tyD_ok A r1 e
          exact call_isiT p s σ H _ us Q I rv ⟨v, _, _, .type t, _, ns.any (isaB t), rfl, A.sub _ _ hf, tysOf_v e0 rl, z1, kitAny_ok z2 h.1, o.same A .bl h.2⟩
  · exact h.elim
end
/-! ### sorted -/
def prsOf : List D → Option (List Ent)
  | [] => some []
  | .tup [.int i, .int j] :: r => (prsOf r).map ((i, j) :: ·)
  | _ => none
def encE (e : Ent) : D := .tup [.int e.1, .int e.2]
theorem prsOf_map (ns : List Ent) : prsOf (ns.map encE) = some ns := by
  induction ns with
  | nil => rfl
  | cons n ns ih => show (prsOf (ns.map encE)).map ((n.1, n.2) :: ·) = _; rw [ih]; rfl
theorem prsOf_eq : ∀ {ds : List D} {ns : List Ent}, prsOf ds = some ns → ds = ns.map encE := by
  intro ds
  induction ds with
  | nil => intro ns h; cases h; rfl
  | cons d ds ih =>
    intro ns h
    unfold prsOf at h
    split at h
    · rename_i h2; cases h2
    · rename_i i j r h2
      injection h2 with h2 h3
      subst h2; subst h3
      cases e : prsOf ds with
      | none => rw [e] at h; cases h
      | some ms => rw [e] at h; cases h; rw [ih e]; rfl
    · cases h
def cSorted (own : Bool) : RC := fun ds μ q => match ds with
  | [d] => match itm μ d with
    | some xs => match intsOf xs with
      | some ns => newL own ((sortI ns).map D.int) μ q
      | none => match prsOf xs with
        | some ps => newL own ((sortP ps).map encE) μ q
        | none => False
    | none => False
  | _ => False
/-- a pair's ints, by the heap -/
def kF (F : Hp) : V → Int × Int
  | .ref a => match F a with
    | some (.tup [.int i, .int j]) => (i, j)
    | _ => (0, 0)
  | _ => (0, 0)
theorem kF_of {K : PySem.W.Frag} {F : Hp} {e : Ent} {v : V} (r : Rp K F (encE e) v) : kF F v = e ∧ ∃ t, v = .ref t ∧ F t = some (.tup [.int e.1, .int e.2]) := by
  cases r with
  | tup h rl =>
    obtain ⟨v, w, rfl, r1, r2⟩ := rpl2 rl
    cases r1; cases r2
    exact ⟨by simp only [kF, h], _, rfl, h⟩
theorem rpl_ents {K : PySem.W.Frag} {F : Hp} : ∀ {ps : List Ent} {vs : List V}, RpL K F (ps.map encE) vs → ps = vs.map (kF F) ∧ ∀ v ∈ vs, ∃ t, v = .ref t ∧ F t = some (.tup [.int (kF F v).1, .int (kF F v).2])
  | [], _, .nil => ⟨rfl, fun _ h => by cases h⟩
  | e :: ps, v :: vs, .cons r1 r2 => by
    obtain ⟨h1, h2⟩ := rpl_ents r2
    obtain ⟨z1, z2⟩ := kF_of r1
    refine ⟨by rw [List.map_cons, z1, ← h1], fun w hw => ?_⟩
    rcases List.mem_cons.mp hw with rfl | hw
    · rw [z1]; exact z2
    · exact h2 w hw
theorem rpl_of_ents {K : PySem.W.Frag} {F : Hp} : ∀ {vs : List V}, (∀ v ∈ vs, ∃ t, v = .ref t ∧ F t = some (.tup [.int (kF F v).1, .int (kF F v).2])) → RpL K F ((vs.map (kF F)).map encE) vs
  | [], _ => .nil
  | v :: vs, h => by
    obtain ⟨t, rfl, ht⟩ := h v List.mem_cons_self
    exact .cons (.tup ht (.cons .int (.cons .int .nil))) (rpl_of_ents fun w hw => h w (List.mem_cons_of_mem _ hw))
section
variable {X : Cx}
theorem c_sorted (own : Bool) : CallD X (.builtin "sorted") (cSorted own) := by
  intro p s σ H vs us Q I rv ⟨F, μ, ds, q, A, r, h, o⟩
  unfold cSorted at h
  split at h
  · rename_i d
    obtain ⟨v, rfl, r1⟩ := rpl1 r
    cases e : itm μ d with
    | none => simp only [e] at h
    | some xs =>
      simp only [e] at h
      cases e2 : intsOf xs with
      | some ns =>
        simp only [e2] at h
        obtain ⟨a, rfl, ha⟩ := view_ints A r1 e e2
        refine cr_sortedI p s σ H _ us Q I rv ⟨a, ns, rfl, ha, fun ns' c hp hs hn => ?_⟩
        have es : ns' = sortI ns := sortG_unique totI hp (hs.imp fun h => decide_eq_true h)
        subst es
        exact newL_ok A RpL.of_ints h o hn
      | none =>
        simp only [e2] at h
        cases e3 : prsOf xs with
        | none => simp only [e3] at h
        | some ps =>
          simp only [e3] at h
          obtain ⟨a, ws, rfl, ha, ra⟩ := view_itm A r1 e
          rw [prsOf_eq e3] at ra
          obtain ⟨z1, z2⟩ := rpl_ents ra
          refine cr_sortedPO p s σ H _ us Q I rv ⟨a, ws, kF F, rfl, ha, fun x hx => ?_, fun ys c hs hst hn => ?_⟩
          · obtain ⟨t, h1, h2⟩ := z2 x hx
            exact ⟨t, h1, A.sub _ _ h2⟩
          · have hmem : ∀ v ∈ ys, ∃ t, v = .ref t ∧ F t = some (.tup [.int (kF F v).1, .int (kF F v).2]) := fun v hv => z2 v (hst.perm.mem_iff.mp hv)
            have es : ys.map (kF F) = sortP ps := by
              refine sortG_unique totE ?_ ?_
              · rw [z1]; exact hst.perm.map _
              · refine List.pairwise_map.mpr (hs.imp fun {x y} hxy => ?_)
                have q := SrtO.lexB_no.mp hxy
                simp only [leE, decide_eq_true_eq]
                omega
            have rl := rpl_of_ents (K := X.K) hmem
            rw [es] at rl
            exact newL_ok A rl h o hn
  · exact h.elim
end
end DL

/-! The data layer: statements, walks, comprehensions, defs. -/
namespace DL
open PySem PySem.Spec PyProof.Rows L2 BM

/-! ### targets -/
def rgName (i : Nat) : RG := fun d ρ μ q => q (put ρ i d) μ
def puts : Rho → List Nat → List D → Rho
  | ρ, i :: is, d :: ds => puts (put ρ i d) is ds
  | ρ, _, _ => ρ
def rgTup (is : List Nat) : RG := fun d ρ μ q => match d with
  | .tup ds => ds.length = is.length ∧ q (puts ρ is ds) μ
  | _ => False
section
variable {X : Cx}
theorem g_name {i : Nat} {x : Str} {pos : Pos} (hN : X.N.Nodup) (hi : X.N[i]? = some x := by rfl) (hx : Loc X.env.scope x := by first | exact Or.inl rfl | exact Or.inr rfl) (hf : X.fn x = true ∨ X.env.scope.names.lookup x = some .local := by first | exact .inl rfl | exact .inr rfl | assumption) : DG X (.Name x pos) (rgName i) :=
  weakG (pg_name hN hi hx hf) fun v σ H Q ⟨F, d, ρ, μ, q, A, R, r, h, o⟩ => by
    refine o F _ _ _ _ (Same.refl F) A ?_ h
    rw [put_eq]; exact R.set r i
/-- the names of a tuple of targets -/
def gNames : List Nat → TGs
  | [] => gNil
  | i :: is => gCons (gName i) (gNames is)
theorem gs_nil : PGs X [] (gNames []) := pgs_nil
theorem gs_cons {i : Nat} {is : List Nat} {x : Str} {pos : Pos} {es : List Expr} (hN : X.N.Nodup) (h2 : PGs X es (gNames is)) (hi : X.N[i]? = some x := by rfl) (hx : Loc X.env.scope x := by first | exact Or.inl rfl | exact Or.inr rfl) (hf : X.fn x = true ∨ X.env.scope.names.lookup x = some .local := by first | exact .inl rfl | exact .inr rfl | assumption)
    (hs : (assignEach (.Name x pos :: es) X.env).map (·.2) = assign (.Name x pos) X.env :: (assignEach es X.env).map (·.2) := by rfl) : PGs X (.Name x pos :: es) (gNames (i :: is)) := pgs_cons (pg_name hN hi hx hf) h2 hs
theorem wipe_set {σ : L2.St} {i : Nat} {v : Option V} : ∀ {vs : List Nat}, i ∈ vs → wipe (σ.set i v) vs = wipe σ vs
  | [], h => by cases h
  | w :: vs, h => by
    unfold wipe
    by_cases e : i = w
    · subst e
      by_cases hv : i ∈ vs
      · rw [wipe_set hv]
      · have : ∀ ws : List Nat, wipe (σ.set i v) ws = (wipe σ ws).set i v ∨ i ∈ ws := by
          intro ws
          induction ws with
          | nil => exact .inl rfl
          | cons a ws ih =>
            by_cases ea : i = a
            · exact .inr (by rw [ea]; exact List.mem_cons_self)
            · rcases ih with ih | ih
              · refine .inl ?_
                show (wipe (σ.set i v) ws).set a none = ((wipe σ ws).set a none).set i v
                rw [ih, List.set_comm _ _ ea]
              · exact .inr (List.mem_cons_of_mem _ ih)
        rcases this vs with q | q
        · rw [q, List.set_set]
        · exact absurd q hv
    · have hv : i ∈ vs := by
        rcases List.mem_cons.mp h with q | q
        · exact absurd q e
        · exact q
      rw [wipe_set hv]
/-- a target that stores into some slots alone -/
def TgOk (K : PySem.W.Frag) (vs : List Nat) (g : TG) (gD : RG) : Prop := ∀ F μ H d x ρ σ q (Q : L2.St → Hp → Prop), Abs K F μ H → Rp K F d x → RS K F ρ σ → gD d ρ μ q →
  (∀ σ2 H2 F' ρ2 μ2, wipe σ2 vs = wipe σ vs → Ext F F' → Abs K F' μ2 H2 → RS K F' ρ2 σ2 → q ρ2 μ2 → Q σ2 H2) → g x σ H Q
theorem tg_name {K : PySem.W.Frag} {vs : List Nat} {i : Nat} (hi : i ∈ vs) : TgOk K vs (gName i) (rgName i) := fun F μ H d x ρ σ q Q A r R h k =>
  k _ _ F _ μ (wipe_set hi) (Same.refl F) A (by rw [put_eq]; exact R.set r i) h
theorem gNames_ok {K : PySem.W.Frag} {vs : List Nat} {F : Hp} {μ : Mu} {H : Hp} {q : Rho → Mu → Prop} {Q : L2.St → Hp → Prop} : ∀ {is : List Nat} {ds : List D} {xs : List V} {ρ : Rho} {σ : L2.St}, (∀ i ∈ is, i ∈ vs) → Abs K F μ H → RpL K F ds xs → ds.length = is.length → RS K F ρ σ → q (puts ρ is ds) μ →
    (∀ σ2 ρ2, wipe σ2 vs = wipe σ vs → RS K F ρ2 σ2 → q ρ2 μ → Q σ2 H) → gNames is xs σ H Q
  | [], [], _, ρ, σ, _, A, .nil, _, R, h, k => ⟨rfl, k σ ρ rfl R h⟩
  | i :: is, d :: ds, _, ρ, σ, hi, A, .cons (v := v) (vs := xs) r rl, hl, R, h, k => by
    refine ⟨v, xs, rfl, ?_⟩
    have R1 : RS K F (put ρ i d) (σ.set i (some v)) := by rw [put_eq]; exact R.set r i
    refine gNames_ok (H := H) (q := q) (fun j hj => hi j (List.mem_cons_of_mem _ hj)) A rl (Nat.succ.inj hl) R1 h fun σ2 ρ2 e R2 h2 => k σ2 ρ2 ?_ R2 h2
    rw [e]; exact wipe_set (hi i List.mem_cons_self)
  | [], _ :: _, _, _, _, _, _, _, hl, _, _, _ => by cases hl
  | _ :: _, [], _, _, _, _, _, _, hl, _, _, _ => by cases hl
theorem tg_tup {K : PySem.W.Frag} {vs is : List Nat} (hi : ∀ i ∈ is, i ∈ vs) : TgOk K vs (gTup K is.length (gNames is)) (rgTup is) := fun F μ H d x ρ σ q Q A r R h k => by
  unfold rgTup at h
  cases r with
  | tup hf rl =>
    refine ⟨_, _, rfl, SqT.of (A.sub _ _ hf), by rw [← rl.length]; exact h.1, ?_⟩
    exact gNames_ok (vs := vs) (H := H) (q := q) hi A rl h.1 R h.2 fun σ2 ρ2 e R2 h2 => k σ2 H F ρ2 μ e (Same.refl F) A R2 h2
  | _ => exact (h : False).elim
theorem g_tup {es : List Expr} {is : List Nat} {k : Nat} {pos : Pos} (hc : X.calm = true) (h : PGs X es (gNames is)) (hn : (assignEach es X.env).length = is.length := by rfl) (hst : (assignEach es X.env).findIdx? (·.1) = none := by rfl) : DG X (.Tuple es k pos) (rgTup is) :=
  weakG (pg_tup hc h hn hst) fun v σ H Q ⟨F, d, ρ, μ, q, A, R, r, h, o⟩ =>
    tg_tup (K := X.K) (vs := is) (fun i hi => hi) F μ H d v ρ σ q Q A r R h fun σ2 H2 F' ρ2 μ2 _ x A2 R2 hq => o F' _ _ _ _ x A2 R2 hq
end

/-! ### statements -/
def rSeq (t u : RSt) : RSt := fun E ρ μ => t { E with nx := u E } ρ μ
def rSkip : RSt := fun E ρ μ => E.nx ρ μ
def rAsg (t : RE) (g : RG) : RSt := fun E ρ μ => t ρ μ fun d μ1 => g d ρ μ1 E.nx
def rDrop (t : RE) : RSt := fun E ρ μ => t ρ μ fun _ μ1 => E.nx ρ μ1
def rRet (t : RE) : RSt := fun E ρ μ => t ρ μ E.rt
def rIf (c : RT) (t u : RSt) : RSt := fun E ρ μ => c ρ μ fun b μ1 => match b with
  | true => t E ρ μ1
  | false => u E ρ μ1
def rNever : RSt := fun _ _ _ => False
def rWhile (c : RT) (tb : RSt) : RSt := fun E ρ μ => ∃ W : Nat → Rho → Mu → Prop, (∃ m, W m ρ μ) ∧ ∀ m ρ μ, W m ρ μ → c ρ μ fun b μ1 => match b with
  | true => tb { E with nx := fun ρ' μ' => ∃ m', m' < m ∧ W m' ρ' μ', ct := fun ρ' μ' => ∃ m', m' < m ∧ W m' ρ' μ', bk := E.nx } ρ μ1
  | false => E.nx ρ μ1
/-- what is known may be told otherwise -/
def GS (K : PySem.W.Frag) (ρ : Rho) (μ : Mu) (ρ' : Rho) (μ' : Mu) : Prop := ∀ F H σ, Abs K F μ H → RS K F ρ σ → ∃ F', Ext F F' ∧ Abs K F' μ' H ∧ RS K F' ρ' σ
def GE (K : PySem.W.Frag) (d : D) (μ : Mu) (d' : D) (μ' : Mu) : Prop := ∀ F H v, Abs K F μ H → Rp K F d v → ∃ F', Ext F F' ∧ Abs K F' μ' H ∧ Rp K F' d' v
def rGh (K : PySem.W.Frag) (t : RSt) : RSt := fun E ρ μ => ∃ ρ' μ', GS K ρ μ ρ' μ' ∧ t E ρ' μ'
section
variable {X : Cx} {st : Stmt} {rest : List Stmt} {t u : RSt} {e : Expr} {te : RE} {g : RG} {pos : Pos}
theorem s_one (h : DS X st t) : DSs X [st] t := pss_one h
theorem s_nil : DSs X [] rSkip := weakSs pss_nil fun D' σ H ⟨F, ρ, μ, E, A, R, h, o⟩ => o.nx F _ _ _ _ (Same.refl F) A R h
theorem s_cons (h1 : DS X st t) (h2 : DSs X rest u) : DSs X (st :: rest) (rSeq t u) :=
  weakSs (pss_cons h1 h2) fun D' σ H ⟨F, ρ, μ, E, A, R, h, o⟩ => ⟨F, ρ, μ, _, A, R, h, ⟨fun F1 σ' H' ρ' μ' e1 A1 R1 h1 => ⟨F1, ρ', μ', E, A1, R1, h1, o.mono e1⟩, o.rt, o.bk, o.ct⟩⟩
theorem s_gh {sts : List Stmt} (h : DSs X sts t) : DSs X sts (rGh X.K t) :=
  weakSs h fun D' σ H ⟨F, ρ, μ, E, A, R, ⟨ρ', μ', k, h⟩, o⟩ => by
    obtain ⟨F', x, A', R'⟩ := k F H σ A R
    exact ⟨F', ρ', μ', E, A', R', h, o.mono x⟩
theorem s_pass : DS X (.Pass pos) rSkip := weakS ps_pass fun D' σ H ⟨F, ρ, μ, E, A, R, h, o⟩ => o.nx F _ _ _ _ (Same.refl F) A R h
theorem s_doc {x j pos pos'} : DS X (.Expr (.Constant (.str x) j pos) pos') rSkip := weakS ps_doc fun D' σ H ⟨F, ρ, μ, E, A, R, h, o⟩ => o.nx F _ _ _ _ (Same.refl F) A R h
theorem s_never : DS X st rNever := weakS ps_never fun D' σ H ⟨F, ρ, μ, E, A, R, h, o⟩ => h.elim
theorem s_expr (he : DE X e te) (hs : swapsWith e none pos.line X.env = pure false := by rfl) : DS X (.Expr e pos) (rDrop te) :=
  weakS (ps_expr he hs) fun D' σ H ⟨F, ρ, μ, E, A, R, h, o⟩ => ⟨F, ρ, μ, _, A, R, h, fun F1 v H1 d μ1 e1 A1 r1 h1 => o.nx F1 _ _ _ _ e1 A1 (R.mono e1) h1⟩
theorem s_ret (he : DE X e te) : DS X (.Return (some e) pos) (rRet te) := weakS (ps_ret he) fun D' σ H ⟨F, ρ, μ, E, A, R, h, o⟩ => ⟨F, ρ, μ, _, A, R, h, o.rt⟩
theorem asg_out {σ : L2.St} {H : Hp} {D' : Ends} (h : upS X.K (rAsg te g) D' σ H) : tAsg (upE X.K te) (upG X.K g) D' σ H := by
  obtain ⟨F, ρ, μ, E, A, R, h, o⟩ := h
  exact ⟨F, ρ, μ, _, A, R, h, fun F1 v H1 d μ1 e1 A1 r1 h1 => ⟨F1, d, ρ, μ1, _, A1, R.mono e1, r1, h1, o.nx.mono e1⟩⟩
theorem s_asg {tg : Expr} (he : DE X e te) (hg : DG X tg g) (hs : swapsWithSole [tg] e pos.line X.env = pure false := by rfl) (hw : swappedStores [tg] e X.env = pure none := by rfl) (h1 : (assignEach [tg] X.env).map (·.2) = [assign tg X.env] := by rfl) : DS X (.Assign [tg] e pos) (rAsg te g) :=
  weakS (ps_asg he hg hs hw h1) fun D' σ H => asg_out
theorem s_set {i : Nat} {x : Str} {pos' : Pos} (hN : X.N.Nodup) (he : DE X e te) (hi : X.N[i]? = some x := by rfl) (hx : Loc X.env.scope x := by first | exact Or.inl rfl | exact Or.inr rfl) (hs : swapsWith e (some (.Name x pos')) pos.line X.env = pure false := by rfl)
    (hf : X.fn x = true ∨ X.env.scope.names.lookup x = some .local := by first | exact .inl rfl | exact .inr rfl | assumption) : DS X (.Assign [.Name x pos'] e pos) (rAsg te (rgName i)) :=
  weakS (ps_set hN hi hx he hs hf) fun D' σ H ⟨F, ρ, μ, E, A, R, h, o⟩ => ⟨F, ρ, μ, _, A, R, h, fun F1 v H1 d μ1 e1 A1 r1 h1 => o.nx F1 _ _ _ _ e1 A1 (by rw [put_eq]; exact (R.mono e1).set r1 i) h1⟩
theorem s_if {c : Expr} {a b : List Stmt} {tc : RT} (hc : DT X c tc) (ha : DSs X a t) (hb : DSs X b u) : DS X (.If c a b pos) (rIf tc t u) :=
  weakS (ps_if hc ha hb) fun D' σ H ⟨F, ρ, μ, E, A, R, h, o⟩ => ⟨F, ρ, μ, _, A, R, h, fun F1 k H1 μ1 e1 A1 h1 => by
    cases k with
    | true => exact iteT ⟨F1, ρ, μ1, E, A1, R.mono e1, h1, o.mono e1⟩
    | false => exact iteF ⟨F1, ρ, μ1, E, A1, R.mono e1, h1, o.mono e1⟩⟩
theorem s_while {c : Expr} {body : List Stmt} {tc : RT} (hp : PassesOwn (model X.prog X.w) X.A X.env X.xe) (hc : DT X c tc) (hb : DSs X body t) : DS X (.While c body [] pos) (rWhile tc t) :=
  weakS (ps_while hp hc hb) fun D' σ H ⟨F, ρ, μ, E, A, R, ⟨W, ⟨m0, w0⟩, hW⟩, o⟩ => by
    refine ⟨fun m σ H => ∃ F1 ρ μ, Ext F F1 ∧ Abs X.K F1 μ H ∧ RS X.K F1 ρ σ ∧ W m ρ μ, ⟨m0, F, ρ, μ, Same.refl F, A, R, w0⟩, ?_⟩
    rintro m σ1 H1 ⟨F1, ρ1, μ1, e1, A1, R1, w1⟩
    refine ⟨F1, ρ1, μ1, _, A1, R1, hW m ρ1 μ1 w1, fun F2 k H2 μ2 e2 A2 h2 => ?_⟩
    cases k with
    | false => exact iteF (o.nx F2 _ _ _ _ (Same.trans e1 e2) A2 (R1.mono e2) h2)
    | true =>
      refine iteT ⟨fun σ' H' => ∃ F3 ρ' μ', Ext F F3 ∧ Abs X.K F3 μ' H' ∧ RS X.K F3 ρ' σ' ∧ ∃ m', m' < m ∧ W m' ρ' μ', fun σ' H' ⟨F3, ρ', μ', e3, A3, R3, m', hm, w3⟩ => ⟨m', hm, F3, ρ', μ', e3, A3, R3, w3⟩, ?_⟩
      have e12 := Same.trans e1 e2
      refine ⟨F2, ρ1, μ2, _, A2, R1.mono e2, h2, ⟨fun F3 σ' H' ρ' μ' e3 A3 R3 h3 => ⟨F3, ρ', μ', Same.trans e12 e3, A3, R3, h3⟩, o.rt.mono e12, o.nx.mono e12, fun F3 σ' H' ρ' μ' e3 A3 R3 h3 => ⟨F3, ρ', μ', Same.trans e12 e3, A3, R3, h3⟩⟩⟩
end

/-! ### walks -/
structure Src (K : PySem.W.Frag) (F : Hp) (J : It) (C : Mu → Prop) (ds : List D) : Prop where
  go : ∀ (i : Nat) F' μ H, Ext F F' → Abs K F' μ H → C μ → i < ds.length → J.go i H
  stop : ∀ (i : Nat) F' μ H, Ext F F' → Abs K F' μ H → C μ → ds.length ≤ i → J.stop i H
  yld : ∀ (i : Nat) F' μ H x H' d, Ext F F' → Abs K F' μ H → C μ → ds[i]? = some d → J.yld i H x H' → ∃ F'', Ext F' F'' ∧ Abs K F'' μ H' ∧ Rp K F'' d x
abbrev QI := (Mu → Prop) → List D → Mu → Prop
abbrev RI := Rho → Mu → QI → Prop
def upI (K : PySem.W.Frag) (t : RI) : TI := fun σ H R => ∃ F ρ μ q, Abs K F μ H ∧ RS K F ρ σ ∧ t ρ μ q ∧ ∀ F' J H' C ds μ', Ext F F' → Abs K F' μ' H' → Src K F' J C ds → q C ds μ' → R J H'
abbrev DI (X : Cx) (tg iter : Expr) (t : RI) : Prop := PI X tg iter (upI X.K t)
def forD (C : Mu → Prop) (g : RG) (tb : RSt) : List D → RSt
  | [] => fun E ρ μ => C μ ∧ E.nx ρ μ
  | d :: ds => fun E ρ μ => C μ ∧ g d ρ μ fun ρ2 μ2 => tb { E with nx := forD C g tb ds E, ct := forD C g tb ds E, bk := E.nx } ρ2 μ2
def rFor (t : RI) (g : RG) (tb : RSt) : RSt := fun E ρ μ => t ρ μ fun C ds μ1 => forD C g tb ds E ρ μ1
theorem drop_cons {ds : List D} {i : Nat} (h : i < ds.length) : ∃ d, ds[i]? = some d ∧ ds.drop i = d :: ds.drop (i + 1) := by
  exact ⟨ds[i], List.getElem?_eq_getElem h, List.drop_eq_getElem_cons h⟩
section
variable {X : Cx} {tg iter : Expr} {t : RI} {g : RG} {tb : RSt} {pos : Pos}
theorem s_for {body : List Stmt} (hp : PassesOwn (model X.prog X.w) X.A X.env X.xe) (hc : X.calm = true) (hi : DI X tg iter t) (hg : DG X tg g) (hb : DSs X body tb)
    (hs : ∀ x, foldedSetIterable iter X.env x = pure x := by intro _; rfl) : DS X (.For tg iter body [] pos) (rFor t g tb) :=
  weakS (ps_for hp hc hi hg hb hs) fun D' σ H ⟨F, ρ, μ, E, A, R, h, o⟩ => by
    refine ⟨F, ρ, μ, _, A, R, h, fun F1 J H1 C ds μ1 e1 A1 S h1 => ?_⟩
    refine ⟨fun i m σ H => ∃ F2 ρ2 μ2, Ext F1 F2 ∧ Abs X.K F2 μ2 H ∧ RS X.K F2 ρ2 σ ∧ forD C g tb (ds.drop i) E ρ2 μ2 ∧ m = ds.length - i ∧ i ≤ ds.length, ⟨ds.length, F1, ρ, μ1, Same.refl _, A1, R.mono e1, by rw [List.drop_zero]; exact h1, rfl, Nat.zero_le _⟩, ?_⟩
    rintro i m σ2 H2 ⟨F2, ρ2, μ2, e2, A2, R2, h2, rfl, hi2⟩
    by_cases hlt : i < ds.length
    · obtain ⟨d, hd, hdr⟩ := drop_cons hlt
      rw [hdr] at h2
      refine .inr ⟨S.go i F2 μ2 H2 e2 A2 h2.1 hlt, fun σ' H' => ∃ F3 ρ3 μ3, Ext F1 F3 ∧ Abs X.K F3 μ3 H' ∧ RS X.K F3 ρ3 σ' ∧ forD C g tb (ds.drop (i + 1)) E ρ3 μ3, fun σ' H' ⟨F3, ρ3, μ3, e3, A3, R3, h3⟩ => ⟨ds.length - (i + 1), by omega, F3, ρ3, μ3, e3, A3, R3, h3, rfl, hlt⟩, fun x H' hy => ?_⟩
      obtain ⟨F3, e3, A3, r3⟩ := S.yld i F2 μ2 H2 x H' d e2 A2 h2.1 hd hy
      have e13 := Same.trans e1 (Same.trans e2 e3)
      refine ⟨F3, d, ρ2, μ2, _, A3, R2.mono e3, r3, h2.2, fun F4 σ4 H4 ρ4 μ4 e4 A4 R4 h4 => ?_⟩
      have e24 := Same.trans e2 (Same.trans e3 e4)
      have e14 := Same.trans e1 e24
      refine ⟨F4, ρ4, μ4, _, A4, R4, h4, ⟨fun F5 σ5 H5 ρ5 μ5 e5 A5 R5 h5 => ⟨F5, ρ5, μ5, Same.trans e24 e5, A5, R5, h5⟩, o.rt.mono e14, o.nx.mono e14, fun F5 σ5 H5 ρ5 μ5 e5 A5 R5 h5 => ⟨F5, ρ5, μ5, Same.trans e24 e5, A5, R5, h5⟩⟩⟩
    · have e : ds.drop i = [] := List.drop_eq_nil_of_le (by omega)
      rw [e] at h2
      exact .inl ⟨S.stop i F2 μ2 H2 e2 A2 h2.1 (by omega), o.nx F2 _ _ _ _ (Same.trans e1 e2) A2 R2 h2.2⟩
/-! ### comprehensions -/
def wipeD (ρ : Rho) : List Nat → Rho
  | [] => ρ
  | v :: vs => (wipeD ρ vs).set v none
theorem RS.unset {K : PySem.W.Frag} {F : Hp} {ρ : Rho} {σ : L2.St} (r : RS K F ρ σ) (i : Nat) : RS K F (ρ.set i none) (σ.set i none) := by
  refine ⟨by simp [r.len], fun j e he => ?_⟩
  by_cases hj : i = j
  · subst hj
    have hi : i < ρ.length := by
      have := (List.getElem?_eq_some_iff.mp he).1
      simpa using this
    rw [List.getElem?_set_self hi] at he
    cases he
  · rw [List.getElem?_set_ne hj] at he
    obtain ⟨w, h1, h2⟩ := r.get j e he
    exact ⟨w, by rw [List.getElem?_set_ne hj]; exact h1, h2⟩
theorem RS.wipe {K : PySem.W.Frag} {F : Hp} {ρ : Rho} {σ : L2.St} (r : RS K F ρ σ) : ∀ vs : List Nat, RS K F (wipeD ρ vs) (L2.wipe σ vs)
  | [] => r
  | v :: vs => (r.wipe vs).unset v
theorem wipe_wipe (σ : L2.St) (vs : List Nat) : ∀ ws : List Nat, (∀ w ∈ ws, w ∈ vs) → L2.wipe (L2.wipe σ ws) vs = L2.wipe σ vs
  | [], _ => rfl
  | w :: ws, h => by
    show L2.wipe ((L2.wipe σ ws).set w none) vs = _
    rw [wipe_set (h w List.mem_cons_self)]
    exact wipe_wipe σ vs ws fun z hz => h z (List.mem_cons_of_mem _ hz)
abbrev QOp := Option D → Mu → Prop
/-- a comprehension's turn: the element, or none where a test is false -/
def stepC (g : RG) (tt : RT) (te : RE) (ρ : Rho) (d : D) (μ : Mu) (k : QOp) : Prop := g d ρ μ fun ρ2 μ2 => tt ρ2 μ2 fun b μ3 => match b with
  | true => te ρ2 μ3 fun y μ4 => k (some y) μ4
  | false => k none μ3
def erm (μ : Mu) (p : Addr) : Mu := fun b => if b = p then none else μ b
theorem erm_upm {μ : Mu} {p : Addr} {m : MO} (h : μ p = none) : erm (upm μ p m) p = μ := by
  funext b; unfold erm
  by_cases e : b = p
  · rw [if_pos e, e, h]
  · rw [if_neg e, upm_ne e]
def lcD (p : Addr) (C : Mu → Prop) (step : D → Mu → QOp → Prop) : List D → Mu → (Mu → Prop) → Prop
  | [], μ, q => C μ ∧ q μ
  | d :: ds, μ, q => C μ ∧ step d μ fun o μ' => match o with
    | some y => ∃ acc, μ' p = some (.lst acc) ∧ acc.length < sizeLine ∧ lcD p C step ds (upm μ' p (.lst (acc ++ [y]))) q
    | none => lcD p C step ds μ' q
def lcEnd (own : Bool) (p : Addr) (q : QD) (μ : Mu) : Prop := match own with
  | true => q (.ob p) μ
  | false => ∃ out, μ p = some (.lst out) ∧ q (.lst out) (erm μ p)
def rLC (own : Bool) (t : RI) (g : RG) (tt : RT) (te : RE) (vs : List Nat) : RE := fun ρ μ q => t ρ μ fun C ds μ1 => ∀ p, μ1 p = none → lcD p C (stepC g tt te (wipeD ρ vs)) ds (upm μ1 p (.lst [])) (lcEnd own p q)
def rYes : RT := fun _ μ q => q true μ
theorem lc_out {own : Bool} {tt : RT} {te : RE} {vs : List Nat} {gv : TG} {σ : L2.St} {H : Hp} {Q : VK} (hg : TgOk X.K vs gv g) (h : upE X.K (rLC own t g tt te vs) σ H Q) : tLc (upI X.K t) gv (upT X.K tt) (upE X.K te) vs σ H Q := by
  obtain ⟨F, ρ, μ, q, A, R, h, o⟩ := h
  refine ⟨F, ρ, μ, _, A, R, h, fun F1 J H1 C ds μ1 e1 A1 S h1 D hD => ?_⟩
  have Rw := (R.mono e1).wipe vs
  refine ⟨fun i m H => ∃ F2 μ2, Ext F1 F2 ∧ Abs X.K F2 μ2 H ∧ lcD D C (stepC g tt te (wipeD ρ vs)) (ds.drop i) μ2 (lcEnd own D q) ∧ m = ds.length - i ∧ i ≤ ds.length,
    ⟨ds.length, F1, _, Same.refl _, A1.newM hD (.lst .nil), by rw [List.drop_zero]; exact h1 D (A1.freeM hD), rfl, Nat.zero_le _⟩, ?_⟩
  rintro i m H2 ⟨F2, μ2, e2, A2, h2, rfl, hi2⟩
  by_cases hlt : i < ds.length
  · obtain ⟨d, hd, hdr⟩ := drop_cons hlt
    rw [hdr] at h2
    refine .inr ⟨S.go i F2 μ2 H2 e2 A2 h2.1 hlt, fun H' => ∃ F3 μ3, Ext F1 F3 ∧ Abs X.K F3 μ3 H' ∧ lcD D C (stepC g tt te (wipeD ρ vs)) (ds.drop (i + 1)) μ3 (lcEnd own D q),
      fun H' ⟨F3, μ3, e3, A3, h3⟩ => ⟨ds.length - (i + 1), by omega, F3, μ3, e3, A3, h3, rfl, hlt⟩, fun x H' hy => ?_⟩
    obtain ⟨F3, e3, A3, r3⟩ := S.yld i F2 μ2 H2 x H' d e2 A2 h2.1 hd hy
    have e23 := Same.trans e2 e3
    refine hg F3 μ2 H' d x _ _ _ _ A3 r3 (Rw.mono e23) h2.2 fun σ4 H4 F4 ρ4 μ4 ew e4 A4 R4 h4 => ⟨ew.trans (wipe_wipe σ vs vs fun w hw => hw), ?_⟩
    have e24 := Same.trans e23 e4
    refine ⟨F4, ρ4, μ4, _, A4, R4, h4, fun F5 b H5 μ5 e5 A5 h5 => ?_⟩
    cases b with
    | true =>
      refine iteT ⟨F5, ρ4, μ5, _, A5, R4.mono e5, h5, fun F6 y H6 dy μ6 e6 A6 r6 h6 => ?_⟩
      obtain ⟨acc, hm6, hl6, h6⟩ := h6
      obtain ⟨ys, hH, ra⟩ := A6.lstM hm6
      have rn := ra.append (RpL.cons r6 .nil)
      exact ⟨ys, hH, by rw [← ra.length]; exact hl6, F6, _, Same.trans e24 (Same.trans e5 e6), A6.put hm6 (.lst rn), h6⟩
    | false => exact iteF ⟨F5, μ5, Same.trans e24 e5, A5, h5⟩
  · have e : ds.drop i = [] := List.drop_eq_nil_of_le (by omega)
    rw [e] at h2
    refine .inl ⟨S.stop i F2 μ2 H2 e2 A2 h2.1 (by omega), ?_⟩
    have h3 := h2.2
    have e12 := Same.trans e1 e2
    cases own with
    | true => exact o F2 _ _ _ _ e12 A2 .ob h3
    | false =>
      obtain ⟨out, hm, h3⟩ := h3
      obtain ⟨ob, r, A3, e3⟩ := A2.frz (μ' := erm μ2 D) hm (fun a n e => by
        unfold erm at e
        by_cases ea : a = D
        · rw [if_pos ea] at e; cases e
        · rw [if_neg ea] at e; exact e) (by unfold erm; rw [if_pos rfl])
      cases r with
      | lst r => exact o _ _ _ _ _ (Same.trans e12 e3) A3 (.lst upd_same (r.mono e3)) h3
theorem d_lc {own : Bool} {elt : Expr} {ifs : List Expr} {scope : Scope} {ow : List (Str × Nat)} {tt : RT} {te : RE} {gv : TG} (hc : X.calm = true) (hN : X.N.Nodup) (hi : DI X tg iter t) (ok : BlkOk X.N X.env.scope scope ow) (hT : TgOk X.K (ow.map (·.2)) gv g)
    (hg : ∀ (s : Shared) (H : Hp) (C : Addr) (cl : List (Str × Addr)) (fp : List Addr), PG (X.blk s H scope (compEnvC scope cl C X.env) fp) tg gv) (ht : ∀ (s : Shared) (H : Hp) (C : Addr) (cl : List (Str × Addr)) (fp : List Addr), PTs (X.blk s H scope (compEnvC scope cl C X.env) fp) ifs (upT X.K tt))
    (he : ∀ (s : Shared) (H : Hp) (C : Addr) (cl : List (Str × Addr)) (fp : List Addr), DE (X.blk s H scope (compEnvC scope cl C X.env) fp) elt te) (hs : ∀ x, foldedSetIterable iter X.env x = pure x := by intro _; rfl) :
    DE X (.ListComp elt [⟨tg, iter, ifs, 0⟩] scope pos) (rLC own t g tt te (ow.map (·.2))) :=
  weakE (pe_lc hc hN hi ok hg ht he hs) fun σ H Q => lc_out hT
theorem s_setLc {own : Bool} {i : Nat} {y : Str} {py spos : Pos} {elt : Expr} {ifs : List Expr} {scope : Scope} {ow : List (Str × Nat)} {tt : RT} {te : RE} {gv : TG} (hc : X.calm = true) (hN : X.N.Nodup) (hi : DI X tg iter t) (ok : BlkOk X.N X.env.scope scope ow) (hT : TgOk X.K (ow.map (·.2)) gv g)
    (hg : ∀ (s : Shared) (H : Hp) (C : Addr) (cl : List (Str × Addr)) (fp : List Addr), PG (X.blk s H scope (compEnvC scope cl C X.env) fp) tg gv) (ht : ∀ (s : Shared) (H : Hp) (C : Addr) (cl : List (Str × Addr)) (fp : List Addr), PTs (X.blk s H scope (compEnvC scope cl C X.env) fp) ifs (upT X.K tt))
    (he : ∀ (s : Shared) (H : Hp) (C : Addr) (cl : List (Str × Addr)) (fp : List Addr), DE (X.blk s H scope (compEnvC scope cl C X.env) fp) elt te)
    (hy : X.N[i]? = some y := by rfl) (hyl : X.env.scope.names.lookup y = some .local := by rfl) (hsw : swapsWith (.ListComp elt [⟨tg, iter, ifs, 0⟩] scope pos) (some (.Name y py)) spos.line X.env = pure true := by exact sw_true rfl rfl rfl (by decide +kernel)) (hs : ∀ x, foldedSetIterable iter X.env x = pure x := by intro _; rfl) :
    DS X (.Assign [.Name y py] (.ListComp elt [⟨tg, iter, ifs, 0⟩] scope pos) spos) (rAsg (rLC own t g tt te (ow.map (·.2))) (rgName i)) :=
  weakS (ps_setLc hc hN hy hyl hsw hi ok hg ht he hs) fun D' σ H ⟨F, ρ, μ, E, A, R, h, o⟩ => by
    have z : upE X.K (rLC own t g tt te (ow.map (·.2))) σ H fun v H1 => D'.nx (σ.set i (some v)) H1 :=
      ⟨F, ρ, μ, _, A, R, h, fun F1 v H1 d μ1 e1 A1 r1 h1 => o.nx F1 _ _ _ _ e1 A1 (by rw [put_eq]; exact (R.mono e1).set r1 i) h1⟩
    exact lc_out hT z
theorem ts_nil : PTs X [] (upT X.K rYes) := ⟨fun p s σ H Q I ⟨F, ρ, μ, q, A, R, h, o⟩ => pts_nil.run p s σ H Q I (o F _ _ _ (Same.refl F) A h)⟩
theorem ts_one {c : Expr} {tt : RT} (h : DT X c tt) : PTs X [c] (upT X.K tt) := pts_one h
end
/-! ### what is walked -/
theorem pi_or {X : Cx} {tg iter : Expr} {w w' : TI} (h : PI X tg iter w) (h' : PI X tg iter w') : PI X tg iter (fun σ H R => w σ H R ∨ w' σ H R) := by
  refine ⟨?_⟩
  intro pins s σ H R I q
  rcases q with q | q
  · exact h.run pins s σ H R I q
  · exact h'.run pins s σ H R I q
theorem weakI {X : Cx} {tg iter : Expr} {w w' : TI} (h : PI X tg iter w) (k : ∀ σ H R, w' σ H R → w σ H R) : PI X tg iter w' := ⟨fun p s σ H R I q => h.run p s σ H R I (k _ _ _ q)⟩
/-- the items that a walk over a datum gives, and what must stand at each turn -/
def itD (d : D) (μ : Mu) (q : QI) : Prop := match d with
  | .lst xs => q (fun _ => True) xs μ
  | .tup xs => q (fun _ => True) xs μ
  | .scr ns => q (fun _ => True) (ns.map D.int) μ
  | .str z => q (fun _ => True) (z.cps.toList.map fun c => D.str ⟨#[c]⟩) μ
  | .ob a => match μ a with
    | some (.lst xs) => q (fun μ' => μ' a = some (.lst xs)) xs μ
    | _ => False
  | _ => False
def rIt (t : RE) : RI := fun ρ μ q => t ρ μ fun d μ1 => itD d μ1 q
section
variable {K : PySem.W.Frag} {F : Hp}
/-- the walk over a list whose items are known at each turn -/
theorem src_list {a : Addr} {C : Mu → Prop} {ds : List D} (h : ∀ F' μ H, Ext F F' → Abs K F' μ H → C μ → ∃ vs, SqL K H a vs ∧ RpL K F' ds vs) : Src K F (Itl K a) C ds where
  go := fun i F' μ H e A c hi => by
    obtain ⟨vs, h1, h2⟩ := h F' μ H e A c
    exact ⟨vs, vs[i]'(by rw [← h2.length]; exact hi), h1, List.getElem?_eq_getElem _⟩
  stop := fun i F' μ H e A c hi => by
    obtain ⟨vs, h1, h2⟩ := h F' μ H e A c
    exact ⟨vs, h1, by rw [← h2.length]; exact hi⟩
  yld := fun i F' μ H x H' d e A c hd hy => by
    obtain ⟨vs, h1, h2⟩ := h F' μ H e A c
    obtain ⟨rfl, hy⟩ := hy
    obtain ⟨v, hv, r⟩ := h2.get hd
    have := hy vs h1
    rw [hv] at this
    cases this
    exact ⟨F', Same.refl _, A, r⟩
theorem src_tup {a : Addr} {C : Mu → Prop} {ds : List D} (h : ∀ F' μ H, Ext F F' → Abs K F' μ H → C μ → ∃ vs, SqT K H a vs ∧ RpL K F' ds vs) : Src K F (Itt K a) C ds where
  go := fun i F' μ H e A c hi => by
    obtain ⟨vs, h1, h2⟩ := h F' μ H e A c
    exact ⟨vs, vs[i]'(by rw [← h2.length]; exact hi), h1, List.getElem?_eq_getElem _⟩
  stop := fun i F' μ H e A c hi => by
    obtain ⟨vs, h1, h2⟩ := h F' μ H e A c
    exact ⟨vs, h1, by rw [← h2.length]; exact hi⟩
  yld := fun i F' μ H x H' d e A c hd hy => by
    obtain ⟨vs, h1, h2⟩ := h F' μ H e A c
    obtain ⟨rfl, hy⟩ := hy
    obtain ⟨v, hv, r⟩ := h2.get hd
    have := hy vs h1
    rw [hv] at this
    cases this
    exact ⟨F', Same.refl _, A, r⟩
theorem src_flat {J : It} {ds : List D} (hgo : ∀ (i : Nat) H, i < ds.length → J.go i H) (hst : ∀ (i : Nat) H, ds.length ≤ i → J.stop i H) (hy : ∀ (i : Nat) H x H', J.yld i H x H' → H' = H ∧ ∀ d, ds[i]? = some d → ∀ F', Rp K F' d x) : Src K F J (fun _ => True) ds where
  go := fun i F' μ H e A c hi => hgo i H hi
  stop := fun i F' μ H e A c hi => hst i H hi
  yld := fun i F' μ H x H' d e A c hd h => by
    obtain ⟨rfl, k⟩ := hy i H x H' h
    exact ⟨F', Same.refl _, A, k d hd F'⟩
end
theorem its_go {x : Str} {i : Nat} : x.cps.toList.length = x.cps.size := by simp
section
variable {X : Cx} {tg : Expr} {e : Expr} {te : RE}
/-- the iterator of a datum -/
theorem it_of {pins : List (Addr × Obj)} {σ : L2.St} {s : Shared} {H : Hp} {R : It → Hp → Prop} {E : Value → Shared → Prop} {F : Hp} {μ : Mu} {d : D} {x : V} {v : Value} {q : QI} (I : Inv X pins σ H s) (A : Abs X.K F μ H) (rp : Rp X.K F d x) (r : RelV x v) (h : itD d μ q)
    (o : ∀ F' J H' C ds μ', Ext F F' → Abs X.K F' μ' H' → Src X.K F' J C ds → q C ds μ' → R J H') : wpAny (model X.prog X.w) X.A (pyIter v) (PIE X pins σ tg R) E s := by
  have listCase : ∀ {a : Addr} {vs : List V} {C : Mu → Prop} {ds : List D}, SqL X.K H a vs → (∀ F' μ H, Ext F F' → Abs X.K F' μ H → C μ → ∃ vs, SqL X.K H a vs ∧ RpL X.K F' ds vs) → q C ds μ → wpAny (model X.prog X.w) X.A (pyIter (.ref a)) (PIE X pins σ tg R) E s := fun {a vs C ds} hq hs h => by
    obtain ⟨its, _, pl, _⟩ := I.list hq
    exact wpAny_pyIter_list pl.isList (pi_one (tk := s.toks) I _ (turn_list a _) ⟨_, Heap.get?_push_size _ rfl, rfl, rfl⟩ (o F _ H C ds μ (Same.refl F) A (src_list hs) h))
  unfold itD at h
  cases rp <;> try exact (h : False).elim
  case str z =>
    obtain ⟨t, rfl⟩ := r
    have S : Src X.K F (Its z) (fun _ => True) (z.cps.toList.map fun c => D.str ⟨#[c]⟩) := src_flat (fun i H hi => by show i < z.cps.size; simpa using hi) (fun i H hi => by show z.cps.size ≤ i; simpa using hi) fun i H x H' hy => by
      obtain ⟨e1, c, hc, e2⟩ := hy
      refine ⟨e1, fun d hd F' => ?_⟩
      rw [List.getElem?_map] at hd
      have hc' : z.cps.toList[i]? = some c := by simpa using hc
      rw [hc'] at hd
      cases hd
      rw [e2]; exact .str
    have q' := o F _ H _ _ μ (Same.refl F) A S h
    cases ha : z.cps.all (· < 128)
    · exact wpAny_pyIter_wide ha (pi_one (tk := s.toks) I _ (turn_str _ z t "str_iterator" (.inr rfl)) ⟨_, Heap.get?_push_size _ rfl, rfl, rfl⟩ q')
    · exact wpAny_pyIter_ascii ha (pi_one (tk := s.toks) I _ (turn_str _ z t "str_ascii_iterator" (.inl rfl)) ⟨_, Heap.get?_push_size _ rfl, rfl, rfl⟩ q')
  case lst a ds vs hf rl =>
    cases r
    exact listCase (SqL.of (A.sub _ _ hf)) (fun F' μ' H' e A' _ => ⟨vs, SqL.of (A'.sub _ _ (e _ _ hf)), rl.mono e⟩) h
  case scr a ns hs =>
    cases r
    exact listCase (Same.seq A.sub hs) (fun F' μ' H' e A' _ => ⟨_, Same.seq (Same.trans e A'.sub) hs, RpL.of_ints⟩) h
  case ob a =>
    cases r
    cases hm : μ a with
    | none => simp only [hm] at h
    | some m =>
      cases m with
      | lst xs =>
        simp only [hm] at h
        obtain ⟨vs, hv, _⟩ := A.lstM hm
        exact listCase (SqL.of hv) (fun F' μ' H' e A' c => by
          obtain ⟨ws, h1, h2⟩ := A'.lstM c
          exact ⟨ws, SqL.of h1, h2⟩) h
      | dk xs => simp only [hm] at h
      | dt xs => simp only [hm] at h
      | ins C xs => simp only [hm] at h
  case tup a ds vs hf rl =>
    cases r
    obtain ⟨its, _, pl, _⟩ := I.tuple (SqT.of (A.sub _ _ hf))
    have S : Src X.K F (Itt X.K a) (fun _ => True) ds := src_tup fun F' μ' H' e A' _ => ⟨vs, SqT.of (A'.sub _ _ (e _ _ hf)), rl.mono e⟩
    exact wpAny_pyIter_tuple (show s.heap.IsTuple a its.toArray from pl) (pi_one (tk := s.toks) I _ (turn_tuple a _) ⟨_, Heap.get?_push_size _ rfl, rfl, rfl⟩ (o F _ H _ ds μ (Same.refl F) A S h))
theorem i_it (he : DE X e te) : DI X tg e (rIt te) := by
  refine ⟨fun pins s σ H R I ⟨F, ρ, μ, q, A, Rr, h, o⟩ => ?_⟩
  refine thn (he.run pins s σ H (fun x H1 => ∃ F1 μ1 d, Ext F F1 ∧ Abs X.K F1 μ1 H1 ∧ Rp X.K F1 d x ∧ itD d μ1 q) I ⟨F, ρ, μ, _, A, Rr, h, fun F1 x H1 d μ1 e1 A1 r1 h1 => ⟨F1, μ1, d, e1, A1, r1, h1⟩⟩) fun v s1 ⟨x, H1, I1, r1, F1, μ1, d, e1, A1, rp, h1⟩ => ?_
  exact it_of I1 A1 rp r1 h1 fun F' J H' C ds μ' e2 => o F' J H' C ds μ' (Same.trans e1 e2)
/-! ranges -/
def rngD (lo : Int) (n : Nat) : List D := (List.range n).map fun k : Nat => D.int (lo + (k : Int))
def rngC (lo c : Int) (n : Nat) : List D := (List.range n).map fun k : Nat => D.int (lo + (k : Int) * c)
theorem rngD_at {lo : Int} {n i : Nat} {d : D} (h : (rngD lo n)[i]? = some d) : d = .int (lo + (i : Int)) := by
  unfold rngD at h
  rw [List.getElem?_map] at h
  cases e : (List.range n)[i]? with
  | none => rw [e] at h; cases h
  | some k =>
    rw [e] at h; cases h
    obtain ⟨h1, h2⟩ := List.getElem?_eq_some_iff.mp e
    rw [List.getElem_range] at h2
    rw [h2]
theorem rngC_at {lo c : Int} {n i : Nat} {d : D} (h : (rngC lo c n)[i]? = some d) : d = .int (lo + (i : Int) * c) := by
  unfold rngC at h
  rw [List.getElem?_map] at h
  cases e : (List.range n)[i]? with
  | none => rw [e] at h; cases h
  | some k =>
    rw [e] at h; cases h
    obtain ⟨h1, h2⟩ := List.getElem?_eq_some_iff.mp e
    rw [List.getElem_range] at h2
    rw [h2]
theorem src_rng {K : PySem.W.Frag} {F : Hp} (lo : Int) (n : Nat) : Src K F (Itr lo n) (fun _ => True) (rngD lo n) :=
  src_flat (fun i H hi => by show i < n; simpa [rngD] using hi) (fun i H hi => by show n ≤ i; simpa [rngD] using hi) fun i H x H' hy => ⟨hy.1, fun d hd F' => by rw [rngD_at hd, hy.2]; exact .int⟩
theorem src_rngC {K : PySem.W.Frag} {F : Hp} (lo c : Int) (n : Nat) : Src K F (Itc lo c n) (fun _ => True) (rngC lo c n) :=
  src_flat (fun i H hi => by show i < n; simpa [rngC] using hi) (fun i H hi => by show n ≤ i; simpa [rngC] using hi) fun i H x H' hy => ⟨hy.1, fun d hd F' => by rw [rngC_at hd, hy.2]; exact .int⟩
abbrev small62 (i : Int) : Prop := -(2 ^ 62) ≤ i ∧ i < 2 ^ 62
def rRng1 (t : RA) : RI := fun ρ μ q => t ρ μ fun ds μ1 => match ds with
  | [.int j] => small62 j ∧ q (fun _ => True) (rngD 0 j.toNat) μ1
  | _ => False
def rRng2 (t : RA) : RI := fun ρ μ q => t ρ μ fun ds μ1 => match ds with
  | [.int i, .int j] => (small62 i ∧ small62 j) ∧ q (fun _ => True) (rngD i (j - i).toNat) μ1
  | _ => False
/-- a range downward by ones -/
def rRng3 (t : RA) : RI := fun ρ μ q => t ρ μ fun ds μ1 => match ds with
  | [.int i, .int j, .int c] => c = -1 ∧ (small62 i ∧ small62 j) ∧ q (fun _ => True) (rngC i (-1) (i - j).toNat) μ1
  | _ => False
variable {a b c : Expr} {ta : RA} {p pos : Pos}
theorem i_rng1 (hm : X.mg "range" = none) (ha : DA X [a] ta) (hg : Gl X "range" := by rfl) (hs : starEach [a] X.env = [(false, eval a X.env)] := by rfl) : DI X tg (.Call (.Name "range" p) [a] [] pos) (rRng1 ta) :=
  weakI (pi_range1 hg hm ha hs) fun σ H R ⟨F, ρ, μ, q, A, Rr, h, o⟩ => ⟨F, ρ, μ, _, A, Rr, h, fun F1 vs H1 ds μ1 e1 A1 r1 h1 => by
    split at h1
    · rename_i j
      obtain ⟨v, rfl, r⟩ := rpl1 r1
      cases r
      exact ⟨j, rfl, h1.1.1, h1.1.2, o F1 _ H1 _ _ μ1 e1 A1 (src_rng 0 _) h1.2⟩
    · exact h1.elim⟩
theorem i_rng2 (hm : X.mg "range" = none) (ha : DA X [a, b] ta) (hg : Gl X "range" := by rfl) (hs : starEach [a, b] X.env = [(false, eval a X.env), (false, eval b X.env)] := by rfl) (hs2 : starEach [b] X.env = [(false, eval b X.env)] := by rfl) : DI X tg (.Call (.Name "range" p) [a, b] [] pos) (rRng2 ta) :=
  weakI (pi_range2 hg hm ha hs hs2) fun σ H R ⟨F, ρ, μ, q, A, Rr, h, o⟩ => ⟨F, ρ, μ, _, A, Rr, h, fun F1 vs H1 ds μ1 e1 A1 r1 h1 => by
    split at h1
    · rename_i i j
      obtain ⟨v, w, rfl, r, r'⟩ := rpl2 r1
      cases r; cases r'
      exact ⟨i, j, rfl, ⟨h1.1.1.1, h1.1.1.2, h1.1.2.1, h1.1.2.2⟩, o F1 _ H1 _ _ μ1 e1 A1 (src_rng i _) h1.2⟩
    · exact h1.elim⟩
/-- reversed(range(n)) -/
def rRevR1 (t : RE) : RI := fun ρ μ q => t ρ μ fun d μ1 => match d with
  | .int n => small62 n ∧ 0 ≤ n ∧ q (fun _ => True) (rngC (n - 1) (-1) n.toNat) μ1
  | _ => False
theorem i_revR1 {p2 pos2 : Pos} {te : RE} (hm : X.mg "reversed" = none) (hm2 : X.mg "range" = none) (he : DE X a te) (hg : Gl X "reversed" := by rfl) (hg2 : Gl X "range" := by rfl)
    (hs : starEach [.Call (.Name "range" p2) [a] [] pos2] X.env = (false, eval (.Call (.Name "range" p2) [a] [] pos2) X.env) :: starEach [] X.env := by rfl) (hs2 : starEach [a] X.env = (false, eval a X.env) :: starEach [] X.env := by rfl) : DI X tg (.Call (.Name "reversed" p) [.Call (.Name "range" p2) [a] [] pos2] [] pos) (rRevR1 te) :=
  weakI (pi_revR hg hm (prg_1 hg2 hm2 he hs2) hs) fun σ H R ⟨F, ρ, μ, q, A, Rr, h, o⟩ => ⟨F, ρ, μ, _, A, Rr, h, fun F1 v H1 d μ1 e1 A1 r1 h1 => by
    cases d with
    | int n =>
      cases r1
      obtain ⟨h2, h3, h4⟩ := h1
      refine ⟨n, rfl, by decide, by decide, h2.1, h2.2, ?_⟩
      have e : (0 : Int) + (((n - 0).toNat : Nat) : Int) - 1 = n - 1 := by omega
      rw [e, Int.sub_zero]
      exact o F1 _ H1 _ _ μ1 e1 A1 (src_rngC _ _ _) h4
    | _ => exact (h1 : False).elim⟩
end
end DL

/-! The data layer: walks over two things, methods of lists, fields, calls, defs. -/
namespace DL
open PySem PySem.Spec PyProof.Rows L2 BM

/-! ### enumerate, zip, reversed, a range downward -/
def enuD (i : Nat) : List D → List D
  | [] => []
  | d :: ds => .tup [.int (i : Int), d] :: enuD (i + 1) ds
theorem enuD_len : ∀ (ds : List D) (i : Nat), (enuD i ds).length = ds.length
  | [], _ => rfl
  | _ :: ds, i => congrArg Nat.succ (enuD_len ds (i + 1))
theorem enuD_at : ∀ {ds : List D} {i j : Nat} {x : D}, (enuD i ds)[j]? = some x → ∃ d, ds[j]? = some d ∧ x = .tup [.int ((i + j : Nat) : Int), d]
  | [], i, j, x, h => by simp [enuD] at h
  | d :: ds, i, 0, x, h => ⟨d, rfl, by simp [enuD] at h; exact h.symm⟩
  | d :: ds, i, j + 1, x, h => by
    obtain ⟨e, h1, h2⟩ := enuD_at (ds := ds) (i := i + 1) (j := j) (x := x) (by simpa [enuD] using h)
    refine ⟨e, by simpa using h1, ?_⟩
    rw [h2]
    have : i + 1 + j = i + (j + 1) := by omega
    rw [this]
def zipD : List D → List D → List D
  | d :: ds, e :: es => .tup [d, e] :: zipD ds es
  | _, _ => []
theorem zipD_at : ∀ {ds es : List D} {j : Nat} {x : D}, (zipD ds es)[j]? = some x → ∃ d e, ds[j]? = some d ∧ es[j]? = some e ∧ x = .tup [d, e]
  | [], es, j, x, h => by simp [zipD] at h
  | _ :: _, [], j, x, h => by simp [zipD] at h
  | d :: ds, e :: es, 0, x, h => ⟨d, e, rfl, rfl, by simp [zipD] at h; exact h.symm⟩
  | d :: ds, e :: es, j + 1, x, h => by
    obtain ⟨a, b, h1, h2, h3⟩ := zipD_at (ds := ds) (es := es) (j := j) (x := x) (by simpa [zipD] using h)
    exact ⟨a, b, by simpa using h1, by simpa using h2, h3⟩
theorem zipD_len : ∀ (ds es : List D), (zipD ds es).length = min ds.length es.length
  | [], es => by simp [zipD]
  | _ :: _, [] => by simp [zipD]
  | d :: ds, e :: es => by simp only [zipD, List.length_cons, zipD_len ds es]; omega
section
variable {K : PySem.W.Frag} {F : Hp}
/-- a new tuple laid at T -/
theorem newTup {F' : Hp} {μ : Mu} {H : Hp} {T : Addr} {ds : List D} {vs : List V} (A : Abs K F' μ H) (hT : H T = none) (r : RpL K F' ds vs) : ∃ F'', Ext F' F'' ∧ Abs K F'' μ (upd H T (.tup vs)) ∧ Rp K F'' (.tup ds) (.ref T) := by
  obtain ⟨A', x⟩ := A.new (o := .tup vs) hT
  exact ⟨_, x, A', .tup upd_same (r.mono x)⟩
theorem src_enum {a : Addr} {C : Mu → Prop} {ds : List D} (h : ∀ F' μ H, Ext F F' → Abs K F' μ H → C μ → ∃ vs, SqL K H a vs ∧ RpL K F' ds vs) : Src K F (Ite K a) C (enuD 0 ds) where
  go := fun i F' μ H e A c hi => by
    obtain ⟨vs, h1, h2⟩ := h F' μ H e A c
    rw [enuD_len] at hi
    exact ⟨vs, vs[i]'(by rw [← h2.length]; exact hi), h1, List.getElem?_eq_getElem _⟩
  stop := fun i F' μ H e A c hi => by
    obtain ⟨vs, h1, h2⟩ := h F' μ H e A c
    rw [enuD_len] at hi
    exact ⟨vs, h1, by rw [← h2.length]; exact hi⟩
  yld := fun i F' μ H x H' d e A c hd hy => by
    obtain ⟨vs, h1, h2⟩ := h F' μ H e A c
    obtain ⟨T, y, rfl, hT, rfl, hy⟩ := hy
    obtain ⟨d', hd', rfl⟩ := enuD_at hd
    obtain ⟨v, hv, r⟩ := h2.get hd'
    have := hy vs h1
    rw [hv] at this
    cases this
    rw [Nat.zero_add]
    exact newTup A hT (.cons .int (.cons r .nil))
theorem src_zip {a b : Addr} {C : Mu → Prop} {ds es : List D} (h : ∀ F' μ H, Ext F F' → Abs K F' μ H → C μ → (∃ vs, SqL K H a vs ∧ RpL K F' ds vs) ∧ ∃ ws, SqL K H b ws ∧ RpL K F' es ws) : Src K F (Itz K a b) C (zipD ds es) where
  go := fun i F' μ H e A c hi => by
    obtain ⟨⟨vs, h1, h2⟩, ws, h3, h4⟩ := h F' μ H e A c
    rw [zipD_len] at hi
    exact ⟨vs, ws, vs[i]'(by rw [← h2.length]; omega), ws[i]'(by rw [← h4.length]; omega), h1, h3, List.getElem?_eq_getElem _, List.getElem?_eq_getElem _⟩
  stop := fun i F' μ H e A c hi => by
    obtain ⟨⟨vs, h1, h2⟩, ws, h3, h4⟩ := h F' μ H e A c
    rw [zipD_len] at hi
    exact ⟨vs, ws, h1, h3, by rw [← h2.length, ← h4.length]; omega⟩
  yld := fun i F' μ H x H' d e A c hd hy => by
    obtain ⟨⟨vs, h1, h2⟩, ws, h3, h4⟩ := h F' μ H e A c
    obtain ⟨T, y, z, rfl, hT, rfl, hy, hz⟩ := hy
    obtain ⟨d', e', hd', he', rfl⟩ := zipD_at hd
    obtain ⟨v, hv, r⟩ := h2.get hd'
    obtain ⟨w, hw, r'⟩ := h4.get he'
    have q1 := hy vs h1
    have q2 := hz ws h3
    rw [hv] at q1; rw [hw] at q2
    cases q1; cases q2
    exact newTup A hT (.cons r (.cons r' .nil))
theorem src_zipT {a b : Addr} {C : Mu → Prop} {ds es : List D} (h : ∀ F' μ H, Ext F F' → Abs K F' μ H → C μ → (∃ vs, SqT K H a vs ∧ RpL K F' ds vs) ∧ ∃ ws, SqT K H b ws ∧ RpL K F' es ws) : Src K F (RZ.ItzT K a b) C (zipD ds es) where
  go := fun i F' μ H e A c hi => by
    obtain ⟨⟨vs, h1, h2⟩, ws, h3, h4⟩ := h F' μ H e A c
    rw [zipD_len] at hi
    exact ⟨vs, ws, vs[i]'(by rw [← h2.length]; omega), ws[i]'(by rw [← h4.length]; omega), h1, h3, List.getElem?_eq_getElem _, List.getElem?_eq_getElem _⟩
  stop := fun i F' μ H e A c hi => by
    obtain ⟨⟨vs, h1, h2⟩, ws, h3, h4⟩ := h F' μ H e A c
    rw [zipD_len] at hi
    exact ⟨vs, ws, h1, h3, by rw [← h2.length, ← h4.length]; omega⟩
  yld := fun i F' μ H x H' d e A c hd hy => by
    obtain ⟨⟨vs, h1, h2⟩, ws, h3, h4⟩ := h F' μ H e A c
    obtain ⟨T, y, z, rfl, hT, rfl, hy, hz⟩ := hy
    obtain ⟨d', e', hd', he', rfl⟩ := zipD_at hd
    obtain ⟨v, hv, r⟩ := h2.get hd'
    obtain ⟨w, hw, r'⟩ := h4.get he'
    have q1 := hy vs h1
    have q2 := hz ws h3
    rw [hv] at q1; rw [hw] at q2
    cases q1; cases q2
    exact newTup A hT (.cons r (.cons r' .nil))
theorem src_rev {a : Addr} {C : Mu → Prop} {ds : List D} (h : ∀ F' μ H, Ext F F' → Abs K F' μ H → C μ → ∃ vs, SqL K H a vs ∧ RpL K F' ds vs) : Src K F (Itv K a ds.length) C ds.reverse where
  go := fun i F' μ H e A c hi => by
    obtain ⟨vs, h1, h2⟩ := h F' μ H e A c
    rw [List.length_reverse] at hi
    exact ⟨hi, vs, vs[ds.length - 1 - i]'(by rw [← h2.length]; omega), h1, List.getElem?_eq_getElem _⟩
  stop := fun i F' μ H e A c hi => by
    rw [List.length_reverse] at hi
    exact hi
  yld := fun i F' μ H x H' d e A c hd hy => by
    obtain ⟨vs, h1, h2⟩ := h F' μ H e A c
    obtain ⟨rfl, hy⟩ := hy
    have hi := (List.getElem?_eq_some_iff.mp hd).1
    rw [List.length_reverse] at hi
    rw [List.getElem?_reverse hi] at hd
    obtain ⟨v, hv, r⟩ := h2.get hd
    have := hy vs h1
    rw [hv] at this
    cases this
    exact ⟨F', Same.refl _, A, r⟩
end
/-- what must stand at each turn of a walk over such a list -/
def stays (d : D) (ds : List D) : Mu → Prop := match d with
  | .ob _ => fun μ => itm μ d = some ds
  | _ => fun _ => True
theorem stays_ok {K : PySem.W.Frag} {F H : Hp} {μ : Mu} {d : D} {v : V} {ds : List D} (A : Abs K F μ H) (r : Rp K F d v) (h : itm μ d = some ds) : ∃ a, v = .ref a ∧ stays d ds μ ∧ ∀ F' μ' H', Ext F F' → Abs K F' μ' H' → stays d ds μ' → ∃ vs, SqL K H' a vs ∧ RpL K F' ds vs := by
  obtain ⟨a, vs, rfl, h1, h2⟩ := view_itm A r h
  refine ⟨a, rfl, ?_, fun F' μ' H' e A' c => ?_⟩
  · unfold stays; split
    · exact h
    · trivial
  · have h' : itm μ' d = some ds := by
      cases d with
      | ob b => exact c
      | _ => exact h
    obtain ⟨a', vs', e1, h3, h4⟩ := view_itm A' (r.mono e) h'
    cases e1
    exact ⟨vs', h3, h4⟩
def rEnum (t : RA) : RI := fun ρ μ q => t ρ μ fun ds μ1 => match ds with
  | [d] => match itm μ1 d with
    | some xs => q (stays d xs) (enuD 0 xs) μ1
    | none => False
  | _ => False
def rZip (t : RA) : RI := fun ρ μ q => t ρ μ fun ds μ1 => match ds with
  | [.tup xs, .tup ys] => q (fun _ => True) (zipD xs ys) μ1
  | [d, e] => match itm μ1 d, itm μ1 e with
    | some xs, some ys => q (fun μ => stays d xs μ ∧ stays e ys μ) (zipD xs ys) μ1
    | _, _ => False
  | _ => False
def rRev (t : RE) : RI := fun ρ μ q => t ρ μ fun d μ1 => match itm μ1 d with
  | some xs => q (stays d xs) xs.reverse μ1
  | none => False
section
variable {X : Cx} {tg : Expr} {a b c : Expr} {ta : RA} {te : RE} {p pos tpos : Pos} {elts : List Expr} {kk : Nat}
theorem i_rng3 (hm : X.mg "range" = none) (ha : DA X [a, b, c] ta) (hg : Gl X "range" := by rfl) (hs : starEach [a, b, c] X.env = (false, eval a X.env) :: starEach [b, c] X.env := by rfl) (hpl : (backTo pos (starEach [b, c] X.env)).any (·.1) = false := by rfl) : DI X tg (.Call (.Name "range" p) [a, b, c] [] pos) (rRng3 ta) :=
  weakI (pi_range3 hg hm ha hs hpl) fun σ H R ⟨F, ρ, μ, q, A, Rr, h, o⟩ => ⟨F, ρ, μ, _, A, Rr, h, fun F1 vs H1 ds μ1 e1 A1 r1 h1 => by
    split at h1
    · rename_i i j k
      obtain ⟨rfl, ⟨h2, h3⟩, h4⟩ := h1
      cases r1 with
      | cons r r1 =>
        obtain ⟨w, w', rfl, r', r''⟩ := rpl2 r1
        cases r; cases r'; cases r''
        exact ⟨i, j, -1, (i - j).toNat, rfl, RgC.neg h2.1 h2.2 h3.1 h3.2, o F1 _ H1 _ _ μ1 e1 A1 (src_rngC _ _ _) h4⟩
    · exact h1.elim⟩
theorem i_enum (hm : X.mg "enumerate" = none) (ha : DA X [a] ta) (hg : Gl X "enumerate" := by rfl) (hs : starEach [a] X.env = [(false, eval a X.env)] := by rfl) : DI X (.Tuple elts kk tpos) (.Call (.Name "enumerate" p) [a] [] pos) (rEnum ta) :=
  weakI (pi_enum hg hm ha hs) fun σ H R ⟨F, ρ, μ, q, A, Rr, h, o⟩ => ⟨F, ρ, μ, _, A, Rr, h, fun F1 vs H1 ds μ1 e1 A1 r1 h1 => by
    split at h1
    · rename_i d
      obtain ⟨v, rfl, r⟩ := rpl1 r1
      cases e : itm μ1 d with
      | none => simp only [e] at h1
      | some xs =>
        simp only [e] at h1
        obtain ⟨a', vs', rfl, z1, z2⟩ := view_itm A1 r e
        obtain ⟨a2, e2, s1, s2⟩ := stays_ok A1 r e
        cases e2
        exact ⟨a', vs', rfl, z1, o F1 _ H1 _ _ μ1 e1 A1 (src_enum s2) h1⟩
    · exact h1.elim⟩
theorem i_zip (hm : X.mg "zip" = none) (ha : DA X [a, b] ta) (hg : Gl X "zip" := by rfl) (hs : starEach [a, b] X.env = (false, eval a X.env) :: starEach [b] X.env := by rfl) (hpl : (backTo pos (starEach [b] X.env)).any (·.1) = false := by rfl) : DI X (.Tuple elts kk tpos) (.Call (.Name "zip" p) [a, b] [] pos) (rZip ta) :=
  weakI (RZ.pi_zipA hg hm ha hs hpl) fun σ H R ⟨F, ρ, μ, q, A, Rr, h, o⟩ => ⟨F, ρ, μ, _, A, Rr, h, fun F1 vs H1 ds μ1 e1 A1 r1 h1 => by
    split at h1
    · rename_i xs ys
      obtain ⟨v, w, rfl, r, r'⟩ := rpl2 r1
      cases r with
      | tup hf rl =>
        cases r' with
        | tup hf' rl' =>
          exact ⟨_, _, _, _, rfl, .inr ⟨SqT.of (A1.sub _ _ hf), SqT.of (A1.sub _ _ hf'), o F1 _ H1 _ _ μ1 e1 A1 (src_zipT fun F' μ' H' e A' _ => ⟨⟨_, SqT.of (A'.sub _ _ (e _ _ hf)), rl.mono e⟩, _, SqT.of (A'.sub _ _ (e _ _ hf')), rl'.mono e⟩) h1⟩⟩
    · rename_i d e _
      obtain ⟨v, w, rfl, r, r'⟩ := rpl2 r1
      cases z1 : itm μ1 d with
      | none => simp only [z1] at h1
      | some xs =>
        cases z2 : itm μ1 e with
        | none => simp only [z1, z2] at h1
        | some ys =>
          simp only [z1, z2] at h1
          obtain ⟨a1, vs1, rfl, y1, _⟩ := view_itm A1 r z1
          obtain ⟨a2, vs2, rfl, y2, _⟩ := view_itm A1 r' z2
          obtain ⟨a3, e3, s3, t3⟩ := stays_ok A1 r z1
          obtain ⟨a4, e4, s4, t4⟩ := stays_ok A1 r' z2
          cases e3; cases e4
          exact ⟨_, _, _, _, rfl, .inl ⟨y1, y2, o F1 _ H1 _ _ μ1 e1 A1 (src_zip fun F' μ' H' e A' c => ⟨t3 F' μ' H' e A' c.1, t4 F' μ' H' e A' c.2⟩) h1⟩⟩
    · exact h1.elim⟩
theorem i_rev (hm : X.mg "reversed" = none) (ha : DE X a te) (hg : Gl X "reversed" := by rfl) (hs : starEach [a] X.env = (false, eval a X.env) :: starEach [] X.env := by rfl) : DI X tg (.Call (.Name "reversed" p) [a] [] pos) (rRev te) :=
  weakI (RT.pi_revA hg hm ha hs) fun σ H R ⟨F, ρ, μ, q, A, Rr, h, o⟩ => ⟨F, ρ, μ, _, A, Rr, h, fun F1 v H1 d μ1 e1 A1 r h1 => by
    cases e : itm μ1 d with
    | none => simp only [e] at h1
    | some xs =>
      simp only [e] at h1
      obtain ⟨a', vs', rfl, z1, z2⟩ := view_itm A1 r e
      obtain ⟨a2, e2, s1, s2⟩ := stays_ok A1 r e
      cases e2
      exact ⟨a', vs', rfl, .inl ⟨z1, by rw [← z2.length]; exact o F1 _ H1 _ _ μ1 e1 A1 (src_rev s2) h1⟩⟩⟩
end

/-! ### methods of lists -/
abbrev RM := D → List D → Mu → QD → Prop
def upM (K : PySem.W.Frag) (r : RM) : V → List V → Hp → VK → Prop := fun x xs H Q => ∃ F μ d ds q, Abs K F μ H ∧ Rp K F d x ∧ RpL K F ds xs ∧ r d ds μ q ∧ OutE K F q Q
abbrev MtD (X : Cx) (id : String) (r : RM) : Prop := MtR X id (upM X.K r)
/-- the receiver is of that built-in class -/
def isTy (T : String) (μ : Mu) (d : D) : Bool := match rs μ d with
  | .str _ => T == "str"
  | .lst _ => T == "list"
  | .scr _ => T == "list"
  | .dk _ => T == "dict"
  | .dt _ => T == "dict"
  | _ => false
theorem isTy_ok {K : PySem.W.Frag} {F H : Hp} {μ : Mu} {d : D} {v : V} {T : String} (A : Abs K F μ H) (r : Rp K F d v) (h : isTy T μ d = true) : tyV K T v H := by
  unfold isTy at h
  cases h1 : rs μ d <;> rw [h1] at h <;> try (cases h; done)
  case str z => cases rs_flat h1 rfl; cases r; exact beq_iff_eq.mp h
  case lst xs =>
    obtain ⟨a, vs, rfl, ha, _⟩ := view_lst A r h1
    exact .inl ⟨beq_iff_eq.mp h, vs, SqL.of ha⟩
  case scr ns =>
    cases rs_flat h1 rfl
    cases r with
    | scr hq => exact .inl ⟨beq_iff_eq.mp h, _, Same.seq A.sub hq⟩
  case dk kvs =>
    obtain ⟨a, vs, rfl, ha, _⟩ := view_dk A r h1
    exact .inr (.inr (.inl ⟨beq_iff_eq.mp h, .inl ⟨vs, ha⟩⟩))
  case dt kvs =>
    obtain ⟨a, vs, rfl, ha, _⟩ := view_dt A r h1
    exact .inr (.inr (.inl ⟨beq_iff_eq.mp h, .inr ⟨vs, ha⟩⟩))
def rBM (T : String) (r : RM) (to : RE) (t : RA) : RE := fun ρ μ q => to ρ μ fun d μ1 => isTy T μ1 d = true ∧ t ρ μ1 fun ds μ2 => r d ds μ2 q
def rBM0 (T : String) (r : RM) (to : RE) : RE := fun ρ μ q => to ρ μ fun d μ1 => isTy T μ1 d = true ∧ r d [] μ1 q
def mAppend : RM := fun d ds μ q => match d, ds with
  | .ob a, [x] => match μ a with
    | some (.lst xs) => xs.length < sizeLine ∧ q .non (upm μ a (.lst (xs ++ [x])))
    | _ => False
  | _, _ => False
def mInsert : RM := fun d ds μ q => match d, ds with
  | .ob a, [.int i, x] => match μ a with
    | some (.lst xs) => (xs.length < sizeLine ∧ 0 ≤ i ∧ i < 2 ^ 63) ∧ q .non (upm μ a (.lst (xs.take i.toNat ++ [x] ++ xs.drop i.toNat)))
    | _ => False
  | _, _ => False
def mPopAt : RM := fun d ds μ q => match d, ds with
  | .ob a, [.int i] => match μ a with
    | some (.lst xs) => (0 ≤ i ∧ i < xs.length ∧ xs.length < 2 ^ 62) ∧ match xs[i.toNat]? with
      | some x => q x (upm μ a (.lst (xs.eraseIdx i.toNat)))
      | none => False
    | _ => False
  | _, _ => False
def mClear : RM := fun d ds μ q => match d, ds with
  | .ob a, [] => match μ a with
    | some (.lst _) => q .non (upm μ a (.lst []))
    | _ => False
  | _, _ => False
section
variable {X : Cx} {o e : Expr} {es : List Expr} {to : RE} {t : RA} {name : Str} {apos cpos : Pos} {T id : String} {r : RM}
theorem d_bm (pa : PlainAttrs T) (sl : Slot T name id) (hty : typeOf (.builtin id) = pure (.type "method_descriptor")) (hm : MtD X id r) (ho : DE X o to) (ha : DA X (e :: es) t)
    (hbase : attributeBase o name X.env (eval o X.env) = eval o X.env := by rfl)
    (hfew : ((backTo cpos (starEach (e :: es) X.env)).all (fun x => !x.1) && (backToKw cpos (keywordEach [] X.env)).all (fun x => x.1.isSome) && decide ((e :: es).length + ([] : List Keyword).length + (if ([] : List Keyword).isEmpty then 0 else 1) < 30)) = true := by rfl)
    (hline : (apos.endLine == cpos.line) = true := by rfl) (hs : starEach (e :: es) X.env = (false, eval e X.env) :: starEach es X.env := by rfl) (hplain : (backTo cpos (starEach es X.env)).any (·.1) = false := by rfl) :
    DE X (.Call (.Attribute o name apos) (e :: es) [] cpos) (rBM T r to t) :=
  weakE (pe_bm pa sl hty hm ho ha hbase hfew hline hs hplain) fun σ H Q ⟨F, ρ, μ, q, A, R, h, o⟩ =>
    ⟨F, ρ, μ, _, A, R, h, fun F1 x H1 d1 μ1 e1 A1 r1 ⟨k1, h1⟩ => ⟨isTy_ok A1 r1 k1, F1, ρ, μ1, _, A1, R.mono e1, h1, fun F2 xs H2 ds μ2 e2 A2 r2 h2 =>
      ⟨F2, μ2, d1, ds, q, A2, r1.mono e2, r2, h2, o.mono (Same.trans e1 e2)⟩⟩⟩
theorem d_bm0 (pa : PlainAttrs T) (sl : Slot T name id) (hty : typeOf (.builtin id) = pure (.type "method_descriptor")) (hm : MtD X id r) (ho : DE X o to)
    (hbase : attributeBase o name X.env (eval o X.env) = eval o X.env := by rfl) (hline : (apos.endLine == cpos.line) = true := by rfl) : DE X (.Call (.Attribute o name apos) [] [] cpos) (rBM0 T r to) :=
  weakE (pe_bm0 pa sl hty hm ho hbase hline) fun σ H Q ⟨F, ρ, μ, q, A, R, h, o⟩ =>
    ⟨F, ρ, μ, _, A, R, h, fun F1 x H1 d1 μ1 e1 A1 r1 ⟨k1, h1⟩ => ⟨isTy_ok A1 r1 k1, F1, μ1, d1, [], q, A1, r1, .nil, h1, o.mono e1⟩⟩
theorem m_append : MtD X "list.append" mAppend := by
  intro p s σ H x xs v us Q I rx rxs ⟨F, μ, d, ds, q, A, r1, r2, h, o⟩
  unfold mAppend at h
  split at h
  · rename_i a y
    cases r1
    obtain ⟨w, rfl, r3⟩ := rpl1 r2
    cases hm : μ a with
    | none => simp only [hm] at h
    | some m =>
      cases m with
      | lst zs =>
        simp only [hm] at h
        obtain ⟨vs, h1, h2⟩ := A.lstM hm
        exact mt_append p s σ H _ _ v us Q I rx rxs ⟨a, vs, w, rfl, rfl, h1, by rw [← h2.length]; exact h.1, o F _ _ _ _ (Same.refl F) (A.put hm (.lst (h2.append (.cons r3 .nil)))) .non h.2⟩
      | dk _ => simp only [hm] at h
      | dt _ => simp only [hm] at h
      | ins _ _ => simp only [hm] at h
  · exact h.elim
theorem m_insert : MtD X "list.insert" mInsert := by
  intro p s σ H x xs v us Q I rx rxs ⟨F, μ, d, ds, q, A, r1, r2, h, o⟩
  unfold mInsert at h
  split at h
  · rename_i a i y
    cases r1
    obtain ⟨w0, w, rfl, r3, r4⟩ := rpl2 r2
    cases r3
    cases hm : μ a with
    | none => simp only [hm] at h
    | some m =>
      cases m with
      | lst zs =>
        simp only [hm] at h
        obtain ⟨vs, h1, h2⟩ := A.lstM hm
        exact mt_insert p s σ H _ _ v us Q I rx rxs ⟨a, vs, i, w, rfl, rfl, h1, by rw [← h2.length]; exact h.1.1, h.1.2.1, h.1.2.2, o F _ _ _ _ (Same.refl F) (A.put hm (.lst (((h2.take _).append (.cons r4 .nil)).append (h2.drop _)))) .non h.2⟩
      | dk _ => simp only [hm] at h
      | dt _ => simp only [hm] at h
      | ins _ _ => simp only [hm] at h
  · exact h.elim
theorem m_popAt : MtD X "list.pop" mPopAt := by
  intro p s σ H x xs v us Q I rx rxs ⟨F, μ, d, ds, q, A, r1, r2, h, o⟩
  unfold mPopAt at h
  split at h
  · rename_i a i
    cases r1
    obtain ⟨w, rfl, r3⟩ := rpl1 r2
    cases r3
    cases hm : μ a with
    | none => simp only [hm] at h
    | some m =>
      cases m with
      | lst zs =>
        simp only [hm] at h
        obtain ⟨vs, h1, h2⟩ := A.lstM hm
        obtain ⟨⟨k1, k2, k3⟩, h⟩ := h
        cases e : zs[i.toNat]? with
        | none => simp only [e] at h
        | some y =>
          simp only [e] at h
          obtain ⟨w, e2, r4⟩ := h2.get e
          refine mt_popAt p s σ H _ _ v us Q I rx rxs ⟨a, vs, i, i.toNat, w, rfl, rfl, h1, by omega, by omega, ?_, e2, o F _ _ _ _ (Same.refl F) (A.put hm (.lst (h2.eraseIdx _))) r4 h⟩
          exact seqIndex_of k1 (by rw [← h2.length]; exact k2)
      | dk _ => simp only [hm] at h
      | dt _ => simp only [hm] at h
      | ins _ _ => simp only [hm] at h
  · exact h.elim
theorem m_clear : MtD X "list.clear" mClear := by
  intro p s σ H x xs v us Q I rx rxs ⟨F, μ, d, ds, q, A, r1, r2, h, o⟩
  unfold mClear at h
  split at h
  · rename_i a
    cases r1
    cases r2
    cases hm : μ a with
    | none => simp only [hm] at h
    | some m =>
      cases m with
      | lst zs =>
        simp only [hm] at h
        obtain ⟨vs, h1, h2⟩ := A.lstM hm
        exact mt_clear p s σ H _ _ v us Q I rx rxs ⟨a, vs, rfl, rfl, h1, o F _ _ _ _ (Same.refl F) (A.put hm (.lst .nil)) .non h⟩
      | dk _ => simp only [hm] at h
      | dt _ => simp only [hm] at h
      | ins _ _ => simp only [hm] at h
  · exact h.elim
end
/-! ### stores into lists and dicts, fields -/
def gSet (to ti : RE) : RG := fun v ρ μ q => to ρ μ fun d μ1 => ti ρ μ1 fun i μ2 => match d, i with
  | .ob a, .int k => match μ2 a with
    | some (.lst xs) => match ixN xs.length k with
      | some j => q ρ (upm μ2 a (.lst (xs.set j v)))
      | none => False
    | _ => False
  | _, _ => False
def rDPut (td ty tv : RE) : RSt := fun E ρ μ => tv ρ μ fun v μ1 => td ρ μ1 fun d μ2 => ty ρ μ2 fun y μ3 => match d with
  | .ob a => match μ3 a with
    | some (.dk kvs) => match keyOf y with
      | some k => kvs.length < sizeLine ∧ E.nx ρ (upm μ3 a (.dk (putG kvs k v)))
      | none => False
    | some (.dt kvs) => match y with
      | .tup ds => match keysOf ds with
        | some k => kvs.length < sizeLine ∧ E.nx ρ (upm μ3 a (.dt (putG kvs k v)))
        | none => False
      | _ => False
    | _ => False
  | _ => False
def rDNew (own t : Bool) : RE := fun _ μ q => match own, t with
  | true, false => ∀ p, μ p = none → q (.ob p) (upm μ p (.dk []))
  | true, true => ∀ p, μ p = none → q (.ob p) (upm μ p (.dt []))
  | false, _ => q (.dk []) μ
def putFD (f : Str) (v : D) : List (Str × D) → List (Str × D)
  | [] => [(f, v)]
  | (g, x) :: r => if g = f then (g, v) :: r else (g, x) :: putFD f v r
theorem putFD_ok {K : PySem.W.Frag} {F : Hp} {f : Str} {d : D} {v : V} (r : Rp K F d v) : ∀ {fs : List (Str × D)} {vs : List (Str × V)}, fs.map Prod.fst = vs.map Prod.fst → RpL K F (fs.map Prod.snd) (vs.map Prod.snd) → (putFD f d fs).map Prod.fst = (putF f v vs).map Prod.fst ∧ RpL K F ((putFD f d fs).map Prod.snd) ((putF f v vs).map Prod.snd)
  | [], [], _, _ => ⟨rfl, .cons r .nil⟩
  | (g, x) :: fs, (g', y) :: vs, e, l => by
    rw [List.map_cons, List.map_cons] at e
    rw [List.map_cons, List.map_cons] at l
    injection e with e1 e2
    obtain rfl : g = g' := e1
    cases l with
    | cons l1 l2 =>
      unfold putFD putF
      by_cases h : g = f
      · rw [if_pos h, if_pos h]
        exact ⟨by rw [List.map_cons, List.map_cons, e2], .cons r l2⟩
      · rw [if_neg h, if_neg h]
        obtain ⟨z1, z2⟩ := putFD_ok r e2 l2
        exact ⟨by rw [List.map_cons, List.map_cons, z1], .cons l1 z2⟩
  | [], _ :: _, e, _ => by cases e
  | _ :: _, [], e, _ => by cases e
theorem look_ok {K : PySem.W.Frag} {F : Hp} {f : Str} : ∀ {fs : List (Str × D)} {vs : List (Str × V)}, fs.map Prod.fst = vs.map Prod.fst → RpL K F (fs.map Prod.snd) (vs.map Prod.snd) → (fs.lookup f = none ∧ vs.lookup f = none) ∨ ∃ d v, fs.lookup f = some d ∧ vs.lookup f = some v ∧ Rp K F d v
  | [], [], _, _ => .inl ⟨rfl, rfl⟩
  | (g, x) :: fs, (g', y) :: vs, e, l => by
    rw [List.map_cons, List.map_cons] at e
    rw [List.map_cons, List.map_cons] at l
    injection e with e1 e2
    obtain rfl : g = g' := e1
    cases l with
    | cons l1 l2 =>
      rw [List.lookup_cons, List.lookup_cons]
      cases h : f == g with
      | true => exact .inr ⟨x, y, rfl, rfl, l1⟩
      | false => exact look_ok e2 l2
  | [], _ :: _, e, _ => by cases e
  | _ :: _, [], e, _ => by cases e
def rFld (C : Addr) (t : RE) (f : Str) : RE := fun ρ μ q => t ρ μ fun d μ1 => match d with
  | .ob a => match μ1 a with
    | some (.ins C' fs) => C' = C ∧ match fs.lookup f with
      | some v => q v μ1
      | none => False
    | _ => False
  | _ => False
def rFset (C : Addr) (ta tv : RE) (f : Str) : RSt := fun E ρ μ => tv ρ μ fun v μ1 => ta ρ μ1 fun d μ2 => match d with
  | .ob a => match μ2 a with
    | some (.ins C' fs) => (C' = C ∧ fs.length < 1000) ∧ E.nx ρ (upm μ2 a (.ins C (putFD f v fs)))
    | _ => False
  | _ => False
section
variable {X : Cx} {o i e value : Expr} {to ti td ty tv ta : RE} {pos pos' : Pos} {f : Str} {C : Addr}
theorem g_sub (ho : DE X o to) (hi : DE X i ti) (ha : ∀ v, assign (.Subscript o i pos) X.env v = (do
      let ov ← holding [v] (eval o X.env)
      let iv ← holding [v, ov] (eval i X.env)
      standAt pos
      holding [v, ov, iv] (setItem ov iv v)
      release [v, ov, iv] []) := by intro _; rfl) : DG X (.Subscript o i pos) (gSet to ti) :=
  weakG (pg_sub ho hi set_list ha) fun v σ H Q ⟨F, dv, ρ, μ, q, A, R, rv, h, o⟩ =>
    ⟨F, ρ, μ, _, A, R, h, fun F1 x H1 d μ1 e1 A1 r1 h1 => ⟨F1, ρ, μ1, _, A1, R.mono e1, h1, fun F2 y H2 i μ2 e2 A2 r2 h2 => by
      cases r1 <;> try exact (h2 : False).elim
      case ob a =>
      cases r2 <;> try exact (h2 : False).elim
      case int k =>
      cases hm : μ2 a with
      | none => simp only [hm] at h2
      | some m =>
        cases m with
        | lst zs =>
          simp only [hm] at h2
          cases hj : ixN zs.length k with
          | none => simp only [hj] at h2
          | some j =>
            simp only [hj] at h2
            obtain ⟨vs, z1, z2⟩ := A2.lstM hm
            have ex := Same.trans e1 e2
            exact ⟨a, vs, k, j, rfl, rfl, z1, by rw [← z2.length]; exact hj, o F2 _ _ _ _ ex (A2.put hm (.lst (RpL.set (rv.mono ex) j z2))) (R.mono ex) h2⟩
        | dk _ => simp only [hm] at h2
        | dt _ => simp only [hm] at h2
        | ins _ _ => simp only [hm] at h2⟩⟩
theorem s_dput (hu : X.A.units + 1 < cLine) (ho : DE X o td) (hi : DE X i ty) (hv : DE X value tv) (hs : swapsWith value (some (.Subscript o i pos')) pos.line X.env = pure false := by rfl) : DS X (.Assign [.Subscript o i pos'] value pos) (rDPut td ty tv) :=
  weakS (ps_dput hu ho hi hv hs) fun D' σ H ⟨F, ρ, μ, E, A, R, h, o⟩ =>
    ⟨F, ρ, μ, _, A, R, h, fun F1 v H1 dv μ1 e1 A1 r1 h1 => ⟨F1, ρ, μ1, _, A1, R.mono e1, h1, fun F2 x H2 d μ2 e2 A2 r2 h2 => ⟨F2, ρ, μ2, _, A2, R.mono (Same.trans e1 e2), h2, fun F3 y H3 dy μ3 e3 A3 r3 h3 => by
      have ex := Same.trans e1 (Same.trans e2 e3)
      have rv := r1.mono (Same.trans e2 e3)
      cases r2 <;> try exact (h3 : False).elim
      case ob a =>
      cases hm : μ3 a with
      | none => simp only [hm] at h3
      | some m =>
        cases m with
        | dk kvs =>
          simp only [hm] at h3
          cases hk : keyOf dy with
          | none => simp only [hk] at h3
          | some k =>
            simp only [hk] at h3
            obtain ⟨vs, z1, z2, z3⟩ := A3.dkM hm
            have rk := RKV.mk (K := X.K) (F := F3) z2 z3
            have rp := rk.put k rv
            rw [keyOf_v hk r3]
            exact ⟨a, _, rfl, DPut.k z1 (by rw [← rk.length]; exact h3.1), o.nx F3 _ _ _ _ ex (A3.put hm (.dk rp.keys rp.vals)) (R.mono ex) h3.2⟩
        | dt kvs =>
          simp only [hm] at h3
          cases r3 <;> try exact (h3 : False).elim
          case tup b ds ws hb rl =>
          simp only at h3
          cases hk : keysOf ds with
          | none => simp only [hk] at h3
          | some k =>
            simp only [hk] at h3
            obtain ⟨vs, z1, z2, z3⟩ := A3.dtM hm
            have rk := RKV.mk (K := X.K) (F := F3) z2 z3
            have rp := rk.put k rv
            exact ⟨a, _, rfl, DPut.t z1 (by rw [← keysOf_v hk rl]; exact A3.sub _ _ hb) (by rw [← rk.length]; exact h3.1), o.nx F3 _ _ _ _ ex (A3.put hm (.dt rp.keys rp.vals)) (R.mono ex) h3.2⟩
        | lst _ => simp only [hm] at h3
        | ins _ _ => simp only [hm] at h3⟩⟩⟩
theorem d_dnew : DE X (.Dict [] [] pos) (rDNew true false) := weakE pe_dnewK fun σ H Q ⟨F, ρ, μ, q, A, R, h, o⟩ => fun p hp =>
  o F _ _ _ _ (Same.refl F) (A.newM hp (.dk rfl .nil)) .ob (h p (A.freeM hp))
theorem d_dnewT : DE X (.Dict [] [] pos) (rDNew true true) := weakE pe_dnewT fun σ H Q ⟨F, ρ, μ, q, A, R, h, o⟩ => fun p hp =>
  o F _ _ _ _ (Same.refl F) (A.newM hp (.dt rfl .nil)) .ob (h p (A.freeM hp))
theorem d_fld (c : Cls X.K C) (n : NoAttr X.K C f) (he : DE X e ta) (hb : attributeBase e f X.env (eval e X.env) = eval e X.env := by rfl) : DE X (.Attribute e f pos) (rFld C ta f) :=
  weakE (pe_fld he hb) fun σ H Q ⟨F, ρ, μ, q, A, R, h, o⟩ => ⟨F, ρ, μ, _, A, R, h, fun F1 x H1 d μ1 e1 A1 r1 h1 => by
    cases r1 <;> try exact (h1 : False).elim
    case ob a =>
    cases hm : μ1 a with
    | none => simp only [hm] at h1
    | some m =>
      cases m with
      | ins C' fs =>
        simp only [hm] at h1
        obtain ⟨rfl, h1⟩ := h1
        obtain ⟨dx, vs, z1, z2, z3⟩ := A1.insM hm
        cases hl : fs.lookup f with
        | none => simp only [hl] at h1
        | some v =>
          simp only [hl] at h1
          rcases look_ok (f := f) z2 z3 with ⟨y1, _⟩ | ⟨d', v', y1, y2, y3⟩
          · rw [hl] at y1; cases y1
          · rw [hl] at y1; cases y1
            exact ⟨a, C', dx, vs, v', rfl, z1, c, n, y2, o F1 _ _ _ _ e1 A1 y3 h1⟩
      | dk _ => simp only [hm] at h1
      | dt _ => simp only [hm] at h1
      | lst _ => simp only [hm] at h1⟩
theorem s_fld (c : Cls X.K C) (n : NoAttr X.K C f) (ha : DE X o ta) (hv : DE X value tv) (hs : swapsWith value (some (.Attribute o f pos')) pos.line X.env = pure false := by rfl) : DS X (.Assign [.Attribute o f pos'] value pos) (rFset C ta tv f) :=
  weakS (ps_fld ha hv hs) fun D' σ H ⟨F, ρ, μ, E, A, R, h, o⟩ =>
    ⟨F, ρ, μ, _, A, R, h, fun F1 v H1 dv μ1 e1 A1 r1 h1 => ⟨F1, ρ, μ1, _, A1, R.mono e1, h1, fun F2 x H2 d μ2 e2 A2 r2 h2 => by
      have ex := Same.trans e1 e2
      cases r2 <;> try exact (h2 : False).elim
      case ob a =>
      cases hm : μ2 a with
      | none => simp only [hm] at h2
      | some m =>
        cases m with
        | ins C' fs =>
          simp only [hm] at h2
          obtain ⟨⟨rfl, hl⟩, h2⟩ := h2
          obtain ⟨dx, vs, z1, z2, z3⟩ := A2.insM hm
          obtain ⟨y1, y2⟩ := putFD_ok (f := f) (r1.mono e2) z2 z3
          have hl2 : vs.length = fs.length := by have := congrArg List.length z2; simpa using this.symm
          exact ⟨a, C', dx, vs, rfl, z1, c, n, by rw [hl2]; exact hl, o.nx F2 _ _ _ _ ex (A2.put hm (.ins y1 y2)) (R.mono ex) h2⟩
        | dk _ => simp only [hm] at h2
        | dt _ => simp only [hm] at h2
        | lst _ => simp only [hm] at h2⟩⟩
end
end DL

/-! The data layer: calls and defs. -/
namespace DL
open PySem PySem.Spec PyProof.Rows L2 BM

/-- what a def is worth, over data -/
abbrev ASp := List D → Mu → QD → Prop
def upSp (K : PySem.W.Frag) (a : ASp) : Sp := fun vs H Q _ => ∃ F μ ds q, Abs K F μ H ∧ RpL K F ds vs ∧ a ds μ q ∧ OutE K F q Q
/-- a def that stands at a global name -/
structure Cal (P : Program) (w : World) (K : PySem.W.Frag) (mg : Str → Option Value) (base : Heap) (x : Str) (k : Nat) (a : ASp) : Prop where
  ex : ∃ f fd ps, FnOk P w K mg base CX0 k f fd ps (upSp K a) ∧ mg x = some (.ref f) ∧ PySem.W.keepIn K (.ref f) = true ∧ Binds K fd ps []
/-- a method of the class at C -/
structure CalM (P : Program) (w : World) (K : PySem.W.Frag) (mg : Str → Option Value) (base : Heap) (C : Addr) (m : Str) (k : Nat) (a : ASp) : Prop where
  ex : ∃ f fd ps, FnOk P w K mg base CX0 k f fd ps (upSp K a) ∧ Meth K C m f ∧ Binds K fd ps []
  cl : Cls K C
/-- the making of an instance of the class at C, which stands at a global name -/
structure CalI (P : Program) (w : World) (K : PySem.W.Frag) (mg : Str → Option Value) (base : Heap) (C : Addr) (x : Str) (k : Nat) (a : ASp) : Prop where
  ex : ∃ f fd ps, FnOk P w K mg base CX0 k f fd ps (upSp K a) ∧ Mk K C f ∧ mg x = some (.ref C) ∧ Binds K fd ps []
def rCall (a : ASp) (t : RA) : RE := fun ρ μ q => t ρ μ fun ds μ1 => a ds μ1 q
def rMeth (C : Addr) (m : Str) (a : ASp) (to : RE) (t : RA) : RE := fun ρ μ q => to ρ μ fun d μ1 => match d with
  | .ob p => match μ1 p with
    | some (.ins C' fs) => (C' = C ∧ fs.lookup m = none) ∧ t ρ μ1 fun ds μ2 => a (.ob p :: ds) μ2 q
    | _ => False
  | _ => False
def rMake (C : Addr) (a : ASp) (t : RA) : RE := fun ρ μ q => t ρ μ fun ds μ1 => ∀ p, μ1 p = none → a (.ob p :: ds) (upm μ1 p (.ins C [])) fun d μ2 => d = .non ∧ q (.ob p) μ2
section
variable {X : Cx} {k : Nat} {a : ASp} {x m : Str} {C : Addr} {p pos apos : Pos} {e o : Expr} {es : List Expr} {to : RE} {t : RA}
theorem d_call (c : Cal X.prog X.w X.K X.mg X.base x k a) (hr : Room k X.A) (ha : DA X (e :: es) t) (hg : Gl X x := by rfl) (hdb : (x == ("__debug__" : Str)) = false := by decide)
    (he : starEach (e :: es) X.env = (false, eval e X.env) :: starEach es X.env := by rfl) (hpl : (backTo pos (starEach es X.env)).any (·.1) = false := by rfl) : DE X (.Call (.Name x p) (e :: es) [] pos) (rCall a t) := by
  obtain ⟨f, fd, ps, hF, hm, hk, hb⟩ := c.ex
  exact weakE (pe_call hF hr hg hm hk hb .nil pass0 ha hdb he hpl) fun σ H Q ⟨F, ρ, μ, q, A, R, h, o⟩ =>
    ⟨F, ρ, μ, _, A, R, h, fun F1 vs H1 ds μ1 e1 A1 r1 h1 => ⟨F1, μ1, ds, q, A1, by rw [List.append_nil]; exact r1, h1, o.mono e1⟩⟩
theorem d_call0 (c : Cal X.prog X.w X.K X.mg X.base x k a) (hr : Room k X.A) (hg : Gl X x := by rfl) (hdb : (x == ("__debug__" : Str)) = false := by decide) : DE X (.Call (.Name x p) [] [] pos) (rCall a rNil) := by
  obtain ⟨f, fd, ps, hF, hm, hk, hb⟩ := c.ex
  exact weakE (pe_call0 hF hr hg hm hk hb .nil pass0 hdb) fun σ H Q ⟨F, ρ, μ, q, A, R, h, o⟩ =>
    ⟨F, μ, [], q, A, .nil, h, o⟩
theorem d_meth {pl : Sem Bool} (c : CalM X.prog X.w X.K X.mg X.base C m k a) (hr : Room k X.A) (ho : DE X o to) (ha : DA X (e :: es) t)
    (hst : starEach (e :: es) X.env = (false, eval e X.env) :: starEach es X.env := by rfl) (hpl : (backTo pos (starEach es X.env)).any (·.1) = false := by rfl)
    (ht : eval (.Call (.Attribute o m apos) (e :: es) [] pos) X.env = (do
      let ov ← eval o X.env
      standAt apos.atName
      let (f, first) ← holding [ov] (getMethod ov m pl)
      callWith pos f first (backTo pos (starEach (e :: es) X.env)) (backToKw pos (keywordEach [] X.env))) := by rfl) : DE X (.Call (.Attribute o m apos) (e :: es) [] pos) (rMeth C m a to t) := by
  obtain ⟨f, fd, ps, hF, hm, hb⟩ := c.ex
  exact weakE (pe_meth ho c.cl hm hF hr hb .nil pass0 ha hst hpl ht) fun σ H Q ⟨F, ρ, μ, q, A, R, h, o⟩ =>
    ⟨F, ρ, μ, _, A, R, h, fun F1 v H1 d μ1 e1 A1 r1 h1 => by
      cases r1 <;> try exact (h1 : False).elim
      case ob b =>
      cases hmu : μ1 b with
      | none => simp only [hmu] at h1
      | some mo =>
        cases mo with
        | ins C' fs =>
          simp only [hmu] at h1
          obtain ⟨⟨rfl, hl⟩, h1⟩ := h1
          obtain ⟨dx, vs, z1, z2, z3⟩ := A1.insM hmu
          rcases look_ok (f := m) z2 z3 with ⟨_, y2⟩ | ⟨d', v', y1, _, _⟩
          · exact ⟨b, dx, vs, rfl, z1, y2, F1, ρ, μ1, _, A1, R.mono e1, h1, fun F2 ws H2 ds μ2 e2 A2 r2 h2 =>
              ⟨F2, μ2, _, q, A2, by rw [List.append_nil]; exact .cons .ob r2, h2, o.mono (Same.trans e1 e2)⟩⟩
          · rw [hl] at y1; cases y1
        | dk _ => simp only [hmu] at h1
        | dt _ => simp only [hmu] at h1
        | lst _ => simp only [hmu] at h1⟩
theorem d_meth0 {pl : Sem Bool} (c : CalM X.prog X.w X.K X.mg X.base C m k a) (hr : Room k X.A) (ho : DE X o to)
    (ht : eval (.Call (.Attribute o m apos) [] [] pos) X.env = (do
      let ov ← eval o X.env
      standAt apos.atName
      let (f, first) ← holding [ov] (getMethod ov m pl)
      callWith pos f first (backTo pos (starEach [] X.env)) (backToKw pos (keywordEach [] X.env))) := by rfl) : DE X (.Call (.Attribute o m apos) [] [] pos) (rMeth C m a to rNil) := by
  obtain ⟨f, fd, ps, hF, hm, hb⟩ := c.ex
  exact weakE (pe_meth0 ho c.cl hm hF hr hb .nil pass0 ht) fun σ H Q ⟨F, ρ, μ, q, A, R, h, o⟩ =>
    ⟨F, ρ, μ, _, A, R, h, fun F1 v H1 d μ1 e1 A1 r1 h1 => by
      cases r1 <;> try exact (h1 : False).elim
      case ob b =>
      cases hmu : μ1 b with
      | none => simp only [hmu] at h1
      | some mo =>
        cases mo with
        | ins C' fs =>
          simp only [hmu] at h1
          obtain ⟨⟨rfl, hl⟩, h1⟩ := h1
          obtain ⟨dx, vs, z1, z2, z3⟩ := A1.insM hmu
          rcases look_ok (f := m) z2 z3 with ⟨_, y2⟩ | ⟨d', v', y1, _, _⟩
          · exact ⟨b, dx, vs, rfl, z1, y2, F1, μ1, _, q, A1, .cons .ob .nil, h1, o.mono e1⟩
          · rw [hl] at y1; cases y1
        | dk _ => simp only [hmu] at h1
        | dt _ => simp only [hmu] at h1
        | lst _ => simp only [hmu] at h1⟩
theorem d_make (c : CalI X.prog X.w X.K X.mg X.base C x k a) (hr : Room (k + 1) X.A) (ha : DA X (e :: es) t) (hg : Gl X x := by rfl) (hdb : (x == ("__debug__" : Str)) = false := by decide)
    (he : starEach (e :: es) X.env = (false, eval e X.env) :: starEach es X.env := by rfl) (hpl : (backTo pos (starEach es X.env)).any (·.1) = false := by rfl) : DE X (.Call (.Name x p) (e :: es) [] pos) (rMake C a t) := by
  obtain ⟨f, fd, ps, hF, hM, hm, hb⟩ := c.ex
  exact weakE (pe_make hM hF hr hg hm hb .nil pass0 ha hdb he hpl) fun σ H Q ⟨F, ρ, μ, q, A, R, h, o⟩ =>
    ⟨F, ρ, μ, _, A, R, h, fun F1 vs H1 ds μ1 e1 A1 r1 h1 => fun y dx hy hdx hne => by
      have hy2 : upd H1 dx (.own y) y = none := by rw [upd_ne (Ne.symm hne)]; exact hy
      have A2 : Abs X.K F1 μ1 (upd H1 dx (.own y)) := by
        refine ⟨fun b u eb => ?_, fun b m eb => ?_⟩
        · rw [upd_ne (ne_of_none (A1.sub _ _ eb) hdx)]; exact A1.sub _ _ eb
        · obtain ⟨n, u, hu, r⟩ := A1.own b m eb
          exact ⟨n, u, by rw [upd_ne (ne_of_none hu hdx)]; exact hu, r⟩
      exact ⟨F1, _, _, _, A2.newM hy2 (.ins (dx := dx) (vs := []) rfl .nil), by rw [List.append_nil]; exact .cons .ob r1, h1 y (A1.freeM hy), fun F3 v H3 d μ3 e3 A3 r3 h3 => by
        obtain ⟨rfl, h3⟩ := h3
        cases r3
        exact ⟨rfl, o F3 _ _ _ _ (Same.trans e1 e3) A3 .ob h3⟩⟩⟩
end
/-! ### a def's body -/
def endsQ (K : PySem.W.Frag) (q : QD) : EndsD where
  nx := fun _ μ => ∃ μ', GE K .non μ .non μ' ∧ q .non μ'
  rt := fun d μ => ∃ d' μ', GE K d μ d' μ' ∧ q d' μ'
def startD (n : Nat) (ds : List D) : Rho := ds.map some ++ List.replicate (n - ds.length) none
section
variable {P : Program} {w : World} {K : PySem.W.Frag} {mg : Str → Option Value} {base : Heap} {x qual : Str} {params : Arguments} {body : List Stmt} {scope : Scope} {f : Addr} {fd : FuncData}
theorem fn_ok {N ps : List Str} {k : Nat} {a : ASp} (F : FunD K x qual params body scope [] [] f fd) (S : FnScope N ps scope) (ar : ∀ ds μ q, a ds μ q → ds.length = ps.length) (t : RSt)
    (hb : ∀ (cdv : Value) (A : Around) (outer : List Env) (s : Shared) (H : Hp) (E : XK), Room k (A.deeper (envOfC qual scope s.heap.objs.size f cdv)) → DSs (cxOf CX0 P w K mg base N qual scope f cdv A outer s H E).nox body t)
    (hr : ∀ ds μ q, a ds μ q → t (endsQ K q) (startD N.length ds) μ) : FnOk P w K mg base CX0 (k + 1) f fd ps (upSp K a) := by
  refine FunD.ok F S (fun vs H Q E h => ?_) fun cdv A outer s H vs Q E hro h => ⟨_, PSs.nox (hb cdv A outer s H E hro), ?_⟩
  · obtain ⟨F', μ, ds, q, _, r, h, _⟩ := h
    rw [← r.length]; exact ar _ _ _ h
  · obtain ⟨F', μ, ds, q, Ab, r, h, o⟩ := h
    refine ⟨F', _, μ, _, Ab, RS.start r N, hr ds μ q h, ⟨fun F1 σ' H' ρ' μ' e1 A1 R1 h1 => ?_, fun F1 v H' d μ' e1 A1 r1 h1 => ?_, fun F1 σ' H' ρ' μ' e1 A1 R1 h1 => h1.elim, fun F1 σ' H' ρ' μ' e1 A1 R1 h1 => h1.elim⟩⟩
    · obtain ⟨μ2, g, h2⟩ := h1
      obtain ⟨F2, e2, A2, r2⟩ := g F1 H' .non A1 .non
      exact o F2 _ _ _ _ (Same.trans e1 e2) A2 r2 h2
    · obtain ⟨d2, μ2, g, h2⟩ := h1
      obtain ⟨F2, e2, A2, r2⟩ := g F1 H' v A1 r1
      exact o F2 _ _ _ _ (Same.trans e1 e2) A2 r2 h2
theorem Cal.of {N ps : List Str} {k : Nat} {a : ASp} (F : FunD K x qual params body scope [] [] f fd) (hm : mg x = some (.ref f)) (hk : FnOk P w K mg base CX0 k f fd ps (upSp K a)) (hb : Binds K fd ps []) : Cal P w K mg base x k a :=
  ⟨f, fd, ps, hk, hm, F.kp, hb⟩
end
theorem room65 {k : Nat} {A : Around} (r : Room k A) : A.units + 65 < cLine := by have := r.un; omega
theorem room1 {k : Nat} {A : Around} (r : Room k A) : A.units + 1 < cLine := by have := r.un; omega
theorem bb_len : bootBuiltins "len" = some (.builtin "len") := by decide +kernel
theorem bb_abs : bootBuiltins "abs" = some (.builtin "abs") := by decide +kernel
theorem bb_min : bootBuiltins "min" = some (.builtin "min") := by decide +kernel
theorem bb_max : bootBuiltins "max" = some (.builtin "max") := by decide +kernel
theorem bb_sum : bootBuiltins "sum" = some (.builtin "sum") := by decide +kernel
theorem bb_any : bootBuiltins "any" = some (.builtin "any") := by decide +kernel
theorem bb_all : bootBuiltins "all" = some (.builtin "all") := by decide +kernel
theorem bb_sorted : bootBuiltins "sorted" = some (.builtin "sorted") := by decide +kernel
theorem bb_isinstance : bootBuiltins "isinstance" = some (.builtin "isinstance") := by decide +kernel
theorem bb_list : bootBuiltins "list" = some (.type "list") := by decide +kernel
theorem bb_tuple : bootBuiltins "tuple" = some (.type "tuple") := by decide +kernel
theorem bb_int : bootBuiltins "int" = some (.type "int") := by decide +kernel
theorem bb_bool : bootBuiltins "bool" = some (.type "bool") := by decide +kernel
theorem bb_str : bootBuiltins "str" = some (.type "str") := by decide +kernel
/-! ### telling otherwise -/
section
variable {K : PySem.W.Frag} {μ μ' : Mu} {d : D}
theorem ge_refl : GE K d μ d μ := fun F H v A r => ⟨F, Same.refl F, A, r⟩
theorem ge_less (h : ∀ a m, μ' a = some m → μ a = some m) : GE K d μ d μ' := fun F H v A r => ⟨F, Same.refl F, A.less h, r⟩
theorem GE.trans {d2 d3 : D} {μ2 μ3 : Mu} (h1 : GE K d μ d2 μ2) (h2 : GE K d2 μ2 d3 μ3) : GE K d μ d3 μ3 := fun F H v A r => by
  obtain ⟨F1, e1, A1, r1⟩ := h1 F H v A r
  obtain ⟨F2, e2, A2, r2⟩ := h2 F1 H v A1 r1
  exact ⟨F2, Same.trans e1 e2, A2, r2⟩
/-- a list of one's own stays as it is from now on -/
theorem ge_frz {p : Addr} {ds : List D} (hp : μ p = some (.lst ds)) (h : ∀ a m, μ' a = some m → μ a = some m) (hn : μ' p = none) : GE K (.ob p) μ (.lst ds) μ' := fun F H v A r => by
  cases r
  obtain ⟨o, r, A', e⟩ := A.frz hp h hn
  cases r with
  | lst r => exact ⟨_, e, A', .lst upd_same (r.mono e)⟩
/-- .. laid ahead: the state is as it was -/
theorem ge_new {p : Addr} {ds : List D} (hn : μ p = none) : GE K (.ob p) (upm μ p (.lst ds)) (.lst ds) μ :=
  ge_frz upm_same (fun a m e => by
    by_cases h : a = p
    · subst h; rw [hn] at e; cases e
    · rw [upm_ne h]; exact e) hn
theorem less_upm {p : Addr} {m : MO} (hn : μ p = none) : ∀ a n, μ a = some n → upm μ p m a = some n := fun a n e => by
  by_cases h : a = p
  · subst h; rw [hn] at e; cases e
  · rw [upm_ne h]; exact e
theorem gs_refl {ρ : Rho} : GS K ρ μ ρ μ := fun F H σ A R => ⟨F, Same.refl F, A, R⟩
/-- a slot's list stays as it is from now on: told in that slot -/
theorem gs_frz {ρ : Rho} {i : Nat} {p : Addr} {ds : List D} (hs : slot ρ i = some (.ob p)) (hp : μ p = some (.lst ds)) (h : ∀ a m, μ' a = some m → μ a = some m) (hn : μ' p = none) : GS K ρ μ (put ρ i (.lst ds)) μ' := fun F H σ A R => by
  obtain ⟨o, r, A', e⟩ := A.frz hp h hn
  cases r with
  | lst r =>
    refine ⟨_, e, A', ?_⟩
    obtain ⟨v, h1, h2⟩ := R.get i _ (slot_get hs)
    cases h2
    have z := (R.mono e).set (Rp.lst (K := K) (F := upd F p _) upd_same (r.mono e)) i
    rw [put_eq]
    have : σ.set i (some (V.ref p)) = σ := by
      refine List.ext_getElem? fun j => ?_
      by_cases hj : i = j
      · subst hj
        have hi : i < σ.length := (List.getElem?_eq_some_iff.mp h1).1
        rw [List.getElem?_set_self hi, h1]
      · rw [List.getElem?_set_ne hj]
    rw [this] at z
    exact z
end
end DL

/-! The data layer: short rows for the readings' steps. -/
namespace DL
open PySem PySem.Spec PyProof.Rows L2 BM
section
variable {μ : Mu}
theorem rs_non : rs μ .non = .non := rfl
theorem rs_bl {b} : rs μ (.bl b) = .bl b := rfl
theorem rs_int {b} : rs μ (.int b) = .int b := rfl
theorem rs_str {b} : rs μ (.str b) = .str b := rfl
theorem rs_ty {b} : rs μ (.ty b) = .ty b := rfl
theorem rs_lst {b} : rs μ (.lst b) = .lst b := rfl
theorem rs_tup {b} : rs μ (.tup b) = .tup b := rfl
theorem rs_dk {b} : rs μ (.dk b) = .dk b := rfl
theorem rs_dt {b} : rs μ (.dt b) = .dt b := rfl
theorem rs_scr {b} : rs μ (.scr b) = .scr b := rfl
theorem rs_at {a ds} (h : μ a = some (.lst ds)) : rs μ (.ob a) = .lst ds := by rw [rs_ob, h]; rfl
theorem rs_atk {a ds} (h : μ a = some (.dk ds)) : rs μ (.ob a) = .dk ds := by rw [rs_ob, h]; rfl
theorem rs_att {a ds} (h : μ a = some (.dt ds)) : rs μ (.ob a) = .dt ds := by rw [rs_ob, h]; rfl
theorem itm_lst {ds} : itm μ (.lst ds) = some ds := rfl
theorem itm_scr {ns} : itm μ (.scr ns) = some (ns.map D.int) := rfl
theorem itm_at {a ds} (h : μ a = some (.lst ds)) : itm μ (.ob a) = some ds := by unfold itm; rw [rs_at h]
theorem seqD_lst {ds} : seqD μ (.lst ds) = some ds := rfl
theorem seqD_tup {ds} : seqD μ (.tup ds) = some ds := rfl
theorem seqD_scr {ns} : seqD μ (.scr ns) = some (ns.map D.int) := rfl
theorem seqD_at {a ds} (h : μ a = some (.lst ds)) : seqD μ (.ob a) = some ds := by unfold seqD; rw [rs_at h]
theorem seqD_atk {a ds} (h : μ a = some (.dk ds)) : seqD μ (.ob a) = none := by unfold seqD; rw [rs_atk h]
theorem lenD_lst {ds} : lenD μ (.lst ds) = some ds.length := rfl
theorem lenD_tup {ds} : lenD μ (.tup ds) = some ds.length := rfl
theorem lenD_scr {ns} : lenD μ (.scr ns) = some ns.length := rfl
theorem lenD_at {a ds} (h : μ a = some (.lst ds)) : lenD μ (.ob a) = some ds.length := by unfold lenD; rw [rs_at h]
theorem lenD_dk {ds} : lenD μ (.dk ds) = some ds.length := rfl
theorem tyD_int {i} : tyD μ (.int i) = some "int" := rfl
theorem tyD_bl {i} : tyD μ (.bl i) = some "bool" := rfl
theorem tyD_non : tyD μ .non = some "NoneType" := rfl
theorem tyD_str {i} : tyD μ (.str i) = some "str" := rfl
theorem tyD_lst {i} : tyD μ (.lst i) = some "list" := rfl
theorem tyD_tup {i} : tyD μ (.tup i) = some "tuple" := rfl
theorem tyD_dk {i} : tyD μ (.dk i) = some "dict" := rfl
theorem tyD_at {a ds} (h : μ a = some (.lst ds)) : tyD μ (.ob a) = some "list" := by unfold tyD; rw [rs_at h]
theorem truD_bl {b} : truD μ (.bl b) = some b := rfl
theorem truD_int {b} : truD μ (.int b) = some (b != 0) := rfl
theorem truD_lst {b} : truD μ (.lst b) = some (!b.isEmpty) := rfl
theorem isTy_lst {T ds} : isTy T μ (.lst ds) = (T == "list") := rfl
theorem isTy_at {T a ds} (h : μ a = some (.lst ds)) : isTy T μ (.ob a) = (T == "list") := by unfold isTy; rw [rs_at h]
theorem isTy_str {T ds} : isTy T μ (.str ds) = (T == "str") := rfl
theorem wipeD_nil {ρ : Rho} : wipeD ρ [] = ρ := rfl
theorem wipeD_cons {ρ : Rho} {v : Nat} {vs : List Nat} : wipeD ρ (v :: vs) = (wipeD ρ vs).set v none := rfl
theorem slot_0 {x : Option D} {r : Rho} : slot (x :: r) 0 = x := rfl
theorem slot_s {x : Option D} {r : Rho} {i : Nat} : slot (x :: r) (i + 1) = slot r i := rfl
theorem put_0 {x : Option D} {r : Rho} {d : D} : put (x :: r) 0 d = some d :: r := rfl
theorem put_s {x : Option D} {r : Rho} {i : Nat} {d : D} : put (x :: r) (i + 1) d = x :: put r i d := rfl
theorem puts_nil {ρ : Rho} : puts ρ [] [] = ρ := by cases ρ <;> rfl
theorem puts_cons {ρ : Rho} {i : Nat} {is : List Nat} {d : D} {ds : List D} : puts ρ (i :: is) (d :: ds) = puts (put ρ i d) is ds := rfl
theorem itD_lst {xs : List D} {q : QI} : itD (.lst xs) μ q = q (fun _ => True) xs μ := rfl
theorem itD_tup {xs : List D} {q : QI} : itD (.tup xs) μ q = q (fun _ => True) xs μ := rfl
theorem forD_nil {C : Mu → Prop} {g : RG} {tb : RSt} {E : EndsD} {ρ : Rho} : forD C g tb [] E ρ μ = (C μ ∧ E.nx ρ μ) := rfl
theorem forD_cons {C : Mu → Prop} {g : RG} {tb : RSt} {E : EndsD} {ρ : Rho} {d : D} {ds : List D} : forD C g tb (d :: ds) E ρ μ = (C μ ∧ g d ρ μ fun ρ2 μ2 => tb { E with nx := forD C g tb ds E, ct := forD C g tb ds E, bk := E.nx } ρ2 μ2) := rfl
theorem newL_f {ds : List D} {q : QD} : newL false ds μ q = q (.lst ds) μ := rfl
theorem newL_t {ds : List D} {q : QD} : newL true ds μ q = ∀ p, μ p = none → q (.ob p) (upm μ p (.lst ds)) := rfl
end
section
variable {μ : Mu} {a : Addr} {xs : List D} {x : D} {q : QD}
theorem mAppend_at (h : μ a = some (.lst xs)) : mAppend (.ob a) [x] μ q = (xs.length < sizeLine ∧ q .non (upm μ a (.lst (xs ++ [x])))) := by unfold mAppend; simp only [h]
theorem mInsert_at {i : Int} (h : μ a = some (.lst xs)) : mInsert (.ob a) [.int i, x] μ q = ((xs.length < sizeLine ∧ 0 ≤ i ∧ i < 2 ^ 63) ∧ q .non (upm μ a (.lst (xs.take i.toNat ++ [x] ++ xs.drop i.toNat)))) := by unfold mInsert; simp only [h]
theorem mClear_at (h : μ a = some (.lst xs)) : mClear (.ob a) [] μ q = q .non (upm μ a (.lst [])) := by unfold mClear; simp only [h]
theorem mPopAt_at {i : Int} {y : D} (h : μ a = some (.lst xs)) (hy : xs[i.toNat]? = some y) : mPopAt (.ob a) [.int i] μ q = ((0 ≤ i ∧ i < xs.length ∧ xs.length < 2 ^ 62) ∧ q y (upm μ a (.lst (xs.eraseIdx i.toNat)))) := by unfold mPopAt; simp only [h, hy]
theorem toPy_int {i : Int} : toPy (.int i) = .int i := by simp only [toPy]
theorem shp_int {i : Int} : shp (.int i) = true := by simp [shp, pyOk, toPy, SeqAt.shaped, PyData.canLay0, PyData.depth]
theorem shp_bl {i : Bool} : shp (.bl i) = true := by simp [shp, pyOk, toPy, SeqAt.shaped, PyData.canLay0, PyData.depth]
theorem shp_non : shp .non = true := by simp [shp, pyOk, toPy, SeqAt.shaped, PyData.canLay0, PyData.depth]
theorem eqD_int {i j : Int} : eqD (.int i) (.int j) = decide (i = j) := by
  unfold eqD
  simp only [toPy, PyData.eqv]
  by_cases h : i = j <;> simp [h]
end
/-! ### ends -/
section
variable {K : PySem.W.Frag} {μ μ' : Mu} {d : D} {q : QD}
theorem out_same (h : q d μ) : ∃ d' μ', GE K d μ d' μ' ∧ q d' μ' := ⟨d, μ, ge_refl, h⟩
theorem out_new {p : Addr} {ds : List D} (hn : μ p = none) (h : q (.lst ds) μ) : ∃ d' μ', GE K (.ob p) (upm μ p (.lst ds)) d' μ' ∧ q d' μ' := ⟨_, _, ge_new hn, h⟩
theorem out_less (hl : ∀ a m, μ' a = some m → μ a = some m) (h : q d μ') : ∃ d' μ', GE K d μ d' μ' ∧ q d' μ' := ⟨d, μ', ge_less hl, h⟩
end
theorem cmul_l {i j : Int} (h : -(2 ^ 64) < i ∧ i < 2 ^ 64 := by decide) : CMul i j := .inl h
theorem cmul_r {i j : Int} (h : -(2 ^ 64) < j ∧ j < 2 ^ 64 := by decide) : CMul i j := .inr h
theorem cdiv_of {i j : Int} (h : 0 < j ∧ j < 1073741824 := by decide) : CDiv i j := h
/-! ### loops -/
section
variable {C : Mu → Prop} {g : RG} {tb : RSt} {E : EndsD} {ρ : Rho} {μ : Mu}
theorem for_map {α : Type} (enc : α → D) (I : List α → Rho → Mu → Prop) (step : ∀ x xs ρ μ, I (x :: xs) ρ μ → ∀ k : Rho → Mu → Prop, (∀ ρ' μ', I xs ρ' μ' → k ρ' μ') → C μ ∧ g (enc x) ρ μ fun ρ2 μ2 => tb { E with nx := k, ct := k, bk := E.nx } ρ2 μ2)
    (hend : ∀ ρ μ, I [] ρ μ → C μ ∧ E.nx ρ μ) : ∀ {xs : List α} {ρ : Rho} {μ : Mu}, I xs ρ μ → forD C g tb (xs.map enc) E ρ μ
  | [], ρ, μ, h => hend ρ μ h
  | x :: xs, ρ, μ, h => step x xs ρ μ h _ fun ρ' μ' h' => for_map enc I step hend h'
theorem for_enu {α : Type} (enc : α → D) (I : Nat → List α → Rho → Mu → Prop) (step : ∀ i x xs ρ μ, I i (x :: xs) ρ μ → ∀ k : Rho → Mu → Prop, (∀ ρ' μ', I (i + 1) xs ρ' μ' → k ρ' μ') → C μ ∧ g (.tup [.int (i : Int), enc x]) ρ μ fun ρ2 μ2 => tb { E with nx := k, ct := k, bk := E.nx } ρ2 μ2)
    (hend : ∀ i ρ μ, I i [] ρ μ → C μ ∧ E.nx ρ μ) : ∀ {xs : List α} {i : Nat} {ρ : Rho} {μ : Mu}, I i xs ρ μ → forD C g tb (enuD i (xs.map enc)) E ρ μ
  | [], i, ρ, μ, h => hend i ρ μ h
  | x :: xs, i, ρ, μ, h => step i x xs ρ μ h _ fun ρ' μ' h' => for_enu enc I step hend h'
theorem for_zip {α β : Type} (enc : α → D) (enc' : β → D) (I : List α → List β → Rho → Mu → Prop) (step : ∀ x xs y ys ρ μ, I (x :: xs) (y :: ys) ρ μ → ∀ k : Rho → Mu → Prop, (∀ ρ' μ', I xs ys ρ' μ' → k ρ' μ') → C μ ∧ g (.tup [enc x, enc' y]) ρ μ fun ρ2 μ2 => tb { E with nx := k, ct := k, bk := E.nx } ρ2 μ2)
    (hend : ∀ xs ys ρ μ, (xs = [] ∨ ys = []) → I xs ys ρ μ → C μ ∧ E.nx ρ μ) : ∀ {xs : List α} {ys : List β} {ρ : Rho} {μ : Mu}, I xs ys ρ μ → forD C g tb (zipD (xs.map enc) (ys.map enc')) E ρ μ
  | [], ys, ρ, μ, h => hend [] ys ρ μ (.inl rfl) h
  | x :: xs, [], ρ, μ, h => hend _ [] ρ μ (.inr rfl) h
  | x :: xs, y :: ys, ρ, μ, h => step x xs y ys ρ μ h _ fun ρ' μ' h' => for_zip enc enc' I step hend h'
theorem for_nat {f : Nat → D} {n : Nat} (I : Nat → Rho → Mu → Prop) (step : ∀ i ρ μ, i < n → I i ρ μ → ∀ k : Rho → Mu → Prop, (∀ ρ' μ', I (i + 1) ρ' μ' → k ρ' μ') → C μ ∧ g (f i) ρ μ fun ρ2 μ2 => tb { E with nx := k, ct := k, bk := E.nx } ρ2 μ2)
    (hend : ∀ ρ μ, I n ρ μ → C μ ∧ E.nx ρ μ) (h : I 0 ρ μ) : forD C g tb ((List.range n).map f) E ρ μ := by
  have key : ∀ m i ρ μ, i + m = n → I i ρ μ → forD C g tb (((List.range' i m)).map f) E ρ μ := by
    intro m
    induction m with
    | zero =>
      intro i ρ μ e h
      have : i = n := by omega
      subst this
      exact hend ρ μ h
    | succ m ih =>
      intro i ρ μ e h
      rw [List.range'_succ, List.map_cons]
      exact step i ρ μ (by omega) h _ fun ρ' μ' h' => ih (i + 1) ρ' μ' (by omega) h'
  rw [List.range_eq_range']
  exact key n 0 ρ μ (by omega) h
theorem for_rng {lo : Int} {n : Nat} (I : Nat → Rho → Mu → Prop) (step : ∀ i ρ μ, i < n → I i ρ μ → ∀ k : Rho → Mu → Prop, (∀ ρ' μ', I (i + 1) ρ' μ' → k ρ' μ') → C μ ∧ g (.int (lo + (i : Int))) ρ μ fun ρ2 μ2 => tb { E with nx := k, ct := k, bk := E.nx } ρ2 μ2)
    (hend : ∀ ρ μ, I n ρ μ → C μ ∧ E.nx ρ μ) (h : I 0 ρ μ) : forD C g tb (rngD lo n) E ρ μ := for_nat (f := fun k : Nat => D.int (lo + (k : Int))) I step hend h
theorem for_rngC {lo c : Int} {n : Nat} (I : Nat → Rho → Mu → Prop) (step : ∀ i ρ μ, i < n → I i ρ μ → ∀ k : Rho → Mu → Prop, (∀ ρ' μ', I (i + 1) ρ' μ' → k ρ' μ') → C μ ∧ g (.int (lo + (i : Int) * c)) ρ μ fun ρ2 μ2 => tb { E with nx := k, ct := k, bk := E.nx } ρ2 μ2)
    (hend : ∀ ρ μ, I n ρ μ → C μ ∧ E.nx ρ μ) (h : I 0 ρ μ) : forD C g tb (rngC lo c n) E ρ μ := for_nat (f := fun k : Nat => D.int (lo + (k : Int) * c)) I step hend h
end
/-! ### comprehensions whose parts change nothing -/
section
variable {C : Mu → Prop} {step : D → Mu → QOp → Prop} {μ : Mu} {p : Addr} {own : Bool} {q : QD}
theorem lc_all {ds : List D} (f : D → Option D) (hp : μ p = none) (hC : ∀ acc, C (upm μ p (.lst acc))) (hs : ∀ d ∈ ds, ∀ acc (k : QOp), k (f d) (upm μ p (.lst acc)) → step d (upm μ p (.lst acc)) k) (hl : ds.length ≤ sizeLine)
    (hq : newL own (ds.filterMap f) μ q) : lcD p C step ds (upm μ p (.lst [])) (lcEnd own p q) := by
  have key : ∀ (ds : List D) acc, (∀ d ∈ ds, ∀ acc (k : QOp), k (f d) (upm μ p (.lst acc)) → step d (upm μ p (.lst acc)) k) → acc.length + ds.length ≤ sizeLine → newL own (acc ++ ds.filterMap f) μ q → lcD p C step ds (upm μ p (.lst acc)) (lcEnd own p q) := by
    intro ds
    induction ds with
    | nil =>
      intro acc _ _ hq
      refine ⟨hC acc, ?_⟩
      rw [List.filterMap_nil, List.append_nil] at hq
      cases own with
      | true => exact hq p hp
      | false => exact ⟨acc, upm_same, by rw [erm_upm hp]; exact hq⟩
    | cons d ds ih =>
      intro acc hs hl hq
      refine ⟨hC acc, hs d List.mem_cons_self acc _ ?_⟩
      have hs' := fun e he => hs e (List.mem_cons_of_mem _ he)
      rw [List.length_cons] at hl
      cases hf : f d with
      | none =>
        rw [List.filterMap_cons_none hf] at hq
        exact ih acc hs' (by omega) hq
      | some y =>
        rw [List.filterMap_cons_some hf] at hq
        refine ⟨acc, upm_same, by omega, ?_⟩
        rw [upm_upm]
        refine ih (acc ++ [y]) hs' (by rw [List.length_append, List.length_singleton]; omega) ?_
        rw [List.append_assoc]
        exact hq
  exact key ds [] hs (by simpa using hl) (by simpa using hq)
/-- over encoded things, each kept -/
theorem lc_map {α : Type} {xs : List α} (enc : α → D) (f : α → D) (hp : μ p = none) (hC : ∀ acc, C (upm μ p (.lst acc))) (hl : xs.length ≤ sizeLine) (hs : ∀ x ∈ xs, ∀ acc (k : QOp), k (some (f x)) (upm μ p (.lst acc)) → step (enc x) (upm μ p (.lst acc)) k)
    (hq : newL own (xs.map f) μ q) : lcD p C step (xs.map enc) (upm μ p (.lst [])) (lcEnd own p q) := by
  have key : ∀ (xs : List α) acc, (∀ x ∈ xs, ∀ acc (k : QOp), k (some (f x)) (upm μ p (.lst acc)) → step (enc x) (upm μ p (.lst acc)) k) → acc.length + xs.length ≤ sizeLine → newL own (acc ++ xs.map f) μ q → lcD p C step (xs.map enc) (upm μ p (.lst acc)) (lcEnd own p q) := by
    intro xs
    induction xs with
    | nil =>
      intro acc _ _ hq
      refine ⟨hC acc, ?_⟩
      rw [List.map_nil, List.append_nil] at hq
      cases own with
      | true => exact hq p hp
      | false => exact ⟨acc, upm_same, by rw [erm_upm hp]; exact hq⟩
    | cons x xs ih =>
      intro acc hs hl hq
      rw [List.length_cons] at hl
      refine ⟨hC acc, hs x List.mem_cons_self acc _ ⟨acc, upm_same, by omega, ?_⟩⟩
      rw [upm_upm]
      refine ih (acc ++ [f x]) (fun e he => hs e (List.mem_cons_of_mem _ he)) (by rw [List.length_append, List.length_singleton]; omega) ?_
      rw [List.append_assoc]
      exact hq
  exact key xs [] hs (by simpa using hl) (by simpa using hq)
/-- over encoded things, some kept -/
theorem lc_fm {α : Type} {xs : List α} (enc : α → D) (f : α → Option D) (hp : μ p = none) (hC : ∀ acc, C (upm μ p (.lst acc))) (hl : xs.length ≤ sizeLine) (hs : ∀ x ∈ xs, ∀ acc (k : QOp), k (f x) (upm μ p (.lst acc)) → step (enc x) (upm μ p (.lst acc)) k)
    (hq : newL own (xs.filterMap f) μ q) : lcD p C step (xs.map enc) (upm μ p (.lst [])) (lcEnd own p q) := by
  have key : ∀ (xs : List α) acc, (∀ x ∈ xs, ∀ acc (k : QOp), k (f x) (upm μ p (.lst acc)) → step (enc x) (upm μ p (.lst acc)) k) → acc.length + xs.length ≤ sizeLine → newL own (acc ++ xs.filterMap f) μ q → lcD p C step (xs.map enc) (upm μ p (.lst acc)) (lcEnd own p q) := by
    intro xs
    induction xs with
    | nil =>
      intro acc _ _ hq
      refine ⟨hC acc, ?_⟩
      rw [List.filterMap_nil, List.append_nil] at hq
      cases own with
      | true => exact hq p hp
      | false => exact ⟨acc, upm_same, by rw [erm_upm hp]; exact hq⟩
    | cons x xs ih =>
      intro acc hs hl hq
      rw [List.length_cons] at hl
      have hs' := fun e he => hs e (List.mem_cons_of_mem _ he)
      refine ⟨hC acc, hs x List.mem_cons_self acc _ ?_⟩
      cases hf : f x with
      | none =>
        rw [List.filterMap_cons_none hf] at hq
        exact ih acc hs' (by omega) hq
      | some y =>
        rw [List.filterMap_cons_some hf] at hq
        refine ⟨acc, upm_same, by omega, ?_⟩
        rw [upm_upm]
        refine ih (acc ++ [y]) hs' (by rw [List.length_append, List.length_singleton]; omega) ?_
        rw [List.append_assoc]
        exact hq
  exact key xs [] hs (by simpa using hl) (by simpa using hq)
end
end DL

/-! The data layer: how many things a set of ints has. -/
namespace DL
open PySem PySem.Spec PyProof.Rows L2 BM
def rLenSet (t : RE) : RE := fun ρ μ q => t ρ μ fun d μ1 => match seqD μ1 d with
  | some xs => match intsOf xs with
    | some ns => ns.length ≤ 4000 ∧ ∀ ks : List Int, ks.Nodup → (∀ k, k ∈ ks ↔ k ∈ ns) → q (.int (ks.length : Int)) μ1
    | none => False
  | none => False
theorem fold_dedup : ∀ (xs acc : List Int), acc.Nodup → (xs.foldl step_dedup acc).Nodup ∧ ∀ k, k ∈ xs.foldl step_dedup acc ↔ k ∈ acc ∨ k ∈ xs
  | [], acc, h => ⟨h, fun k => by simp⟩
  | x :: xs, acc, h => by
    have hs : (step_dedup acc x).Nodup ∧ ∀ k, k ∈ step_dedup acc x ↔ k ∈ acc ∨ k = x := by
      unfold step_dedup
      split
      · rename_i hx
        have hx' : x ∈ acc := by simpa using hx
        exact ⟨h, fun k => ⟨.inl, fun z => z.elim id fun e => by rw [e]; exact hx'⟩⟩
      · rename_i hx
        have hx' : x ∉ acc := by simpa using hx
        refine ⟨?_, fun k => by simp⟩
        rw [List.nodup_append]
        exact ⟨h, by simp, fun a ha b hb => by simp at hb; subst hb; rintro rfl; exact hx' ha⟩
    obtain ⟨h1, h2⟩ := fold_dedup xs (step_dedup acc x) hs.1
    refine ⟨h1, fun k => (h2 k).trans ?_⟩
    rw [hs.2 k, List.mem_cons, or_assoc]
section
variable {X : Cx} {a : Expr} {ta : RE} {p p2 pos pos2 : Pos}
theorem d_lenSet (hm : X.mg "len" = none) (hm2 : X.mg "set" = none) (ha : DE X a ta) (hg : Gl X "len" := by rfl) (hg2 : Gl X "set" := by rfl) (hc : X.calm = true := by rfl)
    (na : starEach [a] X.env = (false, eval a X.env) :: starEach [] X.env := by rfl) : DE X (.Call (.Name "len" p) [.Call (.Name "set" p2) [a] [] pos2] [] pos) (rLenSet ta) := by
  refine ⟨fun pins s σ H Q I ⟨F, ρ, μ, q, A, R, h, o⟩ => ?_⟩
  refine Call_ (ld_blt I hg hm boot_len (PyProof.Rows.callWith_builtin1 (PyProof.Rows.args_cons ?_ rfl) rfl rfl))
  refine Call_ (ld_blt I hg2 hm2 boot_set (PyProof.Rows.callWith_type1 (PyProof.Rows.args_cons ?_ na) na rfl))
  refine thn (ha.run pins s σ H (fun x H1 => ∃ F1 μ1 d, Ext F F1 ∧ Abs X.K F1 μ1 H1 ∧ Rp X.K F1 d x ∧ match seqD μ1 d with
    | some xs => match intsOf xs with
      | some ns => ns.length ≤ 4000 ∧ ∀ ks : List Int, ks.Nodup → (∀ k, k ∈ ks ↔ k ∈ ns) → q (.int (ks.length : Int)) μ1
      | none => False
    | none => False) I ⟨F, ρ, μ, _, A, R, h, fun F1 x H1 d μ1 e1 A1 r1 h1 => ⟨F1, μ1, d, e1, A1, r1, h1⟩⟩) fun v s1 ⟨x, H1, I1, r1, F1, μ1, d, e1, A1, rp, h1⟩ => ?_
  refine PyProof.Rows.args_nil ?_
  cases es : seqD μ1 d with
  | none => simp only [es] at h1
  | some xs =>
    simp only [es] at h1
    cases ei : intsOf xs with
    | none => simp only [ei] at h1
    | some ns =>
      simp only [ei] at h1
      obtain ⟨hl, h1⟩ := h1
      obtain ⟨b, vs, rfl, hq, rl⟩ := view_seq A1 rp es
      rw [intsOf_eq ei] at rl
      have ev := rl.ints
      subst ev
      cases r1
      have fin : ∀ (h' : Heap) (tk : Nat) (ks : List Int), ks.Nodup → (∀ k, k ∈ ks ↔ k ∈ ns) → (∃ o es ep t, h'.get? s1.heap.objs.size = some o ∧ o.ExactSet ∧ o.data = .set es ep t ∧ t.fits es.size = true ∧ es.size = ks.length) → (∀ b o, s1.heap.get? b = some o → h'.get? b = some o) → ks.length ≤ 4096 →
          wpAny (model X.prog X.w) X.A (PySem.call (.builtin "len") [.ref s1.heap.objs.size]) (EP X pins σ Q) X.xe { s1 with heap := h', toks := tk } := fun h' tk ks hn hm' ⟨ob, es', ep, t, ho, hex, hd, hf, hsz⟩ hk hkl => by
        have I2 : Inv X pins σ H1 { s1 with heap := h', toks := tk } := I1.kept hk
        refine call_len_set ho hex hd hf (by rw [hsz]; omega) ⟨.int ks.length, H1, I2.tok _, ⟨_, by rw [hsz]⟩, ?_⟩
        exact o F1 _ _ _ _ e1 A1 .int (h1 ks hn hm')
      rcases hq with hq | hq
      · obtain ⟨its, r, pl, hz⟩ := I1.list hq
        have hlen : its.toArray.size = ns.length := by rw [List.size_toArray, ← r.length, List.length_map]
        have hia : IntsAre its.toArray.toList ns := by simpa using RZ.intsAre_vals r
        refine call_set_list (I1.ok.hd hc) pl.isList hia (by rw [hlen]; unfold scanBound; omega) fun h' tk hS hk => ?_
        refine PyProof.Rows.args_nil ?_
        have hfm : firstMet (fun i => ns.getD i 0) its.toArray.size = ns.foldl step_dedup [] := by
          unfold firstMet
          congr 1
          rw [hlen]
          refine List.ext_getElem (by simp) fun i h1 h2 => ?_
          simp at h1 ⊢
          rw [List.getElem?_eq_getElem h1]; rfl
        obtain ⟨z1, z2⟩ := fold_dedup ns [] List.nodup_nil
        rw [hfm] at hS
        obtain ⟨ob, es', ep, t, ho, hex, hd, _, _, _, hf, hn⟩ := hS
        refine fin h' tk _ z1 (fun k => (z2 k).trans (by simp)) ⟨ob, es', ep, t, ho, hex, hd, hf, hn⟩ (fun b o e => hk b o (Heap.lt_size e) e) ?_
        have := firstMet_length_le (fun i => ns.getD i 0) its.toArray.size
        rw [hfm] at this
        omega
      · obtain ⟨its, r, pl, hz⟩ := I1.tuple hq
        have hia : IntsAre its.toArray.toList ns := by simpa using RZ.intsAre_vals r
        refine call_set_tupI ns (I1.ok.hd hc) (show s1.heap.IsTuple b its.toArray from pl) hia (by unfold scanBound; omega) fun h' tk c hS hc' hk => ?_
        refine PyProof.Rows.args_nil ?_
        obtain ⟨ob, es', ep, t, ho, hex, hd, _, hnd, hm', _, hf, hn, _⟩ := hS
        refine fin h' tk (es'.toList.map L2.keyOf) hnd (fun k => (hm' k).symm.trans (by simp)) ⟨ob, es', ep, t, ho, hex, hd, hf, by simp⟩ hk ?_
        rw [List.length_map, Array.length_toList]
        omega
end
end DL

/-! The data layer: shapes and likeness of encoded things, results told otherwise, likeness through places. -/
namespace DL
open PySem PySem.Spec PyProof.Rows L2 BM
/-! ### shapes -/
structure Sh (n : Nat) (d : D) : Prop where
  ok : pyOk d = true
  lay : (toPy d).canLay0 = true
  dep : (toPy d).depth ≤ n
structure ShL (n : Nat) (ds : List D) : Prop where
  ok : pyOkL ds = true
  lay : PyData.canLayAll0 (toPyL ds) = true
  dep : PyData.depthAll (toPyL ds) ≤ n
theorem Sh.int {n : Nat} {i : Int} : Sh n (.int i) := ⟨by simp [pyOk], by simp [toPy, PyData.canLay0], by simp [toPy, PyData.depth]⟩
theorem Sh.bl {n : Nat} {i : Bool} : Sh n (.bl i) := ⟨by simp [pyOk], by simp [toPy, PyData.canLay0], by simp [toPy, PyData.depth]⟩
theorem Sh.non {n : Nat} : Sh n .non := ⟨by simp [pyOk], by simp [toPy, PyData.canLay0], by simp [toPy, PyData.depth]⟩
theorem Sh.str {n : Nat} {x : Str} (h : PyData.strOk x = true) : Sh n (.str x) := ⟨by simp [pyOk], by simpa [toPy, PyData.canLay0] using h, by simp [toPy, PyData.depth]⟩
theorem ShL.of {n : Nat} : ∀ {ds : List D}, (∀ d ∈ ds, Sh n d) → ShL n ds
  | [], _ => ⟨by simp [pyOkL], by simp [toPyL, PyData.canLayAll0], by simp [toPyL, PyData.depthAll]⟩
  | d :: ds, h => by
    have a := h d List.mem_cons_self
    have b := ShL.of (n := n) fun e he => h e (List.mem_cons_of_mem d he)
    have := a.dep
    have := b.dep
    exact ⟨by simp [pyOkL, a.ok, b.ok], by simp [toPyL, PyData.canLayAll0, a.lay, b.lay], by simp only [toPyL, PyData.depthAll]; omega⟩
theorem Sh.lst {n : Nat} {ds : List D} (h : ∀ d ∈ ds, Sh n d) : Sh (n + 1) (.lst ds) := by
  have b := ShL.of h
  have := b.dep
  exact ⟨by simpa [pyOk] using b.ok, by simpa [toPy, PyData.canLay0] using b.lay, by simp only [toPy, PyData.depth]; omega⟩
theorem Sh.tup {n : Nat} {ds : List D} (h : ∀ d ∈ ds, Sh n d) : Sh (n + 1) (.tup ds) := by
  have b := ShL.of h
  have := b.dep
  exact ⟨by simpa [pyOk] using b.ok, by simpa [toPy, PyData.canLay0] using b.lay, by simp only [toPy, PyData.depth]; omega⟩
theorem Sh.mono {n m : Nat} {d : D} (h : Sh n d) (k : n ≤ m) : Sh m d := ⟨h.ok, h.lay, Nat.le_trans h.dep k⟩
theorem Sh.shp {n : Nat} {d : D} (h : Sh n d) (k : n ≤ 64 := by decide) : shp d = true := by
  unfold DL.shp SeqAt.shaped
  rw [h.ok, h.lay]
  have := h.dep
  simp
  omega
/-! ### likeness -/
mutual
def npl : D → Bool
  | .non => true
  | .int _ => true
  | .str _ => true
  | .lst xs => nplL xs
  | .tup xs => nplL xs
  | _ => false
def nplL : List D → Bool
  | [] => true
  | d :: ds => npl d && nplL ds
end
mutual
theorem eqv_iff : ∀ {d e : D}, npl d = true → npl e = true → (PyData.eqv (toPy d) (toPy e) = true ↔ d = e)
  | .non, e, _, he => by cases e <;> simp_all [npl, toPy, PyData.eqv]
  | .int i, e, _, he => by cases e <;> simp_all [npl, toPy, PyData.eqv]
  | .str i, e, _, he => by cases e <;> simp_all [npl, toPy, PyData.eqv]
  | .lst xs, e, hd, he => by
    cases e with
    | lst ys =>
      simp only [npl] at hd he
      simp only [toPy, PyData.eqv, eqvL_iff hd he, D.lst.injEq]
    | _ => simp_all [npl, toPy, PyData.eqv]
  | .tup xs, e, hd, he => by
    cases e with
    | tup ys =>
      simp only [npl] at hd he
      simp only [toPy, PyData.eqv, eqvL_iff hd he, D.tup.injEq]
    | _ => simp_all [npl, toPy, PyData.eqv]
  | .bl _, _, hd, _ => by simp [npl] at hd
  | .ty _, _, hd, _ => by simp [npl] at hd
  | .dk _, _, hd, _ => by simp [npl] at hd
  | .dt _, _, hd, _ => by simp [npl] at hd
  | .scr _, _, hd, _ => by simp [npl] at hd
  | .ob _, _, hd, _ => by simp [npl] at hd
theorem eqvL_iff : ∀ {d e : List D}, nplL d = true → nplL e = true → (PyData.eqvAll (toPyL d) (toPyL e) = true ↔ d = e)
  | [], [], _, _ => by simp [toPyL, PyData.eqvAll]
  | [], _ :: _, _, _ => by simp [toPyL, PyData.eqvAll]
  | _ :: _, [], _, _ => by simp [toPyL, PyData.eqvAll]
  | d :: ds, e :: es, hd, he => by
    simp only [nplL, Bool.and_eq_true] at hd he
    simp only [toPyL, PyData.eqvAll, Bool.and_eq_true, eqv_iff hd.1 he.1, eqvL_iff hd.2 he.2, List.cons.injEq]
end
theorem eqD_dec {d e : D} {P : Prop} [Decidable P] (hd : npl d = true) (he : npl e = true) (h : d = e ↔ P) : eqD d e = decide P := by
  rw [Bool.eq_iff_iff, decide_eq_true_eq, ← h]
  exact eqv_iff hd he
theorem nplL_of : ∀ {ds : List D}, (∀ d ∈ ds, npl d = true) → nplL ds = true
  | [], _ => by simp [nplL]
  | d :: ds, h => by
    have a := h d List.mem_cons_self
    have b := nplL_of fun e he => h e (List.mem_cons_of_mem d he)
    simp [nplL, a, b]
/-- a right encoding of some things as data -/
structure Enc {α : Type} (n : Nat) (f : α → D) : Prop where
  inj : ∀ a b, f a = f b → a = b
  np : ∀ a, npl (f a) = true
  sh : ∀ a, Sh n (f a)
theorem map_inj {α : Type} {f : α → D} (h : ∀ a b, f a = f b → a = b) : ∀ {xs ys : List α}, xs.map f = ys.map f → xs = ys
  | [], [], _ => rfl
  | [], _ :: _, e => by cases e
  | _ :: _, [], e => by cases e
  | x :: xs, y :: ys, e => by
    simp only [List.map_cons, List.cons.injEq] at e
    rw [h x y e.1, map_inj h e.2]
section
variable {α β γ : Type} {n m : Nat} {f : α → D} {g : β → D}
theorem Enc.eq [DecidableEq α] (E : Enc n f) (a b : α) : eqD (f a) (f b) = decide (a = b) := eqD_dec (E.np a) (E.np b) ⟨E.inj a b, fun e => by rw [e]⟩
theorem Enc.inD [DecidableEq α] (E : Enc n f) (a : α) : ∀ xs : List α, DL.inD (f a) (xs.map f) = decide (a ∈ xs)
  | [] => by simp [DL.inD]
  | x :: xs => by
    have := E.inD a xs
    unfold DL.inD at this ⊢
    rw [List.map_cons, List.any_cons, this, E.eq]
    rw [← Bool.decide_or, decide_eq_decide, List.mem_cons]
    exact ⟨fun h => h.imp (fun e => e.symm) id, fun h => h.imp (fun e => e.symm) id⟩
theorem Enc.shp (E : Enc n f) (a : α) (k : n ≤ 64 := by decide) : DL.shp (f a) = true := (E.sh a).shp k
theorem Enc.int : Enc 0 D.int := ⟨fun a b e => by cases e; rfl, fun a => by simp [npl], fun _ => Sh.int⟩
theorem Enc.nat : Enc 0 (fun n : Nat => D.int (n : Int)) := ⟨fun a b e => by injection e with e; omega, fun a => by simp [npl], fun _ => Sh.int⟩
theorem Enc.lst (E : Enc n f) : Enc (n + 1) (fun xs : List α => D.lst (xs.map f)) :=
  ⟨fun a b e => by injection e with e; exact map_inj E.inj e, fun a => by
    simp only [npl]
    exact nplL_of fun d hd => by obtain ⟨x, _, rfl⟩ := List.mem_map.mp hd; exact E.np x, fun a => Sh.lst fun d hd => by obtain ⟨x, _, rfl⟩ := List.mem_map.mp hd; exact E.sh x⟩
theorem Enc.tup (E : Enc n f) : Enc (n + 1) (fun xs : List α => D.tup (xs.map f)) :=
  ⟨fun a b e => by injection e with e; exact map_inj E.inj e, fun a => by
    simp only [npl]
    exact nplL_of fun d hd => by obtain ⟨x, _, rfl⟩ := List.mem_map.mp hd; exact E.np x, fun a => Sh.tup fun d hd => by obtain ⟨x, _, rfl⟩ := List.mem_map.mp hd; exact E.sh x⟩
theorem Enc.mono (E : Enc n f) (k : n ≤ m) : Enc m f := ⟨E.inj, E.np, fun a => (E.sh a).mono k⟩
theorem Enc.pair (E : Enc n f) (G : Enc n g) : Enc (n + 1) (fun p : α × β => D.tup [f p.1, g p.2]) :=
  ⟨fun a b e => by
    simp only [D.tup.injEq, List.cons.injEq, and_true] at e
    exact Prod.ext (E.inj _ _ e.1) (G.inj _ _ e.2), fun a => by simp [npl, nplL, E.np, G.np], fun a => Sh.tup fun d hd => by
      simp only [List.mem_cons, List.not_mem_nil, or_false] at hd
      rcases hd with rfl | rfl
      · exact E.sh _
      · exact G.sh _⟩
theorem Enc.trip {h : γ → D} (E : Enc n f) (G : Enc n g) (J : Enc n h) : Enc (n + 1) (fun p : α × β × γ => D.tup [f p.1, g p.2.1, h p.2.2]) :=
  ⟨fun a b e => by
    simp only [D.tup.injEq, List.cons.injEq, and_true] at e
    exact Prod.ext (E.inj _ _ e.1) (Prod.ext (G.inj _ _ e.2.1) (J.inj _ _ e.2.2)), fun a => by simp [npl, nplL, E.np, G.np, J.np], fun a => Sh.tup fun d hd => by
      simp only [List.mem_cons, List.not_mem_nil, or_false] at hd
      rcases hd with rfl | rfl | rfl
      · exact E.sh _
      · exact G.sh _
      · exact J.sh _⟩
end
theorem Enc.ent : Enc 1 encE := Enc.pair Enc.int Enc.int
/-! ### what a call tells, told otherwise -/
def rGhE (K : PySem.W.Frag) (t : RE) : RE := fun ρ μ q => t ρ μ fun d μ1 => ∃ d' μ', GE K d μ1 d' μ' ∧ q d' μ'
theorem d_gh {X : Cx} {e : Expr} {t : RE} (h : DE X e t) : DE X e (rGhE X.K t) :=
  weakE h fun σ H Q ⟨F, ρ, μ, q, A, R, h, o⟩ => ⟨F, ρ, μ, _, A, R, h, fun F1 x H1 d1 μ1 e1 A1 r1 h1 => by
    obtain ⟨d', μ', g, h2⟩ := h1
    obtain ⟨F2, e2, A2, r2⟩ := g F1 H1 x A1 r1
    exact o F2 _ _ _ _ (Same.trans e1 e2) A2 r2 h2⟩
/-! ### likeness through places -/
mutual
def rdD (μ : Mu) : D → D
  | .ob a => moD a (μ a)
  | .lst xs => .lst (rdL μ xs)
  | .tup xs => .tup (rdL μ xs)
  | d => d
def rdL (μ : Mu) : List D → List D
  | [] => []
  | d :: ds => rdD μ d :: rdL μ ds
end
mutual
theorem dp_rd {K : PySem.W.Frag} {F H : Hp} {μ : Mu} (A : Abs K F μ H) : ∀ {d : D} {v : V}, pyOk (rdD μ d) = true → Rp K F d v → Dp K H v (toPy (rdD μ d))
  | .non, _, _, .non => .non
  | .bl b, _, _, .bl => .bl b
  | .int i, _, _, .int => .int i
  | .str x, _, _, .str => .str x
  | .lst xs, _, k, .lst h r => .lst (SqL.of (A.sub _ _ h)) (dpA_rd A (by simpa [rdD, pyOk] using k) r)
  | .tup xs, _, k, .tup h r => .tup (SqT.of (A.sub _ _ h)) (dpA_rd A (by simpa [rdD, pyOk] using k) r)
  | .ty _, _, k, _ => by simp [rdD, pyOk] at k
  | .dk _, _, k, _ => by simp [rdD, pyOk] at k
  | .dt _, _, k, _ => by simp [rdD, pyOk] at k
  | .scr _, _, k, _ => by simp [rdD, pyOk] at k
  | .ob a, v, k, r => by
    simp only [rdD] at k ⊢
    exact view_py (d := .ob a) A r k
theorem dpA_rd {K : PySem.W.Frag} {F H : Hp} {μ : Mu} (A : Abs K F μ H) : ∀ {ds : List D} {vs : List V}, pyOkL (rdL μ ds) = true → RpL K F ds vs → DpAll K H vs (toPyL (rdL μ ds))
  | [], _, _, .nil => .nil
  | d :: ds, _, k, .cons h r => .cons (dp_rd A (ok_and (by simpa only [rdL, pyOkL] using k)).1 h) (dpA_rd A (ok_and (by simpa only [rdL, pyOkL] using k)).2 r)
end
def opEqR : R2D := fun d e μ q => shp (rdD μ d) = true ∧ shp (rdD μ e) = true ∧ q (.bl (eqD (rdD μ d) (rdD μ e))) μ
def opNeR : R2D := fun d e μ q => shp (rdD μ d) = true ∧ shp (rdD μ e) = true ∧ q (.bl (!eqD (rdD μ d) (rdD μ e))) μ
section
variable {X : Cx}
theorem o_eqR (hu : X.A.units + 64 < cLine) : OpD X (compareOp .Eq) opEqR := by
  intro p s σ H x y v u Q I rx ry ⟨F, μ, d, e, q, A, r1, r2, ⟨h1, h2, h⟩, o⟩
  obtain ⟨k1, s1⟩ := ok_and h1
  obtain ⟨k2, s2⟩ := ok_and h2
  exact op_eqD hu p s σ H x y v u Q I rx ry ⟨_, _, dp_rd A k1 r1, dp_rd A k2 r2, s1, s2, o.same A .bl h⟩
theorem o_neR (hu : X.A.units + 64 < cLine) : OpD X (compareOp .NotEq) opNeR := by
  intro p s σ H x y v u Q I rx ry ⟨F, μ, d, e, q, A, r1, r2, ⟨h1, h2, h⟩, o⟩
  obtain ⟨k1, s1⟩ := ok_and h1
  obtain ⟨k2, s2⟩ := ok_and h2
  exact op_neD hu p s σ H x y v u Q I rx ry ⟨_, _, dp_rd A k1 r1, dp_rd A k2 r2, s1, s2, o.same A .bl h⟩
end
end DL

/-! The data layer: sorted of a tuple of ints. -/
namespace DL
open PySem PySem.Spec PyProof.Rows L2 BM
section
variable {prog : Program} {w : World} {A : Around} {E : Value → Shared → Prop} {s : Shared}
/-- the heap behind the collecting of some values -/
def colH (s : Shared) (vs : List Value) : Shared :=
  { s with heap := (s.heap.push (seqObj "list" #[] 0)).update s.heap.objs.size (Obj.mapSeq (· ++ vs.toArray)) }
theorem col_tup {l : Addr} {vs : List Value} {Q : List Value → Shared → Prop} (ht : s.heap.IsTuple l vs.toArray) (hz : vs.length ≤ sizeLine) (h : Q vs (colH s vs)) : wpAny (model prog w) A (collect (.ref l)) Q E s := by
  obtain ⟨o, ho, hc, n, hd⟩ := ht
  have hp : (s.heap.push (seqObj "list" #[] 0)).get? l = some o := Heap.get?_push_of_some _ ho
  have hn : (s.heap.push (seqObj "list" #[] 0)).get? s.heap.objs.size = some (seqObj "list" #[] 0) := Heap.get?_push_size _ rfl
  have hb : (Value.type "tuple" == Value.type "tuple") = true := by rfl
  have hfin : ((#[] : Array Value) ++ vs.toArray).toList = vs := by simp
  unfold collect
  refine wpAny_bind (wpAny_runValue (codeAny_builtin entry_proto_collect' (wpAny_bind (wpAny_newList (wpAny_pure ⟨Code.quiet_builtin _ (by decide +kernel), codeAny_builtin entry_list_iadd' ?_⟩)))))
  show wpAny _ _ (Builtin.List.listExtendWith _ _ _) _ _ _
  unfold Builtin.List.listExtendWith
  refine wpAny_bind (wpAny_typeOf (T := "tuple") ⟨o, hp, hc⟩ ?_)
  rw [if_pos (by rw [hb]; simp)]
  refine wpAny_bind (listItems_at hp hd (wpAny_bind (listItems_at hn rfl ?_)))
  rw [if_neg (by simp)]
  refine wpAny_bind (listUpdate_at hn rfl (wpAny_pure ?_) (Nat.zero_le _) (by simp only [Array.size_append, List.size_toArray]; simp; omega))
  refine wpAny_bind (wpAny_load (get?_update_seq hn _) ?_)
  show wpAny _ _ (pure ((#[] : Array Value) ++ vs.toArray).toList) Q E _
  rw [hfin]
  exact wpAny_pure h
theorem sort_tup {l : Addr} {vs : List Value} {lt : Value → Value → Bool} {Q : Value → Shared → Prop} (O : SrtO.Swo lt) (ht : s.heap.IsTuple l vs.toArray) (hz : vs.length ≤ sizeLine)
    (hS : 2 ≤ vs.length → ∀ (t : Shared) (a : Addr), SrtO.SortableO prog w A.in1.in1 t a vs lt)
    (h : ∀ out : List Value, SrtO.Srtd lt out → SrtO.Stb lt out vs → Q (.ref (s.heap.objs.size + 1)) { s with heap := sortedAll s.heap vs out.toArray }) :
    wpAny (model prog w) A (call (.builtin "sorted") [.ref l]) Q E s := by
  have hsz : (colH s vs).heap.objs.size = s.heap.objs.size + 1 := by unfold colH; rw [Heap.size_update, size_push']
  have hL : ((colH s vs).heap.push (seqObj "list" vs.toArray 0)).get? (s.heap.objs.size + 1) = some (seqObj "list" vs.toArray 0) := by rw [← hsz]; exact Heap.get?_push_size _ rfl
  refine Calls.call_function_entry kind_sorted plain_sorted entry_sorted (args_sorted1 _) ?_
  unfold Builtin.«sorted»
  refine wpAny_bind (m := checkCount "sorted" 1 1 _) (wpAny_pure (wpAny_bind (col_tup ht hz (wpAny_bind (wpAny_newList ?_ hz)))))
  rw [hsz]
  refine wpAny_bind (wpAny_holding (wpAny_call_entry slot_list_sort ⟨_, hL, rfl⟩ entry_list_sort (SrtO.list_sort_ord O hL hz (fun h2 => hS h2 _ _) fun out hs hb => ⟨_, rfl, wpAny_pure ⟨_, rfl, h out hs hb⟩⟩) (args_list_sort _)))
end
def rSortT (K : PySem.W.Frag) : List V → Hp → VK → Prop := fun vs H Q => ∃ (a : Addr) (ns : List Int), vs = [V.ref a] ∧ SqT K H a (ns.map V.int) ∧
  ∀ p : Addr, H p = none → Q (.ref p) (upd H p (.lst ((sortI ns).map V.int)))
theorem cr_sortT {X : Cx} : CallR X (.builtin "sorted") (rSortT X.K) := by
  intro pins s σ H vs us Q I r ⟨a, ns, hv, hs, q⟩
  subst hv
  obtain ⟨its, rv, hl, hz⟩ := I.tuple hs
  rw [Vals.ref1 r]
  have hi := rv.ints
  refine sort_tup SrtO.swo_int hl (by rw [← rv.length]; exact hz) (fun h2 t a' => SrtO.ints_sortable hi h2) fun out h1 h2 => ?_
  obtain ⟨k1, k2, k3⟩ := SrtO.ints_out hi h1 h2
  have es : out.map SrtO.iv = sortI ns := sortG_unique totI k2 (k3.imp fun h => decide_eq_true h)
  rw [es] at k1 k2
  obtain ⟨ep, he'⟩ := PyProof.Rows.sortedAll_at s.heap its out.toArray
  have hlen : ((sortI ns).map V.int).length ≤ sizeLine := by rw [List.length_map, k2.length_eq]; simpa using hz
  exact ⟨.ref _, upd H (s.heap.objs.size + 1) (.lst ((sortI ns).map V.int)), I.laid (t' := s.toks) (fun _ _ => PyProof.Rows.sortedAll_old) (Nat.le_succ _) ⟨hlen, out, ep, vals_of_ints k1, he'⟩, rfl, q _ (I.hok.fresh (Nat.le_succ _))⟩
/-- sorted: of a list of ints or pairs, or of a tuple of ints -/
def cSort (own : Bool) : RC := fun ds μ q => match ds with
  | [.tup xs] => match intsOf xs with
    | some ns => newL own ((sortI ns).map D.int) μ q
    | none => False
  | ds => cSorted own ds μ q
theorem c_sort {X : Cx} (own : Bool) : CallD X (.builtin "sorted") (cSort own) := by
  intro p s σ H vs us Q I rv ⟨F, μ, ds, q, A, r, h, o⟩
  unfold cSort at h
  split at h
  · rename_i xs
    obtain ⟨v, rfl, r1⟩ := rpl1 r
    cases e2 : intsOf xs with
    | none => simp only [e2] at h
    | some ns =>
      simp only [e2] at h
      have e3 := intsOf_eq e2
      subst e3
      cases r1 with
      | tup hf rl =>
        have e4 := rl.ints
        subst e4
        exact cr_sortT p s σ H _ us Q I rv ⟨_, ns, rfl, SqT.of (A.sub _ _ hf), fun c hn => newL_ok A RpL.of_ints h o hn⟩
  · exact c_sorted own p s σ H vs us Q I rv ⟨F, μ, ds, q, A, r, h, o⟩
section
variable {μ : Mu} {q : QD} {own : Bool}
theorem cSort_tup {ns : List Int} : cSort own [.tup (ns.map D.int)] μ q = newL own ((sortI ns).map D.int) μ q := by
  unfold cSort; simp only [intsOf_map]
theorem cSort_lst {ns : List Int} : cSort own [.lst (ns.map D.int)] μ q = newL own ((sortI ns).map D.int) μ q := by
  unfold cSort cSorted; simp only [itm_lst, intsOf_map]
theorem cSort_ents {es : List Ent} : cSort own [.lst (es.map encE)] μ q = newL own ((sortP es).map encE) μ q := by
  unfold cSort cSorted
  simp only [itm_lst]
  cases es with
  | nil => rfl
  | cons e es =>
    have h1 : intsOf ((e :: es).map encE) = none := rfl
    rw [h1, prsOf_map]
end
/-! ### dicts: what stands at a key -/
section
variable {κ α : Type} [DecidableEq κ]
theorem putG_len (kvs : List (κ × α)) (k : κ) (v : α) : (putG kvs k v).length ≤ kvs.length + 1 := by
  unfold putG
  split
  · rw [List.length_map]; omega
  · simp
theorem putG_keys (kvs : List (κ × α)) (k : κ) (v : α) : (putG kvs k v).map Prod.fst = if k ∈ kvs.map Prod.fst then kvs.map Prod.fst else kvs.map Prod.fst ++ [k] := by
  have e : (kvs.any fun kv => decide (kv.1 = k)) = true ↔ k ∈ kvs.map Prod.fst := by simp
  unfold putG
  by_cases h : k ∈ kvs.map Prod.fst
  · rw [if_pos h, if_pos (e.mpr h), List.map_map]
    refine List.map_congr_left fun x _ => ?_
    show (if x.1 = k then (x.1, v) else x).1 = x.1
    split <;> rfl
  · rw [if_neg h, if_neg (fun z => h (e.mp z)), List.map_append]; rfl
theorem valG_put_same (k : κ) (v : α) : ∀ kvs : List (κ × α), valG (putG kvs k v) k = some v
  | [] => by simp [putG, valG]
  | (a, b) :: kvs => by
    have ih := valG_put_same k v kvs
    unfold putG at ih ⊢
    by_cases e : a = k
    · subst e; simp [valG]
    · rw [List.any_cons]
      simp only [e, decide_false, Bool.false_or]
      split
      · rename_i h
        rw [if_pos h] at ih
        rw [List.map_cons, if_neg e, valG_neg e]
        exact ih
      · rename_i h
        rw [if_neg h] at ih
        rw [List.cons_append, valG_neg e]
        exact ih
theorem valG_put_ne {k j : κ} (v : α) (h : j ≠ k) : ∀ kvs : List (κ × α), valG (putG kvs k v) j = valG kvs j
  | [] => by simp [putG, valG, Ne.symm h]
  | (a, b) :: kvs => by
    have ih := valG_put_ne v h kvs
    unfold putG at ih ⊢
    rw [List.any_cons]
    by_cases e : a = k
    · subst e
      simp only [decide_true, Bool.true_or, if_true, List.map_cons]
      rw [valG_neg (Ne.symm h), valG_neg (Ne.symm h)]
      split at ih
      · exact ih
      · rename_i h2
        have : kvs.map (fun kv => if kv.1 = a then (kv.1, v) else kv) = kvs := by
          refine (List.map_congr_left fun x hx => ?_).trans (List.map_id _)
          rw [if_neg fun z => h2 (List.any_eq_true.mpr ⟨x, hx, decide_eq_true z⟩)]; rfl
        rw [this]
    · simp only [e, decide_false, Bool.false_or]
      split
      · rename_i h2
        rw [if_pos h2] at ih
        rw [List.map_cons, if_neg e]
        by_cases q : a = j
        · rw [valG_pos q, valG_pos q]
        · rw [valG_neg q, valG_neg q]; exact ih
      · rename_i h2
        rw [if_neg h2] at ih
        rw [List.cons_append]
        by_cases q : a = j
        · rw [valG_pos q, valG_pos q]
        · rw [valG_neg q, valG_neg q]; exact ih
end
section
variable {μ : Mu} {a : Addr}
theorem dGet_at {kvs : List (Key × D)} {y : D} (h : μ a = some (.dk kvs)) : dGet μ (.ob a) y = (keyOf y).map fun k => valG kvs k := by unfold dGet; rw [rs_atk h]
theorem keyOf_int {i : Int} : keyOf (.int i) = some (.inl i) := rfl
theorem keyOf_str {x : Str} : keyOf (.str x) = some (.inr x) := rfl
end
theorem itD_at {μ : Mu} {a : Addr} {xs : List D} {q : QI} (h : μ a = some (.lst xs)) : itD (.ob a) μ q = q (fun μ' => μ' a = some (.lst xs)) xs μ := by unfold itD; simp only [h]
theorem out_nx {K : PySem.W.Frag} {μ : Mu} {q : QD} (h : q .non μ) : ∃ μ', GE K .non μ .non μ' ∧ q .non μ' := ⟨μ, ge_refl, h⟩
theorem out_nxless {K : PySem.W.Frag} {μ μ' : Mu} {q : QD} (hl : ∀ a m, μ' a = some m → μ a = some m) (h : q .non μ') : ∃ μ', GE K .non μ .non μ' ∧ q .non μ' := ⟨μ', ge_less hl, h⟩
/-- a place that is known stays when a new one is laid -/
theorem upm_old {μ : Mu} {a b : Addr} {m n : MO} (h : μ a = some m) (hb : μ b = none) : upm μ b n a = some m := by
  rw [upm_ne (fun e => by subst e; rw [h] at hb; cases hb)]; exact h
theorem ne_none {μ : Mu} {a b : Addr} {m : MO} (h : μ a = some m) (hb : μ b = none) : a ≠ b := fun e => by subst e; rw [h] at hb; cases hb
end DL

/-! The data layer: a dict of three texts as keys. -/
namespace DL
open PySem PySem.Spec PyProof.Rows L2 BM
def rDisp3 (k1 k2 k3 : Str) (t1 t2 t3 : RE) : RE := fun ρ μ q => ∀ p, μ p = none → t1 ρ (upm μ p (.dk [])) fun d1 μ1 => t2 ρ μ1 fun d2 μ2 => t3 ρ μ2 fun d3 μ3 => μ3 p = some (.dk []) ∧ q (.ob p) (upm μ3 p (.dk [(.inr k1, d1), (.inr k2, d2), (.inr k3, d3)]))
section
variable {X : Cx} {e1 e2 e3 : Expr} {t1 t2 t3 : RE} {k1 k2 k3 : Str} {j1 j2 j3 : Nat} {p1 p2 p3 pos : Pos}
theorem d_disp3 (h1 : DE X e1 t1) (h2 : DE X e2 t2) (h3 : DE X e3 t3) (n12 : k1 ≠ k2) (n13 : k1 ≠ k3) (n23 : k2 ≠ k3) :
    DE X (.Dict [some (.Constant (.str k1) j1 p1), some (.Constant (.str k2) j2 p2), some (.Constant (.str k3) j3 p3)] [e1, e2, e3] pos) (rDisp3 k1 k2 k3 t1 t2 t3) :=
  weakE (pe_disp (pps_cons pe_str h1 (pps_cons pe_str h2 (pps_cons pe_str h3 pps_nil))) rfl rfl (by intro z; cases z) (by simp)) fun σ H Q ⟨F, ρ, μ, q, A, R, h, o⟩ => by
    intro p hp
    have A0 := A.newM (m := .dk []) (o := .dK []) hp (.dk rfl .nil)
    refine ⟨F, ρ, _, _, A0, R, h p (A.freeM hp), fun F1 v1 H1 d1 μ1 x1 A1 r1 q1 => ?_⟩
    refine ⟨F1, ρ, μ1, _, A1, R.mono x1, q1, fun F2 v2 H2 d2 μ2 x2 A2 r2 q2 => ?_⟩
    refine ⟨F2, ρ, μ2, _, A2, R.mono (Same.trans x1 x2), q2, fun F3 v3 H3 d3 μ3 x3 A3 r3 q3 => ?_⟩
    obtain ⟨hm, q3⟩ := q3
    obtain ⟨vs, hv, hk, _⟩ := A3.dkM hm
    have hvs : vs = [] := by simpa using hk.symm
    subst hvs
    refine ⟨hv, [(.inr k1, v1), (.inr k2, v2), (.inr k3, v3)], rfl, by simp, ?_⟩
    have hmg : mergeK [] [((.inr k1 : Key), v1), (.inr k2, v2), (.inr k3, v3)] = [(.inr k1, v1), (.inr k2, v2), (.inr k3, v3)] := by
      have a12 : ¬ ((.inr k1 : Key) = .inr k2) := fun z => n12 (by injection z)
      have a13 : ¬ ((.inr k1 : Key) = .inr k3) := fun z => n13 (by injection z)
      have a23 : ¬ ((.inr k2 : Key) = .inr k3) := fun z => n23 (by injection z)
      simp [mergeK, putK, a12, a13, a23]
    rw [hmg]
    refine o F3 _ _ _ _ (Same.trans x1 (Same.trans x2 x3)) (A3.put hm (.dk rfl ?_)) .ob q3
    exact .cons ((r1.mono x2).mono x3) (.cons (r2.mono x3) (.cons r3 .nil))
end
/-! ### likeness of lists of lists of one's own -/
end DL

/-! The data layer: list.index. -/
namespace DL
open PySem PySem.Spec PyProof.Rows L2 BM
def mIndex : RM := fun d ds μ q => match ds with
  | [y] => match rs μ d with
    | .lst xs => shp (.lst xs) = true ∧ shp (rs μ y) = true ∧ match xs.findIdx? (fun z => eqD z (rs μ y)) with
      | some j => q (.int (j : Int)) μ
      | none => False
    | _ => False
  | _ => False
theorem toPyL_get {ds : List D} {j : Nat} : (toPyL ds)[j]? = (ds[j]?).map toPy := by
  induction ds generalizing j with
  | nil => simp [toPyL]
  | cons d ds ih => cases j <;> simp [toPyL, ih]
theorem m_index {X : Cx} (hu : X.A.units + 65 < cLine) : MtD X "list.index" mIndex := by
  intro p s σ H x xs v us Q I rx rxs ⟨F, μ, d, ds, q, A, r1, r2, h, o⟩
  unfold mIndex at h
  split at h
  · rename_i y
    obtain ⟨w, rfl, r3⟩ := rpl1 r2
    cases h2 : rs μ d <;> rw [h2] at h <;> try exact (h : False).elim
    rename_i zs
    obtain ⟨k1, k2, h⟩ := h
    obtain ⟨k1, s1⟩ := ok_and k1
    obtain ⟨k2, s2⟩ := ok_and k2
    cases hf : zs.findIdx? (fun z => eqD z (rs μ y)) with
    | none => rw [hf] at h; exact h.elim
    | some j =>
      rw [hf] at h
      obtain ⟨hj, hp, hno⟩ := List.findIdx?_eq_some_iff_getElem.mp hf
      obtain ⟨a, vs, rfl, ha, _⟩ := view_lst A r1 h2
      refine mt_indexD hu p s σ H _ _ v us Q I rx rxs ⟨a, w, toPy (rs μ y), toPyL zs, j, toPy zs[j], rfl, rfl, ?_, view_py A r3 k2, by simpa only [toPy] using s1, s2, ?_, hp, ?_, o.same A .int h⟩
      · have z := view_py A r1 (by rw [h2]; exact k1)
        rw [h2] at z
        simpa only [toPy] using z
      · rw [toPyL_get, List.getElem?_eq_getElem hj]; rfl
      · intro m z' hm hz
        rw [toPyL_get, List.getElem?_eq_getElem (by omega)] at hz
        simp only [Option.map_some, Option.some.injEq] at hz
        subst hz
        have := hno m hm
        simpa [eqD] using this
  · exact h.elim
end DL

/-! What the program's functions of entries, labels and marks compute, in plain Lean. -/
namespace BM
def codeM (e : Ent) : Int := if e.1 < 0 then 64 * (-2 * e.1 - 1) + e.2 else 64 * 2 * e.1 + e.2
def codeN (e : Ent) : Nat := (codeM e).toNat
/-- an entry of a stand: its knot from 0 to 63 -/
def okE (e : Ent) : Prop := 0 ≤ e.2 ∧ e.2 < 64
theorem codeM_nat {e : Ent} (h : okE e) : codeM e = (codeN e : Int) := by
  have : 0 ≤ codeM e := by
    unfold okE at h
    unfold codeM; split <;> omega
  unfold codeN; omega
theorem codeM_inj {a b : Ent} (ha : okE a) (hb : okE b) (h : codeM a = codeM b) : a = b := by
  unfold okE at ha hb
  unfold codeM at h
  refine Prod.ext ?_ ?_ <;> (split at h <;> split at h <;> omega)
theorem codeN_inj {a b : Ent} (ha : okE a) (hb : okE b) (h : codeN a = codeN b) : a = b :=
  codeM_inj ha hb (by rw [codeM_nat ha, codeM_nat hb, h])
/-- the lowest figure in which two numbers are unlike -/
def lowB (a b : Nat) : Nat := if a % 2 ≠ b % 2 then 0 else if a = b then 0 else lowB (a / 2) (b / 2) + 1
termination_by a + b
decreasing_by omega
theorem lowB_zero {a b : Nat} (h : a % 2 ≠ b % 2) : lowB a b = 0 := by unfold lowB; rw [if_pos h]
theorem lowB_succ {a b : Nat} (h : a % 2 = b % 2) (h2 : a ≠ b) : lowB a b = lowB (a / 2) (b / 2) + 1 := by
  rw [lowB, if_neg (by simpa using h), if_neg h2]
theorem half_ne {a b : Nat} (h : a % 2 = b % 2) (h2 : a ≠ b) : a / 2 ≠ b / 2 := by omega
/-- the figure there is unlike -/
theorem lowB_bit : ∀ (n a b : Nat), a + b ≤ n → a ≠ b → (a / 2 ^ lowB a b) % 2 ≠ (b / 2 ^ lowB a b) % 2
  | n, a, b, hn, h => by
    by_cases h1 : a % 2 = b % 2
    · rw [lowB_succ h1 h]
      have hh := half_ne h1 h
      cases n with
      | zero => omega
      | succ n =>
        have ih := lowB_bit n (a / 2) (b / 2) (by omega) hh
        rw [Nat.pow_succ, Nat.mul_comm, ← Nat.div_div_eq_div_mul, ← Nat.div_div_eq_div_mul]
        exact ih
    · rw [lowB_zero h1]; simpa using h1
theorem lowB_comm : ∀ (n a b : Nat), a + b ≤ n → lowB a b = lowB b a
  | n, a, b, hn => by
    by_cases h1 : a % 2 = b % 2
    · by_cases h : a = b
      · rw [h]
      · rw [lowB_succ h1 h, lowB_succ h1.symm (Ne.symm h)]
        cases n with
        | zero => omega
        | succ n => rw [lowB_comm n (a / 2) (b / 2) (by omega)]
    · rw [lowB_zero h1, lowB_zero (Ne.symm h1)]
/-- below it the figures are alike -/
theorem lowB_eq : ∀ (n a b : Nat), a + b ≤ n → a ≠ b → a % 2 ^ lowB a b = b % 2 ^ lowB a b
  | n, a, b, hn, h => by
    by_cases h1 : a % 2 = b % 2
    · rw [lowB_succ h1 h]
      cases n with
      | zero => omega
      | succ n =>
        have ih := lowB_eq n (a / 2) (b / 2) (by omega) (half_ne h1 h)
        rw [Nat.pow_succ, Nat.mul_comm, Nat.mod_mul, Nat.mod_mul, h1, ih]
    · rw [lowB_zero h1]; simp [Nat.mod_one]
def turn1 (p x : Nat) : Nat := 2 * lowB x p + (x / 2 ^ lowB x p) % 2
def turnR : Nat → List Nat → List Nat
  | _, [] => []
  | p, x :: r => turn1 p x :: turnR x r
def turnM : List Nat → List Nat
  | [] => []
  | x :: r => x % 2 :: turnR x r
/-- no neighbours alike -/
def NoAdj : List Nat → Prop
  | x :: y :: r => x ≠ y ∧ NoAdj (y :: r)
  | _ => True
theorem NoAdj.tail {x : Nat} {l : List Nat} (h : NoAdj (x :: l)) : NoAdj l := by
  cases l with
  | nil => trivial
  | cons y r => exact h.2
theorem turnR_len : ∀ (l : List Nat) (p : Nat), (turnR p l).length = l.length
  | [], _ => rfl
  | x :: r, _ => congrArg Nat.succ (turnR_len r x)
theorem turnM_len : ∀ l : List Nat, (turnM l).length = l.length
  | [] => rfl
  | x :: r => congrArg Nat.succ (turnR_len r x)
theorem turn_ne {a b c : Nat} (h1 : a ≠ b) (h2 : b ≠ c) : turn1 a b ≠ turn1 b c := by
  intro e
  unfold turn1 at e
  have k1 := lowB_bit (b + a) b a (Nat.le_refl _) (Ne.symm h1)
  have k2 := lowB_bit (c + b) c b (Nat.le_refl _) (Ne.symm h2)
  have m1 : (b / 2 ^ lowB b a) % 2 < 2 := Nat.mod_lt _ (by decide)
  have m2 : (c / 2 ^ lowB c b) % 2 < 2 := Nat.mod_lt _ (by decide)
  have e1 : lowB b a = lowB c b := by omega
  rw [e1] at e
  rw [e1] at k1
  omega
theorem turn_ne0 {a b : Nat} (h : a ≠ b) : a % 2 ≠ turn1 a b := by
  intro e
  unfold turn1 at e
  have k := lowB_bit (b + a) b a (Nat.le_refl _) (Ne.symm h)
  have m2 : (b / 2 ^ lowB b a) % 2 < 2 := Nat.mod_lt _ (by decide)
  have m1 : a % 2 < 2 := Nat.mod_lt _ (by decide)
  have e1 : lowB b a = 0 := by omega
  rw [e1] at e k
  simp at e k
  omega
theorem turnR_noadj : ∀ (l : List Nat) (p q : Nat), p ≠ q → NoAdj (q :: l) → NoAdj (turn1 p q :: turnR q l)
  | [], _, _, _, _ => trivial
  | x :: r, p, q, h, hn => ⟨turn_ne h hn.1, turnR_noadj r q x hn.1 hn.2⟩
theorem turnM_noadj {l : List Nat} (h : NoAdj l) : NoAdj (turnM l) := by
  cases l with
  | nil => trivial
  | cons x r =>
    cases r with
    | nil => trivial
    | cons y r => exact ⟨turn_ne0 h.1, turnR_noadj r x y h.1 h.2⟩
def labM (es : List Ent) : List Nat := turnM (turnM (turnM (turnM (turnM (es.map codeN)))))
theorem labM_len (es : List Ent) : (labM es).length = es.length := by simp [labM, turnM_len]
/-- rising entries have no neighbours alike -/
abbrev Asc (es : List Ent) : Prop := es.Pairwise fun a b => ltE a b = true
theorem ltE_iff {a b : Ent} : ltE a b = true ↔ (a.1 < b.1 ∨ (a.1 = b.1 ∧ a.2 < b.2)) := by simp [ltE]
theorem ltE_ne {a b : Ent} (h : ltE a b = true) : a ≠ b := by
  rintro rfl
  rw [ltE_iff] at h
  omega
theorem asc_noadj : ∀ {es : List Ent}, Asc es → (∀ e ∈ es, okE e) → NoAdj (es.map codeN)
  | [], _, _ => trivial
  | [a], _, _ => trivial
  | a :: b :: r, h, k => by
    have h' := List.pairwise_cons.mp h
    refine ⟨fun e => ?_, asc_noadj h'.2 fun e he => k e (List.mem_cons_of_mem _ he)⟩
    exact ltE_ne (h'.1 b List.mem_cons_self) (codeN_inj (k a List.mem_cons_self) (k b (List.mem_cons_of_mem _ List.mem_cons_self)) e)
/-- the least of 0, 1, 2 that is none of these -/
def pickC (xs : List Nat) : Nat := if 0 ∉ xs then 0 else if 1 ∉ xs then 1 else 2
/-- neighbours, the one ahead as it is by now -/
def nbs (p : Option Nat) (r : List Nat) : List Nat := p.toList ++ r.head?.toList
def colR (high : Nat) : Option Nat → List Nat → List Nat
  | _, [] => []
  | p, x :: r => let y := if x = high then pickC (nbs p r) else x; y :: colR high (some y) r
def colM (l : List Nat) : List Nat := colR 5 none (colR 4 none (colR 3 none l))
theorem colR_len (h : Nat) : ∀ (l : List Nat) (p : Option Nat), (colR h p l).length = l.length
  | [], _ => rfl
  | x :: r, _ => congrArg Nat.succ (colR_len h r _)
theorem colM_len (l : List Nat) : (colM l).length = l.length := by simp [colM, colR_len]
def mkR (s : Nat) : Bool → List Nat → List Bool → List Bool
  | p, c :: cs, m :: ms => let y := m || (c == s && !(p || ms.headD false)); y :: mkR s y cs ms
  | _, _, _ => []
theorem mkR_len (s : Nat) : ∀ (cs : List Nat) (ms : List Bool) (p : Bool), cs.length = ms.length → (mkR s p cs ms).length = ms.length
  | [], [], _, _ => rfl
  | c :: cs, m :: ms, p, h => congrArg Nat.succ (mkR_len s cs ms _ (Nat.succ.inj h))
  | [], _ :: _, _, h => by cases h
  | _ :: _, [], _, h => by cases h
/-- the marks by the colours -/
def mkM : List Nat → List Bool
  | [] => []
  | _ :: cs => false :: mkR 0 false cs (mkR 1 false cs (mkR 2 false cs (List.replicate cs.length false)))
theorem mkM_len : ∀ l : List Nat, (mkM l).length = l.length
  | [] => rfl
  | _ :: cs => by
    have e1 : (mkR 2 false cs (List.replicate cs.length false)).length = cs.length := by rw [mkR_len _ _ _ _ (by simp)]; simp
    have e2 : (mkR 1 false cs (mkR 2 false cs (List.replicate cs.length false))).length = cs.length := by rw [mkR_len _ _ _ _ (by rw [e1])]; exact e1
    show Nat.succ _ = Nat.succ _
    rw [mkR_len _ _ _ _ (by rw [e2]), e2]
def marksM (es : List Ent) : List Bool := mkM (colM (labM es))
theorem marksM_len (es : List Ent) : (marksM es).length = es.length := by simp [marksM, mkM_len, colM_len, labM_len]
def keepB : List Ent → List Bool → List Ent
  | e :: es, b :: bs => if b then e :: keepB es bs else keepB es bs
  | _, _ => []
def handM (es : List Ent) : List Ent := keepB es (marksM es)
theorem keepB_sub : ∀ (es : List Ent) (bs : List Bool), (keepB es bs).Sublist es
  | [], _ => List.nil_sublist _
  | e :: es, [] => List.nil_sublist _
  | e :: es, b :: bs => by
    unfold keepB
    split
    · exact (keepB_sub es bs).cons₂ e
    · exact (keepB_sub es bs).cons e
theorem handM_sub (es : List Ent) : (handM es).Sublist es := keepB_sub es _
theorem handM_asc {es : List Ent} (h : Asc es) : Asc (handM es) := h.sublist (handM_sub es)
theorem handM_mem {es : List Ent} {e : Ent} (h : e ∈ handM es) : e ∈ es := (handM_sub es).mem h
/-- two rising lists as one -/
def mergeM : List Ent → List Ent → List Ent
  | [], o => o
  | e :: es, o => (o.takeWhile fun x => ltE x e) ++ e :: mergeM es (o.dropWhile fun x => ltE x e)
theorem mergeM_perm : ∀ (a b : List Ent), (mergeM a b).Perm (a ++ b)
  | [], b => List.Perm.refl _
  | e :: es, b => by
    unfold mergeM
    refine List.perm_middle.trans ?_
    rw [List.cons_append]
    refine List.Perm.cons e ?_
    have h1 : ((b.takeWhile fun x => ltE x e) ++ mergeM es (b.dropWhile fun x => ltE x e)).Perm ((b.takeWhile fun x => ltE x e) ++ (es ++ b.dropWhile fun x => ltE x e)) := (mergeM_perm es _).append_left _
    refine h1.trans ?_
    have h2 : ((b.takeWhile fun x => ltE x e) ++ (es ++ b.dropWhile fun x => ltE x e)).Perm (es ++ ((b.takeWhile fun x => ltE x e) ++ b.dropWhile fun x => ltE x e)) := by
      rw [← List.append_assoc, ← List.append_assoc]
      exact List.perm_append_comm.append_right _
    refine h2.trans ?_
    rw [List.takeWhile_append_dropWhile]
theorem ltE_trans {a b c : Ent} (h1 : ltE a b = true) (h2 : ltE b c = true) : ltE a c = true := by
  rw [ltE_iff] at *
  omega
theorem ltE_tri {a b : Ent} (h : a ≠ b) : ltE a b = true ∨ ltE b a = true := by
  rw [ltE_iff, ltE_iff]
  have : a.1 ≠ b.1 ∨ a.2 ≠ b.2 := by
    by_cases h1 : a.1 = b.1
    · exact .inr fun h2 => h (Prod.ext h1 h2)
    · exact .inl h1
  omega
theorem takeWhile_mem {p : Ent → Bool} : ∀ {l : List Ent} {x : Ent}, x ∈ l.takeWhile p → p x = true ∧ x ∈ l
  | [], x, h => by cases h
  | a :: l, x, h => by
    rw [List.takeWhile_cons] at h
    split at h
    · rename_i ha
      rcases List.mem_cons.mp h with rfl | h
      · exact ⟨ha, List.mem_cons_self⟩
      · exact ⟨(takeWhile_mem h).1, List.mem_cons_of_mem _ (takeWhile_mem h).2⟩
    · cases h
theorem dropWhile_sub {p : Ent → Bool} (l : List Ent) : (l.dropWhile p).Sublist l := List.dropWhile_sublist p
/-- of a rising list what lies behind those below e is above e, where e isn't in it -/
theorem dropWhile_above {e : Ent} : ∀ {l : List Ent}, Asc l → e ∉ l → ∀ x ∈ l.dropWhile (fun x => ltE x e), ltE e x = true
  | [], _, _, x, h => by cases h
  | a :: l, ha, hn, x, h => by
    rw [List.dropWhile_cons] at h
    split at h
    · exact dropWhile_above (List.pairwise_cons.mp ha).2 (fun z => hn (List.mem_cons_of_mem _ z)) x h
    · rename_i hf
      have hae : ltE e a = true := by
        rcases ltE_tri (a := a) (b := e) (fun z => hn (by rw [z]; exact List.mem_cons_self)) with q | q
        · exact absurd q hf
        · exact q
      rcases List.mem_cons.mp h with rfl | h
      · exact hae
      · exact ltE_trans hae ((List.pairwise_cons.mp ha).1 x h)
theorem mergeM_asc : ∀ {a b : List Ent}, Asc a → Asc b → (∀ x ∈ a, x ∉ b) → Asc (mergeM a b)
  | [], b, _, hb, _ => hb
  | e :: es, b, ha, hb, hd => by
    have ha' := List.pairwise_cons.mp ha
    have hne : e ∉ b := hd e List.mem_cons_self
    have habove := dropWhile_above hb hne
    have ih : Asc (mergeM es (b.dropWhile fun x => ltE x e)) := mergeM_asc ha'.2 (hb.sublist (dropWhile_sub b)) fun x hx hx2 => hd x (List.mem_cons_of_mem _ hx) ((dropWhile_sub b).mem hx2)
    have hrest : ∀ x ∈ mergeM es (b.dropWhile fun x => ltE x e), ltE e x = true := fun x hx => by
      rcases List.mem_append.mp ((mergeM_perm _ _).mem_iff.mp hx) with h | h
      · exact ha'.1 x h
      · exact habove x h
    unfold mergeM
    refine List.pairwise_append.mpr ⟨hb.sublist (List.takeWhile_sublist _), List.pairwise_cons.mpr ⟨hrest, ih⟩, fun x hx y hy => ?_⟩
    have hxe := (takeWhile_mem hx).1
    rcases List.mem_cons.mp hy with rfl | hy
    · exact hxe
    · exact ltE_trans hxe (hrest y hy)
theorem asc_le {l : List Ent} (h : Asc l) : l.Pairwise fun a b => leE a b = true := h.imp fun {a b} h => by
  rw [ltE_iff] at h
  simp only [leE, decide_eq_true_eq]
  omega
theorem asc_of_nodup {l : List Ent} (h : l.Pairwise fun a b => leE a b = true) (hn : l.Nodup) : Asc l := by
  refine (h.and hn).imp fun {a b} ⟨h1, h2⟩ => ?_
  simp only [leE, decide_eq_true_eq] at h1
  rw [ltE_iff]
  have : a.1 ≠ b.1 ∨ a.2 ≠ b.2 := by
    by_cases q : a.1 = b.1
    · exact .inr fun z => h2 (Prod.ext q z)
    · exact .inl q
  omega
theorem asc_nodup {l : List Ent} (h : Asc l) : l.Nodup := h.imp fun h => ltE_ne h
theorem sortP_asc {l : List Ent} (hn : l.Nodup) : Asc (sortP l) := asc_of_nodup (sortG_srt totE l) ((sortG_perm leE l).nodup_iff.mpr hn)
theorem mergeM_sort {a b : List Ent} (ha : Asc a) (hb : Asc b) (hd : ∀ x ∈ a, x ∉ b) : mergeM a b = sortP (a ++ b) := sortG_unique totE (mergeM_perm a b) (asc_le (mergeM_asc ha hb hd))
/-- many rising lists as one -/
def joinM (ls : List (List Ent)) : List Ent := ls.foldl mergeM []
theorem joinM_sort : ∀ {ls : List (List Ent)}, (∀ l ∈ ls, Asc l) → ls.flatten.Nodup → joinM ls = sortP ls.flatten := by
  have key : ∀ (ls : List (List Ent)) (acc : List Ent), Asc acc → (∀ l ∈ ls, Asc l) → (acc ++ ls.flatten).Nodup → ls.foldl mergeM acc = sortP (acc ++ ls.flatten) := by
    intro ls
    induction ls with
    | nil => intro acc ha _ _; rw [List.flatten_nil, List.append_nil]; exact (sortG_id totE (asc_le ha)).symm
    | cons l ls ih =>
      intro acc ha hl hn
      rw [List.flatten_cons, ← List.append_assoc] at hn
      have hn2 := (List.nodup_append.mp hn).1
      have hd : ∀ x ∈ acc, x ∉ l := fun x hx hx2 => (List.nodup_append.mp hn2).2.2 x hx x hx2 rfl
      have hp := mergeM_perm acc l
      rw [List.foldl_cons, ih _ (mergeM_asc ha (hl l List.mem_cons_self) hd) (fun m hm => hl m (List.mem_cons_of_mem _ hm)) ((hp.append_right _).nodup_iff.mpr hn), List.flatten_cons, ← List.append_assoc]
      exact sortG_congr totE (hp.append_right _)
  intro ls h1 h2
  exact key ls [] List.Pairwise.nil h1 h2
end BM

/-! The program's functions of entries, labels and marks keep their promises (over data). -/
namespace BF
open PySem PySem.Spec PyProof.Rows L2 BM DL
local macro_rules | `(tactic| walk_at "dl") => `(tactic| simp only [rSeq, rSkip, rAsg, rDrop, rRet, rIf, rOp, rv, rc, rB, rCh, rAnd, rOr, rNot, rTru, rAndV, rOrV, rNotV, rNil, rCons, rLst, rTup, rCB, rUn, rSl, rNoP, rSoP, rCall, rMeth, rMake, rFld, rFset, rIt, rRng1, rRng2, rRng3, rRevR1, rEnum, rZip, rRev, rFor, rLC, rYes, stepC, rgName, rgTup, rBM, rBM0, rDGet, rDIn, rDGet2, rDPut, rDNew, rNever, rDisp3, rGhE, gSet, opAdd, opSub, opMul, opFdv, opMod, opPow, opShr, unNeg, opLt, opLe, opGt, opGe, opIx, slD, cLen, cAbs, cMin, cMax, cSum, cAny, cAll, cList, cTuple, cInt, cIsi, startD, endsQ, slot_0, slot_s, put_0, put_s, puts_nil, puts_cons, wipeD_nil, wipeD_cons, rs_non, rs_bl, rs_int, rs_str, rs_ty, rs_lst, rs_tup, rs_dk, rs_dt, rs_scr, itm_lst, itm_scr, seqD_lst, seqD_tup, seqD_scr, lenD_lst, lenD_tup, lenD_scr, lenD_dk, tyD_int, tyD_bl, tyD_non, tyD_str, tyD_lst, tyD_tup, tyD_dk, truD_bl, truD_int, truD_lst, isTy_lst, isTy_str, itD_lst, itD_tup, newL_f, newL_t, List.map_cons, List.map_nil, List.length_cons, List.length_nil, List.cons_append, List.nil_append, List.replicate, List.set_cons_zero, List.set_cons_succ])
local macro_rules | `(tactic| walk_at "dlh") => `(tactic| simp only [rSeq, rSkip, rAsg, rDrop, rRet, rIf, rOp, rv, rc, rB, rCh, rAnd, rOr, rNot, rTru, rAndV, rOrV, rNotV, rNil, rCons, rLst, rTup, rCB, rUn, rSl, rNoP, rSoP, rCall, rMeth, rMake, rFld, rFset, rIt, rRng1, rRng2, rRng3, rRevR1, rEnum, rZip, rRev, rFor, rLC, rYes, stepC, rgName, rgTup, rBM, rBM0, rDGet, rDIn, rDGet2, rDPut, rDNew, rNever, rDisp3, rGhE, gSet, opAdd, opSub, opMul, opFdv, opMod, opPow, opShr, unNeg, opLt, opLe, opGt, opGe, opIx, slD, cLen, cAbs, cMin, cMax, cSum, cAny, cAll, cList, cTuple, cInt, cIsi, startD, endsQ, slot_0, slot_s, put_0, put_s, puts_nil, puts_cons, wipeD_nil, wipeD_cons, rs_non, rs_bl, rs_int, rs_str, rs_ty, rs_lst, rs_tup, rs_dk, rs_dt, rs_scr, itm_lst, itm_scr, seqD_lst, seqD_tup, seqD_scr, lenD_lst, lenD_tup, lenD_scr, lenD_dk, tyD_int, tyD_bl, tyD_non, tyD_str, tyD_lst, tyD_tup, tyD_dk, truD_bl, truD_int, truD_lst, isTy_lst, isTy_str, itD_lst, itD_tup, newL_f, newL_t, List.map_cons, List.map_nil, List.length_cons, List.length_nil, List.cons_append, List.nil_append, List.replicate, List.set_cons_zero, List.set_cons_succ, *])
/-! ### lists by place -/
theorem at_nat {α : Type} {xs : List α} {n : Nat} {x : α} (h : xs[n]? = some x) : atI xs (n : Int) = some x := by
  have hl := (List.getElem?_eq_some_iff.mp h).1
  unfold atI ixN
  rw [if_pos (by omega), if_pos (by omega)]
  simpa using h
theorem at_int {α : Type} {xs : List α} {i : Int} {n : Nat} {x : α} (e : i = (n : Int)) (h : xs[n]? = some x) : atI xs i = some x := by rw [e]; exact at_nat h
theorem ixN_nat {n k : Nat} (h : k < n) : ixN n (k : Int) = some k := by
  unfold ixN
  rw [if_pos (by omega), if_pos (by omega)]
  simp
theorem sIx_of {n d : Nat} {i : Int} {k : Nat} (e : i = (k : Int)) : HT.sIx n d (some i) = min k n := by rw [e]; exact HT.sIx_nat n d k
theorem line_big : (1000000 : Nat) ≤ sizeLine := by rw [sizeLine_eq]; decide
theorem cut_nat {xs : List D} {i j : Int} {a b : Nat} (ea : i = (a : Int)) (eb : j = (b : Int)) : cutL xs (some i) (some j) = (xs.drop a).take (b - a) := by
  unfold cutL
  rw [sIx_of ea, sIx_of eb]
  by_cases h : a ≤ xs.length
  · have e1 : min a xs.length = a := by omega
    rw [e1]
    by_cases h2 : b ≤ xs.length
    · have e2 : min b xs.length = b := by omega
      rw [e2]
    · have e2 : min b xs.length = xs.length := by omega
      rw [e2, List.take_of_length_le (by simp), List.take_of_length_le (by simp; omega)]
  · rw [List.drop_eq_nil_of_le (by omega), List.drop_eq_nil_of_le (by omega)]
    simp
theorem cut_from {xs : List D} {i : Int} {a : Nat} (ea : i = (a : Int)) : cutL xs (some i) none = xs.drop a := by
  unfold cutL
  rw [sIx_of ea, HT.sIx_none]
  by_cases h : a ≤ xs.length
  · have e1 : min a xs.length = a := by omega
    rw [e1, List.take_of_length_le (by simp)]
  · rw [List.drop_eq_nil_of_le (by omega), List.drop_eq_nil_of_le (by omega)]
    simp
theorem cut_to {xs : List D} {j : Int} {b : Nat} (eb : j = (b : Int)) : cutL xs none (some j) = xs.take b := by
  unfold cutL
  rw [sIx_of eb, HT.sIx_none, List.drop_zero, Nat.sub_zero]
  by_cases h : b ≤ xs.length
  · have e1 : min b xs.length = b := by omega
    rw [e1]
  · have e1 : min b xs.length = xs.length := by omega
    rw [e1, List.take_of_length_le (Nat.le_refl _), List.take_of_length_le (by omega)]
/-! ### is_key -/
/-- slots: thing 0 -/
def rd_is_key : RSt :=
  (rRet (rAndV (rCB cIsi (rCons (rv 0) (rCons (rc (.ty "int")) rNil))) (rAndV (rNotV (rCB cIsi (rCons (rv 0) (rCons (rc (.ty "bool")) rNil)))) (rOp opLt (rCB cAbs (rCons (rv 0) rNil)) (rc (.int 1000000000000000000000000000000000000000000000000000000000000))))))
/-- whether a datum is a key -/
def keyB : D → Bool
  | .int i => decide (i < 10 ^ 60) && decide (-(10 ^ 60) < i)
  | _ => false
def plainD (μ : Mu) (d : D) : Prop := ∃ t, tyD μ d = some t
def asp_is_key : ASp := fun ds μ q => ∃ d, ds = [d] ∧ plainD μ d ∧ q (.bl (keyB d)) μ
theorem tyD_int_inv {μ : Mu} {d : D} (h : tyD μ d = some "int") : ∃ i, d = .int i := by
  unfold tyD at h
  cases h1 : rs μ d <;> rw [h1] at h <;> try (simp at h; done)
  case int i => exact ⟨i, rs_flat h1 rfl⟩
theorem tyD_bool_inv {μ : Mu} {d : D} (h : tyD μ d = some "bool") : ∃ i, d = .bl i := by
  unfold tyD at h
  cases h1 : rs μ d <;> rw [h1] at h <;> try (simp at h; done)
  case bl i => exact ⟨i, rs_flat h1 rfl⟩
theorem ok_is_key (K : PySem.W.Frag) (ds μ q) (h : asp_is_key ds μ q) : rd_is_key (endsQ K q) (startD 1 ds) μ := by
  obtain ⟨d, rfl, ⟨t, ht⟩, h⟩ := h
  unfold rd_is_key
  walk_at "dl"
  simp only [ht, okB, isaB]
  by_cases h1 : t = "int"
  · subst h1
    obtain ⟨i, rfl⟩ := tyD_int_inv ht
    simp
    refine out_same ?_
    have e : keyB (.int i) = decide ((if i < 0 then -i else i) < 1000000000000000000000000000000000000000000000000000000000000) := by
      show (decide (i < 10 ^ 60) && decide (-(10 ^ 60) < i)) = _
      have e2 : (10 : Int) ^ 60 = 1000000000000000000000000000000000000000000000000000000000000 := by decide +kernel
      rw [e2, ← Bool.decide_and, decide_eq_decide]
      split <;> omega
    rw [e] at h
    exact h
  · by_cases h2 : t = "bool"
    · subst h2
      obtain ⟨i, rfl⟩ := tyD_bool_inv ht
      simp
      exact out_same h
    · have e : keyB d = false := by
        cases d with
        | int i => rw [tyD_int] at ht; cases ht; exact absurd rfl h1
        | _ => rfl
      rw [e] at h
      have t1 : (t == "int") = false := by simpa using h1
      have t2 : (t == "bool") = false := by simpa using h2
      simp only [t1, t2, Bool.false_and, Bool.or_self]
      exact ⟨by decide, out_same h⟩
/-! ### code -/
/-- slots: entry 0 key 1 knot 2 -/
def rd_code : RSt :=
  (rSeq (rAsg (rv 0) (rgTup [1, 2]))
    (rSeq (rIf (rB (rOp opLt (rv 1) (rc (.int 0))))
    (rRet (rOp (opAdd false) (rOp (opMul false) (rc (.int 64)) (rOp opSub (rOp (opMul false) (rUn unNeg (rc (.int 2))) (rv 1)) (rc (.int 1)))) (rv 2)))
    rSkip)
    (rRet (rOp (opAdd false) (rOp (opMul false) (rOp (opMul false) (rc (.int 64)) (rc (.int 2))) (rv 1)) (rv 2)))))
def asp_code : ASp := fun ds μ q => ∃ e : Ent, ds = [encE e] ∧ q (.int (codeM e)) μ
theorem ok_code (K : PySem.W.Frag) (ds μ q) (h : asp_code ds μ q) : rd_code (endsQ K q) (startD 3 ds) μ := by
  obtain ⟨e, rfl, h⟩ := h
  unfold rd_code encE
  walk_at "dl"
  unfold codeM at h
  by_cases hk : e.1 < 0
  · rw [if_pos hk] at h
    simp only [hk, decide_true]
    exact ⟨trivial, cmul_l, cmul_l, out_same h⟩
  · rw [if_neg hk] at h
    simp only [hk, decide_false]
    exact ⟨trivial, cmul_l, cmul_l, out_same h⟩
/-! ### put_between, joined_up -/
/-- slots: one 0 other 1 found 2 at 3 entry 4 -/
def rd_put_between_L2 : RSt :=
  (rSeq (rDrop (rBM "list" mAppend (rv 2) (rCons (rOp opIx (rv 1) (rv 3)) rNil)))
    (rAsg (rOp (opAdd false) (rv 3) (rc (.int 1))) (rgName 3)))
def rd_put_between_L1 : RSt :=
  (rSeq (rWhile (rAnd (rB (rOp opLt (rv 3) (rCB cLen (rCons (rv 1) rNil)))) (rB (rOp opLt (rOp opIx (rv 1) (rv 3)) (rv 4))))
    (rd_put_between_L2))
    (rDrop (rBM "list" mAppend (rv 2) (rCons (rv 4) rNil))))
def rd_put_between : RSt :=
  (rSeq (rAsg (rLst true rNil) (rgName 2))
    (rSeq (rAsg (rc (.int 0)) (rgName 3))
    (rSeq (rFor (rIt (rv 0)) (rgName 4)
    (rd_put_between_L1))
    (rRet (rOp (opAdd false) (rv 2) (rSl false (rv 1) (rSoP (rv 3)) rNoP))))))
def encEs (es : List Ent) : D := .lst (es.map encE)
theorem intsE {e : Ent} : intsOf [.int e.1, .int e.2] = some [e.1, e.2] := rfl
theorem lexE {a b : Ent} : HT.lexLt [a.1, a.2] [b.1, b.2] = ltE a b := by
  show (if a.1 = b.1 then (if a.2 = b.2 then false else decide (a.2 < b.2)) else decide (a.1 < b.1)) = _
  unfold ltE
  by_cases h1 : a.1 = b.1
  · by_cases h2 : a.2 = b.2
    · rw [if_pos h1, if_pos h2]; symm; apply decide_eq_false; omega
    · rw [if_pos h1, if_neg h2, decide_eq_decide]; omega
  · rw [if_neg h1, decide_eq_decide]; omega
def asp_put_between : ASp := fun ds μ q => ∃ a b : List Ent, ds = [encEs a, encEs b] ∧ a.length + b.length ≤ 1000000 ∧ q (encEs (mergeM a b)) μ
theorem mergeM_len (a b : List Ent) : (mergeM a b).length = a.length + b.length := by rw [(mergeM_perm a b).length_eq, List.length_append]
theorem ok_put_between (K : PySem.W.Frag) (ds μ q) (h : asp_put_between ds μ q) : rd_put_between (endsQ K q) (startD 5 ds) μ := by
  obtain ⟨a, b, rfl, hl, h⟩ := h
  have hs := line_big
  unfold rd_put_between encEs
  walk_at "dl"
  refine ⟨by simp, fun p hp => ?_⟩
  refine for_map encE (fun rest ρ μ' => ∃ (fs : List Ent) (k : Nat) (x : Option D), ρ = [some (encEs a), some (encEs b), some (.ob p), some (.int (k : Int)), x] ∧ μ' = upm μ p (.lst (fs.map encE)) ∧ k ≤ b.length ∧ fs.length + rest.length + (b.length - k) = a.length + b.length ∧ fs ++ mergeM rest (b.drop k) = mergeM a b) ?_ ?_ (xs := a) ⟨[], 0, none, rfl, rfl, Nat.zero_le _, by simp, by simp⟩
  · rintro e rest ρ μ' ⟨fs, k, x, rfl, rfl, hk, hlen, hm⟩ nxt hnxt
    unfold rd_put_between_L1
    walk_at "dl"
    refine ⟨trivial, ?_⟩
    unfold rWhile
    refine ⟨fun m ρ μ' => ∃ (fs' : List Ent) (k' : Nat), ρ = [some (encEs a), some (encEs b), some (.ob p), some (.int (k' : Int)), some (encE e)] ∧ μ' = upm μ p (.lst (fs'.map encE)) ∧ k' ≤ b.length ∧ fs'.length + rest.length + 1 + (b.length - k') = a.length + b.length ∧ fs' ++ mergeM (e :: rest) (b.drop k') = mergeM a b ∧ m = b.length - k',
      ⟨b.length - k, fs, k, rfl, rfl, hk, by rw [List.length_cons] at hlen; omega, hm, rfl⟩, ?_⟩
    rintro m ρ μ' ⟨fs', k', rfl, rfl, hk', hlen', hm', rfl⟩
    unfold encEs encE
    unfold rd_put_between_L2
    walk_at "dl"
    rw [List.length_map]
    by_cases hkb : (k' : Int) < (b.length : Int)
    · have hkn : k' < b.length := by omega
      have hget : (b.map fun e => D.tup [D.int e.1, D.int e.2])[k']? = some (D.tup [D.int b[k'].1, D.int b[k'].2]) := by rw [List.getElem?_map, List.getElem?_eq_getElem hkn]; rfl
      have hdrop := List.drop_eq_getElem_cons hkn
      simp only [hkb, decide_true]
      simp only [at_nat hget, rs_tup, intsE, lexE]
      by_cases hlt : ltE b[k'] e = true
      · simp only [hlt, isTy_at upm_same, mAppend_at upm_same, upm_upm]
        refine ⟨by decide, by rw [List.length_map]; omega, b.length - (k' + 1), by omega, fs' ++ [b[k']], k' + 1, rfl, ?_, by omega, ?_, ?_, rfl⟩
        · rw [List.map_append]; rfl
        · rw [List.length_append, List.length_singleton]; omega
        · rw [← hm']
          rw [hdrop]
          show _ = fs' ++ ((List.takeWhile _ (b[k'] :: _)) ++ e :: mergeM rest (List.dropWhile _ (b[k'] :: _)))
          rw [List.takeWhile_cons, List.dropWhile_cons, if_pos hlt, if_pos hlt, List.append_assoc]
          rfl
      · have hlt' : ltE b[k'] e = false := by simpa using hlt
        simp only [hlt', isTy_at upm_same, mAppend_at upm_same, upm_upm]
        refine ⟨by decide, by rw [List.length_map]; omega, hnxt _ _ ⟨fs' ++ [e], k', _, rfl, by rw [List.map_append]; rfl, hk', by rw [List.length_append, List.length_singleton]; omega, ?_⟩⟩
        rw [← hm', hdrop]
        show _ = fs' ++ ((List.takeWhile _ (b[k'] :: _)) ++ e :: mergeM rest (List.dropWhile _ (b[k'] :: _)))
        rw [List.takeWhile_cons, List.dropWhile_cons, if_neg hlt, if_neg hlt, List.append_assoc]
        rfl
    · have hkn : k' = b.length := by omega
      simp only [hkb, decide_false]
      simp only [isTy_at upm_same, mAppend_at upm_same, upm_upm]
      refine ⟨by decide, by rw [List.length_map]; omega, hnxt _ _ ⟨fs' ++ [e], k', _, rfl, by rw [List.map_append]; rfl, hk', by rw [List.length_append, List.length_singleton]; omega, ?_⟩⟩
      rw [← hm', hkn, List.drop_length]
      show _ = fs' ++ (([] : List Ent) ++ e :: mergeM rest [])
      rw [List.append_assoc]
      rfl
  · rintro ρ μ' ⟨fs, k, x, rfl, rfl, hk, hlen, hm⟩
    unfold encEs
    walk_at "dl"
    simp only [rs_at upm_same, cut_from rfl]
    refine ⟨trivial, ?_, ?_⟩
    · rw [List.length_map, List.length_drop, List.length_map]; simp at hlen; omega
    · refine out_less (less_upm hp) ?_
      have e : fs.map encE ++ (b.map encE).drop k = (mergeM a b).map encE := by
        rw [← hm, ← List.map_drop, ← List.map_append]; rfl
      rw [e]
      exact h
end BF

namespace BF
open PySem PySem.Spec PyProof.Rows L2 BM DL
local macro_rules | `(tactic| walk_at "dl") => `(tactic| simp only [rSeq, rSkip, rAsg, rDrop, rRet, rIf, rOp, rv, rc, rB, rCh, rAnd, rOr, rNot, rTru, rAndV, rOrV, rNotV, rNil, rCons, rLst, rTup, rCB, rUn, rSl, rNoP, rSoP, rCall, rMeth, rMake, rFld, rFset, rIt, rRng1, rRng2, rRng3, rRevR1, rEnum, rZip, rRev, rFor, rLC, rYes, stepC, rgName, rgTup, rBM, rBM0, rDGet, rDIn, rDGet2, rDPut, rDNew, rNever, rDisp3, rGhE, gSet, opAdd, opSub, opMul, opFdv, opMod, opPow, opShr, unNeg, opLt, opLe, opGt, opGe, opIx, slD, cLen, cAbs, cMin, cMax, cSum, cAny, cAll, cList, cTuple, cInt, cIsi, startD, endsQ, slot_0, slot_s, put_0, put_s, puts_nil, puts_cons, wipeD_nil, wipeD_cons, rs_non, rs_bl, rs_int, rs_str, rs_ty, rs_lst, rs_tup, rs_dk, rs_dt, rs_scr, itm_lst, itm_scr, seqD_lst, seqD_tup, seqD_scr, lenD_lst, lenD_tup, lenD_scr, lenD_dk, tyD_int, tyD_bl, tyD_non, tyD_str, tyD_lst, tyD_tup, tyD_dk, truD_bl, truD_int, truD_lst, isTy_lst, isTy_str, itD_lst, itD_tup, newL_f, newL_t, List.map_cons, List.map_nil, List.length_cons, List.length_nil, List.cons_append, List.nil_append, List.replicate, List.set_cons_zero, List.set_cons_succ])
local macro_rules | `(tactic| walk_at "dlh") => `(tactic| simp only [rSeq, rSkip, rAsg, rDrop, rRet, rIf, rOp, rv, rc, rB, rCh, rAnd, rOr, rNot, rTru, rAndV, rOrV, rNotV, rNil, rCons, rLst, rTup, rCB, rUn, rSl, rNoP, rSoP, rCall, rMeth, rMake, rFld, rFset, rIt, rRng1, rRng2, rRng3, rRevR1, rEnum, rZip, rRev, rFor, rLC, rYes, stepC, rgName, rgTup, rBM, rBM0, rDGet, rDIn, rDGet2, rDPut, rDNew, rNever, rDisp3, rGhE, gSet, opAdd, opSub, opMul, opFdv, opMod, opPow, opShr, unNeg, opLt, opLe, opGt, opGe, opIx, slD, cLen, cAbs, cMin, cMax, cSum, cAny, cAll, cList, cTuple, cInt, cIsi, startD, endsQ, slot_0, slot_s, put_0, put_s, puts_nil, puts_cons, wipeD_nil, wipeD_cons, rs_non, rs_bl, rs_int, rs_str, rs_ty, rs_lst, rs_tup, rs_dk, rs_dt, rs_scr, itm_lst, itm_scr, seqD_lst, seqD_tup, seqD_scr, lenD_lst, lenD_tup, lenD_scr, lenD_dk, tyD_int, tyD_bl, tyD_non, tyD_str, tyD_lst, tyD_tup, tyD_dk, truD_bl, truD_int, truD_lst, isTy_lst, isTy_str, itD_lst, itD_tup, newL_f, newL_t, List.map_cons, List.map_nil, List.length_cons, List.length_nil, List.cons_append, List.nil_append, List.replicate, List.set_cons_zero, List.set_cons_succ, *])
/-- slots: lists 0 found 1 entries 2 -/
def rd_joined_up_L1 : RSt :=
  (rAsg (rCall (asp_put_between) (rCons (rv 1) (rCons (rCB (cList false) (rCons (rv 2) rNil)) rNil))) (rgName 1))
def rd_joined_up : RSt :=
  (rSeq (rAsg (rLst false rNil) (rgName 1))
    (rSeq (rFor (rIt (rv 0)) (rgName 2)
    (rd_joined_up_L1))
    (rRet (rv 1))))
/-- a list of lists of entries: lists, perhaps of one's own kind -/
def asp_joined_up : ASp := fun ds μ q => ∃ ls : List (List Ent), ds = [.lst (ls.map encEs)] ∧ ls.flatten.length ≤ 1000000 ∧ q (encEs (joinM ls)) μ
theorem ok_joined_up (K : PySem.W.Frag) (ds μ q) (h : asp_joined_up ds μ q) : rd_joined_up (endsQ K q) (startD 3 ds) μ := by
  obtain ⟨ls, rfl, hl, h⟩ := h
  unfold rd_joined_up
  walk_at "dl"
  refine ⟨by simp, ?_⟩
  refine for_map encEs (fun rest ρ μ' => ∃ (acc : List Ent) (x : Option D), ρ = [some (.lst (ls.map encEs)), some (encEs acc), x] ∧ μ' = μ ∧ acc.length + rest.flatten.length = ls.flatten.length ∧ rest.foldl mergeM acc = joinM ls) ?_ ?_ (xs := ls) ⟨[], none, rfl, rfl, by simp, rfl⟩
  · rintro e rest ρ μ' ⟨acc, x, rfl, rfl, hlen, hm⟩ k hk
    unfold rd_joined_up_L1
    walk_at "dl"
    refine ⟨trivial, ?_⟩
    unfold encEs
    simp only [seqD_lst]
    rw [List.flatten_cons, List.length_append] at hlen
    exact ⟨acc, e, rfl, by omega, hk _ _ ⟨mergeM acc e, _, rfl, rfl, by rw [mergeM_len]; omega, hm⟩⟩
  · rintro ρ μ' ⟨acc, x, rfl, rfl, hlen, hm⟩
    walk_at "dl"
    refine ⟨trivial, out_same ?_⟩
    rw [List.foldl_nil] at hm
    rw [hm]; exact h
/-- slots: one 0 other 1 at 2 -/
def rd_lowest_unlike_L1 : RSt :=
  (rSeq (rAsg (rOp opFdv (rv 0) (rc (.int 2))) (rgName 0))
    (rSeq (rAsg (rOp opFdv (rv 1) (rc (.int 2))) (rgName 1))
    (rAsg (rOp (opAdd false) (rv 2) (rc (.int 1))) (rgName 2))))
def rd_lowest_unlike : RSt :=
  (rSeq (rAsg (rc (.int 0)) (rgName 2))
    (rSeq (rWhile (rB (rOp opEq (rOp opMod (rv 0) (rc (.int 2))) (rOp opMod (rv 1) (rc (.int 2)))))
    (rd_lowest_unlike_L1))
    (rRet (rv 2))))
def asp_lowest_unlike : ASp := fun ds μ q => ∃ a b : Nat, ds = [.int a, .int b] ∧ a ≠ b ∧ q (.int (lowB a b : Nat)) μ
theorem ok_lowest_unlike (K : PySem.W.Frag) (ds μ q) (h : asp_lowest_unlike ds μ q) : rd_lowest_unlike (endsQ K q) (startD 3 ds) μ := by
  obtain ⟨a, b, rfl, hne, h⟩ := h
  unfold rd_lowest_unlike
  walk_at "dl"
  unfold rWhile
  refine ⟨fun m ρ μ' => ∃ a' b' k : Nat, ρ = [some (.int a'), some (.int b'), some (.int k)] ∧ μ' = μ ∧ a' ≠ b' ∧ k + lowB a' b' = lowB a b ∧ m = a' + b', ⟨a + b, a, b, 0, rfl, rfl, hne, by omega, rfl⟩, ?_⟩
  rintro m ρ μ' ⟨a', b', k, rfl, rfl, hn, hk, rfl⟩
  unfold rd_lowest_unlike_L1
  walk_at "dl"
  refine ⟨by decide, by decide, ?_⟩
  unfold opEq
  simp only [rs_int, shp_int, eqD_int]
  refine ⟨trivial, trivial, ?_⟩
  by_cases h1 : (a' : Int) % 2 = (b' : Int) % 2
  · have h2 : a' % 2 = b' % 2 := by omega
    simp only [h1, decide_true]
    refine ⟨cdiv_of, cdiv_of, a' / 2 + b' / 2, by omega, a' / 2, b' / 2, k + 1, by rfl, by trivial, half_ne h2 hn, ?_, rfl⟩
    rw [lowB_succ h2 hn] at hk; omega
  · have h2 : a' % 2 ≠ b' % 2 := by omega
    simp only [h1, decide_false]
    rw [lowB_zero h2, Nat.add_zero] at hk
    subst hk
    exact out_same h
/-- slots: numbers 0 found 1 k 2 number 3 at 4 -/
def rd_turned_L1 : RSt :=
  (rIf (rB (rOp opEq (rv 2) (rc (.int 0))))
    (rDrop (rBM "list" mAppend (rv 1) (rCons (rOp opMod (rv 3) (rc (.int 2))) rNil)))
    (rSeq (rAsg (rCall (asp_lowest_unlike) (rCons (rv 3) (rCons (rOp opIx (rv 0) (rOp opSub (rv 2) (rc (.int 1)))) rNil))) (rgName 4))
    (rDrop (rBM "list" mAppend (rv 1) (rCons (rOp (opAdd false) (rOp (opMul false) (rc (.int 2)) (rv 4)) (rOp opMod (rOp opShr (rv 3) (rv 4)) (rc (.int 2)))) rNil)))))
def rd_turned : RSt :=
  (rSeq (rAsg (rLst true rNil) (rgName 1))
    (rSeq (rFor (rEnum (rCons (rv 0) rNil)) (rgTup [2, 3])
    (rd_turned_L1))
    (rRet (rv 1))))
def encNs (ns : List Nat) : D := .lst (ns.map fun n : Nat => D.int (n : Int))
def asp_turned : ASp := fun ds μ q => ∃ ns : List Nat, ds = [encNs ns] ∧ NoAdj ns ∧ ns.length ≤ 1000000 ∧ q (encNs (turnM ns)) μ
theorem ok_turned (K : PySem.W.Frag) (ds μ q) (h : asp_turned ds μ q) : rd_turned (endsQ K q) (startD 5 ds) μ := by
  obtain ⟨ns, rfl, hna, hl, h⟩ := h
  have hs := line_big
  unfold rd_turned encNs
  walk_at "dl"
  refine ⟨by simp, fun p hp => ?_⟩
  refine for_enu (fun n : Nat => D.int (n : Int)) (fun i rest ρ μ' => ∃ (done : List Nat) (x y z : Option D), ρ = [some (encNs ns), some (.ob p), x, y, z] ∧ ns = done ++ rest ∧ i = done.length ∧ ∃ fs : List Nat, μ' = upm μ p (.lst (fs.map fun n : Nat => D.int (n : Int))) ∧ fs.length = i ∧ (match done.getLast? with | none => fs = [] ∧ rest = ns | some l => fs ++ turnR l rest = turnM ns)) ?_ ?_ (xs := ns) ⟨[], none, none, none, rfl, rfl, rfl, [], rfl, rfl, rfl, rfl⟩
  · rintro i n rest ρ μ' ⟨done, x, y, z, rfl, hns, rfl, fs, rfl, hfl, hf⟩ k hk
    unfold encNs
    unfold rd_turned_L1
    walk_at "dl"
    refine ⟨by simp [stays], by trivial, ?_⟩
    unfold opEq
    simp only [rs_int, shp_int, eqD_int]
    refine ⟨trivial, trivial, ?_⟩
    have hlen := congrArg List.length hns
    rw [List.length_append, List.length_cons] at hlen
    cases hd : done.getLast? with
    | none =>
      have hd0 : done = [] := by simpa using hd
      subst hd0
      rw [hd] at hf
      obtain ⟨rfl, _⟩ := hf
      simp only [List.length_nil, Int.natCast_zero, decide_true, isTy_at upm_same, mAppend_at upm_same, upm_upm]
      refine ⟨by decide, by decide, by rw [sizeLine_eq]; decide, hk _ _ ⟨[n], _, _, _, rfl, hns, rfl, [n % 2], rfl, rfl, ?_⟩⟩
      rw [show ns = n :: rest from hns]
      rfl
    | some l =>
      rw [hd] at hf
      obtain ⟨init, rfl⟩ : ∃ init, done = init ++ [l] := by
        refine ⟨done.dropLast, ?_⟩
        have hne : done ≠ [] := by intro e; subst e; cases hd
        have e2 := List.dropLast_concat_getLast hne
        rw [List.getLast?_eq_some_getLast hne] at hd
        rw [← Option.some.inj hd]
        exact e2.symm
      have hi : ((init ++ [l]).length : Int) ≠ 0 := by simp; omega
      have hget : (ns.map fun n : Nat => D.int (n : Int))[init.length]? = some (.int (l : Int)) := by
        rw [List.getElem?_map, hns, List.append_assoc, List.getElem?_append_right (Nat.le_refl _), Nat.sub_self]; rfl
      have hidx : ((init ++ [l]).length : Int) - 1 = (init.length : Int) := by simp
      simp only [hi, decide_false, at_int hidx hget]
      have hne : n ≠ l := by
        have : NoAdj (l :: n :: rest) := by
          have gen : ∀ (a : List Nat), NoAdj (a ++ l :: n :: rest) → NoAdj (l :: n :: rest) := by
            intro a
            induction a with
            | nil => exact fun z => z
            | cons b a ih => exact fun z => ih z.tail
          refine gen init ?_
          rw [hns, List.append_assoc] at hna
          exact hna
        exact Ne.symm this.1
      refine ⟨n, l, rfl, hne, ?_⟩
      simp only [isTy_at upm_same, mAppend_at upm_same, upm_upm]
      refine ⟨by decide, cmul_l, by omega, by decide, by rw [List.length_map]; omega, hk _ _ ⟨init ++ [l] ++ [n], _, _, _, rfl, by rw [hns]; simp, by simp, fs ++ [turn1 n l |> fun _ => turn1 l n], ?_, by simp [hfl], ?_⟩⟩
      · rw [List.map_append]
        congr 3
      · rw [List.getLast?_append]
        show fs ++ [turn1 l n] ++ turnR n rest = turnM ns
        rw [List.append_assoc]
        exact hf
  · rintro i ρ μ' ⟨done, x, y, z, rfl, hns, rfl, fs, rfl, hfl, hf⟩
    walk_at "dl"
    refine ⟨by simp [stays, encNs, itm], out_new hp ?_⟩
    rw [List.append_nil] at hns
    subst hns
    have e : fs = turnM ns := by
      cases hd : ns.getLast? with
      | none =>
        rw [hd] at hf
        have : ns = [] := by simpa using hd
        rw [hf.1, this]; rfl
      | some l => rw [hd] at hf; simpa [turnR] using hf
    rw [← e] at h
    exact h
end BF

namespace BF
open PySem PySem.Spec PyProof.Rows L2 BM DL
local macro_rules | `(tactic| walk_at "dl") => `(tactic| simp only [rSeq, rSkip, rAsg, rDrop, rRet, rIf, rOp, rv, rc, rB, rCh, rAnd, rOr, rNot, rTru, rAndV, rOrV, rNotV, rNil, rCons, rLst, rTup, rCB, rUn, rSl, rNoP, rSoP, rCall, rMeth, rMake, rFld, rFset, rIt, rRng1, rRng2, rRng3, rRevR1, rEnum, rZip, rRev, rFor, rLC, rYes, stepC, rgName, rgTup, rBM, rBM0, rDGet, rDIn, rDGet2, rDPut, rDNew, rNever, rDisp3, rGhE, gSet, opAdd, opSub, opMul, opFdv, opMod, opPow, opShr, unNeg, opLt, opLe, opGt, opGe, opIx, slD, cLen, cAbs, cMin, cMax, cSum, cAny, cAll, cList, cTuple, cInt, cIsi, startD, endsQ, slot_0, slot_s, put_0, put_s, puts_nil, puts_cons, wipeD_nil, wipeD_cons, rs_non, rs_bl, rs_int, rs_str, rs_ty, rs_lst, rs_tup, rs_dk, rs_dt, rs_scr, itm_lst, itm_scr, seqD_lst, seqD_tup, seqD_scr, lenD_lst, lenD_tup, lenD_scr, lenD_dk, tyD_int, tyD_bl, tyD_non, tyD_str, tyD_lst, tyD_tup, tyD_dk, truD_bl, truD_int, truD_lst, isTy_lst, isTy_str, itD_lst, itD_tup, newL_f, newL_t, List.map_cons, List.map_nil, List.length_cons, List.length_nil, List.cons_append, List.nil_append, List.replicate, List.set_cons_zero, List.set_cons_succ])
local macro_rules | `(tactic| walk_at "dlh") => `(tactic| simp only [rSeq, rSkip, rAsg, rDrop, rRet, rIf, rOp, rv, rc, rB, rCh, rAnd, rOr, rNot, rTru, rAndV, rOrV, rNotV, rNil, rCons, rLst, rTup, rCB, rUn, rSl, rNoP, rSoP, rCall, rMeth, rMake, rFld, rFset, rIt, rRng1, rRng2, rRng3, rRevR1, rEnum, rZip, rRev, rFor, rLC, rYes, stepC, rgName, rgTup, rBM, rBM0, rDGet, rDIn, rDGet2, rDPut, rDNew, rNever, rDisp3, rGhE, gSet, opAdd, opSub, opMul, opFdv, opMod, opPow, opShr, unNeg, opLt, opLe, opGt, opGe, opIx, slD, cLen, cAbs, cMin, cMax, cSum, cAny, cAll, cList, cTuple, cInt, cIsi, startD, endsQ, slot_0, slot_s, put_0, put_s, puts_nil, puts_cons, wipeD_nil, wipeD_cons, rs_non, rs_bl, rs_int, rs_str, rs_ty, rs_lst, rs_tup, rs_dk, rs_dt, rs_scr, itm_lst, itm_scr, seqD_lst, seqD_tup, seqD_scr, lenD_lst, lenD_tup, lenD_scr, lenD_dk, tyD_int, tyD_bl, tyD_non, tyD_str, tyD_lst, tyD_tup, tyD_dk, truD_bl, truD_int, truD_lst, isTy_lst, isTy_str, itD_lst, itD_tup, newL_f, newL_t, List.map_cons, List.map_nil, List.length_cons, List.length_nil, List.cons_append, List.nil_append, List.replicate, List.set_cons_zero, List.set_cons_succ, *])
/-- a full row: rising entries of right knots -/
structure RowE (es : List Ent) : Prop where
  asc : Asc es
  ok : ∀ e ∈ es, okE e
theorem RowE.noadj {es : List Ent} (r : RowE es) : NoAdj (es.map codeN) := asc_noadj r.asc r.ok
/-- slots: entries 0 numbers 1 entry 2 k 3 -/
def rd_labels_L1 : RSt :=
  (rAsg (rCall (asp_turned) (rCons (rv 1) rNil)) (rgName 1))
def rd_labels : RSt :=
  (rSeq (rAsg (rLC false (rIt (rv 0)) (rgName 2) rYes (rCall (asp_code) (rCons (rv 2) rNil)) [2]) (rgName 1))
    (rSeq (rFor (rRng1 (rCons (rc (.int 5)) rNil)) (rgName 3)
    (rd_labels_L1))
    (rRet (rv 1))))
def asp_labels : ASp := fun ds μ q => ∃ es : List Ent, ds = [encEs es] ∧ RowE es ∧ es.length ≤ 1000000 ∧ q (encNs (labM es)) μ
def itTurn : Nat → List Nat → List Nat
  | 0, l => l
  | k + 1, l => itTurn k (turnM l)
theorem itTurn_ok : ∀ (k : Nat) {l : List Nat}, NoAdj l → NoAdj (itTurn k l) ∧ (itTurn k l).length = l.length
  | 0, l, h => ⟨h, rfl⟩
  | k + 1, l, h => by
    have := itTurn_ok k (turnM_noadj h)
    exact ⟨this.1, by show (itTurn k (turnM l)).length = _; rw [this.2, turnM_len]⟩
theorem itTurn_s : ∀ (k : Nat) (l : List Nat), itTurn (k + 1) l = turnM (itTurn k l)
  | 0, l => rfl
  | k + 1, l => itTurn_s k (turnM l)
theorem ok_labels (K : PySem.W.Frag) (ds μ q) (h : asp_labels ds μ q) : rd_labels (endsQ K q) (startD 4 ds) μ := by
  obtain ⟨es, rfl, hr, hl, h⟩ := h
  have hs := line_big
  have hna := hr.noadj
  unfold rd_labels encEs
  walk_at "dl"
  intro p hp
  refine lc_map encE (fun e => .int (codeN e : Nat)) hp (fun _ => trivial) (by omega) (fun e he acc k hk => ?_) ?_
  · walk_at "dl"
    exact ⟨e, rfl, by rw [codeM_nat (hr.ok e he)]; exact hk⟩
  · walk_at "dl"
    refine ⟨by decide, for_rng (lo := 0) (n := 5) (fun i ρ μ' => ∃ x : Option D, ρ = [some (encEs es), some (encNs (itTurn i (es.map codeN))), none, x] ∧ μ' = μ) ?_ ?_ ⟨none, ?_, rfl⟩⟩
    · rintro i ρ μ' hi ⟨x, rfl, rfl⟩ k hk
      unfold rd_labels_L1
      walk_at "dl"
      obtain ⟨h1, h2⟩ := itTurn_ok i hna
      exact ⟨trivial, _, rfl, h1, by rw [h2, List.length_map]; exact hl, hk _ _ ⟨_, by rw [itTurn_s], rfl⟩⟩
    · rintro ρ μ' ⟨x, rfl, rfl⟩
      walk_at "dl"
      exact ⟨trivial, out_same h⟩
    · rw [encNs, itTurn, List.map_map]; rfl
/-- slots: things 0 at 1 -/
def rd_neighbours_of : RSt :=
  (rRet (rOp (opAdd false) (rSl false (rv 0) (rSoP (rCB cMax (rCons (rc (.int 0)) (rCons (rOp opSub (rv 1) (rc (.int 1))) rNil)))) (rSoP (rv 1))) (rSl false (rv 0) (rSoP (rOp (opAdd false) (rv 1) (rc (.int 1)))) (rSoP (rOp (opAdd false) (rv 1) (rc (.int 2)))))))
def nbD {α : Type} (xs : List α) (i : Nat) : List α := (xs.drop (i - 1)).take (i - (i - 1)) ++ (xs.drop (i + 1)).take 1
def asp_neighbours_of : ASp := fun ds μ q => ∃ (d : D) (xs : List D) (i : Nat), ds = [d, .int i] ∧ rs μ d = .lst xs ∧ q (.lst (nbD xs i)) μ
theorem nbD_len {α : Type} (xs : List α) (i : Nat) : (nbD xs i).length ≤ 2 := by
  unfold nbD
  rw [List.length_append, List.length_take, List.length_take]
  omega
theorem ok_neighbours_of (K : PySem.W.Frag) (ds μ q) (h : asp_neighbours_of ds μ q) : rd_neighbours_of (endsQ K q) (startD 2 ds) μ := by
  obtain ⟨d, xs, i, rfl, hd, h⟩ := h
  have hs := line_big
  unfold rd_neighbours_of
  walk_at "dl"
  simp only [hd, newL_f, rs_lst]
  have e1 : cutL xs (some (if (i : Int) - 1 > 0 then (i : Int) - 1 else 0)) (some (i : Int)) = (xs.drop (i - 1)).take (i - (i - 1)) := cut_nat (by split <;> omega) rfl
  have e2 : cutL xs (some ((i : Int) + 1)) (some ((i : Int) + 2)) = (xs.drop (i + 1)).take 1 := by
    rw [cut_nat (a := i + 1) (b := i + 2) (by omega) (by omega)]
    congr 1
    omega
  rw [e1, e2]
  refine ⟨?_, out_same h⟩
  rw [List.length_take, List.length_take]
  omega
theorem nbD_map {α β : Type} (f : α → β) (xs : List α) (i : Nat) : nbD (xs.map f) i = (nbD xs i).map f := by
  unfold nbD
  rw [List.map_append, List.map_take, List.map_drop, List.map_take, List.map_drop]
/-- the neighbours where a list is parted -/
theorem nbD_at {α : Type} (done rest : List α) (x : α) : nbD (done ++ x :: rest) done.length = done.getLast?.toList ++ rest.head?.toList := by
  unfold nbD
  have e2 : (done ++ x :: rest).drop (done.length + 1) = rest := by
    rw [List.drop_append]
    simp
  rw [e2]
  have e3 : rest.take 1 = rest.head?.toList := by cases rest <;> rfl
  rw [e3]
  congr 1
  rcases List.eq_nil_or_concat done with rfl | ⟨init, l, rfl⟩
  · rfl
  · rw [List.concat_eq_append]
    have : (init ++ [l]).length - 1 = init.length := by simp
    rw [this]
    have e4 : (init ++ [l] ++ x :: rest).drop init.length = l :: x :: rest := by
      rw [List.append_assoc, List.drop_left]; rfl
    rw [e4]
    have e5 : (init ++ [l]).length - init.length = 1 := by simp
    rw [e5]
    simp
/-- slots: numbers 0 found 1 high 2 at 3 near_ones 4 colour 5 -/
def rd_colours_L2 : RSt :=
  (rIf (rB (rOp opEq (rOp opIx (rv 1) (rv 3)) (rv 2)))
    (rSeq (rAsg (rCall (asp_neighbours_of) (rCons (rv 1) (rCons (rv 3) rNil))) (rgName 4))
    (rAsg (rCB cMin (rCons (rLC false (rRng1 (rCons (rc (.int 3)) rNil)) (rgName 5) (rB (rOp (opIn true) (rv 5) (rv 4))) (rv 5) [5]) rNil)) (gSet (rv 1) (rv 3))))
    rSkip)
def rd_colours_L1 : RSt :=
  (rFor (rRng1 (rCons (rCB cLen (rCons (rv 1) rNil)) rNil)) (rgName 3)
    (rd_colours_L2))
def rd_colours : RSt :=
  (rSeq (rAsg (rCB (cList true) (rCons (rv 0) rNil)) (rgName 1))
    (rSeq (rFor (rIt (rTup (rCons (rc (.int 3)) (rCons (rc (.int 4)) (rCons (rc (.int 5)) rNil))))) (rgName 2)
    (rd_colours_L1))
    (rRet (rv 1))))
def asp_colours : ASp := fun ds μ q => ∃ ns : List Nat, ds = [encNs ns] ∧ ns.length ≤ 1000000 ∧ q (encNs (colM ns)) μ
theorem py_ints : ∀ (ns : List Nat), pyOkL (ns.map fun n : Nat => D.int (n : Int)) = true ∧ PyData.canLayAll0 (toPyL (ns.map fun n : Nat => D.int (n : Int))) = true ∧ PyData.depthAll (toPyL (ns.map fun n : Nat => D.int (n : Int))) ≤ 1
  | [] => by simp [pyOkL, toPyL, PyData.canLayAll0, PyData.depthAll]
  | n :: ns => by
    obtain ⟨h1, h2, h3⟩ := py_ints ns
    simp [pyOkL, toPyL, PyData.canLayAll0, PyData.depthAll, pyOk, toPy, PyData.canLay0, PyData.depth, h1, h2]
    omega
theorem shp_ns (ns : List Nat) : shp (.lst (ns.map fun n : Nat => D.int (n : Int))) = true := by
  obtain ⟨h1, h2, h3⟩ := py_ints ns
  simp [shp, pyOk, toPy, SeqAt.shaped, PyData.canLay0, PyData.depth, h1, h2]
  omega
theorem inD_ns (c : Nat) (ns : List Nat) : inD (.int (c : Int)) (ns.map fun n : Nat => D.int (n : Int)) = decide (c ∈ ns) := by
  unfold inD
  rw [List.any_map]
  induction ns with
  | nil => simp
  | cons n ns ih =>
    rw [List.any_cons, ih]
    show (eqD (.int n) (.int c) || _) = _
    rw [eqD_int]
    by_cases h : n = c
    · subst h; simp
    · have h' : ¬ (n : Int) = (c : Int) := by omega
      have h2 : c ≠ n := fun z => h z.symm
      simp [h', h2]
theorem pickC_min {nb : List Nat} (h : nb.length ≤ 2) : ((List.range 3).filter fun c => decide (c ∉ nb)) ≠ [] ∧ lmin (((List.range 3).filter fun c => decide (c ∉ nb)).map fun n : Nat => (n : Int)) = (pickC nb : Nat) := by
  have h3 : ¬ (0 ∈ nb ∧ 1 ∈ nb ∧ 2 ∈ nb) := by
    rintro ⟨a, b, c⟩
    match nb, h with
    | [], _ => cases a
    | [x], _ => simp at a b; omega
    | [x, y], _ => simp at a b c; omega
  show ([0, 1, 2].filter _) ≠ [] ∧ lmin (([0, 1, 2].filter _).map _) = _
  unfold pickC
  by_cases h0 : 0 ∈ nb
  · by_cases h1 : 1 ∈ nb
    · have h2 : 2 ∉ nb := fun z => h3 ⟨h0, h1, z⟩
      simp [List.filter, h0, h1, h2, lmin]
    · by_cases h2 : 2 ∈ nb <;> simp [List.filter, h0, h1, h2, lmin]
  · by_cases h1 : 1 ∈ nb <;> by_cases h2 : 2 ∈ nb <;> simp [List.filter, h0, h1, h2, lmin]
theorem intsOf_ns (ns : List Nat) : intsOf (ns.map fun n : Nat => D.int (n : Int)) = some (ns.map fun n : Nat => (n : Int)) := by
  have := intsOf_map (ns.map fun n : Nat => (n : Int))
  rw [List.map_map] at this
  exact this
/-- one round of the colours -/
theorem round_col {high : Nat} {l : List Nat} {ns0 : D} {p : Addr} {E : EndsD} {μ : Mu} {x y z : Option D} (hp : μ p = none) (hl : l.length ≤ 1000000)
    (h : ∀ x y, E.nx [some ns0, some (.ob p), some (.int (high : Int)), x, y, z] (upm μ p (.lst ((colR high none l).map fun n : Nat => D.int (n : Int))))) :
    rd_colours_L1 E [some ns0, some (.ob p), some (.int (high : Int)), x, y, z] (upm μ p (.lst (l.map fun n : Nat => D.int (n : Int)))) := by
  unfold rd_colours_L1
  have hs := line_big
  walk_at "dl"
  simp only [lenD_at upm_same, List.length_map]
  refine ⟨⟨by omega, by omega⟩, ?_⟩
  rw [Int.toNat_natCast]
  refine for_rng (lo := 0) (n := l.length) (fun i ρ μ' => ∃ (done rest : List Nat) (x y : Option D), ρ = [some ns0, some (.ob p), some (.int (high : Int)), x, y, z] ∧ μ' = upm μ p (.lst ((done ++ rest).map fun n : Nat => D.int (n : Int))) ∧ done.length = i ∧ done ++ colR high done.getLast? rest = colR high none l ∧ (done ++ rest).length = l.length) ?_ ?_ ⟨[], l, x, y, rfl, rfl, rfl, rfl, rfl⟩
  · rintro i ρ μ' hi ⟨done, rest, x, y, rfl, rfl, rfl, hc, hlen⟩ k hk
    obtain ⟨m, rest, rfl⟩ : ∃ m r, rest = m :: r := by
      cases rest with
      | nil => simp at hlen; omega
      | cons m r => exact ⟨m, r, rfl⟩
    unfold rd_colours_L2
    walk_at "dl"
    have hget : ((done ++ m :: rest).map fun n : Nat => D.int (n : Int))[done.length]? = some (.int (m : Int)) := by
      rw [List.getElem?_map, List.getElem?_append_right (Nat.le_refl _), Nat.sub_self]; rfl
    simp only [rs_at upm_same, at_int (Int.zero_add _) hget]
    unfold opEq
    simp only [rs_int, shp_int, eqD_int]
    refine ⟨trivial, trivial, trivial, ?_⟩
    by_cases hm : (m : Int) = (high : Int)
    · simp only [hm, decide_true]
      have hm' : m = high := by omega
      subst hm'
      refine ⟨_, _, done.length, by rw [Int.zero_add], rs_at upm_same, ?_⟩
      rw [nbD_map, nbD_at]
      dsimp only
      refine ⟨by decide, fun p2 hp2 => ?_⟩
      refine lc_fm (xs := List.range 3) (fun k : Nat => D.int (0 + (k : Int))) (fun c => if c ∉ done.getLast?.toList ++ rest.head?.toList then some (.int (c : Int)) else none) hp2 (fun _ => trivial) (by simp; omega) (fun c _ acc k' hk' => ?_) ?_
      · walk_at "dl"
        unfold opIn
        simp only [rs_lst, rs_int, shp_int, shp_ns, Int.zero_add, inD_ns]
        refine ⟨trivial, trivial, ?_⟩
        by_cases hc : c ∈ done.getLast?.toList ++ rest.head?.toList
        · simp only [hc, decide_true, if_true, Bool.not_true, not_true_eq_false, if_false] at hk' ⊢
          exact hk'
        · simp only [hc, decide_false, if_true, Bool.not_false, not_false_eq_true] at hk' ⊢
          exact hk'
      · have ef : (List.range 3).filterMap (fun c => if c ∉ done.getLast?.toList ++ rest.head?.toList then some (D.int (c : Int)) else none) = ((List.range 3).filter fun c => decide (c ∉ done.getLast?.toList ++ rest.head?.toList)).map fun n : Nat => D.int (n : Int) := by
          generalize done.getLast?.toList ++ rest.head?.toList = nb
          generalize List.range 3 = xs
          induction xs with
          | nil => rfl
          | cons a xs ih =>
            rw [List.filterMap_cons, List.filter_cons, ih]
            by_cases ha : a ∈ nb
            · simp [ha]
            · simp [ha]
        have hlen2 : (done.getLast?.toList ++ rest.head?.toList).length ≤ 2 := by
          have := nbD_len (done ++ m :: rest) done.length
          rw [nbD_at] at this
          exact this
        obtain ⟨z1, z2⟩ := pickC_min hlen2
        rw [ef]
        walk_at "dl"
        rw [intsOf_ns]
        simp only [z2]
        refine ⟨by simpa using z1, ?_⟩
        simp only [upm_same, List.length_map, Int.zero_add]
        rw [ixN_nat (by rw [hlen]; exact hi)]
        simp only [upm_upm]
        refine hk _ _ ⟨done ++ [pickC (nbs done.getLast? rest)], rest, _, _, rfl, ?_, by simp, ?_, by simpa using hlen⟩
        · congr 2
          rw [List.map_append, List.map_append, List.map_append, List.map_cons]
          rw [List.set_append_right _ _ (by simp)]
          simp [nbs]
        · rw [← hc, List.append_assoc, List.getLast?_append]
          show done ++ (pickC (nbs done.getLast? rest) :: colR m (some (pickC (nbs done.getLast? rest))) rest) = done ++ colR m done.getLast? (m :: rest)
          rw [colR, if_pos rfl]
    · simp only [hm, decide_false]
      have hm' : m ≠ high := fun z => hm (by rw [z])
      refine hk _ _ ⟨done ++ [m], rest, _, _, rfl, by simp, by simp, ?_, by simpa using hlen⟩
      rw [← hc, List.append_assoc, List.getLast?_append]
      show done ++ (m :: colR high (some m) rest) = done ++ colR high done.getLast? (m :: rest)
      rw [colR, if_neg hm']
  · rintro ρ μ' ⟨done, rest, x, y, rfl, rfl, hi, hc, hlen⟩
    have : rest = [] := by
      rw [List.length_append] at hlen
      exact List.eq_nil_of_length_eq_zero (by omega)
    subst this
    have hc : done = colR high none l := by simpa [colR] using hc
    rw [List.append_nil, hc]
    exact ⟨trivial, h _ _⟩
theorem ok_colours (K : PySem.W.Frag) (ds μ q) (h : asp_colours ds μ q) : rd_colours (endsQ K q) (startD 6 ds) μ := by
  obtain ⟨ns, rfl, hl, h⟩ := h
  have hs := line_big
  unfold rd_colours encNs
  walk_at "dl"
  intro p hp
  refine ⟨by decide, trivial, ?_⟩
  simp only [forD_cons, forD_nil, rgName, put_0, put_s]
  refine round_col (high := 3) hp hl fun x y => ⟨trivial, ?_⟩
  refine round_col (high := 4) hp (by rw [colR_len]; exact hl) fun x y => ⟨trivial, ?_⟩
  refine round_col (high := 5) hp (by rw [colR_len, colR_len]; exact hl) fun x y => ⟨trivial, ?_⟩
  exact out_new hp h
/-- slots: entries 0 shades 1 found 2 entry 3 shade 4 at 5 -/
def rd_marks_L2 : RSt :=
  (rIf (rAnd (rB (rOp opEq (rOp opIx (rv 1) (rv 5)) (rv 4))) (rNot (rTru (rCB cAny (rCons (rCall (asp_neighbours_of) (rCons (rv 2) (rCons (rv 5) rNil))) rNil)))))
    (rAsg (rc (.bl true)) (gSet (rv 2) (rv 5)))
    rSkip)
def rd_marks_L1 : RSt :=
  (rFor (rRng2 (rCons (rc (.int 1)) (rCons (rCB cLen (rCons (rv 0) rNil)) rNil))) (rgName 5)
    (rd_marks_L2))
def rd_marks : RSt :=
  (rSeq (rAsg (rCall (asp_colours) (rCons (rCall (asp_labels) (rCons (rv 0) rNil)) rNil)) (rgName 1))
    (rSeq (rAsg (rLC true (rIt (rv 0)) (rgName 3) rYes (rc (.bl false)) [3]) (rgName 2))
    (rSeq (rFor (rIt (rTup (rCons (rc (.int 2)) (rCons (rc (.int 1)) (rCons (rc (.int 0)) rNil))))) (rgName 4)
    (rd_marks_L1))
    (rRet (rv 2)))))
def encBs (bs : List Bool) : D := .lst (bs.map D.bl)
def asp_marks : ASp := fun ds μ q => ∃ es : List Ent, ds = [encEs es] ∧ RowE es ∧ es.length ≤ 1000000 ∧ q (encBs (marksM es)) μ
theorem headD_eq (ms : List Bool) : ms.headD false = (ms.head?.toList).any id := by cases ms <;> simp
/-- one round of the marks -/
theorem round_mk {shade : Nat} {es : List Ent} {c0 : Nat} {cs : List Nat} {ms : List Bool} {p : Addr} {E : EndsD} {μ : Mu} {x z : Option D} (hp : μ p = none) (hl : es.length ≤ 1000000) (h1 : es.length = cs.length + 1) (h2 : ms.length = cs.length)
    (h : ∀ x, E.nx [some (encEs es), some (encNs (c0 :: cs)), some (.ob p), z, some (.int (shade : Int)), x] (upm μ p (.lst ((false :: mkR shade false cs ms).map D.bl)))) :
    rd_marks_L1 E [some (encEs es), some (encNs (c0 :: cs)), some (.ob p), z, some (.int (shade : Int)), x] (upm μ p (.lst ((false :: ms).map D.bl))) := by
  unfold rd_marks_L1 encEs
  have hs := line_big
  walk_at "dl"
  rw [List.length_map, h1]
  refine ⟨⟨⟨by omega, by omega⟩, by omega, by omega⟩, ?_⟩
  have e1 : (((cs.length + 1 : Nat) : Int) - 1).toNat = cs.length := by omega
  rw [e1]
  refine for_rng (lo := 1) (n := cs.length) (fun i ρ μ' => ∃ (cd cr : List Nat) (md mr : List Bool) (x : Option D), ρ = [some (encEs es), some (encNs (c0 :: cs)), some (.ob p), z, some (.int (shade : Int)), x] ∧ μ' = upm μ p (.lst ((false :: (md ++ mr)).map D.bl)) ∧ cs = cd ++ cr ∧ cd.length = i ∧ md.length = i ∧ cr.length = mr.length ∧ md ++ mkR shade ((false :: md).getLast?.getD false) cr mr = mkR shade false cs ms) ?_ ?_ ⟨[], cs, [], ms, x, rfl, rfl, rfl, rfl, rfl, h2.symm, rfl⟩
  · rintro i ρ μ' hi ⟨cd, cr, md, mr, x, rfl, rfl, hcs, rfl, hmd, hcm, hc⟩ k hk
    obtain ⟨c, cr, rfl⟩ : ∃ c r, cr = c :: r := by
      cases cr with
      | nil => rw [hcs] at hi; simp at hi
      | cons c r => exact ⟨c, r, rfl⟩
    obtain ⟨m, mr, rfl⟩ : ∃ c r, mr = c :: r := by
      cases mr with
      | nil => cases hcm
      | cons c r => exact ⟨c, r, rfl⟩
    unfold rd_marks_L2 encNs
    walk_at "dl"
    have hget : (D.int (c0 : Int) :: cs.map fun n : Nat => D.int (n : Int))[cd.length + 1]? = some (.int (c : Int)) := by
      rw [List.getElem?_cons_succ, List.getElem?_map, hcs, List.getElem?_append_right (Nat.le_refl _), Nat.sub_self]; rfl
    have hidx : (1 : Int) + (cd.length : Int) = ((cd.length + 1 : Nat) : Int) := by omega
    simp only [at_int hidx hget]
    unfold opEq
    simp only [rs_int, shp_int, eqD_int]
    refine ⟨trivial, trivial, trivial, ?_⟩
    have hprev : ((false :: md).getLast?.getD false) = ((false :: md).getLast?.toList).any id := by
      cases h : (false :: md).getLast? with
      | none => rfl
      | some b => simp
    have hnext : ∀ y, (y :: mkR shade y cr mr) = mkR shade ((false :: md).getLast?.getD false) (c :: cr) (m :: mr) → k [some (encEs es), some (encNs (c0 :: cs)), some (.ob p), z, some (.int (shade : Int)), some (.int (1 + (cd.length : Int)))] (upm μ p (.lst ((false :: (md ++ y :: mr)).map D.bl))) := fun y hy => by
      refine hk _ _ ⟨cd ++ [c], cr, md ++ [y], mr, _, rfl, by simp, by rw [hcs]; simp, by simp, by simp [hmd], by simpa using hcm, ?_⟩
      rw [← hc, ← hy, List.append_assoc]
      congr 1
      rw [← List.cons_append, List.getLast?_append]
      rfl
    have hlen : (md ++ m :: mr).length = cs.length := by rw [hcs]; simp at hcm; simp [hmd, hcm]
    by_cases hm : (c : Int) = (shade : Int)
    · simp only [hm, decide_true]
      have hm' : c = shade := by omega
      refine ⟨_, _, cd.length + 1, by rw [hidx], rs_at upm_same, ?_⟩
      have hsp : (D.bl false :: (md ++ m :: mr).map D.bl) = ((false :: md) ++ m :: mr).map D.bl := rfl
      have hl2 : (false :: md).length = cd.length + 1 := by simp [hmd]
      rw [hsp, nbD_map, ← hl2, nbD_at]
      dsimp only
      simp only [itm_lst, blsOf_map, truD_bl]
      by_cases hb : (((false :: md).getLast?.toList ++ mr.head?.toList).any id) = true
      · simp only [hb, Bool.not_true]
        refine hnext m ?_
        rw [mkR, hprev, headD_eq, ← List.any_append, hb]
        simp
      · have hb' : (((false :: md).getLast?.toList ++ mr.head?.toList).any id) = false := by simpa using hb
        simp only [hb', Bool.not_false, upm_same, upm_upm, hidx]
        rw [ixN_nat (by simp; omega)]
        have e : ((false :: md ++ m :: mr).map D.bl).set (cd.length + 1) (D.bl true) = (false :: (md ++ true :: mr)).map D.bl := by
          rw [List.map_append, List.set_append_right _ _ (by simp [hmd])]
          simp [hmd]
        dsimp only
        rw [e, ← hidx]
        refine hnext true ?_
        rw [mkR, hprev, headD_eq, ← List.any_append, hb', hm']
        simp
    · simp only [hm, decide_false]
      have hm' : (c == shade) = false := by
        rw [beq_eq_false_iff_ne]
        exact fun z => hm (by rw [z])
      refine hnext m ?_
      rw [mkR, hm']
      simp
  · rintro ρ μ' ⟨cd, cr, md, mr, x, rfl, rfl, hcs, hi, hmd, hcm, hc⟩
    have e1 : cr = [] := by
      have := congrArg List.length hcs
      rw [List.length_append] at this
      exact List.eq_nil_of_length_eq_zero (by omega)
    subst e1
    have e2 : mr = [] := List.eq_nil_of_length_eq_zero hcm.symm
    subst e2
    have hc : md = mkR shade false cs ms := by simpa [mkR] using hc
    rw [List.append_nil, hc]
    exact ⟨trivial, h _⟩
theorem ok_marks (K : PySem.W.Frag) (ds μ q) (h : asp_marks ds μ q) : rd_marks (endsQ K q) (startD 6 ds) μ := by
  obtain ⟨es, rfl, hr, hl, h⟩ := h
  have hs := line_big
  unfold rd_marks
  walk_at "dl"
  refine ⟨es, rfl, hr, hl, labM es, rfl, by rw [labM_len]; exact hl, ?_⟩
  dsimp only
  unfold encEs
  simp only [itD_lst]
  intro p hp
  refine lc_map encE (fun _ => D.bl false) hp (fun _ => trivial) (by omega) (fun e he acc k hk => ?_) ?_
  · walk_at "dl"
    exact hk
  · walk_at "dl"
    intro p2 hp2
    refine ⟨by decide, ?_⟩
    have hcl : (colM (labM es)).length = es.length := by rw [colM_len, labM_len]
    unfold marksM at h
    cases hcs : colM (labM es) with
    | nil =>
      rw [hcs] at h hcl
      have he : es = [] := List.eq_nil_of_length_eq_zero (by simpa using hcl.symm)
      subst he
      simp only [forD_cons, forD_nil, rgName, put_0, put_s]
      have step : ∀ (sh : Int) (k : Rho → Mu → Prop) (x y z : Option D) E, E.nx = k → (∀ x, k [some (.lst []), some (encNs []), some (.ob p2), z, some (.int sh), x] (upm μ p2 (.lst []))) → rd_marks_L1 E [some (.lst []), some (encNs []), some (.ob p2), z, some (.int sh), y] (upm μ p2 (.lst [])) := by
        intro sh k x y z E hE hk
        unfold rd_marks_L1
        walk_at "dl"
        refine ⟨by decide, ?_⟩
        rw [show ((((0 : Nat) : Int) - 1).toNat) = 0 from rfl]
        simp only [rngD, List.range_zero, List.map_nil, forD_nil]
        exact ⟨trivial, by rw [hE]; exact hk _⟩
      refine ⟨trivial, step 2 _ none none none _ rfl fun x => ⟨trivial, step 1 _ none _ none _ rfl fun x => ⟨trivial, step 0 _ none _ none _ rfl fun x => ⟨trivial, out_new hp2 h⟩⟩⟩⟩
    | cons c0 cs =>
      rw [hcs] at h hcl
      simp only [List.length_cons] at hcl
      have em : (es.map fun _ => D.bl false) = (false :: List.replicate cs.length false).map D.bl := by
        rw [← List.replicate_succ, List.map_replicate, hcl, List.map_const']
      rw [em]
      simp only [forD_cons, forD_nil, rgName, put_0, put_s]
      have l2 : (mkR 2 false cs (List.replicate cs.length false)).length = cs.length := by rw [mkR_len _ _ _ _ (by simp)]; simp
      have l1 : (mkR 1 false cs (mkR 2 false cs (List.replicate cs.length false))).length = cs.length := by rw [mkR_len _ _ _ _ (by rw [l2])]; exact l2
      refine ⟨trivial, round_mk (shade := 2) hp2 hl hcl.symm (by simp) fun x => ⟨trivial, round_mk (shade := 1) hp2 hl hcl.symm l2 fun x => ⟨trivial, round_mk (shade := 0) hp2 hl hcl.symm l1 fun x => ⟨trivial, out_new hp2 h⟩⟩⟩⟩
/-- slots: entries 0 entry 1 is_on 2 -/
def rd_handed : RSt :=
  (rRet (rLC false (rZip (rCons (rv 0) (rCons (rCall (asp_marks) (rCons (rv 0) rNil)) rNil))) (rgTup [1, 2]) (rTru (rv 2)) (rv 1) [1, 2]))
def asp_handed : ASp := fun ds μ q => ∃ es : List Ent, ds = [encEs es] ∧ RowE es ∧ es.length ≤ 1000000 ∧ q (encEs (handM es)) μ
theorem zipD_map {α β : Type} (f : α → D) (g : β → D) : ∀ (xs : List α) (ys : List β), zipD (xs.map f) (ys.map g) = (xs.zip ys).map fun p => D.tup [f p.1, g p.2]
  | [], ys => by simp [zipD]
  | x :: xs, [] => by simp [zipD]
  | x :: xs, y :: ys => by simp only [List.map_cons, zipD, List.zip_cons_cons, zipD_map f g xs ys]
theorem keepB_zip : ∀ (es : List Ent) (bs : List Bool), (es.zip bs).filterMap (fun p => if p.2 = true then some (encE p.1) else none) = (keepB es bs).map encE
  | [], bs => by simp [keepB]
  | e :: es, [] => by simp [keepB]
  | e :: es, b :: bs => by
    rw [List.zip_cons_cons, List.filterMap_cons]
    unfold keepB
    cases b with
    | true => simp [keepB_zip es bs]
    | false => simp [keepB_zip es bs]
theorem ok_handed (K : PySem.W.Frag) (ds μ q) (h : asp_handed ds μ q) : rd_handed (endsQ K q) (startD 3 ds) μ := by
  obtain ⟨es, rfl, hr, hl, h⟩ := h
  have hs := line_big
  unfold rd_handed
  walk_at "dl"
  refine ⟨es, rfl, hr, hl, ?_⟩
  unfold encEs encBs
  simp only [itm_lst, zipD_map]
  intro p hp
  refine lc_fm (fun p : Ent × Bool => D.tup [encE p.1, D.bl p.2]) (fun p => if p.2 = true then some (encE p.1) else none) hp (fun acc => ⟨trivial, trivial⟩) (by rw [List.length_zip, marksM_len]; omega) (fun e he acc k hk => ?_) ?_
  · walk_at "dl"
    refine ⟨trivial, ?_⟩
    cases hb : e.2 with
    | true => rw [hb] at hk; exact hk
    | false => rw [hb] at hk; exact hk
  · rw [keepB_zip]
    exact out_same h
end BF

/-! Trees, stands and full rows, in plain Lean. -/
namespace BM
/-- a tree: the parents of the knots 1, 2, .. -/
def TreeOk (ps : List Nat) : Prop := ps.length ≤ 39 ∧ ∀ i p : Nat, ps[i]? = some p → p ≤ i
/-- the knot above -/
def upK (ps : List Nat) : Nat → Option Nat
  | 0 => none
  | i + 1 => ps[i]?
theorem upK_lt {ps : List Nat} (h : TreeOk ps) {j p : Nat} (e : upK ps j = some p) : p < j ∧ j ≤ ps.length := by
  cases j with
  | zero => cases e
  | succ i => exact ⟨Nat.lt_succ_of_le (h.2 i p e), (List.getElem?_eq_some_iff.mp e).1⟩
def chM (ps : List Nat) (k : Nat) : List Nat := (List.range' 1 ps.length).filter fun j => decide (upK ps j = some k)
theorem mem_chM {ps : List Nat} {k c : Nat} : c ∈ chM ps k ↔ (1 ≤ c ∧ c ≤ ps.length) ∧ upK ps c = some k := by
  unfold chM
  rw [List.mem_filter, List.mem_range'_1, decide_eq_true_eq]
  constructor
  · rintro ⟨⟨h1, h2⟩, h3⟩; exact ⟨⟨h1, by omega⟩, h3⟩
  · rintro ⟨⟨h1, h2⟩, h3⟩; exact ⟨⟨h1, by omega⟩, h3⟩
theorem chM_up {ps : List Nat} {k c : Nat} (h : c ∈ chM ps k) : upK ps c = some k := (mem_chM.mp h).2
theorem chM_of {ps : List Nat} (h : TreeOk ps) {k c : Nat} (e : upK ps c = some k) : c ∈ chM ps k := mem_chM.mpr ⟨⟨by have := (upK_lt h e).1; omega, (upK_lt h e).2⟩, e⟩
theorem chM_nodup (ps : List Nat) (k : Nat) : (chM ps k).Nodup := (List.nodup_range').filter _
def ownM (rows : List (List Int)) (k : Nat) : List Ent := (rows.getD k []).map fun x => (x, (k : Int))
/-- the full row, by fuel -/
def fullF (ps : List Nat) (rows : List (List Int)) : Nat → Nat → List Ent
  | 0, _ => []
  | f + 1, k => sortP (ownM rows k ++ ((chM ps k).map fun c => handM (fullF ps rows f c)).flatten)
def fullM (ps : List Nat) (rows : List (List Int)) (k : Nat) : List Ent := fullF ps rows (ps.length + 1 - k) k
theorem fullF_eq {ps : List Nat} {rows : List (List Int)} (h : TreeOk ps) : ∀ (f g k : Nat), ps.length + 1 - k ≤ f → ps.length + 1 - k ≤ g → 0 < f → 0 < g → fullF ps rows f k = fullF ps rows g k
  | 0, _, _, _, _, hf, _ => absurd hf (by omega)
  | _, 0, _, _, _, _, hg => absurd hg (by omega)
  | f + 1, g + 1, k, h1, h2, _, _ => by
    unfold fullF
    congr 3
    refine List.map_congr_left fun c hc => ?_
    have hu := upK_lt h (chM_up hc)
    rw [fullF_eq h f g c (by omega) (by omega) (by omega) (by omega)]
theorem fullM_step {ps : List Nat} {rows : List (List Int)} (h : TreeOk ps) {k : Nat} (hk : k ≤ ps.length) : fullM ps rows k = sortP (ownM rows k ++ ((chM ps k).map fun c => handM (fullM ps rows c)).flatten) := by
  have e : fullM ps rows k = fullF ps rows (ps.length + 1) k := fullF_eq h _ _ k (Nat.le_refl _) (by omega) (by omega) (by omega)
  rw [e]
  show sortP _ = _
  congr 3
  refine List.map_congr_left fun c hc => ?_
  have hu := upK_lt h (chM_up hc)
  rw [fullM, fullF_eq h ps.length _ c (by omega) (Nat.le_refl _) (by omega) (by omega)]
/-- j is k or lies beneath it -/
inductive Sub (ps : List Nat) (k : Nat) : Nat → Prop
  | self : Sub ps k k
  | up {j p : Nat} : upK ps j = some p → Sub ps k p → Sub ps k j
theorem Sub.le {ps : List Nat} (h : TreeOk ps) {k j : Nat} (s : Sub ps k j) : k ≤ j := by
  induction s with
  | self => exact Nat.le_refl _
  | up e _ ih => have := (upK_lt h e).1; omega
theorem Sub.trans {ps : List Nat} {a b c : Nat} (h1 : Sub ps a b) (h2 : Sub ps b c) : Sub ps a c := by
  induction h2 with
  | self => exact h1
  | up e _ ih => exact .up e ih
/-- of two knots above one another the one is above the other -/
theorem Sub.chain {ps : List Nat} {a b j : Nat} (h1 : Sub ps a j) : Sub ps b j → Sub ps a b ∨ Sub ps b a := by
  induction h1 with
  | self => exact fun h => .inr h
  | @up j p e s ih =>
    intro h2
    cases h2 with
    | self => exact .inl (.up e s)
    | up e2 s2 => rw [e] at e2; cases e2; exact ih s2
theorem Sub.disj {ps : List Nat} (h : TreeOk ps) {k a b j : Nat} (ha : upK ps a = some k) (hb : upK ps b = some k) (h1 : Sub ps a j) (h2 : Sub ps b j) : a = b := by
  have key : ∀ {a b : Nat}, upK ps a = some k → upK ps b = some k → Sub ps a b → a = b := by
    intro a b ha hb s
    cases s with
    | self => rfl
    | up e s =>
      rw [hb] at e; cases e
      have h1 := s.le h
      have h2 := (upK_lt h ha).1
      omega
  rcases Sub.chain h1 h2 with s | s
  · exact key ha hb s
  · exact (key hb ha s).symm
/-- rising keys, each below 10^60, as many rows as knots, no more than 300 keys -/
structure StandOk (ps : List Nat) (rows : List (List Int)) : Prop where
  tree : TreeOk ps
  len : rows.length = ps.length + 1
  asc : ∀ r ∈ rows, r.Pairwise (· < ·)
  key : ∀ r ∈ rows, ∀ x ∈ r, x < 10 ^ 60 ∧ -(10 ^ 60) < x
  sum : rows.flatten.length ≤ 300
theorem mem_ownM {rows : List (List Int)} {k : Nat} {e : Ent} : e ∈ ownM rows k ↔ e.2 = (k : Int) ∧ e.1 ∈ rows.getD k [] := by
  unfold ownM
  rw [List.mem_map]
  constructor
  · rintro ⟨x, h, rfl⟩; exact ⟨rfl, h⟩
  · rintro ⟨h1, h2⟩; exact ⟨e.1, h2, by rw [← h1]⟩
theorem getD_mem_or {α : Type} (rows : List (List α)) (k : Nat) : rows.getD k [] = [] ∨ rows.getD k [] ∈ rows := by
  by_cases h : k < rows.length
  · right; rw [List.getD_eq_getElem?_getD, List.getElem?_eq_getElem h, Option.getD_some]; exact List.getElem_mem h
  · left; rw [List.getD_eq_getElem?_getD, List.getElem?_eq_none (by omega)]; rfl
theorem row_asc {rows : List (List Int)} (h : ∀ r ∈ rows, r.Pairwise (· < ·)) (k : Nat) : (rows.getD k []).Pairwise (· < ·) := by
  rcases getD_mem_or rows k with e | e
  · rw [e]; exact .nil
  · exact h _ e
theorem ownM_asc {rows : List (List Int)} (h : ∀ r ∈ rows, r.Pairwise (· < ·)) (k : Nat) : Asc (ownM rows k) := by
  unfold ownM Asc
  rw [List.pairwise_map]
  exact (row_asc h k).imp fun {a b} h => by rw [ltE_iff]; exact .inl h
/-- two rising lists of the same entries are the same list -/
theorem asc_ext {a b : List Ent} (ha : Asc a) (hb : Asc b) (h : ∀ e, e ∈ a ↔ e ∈ b) : a = b :=
  srt_unique totE ((List.perm_ext_iff_of_nodup (asc_nodup ha) (asc_nodup hb)).mpr h) (asc_le ha) (asc_le hb)
/-- what is known of full rows -/
structure FullOk (ps : List Nat) (rows : List (List Int)) (k : Nat) (es : List Ent) : Prop where
  asc : Asc es
  sub : ∀ e ∈ es, ∃ j : Nat, e.2 = (j : Int) ∧ Sub ps k j ∧ j ≤ ps.length ∧ e.1 ∈ rows.getD j []
theorem nodup_flat {α β : Type} {f : α → List β} : ∀ {xs : List α}, xs.Nodup → (∀ x ∈ xs, (f x).Nodup) → (∀ x ∈ xs, ∀ y ∈ xs, ∀ z, z ∈ f x → z ∈ f y → x = y) → ((xs.map f).flatten).Nodup
  | [], _, _, _ => .nil
  | x :: xs, hn, h1, h2 => by
    rw [List.map_cons, List.flatten_cons]
    have hn' := List.nodup_cons.mp hn
    refine List.nodup_append.mpr ⟨h1 x List.mem_cons_self, nodup_flat hn'.2 (fun y hy => h1 y (List.mem_cons_of_mem _ hy)) fun y hy z hz => h2 y (List.mem_cons_of_mem _ hy) z (List.mem_cons_of_mem _ hz), ?_⟩
    intro a ha b hb e
    subst e
    obtain ⟨l, hl, hal⟩ := List.mem_flatten.mp hb
    obtain ⟨y, hy, rfl⟩ := List.mem_map.mp hl
    have := h2 x List.mem_cons_self y (List.mem_cons_of_mem _ hy) a ha hal
    subst this
    exact hn'.1 hy
/-- the parts of a full row have nothing in common -/
theorem parts_nodup {ps : List Nat} {rows : List (List Int)} (ht : TreeOk ps) (hr : ∀ r ∈ rows, r.Pairwise (· < ·)) {k : Nat} {g : Nat → List Ent} (hg : ∀ c ∈ chM ps k, FullOk ps rows c (g c)) :
    (ownM rows k ++ ((chM ps k).map g).flatten).Nodup := by
  refine List.nodup_append.mpr ⟨asc_nodup (ownM_asc hr k), nodup_flat (chM_nodup ps k) (fun c hc => asc_nodup (hg c hc).asc) ?_, ?_⟩
  · intro a ha b hb z hza hzb
    obtain ⟨j, e1, s1, _⟩ := (hg a ha).sub z hza
    obtain ⟨j', e2, s2, _⟩ := (hg b hb).sub z hzb
    have : j = j' := by omega
    subst this
    exact Sub.disj ht (chM_up ha) (chM_up hb) s1 s2
  · intro a ha b hb e
    subst e
    obtain ⟨l, hl, hal⟩ := List.mem_flatten.mp hb
    obtain ⟨c, hc, rfl⟩ := List.mem_map.mp hl
    obtain ⟨j, e1, s1, _⟩ := (hg c hc).sub a hal
    have e2 := (mem_ownM.mp ha).1
    have h1 := s1.le ht
    have h2 := (upK_lt ht (chM_up hc)).1
    omega
theorem FullOk.hand {ps : List Nat} {rows : List (List Int)} {k : Nat} {es : List Ent} (h : FullOk ps rows k es) : FullOk ps rows k (handM es) := ⟨handM_asc h.asc, fun e he => h.sub e (handM_mem he)⟩
theorem mem_flat {α β : Type} {f : α → List β} {xs : List α} {b : β} : b ∈ (xs.map f).flatten ↔ ∃ x ∈ xs, b ∈ f x := by
  rw [List.mem_flatten]
  constructor
  · rintro ⟨l, hl, hb⟩; obtain ⟨x, hx, rfl⟩ := List.mem_map.mp hl; exact ⟨x, hx, hb⟩
  · rintro ⟨x, hx, hb⟩; exact ⟨f x, List.mem_map.mpr ⟨x, hx, rfl⟩, hb⟩
theorem FullOk.step {ps : List Nat} {rows : List (List Int)} (ht : TreeOk ps) (hr : ∀ r ∈ rows, r.Pairwise (· < ·)) {k : Nat} (hk : k ≤ ps.length) {g : Nat → List Ent} (hg : ∀ c ∈ chM ps k, FullOk ps rows c (g c)) :
    FullOk ps rows k (sortP (ownM rows k ++ ((chM ps k).map g).flatten)) := by
  refine ⟨sortP_asc (parts_nodup ht hr hg), fun e he => ?_⟩
  have he := (sortG_perm leE _).mem_iff.mp he
  rcases List.mem_append.mp he with h | h
  · obtain ⟨h1, h2⟩ := mem_ownM.mp h
    exact ⟨k, h1, .self, hk, h2⟩
  · obtain ⟨c, hc, hz⟩ := mem_flat.mp h
    obtain ⟨j, e1, s1, e2⟩ := (hg c hc).sub e hz
    exact ⟨j, e1, Sub.trans (.up (chM_up hc) .self) s1, e2⟩
theorem fullM_ok {ps : List Nat} {rows : List (List Int)} (ht : TreeOk ps) (hr : ∀ r ∈ rows, r.Pairwise (· < ·)) : ∀ (n k : Nat), ps.length - k ≤ n → k ≤ ps.length → FullOk ps rows k (fullM ps rows k)
  | n, k, hn, hk => by
    rw [fullM_step ht hk]
    refine FullOk.step ht hr hk fun c hc => ?_
    have hu := upK_lt ht (chM_up hc)
    cases n with
    | zero => omega
    | succ n => exact (fullM_ok ht hr n c (by omega) hu.2).hand
theorem fullM_ok' {ps : List Nat} {rows : List (List Int)} (ht : TreeOk ps) (hr : ∀ r ∈ rows, r.Pairwise (· < ·)) {k : Nat} (hk : k ≤ ps.length) : FullOk ps rows k (fullM ps rows k) := fullM_ok ht hr _ k (Nat.le_refl _) hk
theorem mem_fullM {ps : List Nat} {rows : List (List Int)} (ht : TreeOk ps) {k : Nat} (hk : k ≤ ps.length) {e : Ent} : e ∈ fullM ps rows k ↔ e ∈ ownM rows k ∨ ∃ c, upK ps c = some k ∧ e ∈ handM (fullM ps rows c) := by
  rw [fullM_step ht hk, (sortG_perm leE _).mem_iff, List.mem_append, mem_flat]
  constructor
  · rintro (h | ⟨c, hc, h⟩)
    · exact .inl h
    · exact .inr ⟨c, chM_up hc, h⟩
  · rintro (h | ⟨c, hc, h⟩)
    · exact .inl h
    · exact .inr ⟨c, chM_of ht hc, h⟩
/-- by joining up -/
theorem fullM_join {ps : List Nat} {rows : List (List Int)} (ht : TreeOk ps) (hr : ∀ r ∈ rows, r.Pairwise (· < ·)) {k : Nat} (hk : k ≤ ps.length) :
    joinM (ownM rows k :: (chM ps k).map fun c => handM (fullM ps rows c)) = fullM ps rows k := by
  have hg : ∀ c ∈ chM ps k, FullOk ps rows c (handM (fullM ps rows c)) := fun c hc => (fullM_ok' ht hr (upK_lt ht (chM_up hc)).2).hand
  rw [joinM_sort, List.flatten_cons, fullM_step ht hk]
  · intro l hl
    rcases List.mem_cons.mp hl with rfl | hl
    · exact ownM_asc hr k
    · obtain ⟨c, hc, rfl⟩ := List.mem_map.mp hl
      exact (hg c hc).asc
  · rw [List.flatten_cons]
    exact parts_nodup ht hr hg
/-- all entries of a stand -/
def allE (rows : List (List Int)) : List Ent := ((List.range rows.length).map fun k => ownM rows k).flatten
theorem allE_len (rows : List (List Int)) : (allE rows).length = rows.flatten.length := by
  unfold allE
  rw [List.length_flatten, List.length_flatten, List.map_map]
  congr 1
  refine List.ext_getElem (by simp) fun i h1 h2 => ?_
  simp at h1
  simp [ownM, List.getD_eq_getElem?_getD, h1]
theorem mem_allE {rows : List (List Int)} {e : Ent} : e ∈ allE rows ↔ ∃ j : Nat, e.2 = (j : Int) ∧ e.1 ∈ rows.getD j [] := by
  unfold allE
  rw [mem_flat]
  constructor
  · rintro ⟨j, _, h⟩; exact ⟨j, mem_ownM.mp h⟩
  · rintro ⟨j, h⟩
    refine ⟨j, ?_, mem_ownM.mpr h⟩
    rw [List.mem_range]
    refine Decidable.byContradiction fun hn => ?_
    have h2 := h.2
    rw [List.getD_eq_getElem?_getD, List.getElem?_eq_none (by omega)] at h2
    cases h2
theorem nodup_sub_len {α : Type} [DecidableEq α] : ∀ {a b : List α}, a.Nodup → (∀ x ∈ a, x ∈ b) → a.length ≤ b.length
  | [], _, _, _ => Nat.zero_le _
  | x :: a, b, hn, h => by
    have hn' := List.nodup_cons.mp hn
    have hx := h x List.mem_cons_self
    have := nodup_sub_len (a := a) (b := b.erase x) hn'.2 fun y hy => (List.mem_erase_of_ne (fun e => by subst e; exact hn'.1 hy)).mpr (h y (List.mem_cons_of_mem _ hy))
    rw [List.length_erase_of_mem hx] at this
    have hb : 0 < b.length := List.length_pos_of_mem hx
    rw [List.length_cons]; omega
theorem FullOk.len {ps : List Nat} {rows : List (List Int)} {k : Nat} {es : List Ent} (h : FullOk ps rows k es) : es.length ≤ rows.flatten.length := by
  rw [← allE_len]
  refine nodup_sub_len (asc_nodup h.asc) fun e he => ?_
  obtain ⟨j, e1, _, _, e2⟩ := h.sub e he
  exact mem_allE.mpr ⟨j, e1, e2⟩
theorem FullOk.ok {ps : List Nat} {rows : List (List Int)} {k : Nat} {es : List Ent} (ht : TreeOk ps) (h : FullOk ps rows k es) : ∀ e ∈ es, okE e := fun e he => by
  obtain ⟨j, e1, _, e3, _⟩ := h.sub e he
  have := ht.1
  unfold okE
  omega
end BM

/-! What a deed changes, in plain Lean. -/
namespace BM
def dif (a b : List Ent) : List Ent := a.filter fun e => decide (e ∉ b)
theorem mem_dif {a b : List Ent} {e : Ent} : e ∈ dif a b ↔ e ∈ a ∧ e ∉ b := by
  unfold dif; rw [List.mem_filter, decide_eq_true_eq]
theorem dif_asc {a b : List Ent} (h : Asc a) : Asc (dif a b) := h.sublist List.filter_sublist
theorem dif_len (a b : List Ent) : (dif a b).length ≤ a.length := List.length_filter_le _ _
/-- what is left with what has come is the new one -/
theorem dif_back {a b : List Ent} (ha : Asc a) (hb : Asc b) : sortP (dif a (dif a b) ++ dif b a) = b := by
  have hn : (dif a (dif a b) ++ dif b a).Nodup := List.nodup_append.mpr ⟨asc_nodup (dif_asc ha), asc_nodup (dif_asc hb), fun x hx y hy e => by
    subst e
    exact (mem_dif.mp hy).2 (mem_dif.mp hx).1⟩
  refine asc_ext (sortP_asc hn) hb fun e => ?_
  rw [(sortG_perm leE _).mem_iff, List.mem_append, mem_dif, mem_dif, mem_dif]
  constructor
  · rintro (⟨h1, h2⟩ | ⟨h1, h2⟩)
    · exact Decidable.byContradiction fun h => h2 ⟨h1, h⟩
    · exact h1
  · intro h
    by_cases h2 : e ∈ a
    · exact .inl ⟨h2, fun z => z.2 h⟩
    · exact .inr ⟨h, h2⟩
theorem dif_nil {a b : List Ent} (ha : Asc a) (hb : Asc b) (h1 : dif a b = []) (h2 : dif b a = []) : a = b := by
  refine asc_ext ha hb fun e => ⟨fun h => Decidable.byContradiction fun z => ?_, fun h => Decidable.byContradiction fun z => ?_⟩
  · have : e ∈ dif a b := mem_dif.mpr ⟨h, z⟩
    rw [h1] at this; cases this
  · have : e ∈ dif b a := mem_dif.mpr ⟨h, z⟩
    rw [h2] at this; cases this
theorem dif_self (a : List Ent) : dif a a = [] := by
  unfold dif
  rw [List.filter_eq_nil_iff]
  intro e he
  simp [he]
/-- a stand's rows ahead of a deed at the knot k0 and behind -/
structure Deed (ps : List Nat) (k0 : Nat) (rows rows' : List (List Int)) : Prop where
  tree : TreeOk ps
  asc : ∀ r ∈ rows, r.Pairwise (· < ·)
  asc' : ∀ r ∈ rows', r.Pairwise (· < ·)
  at0 : k0 ≤ ps.length
  off : ∀ j, j ≠ k0 → rows.getD j [] = rows'.getD j []
section
variable {ps : List Nat} {k0 : Nat} {rows rows' : List (List Int)}
theorem Deed.own (d : Deed ps k0 rows rows') {j : Nat} (h : j ≠ k0) : ownM rows j = ownM rows' j := by unfold ownM; rw [d.off j h]
theorem Deed.same (d : Deed ps k0 rows rows') : ∀ (n j : Nat), ps.length - j ≤ n → j ≤ ps.length → ¬ Sub ps j k0 → fullM ps rows j = fullM ps rows' j
  | n, j, hn, hj, hs => by
    rw [fullM_step d.tree hj, fullM_step d.tree hj, d.own fun e => hs (e ▸ .self)]
    congr 3
    refine List.map_congr_left fun c hc => ?_
    have hu := upK_lt d.tree (chM_up hc)
    cases n with
    | zero => omega
    | succ n => rw [d.same n c (by omega) hu.2 fun z => hs (Sub.trans (.up (chM_up hc) .self) z)]
theorem Deed.same' (d : Deed ps k0 rows rows') {j : Nat} (hj : j ≤ ps.length) (hs : ¬ Sub ps j k0) : fullM ps rows j = fullM ps rows' j := d.same _ j (Nat.le_refl _) hj hs
theorem sub_up {ps : List Nat} {k p k0 : Nat} (h : upK ps k = some p) (s : Sub ps k k0) : Sub ps p k0 := Sub.trans (.up h .self) s
theorem Deed.flip (d : Deed ps k0 rows rows') : Deed ps k0 rows' rows := ⟨d.tree, d.asc', d.asc, d.at0, fun j h => (d.off j h).symm⟩
theorem Deed.upM (d : Deed ps k0 rows rows') {k p : Nat} (s : Sub ps k k0) (hu : upK ps k = some p) {e : Ent} : e ∈ dif (fullM ps rows p) (fullM ps rows' p) ↔ e ∈ dif (handM (fullM ps rows k)) (handM (fullM ps rows' k)) := by
  have hl := upK_lt d.tree hu
  have hp : p ≤ ps.length := by omega
  have hpk : p ≠ k0 := fun z => by
    have := s.le d.tree
    omega
  rw [mem_dif, mem_dif, mem_fullM d.tree hp, mem_fullM d.tree hp, d.own hpk]
  have hs : ∀ c, upK ps c = some p → c ≠ k → fullM ps rows c = fullM ps rows' c := fun c hc hne => d.same' (upK_lt d.tree hc).2 fun z => hne (Sub.disj d.tree hc hu z s)
  constructor
  · rintro ⟨h1, h2⟩
    rcases h1 with h1 | ⟨c, hc, h1⟩
    · exact absurd (.inl h1) h2
    · by_cases e : c = k
      · subst e; exact ⟨h1, fun z => h2 (.inr ⟨c, hc, z⟩)⟩
      · rw [hs c hc e] at h1
        exact absurd (.inr ⟨c, hc, h1⟩) h2
  · rintro ⟨h1, h2⟩
    refine ⟨.inr ⟨k, hu, h1⟩, ?_⟩
    have ok1 := (fullM_ok' d.tree d.asc hl.2).hand
    obtain ⟨j, e1, s1, _⟩ := ok1.sub _ h1
    rintro (h | ⟨c, hc, h⟩)
    · have e2 := (mem_ownM.mp h).1
      have : j = p := by omega
      subst this
      have := s1.le d.tree
      omega
    · have ok2 := (fullM_ok' d.tree d.asc' (upK_lt d.tree hc).2).hand
      obtain ⟨j', e2, s2, _⟩ := ok2.sub _ h
      have : j = j' := by omega
      subst this
      have := Sub.disj d.tree hu hc s1 s2
      subst this
      exact h2 h
theorem Deed.up (d : Deed ps k0 rows rows') {k p : Nat} (s : Sub ps k k0) (hu : upK ps k = some p) : dif (fullM ps rows p) (fullM ps rows' p) = dif (handM (fullM ps rows k)) (handM (fullM ps rows' k)) := by
  have hl := upK_lt d.tree hu
  exact asc_ext (dif_asc (fullM_ok' d.tree d.asc (by omega)).asc) (dif_asc (fullM_ok' d.tree d.asc hl.2).hand.asc) fun e => d.upM s hu
/-- where nothing changes any more, nothing changes above -/
theorem Deed.still (d : Deed ps k0 rows rows') {k j : Nat} (hk : k ≤ ps.length) (s : Sub ps k k0) (e : fullM ps rows k = fullM ps rows' k) (sj : Sub ps j k) : fullM ps rows j = fullM ps rows' j := by
  induction sj with
  | self => exact e
  | @up c p hc s2 ih =>
    have hl := upK_lt d.tree hc
    refine ih (by omega) (sub_up hc s) ?_
    refine dif_nil (fullM_ok' d.tree d.asc (by omega)).asc (fullM_ok' d.tree d.asc' (by omega)).asc ?_ ?_
    · rw [d.up s hc, e, dif_self]
    · rw [d.flip.up s hc, e, dif_self]
/-- at the knot of the deed itself -/
theorem Deed.first (d : Deed ps k0 rows rows') : dif (fullM ps rows k0) (fullM ps rows' k0) = dif (ownM rows k0) (ownM rows' k0) := by
  have hn : ∀ {rows rows'}, Deed ps k0 rows rows' → ∀ c, upK ps c = some k0 → fullM ps rows c = fullM ps rows' c := fun d c hc => d.same' (upK_lt d.tree hc).2 fun z => by
    have := z.le d.tree
    have := (upK_lt d.tree hc).1
    omega
  refine asc_ext (dif_asc (fullM_ok' d.tree d.asc d.at0).asc) (dif_asc (ownM_asc d.asc _)) fun e => ?_
  rw [mem_dif, mem_dif, mem_fullM d.tree d.at0, mem_fullM d.tree d.at0]
  constructor
  · rintro ⟨h1, h2⟩
    rcases h1 with h1 | ⟨c, hc, h1⟩
    · exact ⟨h1, fun z => h2 (.inl z)⟩
    · rw [hn d c hc] at h1
      exact absurd (.inr ⟨c, hc, h1⟩) h2
  · rintro ⟨h1, h2⟩
    refine ⟨.inl h1, ?_⟩
    rintro (h | ⟨c, hc, h⟩)
    · exact h2 h
    · have ok2 := (fullM_ok' d.tree d.asc' (upK_lt d.tree hc).2).hand
      obtain ⟨j, e2, s2, _⟩ := ok2.sub _ h
      have e1 := (mem_ownM.mp h1).1
      have := s2.le d.tree
      have := (upK_lt d.tree hc).1
      omega
end
/-- what a deed tells, from a knot up -/
def toldF (ps : List Nat) (old new : Nat → List Ent) : Nat → Nat → List (Nat × List Ent × List Ent)
  | 0, _ => []
  | f + 1, k => if dif (old k) (new k) = [] ∧ dif (new k) (old k) = [] then [] else
    (k, dif (old k) (new k), dif (new k) (old k)) :: match upK ps k with
      | none => []
      | some p => toldF ps old new f p
def toldM (ps : List Nat) (old new : Nat → List Ent) (k : Nat) : List (Nat × List Ent × List Ent) := toldF ps old new (k + 1) k
theorem toldF_eq {ps : List Nat} (ht : TreeOk ps) {old new : Nat → List Ent} : ∀ (f g k : Nat), k < f → k < g → toldF ps old new f k = toldF ps old new g k
  | 0, _, _, h, _ => absurd h (by omega)
  | _, 0, _, _, h => absurd h (by omega)
  | f + 1, g + 1, k, h1, h2 => by
    unfold toldF
    cases hu : upK ps k with
    | none => rfl
    | some p =>
      have := (upK_lt ht hu).1
      simp only
      rw [toldF_eq ht f g p (by omega) (by omega)]
theorem toldM_step {ps : List Nat} (ht : TreeOk ps) {old new : Nat → List Ent} {k : Nat} : toldM ps old new k = if dif (old k) (new k) = [] ∧ dif (new k) (old k) = [] then [] else
    (k, dif (old k) (new k), dif (new k) (old k)) :: match upK ps k with
      | none => []
      | some p => toldM ps old new p := by
  show toldF ps old new (k + 1) k = _
  rw [toldF]
  cases hu : upK ps k with
  | none => rfl
  | some p =>
    have := (upK_lt ht hu).1
    simp only
    rw [toldM, toldF_eq ht k (p + 1) p (by omega) (by omega)]
theorem toldM_len {ps : List Nat} (ht : TreeOk ps) {old new : Nat → List Ent} : ∀ (f k : Nat), (toldF ps old new f k).length ≤ f
  | 0, _ => Nat.le_refl _
  | f + 1, k => by
    unfold toldF
    split
    · exact Nat.zero_le _
    · cases hu : upK ps k with
      | none => simp
      | some p => simp only [List.length_cons]; have := toldM_len ht (old := old) (new := new) f p; omega
/-! ### a key put in, a key taken out -/
def insI (x : Int) (r : List Int) : List Int := sortI (r ++ [x])
theorem ltI_of {r : List Int} (h : r.Pairwise fun a b => leI a b = true) (hn : r.Nodup) : r.Pairwise (· < ·) := (h.and hn).imp fun {a b} ⟨h1, h2⟩ => by
  simp only [leI, decide_eq_true_eq] at h1
  omega
theorem sortI_lt {r : List Int} (hn : r.Nodup) : (sortI r).Pairwise (· < ·) := ltI_of (sortG_srt totI r) ((sortG_perm leI r).nodup_iff.mpr hn)
theorem lt_nodup {r : List Int} (h : r.Pairwise (· < ·)) : r.Nodup := h.imp fun h => by omega
theorem lt_le {r : List Int} (h : r.Pairwise (· < ·)) : r.Pairwise fun a b => leI a b = true := h.imp fun h => by simp only [leI, decide_eq_true_eq]; omega
theorem sortI_id {r : List Int} (h : r.Pairwise (· < ·)) : sortI r = r := sortG_id totI (lt_le h)
theorem mem_insI {x y : Int} {r : List Int} : y ∈ insI x r ↔ y ∈ r ∨ y = x := by
  unfold insI; rw [(sortG_perm leI _).mem_iff, List.mem_append, List.mem_singleton]
theorem insI_asc {x : Int} {r : List Int} (h : r.Pairwise (· < ·)) (hx : x ∉ r) : (insI x r).Pairwise (· < ·) := sortI_lt (List.nodup_append.mpr ⟨lt_nodup h, List.nodup_cons.mpr ⟨List.not_mem_nil, List.nodup_nil⟩, fun a ha b hb e => by
  rw [List.mem_singleton] at hb; subst hb; subst e; exact hx ha⟩)
theorem insI_len (x : Int) (r : List Int) : (insI x r).length = r.length + 1 := by unfold insI; rw [(sortG_perm leI _).length_eq]; simp
def delI (x : Int) (r : List Int) : List Int := r.filter fun y => decide (y ≠ x)
theorem mem_delI {x y : Int} {r : List Int} : y ∈ delI x r ↔ y ∈ r ∧ y ≠ x := by
  unfold delI; rw [List.mem_filter, decide_eq_true_eq]
theorem delI_asc {x : Int} {r : List Int} (h : r.Pairwise (· < ·)) : (delI x r).Pairwise (· < ·) := h.sublist List.filter_sublist
def putR (rows : List (List Int)) (k : Nat) (x : Int) : List (List Int) := rows.set k (insI x (rows.getD k []))
def outR (rows : List (List Int)) (k : Nat) (x : Int) : List (List Int) := rows.set k (delI x (rows.getD k []))
theorem getD_set_ne {α : Type} {rows : List (List α)} {k j : Nat} {r : List α} (h : j ≠ k) : (rows.set k r).getD j [] = rows.getD j [] := by
  rw [List.getD_eq_getElem?_getD, List.getD_eq_getElem?_getD, List.getElem?_set_ne (Ne.symm h)]
theorem getD_set_same {α : Type} {rows : List (List α)} {k : Nat} {r : List α} (h : k < rows.length) : (rows.set k r).getD k [] = r := by
  rw [List.getD_eq_getElem?_getD, List.getElem?_set_self h]; rfl
theorem deed_set {ps : List Nat} {rows : List (List Int)} {k : Nat} {r : List Int} (ht : TreeOk ps) (ha : ∀ r ∈ rows, r.Pairwise (· < ·)) (hl : rows.length = ps.length + 1) (hk : k ≤ ps.length) (hr : r.Pairwise (· < ·)) : Deed ps k rows (rows.set k r) :=
  ⟨ht, ha, fun q hq => by
    rcases List.mem_or_eq_of_mem_set hq with h | rfl
    · exact ha q h
    · exact hr, hk, fun j hj => (getD_set_ne hj).symm⟩
theorem put_deed {ps : List Nat} {rows : List (List Int)} {k : Nat} {x : Int} (s : StandOk ps rows) (hk : k ≤ ps.length) (hx : x ∉ rows.getD k []) : Deed ps k rows (putR rows k x) :=
  deed_set s.tree s.asc s.len hk (insI_asc (row_asc s.asc k) hx)
theorem out_deed {ps : List Nat} {rows : List (List Int)} {k : Nat} {x : Int} (s : StandOk ps rows) (hk : k ≤ ps.length) : Deed ps k rows (outR rows k x) :=
  deed_set s.tree s.asc s.len hk (delI_asc (row_asc s.asc k))
theorem dif_sing {a b : List Ent} {e : Ent} (ha : Asc a) (h1 : e ∈ a) (h2 : e ∉ b) (h3 : ∀ z ∈ a, z ≠ e → z ∈ b) : dif a b = [e] :=
  asc_ext (dif_asc ha) (List.pairwise_singleton _ _) fun z => by
    rw [mem_dif, List.mem_singleton]
    constructor
    · rintro ⟨q1, q2⟩
      exact Decidable.byContradiction fun q => q2 (h3 z q1 q)
    · rintro rfl; exact ⟨h1, h2⟩
theorem dif_sub {a b : List Ent} (h : ∀ z ∈ a, z ∈ b) : dif a b = [] := by
  unfold dif
  rw [List.filter_eq_nil_iff]
  intro e he
  simp [h e he]
theorem put_own {ps : List Nat} {rows : List (List Int)} {k : Nat} {x : Int} (s : StandOk ps rows) (hk : k ≤ ps.length) {e : Ent} : e ∈ ownM (putR rows k x) k ↔ e ∈ ownM rows k ∨ e = (x, (k : Int)) := by
  rw [mem_ownM, mem_ownM, putR, getD_set_same (by rw [s.len]; omega), mem_insI]
  constructor
  · rintro ⟨h1, h2 | h2⟩
    · exact .inl ⟨h1, h2⟩
    · exact .inr (Prod.ext h2 h1)
  · rintro (⟨h1, h2⟩ | rfl)
    · exact ⟨h1, .inl h2⟩
    · exact ⟨rfl, .inr rfl⟩
theorem put_first {ps : List Nat} {rows : List (List Int)} {k : Nat} {x : Int} (s : StandOk ps rows) (hk : k ≤ ps.length) (hx : x ∉ rows.getD k []) :
    dif (fullM ps rows k) (fullM ps (putR rows k x) k) = [] ∧ dif (fullM ps (putR rows k x) k) (fullM ps rows k) = [(x, (k : Int))] := by
  have d := put_deed s hk hx
  rw [d.first, d.flip.first]
  refine ⟨dif_sub fun z hz => (put_own s hk).mpr (.inl hz), dif_sing (ownM_asc d.asc' k) ((put_own s hk).mpr (.inr rfl)) (fun h => hx (mem_ownM.mp h).2) fun z hz hne => ?_⟩
  rcases (put_own s hk).mp hz with h | h
  · exact h
  · exact absurd h hne
theorem out_own {ps : List Nat} {rows : List (List Int)} {k : Nat} {x : Int} (s : StandOk ps rows) (hk : k ≤ ps.length) {e : Ent} : e ∈ ownM (outR rows k x) k ↔ e ∈ ownM rows k ∧ e ≠ (x, (k : Int)) := by
  rw [mem_ownM, mem_ownM, outR, getD_set_same (by rw [s.len]; omega), mem_delI]
  constructor
  · rintro ⟨h1, h2, h3⟩
    exact ⟨⟨h1, h2⟩, fun z => h3 (congrArg Prod.fst z)⟩
  · rintro ⟨⟨h1, h2⟩, h3⟩
    exact ⟨h1, h2, fun z => h3 (Prod.ext z h1)⟩
theorem out_first {ps : List Nat} {rows : List (List Int)} {k : Nat} {x : Int} (s : StandOk ps rows) (hk : k ≤ ps.length) (hx : x ∈ rows.getD k []) :
    dif (fullM ps rows k) (fullM ps (outR rows k x) k) = [(x, (k : Int))] ∧ dif (fullM ps (outR rows k x) k) (fullM ps rows k) = [] := by
  have d := out_deed (x := x) s hk
  rw [d.first, d.flip.first]
  refine ⟨dif_sing (ownM_asc d.asc k) (mem_ownM.mpr ⟨rfl, hx⟩) (fun h => ((out_own s hk).mp h).2 rfl) fun z hz hne => (out_own s hk).mpr ⟨hz, hne⟩, dif_sub fun z hz => ((out_own s hk).mp hz).1⟩
theorem set_flat_len {rows : List (List Int)} {k : Nat} {r : List Int} (hk : k < rows.length) : (rows.set k r).flatten.length + (rows.getD k []).length = rows.flatten.length + r.length := by
  induction rows generalizing k with
  | nil => cases hk
  | cons a rows ih =>
    cases k with
    | zero => simp; omega
    | succ k =>
      have := ih (k := k) (by simpa using hk)
      simp only [List.set_cons_succ, List.flatten_cons, List.length_append, List.getD_cons_succ]
      omega
theorem put_ok {ps : List Nat} {rows : List (List Int)} {k : Nat} {x : Int} (s : StandOk ps rows) (hk : k ≤ ps.length) (hx : x ∉ rows.getD k []) (hkey : x < 10 ^ 60 ∧ -(10 ^ 60) < x) (hs : rows.flatten.length < 300) : StandOk ps (putR rows k x) where
  tree := s.tree
  len := by unfold putR; rw [List.length_set]; exact s.len
  asc := (put_deed s hk hx).asc'
  key := fun r hr y hy => by
    rcases List.mem_or_eq_of_mem_set hr with h | rfl
    · exact s.key r h y hy
    · rcases mem_insI.mp hy with h | rfl
      · rcases getD_mem_or rows k with e | e
        · rw [e] at h; cases h
        · exact s.key _ e y h
      · exact hkey
  sum := by
    have := set_flat_len (rows := rows) (k := k) (r := insI x (rows.getD k [])) (by rw [s.len]; omega)
    rw [insI_len] at this
    show (rows.set k _).flatten.length ≤ 300
    omega
theorem out_ok {ps : List Nat} {rows : List (List Int)} {k : Nat} {x : Int} (s : StandOk ps rows) (hk : k ≤ ps.length) : StandOk ps (outR rows k x) where
  tree := s.tree
  len := by unfold outR; rw [List.length_set]; exact s.len
  asc := (out_deed s hk).asc'
  key := fun r hr y hy => by
    rcases List.mem_or_eq_of_mem_set hr with h | rfl
    · exact s.key r h y hy
    · have h := (mem_delI.mp hy).1
      rcases getD_mem_or rows k with e | e
      · rw [e] at h; cases h
      · exact s.key _ e y h
  sum := by
    have := set_flat_len (rows := rows) (k := k) (r := delI x (rows.getD k [])) (by rw [s.len]; omega)
    have h2 : (delI x (rows.getD k [])).length ≤ (rows.getD k []).length := List.length_filter_le _ _
    have h3 := s.sum
    show (rows.set k _).flatten.length ≤ 300
    omega
end BM

namespace BF
open PySem PySem.Spec PyProof.Rows L2 BM DL
local macro_rules | `(tactic| walk_at "dl") => `(tactic| simp only [rSeq, rSkip, rAsg, rDrop, rRet, rIf, rOp, rv, rc, rB, rCh, rAnd, rOr, rNot, rTru, rAndV, rOrV, rNotV, rNil, rCons, rLst, rTup, rCB, rUn, rSl, rNoP, rSoP, rCall, rMeth, rMake, rFld, rFset, rIt, rRng1, rRng2, rRng3, rRevR1, rEnum, rZip, rRev, rFor, rLC, rYes, stepC, rgName, rgTup, rBM, rBM0, rDGet, rDIn, rDGet2, rDPut, rDNew, rNever, rDisp3, rGhE, gSet, opAdd, opSub, opMul, opFdv, opMod, opPow, opShr, unNeg, opLt, opLe, opGt, opGe, opIx, slD, cLen, cAbs, cMin, cMax, cSum, cAny, cAll, cList, cTuple, cInt, cIsi, startD, endsQ, slot_0, slot_s, put_0, put_s, puts_nil, puts_cons, wipeD_nil, wipeD_cons, rs_non, rs_bl, rs_int, rs_str, rs_ty, rs_lst, rs_tup, rs_dk, rs_dt, rs_scr, itm_lst, itm_scr, seqD_lst, seqD_tup, seqD_scr, lenD_lst, lenD_tup, lenD_scr, lenD_dk, tyD_int, tyD_bl, tyD_non, tyD_str, tyD_lst, tyD_tup, tyD_dk, truD_bl, truD_int, truD_lst, isTy_lst, isTy_str, itD_lst, itD_tup, newL_f, newL_t, List.map_cons, List.map_nil, List.length_cons, List.length_nil, List.cons_append, List.nil_append, List.replicate, List.set_cons_zero, List.set_cons_succ])
local macro_rules | `(tactic| walk_at "dlh") => `(tactic| simp only [rSeq, rSkip, rAsg, rDrop, rRet, rIf, rOp, rv, rc, rB, rCh, rAnd, rOr, rNot, rTru, rAndV, rOrV, rNotV, rNil, rCons, rLst, rTup, rCB, rUn, rSl, rNoP, rSoP, rCall, rMeth, rMake, rFld, rFset, rIt, rRng1, rRng2, rRng3, rRevR1, rEnum, rZip, rRev, rFor, rLC, rYes, stepC, rgName, rgTup, rBM, rBM0, rDGet, rDIn, rDGet2, rDPut, rDNew, rNever, rDisp3, rGhE, gSet, opAdd, opSub, opMul, opFdv, opMod, opPow, opShr, unNeg, opLt, opLe, opGt, opGe, opIx, slD, cLen, cAbs, cMin, cMax, cSum, cAny, cAll, cList, cTuple, cInt, cIsi, startD, endsQ, slot_0, slot_s, put_0, put_s, puts_nil, puts_cons, wipeD_nil, wipeD_cons, rs_non, rs_bl, rs_int, rs_str, rs_ty, rs_lst, rs_tup, rs_dk, rs_dt, rs_scr, itm_lst, itm_scr, seqD_lst, seqD_tup, seqD_scr, lenD_lst, lenD_tup, lenD_scr, lenD_dk, tyD_int, tyD_bl, tyD_non, tyD_str, tyD_lst, tyD_tup, tyD_dk, truD_bl, truD_int, truD_lst, isTy_lst, isTy_str, itD_lst, itD_tup, newL_f, newL_t, List.map_cons, List.map_nil, List.length_cons, List.length_nil, List.cons_append, List.nil_append, List.replicate, List.set_cons_zero, List.set_cons_succ, *])
/-- slots: thing 0 -/
def rd_is_whole : RSt :=
  (rRet (rAndV (rCB cIsi (rCons (rv 0) (rCons (rc (.ty "int")) rNil))) (rNotV (rCB cIsi (rCons (rv 0) (rCons (rc (.ty "bool")) rNil))))))
def wholeB : D → Bool
  | .int _ => true
  | _ => false
def asp_is_whole : ASp := fun ds μ q => ∃ d, ds = [d] ∧ plainD μ d ∧ q (.bl (wholeB d)) μ
theorem ok_is_whole (K : PySem.W.Frag) (ds μ q) (h : asp_is_whole ds μ q) : rd_is_whole (endsQ K q) (startD 1 ds) μ := by
  obtain ⟨d, rfl, ⟨t, ht⟩, h⟩ := h
  unfold rd_is_whole
  walk_at "dl"
  simp only [ht, okB, isaB]
  by_cases h1 : t = "int"
  · subst h1
    obtain ⟨i, rfl⟩ := tyD_int_inv ht
    simp
    exact out_same h
  · have e : wholeB d = false := by
      cases d with
      | int i => rw [tyD_int] at ht; cases ht; exact absurd rfl h1
      | _ => rfl
    rw [e] at h
    by_cases h2 : t = "bool"
    · subst h2
      simp
      exact out_same h
    · have t1 : (t == "int") = false := by simpa using h1
      have t2 : (t == "bool") = false := by simpa using h2
      simp only [t1, t2, Bool.false_and, Bool.or_self]
      exact ⟨by decide, out_same h⟩
/-! ### trees -/
def encT (ps : List Nat) : List D := .non :: ps.map fun n : Nat => D.int (n : Int)
def encTree (ps : List Nat) : D := .tup (encT ps)
theorem encT_len (ps : List Nat) : (encT ps).length = ps.length + 1 := by simp [encT]
theorem encT_up {ps : List Nat} {k : Nat} (h1 : 1 ≤ k) (h2 : k ≤ ps.length) : ∃ p, upK ps k = some p ∧ (encT ps)[k]? = some (.int (p : Int)) := by
  obtain ⟨i, rfl⟩ : ∃ i, k = i + 1 := ⟨k - 1, by omega⟩
  refine ⟨ps[i]'(by omega), List.getElem?_eq_getElem _, ?_⟩
  unfold encT
  rw [List.getElem?_cons_succ, List.getElem?_map, List.getElem?_eq_getElem (by omega)]
  rfl
def upD (ps : List Nat) (k : Nat) : D := match upK ps k with
  | none => .non
  | some p => .int (p : Int)
theorem encT_at {ps : List Nat} {k : Nat} (h2 : k ≤ ps.length) : (encT ps)[k]? = some (upD ps k) := by
  cases k with
  | zero => rfl
  | succ k =>
    obtain ⟨p, h1, h3⟩ := encT_up (ps := ps) (k := k + 1) (by omega) h2
    rw [h3, upD, h1]
/-- slots: parents 0 knot 1 -/
def rd_tree_of_L1 : RSt :=
  (rIf (rOr (rNot (rTru (rCall (asp_is_whole) (rCons (rOp opIx (rv 0) (rv 1)) rNil)))) (rNot (rB (rCh opLe opLt (rc (.int 0)) (rOp opIx (rv 0) (rv 1)) (rv 1)))))
    rNever
    rSkip)
def rd_tree_of : RSt :=
  (rSeq (rIf (rOr (rNot (rTru (rCB cIsi (rCons (rv 0) (rCons (rTup (rCons (rc (.ty "list")) (rCons (rc (.ty "tuple")) rNil))) rNil))))) (rOr (rNot (rB (rCh opLe opLe (rc (.int 1)) (rCB cLen (rCons (rv 0) rNil)) (rc (.int 40))))) (rB (rOp (opIs true) (rOp opIx (rv 0) (rc (.int 0))) (rc .non)))))
    rNever
    rSkip)
    (rSeq (rFor (rRng2 (rCons (rc (.int 1)) (rCons (rCB cLen (rCons (rv 0) rNil)) rNil))) (rgName 1)
    (rd_tree_of_L1))
    (rRet (rCB cTuple (rCons (rv 0) rNil)))))
def asp_tree_of : ASp := fun ds μ q => ∃ ps, ds = [encTree ps] ∧ TreeOk ps ∧ q (encTree ps) μ
theorem ok_tree_of (K : PySem.W.Frag) (ds μ q) (h : asp_tree_of ds μ q) : rd_tree_of (endsQ K q) (startD 2 ds) μ := by
  obtain ⟨ps, rfl, ht, h⟩ := h
  have hs := line_big
  have hl := ht.1
  unfold rd_tree_of encTree
  walk_at "dl"
  simp only [encT_len, okB, isaB, tysOf]
  have e0 : atI (encT ps) 0 = some .non := at_nat (n := 0) rfl
  have e1 : decide ((1 : Int) ≤ ((ps.length + 1 : Nat) : Int)) = true := by simp; omega
  have e2 : decide ((((ps.length + 1 : Nat) : Int)) ≤ (40 : Int)) = true := by simp; omega
  simp only [e0, e1, e2]
  refine ⟨by decide, by decide, ⟨⟨by omega, by omega⟩, by omega, by omega⟩, ?_⟩
  have e3 : (((ps.length + 1 : Nat) : Int) - 1).toNat = ps.length := by omega
  rw [e3]
  refine for_rng (lo := 1) (n := ps.length) (fun i ρ μ' => ∃ x, ρ = [some (encTree ps), x] ∧ μ' = μ) ?_ ?_ ⟨none, rfl, rfl⟩
  · rintro i ρ μ' hi ⟨x, rfl, rfl⟩ k hk
    obtain ⟨p, h1, h2⟩ := encT_up (ps := ps) (k := i + 1) (by omega) (by omega)
    have hp := (upK_lt ht h1).1
    unfold rd_tree_of_L1 encTree
    walk_at "dl"
    have h3 : atI (encT ps) (1 + (i : Int)) = some (.int (p : Int)) := at_int (n := i + 1) (by omega) h2
    simp only [h3]
    refine ⟨trivial, _, rfl, ⟨_, tyD_int⟩, ?_⟩
    have h4 : decide ((0 : Int) ≤ (p : Int)) = true := by simp
    have h5 : decide ((p : Int) < 1 + (i : Int)) = true := by simp; omega
    simp only [wholeB, truD_bl, Bool.not_true, rs_int, h4, h5]
    exact hk _ _ ⟨_, rfl, rfl⟩
  · rintro ρ μ' ⟨x, rfl, rfl⟩
    unfold encTree
    walk_at "dl"
    exact ⟨trivial, out_same h⟩
/-- slots: tree 0 knot 1 other 2 -/
def rd_children : RSt :=
  (rRet (rLC false (rRng2 (rCons (rc (.int 1)) (rCons (rCB cLen (rCons (rv 0) rNil)) rNil))) (rgName 2) (rB (rOp opEq (rOp opIx (rv 0) (rv 2)) (rv 1))) (rv 2) [2]))
def asp_children : ASp := fun ds μ q => ∃ (ps : List Nat) (k : Nat), ds = [encTree ps, .int (k : Int)] ∧ TreeOk ps ∧ q (.lst ((chM ps k).map fun n : Nat => D.int (n : Int))) μ
theorem ok_children (K : PySem.W.Frag) (ds μ q) (h : asp_children ds μ q) : rd_children (endsQ K q) (startD 3 ds) μ := by
  obtain ⟨ps, k, rfl, ht, h⟩ := h
  have hs := line_big
  have hl := ht.1
  unfold rd_children encTree
  walk_at "dl"
  simp only [encT_len]
  refine ⟨⟨⟨by omega, by omega⟩, by omega, by omega⟩, fun p hp => ?_⟩
  have e3 : (((ps.length + 1 : Nat) : Int) - 1).toNat = ps.length := by omega
  rw [e3]
  refine lc_fm (xs := List.range ps.length) (fun i : Nat => D.int (1 + (i : Int))) (fun i => if upK ps (i + 1) = some k then some (.int ((i + 1 : Nat) : Int)) else none) hp (fun _ => trivial) (by rw [List.length_range]; omega) (fun i hi acc k' hk' => ?_) ?_
  · rw [List.mem_range] at hi
    walk_at "dl"
    obtain ⟨p', h1, h2⟩ := encT_up (ps := ps) (k := i + 1) (by omega) (by omega)
    have h3 : atI (encT ps) (1 + (i : Int)) = some (.int (p' : Int)) := at_int (n := i + 1) (by omega) h2
    simp only [h3]
    unfold opEq
    simp only [rs_int, shp_int, eqD_int]
    refine ⟨trivial, trivial, ?_⟩
    rw [h1] at hk'
    have e5 : (1 : Int) + (i : Int) = ((i + 1 : Nat) : Int) := by omega
    by_cases e : (p' : Int) = (k : Int)
    · have e' : p' = k := by omega
      subst e'
      simp only [e, decide_true, e5]
      simpa using hk'
    · have e' : p' ≠ k := fun z => e (by rw [z])
      simp only [e, decide_false]
      simpa [e'] using hk'
  · have e : (List.range ps.length).filterMap (fun i => if upK ps (i + 1) = some k then some (D.int ((i + 1 : Nat) : Int)) else none) = (chM ps k).map fun n : Nat => D.int (n : Int) := by
      unfold chM
      rw [List.range'_eq_map_range, List.filter_map, List.map_map, ← List.filterMap_eq_map, List.filterMap_filter]
      congr 1
      funext i
      simp only [Function.comp, decide_eq_true_eq, Nat.add_comm 1 i]
    rw [e]
    exact out_same h
/-- slots: thing 0 key 1 -/
def rd_row_of : RSt :=
  (rSeq (rIf (rOr (rNot (rTru (rCB cIsi (rCons (rv 0) (rCons (rTup (rCons (rc (.ty "list")) (rCons (rc (.ty "tuple")) rNil))) rNil))))) (rNot (rTru (rCB cAll (rCons (rLC false (rIt (rv 0)) (rgName 1) rYes (rCall (asp_is_key) (rCons (rv 1) rNil)) [1]) rNil)))))
    rNever
    rSkip)
    (rSeq (rIf (rB (rOp opNe (rLenSet (rv 0)) (rCB cLen (rCons (rv 0) rNil))))
    rNever
    rSkip)
    (rRet (rCB cTuple (rCons (rCB (cSort false) (rCons (rv 0) rNil)) rNil)))))
def encRow (r : List Int) : D := .tup (r.map D.int)
def asp_row_of : ASp := fun ds μ q => ∃ (d : D) (ns : List Int), ds = [d] ∧ (d = .lst (ns.map D.int) ∨ d = .tup (ns.map D.int)) ∧ ns.Nodup ∧ ns.length ≤ 4000 ∧ (∀ x ∈ ns, x < 10 ^ 60 ∧ -(10 ^ 60) < x) ∧ q (encRow (sortI ns)) μ
theorem keyB_int {i : Int} (h : i < 10 ^ 60 ∧ -(10 ^ 60) < i) : keyB (.int i) = true := by
  show (decide (i < 10 ^ 60) && decide (-(10 ^ 60) < i)) = true
  rw [decide_eq_true h.1, decide_eq_true h.2]; rfl
theorem nodup_len_eq {a b : List Int} (ha : a.Nodup) (hb : b.Nodup) (h : ∀ x, x ∈ a ↔ x ∈ b) : a.length = b.length := ((List.perm_ext_iff_of_nodup ha hb).mpr h).length_eq
theorem all_true {bs : List Bool} (h : ∀ b ∈ bs, b = true) : bs.all id = true := by
  rw [List.all_eq_true]; exact h
theorem ok_row_of (K : PySem.W.Frag) (ds μ q) (h : asp_row_of ds μ q) : rd_row_of (endsQ K q) (startD 2 ds) μ := by
  obtain ⟨d, ns, rfl, hd, hn, hl, hk, h⟩ := h
  have hs := line_big
  unfold rd_row_of
  have hls : ∀ ks : List Int, ks.Nodup → (∀ k, k ∈ ks ↔ k ∈ ns) → (ks.length : Int) = (ns.length : Int) := fun ks h1 h2 => by rw [nodup_len_eq h1 hn h2]
  have hall : (List.replicate ns.length true).all id = true := all_true fun b hb => (List.mem_replicate.mp hb).2
  have hb : blsOf (ns.map fun _ => D.bl true) = some (List.replicate ns.length true) := by
    rw [List.map_const', ← List.map_replicate, blsOf_map]
  have step : ∀ x ∈ ns, ∀ (ρ0 : Rho) (acc : List D) (p : Addr) (k : QOp) (d0 : D), k (some (.bl true)) (upm μ p (.lst acc)) → stepC (rgName 1) rYes (rCall asp_is_key (rCons (rv 1) rNil)) [some d0, none] (.int x) (upm μ p (.lst acc)) k := by
    intro x hx ρ0 acc p k d0 hk'
    walk_at "dl"
    exact ⟨_, rfl, ⟨_, tyD_int⟩, by rw [keyB_int (hk x hx)]; exact hk'⟩
  rcases hd with rfl | rfl
  · walk_at "dl"
    simp only [okB, isaB, tysOf]
    refine ⟨by decide, by decide, fun p hp => ?_⟩
    refine lc_map D.int (fun _ => D.bl true) hp (fun _ => trivial) (by omega) (fun x hx acc k hk' => step x hx [] acc p k _ hk') ?_
    simp only [newL_f, itm_lst, hb, hall, Bool.not_true]
    unfold rLenSet
    walk_at "dl"
    simp only [intsOf_map]
    refine ⟨hl, fun ks h1 h2 => ?_⟩
    unfold opNe
    simp only [rs_int, shp_int, eqD_int, hls ks h1 h2, List.length_map, decide_true, Bool.not_true, cSort_lst, newL_f, seqD_lst]
    exact ⟨trivial, trivial, out_same h⟩
  · walk_at "dl"
    simp only [okB, isaB, tysOf]
    refine ⟨by decide, by decide, fun p hp => ?_⟩
    refine lc_map D.int (fun _ => D.bl true) hp (fun _ => trivial) (by omega) (fun x hx acc k hk' => step x hx [] acc p k _ hk') ?_
    simp only [newL_f, itm_lst, hb, hall, Bool.not_true]
    unfold rLenSet
    walk_at "dl"
    simp only [intsOf_map]
    refine ⟨hl, fun ks h1 h2 => ?_⟩
    unfold opNe
    simp only [rs_int, shp_int, eqD_int, hls ks h1 h2, List.length_map, decide_true, Bool.not_true, cSort_tup, newL_f, seqD_lst]
    exact ⟨trivial, trivial, out_same h⟩
/-- slots: tree 0 rows 1 found 2 row 3 -/
def rd_stand_of : RSt :=
  (rSeq (rIf (rOr (rNot (rTru (rCB cIsi (rCons (rv 1) (rCons (rTup (rCons (rc (.ty "list")) (rCons (rc (.ty "tuple")) rNil))) rNil))))) (rB (rOp opNe (rCB cLen (rCons (rv 1) rNil)) (rCB cLen (rCons (rv 0) rNil)))))
    rNever
    rSkip)
    (rSeq (rAsg (rCB cTuple (rCons (rLC false (rIt (rv 1)) (rgName 3) rYes (rCall (asp_row_of) (rCons (rv 3) rNil)) [3]) rNil)) (rgName 2))
    (rSeq (rIf (rB (rOp opGt (rCB cSum (rCons (rLC false (rIt (rv 2)) (rgName 3) rYes (rCB cLen (rCons (rv 3) rNil)) [3]) rNil)) (rc (.int 300))))
    rNever
    rSkip)
    (rRet (rTup (rCons (rv 0) (rCons (rv 2) rNil)))))))
/-- a row as it is handed in: a list or a tuple -/
def encRw (x : Bool × List Int) : D := if x.1 then .lst (x.2.map D.int) else .tup (x.2.map D.int)
def encStand (ps : List Nat) (rows : List (List Int)) : D := .tup [encTree ps, .tup (rows.map encRow)]
structure RowsIn (n : Nat) (rows : List (Bool × List Int)) : Prop where
  len : rows.length = n
  nodup : ∀ r ∈ rows, r.2.Nodup
  key : ∀ r ∈ rows, ∀ x ∈ r.2, x < 10 ^ 60 ∧ -(10 ^ 60) < x
  sum : ((rows.map Prod.snd).flatten).length ≤ 300
def asp_stand_of : ASp := fun ds μ q => ∃ (ps : List Nat) (dr : D) (rows : List (Bool × List Int)), ds = [encTree ps, dr] ∧ (dr = .lst (rows.map encRw) ∨ dr = .tup (rows.map encRw)) ∧ ps.length ≤ 39 ∧ RowsIn (ps.length + 1) rows ∧ q (encStand ps (rows.map fun r => sortI r.2)) μ
theorem flat_sum : ∀ rows : List (List Int), (rows.map fun r => (r.length : Int)).sum = (rows.flatten.length : Int)
  | [] => rfl
  | r :: rows => by rw [List.map_cons, List.sum_cons, flat_sum rows, List.flatten_cons, List.length_append]; omega
theorem len_mem_flat {r : List Int} : ∀ {rows : List (List Int)}, r ∈ rows → r.length ≤ rows.flatten.length
  | a :: rows, h => by
    rw [List.flatten_cons, List.length_append]
    rcases List.mem_cons.mp h with rfl | h
    · omega
    · have := len_mem_flat h; omega
theorem ok_stand_of (K : PySem.W.Frag) (ds μ q) (h : asp_stand_of ds μ q) : rd_stand_of (endsQ K q) (startD 4 ds) μ := by
  obtain ⟨ps, dr, rows, rfl, hd, hps, hr, h⟩ := h
  have hs := line_big
  have hlen := hr.len
  have h8 : ∀ r ∈ rows, r.2.length ≤ 4000 := fun r hm => by
    have := len_mem_flat (List.mem_map_of_mem (f := Prod.snd) hm)
    have := hr.sum
    omega
  have e1 : ((rows.map fun r => sortI r.2).map fun r => (r.length : Int)).sum = ((rows.map Prod.snd).flatten.length : Int) := by
    rw [← flat_sum, List.map_map, List.map_map]
    congr 1
    refine List.map_congr_left fun r _ => ?_
    show ((sortI r.2).length : Int) = _
    rw [(sortG_perm leI r.2).length_eq]; rfl
  have hne : decide ((rows.length : Int) = ((encT ps).length : Int)) = true := by rw [hlen, encT_len]; simp
  have tail : ∀ (d0 : D), (rSeq (rIf (rB (rOp opGt (rCB cSum (rCons (rLC false (rIt (rv 2)) (rgName 3) rYes (rCB cLen (rCons (rv 3) rNil)) [3]) rNil)) (rc (.int 300)))) rNever rSkip) (rRet (rTup (rCons (rv 0) (rCons (rv 2) rNil))))) (endsQ K q) [some (encTree ps), some d0, some (.tup (rows.map fun r => encRow (sortI r.2))), none] μ := by
    intro d0
    walk_at "dl"
    intro p hp
    refine lc_map (fun r : Bool × List Int => encRow (sortI r.2)) (fun r => D.int ((sortI r.2).length : Int)) hp (fun _ => trivial) (by omega) (fun x hx acc k hk' => ?_) ?_
    · walk_at "dl"
      unfold encRow
      simp only [lenD_tup, List.length_map]
      exact hk'
    · have e2 : (rows.map fun r => D.int ((sortI r.2).length : Int)) = ((rows.map fun r => sortI r.2).map fun r => (r.length : Int)).map D.int := by
        rw [List.map_map, List.map_map]; rfl
      have e3 : decide (((rows.map fun r => sortI r.2).map fun r => (r.length : Int)).sum > 300) = false := by
        rw [e1]; have := hr.sum; exact decide_eq_false (by omega)
      simp only [newL_f, itm_lst, e2, intsOf_map, rs_int, e3]
      refine ⟨by decide, out_same ?_⟩
      unfold encStand at h
      rw [List.map_map] at h
      exact h
  have step : ∀ x ∈ rows, ∀ (acc : List D) (p : Addr) (k : QOp) (d0 : D), k (some (encRow (sortI x.2))) (upm μ p (.lst acc)) → stepC (rgName 3) rYes (rCall asp_row_of (rCons (rv 3) rNil)) [some (encTree ps), some d0, none, none] (encRw x) (upm μ p (.lst acc)) k := by
    intro x hx acc p k d0 hk'
    walk_at "dl"
    refine ⟨_, x.2, rfl, ?_, hr.nodup x hx, h8 x hx, hr.key x hx, hk'⟩
    unfold encRw
    cases x.1
    · exact .inr rfl
    · exact .inl rfl
  unfold rd_stand_of
  have tl : (encTree ps) = .tup (encT ps) := rfl
  rcases hd with rfl | rfl
  · walk_at "dl"
    rw [tl]
    simp only [okB, isaB, tysOf, lenD_tup, List.length_map]
    refine ⟨by decide, by decide, ?_⟩
    unfold opNe
    simp only [rs_int, shp_int, eqD_int, hne, Bool.not_true]
    refine ⟨trivial, trivial, fun p hp => ?_⟩
    refine lc_map encRw (fun r => encRow (sortI r.2)) hp (fun _ => trivial) (by omega) (fun x hx acc k hk' => step x hx acc p k _ hk') ?_
    simp only [newL_f, seqD_lst]
    exact tail _
  · walk_at "dl"
    rw [tl]
    simp only [okB, isaB, tysOf, lenD_tup, List.length_map]
    refine ⟨by decide, by decide, ?_⟩
    unfold opNe
    simp only [rs_int, shp_int, eqD_int, hne, Bool.not_true]
    refine ⟨trivial, trivial, fun p hp => ?_⟩
    refine lc_map encRw (fun r => encRow (sortI r.2)) hp (fun _ => trivial) (by omega) (fun x hx acc k hk' => step x hx acc p k _ hk') ?_
    simp only [newL_f, seqD_lst]
    exact tail _
/-- slots: stand 0 knot 1 key 2 -/
def rd_own_entries : RSt :=
  (rRet (rLC false (rIt (rOp opIx (rOp opIx (rv 0) (rc (.int 1))) (rv 1))) (rgName 2) rYes (rTup (rCons (rv 2) (rCons (rv 1) rNil))) [2]))
def asp_own_entries : ASp := fun ds μ q => ∃ (ps : List Nat) (rows : List (List Int)) (k : Nat), ds = [encStand ps rows, .int (k : Int)] ∧ k < rows.length ∧ (rows.getD k []).length ≤ 1000000 ∧ q (encEs (ownM rows k)) μ
theorem ok_own_entries (K : PySem.W.Frag) (ds μ q) (h : asp_own_entries ds μ q) : rd_own_entries (endsQ K q) (startD 3 ds) μ := by
  obtain ⟨ps, rows, k, rfl, hk, hl, h⟩ := h
  have hs := line_big
  unfold rd_own_entries encStand
  have e1 : atI [encTree ps, .tup (rows.map encRow)] 1 = some (.tup (rows.map encRow)) := at_nat (n := 1) rfl
  have e2 : atI (rows.map encRow) (k : Int) = some (encRow (rows.getD k [])) := at_nat (by rw [List.getElem?_map, List.getElem?_eq_getElem hk, List.getD_eq_getElem?_getD, List.getElem?_eq_getElem hk]; rfl)
  walk_at "dl"
  simp only [e1, rs_tup, e2]
  unfold encRow
  simp only [itD_tup]
  intro p hp
  refine lc_map D.int (fun x => encE (x, (k : Int))) hp (fun _ => trivial) (by omega) (fun x hx acc k' hk' => ?_) ?_
  · walk_at "dl"
    exact ⟨by omega, hk'⟩
  · refine out_same ?_
    unfold encEs ownM at h
    rw [List.map_map] at h
    exact h
/-- slots: stand 0 tree 1 found 2 knot 3 come 4 child 5 -/
def rd_full_rows_L1 : RSt :=
  (rSeq (rAsg (rLC false (rIt (rCall (asp_children) (rCons (rv 1) (rCons (rv 3) rNil)))) (rgName 5) rYes (rCall (asp_handed) (rCons (rDGet (rv 2) (rv 5)) rNil)) [5]) (rgName 4))
    (rDPut (rv 2) (rv 3) (rCall (asp_joined_up) (rCons (rOp (opAdd false) (rLst false (rCons (rCall (asp_own_entries) (rCons (rv 0) (rCons (rv 3) rNil))) rNil)) (rv 4)) rNil))))
def rd_full_rows : RSt :=
  (rSeq (rAsg (rOp opIx (rv 0) (rc (.int 0))) (rgName 1))
    (rSeq (rAsg (rDNew true false) (rgName 2))
    (rSeq (rFor (rRevR1 (rCB cLen (rCons (rv 1) rNil))) (rgName 3)
    (rd_full_rows_L1))
    (rRet (rLC true (rRng1 (rCons (rCB cLen (rCons (rv 1) rNil)) rNil)) (rgName 3) rYes (rDGet (rv 2) (rv 3)) [3])))))
def fullsM (ps : List Nat) (rows : List (List Int)) : List (List Ent) := (List.range (ps.length + 1)).map (fullM ps rows)
/-- a list of one's own -/
def asp_full_rows : ASp := fun ds μ q => ∃ (ps : List Nat) (rows : List (List Int)), ds = [encStand ps rows] ∧ StandOk ps rows ∧ ∀ p, μ p = none → q (.ob p) (upm μ p (.lst ((fullsM ps rows).map encEs)))
theorem fullRow {ps : List Nat} {rows : List (List Int)} {k : Nat} {es : List Ent} (ht : TreeOk ps) (h : FullOk ps rows k es) : RowE es := ⟨h.asc, h.ok ht⟩
theorem flat_len_le {α β : Type} (f g : α → List β) : ∀ xs : List α, (∀ x ∈ xs, (f x).length ≤ (g x).length) → ((xs.map f).flatten).length ≤ ((xs.map g).flatten).length
  | [], _ => Nat.le_refl _
  | x :: xs, h => by
    rw [List.map_cons, List.map_cons, List.flatten_cons, List.flatten_cons, List.length_append, List.length_append]
    have := h x List.mem_cons_self
    have := flat_len_le f g xs fun y hy => h y (List.mem_cons_of_mem _ hy)
    omega
theorem ok_full_rows (K : PySem.W.Frag) (ds μ q) (h : asp_full_rows ds μ q) : rd_full_rows (endsQ K q) (startD 6 ds) μ := by
  obtain ⟨ps, rows, rfl, hst, h⟩ := h
  have hs := line_big
  have ht := hst.tree
  have hl := ht.1
  have hsum := hst.sum
  have hfl : ∀ k, k ≤ ps.length → (fullM ps rows k).length ≤ 300 := fun k hk => Nat.le_trans (fullM_ok' ht hst.asc hk).len hsum
  unfold rd_full_rows encStand
  have e1 : atI [encTree ps, .tup (rows.map encRow)] 0 = some (encTree ps) := at_nat (n := 0) rfl
  have tl : encTree ps = .tup (encT ps) := rfl
  walk_at "dl"
  simp only [e1]
  simp only [tl, lenD_tup, encT_len]
  intro pd hpd
  refine ⟨⟨by omega, by omega⟩, by omega, ?_⟩
  rw [Int.toNat_natCast]
  refine for_rngC (lo := ((ps.length + 1 : Nat) : Int) - 1) (c := -1) (n := ps.length + 1) (fun i ρ μ' => ∃ (kvs : List (Key × D)) (x y z : Option D), ρ = [some (encStand ps rows), some (encTree ps), some (.ob pd), x, y, z] ∧ μ' = upm μ pd (.dk kvs) ∧ kvs.length ≤ i ∧ ∀ j : Nat, ps.length + 1 - i ≤ j → j ≤ ps.length → valG kvs (.inl (j : Int)) = some (encEs (fullM ps rows j))) ?_ ?_ ⟨[], none, none, none, rfl, rfl, Nat.le_refl _, fun j h1 h2 => by omega⟩
  · rintro i ρ μ' hi ⟨kvs, x, y, z, rfl, rfl, hkl, hv⟩ k hk
    have ek : ((ps.length + 1 : Nat) : Int) - 1 + (i : Int) * -1 = ((ps.length - i : Nat) : Int) := by omega
    rw [ek]
    have hkn : ps.length - i ≤ ps.length := by omega
    unfold rd_full_rows_L1 encStand
    rw [tl]
    walk_at "dl"
    refine ⟨trivial, ps, ps.length - i, rfl, ht, ?_⟩
    intro p2 hp2
    refine lc_map (fun n : Nat => D.int (n : Int)) (fun c => encEs (handM (fullM ps rows c))) hp2 (fun _ => trivial) ?_ (fun c hc acc k' hk' => ?_) ?_
    · have : (chM ps (ps.length - i)).length ≤ ps.length := by
        unfold chM
        refine Nat.le_trans (List.length_filter_le _ _) ?_
        rw [List.length_range']; omega
      omega
    · have hu := upK_lt ht (chM_up hc)
      have hne : p2 ≠ pd := fun e => by subst e; rw [upm_same] at hp2; cases hp2
      walk_at "dl"
      have hg : dGet (upm (upm μ pd (.dk kvs)) p2 (.lst acc)) (.ob pd) (.int (c : Int)) = some (some (encEs (fullM ps rows c))) := by
        rw [dGet_at (by rw [upm_ne (Ne.symm hne)]; exact upm_same), keyOf_int]
        show some (valG kvs _) = _
        rw [hv c (by omega) hu.2]
      simp only [hg]
      exact ⟨_, rfl, fullRow ht (fullM_ok' ht hst.asc hu.2), by have := hfl c hu.2; omega, hk'⟩
    · walk_at "dl"
      refine ⟨ps, rows, ps.length - i, rfl, by rw [hst.len]; omega, ?_, by omega, ?_⟩
      · rcases getD_mem_or rows (ps.length - i) with e | e
        · rw [e]; simp
        · have := len_mem_flat e; omega
      · have hparts := fullM_join (rows := rows) ht hst.asc hkn
        refine ⟨by simp; have := List.length_filter_le (fun j => decide (upK ps j = some (ps.length - i))) (List.range' 1 ps.length); rw [List.length_range'] at this; unfold chM; omega, ?_⟩
        refine ⟨ownM rows (ps.length - i) :: (chM ps (ps.length - i)).map fun c => handM (fullM ps rows c), by rw [List.map_cons, List.map_map]; rfl, ?_, ?_⟩
        · have h1 := (fullM_ok' ht hst.asc hkn).len
          rw [fullM_step ht hkn, (sortG_perm leE _).length_eq] at h1
          rw [List.flatten_cons]
          omega
        · rw [hparts]
          simp only [upm_same, keyOf_int]
          refine ⟨by omega, ?_⟩
          rw [upm_upm]
          refine hk _ _ ⟨putG kvs (.inl ((ps.length - i : Nat) : Int)) (encEs (fullM ps rows (ps.length - i))), _, _, _, rfl, rfl, by have := putG_len kvs (.inl ((ps.length - i : Nat) : Int)) (encEs (fullM ps rows (ps.length - i))); omega, fun j h1 h2 => ?_⟩
          by_cases e : j = ps.length - i
          · subst e; exact valG_put_same _ _ _
          · rw [valG_put_ne _ (fun z => e (by injection z with z; omega))]
            exact hv j (by omega) h2
  · rintro ρ μ' ⟨kvs, x, y, z, rfl, rfl, hkl, hv⟩
    unfold encStand
    rw [tl]
    walk_at "dl"
    rw [encT_len]
    refine ⟨trivial, ⟨by omega, by omega⟩, fun p hp => ?_⟩
    rw [Int.toNat_natCast]
    have hne : p ≠ pd := fun e => by subst e; rw [upm_same] at hp; cases hp
    have hp0 : μ p = none := by rw [upm_ne hne] at hp; exact hp
    refine lc_map (xs := List.range (ps.length + 1)) (fun k : Nat => D.int (0 + (k : Int))) (fun k => encEs (fullM ps rows k)) hp (fun _ => trivial) (by simp; omega) (fun c hc acc k' hk' => ?_) ?_
    · have hc := List.mem_range.mp hc
      walk_at "dl"
      have hg : dGet (upm (upm μ pd (.dk kvs)) p (.lst acc)) (.ob pd) (.int (0 + (c : Int))) = some (some (encEs (fullM ps rows c))) := by
        rw [dGet_at (by rw [upm_ne (Ne.symm hne)]; exact upm_same), keyOf_int]
        show some (valG kvs _) = _
        rw [Int.zero_add, hv c (by omega) (by omega)]
      simp only [hg]
      exact hk'
    · rw [newL_t]
      intro p3 hp3
      have hne3 : p3 ≠ pd := fun e => by subst e; rw [upm_same] at hp3; cases hp3
      have hp30 : μ p3 = none := by rw [upm_ne hne3] at hp3; exact hp3
      have em : (List.range (ps.length + 1)).map (fun k => encEs (fullM ps rows k)) = (fullsM ps rows).map encEs := by unfold fullsM; rw [List.map_map]; rfl
      rw [em]
      refine out_less (fun a m e => ?_) (h p3 hp30)
      by_cases q1 : a = p3
      · subst q1; rw [upm_same] at e ⊢; exact e
      · rw [upm_ne q1] at e ⊢
        exact less_upm hpd a m e
end BF

namespace BF
open PySem PySem.Spec PyProof.Rows L2 BM DL
local macro_rules | `(tactic| walk_at "dl") => `(tactic| simp only [rSeq, rSkip, rAsg, rDrop, rRet, rIf, rOp, rv, rc, rB, rCh, rAnd, rOr, rNot, rTru, rAndV, rOrV, rNotV, rNil, rCons, rLst, rTup, rCB, rUn, rSl, rNoP, rSoP, rCall, rMeth, rMake, rFld, rFset, rIt, rRng1, rRng2, rRng3, rRevR1, rEnum, rZip, rRev, rFor, rLC, rYes, stepC, rgName, rgTup, rBM, rBM0, rDGet, rDIn, rDGet2, rDPut, rDNew, rNever, rDisp3, rGhE, gSet, opAdd, opSub, opMul, opFdv, opMod, opPow, opShr, unNeg, opLt, opLe, opGt, opGe, opIx, slD, cLen, cAbs, cMin, cMax, cSum, cAny, cAll, cList, cTuple, cInt, cIsi, startD, endsQ, slot_0, slot_s, put_0, put_s, puts_nil, puts_cons, wipeD_nil, wipeD_cons, rs_non, rs_bl, rs_int, rs_str, rs_ty, rs_lst, rs_tup, rs_dk, rs_dt, rs_scr, itm_lst, itm_scr, seqD_lst, seqD_tup, seqD_scr, lenD_lst, lenD_tup, lenD_scr, lenD_dk, tyD_int, tyD_bl, tyD_non, tyD_str, tyD_lst, tyD_tup, tyD_dk, truD_bl, truD_int, truD_lst, isTy_lst, isTy_str, itD_lst, itD_tup, newL_f, newL_t, List.map_cons, List.map_nil, List.length_cons, List.length_nil, List.cons_append, List.nil_append, List.replicate, List.set_cons_zero, List.set_cons_succ])
local macro_rules | `(tactic| walk_at "dlh") => `(tactic| simp only [rSeq, rSkip, rAsg, rDrop, rRet, rIf, rOp, rv, rc, rB, rCh, rAnd, rOr, rNot, rTru, rAndV, rOrV, rNotV, rNil, rCons, rLst, rTup, rCB, rUn, rSl, rNoP, rSoP, rCall, rMeth, rMake, rFld, rFset, rIt, rRng1, rRng2, rRng3, rRevR1, rEnum, rZip, rRev, rFor, rLC, rYes, stepC, rgName, rgTup, rBM, rBM0, rDGet, rDIn, rDGet2, rDPut, rDNew, rNever, rDisp3, rGhE, gSet, opAdd, opSub, opMul, opFdv, opMod, opPow, opShr, unNeg, opLt, opLe, opGt, opGe, opIx, slD, cLen, cAbs, cMin, cMax, cSum, cAny, cAll, cList, cTuple, cInt, cIsi, startD, endsQ, slot_0, slot_s, put_0, put_s, puts_nil, puts_cons, wipeD_nil, wipeD_cons, rs_non, rs_bl, rs_int, rs_str, rs_ty, rs_lst, rs_tup, rs_dk, rs_dt, rs_scr, itm_lst, itm_scr, seqD_lst, seqD_tup, seqD_scr, lenD_lst, lenD_tup, lenD_scr, lenD_dk, tyD_int, tyD_bl, tyD_non, tyD_str, tyD_lst, tyD_tup, tyD_dk, truD_bl, truD_int, truD_lst, isTy_lst, isTy_str, itD_lst, itD_tup, newL_f, newL_t, List.map_cons, List.map_nil, List.length_cons, List.length_nil, List.cons_append, List.nil_append, List.replicate, List.set_cons_zero, List.set_cons_succ, *])
theorem Enc.ents : Enc 2 encEs := Enc.lst Enc.ent
theorem encEs_nil (g : List Ent) : eqD (encEs g) (.lst []) = decide (g = []) := Enc.ents.eq g []
theorem shp_ents (g : List Ent) : shp (encEs g) = true := Enc.ents.shp g
theorem rs_ents {μ : Mu} {g : List Ent} : rs μ (encEs g) = encEs g := rfl
/-- slots: entries 0 gone 1 entry 2 -/
def rd_less : RSt :=
  (rRet (rLC false (rIt (rv 0)) (rgName 2) (rB (rOp (opIn true) (rv 2) (rv 1))) (rv 2) [2]))
def asp_less : ASp := fun ds μ q => (∃ es gs : List Ent, ds = [encEs es, encEs gs] ∧ es.length ≤ 1000000 ∧ q (encEs (dif es gs)) μ) ∨ (∃ (ns : List Int) (x : Int), ds = [.lst (ns.map D.int), .lst [.int x]] ∧ ns.length ≤ 1000000 ∧ q (.lst ((delI x ns).map D.int)) μ)
theorem filterMap_if {α : Type} (f : α → D) (P : α → Prop) [DecidablePred P] : ∀ xs : List α, xs.filterMap (fun x => if P x then some (f x) else none) = (xs.filter fun x => decide (P x)).map f
  | [] => rfl
  | x :: xs => by
    rw [List.filterMap_cons, List.filter_cons]
    by_cases h : P x
    · simp [h, filterMap_if f P xs]
    · simp [h, filterMap_if f P xs]
theorem ok_less (K : PySem.W.Frag) (ds μ q) (h : asp_less ds μ q) : rd_less (endsQ K q) (startD 3 ds) μ := by
  have hs := line_big
  unfold rd_less
  rcases h with ⟨es, gs, rfl, hl, h⟩ | ⟨ns, x, rfl, hl, h⟩
  · unfold encEs
    walk_at "dl"
    intro p hp
    refine lc_fm encE (fun e => if e ∉ gs then some (encE e) else none) hp (fun _ => trivial) (by omega) (fun e he acc k hk => ?_) ?_
    · walk_at "dl"
      unfold opIn
      have hsh : shp (.lst (gs.map encE)) = true := shp_ents gs
      have hr : rs (upm μ p (.lst acc)) (encE e) = encE e := rfl
      simp only [rs_lst, hsh, hr, Enc.ent.inD, Enc.shp Enc.ent]
      refine ⟨trivial, trivial, ?_⟩
      by_cases hc : e ∈ gs
      · simp only [hc, decide_true, if_true, Bool.not_true, not_true_eq_false, if_false] at hk ⊢
        exact hk
      · simp only [hc, decide_false, if_true, Bool.not_false, not_false_eq_true] at hk ⊢
        exact hk
    · rw [filterMap_if encE (fun e => e ∉ gs)]
      exact out_same h
  · walk_at "dl"
    intro p hp
    refine lc_fm D.int (fun y => if y ≠ x then some (.int y) else none) hp (fun _ => trivial) (by omega) (fun e he acc k hk => ?_) ?_
    · walk_at "dl"
      unfold opIn
      have hsh : shp (.lst [.int x]) = true := (Enc.lst Enc.int).shp [x]
      have hin : inD (.int e) [.int x] = decide (e ∈ [x]) := Enc.int.inD e [x]
      simp only [rs_lst, hsh, rs_int, hin, shp_int, List.mem_singleton]
      refine ⟨trivial, trivial, ?_⟩
      by_cases hc : e = x
      · simp only [hc, decide_true, if_true, Bool.not_true, ne_eq, not_true_eq_false, if_false] at hk ⊢
        exact hk
      · simp only [hc, decide_false, if_true, Bool.not_false, ne_eq, not_false_eq_true] at hk ⊢
        exact hk
    · rw [filterMap_if D.int (fun y => y ≠ x)]
      exact out_same h
/-! ### the shelf -/
def encRl (r : List Int) : D := .lst (r.map D.int)
def fl1 (x : D) : List (Str × D) := [("tree", x)]
def fl2 (x y : D) : List (Str × D) := [("tree", x), ("rows", y)]
def fl3 (x y z : D) : List (Str × D) := [("tree", x), ("rows", y), ("fulls", z)]
structure ShelfAt (CS : Addr) (μ : Mu) (s t r f : Addr) (ps : List Nat) (rows : List (List Int)) (fulls : List (List Ent)) : Prop where
  selfA : μ s = some (.ins CS (fl3 (.ob t) (.ob r) (.ob f)))
  treeA : μ t = some (.lst (encT ps))
  rowsA : μ r = some (.lst (rows.map encRl))
  fullsA : μ f = some (.lst (fulls.map encEs))
  ne : t ≠ r ∧ t ≠ f ∧ r ≠ f
/-- a shelf of a stand -/
structure Shl (CS : Addr) (μ : Mu) (s t r f : Addr) (ps : List Nat) (rows : List (List Int)) : Prop where
  at' : ShelfAt CS μ s t r f ps rows (fullsM ps rows)
  ok : StandOk ps rows
theorem fld1 {x : D} : putFD "tree" x [] = fl1 x := rfl
theorem fld2 {x y : D} : putFD "rows" y (fl1 x) = fl2 x y := by
  unfold fl1 putFD; rw [if_neg (by decide)]; rfl
theorem fld3 {x y z : D} : putFD "fulls" z (fl2 x y) = fl3 x y z := by
  unfold fl2 putFD; rw [if_neg (by decide)]; unfold putFD; rw [if_neg (by decide)]; rfl
theorem lk_tree {x y z : D} : List.lookup ("tree" : Str) (fl3 x y z) = some x := rfl
theorem lk_rows {x y z : D} : List.lookup ("rows" : Str) (fl3 x y z) = some y := rfl
theorem lk_fulls {x y z : D} : List.lookup ("fulls" : Str) (fl3 x y z) = some z := rfl
/-- slots: self 0 stand 1 row 2 -/
def rd_Shelf_init (CS : Addr) : RSt :=
  (rSeq (rFset CS (rv 0) (rCB (cList true) (rCons (rOp opIx (rv 1) (rc (.int 0))) rNil)) "tree")
    (rSeq (rFset CS (rv 0) (rLC true (rIt (rOp opIx (rv 1) (rc (.int 1)))) (rgName 2) rYes (rCB (cList false) (rCons (rv 2) rNil)) [2]) "rows")
    (rFset CS (rv 0) (rCall (asp_full_rows) (rCons (rv 1) rNil)) "fulls")))
def asp_Shelf_init (CS : Addr) : ASp := fun ds μ q => ∃ (s : Addr) (ps : List Nat) (rows : List (List Int)), ds = [.ob s, encStand ps rows] ∧ μ s = some (.ins CS []) ∧ StandOk ps rows ∧
  ∀ (μ' : Mu) (t r f : Addr), Shl CS μ' s t r f ps rows → μ t = none → μ r = none → μ f = none → (∀ a, a ≠ s → a ≠ t → a ≠ r → a ≠ f → μ' a = μ a) → q .non μ'
theorem ok_Shelf_init (K : PySem.W.Frag) (CS : Addr) (ds μ q) (h : asp_Shelf_init CS ds μ q) : rd_Shelf_init CS (endsQ K q) (startD 3 ds) μ := by
  obtain ⟨s, ps, rows, rfl, hse, hst, h⟩ := h
  have hs := line_big
  have hl := hst.tree.1
  unfold rd_Shelf_init encStand
  have e1 : atI [encTree ps, .tup (rows.map encRow)] 0 = some (encTree ps) := at_nat (n := 0) rfl
  have e2 : atI [encTree ps, .tup (rows.map encRow)] 1 = some (.tup (rows.map encRow)) := at_nat (n := 1) rfl
  have tl : encTree ps = .tup (encT ps) := rfl
  walk_at "dl"
  simp only [e1, e2, tl, seqD_tup, newL_t]
  intro t ht
  have hts : s ≠ t := fun e => by subst e; rw [hse] at ht; cases ht
  have g1 : upm μ t (.lst (encT ps)) s = some (.ins CS []) := by rw [upm_ne hts]; exact hse
  simp only [g1, fld1, e2, itD_tup, upm_same]
  refine ⟨⟨trivial, by decide⟩, fun r0 hr0 => ?_⟩
  refine lc_map encRow encRl hr0 (fun _ => trivial) (by rw [hst.len]; omega) (fun x hx acc k hk => ?_) ?_
  · walk_at "dl"
    unfold encRow
    simp only [seqD_tup, newL_f]
    exact hk
  · rw [newL_t]
    intro r hr
    have hrs : s ≠ r := fun e => by subst e; rw [upm_same] at hr; cases hr
    have hr1 : upm μ t (.lst (encT ps)) r = none := by rw [upm_ne (Ne.symm hrs)] at hr; exact hr
    have hrt : t ≠ r := fun e => by subst e; rw [upm_same] at hr1; cases hr1
    have hr2 : μ r = none := by rw [upm_ne (Ne.symm hrt)] at hr1; exact hr1
    simp only [upm_ne hrs, upm_same, fld2]
    refine ⟨⟨trivial, by simp [fl1]⟩, ps, rows, rfl, hst, fun f hf => ?_⟩
    have hfs : s ≠ f := fun e => by subst e; rw [upm_same] at hf; cases hf
    rw [upm_ne (Ne.symm hfs)] at hf
    have hfr : r ≠ f := fun e => by subst e; rw [upm_same] at hf; cases hf
    rw [upm_ne (Ne.symm hfr), upm_ne (Ne.symm hfs)] at hf
    have hft : t ≠ f := fun e => by subst e; rw [upm_same] at hf; cases hf
    rw [upm_ne (Ne.symm hft)] at hf
    simp only [upm_ne hfs, upm_same, fld3]
    refine ⟨⟨trivial, by simp [fl2]⟩, out_nx (h _ t r f ⟨⟨?_, ?_, ?_, ?_, hrt, hft, hfr⟩, hst⟩ ht hr2 hf ?_)⟩
    · exact upm_same
    · rw [upm_ne (Ne.symm hts), upm_ne hft, upm_ne (Ne.symm hts), upm_ne hrt, upm_ne (Ne.symm hts)]; exact upm_same
    · rw [upm_ne (Ne.symm hrs), upm_ne hfr, upm_ne (Ne.symm hrs)]; exact upm_same
    · rw [upm_ne (Ne.symm hfs)]; exact upm_same
    · intro a h1 h2 h3 h4
      rw [upm_ne h1, upm_ne h4, upm_ne h1, upm_ne h3, upm_ne h1, upm_ne h2]
/-- slots: self 0 row 1 -/
def rd_Shelf_stand (CS : Addr) : RSt :=
  (rRet (rTup (rCons (rCB cTuple (rCons (rFld CS (rv 0) "tree") rNil)) (rCons (rCB cTuple (rCons (rLC false (rIt (rFld CS (rv 0) "rows")) (rgName 1) rYes (rCB cTuple (rCons (rv 1) rNil)) [1]) rNil)) rNil))))
def asp_Shelf_stand (CS : Addr) : ASp := fun ds μ q => ∃ (s t r f : Addr) (ps : List Nat) (rows : List (List Int)), ds = [.ob s] ∧ Shl CS μ s t r f ps rows ∧ q (encStand ps rows) μ
theorem ok_Shelf_stand (K : PySem.W.Frag) (CS : Addr) (ds μ q) (h : asp_Shelf_stand CS ds μ q) : rd_Shelf_stand CS (endsQ K q) (startD 2 ds) μ := by
  obtain ⟨s, t, r, f, ps, rows, rfl, S, h⟩ := h
  have hs := line_big
  have hl := S.ok.tree.1
  unfold rd_Shelf_stand
  walk_at "dl"
  simp only [S.at'.selfA, lk_tree, lk_rows, seqD_at S.at'.treeA]
  refine ⟨trivial, trivial, ?_⟩
  simp only [itD_at S.at'.rowsA]
  intro p hp
  have hpr : r ≠ p := ne_none S.at'.rowsA hp
  refine lc_map encRl encRow hp (fun acc => upm_old S.at'.rowsA hp) (by rw [S.ok.len]; omega) (fun x hx acc k hk => ?_) ?_
  · walk_at "dl"
    unfold encRl
    simp only [seqD_lst]
    exact hk
  · simp only [newL_f, seqD_lst]
    exact ⟨by decide, out_same h⟩
/-- slots: self 0 knot 1 -/
def rd_Shelf_ask_knot (CS : Addr) : RSt :=
  (rIf (rOr (rNot (rTru (rCB cIsi (rCons (rv 1) (rCons (rc (.ty "int")) rNil))))) (rOr (rTru (rCB cIsi (rCons (rv 1) (rCons (rc (.ty "bool")) rNil)))) (rNot (rB (rCh opLe opLt (rc (.int 0)) (rv 1) (rCB cLen (rCons (rFld CS (rv 0) "tree") rNil)))))))
    rNever
    rSkip)
def asp_Shelf_ask_knot (CS : Addr) : ASp := fun ds μ q => ∃ (s t r f : Addr) (ps : List Nat) (rows : List (List Int)) (k : Nat), ds = [.ob s, .int (k : Int)] ∧ Shl CS μ s t r f ps rows ∧ k ≤ ps.length ∧ q .non μ
theorem ok_Shelf_ask_knot (K : PySem.W.Frag) (CS : Addr) (ds μ q) (h : asp_Shelf_ask_knot CS ds μ q) : rd_Shelf_ask_knot CS (endsQ K q) (startD 2 ds) μ := by
  obtain ⟨s, t, r, f, ps, rows, k, rfl, S, hk, h⟩ := h
  unfold rd_Shelf_ask_knot
  walk_at "dl"
  have h1 : decide ((0 : Int) ≤ (k : Int)) = true := by simp
  have h2 : decide ((k : Int) < ((encT ps).length : Int)) = true := by rw [encT_len]; simp; omega
  simp only [S.at'.selfA, lk_tree, lenD_at S.at'.treeA, okB, isaB, tysOf, h1, h2]
  refine ⟨by decide, by decide, ?_⟩
  simp
  exact out_nx h
/-- slots: self 0 knot 1 -/
def rd_Shelf_full (CS : Addr) : RSt :=
  (rSeq (rDrop (rMeth CS "ask_knot" (asp_Shelf_ask_knot CS) (rv 0) (rCons (rv 1) rNil)))
    (rRet (rCB (cList true) (rCons (rOp opIx (rFld CS (rv 0) "fulls") (rv 1)) rNil))))
def asp_Shelf_full (CS : Addr) : ASp := fun ds μ q => ∃ (s t r f : Addr) (ps : List Nat) (rows : List (List Int)) (k : Nat), ds = [.ob s, .int (k : Int)] ∧ Shl CS μ s t r f ps rows ∧ k ≤ ps.length ∧ ∀ p, μ p = none → q (.ob p) (upm μ p (.lst ((fullM ps rows k).map encE)))
theorem fulls_at {ps : List Nat} {rows : List (List Int)} {k : Nat} (hk : k ≤ ps.length) : atI ((fullsM ps rows).map encEs) (k : Int) = some (encEs (fullM ps rows k)) := at_nat (by
  unfold fullsM
  rw [List.map_map, List.getElem?_map, List.getElem?_range (by omega)]; rfl)
theorem ok_Shelf_full (K : PySem.W.Frag) (CS : Addr) (ds μ q) (h : asp_Shelf_full CS ds μ q) : rd_Shelf_full CS (endsQ K q) (startD 2 ds) μ := by
  obtain ⟨s, t, r, f, ps, rows, k, rfl, S, hk, h⟩ := h
  unfold rd_Shelf_full
  walk_at "dl"
  simp only [S.at'.selfA]
  refine ⟨⟨trivial, rfl⟩, s, t, r, f, ps, rows, k, rfl, S, hk, ?_⟩
  simp only [S.at'.selfA, lk_fulls, rs_at S.at'.fullsA, fulls_at hk]
  refine ⟨trivial, ?_⟩
  unfold encEs
  simp only [seqD_lst, newL_t]
  exact fun p hp => out_same (h p hp)
end BF

namespace BF
open PySem PySem.Spec PyProof.Rows L2 BM DL
local macro_rules | `(tactic| walk_at "dl") => `(tactic| simp only [rSeq, rSkip, rAsg, rDrop, rRet, rIf, rOp, rv, rc, rB, rCh, rAnd, rOr, rNot, rTru, rAndV, rOrV, rNotV, rNil, rCons, rLst, rTup, rCB, rUn, rSl, rNoP, rSoP, rCall, rMeth, rMake, rFld, rFset, rIt, rRng1, rRng2, rRng3, rRevR1, rEnum, rZip, rRev, rFor, rLC, rYes, stepC, rgName, rgTup, rBM, rBM0, rDGet, rDIn, rDGet2, rDPut, rDNew, rNever, rDisp3, rGhE, gSet, opAdd, opSub, opMul, opFdv, opMod, opPow, opShr, unNeg, opLt, opLe, opGt, opGe, opIx, slD, cLen, cAbs, cMin, cMax, cSum, cAny, cAll, cList, cTuple, cInt, cIsi, startD, endsQ, slot_0, slot_s, put_0, put_s, puts_nil, puts_cons, wipeD_nil, wipeD_cons, rs_non, rs_bl, rs_int, rs_str, rs_ty, rs_lst, rs_tup, rs_dk, rs_dt, rs_scr, itm_lst, itm_scr, seqD_lst, seqD_tup, seqD_scr, lenD_lst, lenD_tup, lenD_scr, lenD_dk, tyD_int, tyD_bl, tyD_non, tyD_str, tyD_lst, tyD_tup, tyD_dk, truD_bl, truD_int, truD_lst, isTy_lst, isTy_str, itD_lst, itD_tup, newL_f, newL_t, List.map_cons, List.map_nil, List.length_cons, List.length_nil, List.cons_append, List.nil_append, List.replicate, List.set_cons_zero, List.set_cons_succ])
local macro_rules | `(tactic| walk_at "dlh") => `(tactic| simp only [rSeq, rSkip, rAsg, rDrop, rRet, rIf, rOp, rv, rc, rB, rCh, rAnd, rOr, rNot, rTru, rAndV, rOrV, rNotV, rNil, rCons, rLst, rTup, rCB, rUn, rSl, rNoP, rSoP, rCall, rMeth, rMake, rFld, rFset, rIt, rRng1, rRng2, rRng3, rRevR1, rEnum, rZip, rRev, rFor, rLC, rYes, stepC, rgName, rgTup, rBM, rBM0, rDGet, rDIn, rDGet2, rDPut, rDNew, rNever, rDisp3, rGhE, gSet, opAdd, opSub, opMul, opFdv, opMod, opPow, opShr, unNeg, opLt, opLe, opGt, opGe, opIx, slD, cLen, cAbs, cMin, cMax, cSum, cAny, cAll, cList, cTuple, cInt, cIsi, startD, endsQ, slot_0, slot_s, put_0, put_s, puts_nil, puts_cons, wipeD_nil, wipeD_cons, rs_non, rs_bl, rs_int, rs_str, rs_ty, rs_lst, rs_tup, rs_dk, rs_dt, rs_scr, itm_lst, itm_scr, seqD_lst, seqD_tup, seqD_scr, lenD_lst, lenD_tup, lenD_scr, lenD_dk, tyD_int, tyD_bl, tyD_non, tyD_str, tyD_lst, tyD_tup, tyD_dk, truD_bl, truD_int, truD_lst, isTy_lst, isTy_str, itD_lst, itD_tup, newL_f, newL_t, List.map_cons, List.map_nil, List.length_cons, List.length_nil, List.cons_append, List.nil_append, List.replicate, List.set_cons_zero, List.set_cons_succ, *])
def encTo (t : Nat × List Ent × List Ent) : D := .tup [.int (t.1 : Int), encEs t.2.1, encEs t.2.2]
def encTold (ts : List (Nat × List Ent × List Ent)) : D := .lst (ts.map encTo)
/-- slots: self 0 knot 1 gone 2 come 3 told 4 before 5 behind 6 -/
def rd_Shelf_changed_L1 (CS : Addr) : RSt :=
  (rSeq (rDrop (rBM "list" mAppend (rv 4) (rCons (rTup (rCons (rv 1) (rCons (rv 2) (rCons (rv 3) rNil)))) rNil)))
    (rSeq (rAsg (rCall (asp_handed) (rCons (rOp opIx (rFld CS (rv 0) "fulls") (rv 1)) rNil)) (rgName 5))
    (rSeq (rAsg (rCB (cSort false) (rCons (rOp (opAdd false) (rCall (asp_less) (rCons (rOp opIx (rFld CS (rv 0) "fulls") (rv 1)) (rCons (rv 2) rNil))) (rv 3)) rNil)) (gSet (rFld CS (rv 0) "fulls") (rv 1)))
    (rSeq (rAsg (rCall (asp_handed) (rCons (rOp opIx (rFld CS (rv 0) "fulls") (rv 1)) rNil)) (rgName 6))
    (rSeq (rAsg (rCall (asp_less) (rCons (rv 5) (rCons (rv 6) rNil))) (rgName 2))
    (rSeq (rAsg (rCall (asp_less) (rCons (rv 6) (rCons (rv 5) rNil))) (rgName 3))
    (rAsg (rOp opIx (rFld CS (rv 0) "tree") (rv 1)) (rgName 1))))))))
def rd_Shelf_changed (CS : Addr) : RSt :=
  (rSeq (rAsg (rLst true rNil) (rgName 4))
    (rSeq (rWhile (rAnd (rB (rOp (opIs true) (rv 1) (rc .non))) (rOr (rB (rOp opNe (rv 2) (rLst false rNil))) (rB (rOp opNe (rv 3) (rLst false rNil)))))
    (rd_Shelf_changed_L1 CS))
    (rRet (rv 4))))
def asp_Shelf_changed (CS : Addr) : ASp := fun ds μ q => ∃ (s t r f : Addr) (ps : List Nat) (rows rows' : List (List Int)) (k : Nat),
  ds = [.ob s, .int (k : Int), encEs (dif (fullM ps rows k) (fullM ps rows' k)), encEs (dif (fullM ps rows' k) (fullM ps rows k))] ∧ ShelfAt CS μ s t r f ps rows' (fullsM ps rows) ∧ StandOk ps rows ∧ StandOk ps rows' ∧ Deed ps k rows rows' ∧
  q (encTold (toldM ps (fullM ps rows) (fullM ps rows') k)) (upm μ f (.lst ((fullsM ps rows').map encEs)))
theorem list_ext_map {ps : List Nat} {g : Nat → List Ent} {cur : List (List Ent)} (hl : cur.length = ps.length + 1) (h : ∀ j, j ≤ ps.length → cur[j]? = some (g j)) : cur = (List.range (ps.length + 1)).map g := by
  refine List.ext_getElem? fun j => ?_
  by_cases hj : j ≤ ps.length
  · rw [h j hj, List.getElem?_map, List.getElem?_range (by omega)]; rfl
  · rw [List.getElem?_eq_none (by omega), List.getElem?_eq_none (by simp; omega)]
theorem add_ents {μ : Mu} {q : QD} {a b : List Ent} : opAdd false (encEs a) (encEs b) μ q = (a.length + b.length ≤ sizeLine ∧ q (encEs (a ++ b)) μ) := by
  unfold opAdd encEs
  simp only [rs_lst, newL_f, List.length_map, List.map_append]
theorem sort_ents {μ : Mu} {q : QD} {a : List Ent} : cSort false [encEs a] μ q = q (encEs (sortP a)) μ := cSort_ents
theorem set_ents {cur : List (List Ent)} {k : Nat} {es : List Ent} : (cur.map encEs).set k (encEs es) = (cur.set k es).map encEs := by rw [List.map_set]
theorem rs_entsL {μ : Mu} {g : List Ent} : rs μ (encEs g) = .lst (g.map encE) := rfl
theorem lst_ents {g : List Ent} : D.lst (g.map encE) = encEs g := rfl
theorem fullOk_len {ps : List Nat} {rows : List (List Int)} {k : Nat} (h : StandOk ps rows) (hk : k ≤ ps.length) : (fullM ps rows k).length ≤ 300 := Nat.le_trans (fullM_ok' h.tree h.asc hk).len h.sum
theorem cur_at {cur : List (List Ent)} {k : Nat} {es : List Ent} (h : cur[k]? = some es) : atI (cur.map encEs) (k : Int) = some (encEs es) := at_nat (by rw [List.getElem?_map, h]; rfl)
theorem changed_body {CS : Addr} {μ : Mu} {s t r f p : Addr} {ps : List Nat} {rows rows' : List (List Int)} {k : Nat} {cur : List (List Ent)} {ts : List (Nat × List Ent × List Ent)} {x y : Option D} {E : EndsD}
    (S : ShelfAt CS μ s t r f ps rows' (fullsM ps rows)) (hst : StandOk ps rows) (hst' : StandOk ps rows') (hk : k ≤ ps.length) (hp : μ p = none) (hts : ts.length < 1000) (hcl : cur.length = ps.length + 1) (hck : cur[k]? = some (fullM ps rows k))
    (h : E.nx [some (.ob s), some (upD ps k), some (encEs (dif (handM (fullM ps rows k)) (handM (fullM ps rows' k)))), some (encEs (dif (handM (fullM ps rows' k)) (handM (fullM ps rows k)))), some (.ob p), some (encEs (handM (fullM ps rows k))), some (encEs (handM (fullM ps rows' k)))]
      (upm (upm μ f (.lst ((cur.set k (fullM ps rows' k)).map encEs))) p (.lst ((ts ++ [(k, dif (fullM ps rows k) (fullM ps rows' k), dif (fullM ps rows' k) (fullM ps rows k))]).map encTo)))) :
    rd_Shelf_changed_L1 CS E [some (.ob s), some (.int (k : Int)), some (encEs (dif (fullM ps rows k) (fullM ps rows' k))), some (encEs (dif (fullM ps rows' k) (fullM ps rows k))), some (.ob p), x, y] (upm (upm μ f (.lst (cur.map encEs))) p (.lst (ts.map encTo))) := by
  have hs := line_big
  have ht := hst.tree
  have hl := ht.1
  have hpf : f ≠ p := ne_none S.fullsA hp
  have hps : s ≠ p := ne_none S.selfA hp
  have hpt : t ≠ p := ne_none S.treeA hp
  have hsf : s ≠ f := fun e => by have := S.selfA; rw [e, S.fullsA] at this; cases this
  have ro := fullRow ht (fullM_ok' ht hst.asc hk)
  have rn := fullRow ht (fullM_ok' ht hst'.asc hk)
  have lo := fullOk_len hst hk
  have ln := fullOk_len hst' hk
  have hself : ∀ m n, upm (upm μ f m) p n s = some (.ins CS (fl3 (.ob t) (.ob r) (.ob f))) := fun m n => by rw [upm_ne hps, upm_ne hsf]; exact S.selfA
  have hfu : ∀ m n, upm (upm μ f m) p n f = some m := fun m n => by rw [upm_ne hpf]; exact upm_same
  have htr : ∀ m n, upm (upm μ f m) p n t = some (.lst (encT ps)) := fun m n => by rw [upm_ne hpt, upm_ne S.ne.2.1]; exact S.treeA
  have hput : ∀ m n m', upm (upm (upm μ f m) p n) f m' = upm (upm μ f m') p n := fun m n m' => by rw [upm_comm (Ne.symm hpf), upm_upm]
  have hka : atI (encT ps) (k : Int) = some (upD ps k) := at_nat (encT_at hk)
  have hks : k < cur.length := by omega
  have hk2 : (cur.set k (fullM ps rows' k))[k]? = some (fullM ps rows' k) := List.getElem?_set_self hks
  unfold rd_Shelf_changed_L1
  walk_at "dl"
  simp only [isTy_at upm_same, mAppend_at upm_same, upm_upm, hself, lk_fulls, lk_tree]
  refine ⟨by decide, by decide, by rw [List.length_map]; omega, trivial, ?_⟩
  simp only [rs_at (hfu _ _), cur_at hck]
  refine ⟨_, rfl, ro, by omega, ?_⟩
  simp only [hself, lk_fulls, rs_at (hfu _ _), cur_at hck]
  refine ⟨trivial, .inl ⟨_, _, rfl, by omega, ?_⟩⟩
  have hsort : sortP (dif (fullM ps rows k) (dif (fullM ps rows k) (fullM ps rows' k)) ++ dif (fullM ps rows' k) (fullM ps rows k)) = fullM ps rows' k := dif_back ro.asc rn.asc
  have l1 := dif_len (fullM ps rows k) (dif (fullM ps rows k) (fullM ps rows' k))
  have l2 := dif_len (fullM ps rows' k) (fullM ps rows k)
  have h1 := (handM_sub (fullM ps rows k)).length_le
  have h2 := (handM_sub (fullM ps rows' k)).length_le
  simp only [rs_entsL, newL_f, ← List.map_append, cSort_ents, hsort]
  simp only [lst_ents]
  have hix : ixN (cur.map encEs).length (k : Int) = some k := ixN_nat (by rw [List.length_map]; exact hks)
  refine ⟨by rw [List.length_map, List.length_map]; omega, ?_⟩
  simp only [hself, lk_fulls, hfu, hix, set_ents, hput]
  refine ⟨trivial, trivial, ?_⟩
  simp only [rs_at (hfu _ _), cur_at hk2]
  refine ⟨_, rfl, rn, by omega, ?_⟩
  dsimp only
  refine .inl ⟨_, _, rfl, by omega, ?_⟩
  dsimp only
  refine .inl ⟨_, _, rfl, by omega, ?_⟩
  dsimp only
  simp only [hself, lk_tree, rs_at (htr _ _), hka]
  refine ⟨trivial, ?_⟩
  rw [List.map_append] at h
  exact h
theorem ok_Shelf_changed (K : PySem.W.Frag) (CS : Addr) (ds μ q) (h : asp_Shelf_changed CS ds μ q) : rd_Shelf_changed CS (endsQ K q) (startD 7 ds) μ := by
  obtain ⟨s, t, r, f, ps, rows, rows', k0, rfl, S, hst, hst', d, h⟩ := h
  have hs := line_big
  have ht := hst.tree
  have hl := ht.1
  have hn : (fullsM ps rows).length = ps.length + 1 := by simp [fullsM]
  have hold : ∀ j, j ≤ ps.length → (fullM ps rows j).length ≤ 300 := fun j hj => Nat.le_trans (fullM_ok' ht hst.asc hj).len hst.sum
  have hnew : ∀ j, j ≤ ps.length → (fullM ps rows' j).length ≤ 300 := fun j hj => Nat.le_trans (fullM_ok' ht hst'.asc hj).len hst'.sum
  unfold rd_Shelf_changed
  walk_at "dl"
  refine ⟨by omega, fun p hp => ?_⟩
  have hpf : f ≠ p := ne_none S.fullsA hp
  have hps : s ≠ p := ne_none S.selfA hp
  have hpt : t ≠ p := ne_none S.treeA hp
  have hsf : s ≠ f := fun e => by have := S.selfA; rw [e, S.fullsA] at this; cases this
  have fin : ∀ cur, cur = fullsM ps rows' → ∃ d' μ', GE K (.ob p) (upm (upm μ f (.lst (cur.map encEs))) p (.lst ((toldM ps (fullM ps rows) (fullM ps rows') k0).map encTo))) d' μ' ∧ q d' μ' := fun cur e => by
    subst e
    exact out_new (by rw [upm_ne (Ne.symm hpf)]; exact hp) h
  unfold rWhile
  refine ⟨fun m ρ μ' => ∃ (kn : Option Nat) (ts : List (Nat × List Ent × List Ent)) (cur : List (List Ent)) (gone come : List Ent) (x y : Option D),
    ρ = [some (.ob s), some (match kn with | none => .non | some k => .int (k : Int)), some (encEs gone), some (encEs come), some (.ob p), x, y] ∧
    μ' = upm (upm μ f (.lst (cur.map encEs))) p (.lst (ts.map encTo)) ∧ cur.length = ps.length + 1 ∧ ts.length + m ≤ k0 + 1 ∧ m = (match kn with | none => 0 | some k => k + 1) ∧
    (match kn with
      | none => cur = fullsM ps rows' ∧ ts = toldM ps (fullM ps rows) (fullM ps rows') k0
      | some k => (k ≤ ps.length ∧ Sub ps k k0) ∧ (gone = dif (fullM ps rows k) (fullM ps rows' k) ∧ come = dif (fullM ps rows' k) (fullM ps rows k)) ∧
        (∀ j, j ≤ ps.length → Sub ps j k → cur[j]? = some (fullM ps rows j)) ∧ (∀ j, j ≤ ps.length → ¬ Sub ps j k → cur[j]? = some (fullM ps rows' j)) ∧
        ts ++ toldM ps (fullM ps rows) (fullM ps rows') k = toldM ps (fullM ps rows) (fullM ps rows') k0),
    ⟨k0 + 1, some k0, [], fullsM ps rows, _, _, none, none, rfl, ?_, hn, by simp, rfl, ⟨d.at0, .self⟩, ⟨rfl, rfl⟩, ?_, ?_, rfl⟩, ?_⟩
  · rw [upm_self S.fullsA]; rfl
  · intro j hj _
    unfold fullsM
    rw [List.getElem?_map, List.getElem?_range (by omega)]; rfl
  · intro j hj hsub
    unfold fullsM
    rw [List.getElem?_map, List.getElem?_range (by omega), ← d.same' hj hsub]; rfl
  · rintro m ρ μ' ⟨kn, ts, cur, gone, come, x, y, rfl, rfl, hcl, htm, rfl, hkn⟩
    cases kn with
    | none =>
      obtain ⟨hc, rfl⟩ := hkn
      walk_at "dl"
      unfold opIs isNonD
      exact fin _ hc
    | some k =>
      obtain ⟨⟨hk, hsub⟩, ⟨hg, hc⟩, hc1, hc2, hts⟩ := hkn
      have htm : ts.length + (k + 1) ≤ k0 + 1 := htm
      have hat0 := d.at0
      subst hg; subst hc
      have hstep := toldM_step ht (old := fullM ps rows) (new := fullM ps rows') (k := k)
      have ao := (fullM_ok' ht hst.asc hk).asc
      have an := (fullM_ok' ht hst'.asc hk).asc
      walk_at "dl"
      unfold opIs isNonD opNe
      have sn : shp (D.lst []) = true := shp_ents []
      simp only [rs_ents, rs_lst, shp_ents, encEs_nil, sn]
      by_cases hgc : dif (fullM ps rows k) (fullM ps rows' k) = [] ∧ dif (fullM ps rows' k) (fullM ps rows k) = []
      · rw [if_pos hgc] at hstep
        rw [hstep, List.append_nil] at hts
        subst hts
        simp only [hgc.1, hgc.2]
        have e := dif_nil ao an hgc.1 hgc.2
        have hc : cur = fullsM ps rows' := list_ext_map hcl fun j hj => by
          by_cases z : Sub ps j k
          · rw [hc1 j hj z, d.still hk hsub e z]
          · exact hc2 j hj z
        simp
        exact fin _ hc
      · rw [if_neg hgc] at hstep
        have body : ∀ E : EndsD, (∀ x y, E.nx [some (.ob s), some (upD ps k), some (encEs (dif (handM (fullM ps rows k)) (handM (fullM ps rows' k)))), some (encEs (dif (handM (fullM ps rows' k)) (handM (fullM ps rows k)))), some (.ob p), x, y]
            (upm (upm μ f (.lst ((cur.set k (fullM ps rows' k)).map encEs))) p (.lst ((ts ++ [(k, dif (fullM ps rows k) (fullM ps rows' k), dif (fullM ps rows' k) (fullM ps rows k))]).map encTo)))) →
            rd_Shelf_changed_L1 CS E [some (.ob s), some (.int (k : Int)), some (encEs (dif (fullM ps rows k) (fullM ps rows' k))), some (encEs (dif (fullM ps rows' k) (fullM ps rows k))), some (.ob p), x, y] (upm (upm μ f (.lst (cur.map encEs))) p (.lst (ts.map encTo))) :=
          fun E hE => changed_body S hst hst' hk hp (by omega) hcl (hc1 k hk .self) (hE _ _)
        have go : ∀ x y, ∃ m', m' < k + 1 ∧ ∃ (kn : Option Nat) (ts' : List (Nat × List Ent × List Ent)) (cur' : List (List Ent)) (gone come : List Ent) (x' y' : Option D),
    [some (.ob s), some (upD ps k), some (encEs (dif (handM (fullM ps rows k)) (handM (fullM ps rows' k)))), some (encEs (dif (handM (fullM ps rows' k)) (handM (fullM ps rows k)))), some (.ob p), x, y] = [some (.ob s), some (match kn with | none => .non | some k => .int (k : Int)), some (encEs gone), some (encEs come), some (.ob p), x', y'] ∧
    (upm (upm μ f (.lst ((cur.set k (fullM ps rows' k)).map encEs))) p (.lst ((ts ++ [(k, dif (fullM ps rows k) (fullM ps rows' k), dif (fullM ps rows' k) (fullM ps rows k))]).map encTo))) = upm (upm μ f (.lst (cur'.map encEs))) p (.lst (ts'.map encTo)) ∧ cur'.length = ps.length + 1 ∧ ts'.length + m' ≤ k0 + 1 ∧ m' = (match kn with | none => 0 | some k => k + 1) ∧
    (match kn with
      | none => cur' = fullsM ps rows' ∧ ts' = toldM ps (fullM ps rows) (fullM ps rows') k0
      | some k => (k ≤ ps.length ∧ Sub ps k k0) ∧ (gone = dif (fullM ps rows k) (fullM ps rows' k) ∧ come = dif (fullM ps rows' k) (fullM ps rows k)) ∧
        (∀ j, j ≤ ps.length → Sub ps j k → cur'[j]? = some (fullM ps rows j)) ∧ (∀ j, j ≤ ps.length → ¬ Sub ps j k → cur'[j]? = some (fullM ps rows' j)) ∧
        ts' ++ toldM ps (fullM ps rows) (fullM ps rows') k = toldM ps (fullM ps rows) (fullM ps rows') k0) := by
          intro x y
          have hset : (cur.set k (fullM ps rows' k)).length = ps.length + 1 := by rw [List.length_set]; exact hcl
          have hk2 : (cur.set k (fullM ps rows' k))[k]? = some (fullM ps rows' k) := List.getElem?_set_self (by omega)
          cases hu : upK ps k with
          | none =>
            rw [hu] at hstep
            refine ⟨0, by omega, none, _, _, _, _, x, y, by unfold upD; rw [hu], rfl, hset, by rw [List.length_append, List.length_singleton]; omega, rfl, list_ext_map hset fun j hj => ?_, by rw [← hts, hstep]⟩
            by_cases e : j = k
            · subst e; exact hk2
            · rw [List.getElem?_set_ne (Ne.symm e)]
              refine hc2 j hj fun z => ?_
              cases z with
              | self => exact e rfl
              | up e2 _ => rw [hu] at e2; cases e2
          | some p' =>
            rw [hu] at hstep
            have hlt := upK_lt ht hu
            refine ⟨p' + 1, by omega, some p', _, _, _, _, x, y, by unfold upD; rw [hu], rfl, hset, by rw [List.length_append, List.length_singleton]; omega, rfl, ⟨by omega, sub_up hu hsub⟩, ⟨(d.up hsub hu).symm, (d.flip.up hsub hu).symm⟩, fun j hj z => ?_, fun j hj z => ?_, by rw [← hts, hstep, List.append_assoc]; rfl⟩
            · have := z.le ht
              rw [List.getElem?_set_ne (by omega)]
              exact hc1 j hj (.up hu z)
            · by_cases e : j = k
              · subst e; exact hk2
              · rw [List.getElem?_set_ne (Ne.symm e)]
                refine hc2 j hj fun z2 => ?_
                cases z2 with
                | self => exact e rfl
                | up e2 s2 => rw [hu] at e2; cases e2; exact z s2
        by_cases hg0 : dif (fullM ps rows k) (fullM ps rows' k) = []
        · have hc0 : ¬ dif (fullM ps rows' k) (fullM ps rows k) = [] := fun z => hgc ⟨hg0, z⟩
          simp only [hg0, hc0, decide_true, decide_false, Bool.not_true, Bool.not_false, if_true]
          rw [← hg0]
          exact ⟨by omega, trivial, trivial, by omega, trivial, trivial, body _ fun x y => go x y⟩
        · simp only [hg0, decide_false, Bool.not_false, if_true]
          exact ⟨by omega, trivial, trivial, body _ fun x y => go x y⟩
/-- slots: self 0 knot 1 key 2 row 3 -/
def rd_Shelf_put (CS : Addr) : RSt :=
  (rSeq (rDrop (rMeth CS "ask_knot" (asp_Shelf_ask_knot CS) (rv 0) (rCons (rv 1) rNil)))
    (rSeq (rIf (rNot (rTru (rCall (asp_is_key) (rCons (rv 2) rNil))))
    rNever
    rSkip)
    (rSeq (rIf (rB (rOp (opIn false) (rv 2) (rOp opIx (rFld CS (rv 0) "rows") (rv 1))))
    rNever
    rSkip)
    (rSeq (rIf (rB (rOp opGe (rCB cSum (rCons (rLC false (rIt (rFld CS (rv 0) "rows")) (rgName 3) rYes (rCB cLen (rCons (rv 3) rNil)) [3]) rNil)) (rc (.int 300))))
    rNever
    rSkip)
    (rSeq (rAsg (rCB (cSort false) (rCons (rOp (opAdd false) (rOp opIx (rFld CS (rv 0) "rows") (rv 1)) (rLst false (rCons (rv 2) rNil))) rNil)) (gSet (rFld CS (rv 0) "rows") (rv 1)))
    (rRet (rMeth CS "changed" (asp_Shelf_changed CS) (rv 0) (rCons (rv 1) (rCons (rLst false rNil) (rCons (rLst false (rCons (rTup (rCons (rv 2) (rCons (rv 1) rNil))) rNil)) rNil))))))))))
def asp_Shelf_put (CS : Addr) : ASp := fun ds μ q => ∃ (s t r f : Addr) (ps : List Nat) (rows : List (List Int)) (k : Nat) (x : Int), ds = [.ob s, .int (k : Int), .int x] ∧ Shl CS μ s t r f ps rows ∧ k ≤ ps.length ∧ x ∉ rows.getD k [] ∧ (x < 10 ^ 60 ∧ -(10 ^ 60) < x) ∧ rows.flatten.length < 300 ∧
  q (encTold (toldM ps (fullM ps rows) (fullM ps (putR rows k x)) k)) (upm (upm μ r (.lst ((putR rows k x).map encRl))) f (.lst ((fullsM ps (putR rows k x)).map encEs)))
theorem rows_at {rows : List (List Int)} {k : Nat} (h : k < rows.length) : atI (rows.map encRl) (k : Int) = some (encRl (rows.getD k [])) := at_nat (by rw [List.getElem?_map, List.getElem?_eq_getElem h, List.getD_eq_getElem?_getD, List.getElem?_eq_getElem h]; rfl)
theorem inD_ints (x : Int) (ns : List Int) : inD (.int x) (ns.map D.int) = decide (x ∈ ns) := Enc.int.inD x ns
theorem shp_ints (ns : List Int) : shp (.lst (ns.map D.int)) = true := (Enc.lst Enc.int).shp ns
/-- the shelf's things behind a change of the rows -/
theorem ShelfAt.put {CS : Addr} {μ : Mu} {s t r f : Addr} {ps : List Nat} {rows rows' : List (List Int)} {fulls : List (List Ent)} (S : ShelfAt CS μ s t r f ps rows fulls) : ShelfAt CS (upm μ r (.lst (rows'.map encRl))) s t r f ps rows' fulls := by
  have hsr : s ≠ r := fun e => by have := S.selfA; rw [e, S.rowsA] at this; cases this
  exact ⟨by rw [upm_ne hsr]; exact S.selfA, by rw [upm_ne S.ne.1]; exact S.treeA, upm_same, by rw [upm_ne (Ne.symm S.ne.2.2)]; exact S.fullsA, S.ne⟩
theorem Shl.put {CS : Addr} {μ : Mu} {s t r f : Addr} {ps : List Nat} {rows rows' : List (List Int)} (S : Shl CS μ s t r f ps rows) (ok : StandOk ps rows') : Shl CS (upm (upm μ r (.lst (rows'.map encRl))) f (.lst ((fullsM ps rows').map encEs))) s t r f ps rows' := by
  have A := S.at'.put (rows' := rows')
  have hsf : s ≠ f := fun e => by have := S.at'.selfA; rw [e, S.at'.fullsA] at this; cases this
  exact ⟨⟨by rw [upm_ne hsf]; exact A.selfA, by rw [upm_ne A.ne.2.1]; exact A.treeA, by rw [upm_ne A.ne.2.2]; exact A.rowsA, upm_same, A.ne⟩, ok⟩
theorem ok_Shelf_put (K : PySem.W.Frag) (CS : Addr) (ds μ q) (h : asp_Shelf_put CS ds μ q) : rd_Shelf_put CS (endsQ K q) (startD 4 ds) μ := by
  obtain ⟨s, t, r, f, ps, rows, k, x, rfl, S, hk, hx, hkey, hsum, h⟩ := h
  have hs := line_big
  have hl := S.ok.tree.1
  have hkr : k < rows.length := by rw [S.ok.len]; omega
  have A := S.at'.put (rows' := putR rows k x)
  have d := put_deed S.ok hk hx
  have ok' := put_ok S.ok hk hx hkey hsum
  have hf := put_first S.ok hk hx
  have hrl : (rows.getD k []).length ≤ 300 := by
    rcases getD_mem_or rows k with e | e
    · rw [e]; simp
    · have := len_mem_flat e; omega
  unfold rd_Shelf_put
  walk_at "dl"
  simp only [S.at'.selfA]
  refine ⟨⟨trivial, rfl⟩, s, t, r, f, ps, rows, k, rfl, S, hk, _, rfl, ⟨_, tyD_int⟩, ?_⟩
  have hkb := keyB_int hkey
  have hnx : decide (x ∈ rows.getD k []) = false := by simpa using hx
  have hrs : rs μ (encRl (rows.getD k [])) = .lst ((rows.getD k []).map D.int) := rfl
  simp only [hkb, truD_bl, Bool.not_true, S.at'.selfA, lk_rows, rs_at S.at'.rowsA, rows_at hkr]
  unfold opIn
  simp only [hrs, rs_int, shp_int, shp_ints, inD_ints, hnx]
  refine ⟨trivial, trivial, trivial, ?_⟩
  simp only [if_neg (show ¬ (false = true) by decide), S.at'.selfA, lk_rows, itD_at S.at'.rowsA]
  refine ⟨trivial, fun p hp => ?_⟩
  refine lc_map encRl (fun y => D.int (y.length : Int)) hp (fun acc => upm_old S.at'.rowsA hp) (by rw [S.ok.len]; omega) (fun y hy acc k' hk' => ?_) ?_
  · walk_at "dl"
    unfold encRl
    simp only [lenD_lst, List.length_map]
    exact hk'
  · have e2 : (rows.map fun y => D.int (y.length : Int)) = (rows.map fun y => (y.length : Int)).map D.int := by rw [List.map_map]; rfl
    have e3 : decide ((rows.map fun y => (y.length : Int)).sum ≥ 300) = false := by rw [flat_sum]; exact decide_eq_false (by omega)
    simp only [newL_f, itm_lst, e2, intsOf_map, rs_int, e3]
    have hj : (rows.getD k []).map D.int ++ [D.int x] = ((rows.getD k []) ++ [x]).map D.int := by simp
    have hix : ixN (rows.map encRl).length (k : Int) = some k := ixN_nat (by rw [List.length_map]; exact hkr)
    have hset : (rows.map encRl).set k (.lst ((sortI (rows.getD k [] ++ [x])).map D.int)) = (putR rows k x).map encRl := by
      unfold putR insI; rw [List.map_set]; rfl
    simp only [S.at'.selfA, lk_rows, rs_at S.at'.rowsA, rows_at hkr, hrs, hj, cSort_lst, newL_f, S.at'.rowsA, hix, hset]
    have hse := A.selfA
    refine ⟨trivial, by omega, by rw [List.length_map, List.length_singleton]; omega, trivial, ?_⟩
    simp only [hse]
    refine ⟨⟨trivial, rfl⟩, by omega, by omega, by omega, s, t, r, f, ps, rows, putR rows k x, k, ?_, A, S.ok, ok', d, out_same h⟩
    rw [hf.1, hf.2]
    rfl
/-- slots: self 0 knot 1 key 2 -/
def rd_Shelf_out (CS : Addr) : RSt :=
  (rSeq (rDrop (rMeth CS "ask_knot" (asp_Shelf_ask_knot CS) (rv 0) (rCons (rv 1) rNil)))
    (rSeq (rIf (rNot (rTru (rCall (asp_is_key) (rCons (rv 2) rNil))))
    rNever
    rSkip)
    (rSeq (rIf (rB (rOp (opIn true) (rv 2) (rOp opIx (rFld CS (rv 0) "rows") (rv 1))))
    rNever
    rSkip)
    (rSeq (rAsg (rCall (asp_less) (rCons (rOp opIx (rFld CS (rv 0) "rows") (rv 1)) (rCons (rLst false (rCons (rv 2) rNil)) rNil))) (gSet (rFld CS (rv 0) "rows") (rv 1)))
    (rRet (rMeth CS "changed" (asp_Shelf_changed CS) (rv 0) (rCons (rv 1) (rCons (rLst false (rCons (rTup (rCons (rv 2) (rCons (rv 1) rNil))) rNil)) (rCons (rLst false rNil) rNil)))))))))
def asp_Shelf_out (CS : Addr) : ASp := fun ds μ q => ∃ (s t r f : Addr) (ps : List Nat) (rows : List (List Int)) (k : Nat) (x : Int), ds = [.ob s, .int (k : Int), .int x] ∧ Shl CS μ s t r f ps rows ∧ k ≤ ps.length ∧ x ∈ rows.getD k [] ∧
  q (encTold (toldM ps (fullM ps rows) (fullM ps (outR rows k x)) k)) (upm (upm μ r (.lst ((outR rows k x).map encRl))) f (.lst ((fullsM ps (outR rows k x)).map encEs)))
theorem ok_Shelf_out (K : PySem.W.Frag) (CS : Addr) (ds μ q) (h : asp_Shelf_out CS ds μ q) : rd_Shelf_out CS (endsQ K q) (startD 3 ds) μ := by
  obtain ⟨s, t, r, f, ps, rows, k, x, rfl, S, hk, hx, h⟩ := h
  have hs := line_big
  have hl := S.ok.tree.1
  have hkr : k < rows.length := by rw [S.ok.len]; omega
  have A := S.at'.put (rows' := outR rows k x)
  have d := out_deed (x := x) S.ok hk
  have ok' := out_ok (x := x) S.ok hk
  have hf := out_first S.ok hk hx
  have hsum := S.ok.sum
  have hmem : rows.getD k [] ∈ rows := by
    rcases getD_mem_or rows k with e | e
    · rw [e] at hx; cases hx
    · exact e
  have hrl := len_mem_flat hmem
  have hkey := S.ok.key _ hmem x hx
  unfold rd_Shelf_out
  walk_at "dl"
  simp only [S.at'.selfA]
  refine ⟨⟨trivial, rfl⟩, s, t, r, f, ps, rows, k, rfl, S, hk, _, rfl, ⟨_, tyD_int⟩, ?_⟩
  have hkb := keyB_int hkey
  have hnx : decide (x ∈ rows.getD k []) = true := by simpa using hx
  have hrs : rs μ (encRl (rows.getD k [])) = .lst ((rows.getD k []).map D.int) := rfl
  simp only [hkb, truD_bl, Bool.not_true, S.at'.selfA, lk_rows, rs_at S.at'.rowsA, rows_at hkr]
  unfold opIn
  simp only [hrs, rs_int, shp_int, shp_ints, inD_ints, hnx]
  refine ⟨trivial, trivial, trivial, ?_⟩
  simp only [if_true, Bool.not_true, S.at'.selfA, lk_rows, rs_at S.at'.rowsA, rows_at hkr]
  refine ⟨trivial, by omega, .inr ⟨rows.getD k [], x, rfl, by omega, ?_⟩⟩
  have hix : ixN (rows.map encRl).length (k : Int) = some k := ixN_nat (by rw [List.length_map]; exact hkr)
  have hset : (rows.map encRl).set k (.lst ((delI x (rows.getD k [])).map D.int)) = (outR rows k x).map encRl := by
    unfold outR; rw [List.map_set]; rfl
  have hse := A.selfA
  simp only [S.at'.selfA, lk_rows, S.at'.rowsA, hix, hset, hse]
  refine ⟨trivial, ⟨trivial, rfl⟩, by omega, by omega, by omega, s, t, r, f, ps, rows, outR rows k x, k, ?_, A, S.ok, ok', d, out_same h⟩
  rw [hf.1, hf.2]
  rfl
end BF

namespace BF
open PySem PySem.Spec PyProof.Rows L2 BM DL
local macro_rules | `(tactic| walk_at "dl") => `(tactic| simp only [rSeq, rSkip, rAsg, rDrop, rRet, rIf, rOp, rv, rc, rB, rCh, rAnd, rOr, rNot, rTru, rAndV, rOrV, rNotV, rNil, rCons, rLst, rTup, rCB, rUn, rSl, rNoP, rSoP, rCall, rMeth, rMake, rFld, rFset, rIt, rRng1, rRng2, rRng3, rRevR1, rEnum, rZip, rRev, rFor, rLC, rYes, stepC, rgName, rgTup, rBM, rBM0, rDGet, rDIn, rDGet2, rDPut, rDNew, rNever, rDisp3, rGhE, gSet, opAdd, opSub, opMul, opFdv, opMod, opPow, opShr, unNeg, opLt, opLe, opGt, opGe, opIx, slD, cLen, cAbs, cMin, cMax, cSum, cAny, cAll, cList, cTuple, cInt, cIsi, startD, endsQ, slot_0, slot_s, put_0, put_s, puts_nil, puts_cons, wipeD_nil, wipeD_cons, rs_non, rs_bl, rs_int, rs_str, rs_ty, rs_lst, rs_tup, rs_dk, rs_dt, rs_scr, itm_lst, itm_scr, seqD_lst, seqD_tup, seqD_scr, lenD_lst, lenD_tup, lenD_scr, lenD_dk, tyD_int, tyD_bl, tyD_non, tyD_str, tyD_lst, tyD_tup, tyD_dk, truD_bl, truD_int, truD_lst, isTy_lst, isTy_str, itD_lst, itD_tup, newL_f, newL_t, List.map_cons, List.map_nil, List.length_cons, List.length_nil, List.cons_append, List.nil_append, List.replicate, List.set_cons_zero, List.set_cons_succ])
local macro_rules | `(tactic| walk_at "dlh") => `(tactic| simp only [rSeq, rSkip, rAsg, rDrop, rRet, rIf, rOp, rv, rc, rB, rCh, rAnd, rOr, rNot, rTru, rAndV, rOrV, rNotV, rNil, rCons, rLst, rTup, rCB, rUn, rSl, rNoP, rSoP, rCall, rMeth, rMake, rFld, rFset, rIt, rRng1, rRng2, rRng3, rRevR1, rEnum, rZip, rRev, rFor, rLC, rYes, stepC, rgName, rgTup, rBM, rBM0, rDGet, rDIn, rDGet2, rDPut, rDNew, rNever, rDisp3, rGhE, gSet, opAdd, opSub, opMul, opFdv, opMod, opPow, opShr, unNeg, opLt, opLe, opGt, opGe, opIx, slD, cLen, cAbs, cMin, cMax, cSum, cAny, cAll, cList, cTuple, cInt, cIsi, startD, endsQ, slot_0, slot_s, put_0, put_s, puts_nil, puts_cons, wipeD_nil, wipeD_cons, rs_non, rs_bl, rs_int, rs_str, rs_ty, rs_lst, rs_tup, rs_dk, rs_dt, rs_scr, itm_lst, itm_scr, seqD_lst, seqD_tup, seqD_scr, lenD_lst, lenD_tup, lenD_scr, lenD_dk, tyD_int, tyD_bl, tyD_non, tyD_str, tyD_lst, tyD_tup, tyD_dk, truD_bl, truD_int, truD_lst, isTy_lst, isTy_str, itD_lst, itD_tup, newL_f, newL_t, List.map_cons, List.map_nil, List.length_cons, List.length_nil, List.cons_append, List.nil_append, List.replicate, List.set_cons_zero, List.set_cons_succ, *])
/-! ### the law's draws -/
def stD (ns : List Int) (a l : Int) : MO := .dk [(.inr "script", .scr ns), (.inr "at", .int a), (.inr "left", .int l)]
/-- a state of draws -/
def StM (m : MO) : Prop := ∃ ns a l, m = stD ns a l ∧ 0 ≤ a ∧ 0 ≤ l
def St (μ : Mu) (sa : Addr) : Prop := ∃ m, μ sa = some m ∧ StM m
theorem St.upm {μ : Mu} {sa : Addr} {m : MO} (h : StM m) : St (upm μ sa m) sa := ⟨m, upm_same, h⟩
theorem St.old {μ : Mu} {sa p : Addr} {m : MO} (h : St μ sa) (hp : μ p = none) : St (DL.upm μ p m) sa := by
  obtain ⟨m', h1, h2⟩ := h
  exact ⟨m', upm_old h1 hp, h2⟩
/-- slots: _law_script 0 -/
def rd__law_begin : RSt :=
  (rRet (rDisp3 "script" "at" "left" (rv 0) (rc (.int 0)) (rc (.int 0))))
def asp__law_begin : ASp := fun ds μ q => ∃ ns : List Int, ds = [.scr ns] ∧ ∀ p m, μ p = none → StM m → q (.ob p) (upm μ p m)
theorem ok__law_begin (K : PySem.W.Frag) (ds μ q) (h : asp__law_begin ds μ q) : rd__law_begin (endsQ K q) (startD 1 ds) μ := by
  obtain ⟨ns, rfl, h⟩ := h
  unfold rd__law_begin
  walk_at "dl"
  intro p hp
  refine ⟨upm_same, out_same ?_⟩
  rw [upm_upm]
  exact h p _ hp ⟨ns, 0, 0, rfl, by decide, by decide⟩
/-- slots: _law_cell 0 _law_k 1 _law_one 2 _law_two 3 -/
def rd__law_mixed : RSt :=
  (rSeq (rAsg (rOp opMod (rOp (opMul false) (rOp (opAdd false) (rOp (opAdd false) (rOp opMod (rv 0) (rc (.int 2147483629))) (rOp (opMul false) (rc (.int 40503)) (rv 1))) (rc (.int 12345))) (rc (.int 48271))) (rc (.int 2147483647))) (rgName 2))
    (rSeq (rAsg (rOp opMod (rOp (opAdd false) (rOp (opAdd false) (rOp (opMul false) (rv 2) (rv 2)) (rOp (opMul false) (rc (.int 69621)) (rv 2))) (rv 1)) (rc (.int 2147483629))) (rgName 3))
    (rRet (rOp opFdv (rOp opMod (rOp (opAdd false) (rOp (opAdd false) (rOp (opMul false) (rv 3) (rv 3)) (rOp (opMul false) (rc (.int 16807)) (rv 3))) (rOp (opMul false) (rc (.int 31)) (rv 1))) (rc (.int 1073741789))) (rc (.int 3))))))
def asp__law_mixed : ASp := fun ds μ q => ∃ c k : Int, ds = [.int c, .int k] ∧ ∀ r, 0 ≤ r → q (.int r) μ
theorem ok__law_mixed (K : PySem.W.Frag) (ds μ q) (h : asp__law_mixed ds μ q) : rd__law_mixed (endsQ K q) (startD 4 ds) μ := by
  obtain ⟨c, k, rfl, h⟩ := h
  unfold rd__law_mixed
  walk_at "dl"
  refine ⟨by decide, cmul_l, cmul_r, by decide, ?_⟩
  generalize hx : ((c % 2147483629 + 40503 * k + 12345) * 48271) % 2147483647 = x
  have hx1 : 0 ≤ x := by rw [← hx]; exact Int.emod_nonneg _ (by decide)
  have hx2 : x < 2147483647 := by rw [← hx]; exact Int.emod_lt_of_pos _ (by decide)
  refine ⟨cmul_l ⟨by omega, by omega⟩, cmul_l, by decide, ?_⟩
  generalize hy : (x * x + 69621 * x + k) % 2147483629 = y
  have hy1 : 0 ≤ y := by rw [← hy]; exact Int.emod_nonneg _ (by decide)
  have hy2 : y < 2147483629 := by rw [← hy]; exact Int.emod_lt_of_pos _ (by decide)
  refine ⟨cmul_l ⟨by omega, by omega⟩, cmul_l, cmul_l, by decide, cdiv_of, out_same (h _ ?_)⟩
  exact Int.ediv_nonneg (Int.emod_nonneg _ (by decide)) (by decide)
/-- slots: _law_state 0 _law_most 1 _law_k 2 _law_script 3 _law_cell 4 _law_found 5 -/
def rd__law_take : RSt :=
  (rSeq (rAsg (rDGet (rv 0) (rc (.str "at"))) (rgName 2))
    (rSeq (rAsg (rDGet (rv 0) (rc (.str "script"))) (rgName 3))
    (rSeq (rIf (rB (rOp opEq (rDGet (rv 0) (rc (.str "left"))) (rc (.int 0))))
    (rSeq (rDPut (rv 0) (rc (.str "at")) (rOp (opAdd false) (rv 2) (rc (.int 1))))
    (rSeq (rAsg (rc (.int 0)) (rgName 4))
    (rSeq (rIf (rB (rOp opGt (rCB cLen (rCons (rv 3) rNil)) (rc (.int 0))))
    (rAsg (rOp opIx (rv 3) (rOp opMod (rv 2) (rCB cLen (rCons (rv 3) rNil)))) (rgName 4))
    rSkip)
    (rSeq (rIf (rOr (rB (rOp opGe (rv 2) (rCB cLen (rCons (rv 3) rNil)))) (rB (rOp opLt (rCB cAbs (rCons (rv 4) rNil)) (rOp opPow (rc (.int 10)) (rc (.int 18))))))
    (rRet (rOp opMod (rCall (asp__law_mixed) (rCons (rv 4) (rCons (rv 2) rNil))) (rv 1)))
    rSkip)
    (rDPut (rv 0) (rc (.str "left")) (rCB cAbs (rCons (rv 4) rNil)))))))
    rSkip)
    (rSeq (rAsg (rOp opMod (rDGet (rv 0) (rc (.str "left"))) (rv 1)) (rgName 5))
    (rSeq (rDPut (rv 0) (rc (.str "left")) (rOp opFdv (rDGet (rv 0) (rc (.str "left"))) (rv 1)))
    (rRet (rv 5)))))))
/-- a number below m, any: the state is another one -/
def asp__law_take : ASp := fun ds μ q => ∃ (sa : Addr) (m : Int), ds = [.ob sa, .int m] ∧ St μ sa ∧ 0 < m ∧ m < 1000000 ∧ ∀ (r : Nat) mo, (r : Int) < m → StM mo → q (.int (r : Int)) (upm μ sa mo)
theorem ok__law_take (K : PySem.W.Frag) (ds μ q) (h : asp__law_take ds μ q) : rd__law_take (endsQ K q) (startD 6 ds) μ := by
  obtain ⟨sa, m, rfl, ⟨mo, hmo, ns, a, l, rfl, ha, hl⟩, hm0, hm1, h⟩ := h
  unfold stD at hmo
  have hS : ∀ ns a l, 0 ≤ a → 0 ≤ l → StM (stD ns a l) := fun ns a l h1 h2 => ⟨ns, a, l, rfl, h1, h2⟩
  have fin : ∀ (c : Int) mo, 0 ≤ c → StM mo → q (.int (c % m)) (upm μ sa mo) := fun c mo hc hmo => by
    have h1 := Int.emod_nonneg c (show m ≠ 0 by omega)
    have h2 := Int.emod_lt_of_pos c hm0
    obtain ⟨r, hr⟩ := Int.eq_ofNat_of_zero_le h1
    rw [hr] at h2 ⊢
    exact h r mo h2 hmo
  have tail : ∀ (l : Int) (ns : List Int) (a : Int) (μ' : Mu) (x y z w : Option D), 0 ≤ l → 0 ≤ a → μ' = upm μ sa (stD ns a l) →
      (rSeq (rAsg (rOp opMod (rDGet (rv 0) (rc (.str "left"))) (rv 1)) (rgName 5))
    (rSeq (rDPut (rv 0) (rc (.str "left")) (rOp opFdv (rDGet (rv 0) (rc (.str "left"))) (rv 1)))
    (rRet (rv 5)))) (endsQ K q) [some (.ob sa), some (.int m), x, y, z, w] μ' := by
    intro l ns a μ' x y z w hl ha e
    subst e
    have g1 : dGet (upm μ sa (stD ns a l)) (.ob sa) (.str "left") = some (some (.int l)) := by unfold stD; rw [dGet_at upm_same]; rfl
    have g2 : upm μ sa (stD ns a l) sa = some (.dk [(.inr "script", .scr ns), (.inr "at", .int a), (.inr "left", .int l)]) := upm_same
    walk_at "dl"
    simp only [g1, rs_int, g2, keyOf_str]
    refine ⟨hm0, ⟨hm0, by omega⟩, by simp; have := line_big; omega, out_same ?_⟩
    rw [upm_upm]
    exact fin l _ hl (hS ns a (l / m) ha (Int.ediv_nonneg hl (by omega)))
  have g1 : dGet μ (.ob sa) (.str "at") = some (some (.int a)) := by rw [dGet_at hmo]; rfl
  have g2 : dGet μ (.ob sa) (.str "script") = some (some (.scr ns)) := by rw [dGet_at hmo]; rfl
  have g3 : dGet μ (.ob sa) (.str "left") = some (some (.int l)) := by rw [dGet_at hmo]; rfl
  unfold rd__law_take
  walk_at "dl"
  simp only [g1, g2, g3]
  unfold opEq
  simp only [rs_int, shp_int, eqD_int]
  refine ⟨trivial, trivial, ?_⟩
  by_cases hl0 : l = 0
  · subst hl0
    have p1 : ∀ v, putG [((.inr "script" : Key), D.scr ns), (.inr "at", .int a), (.inr "left", .int 0)] (.inr "at") v = [(.inr "script", .scr ns), (.inr "at", v), (.inr "left", .int 0)] := fun v => rfl
    simp only [decide_true, hmo, keyOf_str, p1]
    refine ⟨by simp; have := line_big; omega, ?_⟩
    have hput : upm μ sa (.dk [(.inr "script", .scr ns), (.inr "at", .int (a + 1)), (.inr "left", .int 0)]) = upm μ sa (stD ns (a + 1) 0) := rfl
    rw [hput]
    by_cases hn : 0 < (ns.length : Int)
    · have h3 := Int.emod_nonneg a (show (ns.length : Int) ≠ 0 by omega)
      have h4 := Int.emod_lt_of_pos a hn
      obtain ⟨c, hc⟩ : ∃ c, atI ns (a % (ns.length : Int)) = some c := by
        obtain ⟨j, hj⟩ := Int.eq_ofNat_of_zero_le h3
        have hjl : j < ns.length := by omega
        exact ⟨ns[j], at_int hj (List.getElem?_eq_getElem hjl)⟩
      simp only [lenD_scr, hn, decide_true, rs_int, rs_scr, hc]
      refine ⟨trivial, ?_⟩
      have mix : asp__law_mixed [D.int c, D.int a] (upm μ sa (stD ns (a + 1) 0)) fun d1 μ1 => (match rs μ1 d1, D.int m with
          | .int i, .int j => 0 < j ∧ ∃ d' μ', GE K (D.int (i % j)) μ1 d' μ' ∧ q d' μ'
          | _, _ => False) := ⟨c, a, rfl, fun r hr => ⟨hm0, out_same (fin r _ hr (hS ns (a + 1) 0 (by omega) (by decide)))⟩⟩
      by_cases h1 : (ns.length : Int) ≤ a
      · simp only [h1, decide_true]
        exact mix
      · simp only [h1, decide_false]
        refine ⟨⟨by decide, by decide, by decide⟩, ?_⟩
        by_cases h2 : (if c < 0 then -c else c) < 10 ^ Int.toNat 18
        · simp only [h2, decide_true]
          exact mix
        · have gx : upm μ sa (stD ns (a + 1) 0) sa = some (.dk [(.inr "script", .scr ns), (.inr "at", .int (a + 1)), (.inr "left", .int 0)]) := upm_same
          simp only [h2, decide_false, gx, keyOf_str]
          refine ⟨by simp; have := line_big; omega, ?_⟩
          rw [upm_upm]
          exact tail (if c < 0 then -c else c) ns (a + 1) _ none none none none (by split <;> omega) (by omega) rfl
    · simp only [lenD_scr, hn, decide_false]
      have mix : asp__law_mixed [D.int (0 : Int), D.int a] (upm μ sa (stD ns (a + 1) 0)) fun d1 μ1 => (match rs μ1 d1, D.int m with
          | .int i, .int j => 0 < j ∧ ∃ d' μ', GE K (D.int (i % j)) μ1 d' μ' ∧ q d' μ'
          | _, _ => False) := ⟨(0 : Int), a, rfl, fun r hr => ⟨hm0, out_same (fin r _ hr (hS ns (a + 1) 0 (by omega) (by decide)))⟩⟩
      by_cases h1 : (ns.length : Int) ≤ a
      · simp only [h1, decide_true]
        exact mix
      · simp only [h1, decide_false]
        refine ⟨⟨by decide, by decide, by decide⟩, ?_⟩
        by_cases h2 : (if (0 : Int) < 0 then -(0 : Int) else (0 : Int)) < 10 ^ Int.toNat 18
        · simp only [h2, decide_true]
          exact mix
        · have gx : upm μ sa (stD ns (a + 1) 0) sa = some (.dk [(.inr "script", .scr ns), (.inr "at", .int (a + 1)), (.inr "left", .int 0)]) := upm_same
          simp only [h2, decide_false, gx, keyOf_str]
          refine ⟨by simp; have := line_big; omega, ?_⟩
          rw [upm_upm]
          exact tail (if (0 : Int) < 0 then -(0 : Int) else (0 : Int)) ns (a + 1) _ none none none none (by split <;> omega) (by omega) rfl
  · simp only [hl0, decide_false]
    have := tail l ns a μ (some (.int a)) (some (.scr ns)) none none hl ha (upm_self hmo).symm
    exact this
/-! ### keys -/
abbrev keyOk (x : Int) : Prop := x < 10 ^ 60 ∧ -(10 ^ 60) < x
theorem p60 : (10 : Int) ^ 60 = 1000000000000000000000000000000000000000000000000000000000000 := by decide +kernel
/-- slots: _law_state 0 _law_way 1 -/
def rd__law_key : RSt :=
  (rSeq (rAsg (rCall (asp__law_take) (rCons (rv 0) (rCons (rc (.int 8)) rNil))) (rgName 1))
    (rSeq (rIf (rB (rOp opLt (rv 1) (rc (.int 4))))
    (rRet (rCall (asp__law_take) (rCons (rv 0) (rCons (rc (.int 10)) rNil))))
    rSkip)
    (rSeq (rIf (rB (rOp opLt (rv 1) (rc (.int 6))))
    (rRet (rOp opSub (rCall (asp__law_take) (rCons (rv 0) (rCons (rc (.int 60)) rNil))) (rc (.int 30))))
    rSkip)
    (rSeq (rIf (rB (rOp opEq (rv 1) (rc (.int 6))))
    (rRet (rOp (opMul false) (rOp opSub (rCall (asp__law_take) (rCons (rv 0) (rCons (rc (.int 1999)) rNil))) (rc (.int 999))) (rOp opIx (rLst false (rCons (rc (.int 1)) (rCons (rOp opPow (rc (.int 10)) (rc (.int 19))) (rCons (rOp opPow (rc (.int 10)) (rc (.int 38))) (rCons (rOp opPow (rc (.int 10)) (rc (.int 57))) rNil))))) (rCall (asp__law_take) (rCons (rv 0) (rCons (rc (.int 4)) rNil))))))
    rSkip)
    (rRet (rOp (opMul false) (rOp opIx (rLst false (rCons (rc (.int 1)) (rCons (rUn unNeg (rc (.int 1))) rNil))) (rCall (asp__law_take) (rCons (rv 0) (rCons (rc (.int 2)) rNil)))) (rOp opSub (rOp opSub (rOp opPow (rc (.int 10)) (rc (.int 60))) (rc (.int 1))) (rCall (asp__law_take) (rCons (rv 0) (rCons (rc (.int 3)) rNil))))))))))
def asp__law_key : ASp := fun ds μ q => ∃ (sa : Addr), ds = [.ob sa] ∧ St μ sa ∧ ∀ (x : Int) mo, keyOk x → StM mo → q (.int x) (upm μ sa mo)
theorem ok__law_key (K : PySem.W.Frag) (ds μ q) (h : asp__law_key ds μ q) : rd__law_key (endsQ K q) (startD 2 ds) μ := by
  obtain ⟨sa, rfl, hS, h⟩ := h
  have hs := line_big
  unfold keyOk at h
  rw [p60] at h
  unfold rd__law_key
  walk_at "dl"
  refine ⟨sa, 8, rfl, hS, by decide, by decide, fun r m1 hr hm1 => ?_⟩
  dsimp only
  by_cases h1 : (r : Int) < 4
  · simp only [rs_int, h1, decide_true]
    refine ⟨sa, 10, rfl, .upm hm1, by decide, by decide, fun r2 m2 hr2 hm2 => out_same ?_⟩
    rw [upm_upm]
    exact h _ _ ⟨by omega, by omega⟩ hm2
  · simp only [rs_int, h1, decide_false]
    by_cases h2 : (r : Int) < 6
    · simp only [h2, decide_true]
      refine ⟨sa, 60, rfl, .upm hm1, by decide, by decide, fun r2 m2 hr2 hm2 => ?_⟩
      dsimp only
      simp only [rs_int]
      refine out_same ?_
      rw [upm_upm]
      exact h _ _ ⟨by omega, by omega⟩ hm2
    · simp only [h2, decide_false]
      unfold opEq
      simp only [rs_int, shp_int, eqD_int]
      refine ⟨trivial, trivial, ?_⟩
      by_cases h3 : (r : Int) = 6
      · simp only [h3, decide_true]
        refine ⟨sa, 1999, rfl, .upm hm1, by decide, by decide, fun r2 m2 hr2 hm2 => ?_⟩
        dsimp only
        simp only [rs_int]
        refine ⟨⟨by decide, by decide, by decide⟩, ⟨by decide, by decide, by decide⟩, ⟨by decide, by decide, by decide⟩, by omega, sa, 4, rfl, by rw [upm_upm]; exact .upm hm2, by decide, by decide, fun r3 m3 hr3 hm3 => ?_⟩
        rw [upm_upm, upm_upm]
        have hcase : r3 = 0 ∨ r3 = 1 ∨ r3 = 2 ∨ r3 = 3 := by omega
        have e19 : (10 : Int) ^ Int.toNat 19 = 10000000000000000000 := by decide +kernel
        have e38 : (10 : Int) ^ Int.toNat 38 = 100000000000000000000000000000000000000 := by decide +kernel
        have e57 : (10 : Int) ^ Int.toNat 57 = 1000000000000000000000000000000000000000000000000000000000 := by decide +kernel
        simp only [e19, e38, e57, rs_lst]
        rcases hcase with rfl | rfl | rfl | rfl
        · rw [show atI [D.int 1, D.int 10000000000000000000, D.int 100000000000000000000000000000000000000, D.int 1000000000000000000000000000000000000000000000000000000000] ((0 : Nat) : Int) = some (.int 1) from rfl]
          simp only [rs_int]
          exact ⟨cmul_l ⟨by omega, by omega⟩, out_same (h _ _ ⟨by omega, by omega⟩ hm3)⟩
        · rw [show atI [D.int 1, D.int 10000000000000000000, D.int 100000000000000000000000000000000000000, D.int 1000000000000000000000000000000000000000000000000000000000] ((1 : Nat) : Int) = some (.int 10000000000000000000) from rfl]
          simp only [rs_int]
          exact ⟨cmul_l ⟨by omega, by omega⟩, out_same (h _ _ ⟨by omega, by omega⟩ hm3)⟩
        · rw [show atI [D.int 1, D.int 10000000000000000000, D.int 100000000000000000000000000000000000000, D.int 1000000000000000000000000000000000000000000000000000000000] ((2 : Nat) : Int) = some (.int 100000000000000000000000000000000000000) from rfl]
          simp only [rs_int]
          exact ⟨cmul_l ⟨by omega, by omega⟩, out_same (h _ _ ⟨by omega, by omega⟩ hm3)⟩
        · rw [show atI [D.int 1, D.int 10000000000000000000, D.int 100000000000000000000000000000000000000, D.int 1000000000000000000000000000000000000000000000000000000000] ((3 : Nat) : Int) = some (.int 1000000000000000000000000000000000000000000000000000000000) from rfl]
          simp only [rs_int]
          exact ⟨cmul_l ⟨by omega, by omega⟩, out_same (h _ _ ⟨by omega, by omega⟩ hm3)⟩
      · simp only [h3, decide_false]
        refine ⟨by omega, sa, 2, rfl, .upm hm1, by decide, by decide, fun r3 m3 hr3 hm3 => ?_⟩
        rw [upm_upm]
        have hcase : r3 = 0 ∨ r3 = 1 := by omega
        have e60 : (10 : Int) ^ Int.toNat 60 = 1000000000000000000000000000000000000000000000000000000000000 := by decide +kernel
        simp only [e60, rs_lst]
        rcases hcase with rfl | rfl
        · rw [show atI [D.int 1, D.int (-1)] ((0 : Nat) : Int) = some (.int 1) from rfl]
          simp only [rs_int]
          refine ⟨⟨by decide, by decide, by decide⟩, sa, 3, rfl, .upm hm3, by decide, by decide, fun r4 m4 hr4 hm4 => ?_⟩
          rw [upm_upm]
          simp only [rs_int]
          exact ⟨cmul_l, out_same (h _ _ ⟨by omega, by omega⟩ hm4)⟩
        · rw [show atI [D.int 1, D.int (-1)] ((1 : Nat) : Int) = some (.int (-1)) from rfl]
          simp only [rs_int]
          refine ⟨⟨by decide, by decide, by decide⟩, sa, 3, rfl, .upm hm3, by decide, by decide, fun r4 m4 hr4 hm4 => ?_⟩
          rw [upm_upm]
          simp only [rs_int]
          exact ⟨cmul_l, out_same (h _ _ ⟨by omega, by omega⟩ hm4)⟩
end BF

namespace BF
open PySem PySem.Spec PyProof.Rows L2 BM DL
local macro_rules | `(tactic| walk_at "dl") => `(tactic| simp only [rSeq, rSkip, rAsg, rDrop, rRet, rIf, rOp, rv, rc, rB, rCh, rAnd, rOr, rNot, rTru, rAndV, rOrV, rNotV, rNil, rCons, rLst, rTup, rCB, rUn, rSl, rNoP, rSoP, rCall, rMeth, rMake, rFld, rFset, rIt, rRng1, rRng2, rRng3, rRevR1, rEnum, rZip, rRev, rFor, rLC, rYes, stepC, rgName, rgTup, rBM, rBM0, rDGet, rDIn, rDGet2, rDPut, rDNew, rNever, rDisp3, rGhE, gSet, opAdd, opSub, opMul, opFdv, opMod, opPow, opShr, unNeg, opLt, opLe, opGt, opGe, opIx, slD, cLen, cAbs, cMin, cMax, cSum, cAny, cAll, cList, cTuple, cInt, cIsi, startD, endsQ, slot_0, slot_s, put_0, put_s, puts_nil, puts_cons, wipeD_nil, wipeD_cons, rs_non, rs_bl, rs_int, rs_str, rs_ty, rs_lst, rs_tup, rs_dk, rs_dt, rs_scr, itm_lst, itm_scr, seqD_lst, seqD_tup, seqD_scr, lenD_lst, lenD_tup, lenD_scr, lenD_dk, tyD_int, tyD_bl, tyD_non, tyD_str, tyD_lst, tyD_tup, tyD_dk, truD_bl, truD_int, truD_lst, isTy_lst, isTy_str, itD_lst, itD_tup, newL_f, newL_t, List.map_cons, List.map_nil, List.length_cons, List.length_nil, List.cons_append, List.nil_append, List.replicate, List.set_cons_zero, List.set_cons_succ])
local macro_rules | `(tactic| walk_at "dlh") => `(tactic| simp only [rSeq, rSkip, rAsg, rDrop, rRet, rIf, rOp, rv, rc, rB, rCh, rAnd, rOr, rNot, rTru, rAndV, rOrV, rNotV, rNil, rCons, rLst, rTup, rCB, rUn, rSl, rNoP, rSoP, rCall, rMeth, rMake, rFld, rFset, rIt, rRng1, rRng2, rRng3, rRevR1, rEnum, rZip, rRev, rFor, rLC, rYes, stepC, rgName, rgTup, rBM, rBM0, rDGet, rDIn, rDGet2, rDPut, rDNew, rNever, rDisp3, rGhE, gSet, opAdd, opSub, opMul, opFdv, opMod, opPow, opShr, unNeg, opLt, opLe, opGt, opGe, opIx, slD, cLen, cAbs, cMin, cMax, cSum, cAny, cAll, cList, cTuple, cInt, cIsi, startD, endsQ, slot_0, slot_s, put_0, put_s, puts_nil, puts_cons, wipeD_nil, wipeD_cons, rs_non, rs_bl, rs_int, rs_str, rs_ty, rs_lst, rs_tup, rs_dk, rs_dt, rs_scr, itm_lst, itm_scr, seqD_lst, seqD_tup, seqD_scr, lenD_lst, lenD_tup, lenD_scr, lenD_dk, tyD_int, tyD_bl, tyD_non, tyD_str, tyD_lst, tyD_tup, tyD_dk, truD_bl, truD_int, truD_lst, isTy_lst, isTy_str, itD_lst, itD_tup, newL_f, newL_t, List.map_cons, List.map_nil, List.length_cons, List.length_nil, List.cons_append, List.nil_append, List.replicate, List.set_cons_zero, List.set_cons_succ, *])
/-- slots: _law_state 0 _law_most 1 _law_way 2 _law_parents 3 _law_k 4 -/
def rd__law_tree_L1 : RSt :=
  (rDrop (rBM "list" mAppend (rv 3) (rCons (rOp opIx (rLst false (rCons (rOp opSub (rv 4) (rc (.int 1))) (rCons (rc (.int 0)) (rCons (rCall (asp__law_take) (rCons (rv 0) (rCons (rv 4) rNil))) (rCons (rCB cMax (rCons (rc (.int 0)) (rCons (rOp opSub (rOp opSub (rv 4) (rc (.int 1))) (rCall (asp__law_take) (rCons (rv 0) (rCons (rc (.int 2)) rNil)))) rNil))) rNil))))) (rv 2)) rNil)))
def rd__law_tree : RSt :=
  (rSeq (rAsg (rCall (asp__law_take) (rCons (rv 0) (rCons (rc (.int 4)) rNil))) (rgName 2))
    (rSeq (rAsg (rLst true (rCons (rc .non) rNil)) (rgName 3))
    (rSeq (rFor (rRng2 (rCons (rc (.int 1)) (rCons (rOp (opAdd false) (rc (.int 1)) (rCall (asp__law_take) (rCons (rv 0) (rCons (rv 1) rNil)))) rNil))) (rgName 4)
    (rd__law_tree_L1))
    (rRet (rCB cTuple (rCons (rv 3) rNil))))))
def asp__law_tree : ASp := fun ds μ q => ∃ (sa : Addr) (m : Int), ds = [.ob sa, .int m] ∧ St μ sa ∧ 0 < m ∧ m ≤ 40 ∧ ∀ (ps : List Nat) mo, TreeOk ps → (ps.length : Int) < m → StM mo → q (encTree ps) (upm μ sa mo)
theorem tree_snoc {ps : List Nat} {p : Nat} (h : TreeOk ps) (hp : p ≤ ps.length) (hl : ps.length < 39) : TreeOk (ps ++ [p]) := by
  refine ⟨by rw [List.length_append, List.length_singleton]; omega, fun i x e => ?_⟩
  by_cases hi : i < ps.length
  · rw [List.getElem?_append_left hi] at e
    exact h.2 i x e
  · by_cases hi2 : i = ps.length
    · subst hi2
      rw [List.getElem?_append_right (Nat.le_refl _), Nat.sub_self] at e
      injection e with e
      omega
    · rw [List.getElem?_eq_none (by simp; omega)] at e
      cases e
theorem encT_snoc {ps : List Nat} {p : Nat} : encT ps ++ [.int (p : Int)] = encT (ps ++ [p]) := by unfold encT; simp
theorem ok__law_tree (K : PySem.W.Frag) (ds μ q) (h : asp__law_tree ds μ q) : rd__law_tree (endsQ K q) (startD 5 ds) μ := by
  obtain ⟨sa, m, rfl, hS, hm0, hm1, h⟩ := h
  have hs := line_big
  unfold rd__law_tree
  walk_at "dl"
  refine ⟨sa, 4, rfl, hS, by decide, by decide, fun way m1 hway hm1' => ?_⟩
  dsimp only
  refine ⟨by omega, fun p hp => ?_⟩
  have hps : p ≠ sa := fun e => by subst e; rw [upm_same] at hp; cases hp
  have hp0 : μ p = none := by rw [upm_ne hps] at hp; exact hp
  refine ⟨sa, m, rfl, (St.upm hm1').old hp, hm0, by omega, fun n m2 hn hm2 => ?_⟩
  dsimp only
  simp only [rs_int]
  have hc : ∀ m1 a m2, upm (upm (upm μ sa m1) p a) sa m2 = upm (upm μ sa m2) p a := fun m1 a m2 => by rw [upm_comm hps, upm_upm]
  rw [hc]
  refine ⟨⟨⟨by omega, by omega⟩, by omega, by omega⟩, ?_⟩
  rw [show ((1 : Int) + (n : Int) - 1).toNat = n by omega]
  refine for_rng (lo := 1) (n := n) (fun i ρ μ' => ∃ (ps : List Nat) (mo : MO) (x : Option D), ρ = [some (.ob sa), some (.int m), some (.int (way : Int)), some (.ob p), x] ∧ μ' = upm (upm μ sa mo) p (.lst (encT ps)) ∧ StM mo ∧ TreeOk ps ∧ ps.length = i) ?_ ?_ ⟨[], m2, none, rfl, rfl, hm2, ⟨by simp, fun i p e => by cases e⟩, rfl⟩
  · rintro i ρ μ' hi ⟨ps, mo, x, rfl, rfl, hmo, ht, rfl⟩ k hk
    unfold rd__law_tree_L1
    have hob : ∀ mo a, upm (upm μ sa mo) p (.lst a) p = some (.lst a) := fun mo a => upm_same
    have hSt : ∀ mo a, StM mo → St (upm (upm μ sa mo) p a) sa := fun mo a h => ⟨mo, by rw [upm_ne (Ne.symm hps)]; exact upm_same, h⟩
    walk_at "dl"
    refine ⟨trivial, by rw [isTy_at upm_same]; decide, sa, 1 + (ps.length : Int), rfl, hSt _ _ hmo, by omega, by omega, fun r3 m3 hr3 hm3 => ?_⟩
    rw [hc]
    refine ⟨sa, 2, rfl, hSt _ _ hm3, by decide, by decide, fun r4 m4 hr4 hm4 => ?_⟩
    rw [hc]
    simp only [rs_int, rs_lst, intsOf, Option.map_some]
    have hway' : way = 0 ∨ way = 1 ∨ way = 2 ∨ way = 3 := by omega
    have fin : ∀ (y : Int) (z : Nat), y = (z : Int) → z ≤ ps.length → mAppend (.ob p) [.int y] (upm (upm μ sa m4) p (.lst (encT ps))) fun _ μ1 => k [some (.ob sa), some (.int m), some (.int (way : Int)), some (.ob p), some (.int (1 + (ps.length : Int)))] μ1 := by
      intro y z e hz
      subst e
      rw [mAppend_at upm_same, upm_upm, encT_snoc]
      exact ⟨by rw [encT_len]; omega, hk _ _ ⟨ps ++ [z], m4, _, rfl, rfl, hm4, tree_snoc ht hz (by omega), by simp⟩⟩
    refine ⟨by omega, ?_⟩
    rcases hway' with rfl | rfl | rfl | rfl
    · exact fin _ ps.length (by omega) (Nat.le_refl _)
    · exact fin _ 0 rfl (Nat.zero_le _)
    · exact fin _ r3 rfl (by omega)
    · exact fin _ (ps.length - r4) (by split <;> omega) (by omega)
  · rintro ρ μ' ⟨ps, mo, x, rfl, rfl, hmo, ht, hl⟩
    walk_at "dl"
    simp only [seqD_at upm_same]
    refine ⟨trivial, out_less (less_upm (by rw [upm_ne hps]; exact hp0)) (h ps mo ht (by omega) hmo)⟩
/-- slots: _law_state 0 _law_most 1 _law_found 2 _law_k 3 -/
def rd__law_row_L1 : RSt :=
  (rDPut (rv 2) (rCall (asp__law_key) (rCons (rv 0) rNil)) (rc (.bl true)))
def rd__law_row : RSt :=
  (rSeq (rAsg (rDNew true false) (rgName 2))
    (rSeq (rFor (rRng1 (rCons (rCall (asp__law_take) (rCons (rv 0) (rCons (rOp (opAdd false) (rv 1) (rc (.int 1))) rNil))) rNil)) (rgName 3)
    (rd__law_row_L1))
    (rRet (rCB cTuple (rCons (rCB (cSort false) (rCons (rCB (cList false) (rCons (rv 2) rNil)) rNil)) rNil)))))
def RowK (n : Int) (r : List Int) : Prop := r.Pairwise (· < ·) ∧ (∀ x ∈ r, keyOk x) ∧ (r.length : Int) ≤ n
def asp__law_row : ASp := fun ds μ q => ∃ (sa : Addr) (m : Int), ds = [.ob sa, .int m] ∧ St μ sa ∧ 0 ≤ m ∧ m ≤ 1000 ∧ ∀ (r : List Int) mo, RowK m r → StM mo → q (encRow r) (upm μ sa mo)
theorem ok__law_row (K : PySem.W.Frag) (ds μ q) (h : asp__law_row ds μ q) : rd__law_row (endsQ K q) (startD 4 ds) μ := by
  obtain ⟨sa, m, rfl, hS, hm0, hm1, h⟩ := h
  have hs := line_big
  unfold rd__law_row
  walk_at "dl"
  intro p hp
  have hps : p ≠ sa := fun e => by subst e; obtain ⟨z, hz, _⟩ := hS; rw [hz] at hp; cases hp
  have hc : ∀ m1 a m2, upm (upm (upm μ sa m1) p a) sa m2 = upm (upm μ sa m2) p a := fun m1 a m2 => by rw [upm_comm hps, upm_upm]
  have hc0 : ∀ a m2, upm (upm μ p a) sa m2 = upm (upm μ sa m2) p a := fun a m2 => upm_comm hps
  have hSt : ∀ mo a, StM mo → St (upm (upm μ sa mo) p a) sa := fun mo a h => ⟨mo, by rw [upm_ne (Ne.symm hps)]; exact upm_same, h⟩
  refine ⟨sa, m + 1, rfl, hS.old hp, by omega, by omega, fun n m2 hn hm2 => ?_⟩
  dsimp only
  rw [hc0]
  refine ⟨⟨by omega, by omega⟩, ?_⟩
  rw [Int.toNat_natCast]
  refine for_rng (lo := 0) (n := n) (fun i ρ μ' => ∃ (kvs : List (Key × D)) (ks : List Int) (mo : MO) (x : Option D), ρ = [some (.ob sa), some (.int m), some (.ob p), x] ∧ μ' = upm (upm μ sa mo) p (.dk kvs) ∧ StM mo ∧ kvs.map Prod.fst = ks.map Sum.inl ∧ ks.Nodup ∧ (∀ x ∈ ks, keyOk x) ∧ ks.length ≤ i) ?_ ?_ ⟨[], [], m2, none, rfl, rfl, hm2, rfl, List.nodup_nil, (fun _ h => by cases h), Nat.le_refl _⟩
  · rintro i ρ μ' hi ⟨kvs, ks, mo, x, rfl, rfl, hmo, hk1, hk2, hk3, hk4⟩ k hk
    unfold rd__law_row_L1
    walk_at "dl"
    refine ⟨trivial, sa, rfl, hSt _ _ hmo, fun y m3 hy hm3 => ?_⟩
    rw [hc]
    simp only [upm_same, keyOf_int, upm_upm]
    have hlen : kvs.length = ks.length := by have := congrArg List.length hk1; simpa using this
    refine ⟨by omega, ?_⟩
    have hpk := putG_keys kvs (.inl y) (D.bl true)
    rw [hk1] at hpk
    have hmem : ((.inl y : Key) ∈ ks.map Sum.inl) ↔ y ∈ ks := by simp
    by_cases hyk : y ∈ ks
    · rw [if_pos (hmem.mpr hyk)] at hpk
      exact hk _ _ ⟨_, ks, m3, _, rfl, rfl, hm3, hpk, hk2, hk3, by omega⟩
    · rw [if_neg (fun z => hyk (hmem.mp z))] at hpk
      refine hk _ _ ⟨_, ks ++ [y], m3, _, rfl, rfl, hm3, by rw [hpk]; simp, ?_, fun z hz => ?_, by simp; omega⟩
      · refine List.nodup_append.mpr ⟨hk2, List.nodup_cons.mpr ⟨List.not_mem_nil, List.nodup_nil⟩, fun a ha b hb e => ?_⟩
        rw [List.mem_singleton] at hb; subst hb; subst e; exact hyk ha
      · rcases List.mem_append.mp hz with hz | hz
        · exact hk3 z hz
        · rw [List.mem_singleton] at hz; subst hz; exact hy
  · rintro ρ μ' ⟨kvs, ks, mo, x, rfl, rfl, hmo, hk1, hk2, hk3, hk4⟩
    walk_at "dl"
    have e1 : (kvs.map fun kv => keyD kv.1) = ks.map D.int := by
      have : (kvs.map fun kv => keyD kv.1) = (kvs.map Prod.fst).map keyD := by rw [List.map_map]; rfl
      rw [this, hk1, List.map_map]; rfl
    simp only [seqD_atk upm_same, rs_atk upm_same, e1, cSort_lst, newL_f, seqD_lst]
    refine ⟨trivial, out_less (less_upm (by rw [upm_ne hps]; exact hp)) (h (sortI ks) mo ⟨sortI_lt hk2, fun x hx => hk3 x ((sortG_perm leI ks).mem_iff.mp hx), ?_⟩ hmo)⟩
    rw [(sortG_perm leI ks).length_eq]; omega
/-- slots: _law_state 0 _law_many 1 _law_most 2 _law_rows_here 3 _law_k 4 _law_row_here 5 -/
def rd__law_rows_L1 : RSt :=
  (rSeq (rAsg (rCall (asp__law_row) (rCons (rv 0) (rCons (rv 2) rNil))) (rgName 5))
    (rSeq (rIf (rB (rOp opEq (rCall (asp__law_take) (rCons (rv 0) (rCons (rc (.int 4)) rNil))) (rc (.int 0))))
    (rAsg (rTup rNil) (rgName 5))
    rSkip)
    (rSeq (rIf (rAnd (rB (rOp opGt (rv 4) (rc (.int 0)))) (rB (rOp opEq (rCall (asp__law_take) (rCons (rv 0) (rCons (rc (.int 4)) rNil))) (rc (.int 0)))))
    (rAsg (rOp opIx (rv 3) (rOp opSub (rv 4) (rc (.int 1)))) (rgName 5))
    rSkip)
    (rDrop (rBM "list" mAppend (rv 3) (rCons (rv 5) rNil))))))
def rd__law_rows : RSt :=
  (rSeq (rAsg (rLst true rNil) (rgName 3))
    (rSeq (rFor (rRng1 (rCons (rv 1) rNil)) (rgName 4)
    (rd__law_rows_L1))
    (rRet (rCB cTuple (rCons (rv 3) rNil)))))
def asp__law_rows : ASp := fun ds μ q => ∃ (sa : Addr) (n : Nat) (m : Int), ds = [.ob sa, .int (n : Int), .int m] ∧ St μ sa ∧ n ≤ 1000 ∧ 0 ≤ m ∧ m ≤ 1000 ∧ ∀ (rows : List (List Int)) mo, rows.length = n → (∀ r ∈ rows, RowK m r) → StM mo → q (.tup (rows.map encRow)) (upm μ sa mo)
theorem ok__law_rows (K : PySem.W.Frag) (ds μ q) (h : asp__law_rows ds μ q) : rd__law_rows (endsQ K q) (startD 6 ds) μ := by
  obtain ⟨sa, n, m, rfl, hS, hn, hm0, hm1, h⟩ := h
  have hs := line_big
  unfold rd__law_rows
  walk_at "dl"
  refine ⟨by omega, fun p hp => ?_⟩
  have hps : p ≠ sa := fun e => by subst e; obtain ⟨z, hz, _⟩ := hS; rw [hz] at hp; cases hp
  have hc : ∀ m1 a m2, upm (upm (upm μ sa m1) p a) sa m2 = upm (upm μ sa m2) p a := fun m1 a m2 => by rw [upm_comm hps, upm_upm]
  have hSt : ∀ mo a, StM mo → St (upm (upm μ sa mo) p a) sa := fun mo a h => ⟨mo, by rw [upm_ne (Ne.symm hps)]; exact upm_same, h⟩
  refine ⟨⟨by omega, by omega⟩, ?_⟩
  rw [Int.toNat_natCast]
  obtain ⟨mo0, hmo0, hmo1⟩ := hS
  have e0 : upm μ p (.lst []) = upm (upm μ sa mo0) p (.lst []) := by rw [upm_self hmo0]
  rw [e0]
  refine for_rng (lo := 0) (n := n) (fun i ρ μ' => ∃ (rows : List (List Int)) (mo : MO) (x y : Option D), ρ = [some (.ob sa), some (.int (n : Int)), some (.int m), some (.ob p), x, y] ∧ μ' = upm (upm μ sa mo) p (.lst (rows.map encRow)) ∧ StM mo ∧ rows.length = i ∧ ∀ r ∈ rows, RowK m r) ?_ ?_ ⟨[], mo0, none, none, rfl, rfl, hmo1, rfl, fun _ h => by cases h⟩
  · rintro i ρ μ' hi ⟨rows, mo, x, y, rfl, rfl, hmo, hl, hr⟩ k hk
    unfold rd__law_rows_L1
    walk_at "dl"
    refine ⟨trivial, sa, m, rfl, hSt _ _ hmo, hm0, hm1, fun r m3 hrk hm3 => ?_⟩
    rw [hc]
    refine ⟨sa, 4, rfl, hSt _ _ hm3, by decide, by decide, fun r4 m4 hr4 hm4 => ?_⟩
    rw [hc]
    unfold opEq
    simp only [rs_int, shp_int, eqD_int]
    have fin : ∀ (r : List Int) (mo : MO), RowK m r → StM mo → isTy "list" (upm (upm μ sa mo) p (.lst (rows.map encRow))) (.ob p) = true ∧ mAppend (.ob p) [encRow r] (upm (upm μ sa mo) p (.lst (rows.map encRow))) fun _ μ1 => k [some (.ob sa), some (.int (n : Int)), some (.int m), some (.ob p), some (.int (0 + (i : Int))), some (encRow r)] μ1 := by
      intro r mo h1 h2
      rw [isTy_at upm_same, mAppend_at upm_same, upm_upm, List.length_map]
      refine ⟨by decide, by omega, hk _ _ ⟨rows ++ [r], mo, _, _, rfl, by rw [List.map_append]; rfl, h2, by simp [hl], fun z hz => ?_⟩⟩
      rcases List.mem_append.mp hz with hz | hz
      · exact hr z hz
      · rw [List.mem_singleton] at hz; subst hz; exact h1
    have rk0 : RowK m [] := ⟨List.Pairwise.nil, (fun _ h => by cases h), by simpa using hm0⟩
    have fin0 := fun mo (h2 : StM mo) => fin [] mo rk0 h2
    rw [show encRow [] = .tup [] from rfl] at fin0
    have step2 : ∀ (r : List Int) (mo : MO), RowK m r → StM mo → (match decide (0 < 0 + (i : Int)) with
          | true =>
            asp__law_take [D.ob sa, D.int 4] (upm (upm μ sa mo) p (.lst (rows.map encRow))) fun d1 μ1 =>
              shp (rs μ1 d1) = true ∧ True ∧ (match eqD (rs μ1 d1) (D.int 0) with
                  | true => opIx (.ob p) (.int (0 + (i : Int) - 1)) μ1 fun d μ1 => isTy "list" μ1 (D.ob p) = true ∧ mAppend (D.ob p) [d] μ1 fun _ μ1 => k [some (.ob sa), some (.int (n : Int)), some (.int m), some (.ob p), some (.int (0 + (i : Int))), some d] μ1
                  | false => isTy "list" μ1 (D.ob p) = true ∧ mAppend (D.ob p) [encRow r] μ1 fun _ μ1 => k [some (.ob sa), some (.int (n : Int)), some (.int m), some (.ob p), some (.int (0 + (i : Int))), some (encRow r)] μ1)
          | false => isTy "list" (upm (upm μ sa mo) p (.lst (rows.map encRow))) (.ob p) = true ∧ mAppend (.ob p) [encRow r] (upm (upm μ sa mo) p (.lst (rows.map encRow))) fun _ μ1 => k [some (.ob sa), some (.int (n : Int)), some (.int m), some (.ob p), some (.int (0 + (i : Int))), some (encRow r)] μ1) := by
      intro r mo h1 h2
      by_cases hi0 : 0 < 0 + (i : Int)
      · simp only [hi0, decide_true]
        refine ⟨sa, 4, rfl, hSt _ _ h2, by decide, by decide, fun r5 m5 hr5 hm5 => ?_⟩
        rw [hc]
        simp only [rs_int, shp_int, eqD_int]
        refine ⟨trivial, trivial, ?_⟩
        by_cases h0 : (r5 : Int) = 0
        · simp only [h0, decide_true]
          unfold opIx
          have hix : atI (rows.map encRow) (0 + (i : Int) - 1) = some (encRow (rows[i - 1]'(by omega))) := at_int (n := i - 1) (by omega) (by rw [List.getElem?_map, List.getElem?_eq_getElem (by omega)]; rfl)
          simp only [rs_at upm_same, hix]
          exact fin _ _ (hr _ (List.getElem_mem _)) hm5
        · simp only [h0, decide_false]
          exact fin _ _ h1 hm5
      · simp only [hi0, decide_false]
        exact fin _ _ h1 h2
    refine ⟨trivial, trivial, ?_⟩
    by_cases h4 : (r4 : Int) = 0
    · simp only [h4, decide_true]
      exact ⟨by omega, step2 [] m4 rk0 hm4⟩
    · simp only [h4, decide_false]
      exact step2 r m4 hrk hm4
  · rintro ρ μ' ⟨rows, mo, x, y, rfl, rfl, hmo, hl, hr⟩
    walk_at "dl"
    simp only [seqD_at upm_same]
    exact ⟨trivial, out_less (less_upm (by rw [upm_ne hps]; exact hp)) (h rows mo hl hr hmo)⟩
end BF

/-! How far a mark looks: in plain Lean. -/
namespace BM
/-- what stands at a place, any whole number -/
def G {α : Type} (l : List α) (i : Int) : Option α := if i < 0 then none else l[i.toNat]?
theorem G_nat {α : Type} (l : List α) (i : Nat) : G l (i : Int) = l[i]? := by
  unfold G; rw [if_neg (by omega)]; simp
theorem G_neg {α : Type} (l : List α) {i : Int} (h : i < 0) : G l i = none := by unfold G; rw [if_pos h]
theorem turnR_at : ∀ (l : List Nat) (p i : Nat), (turnR p l)[i]? = (l[i]?).map fun x => turn1 (((p :: l)[i]?).getD 0) x
  | [], p, i => by simp [turnR]
  | x :: r, p, 0 => by simp [turnR]
  | x :: r, p, i + 1 => by
    rw [turnR, List.getElem?_cons_succ, turnR_at r x i, List.getElem?_cons_succ, List.getElem?_cons_succ]
def fT (a b : Option Nat) : Option Nat := match b with
  | none => none
  | some x => some (match a with | none => x % 2 | some p => turn1 p x)
theorem G_turn (l : List Nat) (i : Int) : G (turnM l) i = fT (G l (i - 1)) (G l i) := by
  by_cases h : i < 0
  · rw [G_neg _ h, G_neg l h]; rfl
  · obtain ⟨n, rfl⟩ := Int.eq_ofNat_of_zero_le (show 0 ≤ i by omega)
    rw [G_nat, G_nat]
    cases l with
    | nil => simp [turnM, fT]
    | cons x r =>
      cases n with
      | zero => rw [G_neg _ (by omega)]; simp [turnM, fT]
      | succ n =>
        rw [show ((n + 1 : Nat) : Int) - 1 = (n : Int) by omega, G_nat]
        show (x % 2 :: turnR x r)[n + 1]? = _
        rw [List.getElem?_cons_succ, List.getElem?_cons_succ, turnR_at]
        cases hr : r[n]? with
        | none => simp [fT]
        | some y =>
          have hn : n < r.length := (List.getElem?_eq_some_iff.mp hr).1
          rw [List.getElem?_eq_getElem (show n < (x :: r).length by simp; omega)]
          simp [fT]
def fC (h : Nat) (a b c : Option Nat) : Option Nat := b.map fun x => if x = h then pickC (a.toList ++ c.toList) else x
theorem colR_at (h : Nat) : ∀ (l : List Nat) (p p0 : Option Nat) (i : Nat), NoAdj l → (∀ x r, l = x :: r → x = h → p = p0) →
    (colR h p l)[i]? = (l[i]?).map fun x => if x = h then pickC ((((p0 :: l.map some)[i]?).join).toList ++ (l[i + 1]?).toList) else x
  | [], p, p0, i, _, _ => by simp [colR]
  | x :: r, p, p0, 0, hn, hp => by
    simp only [colR, List.getElem?_cons_zero, Option.map_some, Option.join]
    by_cases e : x = h
    · rw [if_pos e, if_pos e, hp x r rfl e]
      cases r <;> simp [nbs]
    · rw [if_neg e, if_neg e]
  | x :: r, p, p0, i + 1, hn, hp => by
    rw [colR, List.getElem?_cons_succ, colR_at h r _ (some x) i hn.tail ?_]
    · simp
    · intro y r' e e2
      subst e
      have hxy := hn.1
      have : x ≠ h := fun z => hxy (by rw [z, e2])
      rw [if_neg this]
theorem G_col {h : Nat} {l : List Nat} (hn : NoAdj l) (i : Int) : G (colR h none l) i = fC h (G l (i - 1)) (G l i) (G l (i + 1)) := by
  by_cases hi : i < 0
  · rw [G_neg _ hi, G_neg l hi]; rfl
  · obtain ⟨n, rfl⟩ := Int.eq_ofNat_of_zero_le (show 0 ≤ i by omega)
    rw [G_nat, G_nat, colR_at h l none none n hn (fun _ _ _ _ => rfl), show (n : Int) + 1 = ((n + 1 : Nat) : Int) by omega, G_nat]
    unfold fC
    congr 1
    funext x
    have : ((none :: l.map some)[n]?).join = G l ((n : Int) - 1) := by
      cases n with
      | zero => rw [G_neg _ (by omega)]; rfl
      | succ n =>
        rw [show ((n + 1 : Nat) : Int) - 1 = (n : Int) by omega, G_nat, List.getElem?_cons_succ, List.getElem?_map]
        cases l[n]? <;> rfl
    rw [this]
theorem pickC_not {xs : List Nat} (h : xs.length ≤ 2) : pickC xs ∉ xs := by
  unfold pickC
  split
  · assumption
  · split
    · assumption
    · rename_i h0 h1
      intro h2
      have h0 : 0 ∈ xs := Decidable.not_not.mp h0
      have h1 : 1 ∈ xs := Decidable.not_not.mp h1
      have : [0, 1, 2].length ≤ xs.length := nodup_sub_len (by decide) fun x hx => by
        simp only [List.mem_cons, List.not_mem_nil, or_false] at hx
        rcases hx with rfl | rfl | rfl
        · exact h0
        · exact h1
        · exact h2
      simp at this
      omega
theorem noadj_iff : ∀ {l : List Nat}, NoAdj l ↔ ∀ (i : Nat) x y, l[i]? = some x → l[i + 1]? = some y → x ≠ y
  | [] => by simp [NoAdj]
  | [a] => by simp [NoAdj]
  | a :: b :: r => by
    have ih := noadj_iff (l := b :: r)
    constructor
    · rintro ⟨h1, h2⟩ i x y hx hy
      cases i with
      | zero => simp at hx hy; subst hx; subst hy; exact h1
      | succ i => exact ih.mp h2 i x y (by simpa using hx) (by simpa using hy)
    · intro h
      exact ⟨h 0 a b rfl rfl, ih.mpr fun i x y hx hy => h (i + 1) x y (by simpa using hx) (by simpa using hy)⟩
theorem col_noadj {h : Nat} {l : List Nat} (hn : NoAdj l) : NoAdj (colR h none l) := by
  rw [noadj_iff]
  intro i x y hx hy
  have h1 := G_col (h := h) hn (i : Int)
  have h2 := G_col (h := h) hn ((i : Int) + 1)
  rw [G_nat] at h1
  rw [show (i : Int) + 1 = ((i + 1 : Nat) : Int) by omega, G_nat, show ((i + 1 : Nat) : Int) - 1 = (i : Int) by omega, G_nat l i, G_nat l (i + 1)] at h2
  rw [show (i : Int) + 1 = ((i + 1 : Nat) : Int) by omega, G_nat l i, G_nat l (i + 1)] at h1
  rw [hx] at h1
  rw [hy] at h2
  have hno := noadj_iff.mp hn i
  cases ha : l[i]? with
  | none => rw [ha] at h1; cases h1
  | some a =>
    cases hb : l[i + 1]? with
    | none => rw [hb] at h2; cases h2
    | some b =>
      have hab := hno a b ha hb
      rw [ha, hb] at h1 h2
      simp only [fC, Option.map_some, Option.some.injEq, Option.toList_some] at h1 h2
      have lc : ∀ o o' : Option Nat, (o.toList ++ o'.toList).length ≤ 2 := by intro o o'; cases o <;> cases o' <;> simp
      by_cases e1 : a = h
      · have e2 : b ≠ h := fun z => hab (by rw [e1, z])
        rw [if_pos e1] at h1
        rw [if_neg e2] at h2
        intro e
        have := pickC_not (lc (G l ((i : Int) - 1)) (some b))
        apply this
        rw [Option.toList_some, ← h1, e, h2]
        simp
      · rw [if_neg e1] at h1
        by_cases e2 : b = h
        · rw [if_pos e2] at h2
          intro e
          have := pickC_not (lc (some a) (G l (((i + 1 : Nat) : Int) + 1)))
          apply this
          rw [Option.toList_some, ← h2, ← e, h1]
          simp
        · rw [if_neg e2] at h2
          rw [h1, h2]; exact hab
theorem colM_noadj {l : List Nat} (h : NoAdj l) : NoAdj (colM l) := col_noadj (col_noadj (col_noadj h))
theorem labM_noadj {es : List Ent} (h : NoAdj (es.map codeN)) : NoAdj (labM es) := turnM_noadj (turnM_noadj (turnM_noadj (turnM_noadj (turnM_noadj h))))
/-- a round of the marks -/
def fM (s : Nat) (c : Option Nat) (a m b : Option Bool) : Option Bool := match c, m with
  | some x, some y => some (y || (x == s && !(a.getD false || b.getD false)))
  | _, _ => none
theorem mkR_at (s : Nat) : ∀ (cs : List Nat) (ms : List Bool) (p p0 : Bool) (i : Nat), NoAdj cs → (∀ x r, cs = x :: r → x = s → p = p0) → cs.length = ms.length →
    (mkR s p cs ms)[i]? = fM s (cs[i]?) ((p0 :: ms)[i]?) (ms[i]?) (ms[i + 1]?)
  | [], ms, p, p0, i, _, _, hl => by
    cases ms with
    | nil => simp [mkR, fM]
    | cons m ms => cases hl
  | c :: cs, [], _, _, _, _, _, hl => by cases hl
  | c :: cs, m :: ms, p, p0, 0, hn, hp, hl => by
    simp only [mkR, List.getElem?_cons_zero, fM, Option.getD_some]
    have e : (c == s && !(p || ms.headD false)) = (c == s && !(p0 || ((m :: ms)[0 + 1]?).getD false)) := by
      by_cases q : c = s
      · rw [hp c cs rfl q]; cases ms <;> simp
      · have : (c == s) = false := by simpa using q
        rw [this]; rfl
    rw [e]
  | c :: cs, m :: ms, p, p0, i + 1, hn, hp, hl => by
    rw [mkR, List.getElem?_cons_succ, mkR_at s cs ms _ m i hn.tail ?_ (Nat.succ.inj hl)]
    · simp
    · intro y r' e e2
      subst e
      have hxy := hn.1
      have : (c == s) = false := by
        rw [beq_eq_false_iff_ne]
        exact fun z => hxy (by rw [z, e2])
      rw [this]; simp
/-- .. with the first knot ahead: it stays unmarked -/
def mkP (s : Nat) (cs : List Nat) (ms : List Bool) : List Bool := match cs, ms with
  | _ :: cs, m :: ms => m :: mkR s m cs ms
  | _, ms => ms
def fP (s : Nat) (pc c : Option Nat) (a m b : Option Bool) : Option Bool := match pc with
  | none => m
  | some _ => fM s c a m b
theorem G_mkP {s : Nat} {cs : List Nat} {ms : List Bool} (hn : NoAdj cs) (hl : cs.length = ms.length) (i : Int) : G (mkP s cs ms) i = fP s (G cs (i - 1)) (G cs i) (G ms (i - 1)) (G ms i) (G ms (i + 1)) := by
  by_cases hi : i < 0
  · rw [G_neg _ hi, G_neg cs (show i - 1 < 0 by omega), G_neg ms hi]; rfl
  · obtain ⟨n, rfl⟩ := Int.eq_ofNat_of_zero_le (show 0 ≤ i by omega)
    rw [G_nat, G_nat, G_nat, show (n : Int) + 1 = ((n + 1 : Nat) : Int) by omega, G_nat]
    cases cs with
    | nil =>
      cases ms with
      | nil =>
        have e : G ([] : List Nat) ((n : Int) - 1) = none := by unfold G; split <;> simp
        rw [e]; simp [mkP, fP]
      | cons m ms => cases hl
    | cons c cs =>
      cases ms with
      | nil => cases hl
      | cons m ms =>
        cases n with
        | zero => rw [G_neg (c :: cs) (by omega)]; rfl
        | succ n =>
          rw [show ((n + 1 : Nat) : Int) - 1 = (n : Int) by omega, G_nat, G_nat]
          show (m :: mkR s m cs ms)[n + 1]? = _
          rw [List.getElem?_cons_succ, mkR_at s cs ms m m n hn.tail (fun _ _ _ _ => rfl) (Nat.succ.inj hl), List.getElem?_cons_succ, List.getElem?_cons_succ, List.getElem?_cons_succ]
          cases hc : (c :: cs)[n]? with
          | some x => rfl
          | none =>
            have : cs[n]? = none := by
              rw [List.getElem?_eq_none_iff] at hc ⊢
              simp at hc; omega
            rw [this]
            have hm : ms[n]? = none := by
              rw [List.getElem?_eq_none_iff] at this ⊢
              have := Nat.succ.inj hl
              omega
            rw [hm]; rfl
theorem mkP_len {s : Nat} {cs : List Nat} {ms : List Bool} (hl : cs.length = ms.length) : (mkP s cs ms).length = ms.length := by
  cases cs with
  | nil => cases ms <;> rfl
  | cons c cs =>
    cases ms with
    | nil => rfl
    | cons m ms => exact congrArg Nat.succ (mkR_len s cs ms m (Nat.succ.inj hl))
theorem mkM_eq (l : List Nat) : mkM l = mkP 0 l (mkP 1 l (mkP 2 l (List.replicate l.length false))) := by
  cases l with
  | nil => rfl
  | cons c cs => rfl
/-- the first round: the marked ones are those of colour 2, but for the first -/
theorem G_mk2 {cs : List Nat} (hn : NoAdj cs) (i : Int) : G (mkP 2 cs (List.replicate cs.length false)) i = (match G cs (i - 1) with | none => (G cs i).map fun _ => false | some _ => (G cs i).map fun x => x == 2) := by
  rw [G_mkP hn (by simp)]
  have hr : ∀ j : Int, G (List.replicate cs.length false) j = (G cs j).map fun _ => false := by
    intro j
    unfold G
    split
    · rfl
    · rw [List.getElem?_replicate]
      split
      · rename_i h; rw [List.getElem?_eq_getElem h]; rfl
      · rename_i h; rw [List.getElem?_eq_none (by omega)]; rfl
  rw [hr, hr, hr]
  unfold fP
  cases G cs (i - 1) with
  | none => rfl
  | some a =>
    simp only
    cases G cs i with
    | none => rfl
    | some x => cases G cs (i + 1) <;> simp [fM]
/-- two lists look alike around two places -/
def Near {α : Type} (l l' : List α) (i i' : Int) (a b : Int) : Prop := ∀ k : Int, -a ≤ k → k ≤ b → G l (i + k) = G l' (i' + k)
theorem near_turn {l l' : List Nat} {i i' a b : Int} (h : Near l l' i i' (a + 1) b) : Near (turnM l) (turnM l') i i' a b := fun k h1 h2 => by
  rw [G_turn, G_turn, h k (by omega) h2, show i + k - 1 = i + (k - 1) by omega, show i' + k - 1 = i' + (k - 1) by omega, h (k - 1) (by omega) (by omega)]
theorem near_col {l l' : List Nat} {hc : Nat} {i i' a b : Int} (n : NoAdj l) (n' : NoAdj l') (h : Near l l' i i' (a + 1) (b + 1)) : Near (colR hc none l) (colR hc none l') i i' a b := fun k h1 h2 => by
  rw [G_col n, G_col n', h k (by omega) (by omega), show i + k - 1 = i + (k - 1) by omega, show i' + k - 1 = i' + (k - 1) by omega, h (k - 1) (by omega) (by omega),
    show i + k + 1 = i + (k + 1) by omega, show i' + k + 1 = i' + (k + 1) by omega, h (k + 1) (by omega) (by omega)]
theorem near_less {α : Type} {l l' : List α} {i i' a b a' b' : Int} (h : Near l l' i i' a b) (h1 : a' ≤ a) (h2 : b' ≤ b) : Near l l' i i' a' b' := fun k q1 q2 => h k (by omega) (by omega)
theorem near_mk2 {l l' : List Nat} {i i' a b : Int} (n : NoAdj l) (n' : NoAdj l') (h : Near l l' i i' a b) (hs : ∀ k : Int, -(a + 1) ≤ k → k ≤ b → (G l (i + k)).isSome = (G l' (i' + k)).isSome) :
    Near (mkP 2 l (List.replicate l.length false)) (mkP 2 l' (List.replicate l'.length false)) i i' a b := fun k h1 h2 => by
  rw [G_mk2 n, G_mk2 n', h k (by omega) (by omega), show i + k - 1 = i + (k - 1) by omega, show i' + k - 1 = i' + (k - 1) by omega]
  have := hs (k - 1) (by omega) (by omega)
  cases h3 : G l (i + (k - 1)) <;> cases h4 : G l' (i' + (k - 1)) <;> rw [h3, h4] at this <;> first | rfl | cases this
theorem near_mk {l l' : List Nat} {ms ms' : List Bool} {s : Nat} {i i' a b : Int} (n : NoAdj l) (n' : NoAdj l') (hl : l.length = ms.length) (hl' : l'.length = ms'.length) (h : Near l l' i i' (a + 1) b) (hm : Near ms ms' i i' (a + 1) (b + 1)) : Near (mkP s l ms) (mkP s l' ms') i i' a b := fun k h1 h2 => by
  rw [G_mkP n hl, G_mkP n' hl', h k (by omega) (by omega), hm k (by omega) (by omega), show i + k - 1 = i + (k - 1) by omega, show i' + k - 1 = i' + (k - 1) by omega, h (k - 1) (by omega) (by omega), hm (k - 1) (by omega) (by omega),
    show i + k + 1 = i + (k + 1) by omega, show i' + k + 1 = i' + (k + 1) by omega, hm (k + 1) (by omega) (by omega)]
theorem some_len {α β : Type} {l : List α} {m : List β} (h : l.length = m.length) (j : Int) : (G l j).isSome = (G m j).isSome := by
  unfold G
  split
  · rfl
  · by_cases q : j.toNat < l.length
    · rw [List.getElem?_eq_getElem q, List.getElem?_eq_getElem (by omega)]; rfl
    · rw [List.getElem?_eq_none (by omega), List.getElem?_eq_none (by omega)]; rfl
theorem near_map {α β : Type} {f : α → β} {l l' : List α} {i i' a b : Int} (h : Near l l' i i' a b) : Near (l.map f) (l'.map f) i i' a b := fun k h1 h2 => by
  have := h k h1 h2
  unfold G at this ⊢
  split
  · rename_i q
    rw [if_pos q] at this
    split
    · rfl
    · rename_i q2
      rw [if_neg q2] at this
      rw [List.getElem?_map, ← this]; rfl
  · rename_i q
    rw [if_neg q] at this
    split
    · rename_i q2
      rw [if_pos q2] at this
      rw [List.getElem?_map, this]; rfl
    · rename_i q2
      rw [if_neg q2] at this
      rw [List.getElem?_map, List.getElem?_map, this]
/-- a mark depends on ten entries ahead and five behind -/
theorem near_marks {A B : List Ent} {i i' : Int} (ha : NoAdj (A.map codeN)) (hb : NoAdj (B.map codeN)) (h : Near A B i i' 10 5) : G (marksM A) i = G (marksM B) i' := by
  have hl : Near (labM A) (labM B) i i' 5 5 := near_turn (near_turn (near_turn (near_turn (near_turn (near_map (f := codeN) h)))))
  have na := labM_noadj ha
  have nb := labM_noadj hb
  have hc : Near (colM (labM A)) (colM (labM B)) i i' 2 2 := near_col (col_noadj (col_noadj na)) (col_noadj (col_noadj nb)) (near_col (col_noadj na) (col_noadj nb) (near_col na nb hl))
  have ma := colM_noadj na
  have mb := colM_noadj nb
  have la : (colM (labM A)).length = A.length := by rw [colM_len, labM_len]
  have lb : (colM (labM B)).length = B.length := by rw [colM_len, labM_len]
  have h2 := near_mk2 ma mb hc fun k h1 h2 => by
    rw [some_len la, some_len lb, h k (by omega) (by omega)]
  have l2 : ∀ l : List Nat, l.length = (mkP 2 l (List.replicate l.length false)).length := fun l => by rw [mkP_len (by simp)]; simp
  have h1 : Near _ _ i i' 1 1 := near_mk (s := 1) ma mb (l2 _) (l2 _) (near_less hc (by omega) (by omega)) h2
  have l1 : ∀ l : List Nat, l.length = (mkP 1 l (mkP 2 l (List.replicate l.length false))).length := fun l => by rw [mkP_len (l2 l), ← l2 l]
  have h0 : Near _ _ i i' 0 0 := near_mk (s := 0) ma mb (l1 _) (l1 _) (near_less hc (by omega) (by omega)) h1
  have := h0 0 (by omega) (by omega)
  rw [Int.add_zero, Int.add_zero, ← mkM_eq, ← mkM_eq] at this
  exact this
/-! ### what is changed above lies near what is changed below -/
theorem mem_keepB : ∀ {es : List Ent} {bs : List Bool} {e : Ent}, e ∈ keepB es bs ↔ ∃ i : Nat, es[i]? = some e ∧ bs[i]? = some true
  | [], bs, e => by simp [keepB]
  | x :: es, [], e => by simp [keepB]
  | x :: es, b :: bs, e => by
    have ih := mem_keepB (es := es) (bs := bs) (e := e)
    have key : e ∈ keepB (x :: es) (b :: bs) ↔ (b = true ∧ e = x) ∨ e ∈ keepB es bs := by
      rw [keepB]
      cases b <;> simp
    rw [key, ih]
    constructor
    · rintro (⟨h1, h2⟩ | ⟨i, h1, h2⟩)
      · exact ⟨0, by rw [h2]; rfl, by rw [h1]; rfl⟩
      · exact ⟨i + 1, h1, h2⟩
    · rintro ⟨i, h1, h2⟩
      cases i with
      | zero => left; simp at h1 h2; exact ⟨h2, h1.symm⟩
      | succ i => right; exact ⟨i, h1, h2⟩
theorem mem_hand_at {es : List Ent} (hn : es.Nodup) {i : Nat} {e : Ent} (hi : es[i]? = some e) : e ∈ handM es ↔ (marksM es)[i]? = some true := by
  unfold handM
  rw [mem_keepB]
  constructor
  · rintro ⟨j, h1, h2⟩
    have : i = j := by
      have hl1 := (List.getElem?_eq_some_iff.mp hi).1
      exact (List.getElem?_inj hl1 hn).mp (by rw [hi, h1])
    subst this
    exact h2
  · exact fun h => ⟨i, hi, h⟩
theorem G_app {α : Type} (X Y : List α) (i : Int) (h : 0 ≤ i) : G (X ++ Y) ((X.length : Int) + i) = G Y i := by
  obtain ⟨n, rfl⟩ := Int.eq_ofNat_of_zero_le h
  rw [show ((X.length : Int) + (n : Int)) = ((X.length + n : Nat) : Int) by omega, G_nat, G_nat, List.getElem?_append_right (by omega)]
  congr 1; omega
theorem G_over {α : Type} {X : List α} {i : Int} (h : (X.length : Int) ≤ i) : G X i = none := by
  unfold G
  rw [if_neg (by omega), List.getElem?_eq_none (by omega)]
theorem near_block {α : Type} {M R : List α} {i : Nat} (X Y X' Y' : List α) (hl : X = [] ∧ X' = [] ∨ 10 ≤ i) (hr : Y = [] ∧ Y' = [] ∨ i + 5 < M.length) (hi : i < M.length) :
    Near (X ++ (M ++ Y)) (X' ++ (M ++ Y')) ((X.length : Int) + i) ((X'.length : Int) + i) 10 5 := by
  have inM : ∀ (X Y : List α) (j : Int), 0 ≤ j → j < (M.length : Int) → G (X ++ (M ++ Y)) ((X.length : Int) + j) = G M j := by
    intro X Y j h1 h2
    rw [G_app X _ j h1]
    obtain ⟨n, rfl⟩ := Int.eq_ofNat_of_zero_le h1
    rw [G_nat, G_nat, List.getElem?_append_left (by omega)]
  intro k h1 h2
  by_cases q1 : 0 ≤ (i : Int) + k
  · by_cases q2 : (i : Int) + k < (M.length : Int)
    · rw [show (X.length : Int) + (i : Int) + k = (X.length : Int) + ((i : Int) + k) by omega, show (X'.length : Int) + (i : Int) + k = (X'.length : Int) + ((i : Int) + k) by omega, inM X Y _ q1 q2, inM X' Y' _ q1 q2]
    · rcases hr with ⟨rfl, rfl⟩ | hr
      · rw [G_over (by simp; omega), G_over (by simp; omega)]
      · omega
  · rcases hl with ⟨rfl, rfl⟩ | hl
    · rw [G_neg _ (by simp; omega), G_neg _ (by simp; omega)]
    · omega
theorem near_changed {A B W : List Ent} (ha : Asc A) (hb : Asc B) (oa : ∀ e ∈ A, okE e) (ob : ∀ e ∈ B, okE e) (hW : W = sortP (A ++ dif B A)) {e : Ent} (he : ¬ (e ∈ handM A ↔ e ∈ handM B)) {j : Nat} (hj : W[j]? = some e) :
    ∃ z ∈ (W.drop (j - 10)).take (j + 6 - (j - 10)), z ∈ dif A B ∨ z ∈ dif B A := by
  refine Decidable.byContradiction fun hno => he ?_
  have hjl := (List.getElem?_eq_some_iff.mp hj).1
  have hmW : ∀ z, z ∈ W ↔ z ∈ A ∨ z ∈ B := fun z => by
    rw [hW, (sortG_perm leE _).mem_iff, List.mem_append, mem_dif]
    constructor
    · rintro (h | h)
      · exact .inl h
      · exact .inr h.1
    · rintro (h | h)
      · exact .inl h
      · by_cases q : z ∈ A
        · exact .inl q
        · exact .inr ⟨h, q⟩
  have hWa : Asc W := by
    rw [hW]
    exact sortP_asc (List.nodup_append.mpr ⟨asc_nodup ha, asc_nodup (dif_asc hb), fun a h1 b h2 e => (mem_dif.mp h2).2 (e ▸ h1)⟩)
  have hsplit : W = W.take (j - 10) ++ ((W.drop (j - 10)).take (j + 6 - (j - 10)) ++ W.drop (j + 6)) := by
    have h1 : W.drop (j + 6) = (W.drop (j - 10)).drop (j + 6 - (j - 10)) := by rw [List.drop_drop]; congr 1; omega
    rw [h1, List.take_append_drop, List.take_append_drop]
  generalize hL : W.take (j - 10) = L at hsplit
  generalize hM : (W.drop (j - 10)).take (j + 6 - (j - 10)) = M at hsplit hno
  generalize hR : W.drop (j + 6) = R at hsplit
  have hMin : ∀ z ∈ M, z ∈ A ∧ z ∈ B := fun z hz => by
    have hzW : z ∈ W := by rw [hsplit]; exact List.mem_append_right _ (List.mem_append_left _ hz)
    refine ⟨Decidable.byContradiction fun q => hno ⟨z, hz, .inr (mem_dif.mpr ⟨?_, q⟩)⟩, Decidable.byContradiction fun q => hno ⟨z, hz, .inl (mem_dif.mpr ⟨?_, q⟩)⟩⟩
    · exact ((hmW z).mp hzW).resolve_left q
    · exact ((hmW z).mp hzW).resolve_right q
  have hdec : ∀ C : List Ent, Asc C → (∀ z ∈ C, z ∈ W) → (∀ z ∈ M, z ∈ C) → C = L.filter (fun z => decide (z ∈ C)) ++ (M ++ R.filter fun z => decide (z ∈ C)) := fun C hC h1 h2 => by
    have e1 : C = W.filter fun z => decide (z ∈ C) := asc_ext hC (hWa.sublist List.filter_sublist) fun z => by
      rw [List.mem_filter, decide_eq_true_eq]
      exact ⟨fun h => ⟨h1 z h, h⟩, fun h => h.2⟩
    have e2 : M.filter (fun z => decide (z ∈ C)) = M := by
      rw [List.filter_eq_self]
      intro z hz
      exact decide_eq_true (h2 z hz)
    have e3 : W.filter (fun z => decide (z ∈ C)) = L.filter (fun z => decide (z ∈ C)) ++ (M ++ R.filter fun z => decide (z ∈ C)) := by
      rw [hsplit, List.filter_append, List.filter_append, e2]
    exact e1.trans e3
  have dA := hdec A ha (fun z h => (hmW z).mpr (.inl h)) fun z h => (hMin z h).1
  have dB := hdec B hb (fun z h => (hmW z).mpr (.inr h)) fun z h => (hMin z h).2
  have hML : M.length = min (j + 6 - (j - 10)) (W.length - (j - 10)) := by rw [← hM, List.length_take, List.length_drop]
  have hLL : L.length = j - 10 := by rw [← hL, List.length_take]; omega
  have hMe : M[j - (j - 10)]? = some e := by
    rw [← hM, List.getElem?_take_of_lt (by omega), List.getElem?_drop, show j - 10 + (j - (j - 10)) = j by omega]
    exact hj
  have hiM : j - (j - 10) < M.length := by omega
  have hLn : L = [] ∨ 10 ≤ j - (j - 10) := by
    by_cases q : j < 10
    · left; exact List.eq_nil_of_length_eq_zero (by omega)
    · right; omega
  have hRn : R = [] ∨ j - (j - 10) + 5 < M.length := by
    by_cases q : W.length ≤ j + 6
    · left; rw [← hR]; exact List.drop_eq_nil_of_le q
    · right; omega
  have near := near_block (M := M) (R := R) (i := j - (j - 10)) (L.filter fun z => decide (z ∈ A)) (R.filter fun z => decide (z ∈ A)) (L.filter fun z => decide (z ∈ B)) (R.filter fun z => decide (z ∈ B))
    (hLn.imp (fun h => by rw [h]; exact ⟨rfl, rfl⟩) id) (hRn.imp (fun h => by rw [h]; exact ⟨rfl, rfl⟩) id) hiM
  have na := asc_noadj ha oa
  have nb := asc_noadj hb ob
  have at1 : ∀ (C X Y : List Ent), C = X ++ (M ++ Y) → C[X.length + (j - (j - 10))]? = some e := fun C X Y h => by
    rw [h, List.getElem?_append_right (by omega), show X.length + (j - (j - 10)) - X.length = j - (j - 10) by omega, List.getElem?_append_left hiM]
    exact hMe
  have q1 := mem_hand_at (asc_nodup ha) (at1 A _ _ dA)
  have q2 := mem_hand_at (asc_nodup hb) (at1 B _ _ dB)
  rw [q1, q2]
  rw [← dA, ← dB] at near
  have q3 := near_marks na nb near
  rw [show (((L.filter fun z => decide (z ∈ A)).length : Int) + ((j - (j - 10) : Nat) : Int)) = (((L.filter fun z => decide (z ∈ A)).length + (j - (j - 10)) : Nat) : Int) by omega,
    show (((L.filter fun z => decide (z ∈ B)).length : Int) + ((j - (j - 10) : Nat) : Int)) = (((L.filter fun z => decide (z ∈ B)).length + (j - (j - 10)) : Nat) : Int) by omega, G_nat, G_nat] at q3
  rw [q3]
end BM

namespace BF
open PySem PySem.Spec PyProof.Rows L2 BM DL
local macro_rules | `(tactic| walk_at "dl") => `(tactic| simp only [rSeq, rSkip, rAsg, rDrop, rRet, rIf, rOp, rv, rc, rB, rCh, rAnd, rOr, rNot, rTru, rAndV, rOrV, rNotV, rNil, rCons, rLst, rTup, rCB, rUn, rSl, rNoP, rSoP, rCall, rMeth, rMake, rFld, rFset, rIt, rRng1, rRng2, rRng3, rRevR1, rEnum, rZip, rRev, rFor, rLC, rYes, stepC, rgName, rgTup, rBM, rBM0, rDGet, rDIn, rDGet2, rDPut, rDNew, rNever, rDisp3, rGhE, gSet, opAdd, opSub, opMul, opFdv, opMod, opPow, opShr, unNeg, opLt, opLe, opGt, opGe, opIx, slD, cLen, cAbs, cMin, cMax, cSum, cAny, cAll, cList, cTuple, cInt, cIsi, startD, endsQ, slot_0, slot_s, put_0, put_s, puts_nil, puts_cons, wipeD_nil, wipeD_cons, rs_non, rs_bl, rs_int, rs_str, rs_ty, rs_lst, rs_tup, rs_dk, rs_dt, rs_scr, itm_lst, itm_scr, seqD_lst, seqD_tup, seqD_scr, lenD_lst, lenD_tup, lenD_scr, lenD_dk, tyD_int, tyD_bl, tyD_non, tyD_str, tyD_lst, tyD_tup, tyD_dk, truD_bl, truD_int, truD_lst, isTy_lst, isTy_str, itD_lst, itD_tup, newL_f, newL_t, List.map_cons, List.map_nil, List.length_cons, List.length_nil, List.cons_append, List.nil_append, List.replicate, List.set_cons_zero, List.set_cons_succ])
local macro_rules | `(tactic| walk_at "dlh") => `(tactic| simp only [rSeq, rSkip, rAsg, rDrop, rRet, rIf, rOp, rv, rc, rB, rCh, rAnd, rOr, rNot, rTru, rAndV, rOrV, rNotV, rNil, rCons, rLst, rTup, rCB, rUn, rSl, rNoP, rSoP, rCall, rMeth, rMake, rFld, rFset, rIt, rRng1, rRng2, rRng3, rRevR1, rEnum, rZip, rRev, rFor, rLC, rYes, stepC, rgName, rgTup, rBM, rBM0, rDGet, rDIn, rDGet2, rDPut, rDNew, rNever, rDisp3, rGhE, gSet, opAdd, opSub, opMul, opFdv, opMod, opPow, opShr, unNeg, opLt, opLe, opGt, opGe, opIx, slD, cLen, cAbs, cMin, cMax, cSum, cAny, cAll, cList, cTuple, cInt, cIsi, startD, endsQ, slot_0, slot_s, put_0, put_s, puts_nil, puts_cons, wipeD_nil, wipeD_cons, rs_non, rs_bl, rs_int, rs_str, rs_ty, rs_lst, rs_tup, rs_dk, rs_dt, rs_scr, itm_lst, itm_scr, seqD_lst, seqD_tup, seqD_scr, lenD_lst, lenD_tup, lenD_scr, lenD_dk, tyD_int, tyD_bl, tyD_non, tyD_str, tyD_lst, tyD_tup, tyD_dk, truD_bl, truD_int, truD_lst, isTy_lst, isTy_str, itD_lst, itD_tup, newL_f, newL_t, List.map_cons, List.map_nil, List.length_cons, List.length_nil, List.cons_append, List.nil_append, List.replicate, List.set_cons_zero, List.set_cons_succ, *])
/-- slots: _law_state 0 _law_tree_here 1 _law_rows_here 2 _law_knot 3 _law_key_here 4 -/
def rd__law_step : RSt :=
  (rSeq (rAsg (rCall (asp__law_take) (rCons (rv 0) (rCons (rCB cLen (rCons (rv 1) rNil)) rNil))) (rgName 3))
    (rSeq (rAsg (rCall (asp__law_key) (rCons (rv 0) rNil)) (rgName 4))
    (rSeq (rIf (rAnd (rB (rOp opGt (rCB cLen (rCons (rOp opIx (rv 2) (rv 3)) rNil)) (rc (.int 0)))) (rB (rOp opEq (rCall (asp__law_take) (rCons (rv 0) (rCons (rc (.int 2)) rNil))) (rc (.int 0)))))
    (rAsg (rOp opIx (rOp opIx (rv 2) (rv 3)) (rCall (asp__law_take) (rCons (rv 0) (rCons (rCB cLen (rCons (rOp opIx (rv 2) (rv 3)) rNil)) rNil)))) (rgName 4))
    rSkip)
    (rRet (rTup (rCons (rv 3) (rCons (rv 4) (rCons (rOp (opIn true) (rv 4) (rOp opIx (rv 2) (rv 3))) rNil))))))))
def stRows (rows : List (List Int)) : D := .tup (rows.map encRow)
def asp__law_step : ASp := fun ds μ q => ∃ (sa : Addr) (tr : List D) (rows : List (List Int)), ds = [.ob sa, .tup tr, stRows rows] ∧ St μ sa ∧ tr.length = rows.length ∧ 0 < rows.length ∧ rows.length ≤ 100 ∧ (∀ r ∈ rows, r.length ≤ 1000) ∧ (∀ r ∈ rows, ∀ x ∈ r, keyOk x) ∧
  ∀ (k : Nat) (x : Int) mo, k < rows.length → keyOk x → StM mo → q (.tup [.int (k : Int), .int x, .bl (decide (x ∉ rows.getD k []))]) (upm μ sa mo)
theorem inD_tup (x : Int) (ns : List Int) : inD (.int x) (ns.map D.int) = decide (x ∈ ns) := Enc.int.inD x ns
theorem rowT_at {rows : List (List Int)} {k : Nat} (h : k < rows.length) : atI (rows.map encRow) (k : Int) = some (encRow (rows.getD k [])) := at_nat (by rw [List.getElem?_map, List.getElem?_eq_getElem h, List.getD_eq_getElem?_getD, List.getElem?_eq_getElem h]; rfl)
theorem ok__law_step (K : PySem.W.Frag) (ds μ q) (h : asp__law_step ds μ q) : rd__law_step (endsQ K q) (startD 5 ds) μ := by
  obtain ⟨sa, tr, rows, rfl, hS, hl, hl0, hl1, hrl, hrk, h⟩ := h
  have hs := line_big
  unfold rd__law_step stRows
  walk_at "dl"
  refine ⟨sa, _, rfl, hS, by omega, by omega, fun k m1 hk hm1 => ?_⟩
  dsimp only
  have hk : k < rows.length := by omega
  refine ⟨sa, rfl, .upm hm1, fun x m2 hx hm2 => ?_⟩
  rw [upm_upm]
  have hmem : rows.getD k [] ∈ rows := by rw [List.getD_eq_getElem?_getD, List.getElem?_eq_getElem hk]; exact List.getElem_mem hk
  have hrlk := hrl _ hmem
  have fin : ∀ (y : Int) mo, keyOk y → StM mo → ∃ d' μ', GE K (D.tup [.int (k : Int), .int y, .bl (!decide (y ∈ rows.getD k []))]) (upm μ sa mo) d' μ' ∧ q d' μ' := fun y mo h1 h2 => by
    refine out_same ?_
    have := h k y mo hk h1 h2
    rw [decide_not] at this
    exact this
  have rowq : ∀ μ : Mu, rs μ (encRow (rows.getD k [])) = .tup ((rows.getD k []).map D.int) := fun _ => rfl
  have hfl : ((rows.getD k []).map D.int).all flatD = true := by rw [List.all_map, List.all_eq_true]; intro z _; rfl
  have inq : ∀ (y : Int) mo, keyOk y → StM mo → (opIn true (.int y) (encRow (rows.getD k [])) (upm μ sa mo) fun d3 μ3 => 0 + 1 + 1 + 1 ≤ sizeLine ∧ ∃ d' μ', GE K (D.tup [.int (k : Int), .int y, d3]) μ3 d' μ' ∧ q d' μ') := fun y mo h1 h2 => by
    unfold opIn
    simp only [rowq, rs_int, inD_tup, hfl, if_true]
    exact ⟨rfl, trivial, by omega, fin y mo h1 h2⟩
  simp only [rs_int, rowT_at hk]
  have lenq : ∀ μ : Mu, lenD μ (encRow (rows.getD k [])) = some (rows.getD k []).length := fun _ => by unfold encRow; rw [lenD_tup, List.length_map]
  simp only [lenq]
  by_cases h0 : 0 < ((rows.getD k []).length : Int)
  · simp only [h0, decide_true]
    refine ⟨sa, 2, rfl, .upm hm2, by decide, by decide, fun r m3 hr hm3 => ?_⟩
    rw [upm_upm]
    unfold opEq
    simp only [rs_int, shp_int, eqD_int]
    refine ⟨trivial, trivial, ?_⟩
    by_cases hr0 : (r : Int) = 0
    · simp only [hr0, decide_true]
      refine ⟨sa, _, rfl, .upm hm3, h0, by omega, fun j m4 hj hm4 => ?_⟩
      rw [upm_upm]
      have hj : j < (rows.getD k []).length := by omega
      have e : atI ((rows.getD k []).map D.int) (j : Int) = some (.int ((rows.getD k [])[j])) := at_nat (by rw [List.getElem?_map, List.getElem?_eq_getElem hj]; rfl)
      simp only [rowq, e]
      exact inq _ _ (hrk _ hmem _ (List.getElem_mem hj)) hm4
    · simp only [hr0, decide_false]
      exact inq _ _ hx hm3
  · simp only [h0, decide_false]
    exact inq _ _ hx hm2
/-- slots: _law_rows_here 0 _law_knot 1 _law_key_here 2 _law_is_put 3 _law_found 4 _law_other 5 -/
def rd__law_behind : RSt :=
  (rSeq (rAsg (rCB (cList true) (rCons (rv 0) rNil)) (rgName 4))
    (rSeq (rIf (rTru (rv 3))
    (rAsg (rCB cTuple (rCons (rCB (cSort false) (rCons (rOp (opAdd false) (rOp opIx (rv 4) (rv 1)) (rTup (rCons (rv 2) rNil))) rNil)) rNil)) (gSet (rv 4) (rv 1)))
    (rAsg (rCB cTuple (rCons (rLC false (rIt (rOp opIx (rv 4) (rv 1))) (rgName 5) (rB (rOp opNe (rv 5) (rv 2))) (rv 5) [5]) rNil)) (gSet (rv 4) (rv 1))))
    (rRet (rCB cTuple (rCons (rv 4) rNil)))))
def asp__law_behind : ASp := fun ds μ q => ∃ (rows : List (List Int)) (k : Nat) (x : Int) (b : Bool), ds = [stRows rows, .int (k : Int), .int x, .bl b] ∧ k < rows.length ∧ (∀ r ∈ rows, r.length ≤ 1000) ∧
  q (stRows (if b then putR rows k x else outR rows k x)) μ
theorem ok__law_behind (K : PySem.W.Frag) (ds μ q) (h : asp__law_behind ds μ q) : rd__law_behind (endsQ K q) (startD 6 ds) μ := by
  obtain ⟨rows, k, x, b, rfl, hk, hrl, h⟩ := h
  have hs := line_big
  have hmem : rows.getD k [] ∈ rows := by rw [List.getD_eq_getElem?_getD, List.getElem?_eq_getElem hk]; exact List.getElem_mem hk
  have hrlk := hrl _ hmem
  unfold rd__law_behind stRows
  walk_at "dl"
  intro p hp
  have hix : ixN (rows.map encRow).length (k : Int) = some k := ixN_nat (by rw [List.length_map]; exact hk)
  have rowq : ∀ μ : Mu, rs μ (encRow (rows.getD k [])) = .tup ((rows.getD k []).map D.int) := fun _ => rfl
  have hset : ∀ r : List Int, (rows.map encRow).set k (encRow r) = (rows.set k r).map encRow := fun r => by rw [List.map_set]
  cases b with
  | true =>
    have hj : (rows.getD k []).map D.int ++ [D.int x] = ((rows.getD k []) ++ [x]).map D.int := by simp
    have hb : (D.tup ((sortI ((rows.getD k []) ++ [x])).map D.int)) = encRow (insI x (rows.getD k [])) := rfl
    simp only [truD_bl, rs_at upm_same, rowT_at hk, rowq, hj, cSort_tup, newL_f, seqD_lst, upm_same, hix, hb, hset, upm_upm, seqD_at upm_same]
    refine ⟨by omega, by rw [List.length_map, List.length_singleton]; omega, out_less (less_upm hp) ?_⟩
    simp only [if_true] at h
    exact h
  | false =>
    simp only [truD_bl, rs_at upm_same, rowT_at hk]
    unfold encRow at *
    simp only [itD_tup]
    intro p2 hp2
    have hp2' : p2 ≠ p := fun e => by subst e; rw [upm_same] at hp2; cases hp2
    refine lc_fm D.int (fun y => if y ≠ x then some (.int y) else none) hp2 (fun _ => trivial) (by omega) (fun e he acc k' hk' => ?_) ?_
    · walk_at "dl"
      unfold opNe
      simp only [rs_int, shp_int, eqD_int]
      refine ⟨trivial, trivial, ?_⟩
      by_cases hc : e = x
      · simp only [hc, decide_true, Bool.not_true, ne_eq, not_true_eq_false, if_false] at hk' ⊢
        exact hk'
      · simp only [hc, decide_false, Bool.not_false, ne_eq, not_false_eq_true, if_true] at hk' ⊢
        exact hk'
    · rw [filterMap_if D.int (fun y => y ≠ x)]
      simp only [newL_f, seqD_lst, upm_same, hix, upm_upm, seqD_at upm_same]
      refine out_less (less_upm hp) ?_
      have e3 : ((rows.map fun r => D.tup (r.map D.int)).set k (.tup (((rows.getD k []).filter fun y => decide (y ≠ x)).map D.int))) = (outR rows k x).map encRow := by unfold outR delI; rw [List.map_set]; rfl
      rw [e3]
      exact h
end BF

/-! What a deed tells, line by line. -/
namespace BM
theorem toldF_get {ps : List Nat} {old new : Nat → List Ent} : ∀ (f k i : Nat) (t : Nat × List Ent × List Ent), (toldF ps old new f k)[i]? = some t →
    (t.2.1 = dif (old t.1) (new t.1) ∧ t.2.2 = dif (new t.1) (old t.1)) ∧ ¬ (t.2.1 = [] ∧ t.2.2 = []) ∧ Sub ps t.1 k ∧ (i = 0 → t.1 = k) ∧ ∀ t', (toldF ps old new f k)[i + 1]? = some t' → upK ps t.1 = some t'.1
  | 0, k, i, t, h => by cases h
  | f + 1, k, i, t, h => by
    unfold toldF at h ⊢
    split at h
    · cases h
    · rename_i hn
      rw [if_neg hn]
      cases i with
      | zero =>
        simp only [List.getElem?_cons_zero, Option.some.injEq] at h
        subst h
        refine ⟨⟨rfl, rfl⟩, hn, .self, fun _ => rfl, fun t' h' => ?_⟩
        rw [List.getElem?_cons_succ] at h'
        cases hu : upK ps k with
        | none => rw [hu] at h'; cases h'
        | some p =>
          rw [hu] at h'
          have := (toldF_get f p 0 t' h').2.2.2.1 rfl
          rw [this]
      | succ i =>
        rw [List.getElem?_cons_succ] at h
        cases hu : upK ps k with
        | none => rw [hu] at h; cases h
        | some p =>
          rw [hu] at h
          simp only at h
          obtain ⟨h1, h2, h3, _, h5⟩ := toldF_get f p i t h
          refine ⟨h1, h2, Sub.trans h3 (.up hu .self), (fun e => by omega), fun t' h' => ?_⟩
          rw [List.getElem?_cons_succ] at h'
          exact h5 t' h'
theorem toldM_first {ps : List Nat} {old new : Nat → List Ent} {k : Nat} (h : ¬ (dif (old k) (new k) = [] ∧ dif (new k) (old k) = [])) : (toldM ps old new k)[0]? = some (k, dif (old k) (new k), dif (new k) (old k)) := by
  unfold toldM toldF
  rw [if_neg h]; rfl
theorem Deed.near {ps : List Nat} {k0 : Nat} {rows rows' : List (List Int)} (d : Deed ps k0 rows rows') {k p : Nat} (s : Sub ps k k0) (hu : upK ps k = some p) {e : Ent} (he : e ∈ dif (fullM ps rows p) (fullM ps rows' p) ++ dif (fullM ps rows' p) (fullM ps rows p)) :
    ∃ j : Nat, (sortP (fullM ps rows k ++ dif (fullM ps rows' k) (fullM ps rows k)))[j]? = some e ∧ ∃ z ∈ ((sortP (fullM ps rows k ++ dif (fullM ps rows' k) (fullM ps rows k))).drop (j - 10)).take (j + 6 - (j - 10)), z ∈ dif (fullM ps rows k) (fullM ps rows' k) ++ dif (fullM ps rows' k) (fullM ps rows k) := by
  have hl := upK_lt d.tree hu
  have fa := fullM_ok' d.tree d.asc hl.2
  have fb := fullM_ok' d.tree d.asc' hl.2
  rw [d.up s hu, d.flip.up s hu, List.mem_append, mem_dif, mem_dif] at he
  have hne : ¬ (e ∈ handM (fullM ps rows k) ↔ e ∈ handM (fullM ps rows' k)) := fun h => by
    rcases he with ⟨h1, h2⟩ | ⟨h1, h2⟩
    · exact h2 (h.mp h1)
    · exact h2 (h.mpr h1)
  have hin : e ∈ sortP (fullM ps rows k ++ dif (fullM ps rows' k) (fullM ps rows k)) := by
    rw [(sortG_perm leE _).mem_iff, List.mem_append, mem_dif]
    by_cases q : e ∈ fullM ps rows k
    · exact .inl q
    · rcases he with ⟨h1, _⟩ | ⟨h1, _⟩
      · exact .inl (handM_mem h1)
      · exact .inr ⟨handM_mem h1, q⟩
  obtain ⟨j, hj⟩ := List.mem_iff_getElem?.mp hin
  refine ⟨j, hj, ?_⟩
  obtain ⟨z, hz1, hz2⟩ := near_changed fa.asc fb.asc (fa.ok d.tree) (fb.ok d.tree) rfl hne hj
  exact ⟨z, hz1, List.mem_append.mpr hz2⟩
theorem old_come_nodup {A B : List Ent} (ha : Asc A) (hb : Asc B) : (sortP (A ++ dif B A)).Nodup := asc_nodup (sortP_asc (List.nodup_append.mpr ⟨asc_nodup ha, asc_nodup (dif_asc hb), fun a h1 b h2 e => (mem_dif.mp h2).2 (e ▸ h1)⟩))
theorem flat_bound {m : Nat} : ∀ {rows : List (List Int)}, (∀ r ∈ rows, r.length ≤ m) → rows.flatten.length ≤ rows.length * m
  | [], _ => by simp
  | r :: rows, h => by
    have h1 := h r List.mem_cons_self
    have h2 := flat_bound fun q hq => h q (List.mem_cons_of_mem _ hq)
    rw [List.flatten_cons, List.length_append, List.length_cons, Nat.add_mul]
    omega
theorem putR_sum {rows : List (List Int)} {k : Nat} {x : Int} (hk : k < rows.length) : (putR rows k x).flatten.length = rows.flatten.length + 1 := by
  have := set_flat_len (rows := rows) (k := k) (r := insI x (rows.getD k [])) hk
  rw [insI_len] at this
  unfold putR
  omega
theorem outR_sum {rows : List (List Int)} {k : Nat} {x : Int} (hk : k < rows.length) : (outR rows k x).flatten.length ≤ rows.flatten.length := by
  have := set_flat_len (rows := rows) (k := k) (r := delI x (rows.getD k [])) hk
  have h2 : (delI x (rows.getD k [])).length ≤ (rows.getD k []).length := List.length_filter_le _ _
  unfold outR
  omega
end BM

namespace BF
open PySem PySem.Spec PyProof.Rows L2 BM DL
local macro_rules | `(tactic| walk_at "dl") => `(tactic| simp only [rSeq, rSkip, rAsg, rDrop, rRet, rIf, rOp, rv, rc, rB, rCh, rAnd, rOr, rNot, rTru, rAndV, rOrV, rNotV, rNil, rCons, rLst, rTup, rCB, rUn, rSl, rNoP, rSoP, rCall, rMeth, rMake, rFld, rFset, rIt, rRng1, rRng2, rRng3, rRevR1, rEnum, rZip, rRev, rFor, rLC, rYes, stepC, rgName, rgTup, rBM, rBM0, rDGet, rDIn, rDGet2, rDPut, rDNew, rNever, rDisp3, rGhE, gSet, opAdd, opSub, opMul, opFdv, opMod, opPow, opShr, unNeg, opLt, opLe, opGt, opGe, opIx, slD, cLen, cAbs, cMin, cMax, cSum, cAny, cAll, cList, cTuple, cInt, cIsi, startD, endsQ, slot_0, slot_s, put_0, put_s, puts_nil, puts_cons, wipeD_nil, wipeD_cons, rs_non, rs_bl, rs_int, rs_str, rs_ty, rs_lst, rs_tup, rs_dk, rs_dt, rs_scr, itm_lst, itm_scr, seqD_lst, seqD_tup, seqD_scr, lenD_lst, lenD_tup, lenD_scr, lenD_dk, tyD_int, tyD_bl, tyD_non, tyD_str, tyD_lst, tyD_tup, tyD_dk, truD_bl, truD_int, truD_lst, isTy_lst, isTy_str, itD_lst, itD_tup, newL_f, newL_t, List.map_cons, List.map_nil, List.length_cons, List.length_nil, List.cons_append, List.nil_append, List.replicate, List.set_cons_zero, List.set_cons_succ])
local macro_rules | `(tactic| walk_at "dlh") => `(tactic| simp only [rSeq, rSkip, rAsg, rDrop, rRet, rIf, rOp, rv, rc, rB, rCh, rAnd, rOr, rNot, rTru, rAndV, rOrV, rNotV, rNil, rCons, rLst, rTup, rCB, rUn, rSl, rNoP, rSoP, rCall, rMeth, rMake, rFld, rFset, rIt, rRng1, rRng2, rRng3, rRevR1, rEnum, rZip, rRev, rFor, rLC, rYes, stepC, rgName, rgTup, rBM, rBM0, rDGet, rDIn, rDGet2, rDPut, rDNew, rNever, rDisp3, rGhE, gSet, opAdd, opSub, opMul, opFdv, opMod, opPow, opShr, unNeg, opLt, opLe, opGt, opGe, opIx, slD, cLen, cAbs, cMin, cMax, cSum, cAny, cAll, cList, cTuple, cInt, cIsi, startD, endsQ, slot_0, slot_s, put_0, put_s, puts_nil, puts_cons, wipeD_nil, wipeD_cons, rs_non, rs_bl, rs_int, rs_str, rs_ty, rs_lst, rs_tup, rs_dk, rs_dt, rs_scr, itm_lst, itm_scr, seqD_lst, seqD_tup, seqD_scr, lenD_lst, lenD_tup, lenD_scr, lenD_dk, tyD_int, tyD_bl, tyD_non, tyD_str, tyD_lst, tyD_tup, tyD_dk, truD_bl, truD_int, truD_lst, isTy_lst, isTy_str, itD_lst, itD_tup, newL_f, newL_t, List.map_cons, List.map_nil, List.length_cons, List.length_nil, List.cons_append, List.nil_append, List.replicate, List.set_cons_zero, List.set_cons_succ, *])
/-- slots: _law_whole 0 _law_changed 1 _law_entry 2 _law_at 3 _law_other 4 -/
def rd__law_near_one : RSt :=
  (rSeq (rAsg (rBM "list" mIndex (rv 0) (rCons (rv 2) rNil)) (rgName 3))
    (rRet (rOp opNe (rLC false (rIt (rSl false (rv 0) (rSoP (rCB cMax (rCons (rc (.int 0)) (rCons (rOp opSub (rv 3) (rc (.int 10))) rNil)))) (rSoP (rOp (opAdd false) (rv 3) (rc (.int 6)))))) (rgName 4) (rB (rOp (opIn false) (rv 4) (rv 1))) (rv 4) [4]) (rLst false rNil))))
def asp__law_near_one : ASp := fun ds μ q => ∃ (W C : List Ent) (e : Ent) (j : Nat), ds = [encEs W, encEs C, encE e] ∧ W.Nodup ∧ W[j]? = some e ∧ W.length ≤ 1000000 ∧ (∃ z ∈ (W.drop (j - 10)).take (j + 6 - (j - 10)), z ∈ C) ∧ q (.bl true) μ
theorem findIdx_nodup {W : List Ent} (hn : W.Nodup) {e : Ent} {j : Nat} (hj : W[j]? = some e) : (W.map encE).findIdx? (fun z => eqD z (encE e)) = some j := by
  have hjl := (List.getElem?_eq_some_iff.mp hj)
  have hjl1 := hjl.1
  rw [List.findIdx?_eq_some_iff_getElem]
  refine ⟨by rw [List.length_map]; exact hjl.1, ?_, fun i hi => ?_⟩
  · rw [List.getElem_map, hjl.2, Enc.ent.eq]; simp
  · rw [List.getElem_map, Enc.ent.eq]
    simp only [decide_eq_true_eq]
    intro h
    have : i = j := (List.getElem?_inj (by omega) hn).mp (by rw [hj, List.getElem?_eq_getElem (by omega), h])
    omega
theorem ok__law_near_one (K : PySem.W.Frag) (ds μ q) (h : asp__law_near_one ds μ q) : rd__law_near_one (endsQ K q) (startD 5 ds) μ := by
  obtain ⟨W, C, e, j, rfl, hn, hj, hl, ⟨z, hz1, hz2⟩, h⟩ := h
  have hs := line_big
  have hjl := (List.getElem?_eq_some_iff.mp hj).1
  unfold rd__law_near_one
  walk_at "dl"
  unfold mIndex
  have r1 : ∀ e, rs μ (encE e) = encE e := fun _ => rfl
  have shE : ∀ e, shp (encE e) = true := fun e => Enc.shp Enc.ent e
  have shW : ∀ W : List Ent, shp (.lst (W.map encE)) = true := fun W => shp_ents W
  have hcut : cutL (W.map encE) (some (if (j : Int) - 10 > 0 then (j : Int) - 10 else 0)) (some ((j : Int) + 6)) = ((W.drop (j - 10)).take (j + 6 - (j - 10))).map encE := by
    rw [cut_nat (a := j - 10) (b := j + 6) (by split <;> omega) (by omega), List.map_take, List.map_drop]
  have hty : isTy "list" μ (encEs W) = true := rfl
  have hwl : ((W.drop (j - 10)).take (j + 6 - (j - 10))).length ≤ 1000000 := by rw [List.length_take, List.length_drop]; omega
  simp only [rs_entsL, r1, rs_int, shE, shW, findIdx_nodup hn hj, hcut, newL_f, itD_lst, hty]
  refine ⟨trivial, trivial, trivial, fun p hp => ?_⟩
  refine lc_fm (xs := (W.drop (j - 10)).take (j + 6 - (j - 10))) encE (fun x => if x ∈ C then some (encE x) else none) hp (fun _ => trivial) (by omega) (fun x hx acc k hk => ?_) ?_
  · walk_at "dl"
    unfold opIn
    have r2 : ∀ μ : Mu, rs μ (encE x) = encE x := fun _ => rfl
    simp only [rs_entsL, r2, shE, shW, Enc.ent.inD]
    refine ⟨trivial, trivial, ?_⟩
    by_cases hc : x ∈ C
    · simp only [hc, decide_true, if_true] at hk ⊢
      exact hk
    · simp only [hc, decide_false, if_false] at hk ⊢
      exact hk
  · rw [filterMap_if encE (fun x => x ∈ C)]
    simp only [newL_f, lst_ents]
    have r3 : ∀ g : List Ent, rs μ (encEs g) = encEs g := fun _ => rfl
    have sn : shp (D.lst []) = true := shp_ents []
    unfold opNe
    simp only [r3, rs_lst, shp_ents, sn, encEs_nil]
    have hne : ¬ (((W.drop (j - 10)).take (j + 6 - (j - 10))).filter fun x => decide (x ∈ C)) = [] := fun z => by
      rw [List.filter_eq_nil_iff] at z
      exact z _ hz1 (decide_eq_true hz2)
    simp only [hne, decide_false, Bool.not_false]
    exact ⟨by omega, trivial, trivial, out_same h⟩
/-- slots: _law_ahead 0 _law_told 1 _law_k 2 _law_below_one 3 _law_gone 4 _law_come 5 _law_changed 6 _law_whole 7 _law_entry 8 -/
def rd__law_little_L2 : RSt :=
  (rIf (rOr (rB (rOp (opIn true) (rv 8) (rv 7))) (rNot (rTru (rCall (asp__law_near_one) (rCons (rv 7) (rCons (rv 6) (rCons (rv 8) rNil)))))))
    (rRet (rc (.bl false)))
    rSkip)
def rd__law_little_L1 : RSt :=
  (rSeq (rAsg (rOp opIx (rv 1) (rOp opSub (rv 2) (rc (.int 1)))) (rgTup [3, 4, 5]))
    (rSeq (rAsg (rOp (opAdd false) (rv 4) (rv 5)) (rgName 6))
    (rSeq (rAsg (rCB (cSort false) (rCons (rOp (opAdd false) (rOp opIx (rv 0) (rv 3)) (rv 5)) rNil)) (rgName 7))
    (rFor (rIt (rOp (opAdd false) (rOp opIx (rOp opIx (rv 1) (rv 2)) (rc (.int 1))) (rOp opIx (rOp opIx (rv 1) (rv 2)) (rc (.int 2))))) (rgName 8)
    (rd__law_little_L2)))))
def rd__law_little : RSt :=
  (rSeq (rFor (rRng2 (rCons (rc (.int 1)) (rCons (rCB cLen (rCons (rv 1) rNil)) rNil))) (rgName 2)
    (rd__law_little_L1))
    (rRet (rc (.bl true))))
/-- what is changed in a line of what a deed tells lies near what is changed in the one ahead -/
def LitOk (old : Nat → List Ent) (a b : Nat × List Ent × List Ent) : Prop :=
  (sortP (old a.1 ++ a.2.2)).Nodup ∧ (sortP (old a.1 ++ a.2.2)).length ≤ 1000 ∧ ∀ e, e ∈ b.2.1 ++ b.2.2 → ∃ j : Nat, (sortP (old a.1 ++ a.2.2))[j]? = some e ∧ ∃ z ∈ ((sortP (old a.1 ++ a.2.2)).drop (j - 10)).take (j + 6 - (j - 10)), z ∈ a.2.1 ++ a.2.2
def asp__law_little : ASp := fun ds μ q => ∃ (n : Nat) (old : Nat → List Ent) (ts : List (Nat × List Ent × List Ent)), ds = [.lst (((List.range n).map old).map encEs), encTold ts] ∧ ts.length ≤ 1000 ∧ (∀ t ∈ ts, t.1 < n ∧ t.2.1.length ≤ 1000 ∧ t.2.2.length ≤ 1000 ∧ (old t.1).length ≤ 1000) ∧
  (∀ (i : Nat) a b, ts[i]? = some a → ts[i + 1]? = some b → LitOk old a b) ∧ q (.bl true) μ
theorem seqD_to {μ : Mu} {t : Nat × List Ent × List Ent} : seqD μ (encTo t) = some [.int (t.1 : Int), encEs t.2.1, encEs t.2.2] := rfl
theorem rs_to {μ : Mu} {t : Nat × List Ent × List Ent} : rs μ (encTo t) = .tup [.int (t.1 : Int), encEs t.2.1, encEs t.2.2] := rfl
theorem told_at {ts : List (Nat × List Ent × List Ent)} {i : Nat} {t : Nat × List Ent × List Ent} {x : Int} (e : x = (i : Int)) (h : ts[i]? = some t) : atI (ts.map encTo) x = some (encTo t) := by subst e; exact at_nat (by rw [List.getElem?_map, h]; rfl)
theorem old_at {n k : Nat} {old : Nat → List Ent} (h : k < n) : atI (((List.range n).map old).map encEs) (k : Int) = some (encEs (old k)) := at_nat (by rw [List.getElem?_map, List.getElem?_map, List.getElem?_range h]; rfl)
theorem ok__law_little (K : PySem.W.Frag) (ds μ q) (h : asp__law_little ds μ q) : rd__law_little (endsQ K q) (startD 9 ds) μ := by
  obtain ⟨n, old, ts, rfl, hl, hb, hlit, h⟩ := h
  have hs := line_big
  unfold rd__law_little encTold
  walk_at "dl"
  rw [List.length_map]
  refine ⟨⟨⟨by omega, by omega⟩, by omega, by omega⟩, ?_⟩
  have e1 : ((ts.length : Int) - 1).toNat = ts.length - 1 := by omega
  rw [e1]
  refine for_rng (lo := 1) (n := ts.length - 1) (fun i ρ μ' => ∃ (x1 x2 x3 x4 x5 x6 x7 : Option D), ρ = [some (.lst (((List.range n).map old).map encEs)), some (encTold ts), x1, x2, x3, x4, x5, x6, x7] ∧ μ' = μ) ?_ ?_ ⟨none, none, none, none, none, none, none, rfl, rfl⟩
  · rintro i ρ μ' hi ⟨x1, x2, x3, x4, x5, x6, x7, rfl, rfl⟩ k hk
    obtain ⟨a, ha⟩ : ∃ a, ts[i]? = some a := ⟨_, List.getElem?_eq_getElem (by omega)⟩
    obtain ⟨b, hbt⟩ : ∃ b, ts[i + 1]? = some b := ⟨_, List.getElem?_eq_getElem (by omega)⟩
    obtain ⟨ba, la1, la2, la3⟩ := hb a (List.mem_of_getElem? ha)
    obtain ⟨bb, lb1, lb2, lb3⟩ := hb b (List.mem_of_getElem? hbt)
    obtain ⟨wn, wl, hw⟩ := hlit i a b ha hbt
    have t1 : atI (ts.map encTo) (1 + (i : Int) - 1) = some (encTo a) := told_at (by omega) ha
    have t2 : atI (ts.map encTo) (1 + (i : Int)) = some (encTo b) := told_at (i := i + 1) (by omega) hbt
    have u1 : atI [D.int (b.1 : Int), encEs b.2.1, encEs b.2.2] 1 = some (encEs b.2.1) := rfl
    have u2 : atI [D.int (b.1 : Int), encEs b.2.1, encEs b.2.2] 2 = some (encEs b.2.2) := rfl
    unfold rd__law_little_L1 encTold
    walk_at "dl"
    have ea : encTo a = .tup [.int (a.1 : Int), encEs a.2.1, encEs a.2.2] := rfl
    simp only [t1, t2, ea, seqD_to, rs_to, u1, u2, puts_cons, puts_nil, put_0, put_s, slot_0, slot_s, rs_entsL, rs_lst, newL_f, old_at ba, List.length_cons, List.length_nil]
    have hA : (encEs a.2.1 : D) = encEs a.2.1 := rfl
    simp only [← List.map_append, cSort_ents, newL_f]
    simp only [lst_ents]
    refine ⟨trivial, trivial, by rw [List.length_map, List.length_map]; omega, by rw [List.length_map, List.length_map]; omega, by rw [List.length_map, List.length_map]; omega, ?_⟩
    refine for_map encE (fun rest ρ μ2 => ∃ (y : Option D), ρ = [some (.lst (((List.range n).map old).map encEs)), some (encTold ts), some (.int (1 + (i : Int))), some (.int (a.1 : Int)), some (encEs a.2.1), some (encEs a.2.2), some (encEs (a.2.1 ++ a.2.2)), some (encEs (sortP (old a.1 ++ a.2.2))), y] ∧ μ2 = μ' ∧ ∀ e ∈ rest, e ∈ b.2.1 ++ b.2.2) ?_ ?_ (xs := b.2.1 ++ b.2.2) ⟨x7, rfl, rfl, fun _ h => h⟩
    · rintro e rest ρ μ2 ⟨y, rfl, rfl, hrest⟩ k2 hk2
      obtain ⟨j, hj, hz⟩ := hw e (hrest e List.mem_cons_self)
      unfold rd__law_little_L2
      walk_at "dl"
      unfold opIn
      have r2 : ∀ μ : Mu, rs μ (encE e) = encE e := fun _ => rfl
      have shE : ∀ e, shp (encE e) = true := fun e => Enc.shp Enc.ent e
      have shW : ∀ W : List Ent, shp (.lst (W.map encE)) = true := fun W => shp_ents W
      have hin : e ∈ sortP (old a.1 ++ a.2.2) := List.mem_of_getElem? hj
      simp only [rs_entsL, r2, shE, shW, Enc.ent.inD, hin, decide_true, if_true, Bool.not_true]
      refine ⟨trivial, trivial, trivial, sortP (old a.1 ++ a.2.2), a.2.1 ++ a.2.2, e, j, rfl, wn, hj, by omega, hz, ?_⟩
      simp only [truD_bl, Bool.not_true]
      exact hk2 _ _ ⟨_, rfl, rfl, fun z hz => hrest z (List.mem_cons_of_mem _ hz)⟩
    · rintro ρ μ2 ⟨y, rfl, rfl, hrest⟩
      exact ⟨trivial, hk _ _ ⟨_, _, _, _, _, _, _, rfl, rfl⟩⟩
  · rintro ρ μ' ⟨x1, x2, x3, x4, x5, x6, x7, rfl, rfl⟩
    walk_at "dl"
    exact ⟨trivial, out_same h⟩
end BF

namespace BF
open PySem PySem.Spec PyProof.Rows L2 BM DL
local macro_rules | `(tactic| walk_at "dl") => `(tactic| simp only [rSeq, rSkip, rAsg, rDrop, rRet, rIf, rOp, rv, rc, rB, rCh, rAnd, rOr, rNot, rTru, rAndV, rOrV, rNotV, rNil, rCons, rLst, rTup, rCB, rUn, rSl, rNoP, rSoP, rCall, rMeth, rMake, rFld, rFset, rIt, rRng1, rRng2, rRng3, rRevR1, rEnum, rZip, rRev, rFor, rLC, rYes, stepC, rgName, rgTup, rBM, rBM0, rDGet, rDIn, rDGet2, rDPut, rDNew, rNever, rDisp3, rGhE, gSet, opAdd, opSub, opMul, opFdv, opMod, opPow, opShr, unNeg, opLt, opLe, opGt, opGe, opIx, slD, cLen, cAbs, cMin, cMax, cSum, cAny, cAll, cList, cTuple, cInt, cIsi, startD, endsQ, slot_0, slot_s, put_0, put_s, puts_nil, puts_cons, wipeD_nil, wipeD_cons, rs_non, rs_bl, rs_int, rs_str, rs_ty, rs_lst, rs_tup, rs_dk, rs_dt, rs_scr, itm_lst, itm_scr, seqD_lst, seqD_tup, seqD_scr, lenD_lst, lenD_tup, lenD_scr, lenD_dk, tyD_int, tyD_bl, tyD_non, tyD_str, tyD_lst, tyD_tup, tyD_dk, truD_bl, truD_int, truD_lst, isTy_lst, isTy_str, itD_lst, itD_tup, newL_f, newL_t, List.map_cons, List.map_nil, List.length_cons, List.length_nil, List.cons_append, List.nil_append, List.replicate, List.set_cons_zero, List.set_cons_succ])
local macro_rules | `(tactic| walk_at "dlh") => `(tactic| simp only [rSeq, rSkip, rAsg, rDrop, rRet, rIf, rOp, rv, rc, rB, rCh, rAnd, rOr, rNot, rTru, rAndV, rOrV, rNotV, rNil, rCons, rLst, rTup, rCB, rUn, rSl, rNoP, rSoP, rCall, rMeth, rMake, rFld, rFset, rIt, rRng1, rRng2, rRng3, rRevR1, rEnum, rZip, rRev, rFor, rLC, rYes, stepC, rgName, rgTup, rBM, rBM0, rDGet, rDIn, rDGet2, rDPut, rDNew, rNever, rDisp3, rGhE, gSet, opAdd, opSub, opMul, opFdv, opMod, opPow, opShr, unNeg, opLt, opLe, opGt, opGe, opIx, slD, cLen, cAbs, cMin, cMax, cSum, cAny, cAll, cList, cTuple, cInt, cIsi, startD, endsQ, slot_0, slot_s, put_0, put_s, puts_nil, puts_cons, wipeD_nil, wipeD_cons, rs_non, rs_bl, rs_int, rs_str, rs_ty, rs_lst, rs_tup, rs_dk, rs_dt, rs_scr, itm_lst, itm_scr, seqD_lst, seqD_tup, seqD_scr, lenD_lst, lenD_tup, lenD_scr, lenD_dk, tyD_int, tyD_bl, tyD_non, tyD_str, tyD_lst, tyD_tup, tyD_dk, truD_bl, truD_int, truD_lst, isTy_lst, isTy_str, itD_lst, itD_tup, newL_f, newL_t, List.map_cons, List.map_nil, List.length_cons, List.length_nil, List.cons_append, List.nil_append, List.replicate, List.set_cons_zero, List.set_cons_succ, *])
/-- slots: _law_script 0 _law_state 1 _law_tree_here 2 _law_rows_here 3 _law_shelf 4 _law_k 5 _law_knot 6 _law_key_here 7 _law_is_put 8 _law_ahead 9 _law_other 10 _law_due 11 _law_told 12 _law_at 13 _law_entry 14 -/
def rd_law_L2 (K : PySem.W.Frag) (CS : Addr) : RSt :=
  (rSeq (rIf (rOr (rB (rOp opNe (rOp opIx (rOp opIx (rv 12) (rv 13)) (rc (.int 0))) (rOp opIx (rv 2) (rOp opIx (rOp opIx (rv 12) (rOp opSub (rv 13) (rc (.int 1)))) (rc (.int 0)))))) (rB (rOp opEq (rOp (opAdd false) (rOp opIx (rOp opIx (rv 12) (rv 13)) (rc (.int 1))) (rOp opIx (rOp opIx (rv 12) (rv 13)) (rc (.int 2)))) (rLst false rNil))))
    (rRet (rc (.bl false)))
    rSkip)
    (rIf (rB (rOp opNe (rLC false (rIt (rOp opIx (rOp opIx (rv 12) (rv 13)) (rc (.int 1)))) (rgName 14) (rB (rOp (opIn false) (rv 14) (rOp opIx (rOp opIx (rv 12) (rv 13)) (rc (.int 2))))) (rv 14) [14]) (rLst false rNil)))
    (rRet (rc (.bl false)))
    rSkip))
def rd_law_L1 (K : PySem.W.Frag) (CS : Addr) : RSt :=
  (rSeq (rAsg (rCall (asp__law_step) (rCons (rv 1) (rCons (rv 2) (rCons (rv 3) rNil)))) (rgTup [6, 7, 8]))
    (rSeq (rAsg (rLC false (rRng1 (rCons (rCB cLen (rCons (rv 2) rNil)) rNil)) (rgName 10) rYes (rGhE K (rMeth CS "full" (asp_Shelf_full CS) (rv 4) (rCons (rv 10) rNil))) [10]) (rgName 9))
    (rSeq (rAsg (rCall (asp__law_behind) (rCons (rv 3) (rCons (rv 6) (rCons (rv 7) (rCons (rv 8) rNil))))) (rgName 3))
    (rSeq (rAsg (rTup (rCons (rv 6) (rCons (rLst false (rCons (rTup (rCons (rv 7) (rCons (rv 6) rNil))) rNil)) (rCons (rLst false rNil) rNil)))) (rgName 11))
    (rSeq (rIf (rTru (rv 8))
    (rSeq (rAsg (rTup (rCons (rv 6) (rCons (rLst false rNil) (rCons (rLst false (rCons (rTup (rCons (rv 7) (rCons (rv 6) rNil))) rNil)) rNil)))) (rgName 11))
    (rAsg (rMeth CS "put" (asp_Shelf_put CS) (rv 4) (rCons (rv 6) (rCons (rv 7) rNil))) (rgName 12)))
    (rAsg (rMeth CS "out" (asp_Shelf_out CS) (rv 4) (rCons (rv 6) (rCons (rv 7) rNil))) (rgName 12)))
    (rSeq (rIf (rOr (rB (rOp opNe (rSl false (rv 12) rNoP (rSoP (rc (.int 1)))) (rLst false (rCons (rv 11) rNil)))) (rNot (rTru (rCall (asp__law_little) (rCons (rv 9) (rCons (rv 12) rNil))))))
    (rRet (rc (.bl false)))
    rSkip)
    (rFor (rRng2 (rCons (rc (.int 1)) (rCons (rCB cLen (rCons (rv 12) rNil)) rNil))) (rgName 13)
    (rd_law_L2 K CS))))))))
def rd_law (K : PySem.W.Frag) (CS : Addr) : RSt :=
  (rSeq (rAsg (rCall (asp__law_begin) (rCons (rv 0) rNil)) (rgName 1))
    (rSeq (rAsg (rCall (asp__law_tree) (rCons (rv 1) (rCons (rc (.int 6)) rNil))) (rgName 2))
    (rSeq (rAsg (rCall (asp__law_rows) (rCons (rv 1) (rCons (rCB cLen (rCons (rv 2) rNil)) (rCons (rOp opIx (rLst false (rCons (rc (.int 10)) (rCons (rc (.int 40)) rNil))) (rCall (asp__law_take) (rCons (rv 1) (rCons (rc (.int 2)) rNil)))) rNil)))) (rgName 3))
    (rSeq (rAsg (rMake CS (asp_Shelf_init CS) (rCons (rCall (asp_stand_of) (rCons (rCall (asp_tree_of) (rCons (rv 2) rNil)) (rCons (rv 3) rNil))) rNil)) (rgName 4))
    (rSeq (rFor (rRng1 (rCons (rc (.int 6)) rNil)) (rgName 5)
    (rd_law_L1 K CS))
    (rRet (rOp opEq (rLC false (rRng1 (rCons (rCB cLen (rCons (rv 2) rNil)) rNil)) (rgName 10) rYes (rGhE K (rMeth CS "full" (asp_Shelf_full CS) (rv 4) (rCons (rv 10) rNil))) [10]) (rGhE K (rCall (asp_full_rows) (rCons (rMeth CS "stand" (asp_Shelf_stand CS) (rv 4) rNil) rNil))))))))))
structure TellOk (ps : List Nat) (old : Nat → List Ent) (ts : List (Nat × List Ent × List Ent)) : Prop where
  len : ts.length ≤ 100
  b : ∀ t ∈ ts, t.1 ≤ ps.length ∧ t.2.1.length ≤ 300 ∧ t.2.2.length ≤ 300 ∧ (old t.1).length ≤ 300
  ne : ∀ t ∈ ts, ¬ (t.2.1 = [] ∧ t.2.2 = [])
  dj : ∀ t ∈ ts, ∀ e ∈ t.2.1, e ∉ t.2.2
  up : ∀ (i : Nat) a b, ts[i]? = some a → ts[i + 1]? = some b → upK ps a.1 = some b.1
  lit : ∀ (i : Nat) a b, ts[i]? = some a → ts[i + 1]? = some b → LitOk old a b
theorem tell_ok {ps : List Nat} {rows rows' : List (List Int)} {k : Nat} (s : StandOk ps rows) (s' : StandOk ps rows') (d : Deed ps k rows rows') : TellOk ps (fullM ps rows) (toldM ps (fullM ps rows) (fullM ps rows') k) := by
  have get : ∀ (i : Nat) t, (toldM ps (fullM ps rows) (fullM ps rows') k)[i]? = some t → _ := fun i t h => toldF_get _ _ i t h
  have hle : ∀ t ∈ toldM ps (fullM ps rows) (fullM ps rows') k, t.1 ≤ ps.length := fun t ht => by
    obtain ⟨i, hi⟩ := List.mem_iff_getElem?.mp ht
    have := (get i t hi).2.2.1.le d.tree
    have := d.at0
    omega
  have hl1 : ∀ j, j ≤ ps.length → (fullM ps rows j).length ≤ 300 := fun j hj => fullOk_len s hj
  have hl2 : ∀ j, j ≤ ps.length → (fullM ps rows' j).length ≤ 300 := fun j hj => fullOk_len s' hj
  have hd : ∀ a b : List Ent, (dif a b).length ≤ a.length := dif_len
  refine ⟨?_, fun t ht => ?_, fun t ht => ?_, fun t ht e h1 h2 => ?_, fun i a b ha hb => ?_, fun i a b ha hb => ?_⟩
  · have h1 := toldM_len d.tree (old := fullM ps rows) (new := fullM ps rows') (k + 1) k
    have h2 := d.at0
    have h3 := d.tree.1
    unfold toldM
    omega
  · obtain ⟨i, hi⟩ := List.mem_iff_getElem?.mp ht
    obtain ⟨⟨e1, e2⟩, _⟩ := get i t hi
    have h0 := hle t ht
    rw [e1, e2]
    exact ⟨h0, Nat.le_trans (hd _ _) (hl1 _ h0), Nat.le_trans (hd _ _) (hl2 _ h0), hl1 _ h0⟩
  · obtain ⟨i, hi⟩ := List.mem_iff_getElem?.mp ht
    exact (get i t hi).2.1
  · obtain ⟨i, hi⟩ := List.mem_iff_getElem?.mp ht
    obtain ⟨⟨e1, e2⟩, _⟩ := get i t hi
    rw [e1] at h1
    rw [e2] at h2
    exact (mem_dif.mp h2).2 (mem_dif.mp h1).1
  · exact (get i a ha).2.2.2.2 b hb
  · obtain ⟨⟨e1, e2⟩, _, s1, _, h5⟩ := get i a ha
    obtain ⟨⟨e3, e4⟩, _⟩ := get (i + 1) b hb
    have hu := h5 b hb
    have h0 := hle a (List.mem_of_getElem? ha)
    have fa := fullM_ok' d.tree d.asc h0
    have fb := fullM_ok' d.tree d.asc' h0
    refine ⟨by rw [e2]; exact old_come_nodup fa.asc fb.asc, ?_, fun e he => ?_⟩
    · rw [(sortG_perm leE _).length_eq, List.length_append, e2]
      have := hd (fullM ps rows' a.1) (fullM ps rows a.1)
      have := hl1 _ h0
      have := hl2 _ h0
      omega
    · rw [e1, e2]
      rw [e3, e4] at he
      exact d.near s1 hu he
theorem Enc.to : Enc 3 encTo := Enc.trip (f := fun n : Nat => D.int (n : Int)) (Enc.nat.mono (by decide)) Enc.ents Enc.ents
theorem cut_told {ts : List (Nat × List Ent × List Ent)} : cutL (ts.map encTo) none (some 1) = (ts.take 1).map encTo := by
  rw [List.map_take]; exact cut_to (j := 1) (b := 1) rfl
/-- the tests behind a deed -/
theorem law_check {K : PySem.W.Frag} {CS : Addr} {ps : List Nat} {old : Nat → List Ent} {ts : List (Nat × List Ent × List Ent)} {t0 : Nat × List Ent × List Ent} {E : EndsD} {μ : Mu} {x0 x1 x3 x4 x5 x6 x7 x8 x10 x13 x14 : Option D}
    (ht : TreeOk ps) (tok : TellOk ps old ts) (h0 : ts[0]? = some t0)
    (h : ∀ x13 x14, E.nx [x0, x1, some (encTree ps), x3, x4, x5, x6, x7, x8, some (.lst (((List.range (ps.length + 1)).map old).map encEs)), x10, some (encTo t0), some (encTold ts), x13, x14] μ) :
    (rSeq (rIf (rOr (rB (rOp opNe (rSl false (rv 12) rNoP (rSoP (rc (.int 1)))) (rLst false (rCons (rv 11) rNil)))) (rNot (rTru (rCall (asp__law_little) (rCons (rv 9) (rCons (rv 12) rNil))))))
    (rRet (rc (.bl false)))
    rSkip)
    (rFor (rRng2 (rCons (rc (.int 1)) (rCons (rCB cLen (rCons (rv 12) rNil)) rNil))) (rgName 13)
    (rd_law_L2 K CS))) E [x0, x1, some (encTree ps), x3, x4, x5, x6, x7, x8, some (.lst (((List.range (ps.length + 1)).map old).map encEs)), x10, some (encTo t0), some (encTold ts), x13, x14] μ := by
  have hs := line_big
  have hl := tok.len
  have htl := ht.1
  have ht1 : ts.take 1 = [t0] := by
    cases ts with
    | nil => cases h0
    | cons a r => simp at h0; subst h0; rfl
  have sh1 : shp (.lst ([t0].map encTo)) = true := (Enc.lst Enc.to).shp [t0]
  have eq1 : eqD (.lst ([t0].map encTo)) (.lst ([t0].map encTo)) = true := by
    have := (Enc.lst Enc.to).eq [t0] [t0]
    rw [this]; simp
  have hl1 : (D.lst [encTo t0]) = .lst ([t0].map encTo) := rfl
  unfold encTold
  walk_at "dl"
  simp only [cut_told, ht1, hl1]
  unfold opNe
  simp only [rs_lst, sh1, eq1, Bool.not_true]
  refine ⟨by omega, trivial, trivial, ps.length + 1, old, ts, rfl, by omega, fun t htm => ?_, tok.lit, ?_⟩
  · obtain ⟨a1, a2, a3, a4⟩ := tok.b t htm
    exact ⟨by omega, by omega, by omega, by omega⟩
  · dsimp only
    simp only [truD_bl, Bool.not_true, List.length_map]
    refine ⟨⟨⟨by omega, by omega⟩, by omega, by omega⟩, ?_⟩
    have e1 : ((ts.length : Int) - 1).toNat = ts.length - 1 := by omega
    rw [e1]
    refine for_rng (lo := 1) (n := ts.length - 1) (fun i ρ μ' => ∃ (x13 x14 : Option D), ρ = [x0, x1, some (encTree ps), x3, x4, x5, x6, x7, x8, some (.lst (((List.range (ps.length + 1)).map old).map encEs)), x10, some (encTo t0), some (encTold ts), x13, x14] ∧ μ' = μ) ?_ ?_ ⟨_, _, rfl, rfl⟩
    · rintro i ρ μ' hi ⟨x13, x14, rfl, rfl⟩ k hk
      obtain ⟨a, ha⟩ : ∃ a, ts[i]? = some a := ⟨_, List.getElem?_eq_getElem (by omega)⟩
      obtain ⟨b, hb⟩ : ∃ b, ts[i + 1]? = some b := ⟨_, List.getElem?_eq_getElem (by omega)⟩
      obtain ⟨bb, lb1, lb2, lb3⟩ := tok.b b (List.mem_of_getElem? hb)
      have hu := tok.up i a b ha hb
      have hak := upK_lt ht hu
      have hdj := tok.dj b (List.mem_of_getElem? hb)
      have t1 : atI (ts.map encTo) (1 + (i : Int) - 1) = some (encTo a) := told_at (by omega) ha
      have t2 : atI (ts.map encTo) (1 + (i : Int)) = some (encTo b) := told_at (i := i + 1) (by omega) hb
      have u0 : ∀ t : Nat × List Ent × List Ent, atI [D.int (t.1 : Int), encEs t.2.1, encEs t.2.2] 0 = some (.int (t.1 : Int)) := fun _ => rfl
      have u1 : ∀ t : Nat × List Ent × List Ent, atI [D.int (t.1 : Int), encEs t.2.1, encEs t.2.2] 1 = some (encEs t.2.1) := fun _ => rfl
      have u2 : ∀ t : Nat × List Ent × List Ent, atI [D.int (t.1 : Int), encEs t.2.1, encEs t.2.2] 2 = some (encEs t.2.2) := fun _ => rfl
      have u3 : atI (encT ps) (a.1 : Int) = some (.int (b.1 : Int)) := at_nat (by rw [encT_at hak.2, upD, hu])
      unfold rd_law_L2 encTold encTree
      walk_at "dl"
      simp only [t1, t2, rs_to, u0, u1, u2, u3]
      unfold opNe opEq
      have sn : shp (D.lst []) = true := shp_ents []
      have er : (!eqD (D.int (b.1 : Int)) (D.int (b.1 : Int))) = false := by rw [eqD_int]; simp
      have apn : eqD (.lst ((b.2.1 ++ b.2.2).map encE)) (.lst []) = false := by
        have := encEs_nil (b.2.1 ++ b.2.2)
        have hz : ¬ (b.2.1 ++ b.2.2 = []) := fun z => tok.ne b (List.mem_of_getElem? hb) (List.append_eq_nil_iff.mp z)
        rw [decide_eq_false hz] at this
        exact this
      have sW : ∀ W : List Ent, shp (.lst (W.map encE)) = true := fun W => shp_ents W
      simp only [rs_int, shp_int, er, rs_entsL, newL_f, ← List.map_append, rs_lst, sW, sn, apn, List.length_map]
      refine ⟨trivial, trivial, trivial, by omega, by omega, trivial, trivial, ?_⟩
      unfold encEs
      simp only [itD_lst]
      intro p hp
      refine lc_fm encE (fun x => if x ∈ b.2.2 then some (encE x) else none) hp (fun _ => trivial) (by omega) (fun x hx acc k' hk' => ?_) ?_
      · have t2' : atI (List.map encTo ts) (1 + (i : Int)) = some (.tup [.int (b.1 : Int), .lst (b.2.1.map encE), .lst (b.2.2.map encE)]) := t2
        have u2' : atI [D.int (b.1 : Int), .lst (b.2.1.map encE), .lst (b.2.2.map encE)] 2 = some (.lst (b.2.2.map encE)) := rfl
        walk_at "dl"
        simp only [t2', rs_tup, u2']
        unfold opIn
        have r2 : ∀ μ : Mu, rs μ (encE x) = encE x := fun _ => rfl
        have shE : ∀ e, shp (encE e) = true := fun e => Enc.shp Enc.ent e
        simp only [rs_lst, r2, shE, sW, Enc.ent.inD]
        refine ⟨trivial, trivial, ?_⟩
        by_cases hc : x ∈ b.2.2
        · simp only [hc, decide_true, if_true] at hk' ⊢
          exact hk'
        · simp only [hc, decide_false, if_false] at hk' ⊢
          exact hk'
      · rw [filterMap_if encE (fun x => x ∈ b.2.2)]
        have hz : (b.2.1.filter fun x => decide (x ∈ b.2.2)) = [] := by
          rw [List.filter_eq_nil_iff]
          intro x hx
          simpa using hdj x hx
        have e0 : eqD (.lst []) (.lst []) = true := by
          have : eqD (encEs []) (.lst []) = true := by rw [encEs_nil]; rfl
          exact this
        simp only [newL_f, hz, List.map_nil, rs_lst, sn, e0, Bool.not_true]
        exact ⟨by omega, trivial, trivial, hk _ _ ⟨_, _, rfl, rfl⟩⟩
    · rintro ρ μ' ⟨x13, x14, rfl, rfl⟩
      exact ⟨trivial, h _ _⟩
/-! ### the law -/
def asp_law : ASp := fun ds μ q => ∃ ns : List Int, ds = [.scr ns] ∧ ∀ μ', q (.bl true) μ'
theorem Shl.old {CS : Addr} {μ : Mu} {s t r f p : Addr} {m : MO} {ps : List Nat} {rows : List (List Int)} (S : Shl CS μ s t r f ps rows) (hp : μ p = none) : Shl CS (upm μ p m) s t r f ps rows :=
  ⟨⟨upm_old S.at'.selfA hp, upm_old S.at'.treeA hp, upm_old S.at'.rowsA hp, upm_old S.at'.fullsA hp, S.at'.ne⟩, S.ok⟩
theorem St.nlst {μ : Mu} {sa a : Addr} {xs : List D} (h : St μ sa) (ha : μ a = some (.lst xs)) : a ≠ sa := fun e => by
  obtain ⟨m, h1, ns, x, y, rfl, _⟩ := h
  rw [e, h1] at ha
  cases ha
theorem St.nins {μ : Mu} {sa a C : Addr} {xs : List (Str × D)} (h : St μ sa) (ha : μ a = some (.ins C xs)) : a ≠ sa := fun e => by
  obtain ⟨m, h1, ns, x, y, rfl, _⟩ := h
  rw [e, h1] at ha
  cases ha
theorem Shl.draw {CS : Addr} {μ : Mu} {s t r f sa : Addr} {m : MO} {ps : List Nat} {rows : List (List Int)} (S : Shl CS μ s t r f ps rows) (h : St μ sa) : Shl CS (upm μ sa m) s t r f ps rows :=
  ⟨⟨by rw [upm_ne (h.nins S.at'.selfA)]; exact S.at'.selfA, by rw [upm_ne (h.nlst S.at'.treeA)]; exact S.at'.treeA, by rw [upm_ne (h.nlst S.at'.rowsA)]; exact S.at'.rowsA, by rw [upm_ne (h.nlst S.at'.fullsA)]; exact S.at'.fullsA, S.at'.ne⟩, S.ok⟩
theorem St.off {μ : Mu} {sa a : Addr} {m : MO} (h : St μ sa) (ha : a ≠ sa) : St (DL.upm μ a m) sa := by
  obtain ⟨m', h1, h2⟩ := h
  exact ⟨m', by rw [upm_ne (Ne.symm ha)]; exact h1, h2⟩
theorem ok_law (K : PySem.W.Frag) (CS : Addr) (ds μ q) (h : asp_law ds μ q) : rd_law K CS (endsQ K q) (startD 15 ds) μ := by
  obtain ⟨ns, rfl, h⟩ := h
  have hs := line_big
  unfold rd_law
  walk_at "dl"
  refine ⟨ns, rfl, fun sa m0 hsa hm0 => ?_⟩
  dsimp only
  refine ⟨sa, 6, rfl, .upm hm0, by decide, by decide, fun ps m1 ht hpl hm1 => ?_⟩
  rw [upm_upm]
  have htl := ht.1
  have tl : (encTree ps) = .tup (encT ps) := rfl
  simp only [tl, lenD_tup]
  refine ⟨by omega, sa, 2, rfl, .upm hm1, by decide, by decide, fun r2 m2 hr2 hm2 => ?_⟩
  rw [upm_upm]
  have h40 : ∃ m : Int, atI [D.int 10, D.int 40] (r2 : Int) = some (.int m) ∧ 0 ≤ m ∧ m ≤ 40 := by
    have : r2 = 0 ∨ r2 = 1 := by omega
    rcases this with rfl | rfl
    · exact ⟨10, rfl, by decide, by decide⟩
    · exact ⟨40, rfl, by decide, by decide⟩
  obtain ⟨m, hm, hm0', hm40⟩ := h40
  simp only [rs_lst, hm]
  refine ⟨sa, ps.length + 1, m, by rw [encT_len], .upm hm2, by omega, hm0', by omega, fun rows m3 hrl hrk hm3 => ?_⟩
  rw [upm_upm]
  have hasc : ∀ r ∈ rows, r.Pairwise (· < ·) := fun r hr => (hrk r hr).1
  have hflat : rows.flatten.length ≤ 240 := by
    have h1 := flat_bound (m := 40) (rows := rows) fun r hr => by have := (hrk r hr).2.2; omega
    have h2 : rows.length ≤ 6 := by omega
    have h3 : rows.length * 40 ≤ 6 * 40 := Nat.mul_le_mul_right 40 h2
    omega
  have hok : StandOk ps rows := ⟨ht, hrl, hasc, fun r hr => (hrk r hr).2.1, by omega⟩
  refine ⟨ps, rfl, ht, ps, _, rows.map fun r => (false, r), rfl, .inr ?_, by omega, ⟨by rw [List.length_map]; exact hrl, ?_, ?_, ?_⟩, ?_⟩
  · rw [List.map_map]; rfl
  · intro r hr
    obtain ⟨r', h1, rfl⟩ := List.mem_map.mp hr
    exact lt_nodup (hasc r' h1)
  · intro r hr
    obtain ⟨r', h1, rfl⟩ := List.mem_map.mp hr
    exact (hrk r' h1).2.1
  · rw [List.map_map]
    have : (Prod.snd ∘ fun r : List Int => (false, r)) = id := rfl
    rw [this, List.map_id]
    omega
  have esort : ((rows.map fun r => (false, r)).map fun r => sortI r.2) = rows := by
    rw [List.map_map]
    have : rows.map ((fun r : Bool × List Int => sortI r.2) ∘ fun r => (false, r)) = rows.map id := List.map_congr_left fun r hr => sortI_id (hasc r hr)
    rw [this, List.map_id]
  rw [esort]
  intro s hps
  refine ⟨s, ps, rows, rfl, upm_same, hok, fun μ' t r f S htn hrn hfn hoff => ⟨rfl, ?_⟩⟩
  have hsa' : μ' sa = some m3 := by
    have h1 : sa ≠ s := fun e => by subst e; rw [upm_same] at hps; cases hps
    have h2 : ∀ a, (upm (upm μ sa m3) s (.ins CS [])) a = none → sa ≠ a := fun a ha e => by
      subst e
      rw [upm_ne h1, upm_same] at ha; cases ha
    rw [hoff sa h1 (h2 t htn) (h2 r hrn) (h2 f hfn), upm_ne h1]
    exact upm_same
  have hSt : St μ' sa := ⟨m3, hsa', hm3⟩
  refine ⟨by decide, ?_⟩
  refine for_rng (lo := 0) (n := Int.toNat 6) (fun i ρ μ' => ∃ (rows : List (List Int)) (x5 x6 x7 x8 x9 x10 x11 x12 x13 x14 : Option D), ρ = [some (.scr ns), some (.ob sa), some (encTree ps), some (stRows rows), some (.ob s), x5, x6, x7, x8, x9, x10, x11, x12, x13, x14] ∧ Shl CS μ' s t r f ps rows ∧ St μ' sa ∧ rows.flatten.length ≤ 240 + i) ?_ ?_ ⟨rows, none, none, none, none, none, none, none, none, none, none, rfl, S, hSt, by omega⟩
  · clear S hSt hsa' hoff hflat esort hok hasc hrk hrl hps htn hrn hfn
    clear rows μ'
    rintro i ρ μ' hi ⟨rows, x5, x6, x7, x8, x9, x10, x11, x12, x13, x14, rfl, S, hSt, hfl⟩ k hk
    have hi6 : i < 6 := hi
    have hsum := S.ok.sum
    have hrlen := S.ok.len
    unfold rd_law_L1
    walk_at "dl"
    refine ⟨trivial, sa, encT ps, rows, rfl, hSt, by rw [encT_len, hrlen], by omega, by omega, fun q hq => ?_, S.ok.key, fun kn x mo hkn hx hmo => ?_⟩
    · have := len_mem_flat hq; omega
    have S1 := S.draw (m := mo) hSt
    have hSt1 : St (upm μ' sa mo) sa := .upm hmo
    generalize upm μ' sa mo = μ1 at S1 hSt1
    clear S hSt
    dsimp only
    simp only [List.length_cons, List.length_nil, puts_cons, puts_nil, put_0, put_s, slot_0, slot_s, tl, lenD_tup, encT_len]
    refine ⟨trivial, ⟨by omega, by omega⟩, fun p hp => ?_⟩
    rw [Int.toNat_natCast]
    refine lc_map (xs := List.range (ps.length + 1)) (fun k : Nat => D.int (0 + (k : Int))) (fun k => encEs (fullM ps rows k)) hp (fun _ => trivial) (by simp; omega) (fun c hc acc k' hk' => ?_) ?_
    · have hc := List.mem_range.mp hc
      walk_at "dl"
      have S2 := S1.old (m := .lst acc) hp
      simp only [S2.at'.selfA]
      refine ⟨⟨trivial, rfl⟩, s, t, r, f, ps, rows, c, by rw [Int.zero_add], S2, by omega, fun p3 hp3 => ⟨_, _, ge_new hp3, hk'⟩⟩
    · simp only [newL_f]
      refine ⟨rows, kn, x, decide (x ∉ rows.getD kn []), rfl, hkn, fun q hq => by have := len_mem_flat hq; omega, ?_⟩
      have hknp : kn ≤ ps.length := by omega
      simp only [truD_bl]
      have fin : ∀ (E : EndsD) (rows' : List (List Int)) (ts : List (Nat × List Ent × List Ent)) (t0 : Nat × List Ent × List Ent), E.nx = k → StandOk ps rows' → rows'.flatten.length ≤ 240 + (i + 1) → TellOk ps (fullM ps rows) ts → ts[0]? = some t0 →
          (rSeq (rIf (rOr (rB (rOp opNe (rSl false (rv 12) rNoP (rSoP (rc (.int 1)))) (rLst false (rCons (rv 11) rNil)))) (rNot (rTru (rCall (asp__law_little) (rCons (rv 9) (rCons (rv 12) rNil))))))
    (rRet (rc (.bl false)))
    rSkip)
    (rFor (rRng2 (rCons (rc (.int 1)) (rCons (rCB cLen (rCons (rv 12) rNil)) rNil))) (rgName 13)
    (rd_law_L2 K CS))) E [some (.scr ns), some (.ob sa), some (encTree ps), some (stRows rows'), some (.ob s), some (.int (0 + (i : Int))), some (.int (kn : Int)), some (.int x), some (.bl (decide (x ∉ rows.getD kn []))), some (.lst (((List.range (ps.length + 1)).map (fullM ps rows)).map encEs)), x10, some (encTo t0), some (encTold ts), x13, x14] (upm (upm μ1 r (.lst (rows'.map encRl))) f (.lst ((fullsM ps rows').map encEs))) := by
        intro E rows' ts t0 hE ok' hsum' tok h0
        refine law_check ht tok h0 fun y13 y14 => ?_
        rw [hE]
        refine hk _ _ ⟨rows', _, _, _, _, _, _, _, _, _, _, rfl, S1.put ok', ?_, hsum'⟩
        exact (hSt1.off (hSt1.nlst S1.at'.rowsA)).off (hSt1.nlst S1.at'.fullsA)
      have e1 : (List.range (ps.length + 1)).map (fun k => encEs (fullM ps rows k)) = ((List.range (ps.length + 1)).map (fullM ps rows)).map encEs := by rw [List.map_map]; rfl
      rw [e1]
      by_cases hxr : x ∈ rows.getD kn []
      · have hd : decide (x ∉ rows.getD kn []) = false := by simpa using hxr
        have ok' := out_ok (x := x) S1.ok hknp
        have dd := out_deed (x := x) S1.ok hknp
        have hf := out_first S1.ok hknp hxr
        have tok := tell_ok S1.ok ok' dd
        have t0 := toldM_first (ps := ps) (old := fullM ps rows) (new := fullM ps (outR rows kn x)) (k := kn) (fun z => by rw [hf.1] at z; cases z.1)
        rw [hf.1, hf.2] at t0
        have this := fun E hE => fin E _ _ _ hE ok' (by have := outR_sum (rows := rows) (k := kn) (x := x) hkn; omega) tok t0
        simp only [hd] at this ⊢
        simp only [S1.at'.selfA]
        refine ⟨by omega, by omega, by omega, by omega, ⟨trivial, rfl⟩, s, t, r, f, ps, rows, kn, x, rfl, S1, hknp, hxr, ?_⟩
        exact this { nx := k, rt := fun d μ => ∃ d' μ', GE K d μ d' μ' ∧ q d' μ', bk := (rRet (rOp opEq (rLC false (rRng1 (rCons (rCB cLen (rCons (rv 2) rNil)) rNil)) (rgName 10) rYes (rGhE K (rMeth CS "full" (asp_Shelf_full CS) (rv 4) (rCons (rv 10) rNil))) [10]) (rGhE K (rCall (asp_full_rows) (rCons (rMeth CS "stand" (asp_Shelf_stand CS) (rv 4) rNil) rNil))))) (endsQ K q), ct := k } rfl
      · have hd : decide (x ∉ rows.getD kn []) = true := by simpa using hxr
        have hlt : rows.flatten.length < 300 := by omega
        have ok' := put_ok S1.ok hknp hxr hx hlt
        have dd := put_deed S1.ok hknp hxr
        have hf := put_first S1.ok hknp hxr
        have tok := tell_ok S1.ok ok' dd
        have t0 := toldM_first (ps := ps) (old := fullM ps rows) (new := fullM ps (putR rows kn x)) (k := kn) (fun z => by rw [hf.2] at z; cases z.2)
        rw [hf.1, hf.2] at t0
        have this := fun E hE => fin E _ _ _ hE ok' (by have := putR_sum (rows := rows) (k := kn) (x := x) hkn; omega) tok t0
        simp only [hd] at this ⊢
        simp only [S1.at'.selfA]
        refine ⟨by omega, by omega, by omega, by omega, by omega, by omega, by omega, by omega, ⟨trivial, rfl⟩, s, t, r, f, ps, rows, kn, x, rfl, S1, hknp, hxr, hx, hlt, ?_⟩
        exact this { nx := k, rt := fun d μ => ∃ d' μ', GE K d μ d' μ' ∧ q d' μ', bk := (rRet (rOp opEq (rLC false (rRng1 (rCons (rCB cLen (rCons (rv 2) rNil)) rNil)) (rgName 10) rYes (rGhE K (rMeth CS "full" (asp_Shelf_full CS) (rv 4) (rCons (rv 10) rNil))) [10]) (rGhE K (rCall (asp_full_rows) (rCons (rMeth CS "stand" (asp_Shelf_stand CS) (rv 4) rNil) rNil))))) (endsQ K q), ct := k } rfl
  · rintro ρ μ' ⟨rows, x5, x6, x7, x8, x9, x10, x11, x12, x13, x14, rfl, S, hSt, hfl⟩
    walk_at "dl"
    simp only [tl, lenD_tup, encT_len]
    refine ⟨trivial, ⟨by omega, by omega⟩, fun p hp => ?_⟩
    rw [Int.toNat_natCast]
    refine lc_map (xs := List.range (ps.length + 1)) (fun k : Nat => D.int (0 + (k : Int))) (fun k => encEs (fullM ps rows k)) hp (fun _ => trivial) (by simp; omega) (fun c hc acc k' hk' => ?_) ?_
    · have hc := List.mem_range.mp hc
      walk_at "dl"
      have S2 := S.old (m := .lst acc) hp
      simp only [S2.at'.selfA]
      refine ⟨⟨trivial, rfl⟩, s, t, r, f, ps, rows, c, by rw [Int.zero_add], S2, by omega, fun p3 hp3 => ⟨_, _, ge_new hp3, hk'⟩⟩
    · simp only [newL_f, S.at'.selfA]
      refine ⟨⟨trivial, rfl⟩, s, t, r, f, ps, rows, rfl, S, ps, rows, rfl, S.ok, fun p3 hp3 => ⟨_, _, ge_new hp3, ?_⟩⟩
      have e1 : (List.range (ps.length + 1)).map (fun k => encEs (fullM ps rows k)) = (fullsM ps rows).map encEs := by unfold fullsM; rw [List.map_map]; rfl
      have sh : shp (.lst ((fullsM ps rows).map encEs)) = true := (Enc.lst Enc.ents).shp _
      have eq : eqD (.lst ((fullsM ps rows).map encEs)) (.lst ((fullsM ps rows).map encEs)) = true := by
        have := (Enc.lst Enc.ents).eq (fullsM ps rows) (fullsM ps rows)
        simpa using this
      unfold opEq
      rw [e1]
      simp only [rs_lst, sh, eq]
      exact ⟨trivial, trivial, out_same (h _)⟩
end BF

namespace BF
open PySem PySem.Spec PyProof.Rows L2 BM DL
def top (i : Nat) : Stmt := PySem.Challenge.pw_bridgefind_k50_whole_a_key_changes_littl.main.body.getD i (.Pass ⟨0, 0, 0, 0⟩)
abbrev s__law_begin : Stmt := top 42
abbrev nm__law_begin : List Str := ["_law_script"]
theorem sc__law_begin : FnScope nm__law_begin ["_law_script"] (defScope s__law_begin) := ⟨rfl, rfl, rfl, by decide +kernel, rfl, by decide +kernel, by decide +kernel⟩
abbrev s__law_behind : Stmt := top 50
abbrev nm__law_behind : List Str := ["_law_rows_here", "_law_knot", "_law_key_here", "_law_is_put", "_law_found", "_law_other"]
theorem sc__law_behind : FnScope nm__law_behind ["_law_rows_here", "_law_knot", "_law_key_here", "_law_is_put"] (defScope s__law_behind) := ⟨rfl, rfl, rfl, by decide +kernel, rfl, by decide +kernel, by decide +kernel⟩
abbrev s__law_near_one : Stmt := top 51
abbrev nm__law_near_one : List Str := ["_law_whole", "_law_changed", "_law_entry", "_law_at", "_law_other"]
theorem sc__law_near_one : FnScope nm__law_near_one ["_law_whole", "_law_changed", "_law_entry"] (defScope s__law_near_one) := ⟨rfl, rfl, rfl, by decide +kernel, rfl, by decide +kernel, by decide +kernel⟩
abbrev s__law_little : Stmt := top 52
abbrev nm__law_little : List Str := ["_law_ahead", "_law_told", "_law_k", "_law_below_one", "_law_gone", "_law_come", "_law_changed", "_law_whole", "_law_entry"]
theorem sc__law_little : FnScope nm__law_little ["_law_ahead", "_law_told"] (defScope s__law_little) := ⟨rfl, rfl, rfl, by decide +kernel, rfl, by decide +kernel, by decide +kernel⟩
abbrev s__law_mixed : Stmt := top 43
abbrev nm__law_mixed : List Str := ["_law_cell", "_law_k", "_law_one", "_law_two"]
theorem sc__law_mixed : FnScope nm__law_mixed ["_law_cell", "_law_k"] (defScope s__law_mixed) := ⟨rfl, rfl, rfl, by decide +kernel, rfl, by decide +kernel, by decide +kernel⟩
abbrev s__law_take : Stmt := top 44
abbrev nm__law_take : List Str := ["_law_state", "_law_most", "_law_k", "_law_script", "_law_cell", "_law_found"]
theorem sc__law_take : FnScope nm__law_take ["_law_state", "_law_most"] (defScope s__law_take) := ⟨rfl, rfl, rfl, by decide +kernel, rfl, by decide +kernel, by decide +kernel⟩
abbrev s__law_key : Stmt := top 45
abbrev nm__law_key : List Str := ["_law_state", "_law_way"]
theorem sc__law_key : FnScope nm__law_key ["_law_state"] (defScope s__law_key) := ⟨rfl, rfl, rfl, by decide +kernel, rfl, by decide +kernel, by decide +kernel⟩
abbrev s__law_row : Stmt := top 47
abbrev nm__law_row : List Str := ["_law_state", "_law_most", "_law_found", "_law_k"]
theorem sc__law_row : FnScope nm__law_row ["_law_state", "_law_most"] (defScope s__law_row) := ⟨rfl, rfl, rfl, by decide +kernel, rfl, by decide +kernel, by decide +kernel⟩
abbrev s__law_rows : Stmt := top 48
abbrev nm__law_rows : List Str := ["_law_state", "_law_many", "_law_most", "_law_rows_here", "_law_k", "_law_row_here"]
theorem sc__law_rows : FnScope nm__law_rows ["_law_state", "_law_many", "_law_most"] (defScope s__law_rows) := ⟨rfl, rfl, rfl, by decide +kernel, rfl, by decide +kernel, by decide +kernel⟩
abbrev s__law_step : Stmt := top 49
abbrev nm__law_step : List Str := ["_law_state", "_law_tree_here", "_law_rows_here", "_law_knot", "_law_key_here"]
theorem sc__law_step : FnScope nm__law_step ["_law_state", "_law_tree_here", "_law_rows_here"] (defScope s__law_step) := ⟨rfl, rfl, rfl, by decide +kernel, rfl, by decide +kernel, by decide +kernel⟩
abbrev s__law_tree : Stmt := top 46
abbrev nm__law_tree : List Str := ["_law_state", "_law_most", "_law_way", "_law_parents", "_law_k"]
theorem sc__law_tree : FnScope nm__law_tree ["_law_state", "_law_most"] (defScope s__law_tree) := ⟨rfl, rfl, rfl, by decide +kernel, rfl, by decide +kernel, by decide +kernel⟩
abbrev s_children : Stmt := top 31
abbrev nm_children : List Str := ["tree", "knot", "other"]
theorem sc_children : FnScope nm_children ["tree", "knot"] (defScope s_children) := ⟨rfl, rfl, rfl, by decide +kernel, rfl, by decide +kernel, by decide +kernel⟩
abbrev s_neighbours_of : Stmt := top 14
abbrev nm_neighbours_of : List Str := ["things", "at"]
theorem sc_neighbours_of : FnScope nm_neighbours_of ["things", "at"] (defScope s_neighbours_of) := ⟨rfl, rfl, rfl, by decide +kernel, rfl, by decide +kernel, by decide +kernel⟩
abbrev s_colours : Stmt := top 15
abbrev nm_colours : List Str := ["numbers", "found", "high", "at", "near_ones", "colour"]
theorem sc_colours : FnScope nm_colours ["numbers"] (defScope s_colours) := ⟨rfl, rfl, rfl, by decide +kernel, rfl, by decide +kernel, by decide +kernel⟩
abbrev s_code : Stmt := top 5
abbrev nm_code : List Str := ["entry", "key", "knot"]
theorem sc_code : FnScope nm_code ["entry"] (defScope s_code) := ⟨rfl, rfl, rfl, by decide +kernel, rfl, by decide +kernel, by decide +kernel⟩
abbrev s_lowest_unlike : Stmt := top 10
abbrev nm_lowest_unlike : List Str := ["one", "other", "at"]
theorem sc_lowest_unlike : FnScope nm_lowest_unlike ["one", "other"] (defScope s_lowest_unlike) := ⟨rfl, rfl, rfl, by decide +kernel, rfl, by decide +kernel, by decide +kernel⟩
abbrev s_turned : Stmt := top 11
abbrev nm_turned : List Str := ["numbers", "found", "k", "number", "at"]
theorem sc_turned : FnScope nm_turned ["numbers"] (defScope s_turned) := ⟨rfl, rfl, rfl, by decide +kernel, rfl, by decide +kernel, by decide +kernel⟩
abbrev s_labels : Stmt := top 12
abbrev nm_labels : List Str := ["entries", "numbers", "entry", "k"]
theorem sc_labels : FnScope nm_labels ["entries"] (defScope s_labels) := ⟨rfl, rfl, rfl, by decide +kernel, rfl, by decide +kernel, by decide +kernel⟩
abbrev s_marks : Stmt := top 16
abbrev nm_marks : List Str := ["entries", "shades", "found", "entry", "shade", "at"]
theorem sc_marks : FnScope nm_marks ["entries"] (defScope s_marks) := ⟨rfl, rfl, rfl, by decide +kernel, rfl, by decide +kernel, by decide +kernel⟩
abbrev s_handed : Stmt := top 17
abbrev nm_handed : List Str := ["entries", "entry", "is_on"]
theorem sc_handed : FnScope nm_handed ["entries"] (defScope s_handed) := ⟨rfl, rfl, rfl, by decide +kernel, rfl, by decide +kernel, by decide +kernel⟩
abbrev s_put_between : Stmt := top 6
abbrev nm_put_between : List Str := ["one", "other", "found", "at", "entry"]
theorem sc_put_between : FnScope nm_put_between ["one", "other"] (defScope s_put_between) := ⟨rfl, rfl, rfl, by decide +kernel, rfl, by decide +kernel, by decide +kernel⟩
abbrev s_joined_up : Stmt := top 7
abbrev nm_joined_up : List Str := ["lists", "found", "entries"]
theorem sc_joined_up : FnScope nm_joined_up ["lists"] (defScope s_joined_up) := ⟨rfl, rfl, rfl, by decide +kernel, rfl, by decide +kernel, by decide +kernel⟩
abbrev s_own_entries : Stmt := top 36
abbrev nm_own_entries : List Str := ["stand", "knot", "key"]
theorem sc_own_entries : FnScope nm_own_entries ["stand", "knot"] (defScope s_own_entries) := ⟨rfl, rfl, rfl, by decide +kernel, rfl, by decide +kernel, by decide +kernel⟩
abbrev s_full_rows : Stmt := top 37
abbrev nm_full_rows : List Str := ["stand", "tree", "found", "knot", "come", "child"]
theorem sc_full_rows : FnScope nm_full_rows ["stand"] (defScope s_full_rows) := ⟨rfl, rfl, rfl, by decide +kernel, rfl, by decide +kernel, by decide +kernel⟩
abbrev s_is_key : Stmt := top 4
abbrev nm_is_key : List Str := ["thing"]
theorem sc_is_key : FnScope nm_is_key ["thing"] (defScope s_is_key) := ⟨rfl, rfl, rfl, by decide +kernel, rfl, by decide +kernel, by decide +kernel⟩
abbrev s_row_of : Stmt := top 34
abbrev nm_row_of : List Str := ["thing", "key"]
theorem sc_row_of : FnScope nm_row_of ["thing"] (defScope s_row_of) := ⟨rfl, rfl, rfl, by decide +kernel, rfl, by decide +kernel, by decide +kernel⟩
abbrev s_stand_of : Stmt := top 35
abbrev nm_stand_of : List Str := ["tree", "rows", "found", "row"]
theorem sc_stand_of : FnScope nm_stand_of ["tree", "rows"] (defScope s_stand_of) := ⟨rfl, rfl, rfl, by decide +kernel, rfl, by decide +kernel, by decide +kernel⟩
abbrev s_is_whole : Stmt := top 29
abbrev nm_is_whole : List Str := ["thing"]
theorem sc_is_whole : FnScope nm_is_whole ["thing"] (defScope s_is_whole) := ⟨rfl, rfl, rfl, by decide +kernel, rfl, by decide +kernel, by decide +kernel⟩
abbrev s_tree_of : Stmt := top 30
abbrev nm_tree_of : List Str := ["parents", "knot"]
theorem sc_tree_of : FnScope nm_tree_of ["parents"] (defScope s_tree_of) := ⟨rfl, rfl, rfl, by decide +kernel, rfl, by decide +kernel, by decide +kernel⟩
abbrev s_Shelf_init : Stmt := inClass (top 40) 0
abbrev nm_Shelf_init : List Str := ["self", "stand", "row"]
theorem sc_Shelf_init : FnScope nm_Shelf_init ["self", "stand"] (defScope s_Shelf_init) := ⟨rfl, rfl, rfl, by decide +kernel, rfl, by decide +kernel, by decide +kernel⟩
abbrev s_Shelf_ask_knot : Stmt := inClass (top 40) 2
abbrev nm_Shelf_ask_knot : List Str := ["self", "knot"]
theorem sc_Shelf_ask_knot : FnScope nm_Shelf_ask_knot ["self", "knot"] (defScope s_Shelf_ask_knot) := ⟨rfl, rfl, rfl, by decide +kernel, rfl, by decide +kernel, by decide +kernel⟩
abbrev s_Shelf_full : Stmt := inClass (top 40) 3
abbrev nm_Shelf_full : List Str := ["self", "knot"]
theorem sc_Shelf_full : FnScope nm_Shelf_full ["self", "knot"] (defScope s_Shelf_full) := ⟨rfl, rfl, rfl, by decide +kernel, rfl, by decide +kernel, by decide +kernel⟩
abbrev s_less : Stmt := top 39
abbrev nm_less : List Str := ["entries", "gone", "entry"]
theorem sc_less : FnScope nm_less ["entries", "gone"] (defScope s_less) := ⟨rfl, rfl, rfl, by decide +kernel, rfl, by decide +kernel, by decide +kernel⟩
abbrev s_Shelf_changed : Stmt := inClass (top 40) 4
abbrev nm_Shelf_changed : List Str := ["self", "knot", "gone", "come", "told", "before", "behind"]
theorem sc_Shelf_changed : FnScope nm_Shelf_changed ["self", "knot", "gone", "come"] (defScope s_Shelf_changed) := ⟨rfl, rfl, rfl, by decide +kernel, rfl, by decide +kernel, by decide +kernel⟩
abbrev s_Shelf_out : Stmt := inClass (top 40) 6
abbrev nm_Shelf_out : List Str := ["self", "knot", "key"]
theorem sc_Shelf_out : FnScope nm_Shelf_out ["self", "knot", "key"] (defScope s_Shelf_out) := ⟨rfl, rfl, rfl, by decide +kernel, rfl, by decide +kernel, by decide +kernel⟩
abbrev s_Shelf_put : Stmt := inClass (top 40) 5
abbrev nm_Shelf_put : List Str := ["self", "knot", "key", "row"]
theorem sc_Shelf_put : FnScope nm_Shelf_put ["self", "knot", "key"] (defScope s_Shelf_put) := ⟨rfl, rfl, rfl, by decide +kernel, rfl, by decide +kernel, by decide +kernel⟩
abbrev s_Shelf_stand : Stmt := inClass (top 40) 1
abbrev nm_Shelf_stand : List Str := ["self", "row"]
theorem sc_Shelf_stand : FnScope nm_Shelf_stand ["self"] (defScope s_Shelf_stand) := ⟨rfl, rfl, rfl, by decide +kernel, rfl, by decide +kernel, by decide +kernel⟩
abbrev s_law : Stmt := top 53
abbrev nm_law : List Str := ["_law_script", "_law_state", "_law_tree_here", "_law_rows_here", "_law_shelf", "_law_k", "_law_knot", "_law_key_here", "_law_is_put", "_law_ahead", "_law_other", "_law_due", "_law_told", "_law_at", "_law_entry"]
theorem sc_law : FnScope nm_law ["_law_script"] (defScope s_law) := ⟨rfl, rfl, rfl, by decide +kernel, rfl, by decide +kernel, by decide +kernel⟩
structure Txt (K : PySem.W.Frag) (mg : Str → Option Value) (CS : Addr) : Prop where
  n_abs : mg "abs" = none
  n_all : mg "all" = none
  n_any : mg "any" = none
  n_bool : mg "bool" = none
  n_enumerate : mg "enumerate" = none
  n_int : mg "int" = none
  n_isinstance : mg "isinstance" = none
  n_len : mg "len" = none
  n_list : mg "list" = none
  n_max : mg "max" = none
  n_min : mg "min" = none
  n_range : mg "range" = none
  n_reversed : mg "reversed" = none
  n_set : mg "set" = none
  n_sorted : mg "sorted" = none
  n_sum : mg "sum" = none
  n_tuple : mg "tuple" = none
  n_zip : mg "zip" = none
  TOO_GREAT : ∃ t, mg "TOO_GREAT" = some (.int 1000000000000000000000000000000000000000000000000000000000000 t)
  KNOTS : ∃ t, mg "KNOTS" = some (.int 64 t)
  ROUNDS : ∃ t, mg "ROUNDS" = some (.int 5 t)
  MOST_KNOTS : ∃ t, mg "MOST_KNOTS" = some (.int 40 t)
  MOST_KEYS : ∃ t, mg "MOST_KEYS" = some (.int 300 t)
  cl_CS : Cls K CS
  na_tree : NoAttr K CS "tree"
  na_rows : NoAttr K CS "rows"
  na_fulls : NoAttr K CS "fulls"
section
variable {P : Program} {w : World} {K : PySem.W.Frag} {mg : Str → Option Value} {base : Heap} {CS : Addr}
theorem w__law_begin {f : Addr} {fd : FuncData} (F : FunD K "_law_begin" "_law_begin" (defArgs s__law_begin) (defBody s__law_begin) (defScope s__law_begin) [] [] f fd) (T : Txt K mg CS) : FnOk P w K mg base CX0 1 f fd ["_law_script"] (upSp K (asp__law_begin)) := by
  have nd := sc__law_begin.nd
  exact fn_ok F sc__law_begin (fun ds μ q h => by unfold asp__law_begin at h; repeat first | (obtain ⟨rfl, _⟩ := h; rfl) | (obtain ⟨_, h⟩ := h)) (rd__law_begin) (fun cdv A outer s H E hr => (s_one (s_ret (d_disp3 (dv 0) d_int d_int (by decide) (by decide) (by decide))))) (ok__law_begin K)
theorem w__law_behind {f : Addr} {fd : FuncData} (F : FunD K "_law_behind" "_law_behind" (defArgs s__law_behind) (defBody s__law_behind) (defScope s__law_behind) [] [] f fd) (T : Txt K mg CS) : FnOk P w K mg base CX0 1 f fd ["_law_rows_here", "_law_knot", "_law_key_here", "_law_is_put"] (upSp K (asp__law_behind)) := by
  have nd := sc__law_behind.nd
  exact fn_ok F sc__law_behind (fun ds μ q h => by unfold asp__law_behind at h; repeat first | (obtain ⟨rfl, _⟩ := h; rfl) | (obtain ⟨_, h⟩ := h)) (rd__law_behind) (fun cdv A outer s H E hr => (s_cons (s_set (i := 4) nd (d_callTy (c_list rfl true) T.n_list bb_list (a_cons (dv 0) a_nil)))
      (s_cons (s_if (t_truth (dv 3))
      (s_one (s_asg (d_callTy c_tuple T.n_tuple bb_tuple (a_cons (d_callB (c_sort false) T.n_sorted bb_sorted (a_cons (d_op (o_add false) (d_ix (dv 4) (dv 1)) (d_tup (a_cons (dv 2) a_nil))) a_nil)) a_nil)) (g_sub (dv 4) (dv 1))))
      (s_one (s_asg (d_callTy c_tuple T.n_tuple bb_tuple (a_cons (d_lc (own := false) (ow := [("_law_other", 5)]) (gv := (gName 5)) rfl nd (i_it (d_ix (dv 4) (dv 1))) (blkOk_by (N := nm__law_behind) (sc := (defScope s__law_behind)) (own := [("_law_other", 5)]) (by decide +kernel)) (tg_name (by decide)) (fun _ _ _ _ _ => pg_name (i := 5) nd rfl (Or.inl rfl)) (fun _ _ _ _ _ => ts_one (t_cmp (o_ne hr.units) (dv 5) (dv 2))) (fun _ _ _ _ _ => (dv 5))) a_nil)) (g_sub (dv 4) (dv 1)))))
      (s_one (s_ret (d_callTy c_tuple T.n_tuple bb_tuple (a_cons (dv 4) a_nil))))))) (ok__law_behind K)
theorem w__law_near_one {f : Addr} {fd : FuncData} (F : FunD K "_law_near_one" "_law_near_one" (defArgs s__law_near_one) (defBody s__law_near_one) (defScope s__law_near_one) [] [] f fd) (T : Txt K mg CS) : FnOk P w K mg base CX0 1 f fd ["_law_whole", "_law_changed", "_law_entry"] (upSp K (asp__law_near_one)) := by
  have nd := sc__law_near_one.nd
  exact fn_ok F sc__law_near_one (fun ds μ q h => by unfold asp__law_near_one at h; repeat first | (obtain ⟨rfl, _⟩ := h; rfl) | (obtain ⟨_, h⟩ := h)) (rd__law_near_one) (fun cdv A outer s H E hr => (s_cons (s_set (i := 3) nd (d_bm PySem.F.plainAttrs_list PySem.F.slot_list_index PySem.F.type_list_index (m_index (room65 hr)) (dv 0) (a_cons (dv 2) a_nil)))
      (s_one (s_ret (d_cmp (o_ne hr.units) (d_lc (own := false) (ow := [("_law_other", 4)]) (gv := (gName 4)) rfl nd (i_it (d_slice false (dv 0) (o_some (d_callB (c_max rfl) T.n_max bb_max (a_cons d_int (a_cons (d_op o_sub (dv 3) d_int) a_nil)))) (o_some (d_op (o_add false) (dv 3) d_int)))) (blkOk_by (N := nm__law_near_one) (sc := (defScope s__law_near_one)) (own := [("_law_other", 4)]) (by decide +kernel)) (tg_name (by decide)) (fun _ _ _ _ _ => pg_name (i := 4) nd rfl (Or.inl rfl)) (fun _ _ _ _ _ => ts_one (t_cmp (o_in (room65 hr)) (dv 4) (dv 1))) (fun _ _ _ _ _ => (dv 4))) (d_lst false a_nil)))))) (ok__law_near_one K)
theorem w__law_little {f : Addr} {fd : FuncData} (F : FunD K "_law_little" "_law_little" (defArgs s__law_little) (defBody s__law_little) (defScope s__law_little) [] [] f fd) (T : Txt K mg CS) (C__law_near_one : Cal P w K mg base "_law_near_one" 1 (asp__law_near_one)) : FnOk P w K mg base CX0 2 f fd ["_law_ahead", "_law_told"] (upSp K (asp__law_little)) := by
  have nd := sc__law_little.nd
  exact fn_ok F sc__law_little (fun ds μ q h => by unfold asp__law_little at h; repeat first | (obtain ⟨rfl, _⟩ := h; rfl) | (obtain ⟨_, h⟩ := h)) (rd__law_little) (fun cdv A outer s H E hr => (s_cons (s_for PassesOwn.never rfl (i_rng2 T.n_range (a_cons d_int (a_cons (d_callB c_len T.n_len bb_len (a_cons (dv 1) a_nil)) a_nil))) (g_name (i := 2) nd)
      (s_cons (s_asg (d_ix (dv 1) (d_op o_sub (dv 2) d_int)) (g_tup (is := [3, 4, 5]) rfl (gs_cons (i := 3) nd (gs_cons (i := 4) nd (gs_cons (i := 5) nd gs_nil)))))
      (s_cons (s_set (i := 6) nd (d_op (o_add false) (dv 4) (dv 5)))
      (s_cons (s_set (i := 7) nd (d_callB (c_sort false) T.n_sorted bb_sorted (a_cons (d_op (o_add false) (d_ix (dv 0) (dv 3)) (dv 5)) a_nil)))
      (s_one (s_for PassesOwn.never rfl (i_it (d_op (o_add false) (d_ix (d_ix (dv 1) (dv 2)) d_int) (d_ix (d_ix (dv 1) (dv 2)) d_int))) (g_name (i := 8) nd)
      (s_one (s_if (PW.pt (w_or (t_cmp (o_notin (room65 hr)) (dv 8) (dv 7)) (w_or1 (t_not (t_truth (d_call C__law_near_one (hr.mono (by decide)) (a_cons (dv 7) (a_cons (dv 6) (a_cons (dv 8) a_nil)))))))))
      (s_one (s_ret d_bl))
      s_nil))))))))
      (s_one (s_ret d_bl)))) (ok__law_little K)
theorem w__law_mixed {f : Addr} {fd : FuncData} (F : FunD K "_law_mixed" "_law_mixed" (defArgs s__law_mixed) (defBody s__law_mixed) (defScope s__law_mixed) [] [] f fd) (T : Txt K mg CS) : FnOk P w K mg base CX0 1 f fd ["_law_cell", "_law_k"] (upSp K (asp__law_mixed)) := by
  have nd := sc__law_mixed.nd
  exact fn_ok F sc__law_mixed (fun ds μ q h => by unfold asp__law_mixed at h; repeat first | (obtain ⟨rfl, _⟩ := h; rfl) | (obtain ⟨_, h⟩ := h)) (rd__law_mixed) (fun cdv A outer s H E hr => (s_cons (s_set (i := 2) nd (d_op o_mod (d_op (o_mul false) (d_op (o_add false) (d_op (o_add false) (d_op o_mod (dv 0) d_int) (d_op (o_mul false) d_int (dv 1))) d_int) d_int) d_int))
      (s_cons (s_set (i := 3) nd (d_op o_mod (d_op (o_add false) (d_op (o_add false) (d_op (o_mul false) (dv 2) (dv 2)) (d_op (o_mul false) d_int (dv 2))) (dv 1)) d_int))
      (s_one (s_ret (d_op o_fdv (d_op o_mod (d_op (o_add false) (d_op (o_add false) (d_op (o_mul false) (dv 3) (dv 3)) (d_op (o_mul false) d_int (dv 3))) (d_op (o_mul false) d_int (dv 1))) d_int) d_int)))))) (ok__law_mixed K)
theorem w__law_take {f : Addr} {fd : FuncData} (F : FunD K "_law_take" "_law_take" (defArgs s__law_take) (defBody s__law_take) (defScope s__law_take) [] [] f fd) (T : Txt K mg CS) (C__law_mixed : Cal P w K mg base "_law_mixed" 1 (asp__law_mixed)) : FnOk P w K mg base CX0 2 f fd ["_law_state", "_law_most"] (upSp K (asp__law_take)) := by
  have nd := sc__law_take.nd
  exact fn_ok F sc__law_take (fun ds μ q h => by unfold asp__law_take at h; repeat first | (obtain ⟨rfl, _⟩ := h; rfl) | (obtain ⟨_, h⟩ := h)) (rd__law_take) (fun cdv A outer s H E hr => (s_cons (s_set (i := 2) nd (d_dget (room1 hr) (dv 0) d_str))
      (s_cons (s_set (i := 3) nd (d_dget (room1 hr) (dv 0) d_str))
      (s_cons (s_if (t_cmp (o_eq hr.units) (d_dget (room1 hr) (dv 0) d_str) d_int)
      (s_cons (s_dput (room1 hr) (dv 0) d_str (d_op (o_add false) (dv 2) d_int))
      (s_cons (s_set (i := 4) nd d_int)
      (s_cons (s_if (t_cmp o_gt (d_callB c_len T.n_len bb_len (a_cons (dv 3) a_nil)) d_int)
      (s_one (s_set (i := 4) nd (d_ix (dv 3) (d_op o_mod (dv 2) (d_callB c_len T.n_len bb_len (a_cons (dv 3) a_nil))))))
      s_nil)
      (s_cons (s_if (PW.pt (w_or (t_cmp o_ge (dv 2) (d_callB c_len T.n_len bb_len (a_cons (dv 3) a_nil))) (w_or1 (t_cmp (o_lt hr.units0) (d_callB c_abs T.n_abs bb_abs (a_cons (dv 4) a_nil)) (d_op o_pow d_int d_int)))))
      (s_one (s_ret (d_op o_mod (d_call C__law_mixed (hr.mono (by decide)) (a_cons (dv 4) (a_cons (dv 2) a_nil))) (dv 1))))
      s_nil)
      (s_one (s_dput (room1 hr) (dv 0) d_str (d_callB c_abs T.n_abs bb_abs (a_cons (dv 4) a_nil))))))))
      s_nil)
      (s_cons (s_set (i := 5) nd (d_op o_mod (d_dget (room1 hr) (dv 0) d_str) (dv 1)))
      (s_cons (s_dput (room1 hr) (dv 0) d_str (d_op o_fdv (d_dget (room1 hr) (dv 0) d_str) (dv 1)))
      (s_one (s_ret (dv 5))))))))) (ok__law_take K)
theorem w__law_key {f : Addr} {fd : FuncData} (F : FunD K "_law_key" "_law_key" (defArgs s__law_key) (defBody s__law_key) (defScope s__law_key) [] [] f fd) (T : Txt K mg CS) (C__law_take : Cal P w K mg base "_law_take" 2 (asp__law_take)) : FnOk P w K mg base CX0 3 f fd ["_law_state"] (upSp K (asp__law_key)) := by
  have nd := sc__law_key.nd
  exact fn_ok F sc__law_key (fun ds μ q h => by unfold asp__law_key at h; repeat first | (obtain ⟨rfl, _⟩ := h; rfl) | (obtain ⟨_, h⟩ := h)) (rd__law_key) (fun cdv A outer s H E hr => (s_cons (s_set (i := 1) nd (d_call C__law_take (hr.mono (by decide)) (a_cons (dv 0) (a_cons d_int a_nil))))
      (s_cons (s_if (t_cmp (o_lt hr.units0) (dv 1) d_int)
      (s_one (s_ret (d_call C__law_take (hr.mono (by decide)) (a_cons (dv 0) (a_cons d_int a_nil)))))
      s_nil)
      (s_cons (s_if (t_cmp (o_lt hr.units0) (dv 1) d_int)
      (s_one (s_ret (d_op o_sub (d_call C__law_take (hr.mono (by decide)) (a_cons (dv 0) (a_cons d_int a_nil))) d_int)))
      s_nil)
      (s_cons (s_if (t_cmp (o_eq hr.units) (dv 1) d_int)
      (s_one (s_ret (d_op (o_mul false) (d_op o_sub (d_call C__law_take (hr.mono (by decide)) (a_cons (dv 0) (a_cons d_int a_nil))) d_int) (d_ix (d_lst false (a_cons d_int (a_cons (d_op o_pow d_int d_int) (a_cons (d_op o_pow d_int d_int) (a_cons (d_op o_pow d_int d_int) a_nil))))) (d_call C__law_take (hr.mono (by decide)) (a_cons (dv 0) (a_cons d_int a_nil)))))))
      s_nil)
      (s_one (s_ret (d_op (o_mul false) (d_ix (d_lst false (a_cons d_int (a_cons (d_un u_neg d_int) a_nil))) (d_call C__law_take (hr.mono (by decide)) (a_cons (dv 0) (a_cons d_int a_nil)))) (d_op o_sub (d_op o_sub (d_op o_pow d_int d_int) d_int) (d_call C__law_take (hr.mono (by decide)) (a_cons (dv 0) (a_cons d_int a_nil)))))))))))) (ok__law_key K)
theorem w__law_row {f : Addr} {fd : FuncData} (F : FunD K "_law_row" "_law_row" (defArgs s__law_row) (defBody s__law_row) (defScope s__law_row) [] [] f fd) (T : Txt K mg CS) (C__law_key : Cal P w K mg base "_law_key" 3 (asp__law_key)) (C__law_take : Cal P w K mg base "_law_take" 2 (asp__law_take)) : FnOk P w K mg base CX0 4 f fd ["_law_state", "_law_most"] (upSp K (asp__law_row)) := by
  have nd := sc__law_row.nd
  exact fn_ok F sc__law_row (fun ds μ q h => by unfold asp__law_row at h; repeat first | (obtain ⟨rfl, _⟩ := h; rfl) | (obtain ⟨_, h⟩ := h)) (rd__law_row) (fun cdv A outer s H E hr => (s_cons (s_set (i := 2) nd d_dnew)
      (s_cons (s_for PassesOwn.never rfl (i_rng1 T.n_range (a_cons (d_call C__law_take (hr.mono (by decide)) (a_cons (dv 0) (a_cons (d_op (o_add false) (dv 1) d_int) a_nil))) a_nil)) (g_name (i := 3) nd)
      (s_one (s_dput (room1 hr) (dv 2) (d_call C__law_key (hr.mono (by decide)) (a_cons (dv 0) a_nil)) d_bl)))
      (s_one (s_ret (d_callTy c_tuple T.n_tuple bb_tuple (a_cons (d_callB (c_sort false) T.n_sorted bb_sorted (a_cons (d_callTy (c_list rfl false) T.n_list bb_list (a_cons (dv 2) a_nil)) a_nil)) a_nil))))))) (ok__law_row K)
theorem w__law_rows {f : Addr} {fd : FuncData} (F : FunD K "_law_rows" "_law_rows" (defArgs s__law_rows) (defBody s__law_rows) (defScope s__law_rows) [] [] f fd) (T : Txt K mg CS) (C__law_row : Cal P w K mg base "_law_row" 4 (asp__law_row)) (C__law_take : Cal P w K mg base "_law_take" 2 (asp__law_take)) : FnOk P w K mg base CX0 5 f fd ["_law_state", "_law_many", "_law_most"] (upSp K (asp__law_rows)) := by
  have nd := sc__law_rows.nd
  exact fn_ok F sc__law_rows (fun ds μ q h => by unfold asp__law_rows at h; repeat first | (obtain ⟨rfl, _⟩ := h; rfl) | (obtain ⟨_, h⟩ := h)) (rd__law_rows) (fun cdv A outer s H E hr => (s_cons (s_set (i := 3) nd (d_lst true a_nil))
      (s_cons (s_for PassesOwn.never rfl (i_rng1 T.n_range (a_cons (dv 1) a_nil)) (g_name (i := 4) nd)
      (s_cons (s_set (i := 5) nd (d_call C__law_row (hr.mono (by decide)) (a_cons (dv 0) (a_cons (dv 2) a_nil))))
      (s_cons (s_if (t_cmp (o_eq hr.units) (d_call C__law_take (hr.mono (by decide)) (a_cons (dv 0) (a_cons d_int a_nil))) d_int)
      (s_one (s_set (i := 5) nd (d_tup a_nil)))
      s_nil)
      (s_cons (s_if (PW.pt (w_and (t_cmp o_gt (dv 4) d_int) (w_and1 (t_cmp (o_eq hr.units) (d_call C__law_take (hr.mono (by decide)) (a_cons (dv 0) (a_cons d_int a_nil))) d_int))))
      (s_one (s_set (i := 5) nd (d_ix (dv 3) (d_op o_sub (dv 4) d_int))))
      s_nil)
      (s_one (s_expr (d_bm PySem.F.plainAttrs_list PySem.F.slot_list_append PySem.F.type_list_append m_append (dv 3) (a_cons (dv 5) a_nil))))))))
      (s_one (s_ret (d_callTy c_tuple T.n_tuple bb_tuple (a_cons (dv 3) a_nil))))))) (ok__law_rows K)
theorem w__law_step {f : Addr} {fd : FuncData} (F : FunD K "_law_step" "_law_step" (defArgs s__law_step) (defBody s__law_step) (defScope s__law_step) [] [] f fd) (T : Txt K mg CS) (C__law_key : Cal P w K mg base "_law_key" 3 (asp__law_key)) (C__law_take : Cal P w K mg base "_law_take" 2 (asp__law_take)) : FnOk P w K mg base CX0 4 f fd ["_law_state", "_law_tree_here", "_law_rows_here"] (upSp K (asp__law_step)) := by
  have nd := sc__law_step.nd
  exact fn_ok F sc__law_step (fun ds μ q h => by unfold asp__law_step at h; repeat first | (obtain ⟨rfl, _⟩ := h; rfl) | (obtain ⟨_, h⟩ := h)) (rd__law_step) (fun cdv A outer s H E hr => (s_cons (s_set (i := 3) nd (d_call C__law_take (hr.mono (by decide)) (a_cons (dv 0) (a_cons (d_callB c_len T.n_len bb_len (a_cons (dv 1) a_nil)) a_nil))))
      (s_cons (s_set (i := 4) nd (d_call C__law_key (hr.mono (by decide)) (a_cons (dv 0) a_nil)))
      (s_cons (s_if (PW.pt (w_and (t_cmp o_gt (d_callB c_len T.n_len bb_len (a_cons (d_ix (dv 2) (dv 3)) a_nil)) d_int) (w_and1 (t_cmp (o_eq hr.units) (d_call C__law_take (hr.mono (by decide)) (a_cons (dv 0) (a_cons d_int a_nil))) d_int))))
      (s_one (s_set (i := 4) nd (d_ix (d_ix (dv 2) (dv 3)) (d_call C__law_take (hr.mono (by decide)) (a_cons (dv 0) (a_cons (d_callB c_len T.n_len bb_len (a_cons (d_ix (dv 2) (dv 3)) a_nil)) a_nil))))))
      s_nil)
      (s_one (s_ret (d_tup (a_cons (dv 3) (a_cons (dv 4) (a_cons (d_cmp (o_notin (room65 hr)) (dv 4) (d_ix (dv 2) (dv 3))) a_nil)))))))))) (ok__law_step K)
theorem w__law_tree {f : Addr} {fd : FuncData} (F : FunD K "_law_tree" "_law_tree" (defArgs s__law_tree) (defBody s__law_tree) (defScope s__law_tree) [] [] f fd) (T : Txt K mg CS) (C__law_take : Cal P w K mg base "_law_take" 2 (asp__law_take)) : FnOk P w K mg base CX0 3 f fd ["_law_state", "_law_most"] (upSp K (asp__law_tree)) := by
  have nd := sc__law_tree.nd
  exact fn_ok F sc__law_tree (fun ds μ q h => by unfold asp__law_tree at h; repeat first | (obtain ⟨rfl, _⟩ := h; rfl) | (obtain ⟨_, h⟩ := h)) (rd__law_tree) (fun cdv A outer s H E hr => (s_cons (s_set (i := 2) nd (d_call C__law_take (hr.mono (by decide)) (a_cons (dv 0) (a_cons d_int a_nil))))
      (s_cons (s_set (i := 3) nd (d_lst true (a_cons d_non a_nil)))
      (s_cons (s_for PassesOwn.never rfl (i_rng2 T.n_range (a_cons d_int (a_cons (d_op (o_add false) d_int (d_call C__law_take (hr.mono (by decide)) (a_cons (dv 0) (a_cons (dv 1) a_nil)))) a_nil))) (g_name (i := 4) nd)
      (s_one (s_expr (d_bm PySem.F.plainAttrs_list PySem.F.slot_list_append PySem.F.type_list_append m_append (dv 3) (a_cons (d_ix (d_lst false (a_cons (d_op o_sub (dv 4) d_int) (a_cons d_int (a_cons (d_call C__law_take (hr.mono (by decide)) (a_cons (dv 0) (a_cons (dv 4) a_nil))) (a_cons (d_callB (c_max rfl) T.n_max bb_max (a_cons d_int (a_cons (d_op o_sub (d_op o_sub (dv 4) d_int) (d_call C__law_take (hr.mono (by decide)) (a_cons (dv 0) (a_cons d_int a_nil)))) a_nil))) a_nil))))) (dv 2)) a_nil)))))
      (s_one (s_ret (d_callTy c_tuple T.n_tuple bb_tuple (a_cons (dv 3) a_nil)))))))) (ok__law_tree K)
theorem w_children {f : Addr} {fd : FuncData} (F : FunD K "children" "children" (defArgs s_children) (defBody s_children) (defScope s_children) [] [] f fd) (T : Txt K mg CS) : FnOk P w K mg base CX0 1 f fd ["tree", "knot"] (upSp K (asp_children)) := by
  have nd := sc_children.nd
  exact fn_ok F sc_children (fun ds μ q h => by unfold asp_children at h; repeat first | (obtain ⟨rfl, _⟩ := h; rfl) | (obtain ⟨_, h⟩ := h)) (rd_children) (fun cdv A outer s H E hr => (s_one (s_ret (d_lc (own := false) (ow := [("other", 2)]) (gv := (gName 2)) rfl nd (i_rng2 T.n_range (a_cons d_int (a_cons (d_callB c_len T.n_len bb_len (a_cons (dv 0) a_nil)) a_nil))) (blkOk_by (N := nm_children) (sc := (defScope s_children)) (own := [("other", 2)]) (by decide +kernel)) (tg_name (by decide)) (fun _ _ _ _ _ => pg_name (i := 2) nd rfl (Or.inl rfl)) (fun _ _ _ _ _ => ts_one (t_cmp (o_eq hr.units) (d_ix (dv 0) (dv 2)) (dv 1))) (fun _ _ _ _ _ => (dv 2)))))) (ok_children K)
theorem w_neighbours_of {f : Addr} {fd : FuncData} (F : FunD K "neighbours_of" "neighbours_of" (defArgs s_neighbours_of) (defBody s_neighbours_of) (defScope s_neighbours_of) [] [] f fd) (T : Txt K mg CS) : FnOk P w K mg base CX0 1 f fd ["things", "at"] (upSp K (asp_neighbours_of)) := by
  have nd := sc_neighbours_of.nd
  exact fn_ok F sc_neighbours_of (fun ds μ q h => by unfold asp_neighbours_of at h; repeat first | (obtain ⟨rfl, _⟩ := h; rfl) | (obtain ⟨_, h⟩ := h)) (rd_neighbours_of) (fun cdv A outer s H E hr => (s_one (s_ret (d_op (o_add false) (d_slice false (dv 0) (o_some (d_callB (c_max rfl) T.n_max bb_max (a_cons d_int (a_cons (d_op o_sub (dv 1) d_int) a_nil)))) (o_some (dv 1))) (d_slice false (dv 0) (o_some (d_op (o_add false) (dv 1) d_int)) (o_some (d_op (o_add false) (dv 1) d_int))))))) (ok_neighbours_of K)
theorem w_colours {f : Addr} {fd : FuncData} (F : FunD K "colours" "colours" (defArgs s_colours) (defBody s_colours) (defScope s_colours) [] [] f fd) (T : Txt K mg CS) (C_neighbours_of : Cal P w K mg base "neighbours_of" 1 (asp_neighbours_of)) : FnOk P w K mg base CX0 2 f fd ["numbers"] (upSp K (asp_colours)) := by
  have nd := sc_colours.nd
  exact fn_ok F sc_colours (fun ds μ q h => by unfold asp_colours at h; repeat first | (obtain ⟨rfl, _⟩ := h; rfl) | (obtain ⟨_, h⟩ := h)) (rd_colours) (fun cdv A outer s H E hr => (s_cons (s_set (i := 1) nd (d_callTy (c_list rfl true) T.n_list bb_list (a_cons (dv 0) a_nil)))
      (s_cons (s_for PassesOwn.never rfl (i_it (d_tup (a_cons d_int (a_cons d_int (a_cons d_int a_nil))))) (g_name (i := 2) nd)
      (s_one (s_for PassesOwn.never rfl (i_rng1 T.n_range (a_cons (d_callB c_len T.n_len bb_len (a_cons (dv 1) a_nil)) a_nil)) (g_name (i := 3) nd)
      (s_one (s_if (t_cmp (o_eq hr.units) (d_ix (dv 1) (dv 3)) (dv 2))
      (s_cons (s_set (i := 4) nd (d_call C_neighbours_of (hr.mono (by decide)) (a_cons (dv 1) (a_cons (dv 3) a_nil))))
      (s_one (s_asg (d_callB (c_min rfl) T.n_min bb_min (a_cons (d_lc (own := false) (ow := [("colour", 5)]) (gv := (gName 5)) rfl nd (i_rng1 T.n_range (a_cons d_int a_nil)) (blkOk_by (N := nm_colours) (sc := (defScope s_colours)) (own := [("colour", 5)]) (by decide +kernel)) (tg_name (by decide)) (fun _ _ _ _ _ => pg_name (i := 5) nd rfl (Or.inl rfl)) (fun _ _ _ _ _ => ts_one (t_cmp (o_notin (room65 hr)) (dv 5) (dv 4))) (fun _ _ _ _ _ => (dv 5))) a_nil)) (g_sub (dv 1) (dv 3)))))
      s_nil)))))
      (s_one (s_ret (dv 1)))))) (ok_colours K)
theorem w_code {f : Addr} {fd : FuncData} (F : FunD K "code" "code" (defArgs s_code) (defBody s_code) (defScope s_code) [] [] f fd) (T : Txt K mg CS) : FnOk P w K mg base CX0 1 f fd ["entry"] (upSp K (asp_code)) := by
  have nd := sc_code.nd
  exact fn_ok F sc_code (fun ds μ q h => by unfold asp_code at h; repeat first | (obtain ⟨rfl, _⟩ := h; rfl) | (obtain ⟨_, h⟩ := h)) (rd_code) (fun cdv A outer s H E hr => (s_cons (s_asg (dv 0) (g_tup (is := [1, 2]) rfl (gs_cons (i := 1) nd (gs_cons (i := 2) nd gs_nil))))
      (s_cons (s_if (t_cmp (o_lt hr.units0) (dv 1) d_int)
      (s_one (s_ret (d_op (o_add false) (d_op (o_mul false) (d_gint T.KNOTS) (d_op o_sub (d_op (o_mul false) (d_un u_neg d_int) (dv 1)) d_int)) (dv 2))))
      s_nil)
      (s_one (s_ret (d_op (o_add false) (d_op (o_mul false) (d_op (o_mul false) (d_gint T.KNOTS) d_int) (dv 1)) (dv 2))))))) (ok_code K)
theorem w_lowest_unlike {f : Addr} {fd : FuncData} (F : FunD K "lowest_unlike" "lowest_unlike" (defArgs s_lowest_unlike) (defBody s_lowest_unlike) (defScope s_lowest_unlike) [] [] f fd) (T : Txt K mg CS) : FnOk P w K mg base CX0 1 f fd ["one", "other"] (upSp K (asp_lowest_unlike)) := by
  have nd := sc_lowest_unlike.nd
  exact fn_ok F sc_lowest_unlike (fun ds μ q h => by unfold asp_lowest_unlike at h; repeat first | (obtain ⟨rfl, _⟩ := h; rfl) | (obtain ⟨_, h⟩ := h)) (rd_lowest_unlike) (fun cdv A outer s H E hr => (s_cons (s_set (i := 2) nd d_int)
      (s_cons (s_while PassesOwn.never (t_cmp (o_eq hr.units) (d_op o_mod (dv 0) d_int) (d_op o_mod (dv 1) d_int))
      (s_cons (s_set (i := 0) nd (d_op o_fdv (dv 0) d_int))
      (s_cons (s_set (i := 1) nd (d_op o_fdv (dv 1) d_int))
      (s_one (s_set (i := 2) nd (d_op (o_add false) (dv 2) d_int))))))
      (s_one (s_ret (dv 2)))))) (ok_lowest_unlike K)
theorem w_turned {f : Addr} {fd : FuncData} (F : FunD K "turned" "turned" (defArgs s_turned) (defBody s_turned) (defScope s_turned) [] [] f fd) (T : Txt K mg CS) (C_lowest_unlike : Cal P w K mg base "lowest_unlike" 1 (asp_lowest_unlike)) : FnOk P w K mg base CX0 2 f fd ["numbers"] (upSp K (asp_turned)) := by
  have nd := sc_turned.nd
  exact fn_ok F sc_turned (fun ds μ q h => by unfold asp_turned at h; repeat first | (obtain ⟨rfl, _⟩ := h; rfl) | (obtain ⟨_, h⟩ := h)) (rd_turned) (fun cdv A outer s H E hr => (s_cons (s_set (i := 1) nd (d_lst true a_nil))
      (s_cons (s_for PassesOwn.never rfl (i_enum T.n_enumerate (a_cons (dv 0) a_nil)) (g_tup (is := [2, 3]) rfl (gs_cons (i := 2) nd (gs_cons (i := 3) nd gs_nil)))
      (s_one (s_if (t_cmp (o_eq hr.units) (dv 2) d_int)
      (s_one (s_expr (d_bm PySem.F.plainAttrs_list PySem.F.slot_list_append PySem.F.type_list_append m_append (dv 1) (a_cons (d_op o_mod (dv 3) d_int) a_nil))))
      (s_cons (s_set (i := 4) nd (d_call C_lowest_unlike (hr.mono (by decide)) (a_cons (dv 3) (a_cons (d_ix (dv 0) (d_op o_sub (dv 2) d_int)) a_nil))))
      (s_one (s_expr (d_bm PySem.F.plainAttrs_list PySem.F.slot_list_append PySem.F.type_list_append m_append (dv 1) (a_cons (d_op (o_add false) (d_op (o_mul false) d_int (dv 4)) (d_op o_mod (d_op o_shr (dv 3) (dv 4)) d_int)) a_nil))))))))
      (s_one (s_ret (dv 1)))))) (ok_turned K)
theorem w_labels {f : Addr} {fd : FuncData} (F : FunD K "labels" "labels" (defArgs s_labels) (defBody s_labels) (defScope s_labels) [] [] f fd) (T : Txt K mg CS) (C_code : Cal P w K mg base "code" 1 (asp_code)) (C_turned : Cal P w K mg base "turned" 2 (asp_turned)) : FnOk P w K mg base CX0 3 f fd ["entries"] (upSp K (asp_labels)) := by
  have nd := sc_labels.nd
  exact fn_ok F sc_labels (fun ds μ q h => by unfold asp_labels at h; repeat first | (obtain ⟨rfl, _⟩ := h; rfl) | (obtain ⟨_, h⟩ := h)) (rd_labels) (fun cdv A outer s H E hr => (s_cons (s_setLc (i := 1) (own := false) (ow := [("entry", 2)]) (gv := (gName 2)) rfl nd (i_it (dv 0)) (blkOk_by (N := nm_labels) (sc := (defScope s_labels)) (own := [("entry", 2)]) (by decide +kernel)) (tg_name (by decide)) (fun _ _ _ _ _ => pg_name (i := 2) nd rfl (Or.inl rfl)) (fun _ _ _ _ _ => ts_nil) (fun _ _ _ _ _ => (d_call C_code (hr.mono (by decide)) (a_cons (dv 2) a_nil))))
      (s_cons (s_for PassesOwn.never rfl (i_rng1 T.n_range (a_cons (d_gint T.ROUNDS) a_nil)) (g_name (i := 3) nd)
      (s_one (s_set (i := 1) nd (d_call C_turned (hr.mono (by decide)) (a_cons (dv 1) a_nil)))))
      (s_one (s_ret (dv 1)))))) (ok_labels K)
theorem w_marks {f : Addr} {fd : FuncData} (F : FunD K "marks" "marks" (defArgs s_marks) (defBody s_marks) (defScope s_marks) [] [] f fd) (T : Txt K mg CS) (C_colours : Cal P w K mg base "colours" 2 (asp_colours)) (C_labels : Cal P w K mg base "labels" 3 (asp_labels)) (C_neighbours_of : Cal P w K mg base "neighbours_of" 1 (asp_neighbours_of)) : FnOk P w K mg base CX0 4 f fd ["entries"] (upSp K (asp_marks)) := by
  have nd := sc_marks.nd
  exact fn_ok F sc_marks (fun ds μ q h => by unfold asp_marks at h; repeat first | (obtain ⟨rfl, _⟩ := h; rfl) | (obtain ⟨_, h⟩ := h)) (rd_marks) (fun cdv A outer s H E hr => (s_cons (s_set (i := 1) nd (d_call C_colours (hr.mono (by decide)) (a_cons (d_call C_labels (hr.mono (by decide)) (a_cons (dv 0) a_nil)) a_nil)))
      (s_cons (s_setLc (i := 2) (own := true) (ow := [("entry", 3)]) (gv := (gName 3)) rfl nd (i_it (dv 0)) (blkOk_by (N := nm_marks) (sc := (defScope s_marks)) (own := [("entry", 3)]) (by decide +kernel)) (tg_name (by decide)) (fun _ _ _ _ _ => pg_name (i := 3) nd rfl (Or.inl rfl)) (fun _ _ _ _ _ => ts_nil) (fun _ _ _ _ _ => d_bl))
      (s_cons (s_for PassesOwn.never rfl (i_it (d_tup (a_cons d_int (a_cons d_int (a_cons d_int a_nil))))) (g_name (i := 4) nd)
      (s_one (s_for PassesOwn.never rfl (i_rng2 T.n_range (a_cons d_int (a_cons (d_callB c_len T.n_len bb_len (a_cons (dv 0) a_nil)) a_nil))) (g_name (i := 5) nd)
      (s_one (s_if (PW.pt (w_and (t_cmp (o_eq hr.units) (d_ix (dv 1) (dv 5)) (dv 4)) (w_and1 (t_not (t_truth (d_callB (c_any rfl) T.n_any bb_any (a_cons (d_call C_neighbours_of (hr.mono (by decide)) (a_cons (dv 2) (a_cons (dv 5) a_nil))) a_nil)))))))
      (s_one (s_asg d_bl (g_sub (dv 2) (dv 5))))
      s_nil)))))
      (s_one (s_ret (dv 2))))))) (ok_marks K)
theorem w_handed {f : Addr} {fd : FuncData} (F : FunD K "handed" "handed" (defArgs s_handed) (defBody s_handed) (defScope s_handed) [] [] f fd) (T : Txt K mg CS) (C_marks : Cal P w K mg base "marks" 4 (asp_marks)) : FnOk P w K mg base CX0 5 f fd ["entries"] (upSp K (asp_handed)) := by
  have nd := sc_handed.nd
  exact fn_ok F sc_handed (fun ds μ q h => by unfold asp_handed at h; repeat first | (obtain ⟨rfl, _⟩ := h; rfl) | (obtain ⟨_, h⟩ := h)) (rd_handed) (fun cdv A outer s H E hr => (s_one (s_ret (d_lc (own := false) (ow := [("entry", 1), ("is_on", 2)]) (gv := (gTup _ 2 (gNames [1, 2]))) rfl nd (i_zip T.n_zip (a_cons (dv 0) (a_cons (d_call C_marks (hr.mono (by decide)) (a_cons (dv 0) a_nil)) a_nil))) (blkOk_by (N := nm_handed) (sc := (defScope s_handed)) (own := [("entry", 1), ("is_on", 2)]) (by decide +kernel)) (tg_tup (is := [1, 2]) (by decide)) (fun _ _ _ _ _ => (pg_tup rfl (gs_cons (i := 1) nd (gs_cons (i := 2) nd gs_nil)))) (fun _ _ _ _ _ => ts_one (t_truth (dv 2))) (fun _ _ _ _ _ => (dv 1)))))) (ok_handed K)
theorem w_put_between {f : Addr} {fd : FuncData} (F : FunD K "put_between" "put_between" (defArgs s_put_between) (defBody s_put_between) (defScope s_put_between) [] [] f fd) (T : Txt K mg CS) : FnOk P w K mg base CX0 1 f fd ["one", "other"] (upSp K (asp_put_between)) := by
  have nd := sc_put_between.nd
  exact fn_ok F sc_put_between (fun ds μ q h => by unfold asp_put_between at h; repeat first | (obtain ⟨rfl, _⟩ := h; rfl) | (obtain ⟨_, h⟩ := h)) (rd_put_between) (fun cdv A outer s H E hr => (s_cons (s_set (i := 2) nd (d_lst true a_nil))
      (s_cons (s_set (i := 3) nd d_int)
      (s_cons (s_for PassesOwn.never rfl (i_it (dv 0)) (g_name (i := 4) nd)
      (s_cons (s_while PassesOwn.never (PW.pt (w_and (t_cmp (o_lt hr.units0) (dv 3) (d_callB c_len T.n_len bb_len (a_cons (dv 1) a_nil))) (w_and1 (t_cmp (o_lt hr.units0) (d_ix (dv 1) (dv 3)) (dv 4)))))
      (s_cons (s_expr (d_bm PySem.F.plainAttrs_list PySem.F.slot_list_append PySem.F.type_list_append m_append (dv 2) (a_cons (d_ix (dv 1) (dv 3)) a_nil)))
      (s_one (s_set (i := 3) nd (d_op (o_add false) (dv 3) d_int)))))
      (s_one (s_expr (d_bm PySem.F.plainAttrs_list PySem.F.slot_list_append PySem.F.type_list_append m_append (dv 2) (a_cons (dv 4) a_nil))))))
      (s_one (s_ret (d_op (o_add false) (dv 2) (d_slice false (dv 1) (o_some (dv 3)) o_none)))))))) (ok_put_between K)
theorem w_joined_up {f : Addr} {fd : FuncData} (F : FunD K "joined_up" "joined_up" (defArgs s_joined_up) (defBody s_joined_up) (defScope s_joined_up) [] [] f fd) (T : Txt K mg CS) (C_put_between : Cal P w K mg base "put_between" 1 (asp_put_between)) : FnOk P w K mg base CX0 2 f fd ["lists"] (upSp K (asp_joined_up)) := by
  have nd := sc_joined_up.nd
  exact fn_ok F sc_joined_up (fun ds μ q h => by unfold asp_joined_up at h; repeat first | (obtain ⟨rfl, _⟩ := h; rfl) | (obtain ⟨_, h⟩ := h)) (rd_joined_up) (fun cdv A outer s H E hr => (s_cons (s_set (i := 1) nd (d_lst false a_nil))
      (s_cons (s_for PassesOwn.never rfl (i_it (dv 0)) (g_name (i := 2) nd)
      (s_one (s_set (i := 1) nd (d_call C_put_between (hr.mono (by decide)) (a_cons (dv 1) (a_cons (d_callTy (c_list rfl false) T.n_list bb_list (a_cons (dv 2) a_nil)) a_nil))))))
      (s_one (s_ret (dv 1)))))) (ok_joined_up K)
theorem w_own_entries {f : Addr} {fd : FuncData} (F : FunD K "own_entries" "own_entries" (defArgs s_own_entries) (defBody s_own_entries) (defScope s_own_entries) [] [] f fd) (T : Txt K mg CS) : FnOk P w K mg base CX0 1 f fd ["stand", "knot"] (upSp K (asp_own_entries)) := by
  have nd := sc_own_entries.nd
  exact fn_ok F sc_own_entries (fun ds μ q h => by unfold asp_own_entries at h; repeat first | (obtain ⟨rfl, _⟩ := h; rfl) | (obtain ⟨_, h⟩ := h)) (rd_own_entries) (fun cdv A outer s H E hr => (s_one (s_ret (d_lc (own := false) (ow := [("key", 2)]) (gv := (gName 2)) rfl nd (i_it (d_ix (d_ix (dv 0) d_int) (dv 1))) (blkOk_by (N := nm_own_entries) (sc := (defScope s_own_entries)) (own := [("key", 2)]) (by decide +kernel)) (tg_name (by decide)) (fun _ _ _ _ _ => pg_name (i := 2) nd rfl (Or.inl rfl)) (fun _ _ _ _ _ => ts_nil) (fun _ _ _ _ _ => (d_tup (a_cons (dv 2) (a_cons (dv 1) a_nil)))))))) (ok_own_entries K)
theorem w_full_rows {f : Addr} {fd : FuncData} (F : FunD K "full_rows" "full_rows" (defArgs s_full_rows) (defBody s_full_rows) (defScope s_full_rows) [] [] f fd) (T : Txt K mg CS) (C_children : Cal P w K mg base "children" 1 (asp_children)) (C_handed : Cal P w K mg base "handed" 5 (asp_handed)) (C_joined_up : Cal P w K mg base "joined_up" 2 (asp_joined_up)) (C_own_entries : Cal P w K mg base "own_entries" 1 (asp_own_entries)) : FnOk P w K mg base CX0 6 f fd ["stand"] (upSp K (asp_full_rows)) := by
  have nd := sc_full_rows.nd
  exact fn_ok F sc_full_rows (fun ds μ q h => by unfold asp_full_rows at h; repeat first | (obtain ⟨rfl, _⟩ := h; rfl) | (obtain ⟨_, h⟩ := h)) (rd_full_rows) (fun cdv A outer s H E hr => (s_cons (s_set (i := 1) nd (d_ix (dv 0) d_int))
      (s_cons (s_set (i := 2) nd d_dnew)
      (s_cons (s_for PassesOwn.never rfl (i_revR1 T.n_reversed T.n_range (d_callB c_len T.n_len bb_len (a_cons (dv 1) a_nil))) (g_name (i := 3) nd)
      (s_cons (s_setLc (i := 4) (own := false) (ow := [("child", 5)]) (gv := (gName 5)) rfl nd (i_it (d_call C_children (hr.mono (by decide)) (a_cons (dv 1) (a_cons (dv 3) a_nil)))) (blkOk_by (N := nm_full_rows) (sc := (defScope s_full_rows)) (own := [("child", 5)]) (by decide +kernel)) (tg_name (by decide)) (fun _ _ _ _ _ => pg_name (i := 5) nd rfl (Or.inl rfl)) (fun _ _ _ _ _ => ts_nil) (fun _ _ _ _ _ => (d_call C_handed (hr.mono (by decide)) (a_cons (d_dget (room1 hr) (dv 2) (dv 5)) a_nil))))
      (s_one (s_dput (room1 hr) (dv 2) (dv 3) (d_call C_joined_up (hr.mono (by decide)) (a_cons (d_op (o_add false) (d_lst false (a_cons (d_call C_own_entries (hr.mono (by decide)) (a_cons (dv 0) (a_cons (dv 3) a_nil))) a_nil)) (dv 4)) a_nil))))))
      (s_one (s_ret (d_lc (own := true) (ow := [("knot", 3)]) (gv := (gName 3)) rfl nd (i_rng1 T.n_range (a_cons (d_callB c_len T.n_len bb_len (a_cons (dv 1) a_nil)) a_nil)) (blkOk_by (N := nm_full_rows) (sc := (defScope s_full_rows)) (own := [("knot", 3)]) (by decide +kernel)) (tg_name (by decide)) (fun _ _ _ _ _ => pg_name (i := 3) nd rfl (Or.inl rfl)) (fun _ _ _ _ _ => ts_nil) (fun _ _ _ _ _ => (d_dget (room1 hr) (dv 2) (dv 3)))))))))) (ok_full_rows K)
theorem w_is_key {f : Addr} {fd : FuncData} (F : FunD K "is_key" "is_key" (defArgs s_is_key) (defBody s_is_key) (defScope s_is_key) [] [] f fd) (T : Txt K mg CS) : FnOk P w K mg base CX0 1 f fd ["thing"] (upSp K (asp_is_key)) := by
  have nd := sc_is_key.nd
  exact fn_ok F sc_is_key (fun ds μ q h => by unfold asp_is_key at h; repeat first | (obtain ⟨rfl, _⟩ := h; rfl) | (obtain ⟨_, h⟩ := h)) (rd_is_key) (fun cdv A outer s H E hr => (s_one (s_ret (d_and (d_callB c_isi T.n_isinstance bb_isinstance (a_cons (dv 0) (a_cons (d_ty T.n_int bb_int) a_nil))) (d_and (d_not (d_callB c_isi T.n_isinstance bb_isinstance (a_cons (dv 0) (a_cons (d_ty T.n_bool bb_bool) a_nil)))) (d_one (d_cmp (o_lt hr.units0) (d_callB c_abs T.n_abs bb_abs (a_cons (dv 0) a_nil)) (d_gint T.TOO_GREAT)))))))) (ok_is_key K)
theorem w_row_of {f : Addr} {fd : FuncData} (F : FunD K "row_of" "row_of" (defArgs s_row_of) (defBody s_row_of) (defScope s_row_of) [] [] f fd) (T : Txt K mg CS) (C_is_key : Cal P w K mg base "is_key" 1 (asp_is_key)) : FnOk P w K mg base CX0 2 f fd ["thing"] (upSp K (asp_row_of)) := by
  have nd := sc_row_of.nd
  exact fn_ok F sc_row_of (fun ds μ q h => by unfold asp_row_of at h; repeat first | (obtain ⟨rfl, _⟩ := h; rfl) | (obtain ⟨_, h⟩ := h)) (rd_row_of) (fun cdv A outer s H E hr => (s_cons (s_if (PW.pt (w_or (t_not (t_truth (d_callB c_isi T.n_isinstance bb_isinstance (a_cons (dv 0) (a_cons (d_tup (a_cons (d_ty T.n_list bb_list) (a_cons (d_ty T.n_tuple bb_tuple) a_nil))) a_nil))))) (w_or1 (t_not (t_truth (d_callB (c_all rfl) T.n_all bb_all (a_cons (d_lc (own := false) (ow := [("key", 1)]) (gv := (gName 1)) rfl nd (i_it (dv 0)) (blkOk_by (N := nm_row_of) (sc := (defScope s_row_of)) (own := [("key", 1)]) (by decide +kernel)) (tg_name (by decide)) (fun _ _ _ _ _ => pg_name (i := 1) nd rfl (Or.inl rfl)) (fun _ _ _ _ _ => ts_nil) (fun _ _ _ _ _ => (d_call C_is_key (hr.mono (by decide)) (a_cons (dv 1) a_nil)))) a_nil)))))))
      (s_one s_never)
      s_nil)
      (s_cons (s_if (t_cmp (o_ne hr.units) (d_lenSet T.n_len T.n_set (dv 0)) (d_callB c_len T.n_len bb_len (a_cons (dv 0) a_nil)))
      (s_one s_never)
      s_nil)
      (s_one (s_ret (d_callTy c_tuple T.n_tuple bb_tuple (a_cons (d_callB (c_sort false) T.n_sorted bb_sorted (a_cons (dv 0) a_nil)) a_nil))))))) (ok_row_of K)
theorem w_stand_of {f : Addr} {fd : FuncData} (F : FunD K "stand_of" "stand_of" (defArgs s_stand_of) (defBody s_stand_of) (defScope s_stand_of) [] [] f fd) (T : Txt K mg CS) (C_row_of : Cal P w K mg base "row_of" 2 (asp_row_of)) : FnOk P w K mg base CX0 3 f fd ["tree", "rows"] (upSp K (asp_stand_of)) := by
  have nd := sc_stand_of.nd
  exact fn_ok F sc_stand_of (fun ds μ q h => by unfold asp_stand_of at h; repeat first | (obtain ⟨rfl, _⟩ := h; rfl) | (obtain ⟨_, h⟩ := h)) (rd_stand_of) (fun cdv A outer s H E hr => (s_cons (s_if (PW.pt (w_or (t_not (t_truth (d_callB c_isi T.n_isinstance bb_isinstance (a_cons (dv 1) (a_cons (d_tup (a_cons (d_ty T.n_list bb_list) (a_cons (d_ty T.n_tuple bb_tuple) a_nil))) a_nil))))) (w_or1 (t_cmp (o_ne hr.units) (d_callB c_len T.n_len bb_len (a_cons (dv 1) a_nil)) (d_callB c_len T.n_len bb_len (a_cons (dv 0) a_nil))))))
      (s_one s_never)
      s_nil)
      (s_cons (s_set (i := 2) nd (d_callTy c_tuple T.n_tuple bb_tuple (a_cons (d_lc (own := false) (ow := [("row", 3)]) (gv := (gName 3)) rfl nd (i_it (dv 1)) (blkOk_by (N := nm_stand_of) (sc := (defScope s_stand_of)) (own := [("row", 3)]) (by decide +kernel)) (tg_name (by decide)) (fun _ _ _ _ _ => pg_name (i := 3) nd rfl (Or.inl rfl)) (fun _ _ _ _ _ => ts_nil) (fun _ _ _ _ _ => (d_call C_row_of (hr.mono (by decide)) (a_cons (dv 3) a_nil)))) a_nil)))
      (s_cons (s_if (t_cmp o_gt (d_callB (c_sum rfl) T.n_sum bb_sum (a_cons (d_lc (own := false) (ow := [("row", 3)]) (gv := (gName 3)) rfl nd (i_it (dv 2)) (blkOk_by (N := nm_stand_of) (sc := (defScope s_stand_of)) (own := [("row", 3)]) (by decide +kernel)) (tg_name (by decide)) (fun _ _ _ _ _ => pg_name (i := 3) nd rfl (Or.inl rfl)) (fun _ _ _ _ _ => ts_nil) (fun _ _ _ _ _ => (d_callB c_len T.n_len bb_len (a_cons (dv 3) a_nil)))) a_nil)) (d_gint T.MOST_KEYS))
      (s_one s_never)
      s_nil)
      (s_one (s_ret (d_tup (a_cons (dv 0) (a_cons (dv 2) a_nil))))))))) (ok_stand_of K)
theorem w_is_whole {f : Addr} {fd : FuncData} (F : FunD K "is_whole" "is_whole" (defArgs s_is_whole) (defBody s_is_whole) (defScope s_is_whole) [] [] f fd) (T : Txt K mg CS) : FnOk P w K mg base CX0 1 f fd ["thing"] (upSp K (asp_is_whole)) := by
  have nd := sc_is_whole.nd
  exact fn_ok F sc_is_whole (fun ds μ q h => by unfold asp_is_whole at h; repeat first | (obtain ⟨rfl, _⟩ := h; rfl) | (obtain ⟨_, h⟩ := h)) (rd_is_whole) (fun cdv A outer s H E hr => (s_one (s_ret (d_and (d_callB c_isi T.n_isinstance bb_isinstance (a_cons (dv 0) (a_cons (d_ty T.n_int bb_int) a_nil))) (d_one (d_not (d_callB c_isi T.n_isinstance bb_isinstance (a_cons (dv 0) (a_cons (d_ty T.n_bool bb_bool) a_nil))))))))) (ok_is_whole K)
theorem w_tree_of {f : Addr} {fd : FuncData} (F : FunD K "tree_of" "tree_of" (defArgs s_tree_of) (defBody s_tree_of) (defScope s_tree_of) [] [] f fd) (T : Txt K mg CS) (C_is_whole : Cal P w K mg base "is_whole" 1 (asp_is_whole)) : FnOk P w K mg base CX0 2 f fd ["parents"] (upSp K (asp_tree_of)) := by
  have nd := sc_tree_of.nd
  exact fn_ok F sc_tree_of (fun ds μ q h => by unfold asp_tree_of at h; repeat first | (obtain ⟨rfl, _⟩ := h; rfl) | (obtain ⟨_, h⟩ := h)) (rd_tree_of) (fun cdv A outer s H E hr => (s_cons (s_if (PW.pt (w_or (t_not (t_truth (d_callB c_isi T.n_isinstance bb_isinstance (a_cons (dv 0) (a_cons (d_tup (a_cons (d_ty T.n_list bb_list) (a_cons (d_ty T.n_tuple bb_tuple) a_nil))) a_nil))))) (w_or (t_not (t_chain o_le o_le d_int (d_callB c_len T.n_len bb_len (a_cons (dv 0) a_nil)) (d_gint T.MOST_KNOTS))) (w_or1 (t_cmp o_isnot (d_ix (dv 0) d_int) d_non)))))
      (s_one s_never)
      s_nil)
      (s_cons (s_for PassesOwn.never rfl (i_rng2 T.n_range (a_cons d_int (a_cons (d_callB c_len T.n_len bb_len (a_cons (dv 0) a_nil)) a_nil))) (g_name (i := 1) nd)
      (s_one (s_if (PW.pt (w_or (t_not (t_truth (d_call C_is_whole (hr.mono (by decide)) (a_cons (d_ix (dv 0) (dv 1)) a_nil)))) (w_or1 (t_not (t_chain o_le (o_lt hr.units0) d_int (d_ix (dv 0) (dv 1)) (dv 1))))))
      (s_one s_never)
      s_nil)))
      (s_one (s_ret (d_callTy c_tuple T.n_tuple bb_tuple (a_cons (dv 0) a_nil))))))) (ok_tree_of K)
theorem w_Shelf_init {f : Addr} {fd : FuncData} (F : FunD K "__init__" "Shelf.__init__" (defArgs s_Shelf_init) (defBody s_Shelf_init) (defScope s_Shelf_init) [] [] f fd) (T : Txt K mg CS) (C_full_rows : Cal P w K mg base "full_rows" 6 (asp_full_rows)) : FnOk P w K mg base CX0 7 f fd ["self", "stand"] (upSp K (asp_Shelf_init CS)) := by
  have nd := sc_Shelf_init.nd
  exact fn_ok F sc_Shelf_init (fun ds μ q h => by unfold asp_Shelf_init at h; repeat first | (obtain ⟨rfl, _⟩ := h; rfl) | (obtain ⟨_, h⟩ := h)) (rd_Shelf_init CS) (fun cdv A outer s H E hr => (s_cons (s_fld T.cl_CS T.na_tree (dv 0) (d_callTy (c_list rfl true) T.n_list bb_list (a_cons (d_ix (dv 1) d_int) a_nil)))
      (s_cons (s_fld T.cl_CS T.na_rows (dv 0) (d_lc (own := true) (ow := [("row", 2)]) (gv := (gName 2)) rfl nd (i_it (d_ix (dv 1) d_int)) (blkOk_by (N := nm_Shelf_init) (sc := (defScope s_Shelf_init)) (own := [("row", 2)]) (by decide +kernel)) (tg_name (by decide)) (fun _ _ _ _ _ => pg_name (i := 2) nd rfl (Or.inl rfl)) (fun _ _ _ _ _ => ts_nil) (fun _ _ _ _ _ => (d_callTy (c_list rfl false) T.n_list bb_list (a_cons (dv 2) a_nil)))))
      (s_one (s_fld T.cl_CS T.na_fulls (dv 0) (d_call C_full_rows (hr.mono (by decide)) (a_cons (dv 1) a_nil))))))) (ok_Shelf_init K CS)
theorem w_Shelf_ask_knot {f : Addr} {fd : FuncData} (F : FunD K "ask_knot" "Shelf.ask_knot" (defArgs s_Shelf_ask_knot) (defBody s_Shelf_ask_knot) (defScope s_Shelf_ask_knot) [] [] f fd) (T : Txt K mg CS) : FnOk P w K mg base CX0 1 f fd ["self", "knot"] (upSp K (asp_Shelf_ask_knot CS)) := by
  have nd := sc_Shelf_ask_knot.nd
  exact fn_ok F sc_Shelf_ask_knot (fun ds μ q h => by unfold asp_Shelf_ask_knot at h; repeat first | (obtain ⟨rfl, _⟩ := h; rfl) | (obtain ⟨_, h⟩ := h)) (rd_Shelf_ask_knot CS) (fun cdv A outer s H E hr => (s_one (s_if (PW.pt (w_or (t_not (t_truth (d_callB c_isi T.n_isinstance bb_isinstance (a_cons (dv 1) (a_cons (d_ty T.n_int bb_int) a_nil))))) (w_or (t_truth (d_callB c_isi T.n_isinstance bb_isinstance (a_cons (dv 1) (a_cons (d_ty T.n_bool bb_bool) a_nil)))) (w_or1 (t_not (t_chain o_le (o_lt hr.units0) d_int (dv 1) (d_callB c_len T.n_len bb_len (a_cons (d_fld T.cl_CS T.na_tree (dv 0)) a_nil))))))))
      (s_one s_never)
      s_nil))) (ok_Shelf_ask_knot K CS)
theorem w_Shelf_full {f : Addr} {fd : FuncData} (F : FunD K "full" "Shelf.full" (defArgs s_Shelf_full) (defBody s_Shelf_full) (defScope s_Shelf_full) [] [] f fd) (T : Txt K mg CS) (C_Shelf_ask_knot : CalM P w K mg base CS "ask_knot" 1 (asp_Shelf_ask_knot CS)) : FnOk P w K mg base CX0 2 f fd ["self", "knot"] (upSp K (asp_Shelf_full CS)) := by
  have nd := sc_Shelf_full.nd
  exact fn_ok F sc_Shelf_full (fun ds μ q h => by unfold asp_Shelf_full at h; repeat first | (obtain ⟨rfl, _⟩ := h; rfl) | (obtain ⟨_, h⟩ := h)) (rd_Shelf_full CS) (fun cdv A outer s H E hr => (s_cons (s_expr (d_meth C_Shelf_ask_knot (hr.mono (by decide)) (dv 0) (a_cons (dv 1) a_nil)))
      (s_one (s_ret (d_callTy (c_list rfl true) T.n_list bb_list (a_cons (d_ix (d_fld T.cl_CS T.na_fulls (dv 0)) (dv 1)) a_nil)))))) (ok_Shelf_full K CS)
theorem w_less {f : Addr} {fd : FuncData} (F : FunD K "less" "less" (defArgs s_less) (defBody s_less) (defScope s_less) [] [] f fd) (T : Txt K mg CS) : FnOk P w K mg base CX0 1 f fd ["entries", "gone"] (upSp K (asp_less)) := by
  have nd := sc_less.nd
  exact fn_ok F sc_less (fun ds μ q h => by unfold asp_less at h; rcases h with h | h <;> (repeat first | (obtain ⟨rfl, _⟩ := h; rfl) | (obtain ⟨_, h⟩ := h))) (rd_less) (fun cdv A outer s H E hr => (s_one (s_ret (d_lc (own := false) (ow := [("entry", 2)]) (gv := (gName 2)) rfl nd (i_it (dv 0)) (blkOk_by (N := nm_less) (sc := (defScope s_less)) (own := [("entry", 2)]) (by decide +kernel)) (tg_name (by decide)) (fun _ _ _ _ _ => pg_name (i := 2) nd rfl (Or.inl rfl)) (fun _ _ _ _ _ => ts_one (t_cmp (o_notin (room65 hr)) (dv 2) (dv 1))) (fun _ _ _ _ _ => (dv 2)))))) (ok_less K)
theorem w_Shelf_changed {f : Addr} {fd : FuncData} (F : FunD K "changed" "Shelf.changed" (defArgs s_Shelf_changed) (defBody s_Shelf_changed) (defScope s_Shelf_changed) [] [] f fd) (T : Txt K mg CS) (C_handed : Cal P w K mg base "handed" 5 (asp_handed)) (C_less : Cal P w K mg base "less" 1 (asp_less)) : FnOk P w K mg base CX0 6 f fd ["self", "knot", "gone", "come"] (upSp K (asp_Shelf_changed CS)) := by
  have nd := sc_Shelf_changed.nd
  exact fn_ok F sc_Shelf_changed (fun ds μ q h => by unfold asp_Shelf_changed at h; repeat first | (obtain ⟨rfl, _⟩ := h; rfl) | (obtain ⟨_, h⟩ := h)) (rd_Shelf_changed CS) (fun cdv A outer s H E hr => (s_cons (s_set (i := 4) nd (d_lst true a_nil))
      (s_cons (s_while PassesOwn.never (PW.pt (w_and (t_cmp o_isnot (dv 1) d_non) (w_and1 (PW.pt (w_or (t_cmp (o_ne hr.units) (dv 2) (d_lst false a_nil)) (w_or1 (t_cmp (o_ne hr.units) (dv 3) (d_lst false a_nil))))))))
      (s_cons (s_expr (d_bm PySem.F.plainAttrs_list PySem.F.slot_list_append PySem.F.type_list_append m_append (dv 4) (a_cons (d_tup (a_cons (dv 1) (a_cons (dv 2) (a_cons (dv 3) a_nil)))) a_nil)))
      (s_cons (s_set (i := 5) nd (d_call C_handed (hr.mono (by decide)) (a_cons (d_ix (d_fld T.cl_CS T.na_fulls (dv 0)) (dv 1)) a_nil)))
      (s_cons (s_asg (d_callB (c_sort false) T.n_sorted bb_sorted (a_cons (d_op (o_add false) (d_call C_less (hr.mono (by decide)) (a_cons (d_ix (d_fld T.cl_CS T.na_fulls (dv 0)) (dv 1)) (a_cons (dv 2) a_nil))) (dv 3)) a_nil)) (g_sub (d_fld T.cl_CS T.na_fulls (dv 0)) (dv 1)))
      (s_cons (s_set (i := 6) nd (d_call C_handed (hr.mono (by decide)) (a_cons (d_ix (d_fld T.cl_CS T.na_fulls (dv 0)) (dv 1)) a_nil)))
      (s_cons (s_set (i := 2) nd (d_call C_less (hr.mono (by decide)) (a_cons (dv 5) (a_cons (dv 6) a_nil))))
      (s_cons (s_set (i := 3) nd (d_call C_less (hr.mono (by decide)) (a_cons (dv 6) (a_cons (dv 5) a_nil))))
      (s_one (s_set (i := 1) nd (d_ix (d_fld T.cl_CS T.na_tree (dv 0)) (dv 1)))))))))))
      (s_one (s_ret (dv 4)))))) (ok_Shelf_changed K CS)
theorem w_Shelf_out {f : Addr} {fd : FuncData} (F : FunD K "out" "Shelf.out" (defArgs s_Shelf_out) (defBody s_Shelf_out) (defScope s_Shelf_out) [] [] f fd) (T : Txt K mg CS) (C_is_key : Cal P w K mg base "is_key" 1 (asp_is_key)) (C_less : Cal P w K mg base "less" 1 (asp_less)) (C_Shelf_ask_knot : CalM P w K mg base CS "ask_knot" 1 (asp_Shelf_ask_knot CS)) (C_Shelf_changed : CalM P w K mg base CS "changed" 6 (asp_Shelf_changed CS)) : FnOk P w K mg base CX0 7 f fd ["self", "knot", "key"] (upSp K (asp_Shelf_out CS)) := by
  have nd := sc_Shelf_out.nd
  exact fn_ok F sc_Shelf_out (fun ds μ q h => by unfold asp_Shelf_out at h; repeat first | (obtain ⟨rfl, _⟩ := h; rfl) | (obtain ⟨_, h⟩ := h)) (rd_Shelf_out CS) (fun cdv A outer s H E hr => (s_cons (s_expr (d_meth C_Shelf_ask_knot (hr.mono (by decide)) (dv 0) (a_cons (dv 1) a_nil)))
      (s_cons (s_if (t_not (t_truth (d_call C_is_key (hr.mono (by decide)) (a_cons (dv 2) a_nil))))
      (s_one s_never)
      s_nil)
      (s_cons (s_if (t_cmp (o_notin (room65 hr)) (dv 2) (d_ix (d_fld T.cl_CS T.na_rows (dv 0)) (dv 1)))
      (s_one s_never)
      s_nil)
      (s_cons (s_asg (d_call C_less (hr.mono (by decide)) (a_cons (d_ix (d_fld T.cl_CS T.na_rows (dv 0)) (dv 1)) (a_cons (d_lst false (a_cons (dv 2) a_nil)) a_nil))) (g_sub (d_fld T.cl_CS T.na_rows (dv 0)) (dv 1)))
      (s_one (s_ret (d_meth C_Shelf_changed (hr.mono (by decide)) (dv 0) (a_cons (dv 1) (a_cons (d_lst false (a_cons (d_tup (a_cons (dv 2) (a_cons (dv 1) a_nil))) a_nil)) (a_cons (d_lst false a_nil) a_nil))))))))))) (ok_Shelf_out K CS)
theorem w_Shelf_put {f : Addr} {fd : FuncData} (F : FunD K "put" "Shelf.put" (defArgs s_Shelf_put) (defBody s_Shelf_put) (defScope s_Shelf_put) [] [] f fd) (T : Txt K mg CS) (C_is_key : Cal P w K mg base "is_key" 1 (asp_is_key)) (C_Shelf_ask_knot : CalM P w K mg base CS "ask_knot" 1 (asp_Shelf_ask_knot CS)) (C_Shelf_changed : CalM P w K mg base CS "changed" 6 (asp_Shelf_changed CS)) : FnOk P w K mg base CX0 7 f fd ["self", "knot", "key"] (upSp K (asp_Shelf_put CS)) := by
  have nd := sc_Shelf_put.nd
  exact fn_ok F sc_Shelf_put (fun ds μ q h => by unfold asp_Shelf_put at h; repeat first | (obtain ⟨rfl, _⟩ := h; rfl) | (obtain ⟨_, h⟩ := h)) (rd_Shelf_put CS) (fun cdv A outer s H E hr => (s_cons (s_expr (d_meth C_Shelf_ask_knot (hr.mono (by decide)) (dv 0) (a_cons (dv 1) a_nil)))
      (s_cons (s_if (t_not (t_truth (d_call C_is_key (hr.mono (by decide)) (a_cons (dv 2) a_nil))))
      (s_one s_never)
      s_nil)
      (s_cons (s_if (t_cmp (o_in (room65 hr)) (dv 2) (d_ix (d_fld T.cl_CS T.na_rows (dv 0)) (dv 1)))
      (s_one s_never)
      s_nil)
      (s_cons (s_if (t_cmp o_ge (d_callB (c_sum rfl) T.n_sum bb_sum (a_cons (d_lc (own := false) (ow := [("row", 3)]) (gv := (gName 3)) rfl nd (i_it (d_fld T.cl_CS T.na_rows (dv 0))) (blkOk_by (N := nm_Shelf_put) (sc := (defScope s_Shelf_put)) (own := [("row", 3)]) (by decide +kernel)) (tg_name (by decide)) (fun _ _ _ _ _ => pg_name (i := 3) nd rfl (Or.inl rfl)) (fun _ _ _ _ _ => ts_nil) (fun _ _ _ _ _ => (d_callB c_len T.n_len bb_len (a_cons (dv 3) a_nil)))) a_nil)) (d_gint T.MOST_KEYS))
      (s_one s_never)
      s_nil)
      (s_cons (s_asg (d_callB (c_sort false) T.n_sorted bb_sorted (a_cons (d_op (o_add false) (d_ix (d_fld T.cl_CS T.na_rows (dv 0)) (dv 1)) (d_lst false (a_cons (dv 2) a_nil))) a_nil)) (g_sub (d_fld T.cl_CS T.na_rows (dv 0)) (dv 1)))
      (s_one (s_ret (d_meth C_Shelf_changed (hr.mono (by decide)) (dv 0) (a_cons (dv 1) (a_cons (d_lst false a_nil) (a_cons (d_lst false (a_cons (d_tup (a_cons (dv 2) (a_cons (dv 1) a_nil))) a_nil)) a_nil)))))))))))) (ok_Shelf_put K CS)
theorem w_Shelf_stand {f : Addr} {fd : FuncData} (F : FunD K "stand" "Shelf.stand" (defArgs s_Shelf_stand) (defBody s_Shelf_stand) (defScope s_Shelf_stand) [] [] f fd) (T : Txt K mg CS) : FnOk P w K mg base CX0 1 f fd ["self"] (upSp K (asp_Shelf_stand CS)) := by
  have nd := sc_Shelf_stand.nd
  exact fn_ok F sc_Shelf_stand (fun ds μ q h => by unfold asp_Shelf_stand at h; repeat first | (obtain ⟨rfl, _⟩ := h; rfl) | (obtain ⟨_, h⟩ := h)) (rd_Shelf_stand CS) (fun cdv A outer s H E hr => (s_one (s_ret (d_tup (a_cons (d_callTy c_tuple T.n_tuple bb_tuple (a_cons (d_fld T.cl_CS T.na_tree (dv 0)) a_nil)) (a_cons (d_callTy c_tuple T.n_tuple bb_tuple (a_cons (d_lc (own := false) (ow := [("row", 1)]) (gv := (gName 1)) rfl nd (i_it (d_fld T.cl_CS T.na_rows (dv 0))) (blkOk_by (N := nm_Shelf_stand) (sc := (defScope s_Shelf_stand)) (own := [("row", 1)]) (by decide +kernel)) (tg_name (by decide)) (fun _ _ _ _ _ => pg_name (i := 1) nd rfl (Or.inl rfl)) (fun _ _ _ _ _ => ts_nil) (fun _ _ _ _ _ => (d_callTy c_tuple T.n_tuple bb_tuple (a_cons (dv 1) a_nil)))) a_nil)) a_nil)))))) (ok_Shelf_stand K CS)
theorem w_law {f : Addr} {fd : FuncData} (F : FunD K "law" "law" (defArgs s_law) (defBody s_law) (defScope s_law) [] [] f fd) (T : Txt K mg CS) (C__law_begin : Cal P w K mg base "_law_begin" 1 (asp__law_begin)) (C__law_behind : Cal P w K mg base "_law_behind" 1 (asp__law_behind)) (C__law_little : Cal P w K mg base "_law_little" 2 (asp__law_little)) (C__law_rows : Cal P w K mg base "_law_rows" 5 (asp__law_rows)) (C__law_step : Cal P w K mg base "_law_step" 4 (asp__law_step)) (C__law_take : Cal P w K mg base "_law_take" 2 (asp__law_take)) (C__law_tree : Cal P w K mg base "_law_tree" 3 (asp__law_tree)) (C_full_rows : Cal P w K mg base "full_rows" 6 (asp_full_rows)) (C_stand_of : Cal P w K mg base "stand_of" 3 (asp_stand_of)) (C_tree_of : Cal P w K mg base "tree_of" 2 (asp_tree_of)) (C_Shelf : CalI P w K mg base CS "Shelf" 7 (asp_Shelf_init CS)) (C_Shelf_full : CalM P w K mg base CS "full" 2 (asp_Shelf_full CS)) (C_Shelf_out : CalM P w K mg base CS "out" 7 (asp_Shelf_out CS)) (C_Shelf_put : CalM P w K mg base CS "put" 7 (asp_Shelf_put CS)) (C_Shelf_stand : CalM P w K mg base CS "stand" 1 (asp_Shelf_stand CS)) : FnOk P w K mg base CX0 9 f fd ["_law_script"] (upSp K (asp_law)) := by
  have nd := sc_law.nd
  exact fn_ok F sc_law (fun ds μ q h => by unfold asp_law at h; repeat first | (obtain ⟨rfl, _⟩ := h; rfl) | (obtain ⟨_, h⟩ := h)) (rd_law K CS) (fun cdv A outer s H E hr => (s_cons (s_set (i := 1) nd (d_call C__law_begin (hr.mono (by decide)) (a_cons (dv 0) a_nil)))
      (s_cons (s_set (i := 2) nd (d_call C__law_tree (hr.mono (by decide)) (a_cons (dv 1) (a_cons d_int a_nil))))
      (s_cons (s_set (i := 3) nd (d_call C__law_rows (hr.mono (by decide)) (a_cons (dv 1) (a_cons (d_callB c_len T.n_len bb_len (a_cons (dv 2) a_nil)) (a_cons (d_ix (d_lst false (a_cons d_int (a_cons d_int a_nil))) (d_call C__law_take (hr.mono (by decide)) (a_cons (dv 1) (a_cons d_int a_nil)))) a_nil)))))
      (s_cons (s_set (i := 4) nd (d_make C_Shelf (hr.mono (by decide)) (a_cons (d_call C_stand_of (hr.mono (by decide)) (a_cons (d_call C_tree_of (hr.mono (by decide)) (a_cons (dv 2) a_nil)) (a_cons (dv 3) a_nil))) a_nil)))
      (s_cons (s_for PassesOwn.never rfl (i_rng1 T.n_range (a_cons d_int a_nil)) (g_name (i := 5) nd)
      (s_cons (s_asg (d_call C__law_step (hr.mono (by decide)) (a_cons (dv 1) (a_cons (dv 2) (a_cons (dv 3) a_nil)))) (g_tup (is := [6, 7, 8]) rfl (gs_cons (i := 6) nd (gs_cons (i := 7) nd (gs_cons (i := 8) nd gs_nil)))))
      (s_cons (s_setLc (i := 9) (own := false) (ow := [("_law_other", 10)]) (gv := (gName 10)) rfl nd (i_rng1 T.n_range (a_cons (d_callB c_len T.n_len bb_len (a_cons (dv 2) a_nil)) a_nil)) (blkOk_by (N := nm_law) (sc := (defScope s_law)) (own := [("_law_other", 10)]) (by decide +kernel)) (tg_name (by decide)) (fun _ _ _ _ _ => pg_name (i := 10) nd rfl (Or.inl rfl)) (fun _ _ _ _ _ => ts_nil) (fun _ _ _ _ _ => (d_gh (d_meth C_Shelf_full (hr.mono (by decide)) (dv 4) (a_cons (dv 10) a_nil)))))
      (s_cons (s_set (i := 3) nd (d_call C__law_behind (hr.mono (by decide)) (a_cons (dv 3) (a_cons (dv 6) (a_cons (dv 7) (a_cons (dv 8) a_nil))))))
      (s_cons (s_set (i := 11) nd (d_tup (a_cons (dv 6) (a_cons (d_lst false (a_cons (d_tup (a_cons (dv 7) (a_cons (dv 6) a_nil))) a_nil)) (a_cons (d_lst false a_nil) a_nil)))))
      (s_cons (s_if (t_truth (dv 8))
      (s_cons (s_set (i := 11) nd (d_tup (a_cons (dv 6) (a_cons (d_lst false a_nil) (a_cons (d_lst false (a_cons (d_tup (a_cons (dv 7) (a_cons (dv 6) a_nil))) a_nil)) a_nil)))))
      (s_one (s_set (i := 12) nd (d_meth C_Shelf_put (hr.mono (by decide)) (dv 4) (a_cons (dv 6) (a_cons (dv 7) a_nil))))))
      (s_one (s_set (i := 12) nd (d_meth C_Shelf_out (hr.mono (by decide)) (dv 4) (a_cons (dv 6) (a_cons (dv 7) a_nil))))))
      (s_cons (s_if (PW.pt (w_or (t_cmp (o_ne hr.units) (d_slice false (dv 12) o_none (o_some d_int)) (d_lst false (a_cons (dv 11) a_nil))) (w_or1 (t_not (t_truth (d_call C__law_little (hr.mono (by decide)) (a_cons (dv 9) (a_cons (dv 12) a_nil))))))))
      (s_one (s_ret d_bl))
      s_nil)
      (s_one (s_for PassesOwn.never rfl (i_rng2 T.n_range (a_cons d_int (a_cons (d_callB c_len T.n_len bb_len (a_cons (dv 12) a_nil)) a_nil))) (g_name (i := 13) nd)
      (s_cons (s_if (PW.pt (w_or (t_cmp (o_ne hr.units) (d_ix (d_ix (dv 12) (dv 13)) d_int) (d_ix (dv 2) (d_ix (d_ix (dv 12) (d_op o_sub (dv 13) d_int)) d_int))) (w_or1 (t_cmp (o_eq hr.units) (d_op (o_add false) (d_ix (d_ix (dv 12) (dv 13)) d_int) (d_ix (d_ix (dv 12) (dv 13)) d_int)) (d_lst false a_nil)))))
      (s_one (s_ret d_bl))
      s_nil)
      (s_one (s_if (t_cmp (o_ne hr.units) (d_lc (own := false) (ow := [("_law_entry", 14)]) (gv := (gName 14)) rfl nd (i_it (d_ix (d_ix (dv 12) (dv 13)) d_int)) (blkOk_by (N := nm_law) (sc := (defScope s_law)) (own := [("_law_entry", 14)]) (by decide +kernel)) (tg_name (by decide)) (fun _ _ _ _ _ => pg_name (i := 14) nd rfl (Or.inl rfl)) (fun _ _ _ _ _ => ts_one (t_cmp (o_in (room65 hr)) (dv 14) (d_ix (d_ix (dv 12) (dv 13)) d_int))) (fun _ _ _ _ _ => (dv 14))) (d_lst false a_nil))
      (s_one (s_ret d_bl))
      s_nil))))))))))))
      (s_one (s_ret (d_cmp (o_eq hr.units) (d_lc (own := false) (ow := [("_law_other", 10)]) (gv := (gName 10)) rfl nd (i_rng1 T.n_range (a_cons (d_callB c_len T.n_len bb_len (a_cons (dv 2) a_nil)) a_nil)) (blkOk_by (N := nm_law) (sc := (defScope s_law)) (own := [("_law_other", 10)]) (by decide +kernel)) (tg_name (by decide)) (fun _ _ _ _ _ => pg_name (i := 10) nd rfl (Or.inl rfl)) (fun _ _ _ _ _ => ts_nil) (fun _ _ _ _ _ => (d_gh (d_meth C_Shelf_full (hr.mono (by decide)) (dv 4) (a_cons (dv 10) a_nil))))) (d_gh (d_call C_full_rows (hr.mono (by decide)) (a_cons (d_meth0 C_Shelf_stand (hr.mono (by decide)) (dv 4)) a_nil)))))))))))) (ok_law K CS)
end
def d__law_begin : He.DefD := ⟨("_law_begin", none), "_law_begin", "_law_begin", defArgs s__law_begin, defBody s__law_begin, defScope s__law_begin, [], []⟩
def d__law_behind : He.DefD := ⟨("_law_behind", none), "_law_behind", "_law_behind", defArgs s__law_behind, defBody s__law_behind, defScope s__law_behind, [], []⟩
def d__law_near_one : He.DefD := ⟨("_law_near_one", none), "_law_near_one", "_law_near_one", defArgs s__law_near_one, defBody s__law_near_one, defScope s__law_near_one, [], []⟩
def d__law_little : He.DefD := ⟨("_law_little", none), "_law_little", "_law_little", defArgs s__law_little, defBody s__law_little, defScope s__law_little, [], []⟩
def d__law_mixed : He.DefD := ⟨("_law_mixed", none), "_law_mixed", "_law_mixed", defArgs s__law_mixed, defBody s__law_mixed, defScope s__law_mixed, [], []⟩
def d__law_take : He.DefD := ⟨("_law_take", none), "_law_take", "_law_take", defArgs s__law_take, defBody s__law_take, defScope s__law_take, [], []⟩
def d__law_key : He.DefD := ⟨("_law_key", none), "_law_key", "_law_key", defArgs s__law_key, defBody s__law_key, defScope s__law_key, [], []⟩
def d__law_row : He.DefD := ⟨("_law_row", none), "_law_row", "_law_row", defArgs s__law_row, defBody s__law_row, defScope s__law_row, [], []⟩
def d__law_rows : He.DefD := ⟨("_law_rows", none), "_law_rows", "_law_rows", defArgs s__law_rows, defBody s__law_rows, defScope s__law_rows, [], []⟩
def d__law_step : He.DefD := ⟨("_law_step", none), "_law_step", "_law_step", defArgs s__law_step, defBody s__law_step, defScope s__law_step, [], []⟩
def d__law_tree : He.DefD := ⟨("_law_tree", none), "_law_tree", "_law_tree", defArgs s__law_tree, defBody s__law_tree, defScope s__law_tree, [], []⟩
def d_children : He.DefD := ⟨("children", none), "children", "children", defArgs s_children, defBody s_children, defScope s_children, [], []⟩
def d_neighbours_of : He.DefD := ⟨("neighbours_of", none), "neighbours_of", "neighbours_of", defArgs s_neighbours_of, defBody s_neighbours_of, defScope s_neighbours_of, [], []⟩
def d_colours : He.DefD := ⟨("colours", none), "colours", "colours", defArgs s_colours, defBody s_colours, defScope s_colours, [], []⟩
def d_code : He.DefD := ⟨("code", none), "code", "code", defArgs s_code, defBody s_code, defScope s_code, [], []⟩
def d_lowest_unlike : He.DefD := ⟨("lowest_unlike", none), "lowest_unlike", "lowest_unlike", defArgs s_lowest_unlike, defBody s_lowest_unlike, defScope s_lowest_unlike, [], []⟩
def d_turned : He.DefD := ⟨("turned", none), "turned", "turned", defArgs s_turned, defBody s_turned, defScope s_turned, [], []⟩
def d_labels : He.DefD := ⟨("labels", none), "labels", "labels", defArgs s_labels, defBody s_labels, defScope s_labels, [], []⟩
def d_marks : He.DefD := ⟨("marks", none), "marks", "marks", defArgs s_marks, defBody s_marks, defScope s_marks, [], []⟩
def d_handed : He.DefD := ⟨("handed", none), "handed", "handed", defArgs s_handed, defBody s_handed, defScope s_handed, [], []⟩
def d_put_between : He.DefD := ⟨("put_between", none), "put_between", "put_between", defArgs s_put_between, defBody s_put_between, defScope s_put_between, [], []⟩
def d_joined_up : He.DefD := ⟨("joined_up", none), "joined_up", "joined_up", defArgs s_joined_up, defBody s_joined_up, defScope s_joined_up, [], []⟩
def d_own_entries : He.DefD := ⟨("own_entries", none), "own_entries", "own_entries", defArgs s_own_entries, defBody s_own_entries, defScope s_own_entries, [], []⟩
def d_full_rows : He.DefD := ⟨("full_rows", none), "full_rows", "full_rows", defArgs s_full_rows, defBody s_full_rows, defScope s_full_rows, [], []⟩
def d_is_key : He.DefD := ⟨("is_key", none), "is_key", "is_key", defArgs s_is_key, defBody s_is_key, defScope s_is_key, [], []⟩
def d_row_of : He.DefD := ⟨("row_of", none), "row_of", "row_of", defArgs s_row_of, defBody s_row_of, defScope s_row_of, [], []⟩
def d_stand_of : He.DefD := ⟨("stand_of", none), "stand_of", "stand_of", defArgs s_stand_of, defBody s_stand_of, defScope s_stand_of, [], []⟩
def d_is_whole : He.DefD := ⟨("is_whole", none), "is_whole", "is_whole", defArgs s_is_whole, defBody s_is_whole, defScope s_is_whole, [], []⟩
def d_tree_of : He.DefD := ⟨("tree_of", none), "tree_of", "tree_of", defArgs s_tree_of, defBody s_tree_of, defScope s_tree_of, [], []⟩
def d_Shelf_init : He.DefD := ⟨("Shelf", some "__init__"), "__init__", "Shelf.__init__", defArgs s_Shelf_init, defBody s_Shelf_init, defScope s_Shelf_init, [], []⟩
def d_Shelf_ask_knot : He.DefD := ⟨("Shelf", some "ask_knot"), "ask_knot", "Shelf.ask_knot", defArgs s_Shelf_ask_knot, defBody s_Shelf_ask_knot, defScope s_Shelf_ask_knot, [], []⟩
def d_Shelf_full : He.DefD := ⟨("Shelf", some "full"), "full", "Shelf.full", defArgs s_Shelf_full, defBody s_Shelf_full, defScope s_Shelf_full, [], []⟩
def d_less : He.DefD := ⟨("less", none), "less", "less", defArgs s_less, defBody s_less, defScope s_less, [], []⟩
def d_Shelf_changed : He.DefD := ⟨("Shelf", some "changed"), "changed", "Shelf.changed", defArgs s_Shelf_changed, defBody s_Shelf_changed, defScope s_Shelf_changed, [], []⟩
def d_Shelf_out : He.DefD := ⟨("Shelf", some "out"), "out", "Shelf.out", defArgs s_Shelf_out, defBody s_Shelf_out, defScope s_Shelf_out, [], []⟩
def d_Shelf_put : He.DefD := ⟨("Shelf", some "put"), "put", "Shelf.put", defArgs s_Shelf_put, defBody s_Shelf_put, defScope s_Shelf_put, [], []⟩
def d_Shelf_stand : He.DefD := ⟨("Shelf", some "stand"), "stand", "Shelf.stand", defArgs s_Shelf_stand, defBody s_Shelf_stand, defScope s_Shelf_stand, [], []⟩
def d_law : He.DefD := ⟨("law", none), "law", "law", defArgs s_law, defBody s_law, defScope s_law, [], []⟩
def fn : List He.DefD := [d__law_begin, d__law_behind, d__law_near_one, d__law_little, d__law_mixed, d__law_take, d__law_key, d__law_row, d__law_rows, d__law_step, d__law_tree, d_children, d_neighbours_of, d_colours, d_code, d_lowest_unlike, d_turned, d_labels, d_marks, d_handed, d_put_between, d_joined_up, d_own_entries, d_full_rows, d_is_key, d_row_of, d_stand_of, d_is_whole, d_tree_of, d_Shelf_init, d_Shelf_ask_knot, d_Shelf_full, d_less, d_Shelf_changed, d_Shelf_out, d_Shelf_put, d_Shelf_stand, d_law]
def fa : List He.Fa := [.free "abs", .free "all", .free "any", .free "bool", .free "enumerate", .free "int", .free "isinstance", .free "len", .free "list", .free "max", .free "min", .free "range", .free "reversed", .free "set", .free "sorted", .free "sum", .free "tuple", .free "zip", .int "TOO_GREAT" 1000000000000000000000000000000000000000000000000000000000000, .int "KNOTS" 64, .int "ROUNDS" 5, .int "MOST_KNOTS" 40, .int "MOST_KEYS" 300, .cls "Shelf", .noat "Shelf" "tree", .noat "Shelf" "rows", .noat "Shelf" "fulls", .glo "law", .glo "_law_begin", .glo "_law_behind", .glo "_law_near_one", .glo "_law_little", .glo "_law_mixed", .glo "_law_take", .glo "_law_key", .glo "_law_row", .glo "_law_rows", .glo "_law_step", .glo "_law_tree", .glo "children", .glo "neighbours_of", .glo "colours", .glo "code", .glo "lowest_unlike", .glo "turned", .glo "labels", .glo "marks", .glo "handed", .glo "put_between", .glo "joined_up", .glo "own_entries", .glo "full_rows", .glo "is_key", .glo "row_of", .glo "stand_of", .glo "is_whole", .glo "tree_of", .mkr "Shelf", .glo "Shelf", .meth "Shelf" "ask_knot", .meth "Shelf" "full", .glo "less", .meth "Shelf" "changed", .meth "Shelf" "out", .meth "Shelf" "put", .meth "Shelf" "stand"]
theorem facts {P : Program} {w : World} {K : PySem.W.Frag} {h : Heap} {mg : Str → Option Value} {f : Addr} (X : K.In h) (G : h.Ns mainGlobals mg) (hfa : mg ("law" : Str) = some (.ref f)) (c : He.SaysD fa fn K) :
    ∃ fd : FuncData, (∀ (s : Shared) (v : Value), BindsTo s fd ⟨[v], []⟩ [("_law_script", v)]) ∧ ∀ base : Heap, K.In base → base.Ns mainGlobals mg → FnOk P w K mg base CX0 9 f fd ["_law_script"] (upSp K asp_law) := by
  obtain ⟨fd__law_begin, F__law_begin⟩ := c.def_ 0 (d := d__law_begin) rfl
  obtain ⟨fd__law_behind, F__law_behind⟩ := c.def_ 1 (d := d__law_behind) rfl
  obtain ⟨fd__law_near_one, F__law_near_one⟩ := c.def_ 2 (d := d__law_near_one) rfl
  obtain ⟨fd__law_little, F__law_little⟩ := c.def_ 3 (d := d__law_little) rfl
  obtain ⟨fd__law_mixed, F__law_mixed⟩ := c.def_ 4 (d := d__law_mixed) rfl
  obtain ⟨fd__law_take, F__law_take⟩ := c.def_ 5 (d := d__law_take) rfl
  obtain ⟨fd__law_key, F__law_key⟩ := c.def_ 6 (d := d__law_key) rfl
  obtain ⟨fd__law_row, F__law_row⟩ := c.def_ 7 (d := d__law_row) rfl
  obtain ⟨fd__law_rows, F__law_rows⟩ := c.def_ 8 (d := d__law_rows) rfl
  obtain ⟨fd__law_step, F__law_step⟩ := c.def_ 9 (d := d__law_step) rfl
  obtain ⟨fd__law_tree, F__law_tree⟩ := c.def_ 10 (d := d__law_tree) rfl
  obtain ⟨fd_children, F_children⟩ := c.def_ 11 (d := d_children) rfl
  obtain ⟨fd_neighbours_of, F_neighbours_of⟩ := c.def_ 12 (d := d_neighbours_of) rfl
  obtain ⟨fd_colours, F_colours⟩ := c.def_ 13 (d := d_colours) rfl
  obtain ⟨fd_code, F_code⟩ := c.def_ 14 (d := d_code) rfl
  obtain ⟨fd_lowest_unlike, F_lowest_unlike⟩ := c.def_ 15 (d := d_lowest_unlike) rfl
  obtain ⟨fd_turned, F_turned⟩ := c.def_ 16 (d := d_turned) rfl
  obtain ⟨fd_labels, F_labels⟩ := c.def_ 17 (d := d_labels) rfl
  obtain ⟨fd_marks, F_marks⟩ := c.def_ 18 (d := d_marks) rfl
  obtain ⟨fd_handed, F_handed⟩ := c.def_ 19 (d := d_handed) rfl
  obtain ⟨fd_put_between, F_put_between⟩ := c.def_ 20 (d := d_put_between) rfl
  obtain ⟨fd_joined_up, F_joined_up⟩ := c.def_ 21 (d := d_joined_up) rfl
  obtain ⟨fd_own_entries, F_own_entries⟩ := c.def_ 22 (d := d_own_entries) rfl
  obtain ⟨fd_full_rows, F_full_rows⟩ := c.def_ 23 (d := d_full_rows) rfl
  obtain ⟨fd_is_key, F_is_key⟩ := c.def_ 24 (d := d_is_key) rfl
  obtain ⟨fd_row_of, F_row_of⟩ := c.def_ 25 (d := d_row_of) rfl
  obtain ⟨fd_stand_of, F_stand_of⟩ := c.def_ 26 (d := d_stand_of) rfl
  obtain ⟨fd_is_whole, F_is_whole⟩ := c.def_ 27 (d := d_is_whole) rfl
  obtain ⟨fd_tree_of, F_tree_of⟩ := c.def_ 28 (d := d_tree_of) rfl
  obtain ⟨fd_Shelf_init, F_Shelf_init⟩ := c.def_ 29 (d := d_Shelf_init) rfl
  obtain ⟨fd_Shelf_ask_knot, F_Shelf_ask_knot⟩ := c.def_ 30 (d := d_Shelf_ask_knot) rfl
  obtain ⟨fd_Shelf_full, F_Shelf_full⟩ := c.def_ 31 (d := d_Shelf_full) rfl
  obtain ⟨fd_less, F_less⟩ := c.def_ 32 (d := d_less) rfl
  obtain ⟨fd_Shelf_changed, F_Shelf_changed⟩ := c.def_ 33 (d := d_Shelf_changed) rfl
  obtain ⟨fd_Shelf_out, F_Shelf_out⟩ := c.def_ 34 (d := d_Shelf_out) rfl
  obtain ⟨fd_Shelf_put, F_Shelf_put⟩ := c.def_ 35 (d := d_Shelf_put) rfl
  obtain ⟨fd_Shelf_stand, F_Shelf_stand⟩ := c.def_ 36 (d := d_Shelf_stand) rfl
  obtain ⟨fd_law, F_law⟩ := c.def_ 37 (d := d_law) rfl
  have e := hfa.symm.trans (He.glo_ok X G (c.fact 27 (f := .glo "law") rfl))
  cases e
  have T : Txt K mg (He.ga K "Shelf") := ⟨He.free_ok X G (c.fact 0 (f := .free "abs") rfl), He.free_ok X G (c.fact 1 (f := .free "all") rfl), He.free_ok X G (c.fact 2 (f := .free "any") rfl), He.free_ok X G (c.fact 3 (f := .free "bool") rfl), He.free_ok X G (c.fact 4 (f := .free "enumerate") rfl), He.free_ok X G (c.fact 5 (f := .free "int") rfl), He.free_ok X G (c.fact 6 (f := .free "isinstance") rfl), He.free_ok X G (c.fact 7 (f := .free "len") rfl), He.free_ok X G (c.fact 8 (f := .free "list") rfl), He.free_ok X G (c.fact 9 (f := .free "max") rfl), He.free_ok X G (c.fact 10 (f := .free "min") rfl), He.free_ok X G (c.fact 11 (f := .free "range") rfl), He.free_ok X G (c.fact 12 (f := .free "reversed") rfl), He.free_ok X G (c.fact 13 (f := .free "set") rfl), He.free_ok X G (c.fact 14 (f := .free "sorted") rfl), He.free_ok X G (c.fact 15 (f := .free "sum") rfl), He.free_ok X G (c.fact 16 (f := .free "tuple") rfl), He.free_ok X G (c.fact 17 (f := .free "zip") rfl), He.int_ok X G (c.fact 18 (f := .int "TOO_GREAT" 1000000000000000000000000000000000000000000000000000000000000) rfl), He.int_ok X G (c.fact 19 (f := .int "KNOTS" 64) rfl), He.int_ok X G (c.fact 20 (f := .int "ROUNDS" 5) rfl), He.int_ok X G (c.fact 21 (f := .int "MOST_KNOTS" 40) rfl), He.int_ok X G (c.fact 22 (f := .int "MOST_KEYS" 300) rfl), He.cls_ok (c.fact 23 (f := .cls "Shelf") rfl), He.noat_ok (c.fact 24 (f := .noat "Shelf" "tree") rfl), He.noat_ok (c.fact 25 (f := .noat "Shelf" "rows") rfl), He.noat_ok (c.fact 26 (f := .noat "Shelf" "fulls") rfl)⟩
  have b := FunD.bindsA (ps := ["_law_script"]) F_law fun _ _ _ _ _ _ us hl => match us, hl with | [_], _ => rfl
  refine ⟨fd_law, fun s v => b s [v] rfl, fun base _ _ => ?_⟩
  have W__law_begin := w__law_begin (P := P) (w := w) (base := base) F__law_begin T
  have C__law_begin : Cal P w K mg base "_law_begin" 1 _ := ⟨_, _, _, W__law_begin, He.glo_ok X G (c.fact 28 (f := .glo "_law_begin") rfl), F__law_begin.kp, F__law_begin.bindsN (ps := ["_law_script"]) fun _ _ _ _ _ _ us hl => match us, hl with | [_], _ => rfl⟩
  have W__law_behind := w__law_behind (P := P) (w := w) (base := base) F__law_behind T
  have C__law_behind : Cal P w K mg base "_law_behind" 1 _ := ⟨_, _, _, W__law_behind, He.glo_ok X G (c.fact 29 (f := .glo "_law_behind") rfl), F__law_behind.kp, F__law_behind.bindsN (ps := ["_law_rows_here", "_law_knot", "_law_key_here", "_law_is_put"]) fun _ _ _ _ _ _ us hl => match us, hl with | [_, _, _, _], _ => rfl⟩
  have W__law_near_one := w__law_near_one (P := P) (w := w) (base := base) F__law_near_one T
  have C__law_near_one : Cal P w K mg base "_law_near_one" 1 _ := ⟨_, _, _, W__law_near_one, He.glo_ok X G (c.fact 30 (f := .glo "_law_near_one") rfl), F__law_near_one.kp, F__law_near_one.bindsN (ps := ["_law_whole", "_law_changed", "_law_entry"]) fun _ _ _ _ _ _ us hl => match us, hl with | [_, _, _], _ => rfl⟩
  have W__law_little := w__law_little (P := P) (w := w) (base := base) F__law_little T C__law_near_one
  have C__law_little : Cal P w K mg base "_law_little" 2 _ := ⟨_, _, _, W__law_little, He.glo_ok X G (c.fact 31 (f := .glo "_law_little") rfl), F__law_little.kp, F__law_little.bindsN (ps := ["_law_ahead", "_law_told"]) fun _ _ _ _ _ _ us hl => match us, hl with | [_, _], _ => rfl⟩
  have W__law_mixed := w__law_mixed (P := P) (w := w) (base := base) F__law_mixed T
  have C__law_mixed : Cal P w K mg base "_law_mixed" 1 _ := ⟨_, _, _, W__law_mixed, He.glo_ok X G (c.fact 32 (f := .glo "_law_mixed") rfl), F__law_mixed.kp, F__law_mixed.bindsN (ps := ["_law_cell", "_law_k"]) fun _ _ _ _ _ _ us hl => match us, hl with | [_, _], _ => rfl⟩
  have W__law_take := w__law_take (P := P) (w := w) (base := base) F__law_take T C__law_mixed
  have C__law_take : Cal P w K mg base "_law_take" 2 _ := ⟨_, _, _, W__law_take, He.glo_ok X G (c.fact 33 (f := .glo "_law_take") rfl), F__law_take.kp, F__law_take.bindsN (ps := ["_law_state", "_law_most"]) fun _ _ _ _ _ _ us hl => match us, hl with | [_, _], _ => rfl⟩
  have W__law_key := w__law_key (P := P) (w := w) (base := base) F__law_key T C__law_take
  have C__law_key : Cal P w K mg base "_law_key" 3 _ := ⟨_, _, _, W__law_key, He.glo_ok X G (c.fact 34 (f := .glo "_law_key") rfl), F__law_key.kp, F__law_key.bindsN (ps := ["_law_state"]) fun _ _ _ _ _ _ us hl => match us, hl with | [_], _ => rfl⟩
  have W__law_row := w__law_row (P := P) (w := w) (base := base) F__law_row T C__law_key C__law_take
  have C__law_row : Cal P w K mg base "_law_row" 4 _ := ⟨_, _, _, W__law_row, He.glo_ok X G (c.fact 35 (f := .glo "_law_row") rfl), F__law_row.kp, F__law_row.bindsN (ps := ["_law_state", "_law_most"]) fun _ _ _ _ _ _ us hl => match us, hl with | [_, _], _ => rfl⟩
  have W__law_rows := w__law_rows (P := P) (w := w) (base := base) F__law_rows T C__law_row C__law_take
  have C__law_rows : Cal P w K mg base "_law_rows" 5 _ := ⟨_, _, _, W__law_rows, He.glo_ok X G (c.fact 36 (f := .glo "_law_rows") rfl), F__law_rows.kp, F__law_rows.bindsN (ps := ["_law_state", "_law_many", "_law_most"]) fun _ _ _ _ _ _ us hl => match us, hl with | [_, _, _], _ => rfl⟩
  have W__law_step := w__law_step (P := P) (w := w) (base := base) F__law_step T C__law_key C__law_take
  have C__law_step : Cal P w K mg base "_law_step" 4 _ := ⟨_, _, _, W__law_step, He.glo_ok X G (c.fact 37 (f := .glo "_law_step") rfl), F__law_step.kp, F__law_step.bindsN (ps := ["_law_state", "_law_tree_here", "_law_rows_here"]) fun _ _ _ _ _ _ us hl => match us, hl with | [_, _, _], _ => rfl⟩
  have W__law_tree := w__law_tree (P := P) (w := w) (base := base) F__law_tree T C__law_take
  have C__law_tree : Cal P w K mg base "_law_tree" 3 _ := ⟨_, _, _, W__law_tree, He.glo_ok X G (c.fact 38 (f := .glo "_law_tree") rfl), F__law_tree.kp, F__law_tree.bindsN (ps := ["_law_state", "_law_most"]) fun _ _ _ _ _ _ us hl => match us, hl with | [_, _], _ => rfl⟩
  have W_children := w_children (P := P) (w := w) (base := base) F_children T
  have C_children : Cal P w K mg base "children" 1 _ := ⟨_, _, _, W_children, He.glo_ok X G (c.fact 39 (f := .glo "children") rfl), F_children.kp, F_children.bindsN (ps := ["tree", "knot"]) fun _ _ _ _ _ _ us hl => match us, hl with | [_, _], _ => rfl⟩
  have W_neighbours_of := w_neighbours_of (P := P) (w := w) (base := base) F_neighbours_of T
  have C_neighbours_of : Cal P w K mg base "neighbours_of" 1 _ := ⟨_, _, _, W_neighbours_of, He.glo_ok X G (c.fact 40 (f := .glo "neighbours_of") rfl), F_neighbours_of.kp, F_neighbours_of.bindsN (ps := ["things", "at"]) fun _ _ _ _ _ _ us hl => match us, hl with | [_, _], _ => rfl⟩
  have W_colours := w_colours (P := P) (w := w) (base := base) F_colours T C_neighbours_of
  have C_colours : Cal P w K mg base "colours" 2 _ := ⟨_, _, _, W_colours, He.glo_ok X G (c.fact 41 (f := .glo "colours") rfl), F_colours.kp, F_colours.bindsN (ps := ["numbers"]) fun _ _ _ _ _ _ us hl => match us, hl with | [_], _ => rfl⟩
  have W_code := w_code (P := P) (w := w) (base := base) F_code T
  have C_code : Cal P w K mg base "code" 1 _ := ⟨_, _, _, W_code, He.glo_ok X G (c.fact 42 (f := .glo "code") rfl), F_code.kp, F_code.bindsN (ps := ["entry"]) fun _ _ _ _ _ _ us hl => match us, hl with | [_], _ => rfl⟩
  have W_lowest_unlike := w_lowest_unlike (P := P) (w := w) (base := base) F_lowest_unlike T
  have C_lowest_unlike : Cal P w K mg base "lowest_unlike" 1 _ := ⟨_, _, _, W_lowest_unlike, He.glo_ok X G (c.fact 43 (f := .glo "lowest_unlike") rfl), F_lowest_unlike.kp, F_lowest_unlike.bindsN (ps := ["one", "other"]) fun _ _ _ _ _ _ us hl => match us, hl with | [_, _], _ => rfl⟩
  have W_turned := w_turned (P := P) (w := w) (base := base) F_turned T C_lowest_unlike
  have C_turned : Cal P w K mg base "turned" 2 _ := ⟨_, _, _, W_turned, He.glo_ok X G (c.fact 44 (f := .glo "turned") rfl), F_turned.kp, F_turned.bindsN (ps := ["numbers"]) fun _ _ _ _ _ _ us hl => match us, hl with | [_], _ => rfl⟩
  have W_labels := w_labels (P := P) (w := w) (base := base) F_labels T C_code C_turned
  have C_labels : Cal P w K mg base "labels" 3 _ := ⟨_, _, _, W_labels, He.glo_ok X G (c.fact 45 (f := .glo "labels") rfl), F_labels.kp, F_labels.bindsN (ps := ["entries"]) fun _ _ _ _ _ _ us hl => match us, hl with | [_], _ => rfl⟩
  have W_marks := w_marks (P := P) (w := w) (base := base) F_marks T C_colours C_labels C_neighbours_of
  have C_marks : Cal P w K mg base "marks" 4 _ := ⟨_, _, _, W_marks, He.glo_ok X G (c.fact 46 (f := .glo "marks") rfl), F_marks.kp, F_marks.bindsN (ps := ["entries"]) fun _ _ _ _ _ _ us hl => match us, hl with | [_], _ => rfl⟩
  have W_handed := w_handed (P := P) (w := w) (base := base) F_handed T C_marks
  have C_handed : Cal P w K mg base "handed" 5 _ := ⟨_, _, _, W_handed, He.glo_ok X G (c.fact 47 (f := .glo "handed") rfl), F_handed.kp, F_handed.bindsN (ps := ["entries"]) fun _ _ _ _ _ _ us hl => match us, hl with | [_], _ => rfl⟩
  have W_put_between := w_put_between (P := P) (w := w) (base := base) F_put_between T
  have C_put_between : Cal P w K mg base "put_between" 1 _ := ⟨_, _, _, W_put_between, He.glo_ok X G (c.fact 48 (f := .glo "put_between") rfl), F_put_between.kp, F_put_between.bindsN (ps := ["one", "other"]) fun _ _ _ _ _ _ us hl => match us, hl with | [_, _], _ => rfl⟩
  have W_joined_up := w_joined_up (P := P) (w := w) (base := base) F_joined_up T C_put_between
  have C_joined_up : Cal P w K mg base "joined_up" 2 _ := ⟨_, _, _, W_joined_up, He.glo_ok X G (c.fact 49 (f := .glo "joined_up") rfl), F_joined_up.kp, F_joined_up.bindsN (ps := ["lists"]) fun _ _ _ _ _ _ us hl => match us, hl with | [_], _ => rfl⟩
  have W_own_entries := w_own_entries (P := P) (w := w) (base := base) F_own_entries T
  have C_own_entries : Cal P w K mg base "own_entries" 1 _ := ⟨_, _, _, W_own_entries, He.glo_ok X G (c.fact 50 (f := .glo "own_entries") rfl), F_own_entries.kp, F_own_entries.bindsN (ps := ["stand", "knot"]) fun _ _ _ _ _ _ us hl => match us, hl with | [_, _], _ => rfl⟩
  have W_full_rows := w_full_rows (P := P) (w := w) (base := base) F_full_rows T C_children C_handed C_joined_up C_own_entries
  have C_full_rows : Cal P w K mg base "full_rows" 6 _ := ⟨_, _, _, W_full_rows, He.glo_ok X G (c.fact 51 (f := .glo "full_rows") rfl), F_full_rows.kp, F_full_rows.bindsN (ps := ["stand"]) fun _ _ _ _ _ _ us hl => match us, hl with | [_], _ => rfl⟩
  have W_is_key := w_is_key (P := P) (w := w) (base := base) F_is_key T
  have C_is_key : Cal P w K mg base "is_key" 1 _ := ⟨_, _, _, W_is_key, He.glo_ok X G (c.fact 52 (f := .glo "is_key") rfl), F_is_key.kp, F_is_key.bindsN (ps := ["thing"]) fun _ _ _ _ _ _ us hl => match us, hl with | [_], _ => rfl⟩
  have W_row_of := w_row_of (P := P) (w := w) (base := base) F_row_of T C_is_key
  have C_row_of : Cal P w K mg base "row_of" 2 _ := ⟨_, _, _, W_row_of, He.glo_ok X G (c.fact 53 (f := .glo "row_of") rfl), F_row_of.kp, F_row_of.bindsN (ps := ["thing"]) fun _ _ _ _ _ _ us hl => match us, hl with | [_], _ => rfl⟩
  have W_stand_of := w_stand_of (P := P) (w := w) (base := base) F_stand_of T C_row_of
  have C_stand_of : Cal P w K mg base "stand_of" 3 _ := ⟨_, _, _, W_stand_of, He.glo_ok X G (c.fact 54 (f := .glo "stand_of") rfl), F_stand_of.kp, F_stand_of.bindsN (ps := ["tree", "rows"]) fun _ _ _ _ _ _ us hl => match us, hl with | [_, _], _ => rfl⟩
  have W_is_whole := w_is_whole (P := P) (w := w) (base := base) F_is_whole T
  have C_is_whole : Cal P w K mg base "is_whole" 1 _ := ⟨_, _, _, W_is_whole, He.glo_ok X G (c.fact 55 (f := .glo "is_whole") rfl), F_is_whole.kp, F_is_whole.bindsN (ps := ["thing"]) fun _ _ _ _ _ _ us hl => match us, hl with | [_], _ => rfl⟩
  have W_tree_of := w_tree_of (P := P) (w := w) (base := base) F_tree_of T C_is_whole
  have C_tree_of : Cal P w K mg base "tree_of" 2 _ := ⟨_, _, _, W_tree_of, He.glo_ok X G (c.fact 56 (f := .glo "tree_of") rfl), F_tree_of.kp, F_tree_of.bindsN (ps := ["parents"]) fun _ _ _ _ _ _ us hl => match us, hl with | [_], _ => rfl⟩
  have W_Shelf_init := w_Shelf_init (P := P) (w := w) (base := base) F_Shelf_init T C_full_rows
  have C_Shelf : CalI P w K mg base (He.ga K "Shelf") "Shelf" 7 _ := ⟨⟨_, _, _, W_Shelf_init, He.mkr_ok (c.fact 57 (f := .mkr "Shelf") rfl), He.glo_ok X G (c.fact 58 (f := .glo "Shelf") rfl), F_Shelf_init.bindsN (ps := ["self", "stand"]) fun _ _ _ _ _ _ us hl => match us, hl with | [_, _], _ => rfl⟩⟩
  have W_Shelf_ask_knot := w_Shelf_ask_knot (P := P) (w := w) (base := base) F_Shelf_ask_knot T
  have C_Shelf_ask_knot : CalM P w K mg base (He.ga K "Shelf") "ask_knot" 1 _ := ⟨⟨_, _, _, W_Shelf_ask_knot, He.meth_ok (c.fact 59 (f := .meth "Shelf" "ask_knot") rfl), F_Shelf_ask_knot.bindsN (ps := ["self", "knot"]) fun _ _ _ _ _ _ us hl => match us, hl with | [_, _], _ => rfl⟩, T.cl_CS⟩
  have W_Shelf_full := w_Shelf_full (P := P) (w := w) (base := base) F_Shelf_full T C_Shelf_ask_knot
  have C_Shelf_full : CalM P w K mg base (He.ga K "Shelf") "full" 2 _ := ⟨⟨_, _, _, W_Shelf_full, He.meth_ok (c.fact 60 (f := .meth "Shelf" "full") rfl), F_Shelf_full.bindsN (ps := ["self", "knot"]) fun _ _ _ _ _ _ us hl => match us, hl with | [_, _], _ => rfl⟩, T.cl_CS⟩
  have W_less := w_less (P := P) (w := w) (base := base) F_less T
  have C_less : Cal P w K mg base "less" 1 _ := ⟨_, _, _, W_less, He.glo_ok X G (c.fact 61 (f := .glo "less") rfl), F_less.kp, F_less.bindsN (ps := ["entries", "gone"]) fun _ _ _ _ _ _ us hl => match us, hl with | [_, _], _ => rfl⟩
  have W_Shelf_changed := w_Shelf_changed (P := P) (w := w) (base := base) F_Shelf_changed T C_handed C_less
  have C_Shelf_changed : CalM P w K mg base (He.ga K "Shelf") "changed" 6 _ := ⟨⟨_, _, _, W_Shelf_changed, He.meth_ok (c.fact 62 (f := .meth "Shelf" "changed") rfl), F_Shelf_changed.bindsN (ps := ["self", "knot", "gone", "come"]) fun _ _ _ _ _ _ us hl => match us, hl with | [_, _, _, _], _ => rfl⟩, T.cl_CS⟩
  have W_Shelf_out := w_Shelf_out (P := P) (w := w) (base := base) F_Shelf_out T C_is_key C_less C_Shelf_ask_knot C_Shelf_changed
  have C_Shelf_out : CalM P w K mg base (He.ga K "Shelf") "out" 7 _ := ⟨⟨_, _, _, W_Shelf_out, He.meth_ok (c.fact 63 (f := .meth "Shelf" "out") rfl), F_Shelf_out.bindsN (ps := ["self", "knot", "key"]) fun _ _ _ _ _ _ us hl => match us, hl with | [_, _, _], _ => rfl⟩, T.cl_CS⟩
  have W_Shelf_put := w_Shelf_put (P := P) (w := w) (base := base) F_Shelf_put T C_is_key C_Shelf_ask_knot C_Shelf_changed
  have C_Shelf_put : CalM P w K mg base (He.ga K "Shelf") "put" 7 _ := ⟨⟨_, _, _, W_Shelf_put, He.meth_ok (c.fact 64 (f := .meth "Shelf" "put") rfl), F_Shelf_put.bindsN (ps := ["self", "knot", "key"]) fun _ _ _ _ _ _ us hl => match us, hl with | [_, _, _], _ => rfl⟩, T.cl_CS⟩
  have W_Shelf_stand := w_Shelf_stand (P := P) (w := w) (base := base) F_Shelf_stand T
  have C_Shelf_stand : CalM P w K mg base (He.ga K "Shelf") "stand" 1 _ := ⟨⟨_, _, _, W_Shelf_stand, He.meth_ok (c.fact 65 (f := .meth "Shelf" "stand") rfl), F_Shelf_stand.bindsN (ps := ["self"]) fun _ _ _ _ _ _ us hl => match us, hl with | [_], _ => rfl⟩, T.cl_CS⟩
  exact w_law F_law T C__law_begin C__law_behind C__law_little C__law_rows C__law_step C__law_take C__law_tree C_full_rows C_stand_of C_tree_of C_Shelf C_Shelf_full C_Shelf_out C_Shelf_put C_Shelf_stand
def loose0 : List Str := ["_wall", "TOO_GREAT", "KNOTS", "is_key", "code", "put_between", "joined_up", "ROUNDS", "lowest_unlike", "turned", "labels", "neighbours_of", "colours", "marks", "handed", "BridgeError", "NoTree", "NoStand", "Twice", "Missing", "NoRoom", "NoKnot", "NoKey", "MOST_KNOTS", "is_whole", "tree_of", "children", "MOST_KEYS", "row_of", "stand_of"]
def loose1 : List Str := ["own_entries", "full_rows", "less", "Shelf", "_law_begin", "_law_mixed", "_law_take", "_law_key", "_law_tree", "_law_row", "_law_rows", "_law_step", "_law_behind", "_law_near_one", "_law_little"]
def loose : List Str := loose0 ++ loose1
abbrev R : PySem.W.OpenRow := PySem.W.OpenLaw.row PySem.Challenge.rw_bridgefind_k50_whole_a_key_changes_littl
abbrev hk : PySem.W.Hook := He.hookD 6 fa fn
def ob (s : PySem.W.SharedT) : He.AlD := He.obsDG 6 fa fn (HandSHeadRun.getT s)
theorem ob_eq (s : PySem.W.SharedT) : ob s = hk.obs s.abs := He.obsDG_eq (HandSHeadRun.getT_eq s)
theorem run (w : World) : HandSHeadRun.RunEq R (PySem.W.view R.prog [53]) hk ob 6000 loose w := by
  intro os
  kernel_rfl
theorem law_sp {K : PySem.W.Frag} (H : Hp) (a : Addr) (ns : List Int) (hS : SqL K H a (ns.map V.int)) : upSp K asp_law [.ref a] H (fun v _ => v = .bl true) fun _ _ _ => False :=
  ⟨H, fun _ => none, [.scr ns], fun d _ => d = .bl true, ⟨fun _ _ e => e, fun _ _ e => by cases e⟩, .cons (.scr hS) .nil, ⟨ns, rfl, fun _ => rfl⟩, fun F' v H' d μ' e A r h => by
    subst h
    cases r
    rfl⟩
end BF
open PySem PySem.W PySem.Calls PyProof.Rows in
set_option maxHeartbeats 0 in
theorem PySem.Challenge.cw_bridgefind_k50_whole_a_key_changes_littl_holds : PySem.Challenge.rw_bridgefind_k50_whole_a_key_changes_littl.Holds := by
  w_on; o_law
  refine HandSHeadRun.head_any (r := OpenLaw.row PySem.Challenge.rw_bridgefind_k50_whole_a_key_changes_littl) (q := view (OpenLaw.row PySem.Challenge.rw_bridgefind_k50_whole_a_key_changes_littl).prog [53]) (H := BF.hk) (ob := BF.ob) (M := 6000) (loose := BF.loose) (d := HandSHeadRun.topDef (OpenLaw.row PySem.Challenge.rw_bridgefind_k50_whole_a_key_changes_littl).prog 53) (kwd := []) BF.ob_eq
    (by kernel_rfl) (fun s => by kernel_rfl) BF.run (by kernel_rfl) (by kernel_rfl) (by kernel_rfl) (by rfl) (by first | assumption | decide +kernel) (by decide +kernel) ⟨rfl, rfl, rfl, rfl, rfl, by decide +kernel⟩ ?hw ?hc
  case hw => w_witness2
  case hc =>
    refine L2.walk_ofE (l := PySem.Challenge.rw_bridgefind_k50_whole_a_key_changes_littl) (n := 63) (k := 9) (x := "_law_script") (CX := L2.CX0) rfl (by decide) (by kernel_rfl) ⟨rfl, by decide, by decide⟩ ?F (fun _ _ _ _ z => z)
    intro w mg fa h Y G hmg0
    obtain ⟨K, KX, c⟩ := Y
    have hmg : mg ("law" : PySem.Str) = some (.ref fa) := by
      have e : (HandSHeadRun.topDef (OpenLaw.row PySem.Challenge.rw_bridgefind_k50_whole_a_key_changes_littl).prog 53).name = ("law" : PySem.Str) := by kernel_rfl
      rw [← e]
      exact hmg0
    obtain ⟨fd, hb, hF⟩ := BF.facts (P := (PySem.Challenge.rw_bridgefind_k50_whole_a_key_changes_littl).prog) (w := w) KX G hmg c
    exact ⟨K, fd, _, KX, hb, fun H a ns hl _ hS => BF.law_sp H a ns hS, hF⟩
