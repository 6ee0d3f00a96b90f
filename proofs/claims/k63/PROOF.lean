import PyProof.Rows.All
import PySem.Challenge.RW_answerwide_k63_whole_crossing_lots
import Wide.All
import OpenK.AllK
import Wide.FinOn
import HandS.ForMost
import HandS.Deep
import HandS.Flow
import HandS.IsInst
import HandS.Wide
import HandS.WideBits
import HandS.Walk
import HandS.Style
import HandS.RaiseMore
import KE.SortData
set_option Elab.async false
set_option linter.all false
set_option maxRecDepth 100000
/-! Dv, part A: plain data over the abstract heap: regions, what represents what, slots, worlds, steps -/
namespace Dv
open PySem PySem.Spec PyProof.Rows L2

/-! ### masks and regions -/
/-- which lists a value may reach: d lists of the callers, c lists made since the entry, g lists of the written part -/
structure Msk where
  d : Bool
  c : Bool
  g : Bool
  deriving DecidableEq
abbrev m0 : Msk := ⟨false, false, false⟩
abbrev mC : Msk := ⟨false, true, false⟩
abbrev mD : Msk := ⟨true, false, false⟩
abbrev mG : Msk := ⟨false, false, true⟩
def Msk.or (a b : Msk) : Msk := ⟨a.d || b.d, a.c || b.c, a.g || b.g⟩
def Msk.le (a b : Msk) : Bool := (!a.d || b.d) && (!a.c || b.c) && (!a.g || b.g)
/-- the mask of a fresh list of such items once it is kept -/
def Msk.kept (a : Msk) : Msk := if a.d then a else ⟨a.d, true, a.g⟩
structure Reg where
  mem : Addr → Prop
  imm : Prop
def Reg.le (R R' : Reg) : Prop := (∀ a, R.mem a → R'.mem a) ∧ (R.imm → R'.imm)
theorem Reg.le_refl (R : Reg) : R.le R := ⟨fun _ h => h, fun h => h⟩

/-! ### data -/
def keyD : Key → PyData
  | .inl i => .int i
  | .inr x => .str x
def toKey : PyData → Option Key
  | .int i => some (.inl i)
  | .str x => some (.inr x)
  | _ => none
def toKeys : List PyData → Option (List Key)
  | [] => some []
  | d :: ds => (toKey d).bind fun k => (toKeys ds).map fun ks => k :: ks
theorem keyD_of {d : PyData} {k : Key} (h : toKey d = some k) : d = keyD k := by
  cases d <;> simp [toKey] at h <;> subst h <;> rfl
theorem keysD_of : ∀ {ds : List PyData} {ks : List Key}, toKeys ds = some ks → ds = ks.map keyD
  | [], ks, h => by simp [toKeys] at h; subst h; rfl
  | d :: ds, ks, h => by
    simp only [toKeys, Option.bind_eq_some_iff, Option.map_eq_some_iff] at h
    obtain ⟨k, h1, ks', h2, rfl⟩ := h
    rw [keyD_of h1, keysD_of h2]
    rfl

/-- a list that is never written: locked or of the written part -/
def ImmL (K : PySem.W.Frag) (H : Hp) (a : Addr) (xs : List V) : Prop :=
  (∃ o, H a = some (.frz o (.lst xs))) ∨
    ∃ (o : Obj) (its : Array Value) (n : Nat), K.lookup a = some o ∧ o.cls = .type "list" ∧ o.dict = none ∧ o.data = .seq its n ∧ its.size ≤ sizeLine ∧ Vals xs its.toList
theorem ImmL.seq {K : PySem.W.Frag} {H : Hp} {a : Addr} {xs : List V} (h : ImmL K H a xs) : SqL K H a xs := by
  rcases h with h | h
  · exact .inl (.inr h)
  · exact .inr h

mutual
inductive Dr (K : PySem.W.Frag) (R : Reg) (H : Hp) : V → PyData → Prop
  | non : Dr K R H .non .none
  | bl (b : Bool) : Dr K R H (.bl b) (.bool b)
  | int (i : Int) : Dr K R H (.int i) (.int i)
  | str (x : Str) : Dr K R H (.str x) (.str x)
  | lst {a : Addr} {xs : List V} {ds : List PyData} : R.mem a → H a = some (.lst xs) → DrAll K R H xs ds → Dr K R H (.ref a) (.list ds)
  | lstI {a : Addr} {xs : List V} {ds : List PyData} : R.imm → ImmL K H a xs → DrAll K R H xs ds → Dr K R H (.ref a) (.list ds)
  | tup {a : Addr} {xs : List V} {ds : List PyData} : SqT K H a xs → DrAll K R H xs ds → Dr K R H (.ref a) (.tuple ds)
  | dK {a : Addr} {ks : List Key} {xs : List V} {ds : List PyData} : R.mem a → H a = some (.dK (ks.zip xs)) → ks.length = xs.length → DrAll K R H xs ds → Dr K R H (.ref a) (.dict ((ks.map keyD).zip ds))
  | dT {a : Addr} {ks : List (List Key)} {xs : List V} {ds : List PyData} : R.mem a → H a = some (.dT (ks.zip xs)) → ks.length = xs.length → DrAll K R H xs ds →
      Dr K R H (.ref a) (.dict ((ks.map fun k => PyData.tuple (k.map keyD)).zip ds))
inductive DrAll (K : PySem.W.Frag) (R : Reg) (H : Hp) : List V → List PyData → Prop
  | nil : DrAll K R H [] []
  | cons {v : V} {vs : List V} {d : PyData} {ds : List PyData} : Dr K R H v d → DrAll K R H vs ds → DrAll K R H (v :: vs) (d :: ds)
end

/-- what heaps a description outlives -/
structure Keeps (R : Reg) (H : Hp) (R' : Reg) (H' : Hp) : Prop where
  mem : ∀ a, R.mem a → R'.mem a
  imm : R.imm → R'.imm
  at_ : ∀ a o, R.mem a → H a = some o → H' a = some o
  tup : ∀ a xs, H a = some (.tup xs) → H' a = some (.tup xs)
  frz : ∀ a o u, H a = some (.frz o u) → H' a = some (.frz o u)
theorem Keeps.seqT {K : PySem.W.Frag} {R R' : Reg} {H H' : Hp} (k : Keeps R H R' H') {a : Addr} {xs : List V} (h : SqT K H a xs) : SqT K H' a xs := by
  rcases h with (h | ⟨o, h⟩) | h
  · exact .inl (.inl (k.tup _ _ h))
  · exact .inl (.inr ⟨o, k.frz _ _ _ h⟩)
  · exact .inr h
theorem Keeps.immL {K : PySem.W.Frag} {R R' : Reg} {H H' : Hp} (k : Keeps R H R' H') {a : Addr} {xs : List V} (h : ImmL K H a xs) : ImmL K H' a xs := by
  rcases h with ⟨o, h⟩ | h
  · exact .inl ⟨o, k.frz _ _ _ h⟩
  · exact .inr h
mutual
theorem Dr.mono {K : PySem.W.Frag} {R R' : Reg} {H H' : Hp} (k : Keeps R H R' H') : ∀ {v : V} {d : PyData}, Dr K R H v d → Dr K R' H' v d
  | _, _, .non => .non
  | _, _, .bl b => .bl b
  | _, _, .int i => .int i
  | _, _, .str x => .str x
  | _, _, .lst h1 h2 h3 => .lst (k.mem _ h1) (k.at_ _ _ h1 h2) (DrAll.mono k h3)
  | _, _, .lstI h1 h2 h3 => .lstI (k.imm h1) (k.immL h2) (DrAll.mono k h3)
  | _, _, .tup h1 h2 => .tup (k.seqT h1) (DrAll.mono k h2)
  | _, _, .dK h1 h2 h3 h4 => .dK (k.mem _ h1) (k.at_ _ _ h1 h2) h3 (DrAll.mono k h4)
  | _, _, .dT h1 h2 h3 h4 => .dT (k.mem _ h1) (k.at_ _ _ h1 h2) h3 (DrAll.mono k h4)
theorem DrAll.mono {K : PySem.W.Frag} {R R' : Reg} {H H' : Hp} (k : Keeps R H R' H') : ∀ {vs : List V} {ds : List PyData}, DrAll K R H vs ds → DrAll K R' H' vs ds
  | _, _, .nil => .nil
  | _, _, .cons a b => .cons (Dr.mono k a) (DrAll.mono k b)
end
theorem DrAll.length {K : PySem.W.Frag} {R : Reg} {H : Hp} : ∀ {vs : List V} {ds : List PyData}, DrAll K R H vs ds → vs.length = ds.length
  | _, _, .nil => rfl
  | _, _, .cons _ b => by simp [DrAll.length b]
theorem DrAll.append {K : PySem.W.Frag} {R : Reg} {H : Hp} : ∀ {vs ws : List V} {ds es : List PyData}, DrAll K R H vs ds → DrAll K R H ws es → DrAll K R H (vs ++ ws) (ds ++ es)
  | _, _, _, _, .nil, s => s
  | _, _, _, _, .cons a b, s => .cons a (DrAll.append b s)
theorem DrAll.get {K : PySem.W.Frag} {R : Reg} {H : Hp} : ∀ {vs : List V} {ds : List PyData} {i : Nat} {d : PyData}, DrAll K R H vs ds → ds[i]? = some d → ∃ v, vs[i]? = some v ∧ Dr K R H v d
  | _, _, _, _, .nil, e => by simp at e
  | _, _, 0, _, .cons a _, e => by simp at e; subst e; exact ⟨_, rfl, a⟩
  | _, _, i + 1, d, .cons _ b, e => by
    obtain ⟨v, h1, h2⟩ := DrAll.get (i := i) (d := d) b (by simpa using e)
    exact ⟨v, by simpa using h1, h2⟩
theorem DrAll.getV {K : PySem.W.Frag} {R : Reg} {H : Hp} : ∀ {vs : List V} {ds : List PyData} {i : Nat} {v : V}, DrAll K R H vs ds → vs[i]? = some v → ∃ d, ds[i]? = some d ∧ Dr K R H v d
  | _, _, _, _, .nil, e => by simp at e
  | _, _, 0, _, .cons a _, e => by simp at e; subst e; exact ⟨_, rfl, a⟩
  | _, _, i + 1, d, .cons _ b, e => by
    obtain ⟨v, h1, h2⟩ := DrAll.getV (i := i) (v := d) b (by simpa using e)
    exact ⟨v, by simpa using h1, h2⟩
theorem DrAll.take {K : PySem.W.Frag} {R : Reg} {H : Hp} : ∀ {vs : List V} {ds : List PyData} (n : Nat), DrAll K R H vs ds → DrAll K R H (vs.take n) (ds.take n)
  | _, _, 0, _ => .nil
  | _, _, _ + 1, .nil => .nil
  | _, _, n + 1, .cons a b => .cons a (DrAll.take n b)
theorem DrAll.drop {K : PySem.W.Frag} {R : Reg} {H : Hp} : ∀ {vs : List V} {ds : List PyData} (n : Nat), DrAll K R H vs ds → DrAll K R H (vs.drop n) (ds.drop n)
  | _, _, 0, h => h
  | _, _, _ + 1, .nil => .nil
  | _, _, n + 1, .cons _ b => DrAll.drop n b
theorem DrAll.set {K : PySem.W.Frag} {R : Reg} {H : Hp} {v : V} {d : PyData} (r : Dr K R H v d) : ∀ {vs : List V} {ds : List PyData} (i : Nat), DrAll K R H vs ds → DrAll K R H (vs.set i v) (ds.set i d)
  | _, _, _, .nil => .nil
  | _, _, 0, .cons _ b => .cons r b
  | _, _, i + 1, .cons a b => .cons a (DrAll.set r i b)
theorem DrAll.rep {K : PySem.W.Frag} {R : Reg} {H : Hp} {vs : List V} {ds : List PyData} (h : DrAll K R H vs ds) : ∀ k : Nat, DrAll K R H (List.replicate k vs).flatten (List.replicate k ds).flatten
  | 0 => .nil
  | k + 1 => by rw [List.replicate_succ, List.replicate_succ, List.flatten_cons, List.flatten_cons]; exact h.append (DrAll.rep h k)

/-! ### depth of data without dicts -/
mutual
def dep : Nat → PyData → Bool
  | _, .none | _, .bool _ | _, .int _ => true
  | _, .str x => PyData.strOk x
  | 0, .list _ | 0, .tuple _ => false
  | n + 1, .list xs => depAll n xs
  | n + 1, .tuple xs => depAll n xs
  | _, .dict _ => false
def depAll : Nat → List PyData → Bool
  | _, [] => true
  | n, x :: xs => dep n x && depAll n xs
end
theorem depAll_eq (n : Nat) : ∀ xs : List PyData, depAll n xs = xs.all (dep n)
  | [] => rfl
  | x :: xs => by rw [depAll, List.all_cons, depAll_eq n xs]
mutual
theorem dep_lay : ∀ (d : PyData) (n : Nat), dep n d = true → d.canLay0 = true ∧ d.depth ≤ n
  | .none, n, _ | .bool _, n, _ | .int _, n, _ => by simp [PyData.canLay0, PyData.depth]
  | .str x, n, h => by
    have h' : PyData.strOk x = true := by cases n <;> simpa [dep] using h
    simp [PyData.canLay0, PyData.depth, h']
  | .list xs, 0, h => by simp [dep] at h
  | .list xs, n + 1, h => by
    obtain ⟨h1, h2⟩ := depAll_lay xs n (by simpa [dep] using h)
    simp only [PyData.canLay0, PyData.depth]
    exact ⟨h1, by omega⟩
  | .tuple xs, 0, h => by simp [dep] at h
  | .tuple xs, n + 1, h => by
    obtain ⟨h1, h2⟩ := depAll_lay xs n (by simpa [dep] using h)
    simp only [PyData.canLay0, PyData.depth]
    exact ⟨h1, by omega⟩
  | .dict _, n, h => by cases n <;> simp [dep] at h
theorem depAll_lay : ∀ (ds : List PyData) (n : Nat), depAll n ds = true → PyData.canLayAll0 ds = true ∧ PyData.depthAll ds ≤ n
  | [], n, _ => by simp [PyData.canLayAll0, PyData.depthAll]
  | d :: ds, n, h => by
    rw [depAll, Bool.and_eq_true] at h
    obtain ⟨a1, a2⟩ := dep_lay d n h.1
    obtain ⟨b1, b2⟩ := depAll_lay ds n h.2
    simp only [PyData.canLayAll0, PyData.depthAll, a1, b1, Bool.and_self, true_and]
    omega
end
theorem dep_shaped {d : PyData} {n : Nat} (h : dep n d = true) (hn : n ≤ 64) : SeqAt.shaped d = true := by
  obtain ⟨a, b⟩ := dep_lay d n h
  rw [SeqAt.shaped, a, Bool.true_and]
  exact decide_eq_true (Nat.le_trans b hn)
mutual
theorem Dr.dp {K : PySem.W.Frag} {R : Reg} {H : Hp} : ∀ {v : V} (d : PyData) (n : Nat), dep n d = true → Dr K R H v d → Dp K H v d
  | _, _, _, _, .non => .non
  | _, _, _, _, .bl b => .bl b
  | _, _, _, _, .int i => .int i
  | _, _, _, _, .str x => .str x
  | _, _, 0, h, .lst _ _ _ => by simp [dep] at h
  | _, _, 0, h, .lstI _ _ _ => by simp [dep] at h
  | _, _, 0, h, .tup _ _ => by simp [dep] at h
  | _, _, n + 1, h, .lst _ h2 h3 => .lst (SqL.of h2) (DrAll.dp _ n (by simpa [dep] using h) h3)
  | _, _, n + 1, h, .lstI _ h2 h3 => .lst h2.seq (DrAll.dp _ n (by simpa [dep] using h) h3)
  | _, _, n + 1, h, .tup h1 h2 => .tup h1 (DrAll.dp _ n (by simpa [dep] using h) h2)
  | _, _, n, h, .dK _ _ _ _ => by cases n <;> simp [dep] at h
  | _, _, n, h, .dT _ _ _ _ => by cases n <;> simp [dep] at h
theorem DrAll.dp {K : PySem.W.Frag} {R : Reg} {H : Hp} : ∀ {vs : List V} (ds : List PyData) (n : Nat), depAll n ds = true → DrAll K R H vs ds → DpAll K H vs ds
  | _, _, _, _, .nil => .nil
  | _, _, n, h, .cons a b => by
    rw [depAll, Bool.and_eq_true] at h
    exact .cons (Dr.dp _ n h.1 a) (DrAll.dp _ n h.2 b)
end

/-! ### objects that a def owns -/
inductive OC where
  | l (ds : List PyData)
  | dk (ks : List Key) (ds : List PyData)
  | dt (ks : List (List Key)) (ds : List PyData)
def OC.data : OC → PyData
  | .l ds => .list ds
  | .dk ks ds => .dict ((ks.map keyD).zip ds)
  | .dt ks ds => .dict ((ks.map fun k => PyData.tuple (k.map keyD)).zip ds)
def OwR (K : PySem.W.Frag) (R : Reg) (H : Hp) (p : Addr) : OC → Prop
  | .l ds => ∃ vs, H p = some (.lst vs) ∧ DrAll K R H vs ds
  | .dk ks ds => ∃ vs, H p = some (.dK (ks.zip vs)) ∧ ks.length = vs.length ∧ DrAll K R H vs ds
  | .dt ks ds => ∃ vs, H p = some (.dT (ks.zip vs)) ∧ ks.length = vs.length ∧ DrAll K R H vs ds
theorem OwR.some_ {K : PySem.W.Frag} {R : Reg} {H : Hp} {p : Addr} {o : OC} (h : OwR K R H p o) : ∃ u, H p = some u ∧ (∀ xs, u ≠ .tup xs) ∧ ∀ ob w, u ≠ .frz ob w := by
  cases o with
  | l ds => obtain ⟨vs, e, _⟩ := h; exact ⟨_, e, by simp, by simp⟩
  | dk ks ds => obtain ⟨vs, e, _⟩ := h; exact ⟨_, e, by simp, by simp⟩
  | dt ks ds => obtain ⟨vs, e, _⟩ := h; exact ⟨_, e, by simp, by simp⟩
theorem OwR.mono {K : PySem.W.Frag} {R R' : Reg} {H H' : Hp} (k : Keeps R H R' H') {p : Addr} (hp : ∀ u, H p = some u → H' p = some u) {o : OC} (h : OwR K R H p o) : OwR K R' H' p o := by
  cases o with
  | l ds => obtain ⟨vs, e, a⟩ := h; exact ⟨vs, hp _ e, a.mono k⟩
  | dk ks ds => obtain ⟨vs, e, l, a⟩ := h; exact ⟨vs, hp _ e, l, a.mono k⟩
  | dt ks ds => obtain ⟨vs, e, l, a⟩ := h; exact ⟨vs, hp _ e, l, a.mono k⟩
/-- an owned object that is kept becomes plain data -/
theorem OwR.keep {K : PySem.W.Frag} {R R' : Reg} {H : Hp} (k : Keeps R H R' H) {p : Addr} (hp : R'.mem p) {o : OC} (h : OwR K R H p o) : Dr K R' H (.ref p) o.data := by
  cases o with
  | l ds => obtain ⟨vs, e, a⟩ := h; exact .lst hp e (a.mono k)
  | dk ks ds => obtain ⟨vs, e, l, a⟩ := h; exact .dK hp e l (a.mono k)
  | dt ks ds => obtain ⟨vs, e, l, a⟩ := h; exact .dT hp e l (a.mono k)

/-! ### slots, results -/
inductive Sl where
  | emp
  | val (d : PyData) (m : Msk)
  | own (o : OC) (m : Msk) (io : Bool)
  | lck (o : OC) (m : Msk) (io : Bool)
abbrev En := List Sl
inductive Rs where
  | val (d : PyData) (m : Msk)
  | new (o : OC) (m : Msk)
def Rs.data : Rs → PyData
  | .val d _ => d
  | .new o _ => o.data

/-! ### worlds -/
structure Fx where
  K : PySem.W.Frag
  H0 : Hp
  IO : Addr → Prop
  D0 : Addr → Prop
structure Wd where
  H : Hp
  Sd : Addr → Prop
  Sc : Addr → Prop
def Wd.S (W : Wd) (a : Addr) : Prop := W.Sd a ∨ W.Sc a
def Wd.rg (W : Wd) (m : Msk) : Reg := ⟨fun a => (m.d = true ∧ W.Sd a) ∨ (m.c = true ∧ W.Sc a), m.g = true⟩
theorem Wd.rg_sub {W : Wd} {m : Msk} {a : Addr} (h : (W.rg m).mem a) : W.S a := by
  rcases h with ⟨_, h⟩ | ⟨_, h⟩
  · exact .inl h
  · exact .inr h
theorem Msk.le_rg {W : Wd} {a b : Msk} (h : a.le b = true) : (W.rg a).le (W.rg b) := by
  obtain ⟨ad, ac, ag⟩ := a
  obtain ⟨bd, bc, bg⟩ := b
  simp only [Msk.le, Bool.and_eq_true, Bool.or_eq_true, Bool.not_eq_true'] at h
  obtain ⟨⟨h1, h2⟩, h3⟩ := h
  refine ⟨fun x hx => ?_, fun hx => ?_⟩
  · rcases hx with ⟨e, hx⟩ | ⟨e, hx⟩
    · refine .inl ⟨?_, hx⟩
      rcases h1 with h1 | h1
      · simp only at e; rw [e] at h1; cases h1
      · exact h1
    · refine .inr ⟨?_, hx⟩
      rcases h2 with h2 | h2
      · simp only at e; rw [e] at h2; cases h2
      · exact h2
  · have e : ag = true := hx
    show bg = true
    rcases h3 with h3 | h3
    · rw [e] at h3; cases h3
    · exact h3
theorem Reg.keeps {R R' : Reg} {H : Hp} (h : R.le R') : Keeps R H R' H := ⟨h.1, h.2, fun _ _ _ e => e, fun _ _ e => e, fun _ _ _ e => e⟩
theorem Msk.le_or_l (a b : Msk) : a.le (a.or b) = true := by
  obtain ⟨ad, ac, ag⟩ := a
  obtain ⟨bd, bc, bg⟩ := b
  cases ad <;> cases ac <;> cases ag <;> simp [Msk.le, Msk.or]
theorem Msk.le_or_r (a b : Msk) : b.le (a.or b) = true := by
  obtain ⟨ad, ac, ag⟩ := a
  obtain ⟨bd, bc, bg⟩ := b
  cases bd <;> cases bc <;> cases bg <;> simp [Msk.le, Msk.or]
theorem Msk.le_refl (a : Msk) : a.le a = true := by
  obtain ⟨ad, ac, ag⟩ := a
  cases ad <;> cases ac <;> cases ag <;> rfl
theorem Msk.le_kept (a : Msk) : a.le a.kept = true := by
  obtain ⟨ad, ac, ag⟩ := a
  cases ad <;> cases ac <;> cases ag <;> rfl
theorem Msk.m0_le (a : Msk) : m0.le a = true := rfl

/-- an owned object in the slot i -/
def OwnAt (σV : L2.St) (σ : En) (i : Nat) (p : Addr) : Prop := (∃ o m io, σ[i]? = some (.own o m io) ∨ σ[i]? = some (.lck o m io)) ∧ σV[i]? = some (some (.ref p))
def Ow (σV : L2.St) (σ : En) (p : Addr) : Prop := ∃ i, OwnAt σV σ i p

def SlR (F : Fx) (W : Wd) (x : Option (Option V)) : Sl → Prop
  | .emp => True
  | .val d m => ∃ v, x = some (some v) ∧ Dr F.K (W.rg m) W.H v d
  | .own o m io => ∃ p, x = some (some (.ref p)) ∧ ¬ W.S p ∧ OwR F.K (W.rg m) W.H p o ∧ (if io = true then F.IO p else F.H0 p = none)
  | .lck o m io => ∃ p, x = some (some (.ref p)) ∧ ¬ W.S p ∧ OwR F.K (W.rg m) W.H p o ∧ (if io = true then F.IO p else F.H0 p = none)

structure Rel (F : Fx) (σV : L2.St) (σ : En) (W : Wd) : Prop where
  len : σV.length = σ.length
  live : ∀ a, W.S a → ∃ u, W.H a = some u
  disj : ∀ a, W.Sd a → W.Sc a → False
  newC : ∀ a, W.Sc a → F.H0 a = none
  oldD : ∀ a, W.Sd a → F.D0 a ∨ F.H0 a = none
  base : ∀ a o, F.H0 a = some o → ¬ F.IO a → W.H a = some o
  old : ∀ a o, F.H0 a = some o → ∃ u, W.H a = some u
  slot : ∀ (i : Nat) (s : Sl), σ[i]? = some s → SlR F W σV[i]? s
  dist : ∀ (i j : Nat) (p : Addr), OwnAt σV σ i p → OwnAt σV σ j p → i = j
theorem Rel.fresh {F : Fx} {σV : L2.St} {σ : En} {W : Wd} (R : Rel F σV σ W) {p : Addr} (h : W.H p = none) : F.H0 p = none ∧ ¬ W.S p ∧ ¬ Ow σV σ p := by
  refine ⟨?_, fun hs => ?_, fun ⟨i, ⟨o, m, io, h1⟩, h2⟩ => ?_⟩
  · cases e : F.H0 p with
    | none => rfl
    | some o =>
      obtain ⟨u, e2⟩ := R.old p o e
      rw [h] at e2
      cases e2
  · obtain ⟨u, e⟩ := R.live p hs
    rw [h] at e
    cases e
  · have key : ∃ q, σV[i]? = some (some (.ref q)) ∧ ∃ u, W.H q = some u := by
      rcases h1 with h1 | h1
      · obtain ⟨q, e, _, ow, _⟩ := R.slot i _ h1
        obtain ⟨u, e2, _⟩ := ow.some_
        exact ⟨q, e, u, e2⟩
      · obtain ⟨q, e, _, ow, _⟩ := R.slot i _ h1
        obtain ⟨u, e2, _⟩ := ow.some_
        exact ⟨q, e, u, e2⟩
    obtain ⟨q, e, u, e2⟩ := key
    rw [h2] at e
    cases e
    rw [h] at e2
    cases e2
theorem Rel.own_at {F : Fx} {σV : L2.St} {σ : En} {W : Wd} (R : Rel F σV σ W) {p : Addr} (h : Ow σV σ p) : ∃ u, W.H p = some u ∧ ¬ W.S p ∧ (∀ xs, u ≠ .tup xs) ∧ ∀ ob w, u ≠ .frz ob w := by
  obtain ⟨i, ⟨o, m, io, h1⟩, h2⟩ := h
  rcases h1 with h1 | h1
  · obtain ⟨q, e, hs, ow, _⟩ := R.slot i _ h1
    rw [h2] at e
    cases e
    obtain ⟨u, e2, h3, h4⟩ := ow.some_
    exact ⟨u, e2, hs, h3, h4⟩
  · obtain ⟨q, e, hs, ow, _⟩ := R.slot i _ h1
    rw [h2] at e
    cases e
    obtain ⟨u, e2, h3, h4⟩ := ow.some_
    exact ⟨u, e2, hs, h3, h4⟩

/-- from world to world, O the owned objects -/
structure Step (O : Addr → Prop) (W : Wd) (O' : Addr → Prop) (W' : Wd) : Prop where
  keep : ∀ a o, W.H a = some o → ¬ O a → W'.H a = some o
  grow : ∀ a, W'.S a → W.S a ∨ W.H a = none ∨ O a
  own : ∀ a, O' a → O a ∨ W.H a = none
  subD : ∀ a, W.Sd a → W'.Sd a
  subC : ∀ a, W.Sc a → W'.Sc a
  live : ∀ a o, W.H a = some o → ∃ u, W'.H a = some u
theorem Step.refl (O : Addr → Prop) (W : Wd) : Step O W O W := ⟨fun _ _ e _ => e, fun _ h => .inl h, fun _ h => .inl h, fun _ h => h, fun _ h => h, fun _ o e => ⟨o, e⟩⟩
theorem Step.trans {O O1 O2 : Addr → Prop} {W W1 W2 : Wd} (a : Step O W O1 W1) (b : Step O1 W1 O2 W2) : Step O W O2 W2 where
  keep := fun x o e n => by
    have e1 := a.keep x o e n
    refine b.keep x o e1 fun h => ?_
    rcases a.own x h with h | h
    · exact n h
    · rw [e] at h; cases h
  grow := fun x h => by
    rcases b.grow x h with h | h | h
    · exact a.grow x h
    · by_cases ho : O x
      · exact .inr (.inr ho)
      · cases e : W.H x with
        | none => exact .inr (.inl rfl)
        | some o => rw [a.keep x o e ho] at h; cases h
    · rcases a.own x h with h | h
      · exact .inr (.inr h)
      · exact .inr (.inl h)
  own := fun x h => by
    rcases b.own x h with h | h
    · exact a.own x h
    · by_cases ho : O x
      · exact .inl ho
      · cases e : W.H x with
        | none => exact .inr rfl
        | some o => rw [a.keep x o e ho] at h; cases h
  subD := fun x h => b.subD x (a.subD x h)
  subC := fun x h => b.subC x (a.subC x h)
  live := fun x o e => let ⟨u, q⟩ := a.live x o e; b.live x u q
/-- what stands outside of the owned objects outlives a step -/
theorem Step.keeps {O O' : Addr → Prop} {W W' : Wd} (s : Step O W O' W') (hS : ∀ a, W.S a → ¬ O a) (hO : ∀ a u, O a → W.H a = some u → (∀ xs, u ≠ .tup xs) ∧ ∀ ob w, u ≠ .frz ob w) (m : Msk) :
    Keeps (W.rg m) W.H (W'.rg m) W'.H where
  mem := fun a h => by
    rcases h with ⟨e, h⟩ | ⟨e, h⟩
    · exact .inl ⟨e, s.subD a h⟩
    · exact .inr ⟨e, s.subC a h⟩
  imm := fun h => h
  at_ := fun a o h e => s.keep a o e (hS a (Wd.rg_sub h))
  tup := fun a xs e => s.keep a _ e fun h => (hO a _ h e).1 xs rfl
  frz := fun a o u e => s.keep a _ e fun h => (hO a _ h e).2 o u rfl
theorem Rel.keeps {F : Fx} {σV σV' : L2.St} {σ σ' : En} {W W' : Wd} (R : Rel F σV σ W) (s : Step (Ow σV σ) W (Ow σV' σ') W') (m : Msk) : Keeps (W.rg m) W.H (W'.rg m) W'.H :=
  s.keeps (fun a h o => (R.own_at o).elim fun _ q => q.2.1 h) (fun a u o e => by
    obtain ⟨u', e', _, q⟩ := R.own_at o
    rw [e] at e'
    cases e'
    exact q) m

/-- a result -/
def RsR (F : Fx) (O : Addr → Prop) (W : Wd) (v : V) : Rs → Prop
  | .val d m => Dr F.K (W.rg m) W.H v d
  | .new o m => ∃ p, v = .ref p ∧ ¬ W.S p ∧ ¬ O p ∧ F.H0 p = none ∧ OwR F.K (W.rg m) W.H p o
theorem RsR.step {F : Fx} {σV σV' : L2.St} {σ σ' : En} {W W' : Wd} (R : Rel F σV σ W) (s : Step (Ow σV σ) W (Ow σV' σ') W') {v : V} {r : Rs} (h : RsR F (Ow σV σ) W v r) : RsR F (Ow σV' σ') W' v r := by
  cases r with
  | val d m => exact Dr.mono (R.keeps s m) h
  | new o m =>
    obtain ⟨p, rfl, h1, h2, h3, h4⟩ := h
    obtain ⟨u, e, _⟩ := h4.some_
    refine ⟨p, rfl, fun hs => ?_, fun ho => ?_, h3, h4.mono (R.keeps s m) fun u e => s.keep p u e h2⟩
    · rcases s.grow p hs with z | z | z
      · exact h1 z
      · rw [e] at z; cases z
      · exact h2 z
    · rcases s.own p ho with z | z
      · exact h2 z
      · rw [e] at z; cases z
end Dv

/-! Dv, part B: the small language and what it evaluates to -/
namespace Dv
open PySem PySem.Spec PySem.W PyProof.Rows L2

/-- what a def of the text hands back: a value, or a new object of its own -/
inductive Rt where
  | v (d : PyData)
  | n (o : OC)
/-- a def of the text: its name, parameters, the parameter that is a list changed by the call (if any), what its result may reach, what it reckons (the result, the changed list's new items) -/
structure FSig where
  name : Str
  ps : List Str
  io : Option Nat
  rk : Msk
  gi : Bool
  sem : List PyData → Option (Rt × List PyData)
  tod : Bool := false

inductive Tg where
  | nm (i : Nat)
  | tup (is : List Nat)
def Tg.slots : Tg → List Nat
  | .nm i => [i]
  | .tup is => is

/-- built-in functions and types, called by name -/
inductive Bl where
  | len | repr | sum | min1 | max1 | min2 | max2 | abs | int | list | tuple | sorted | isinst (T : String)
/-- methods of built-in types (the receiver is read) -/
inductive Mt where
  | bitLength | index | count

mutual
inductive IE where
  | var (i : Nat)
  | lit (d : PyData)
  | glb (x : Str) (d : PyData)
  | bin (o : Operator) (a b : IE)
  | neg (a : IE)
  | cmp (o : CmpOp) (a b : IE)
  | chn (o o' : CmpOp) (a b c : IE)
  | and (a b : IE)
  | or (a b : IE)
  | one (a : IE)
  | not (a : IE)
  | ife (c a b : IE)
  | lst (xs : IL) (m : Msk)
  | tup (xs : IL)
  | idx (a i : IE)
  | slc (a : IE) (lo hi : IO)
  | lc (elt : IE) (tg : Tg) (it : II) (cnd : IO) (m : Msk)
  | call (f : FSig) (args : IL)
  | callk (f : FSig) (args : IL) (kws : List Nat) (kargs : IL)
  | blt (b : Bl) (args : IL)
  | mth (b : Mt) (o : IE) (args : IL)
inductive IL where
  | nil
  | cons (e : IE) (es : IL)
inductive IO where
  | no
  | yes (e : IE)
inductive II where
  | seq (e : IE)
  | rng (args : IL)
  | enu (e : IE)
  | zip (a b : IE)
end

def IL.len : IL → Nat
  | .nil => 0
  | .cons _ es => es.len + 1
/-! ### operations on data -/
/-- the longest list -/
abbrev LIM : Nat := 16777216
/-- the depth that is served -/
abbrev DEP : Nat := 60
def nm : PyData → Msk → Msk
  | .none, _ | .bool _, _ | .int _, _ | .str _, _ => m0
  | _, m => m
def peek (σ : En) (i : Nat) : Option (PyData × Msk) :=
  match σ[i]? with
  | some (.val d m) => some (d, nm d m)
  | some (.own o m _) => some (o.data, m)
  | some (.lck o m _) => some (o.data, m)
  | _ => none
/-- an operand: a name, read when all operands stand; or a result -/
inductive Opd where
  | pk (i : Nat)
  | rs (r : Rs)
def Opd.get (σ : En) : Opd → Option (PyData × Msk)
  | .pk i => peek σ i
  | .rs (.val d m) => some (d, m)
  | .rs (.new o m) => some (o.data, m)
/-- a name's value is kept: its own object is no more its own -/
def grab (σ : En) (i : Nat) : Option (PyData × Msk × En) :=
  match σ[i]? with
  | some (.val d m) => some (d, nm d m, σ)
  | some (.own o m false) => some (o.data, m.kept, σ.set i (.val o.data m.kept))
  | _ => none
def Opd.keep (σ : En) : Opd → Option (PyData × Msk × En)
  | .pk i => grab σ i
  | .rs (.val d m) => some (d, m, σ)
  | .rs (.new o m) => some (o.data, m.kept, σ)
def mkOpd (e : IE) (r : Option (Rs × En)) (σ : En) : Option (Opd × En) :=
  match e with
  | .var i => if (peek σ i).isSome = true then some (.pk i, σ) else none
  | _ => r.map fun p => (.rs p.1, p.2)

def truth : PyData → Bool
  | .none => false
  | .bool b => b
  | .int i => i != 0
  | .str x => x.length != 0
  | .list xs => !xs.isEmpty
  | .tuple xs => !xs.isEmpty
  | .dict xs => !xs.isEmpty
/-- the truth of a text's value wants its length -/
def truthOk : PyData → Bool
  | .str x => decide (x.length ≤ LIM)
  | .dict _ => false
  | _ => true
def truthS (d : PyData) : Option Bool := if truthOk d then some (truth d) else none

def b2I (b : Bool) : Int := if b then 1 else 0
/-- sizes of products, powers -/
def smallI (n : Nat) (i : Int) : Bool := decide (i.natAbs.log2 < n)
def binS (o : Operator) (d e : PyData) (m m' : Msk) : Option Rs :=
  match o, d, e with
  | .Add, .int i, .int j => some (.val (.int (i + j)) m0)
  | .Add, .str x, .str y => if x.length + y.length ≤ LIM then some (.val (.str (x ++ y)) m0) else none
  | .Add, .list xs, .list ys => if decide (xs.length + ys.length ≤ LIM) && (!m.g && !m'.g) then some (.new (.l (xs ++ ys)) (m.or m')) else none
  | .Sub, .int i, .int j => some (.val (.int (i - j)) m0)
  | .Mult, .int i, .int j => if smallI 400000 i && smallI 400000 j then some (.val (.int (i * j)) m0) else none
  | .Mult, .list xs, .int k => if (decide (k < 16777217) && decide (-16777217 < k)) && (decide (xs.length * k.toNat ≤ LIM) && !m.g) then some (.new (.l (List.replicate k.toNat xs).flatten) m) else none
  | .FloorDiv, .int i, .int j => if decide (0 < j) && smallI 9000 j then some (.val (.int (i / j)) m0) else none
  | .Mod, .int i, .int j => if 0 < j then some (.val (.int (i % j)) m0) else none
  | .Pow, .int i, .int j => if (decide (0 ≤ j) && decide (j ≤ 100000)) && decide (i.natAbs.log2 * j.toNat < 100000) then some (.val (.int (i ^ j.toNat)) m0) else none
  | .LShift, .int i, .int j => if decide (0 ≤ j) && (decide (j ≤ 1000000) && smallI 1000000 i) then some (.val (.int (i * 2 ^ j.toNat)) m0) else none
  | .RShift, .int i, .int j => if 0 ≤ j then some (.val (.int (i / 2 ^ j.toNat)) m0) else none
  | .BitAnd, .int i, .int j => some (.val (.int (Builtin.bitAnd i j)) m0)
  | .BitOr, .int i, .int j => some (.val (.int (Builtin.bitOr i j)) m0)
  | .BitXor, .int i, .int j => some (.val (.int (Builtin.bitXor i j)) m0)
  | _, _, _ => none
def flatD : PyData → Bool
  | .none | .bool _ | .int _ | .str _ => true
  | _ => false
def isNon : PyData → Bool
  | .none => true
  | _ => false
def cmpS (o : CmpOp) (d e : PyData) : Option Bool :=
  match o, d, e with
  | .Lt, .int i, .int j => some (decide (i < j))
  | .LtE, .int i, .int j => some (decide (i ≤ j))
  | .Gt, .int i, .int j => some (decide (j < i))
  | .GtE, .int i, .int j => some (decide (j ≤ i))
  | .Eq, d, e => if dep DEP d && dep DEP e then some (PyData.eqv d e) else none
  | .NotEq, d, e => if dep DEP d && dep DEP e then some (!PyData.eqv d e) else none
  | .In, d, .list es => if dep DEP d && dep DEP (.list es) then some (es.any fun z => PyData.eqv z d) else none
  | .NotIn, d, .list es => if dep DEP d && dep DEP (.list es) then some (!es.any fun z => PyData.eqv z d) else none
  | .Is, d, .none => some (isNon d)
  | .IsNot, d, .none => some (!isNon d)
  | _, _, _ => none
/-- the order of data that sorts -/
def leD (a b : PyData) : Bool := dataLe false (fun d : PyData => d) a b
def insD (a : PyData) : List PyData → List PyData
  | [] => [a]
  | b :: r => if leD a b then a :: b :: r else b :: insD a r
def sortD : List PyData → List PyData
  | [] => []
  | a :: r => insD a (sortD r)
/-- the places of a slice -/
def cutD (xs : List PyData) (lo hi : Option Int) : List PyData := (xs.drop (HT.sIx xs.length 0 lo)).take (HT.sIx xs.length xs.length hi - HT.sIx xs.length 0 lo)
def allInts : List PyData → Option (List Int)
  | [] => some []
  | .int i :: r => (allInts r).map (i :: ·)
  | _ :: _ => none
/-- the built-in type of a value -/
def tyOf : PyData → String
  | .none => "NoneType"
  | .bool _ => "bool"
  | .int _ => "int"
  | .str _ => "str"
  | .list _ => "list"
  | .tuple _ => "tuple"
  | .dict _ => "dict"
def isTy (T : String) (d : PyData) : Option Bool := kitB (tyOf d) T
def noTup : PyData → Bool
  | .none => false
  | .tuple _ => false
  | _ => true
def neTup : PyData → Bool
  | .tuple (_ :: _) => true
  | _ => false
/-- a list of data of one shape that can be sorted -/
def sortable (xs : List PyData) : Bool := decide (xs.length ≤ LIM) && ((xs.all fun a => xs.all fun c => alike a c) && (xs.all noTup || xs.all neTup))
def minL : Int → List Int → Int
  | x, [] => x
  | x, y :: r => minL (if y < x then y else x) r
def maxL : Int → List Int → Int
  | x, [] => x
  | x, y :: r => maxL (if x < y then y else x) r
def bltS (b : Bl) (args : List (PyData × Msk)) : Option Rs :=
  match b, args with
  | .len, [(.list xs, _)] => some (.val (.int (xs.length : Nat)) m0)
  | .len, [(.tuple xs, _)] => some (.val (.int (xs.length : Nat)) m0)
  | .len, [(.str x, _)] => if x.length ≤ LIM then some (.val (.int (x.length : Nat)) m0) else none
  | .repr, [(d, _)] => if dep DEP d && (d.showable && decide (d.shown.length ≤ LIM)) then some (.val (.str d.shown) m0) else none
  | .sum, [(.list xs, _)] => (allInts xs).map fun ns => .val (.int ns.sum) m0
  | .min1, [(.list xs, _)] => (allInts xs).bind fun ns => match ns with | [] => none | x :: r => some (.val (.int (minL x r)) m0)
  | .max1, [(.list xs, _)] => (allInts xs).bind fun ns => match ns with | [] => none | x :: r => some (.val (.int (maxL x r)) m0)
  | .min2, [(.int i, _), (.int j, _)] => some (.val (.int (if j < i then j else i)) m0)
  | .max2, [(.int i, _), (.int j, _)] => some (.val (.int (if j > i then j else i)) m0)
  | .abs, [(.int i, _)] => some (.val (.int (if i < 0 then -i else i)) m0)
  | .int, [(.int i, _)] => some (.val (.int i) m0)
  | .int, [(.bool b, _)] => some (.val (.int (if b then 1 else 0)) m0)
  | .list, [(.list xs, m)] => some (.new (.l xs) m)
  | .list, [(.tuple xs, m)] => some (.new (.l xs) m)
  | .tuple, [(.list xs, m)] => some (.val (.tuple xs) m)
  | .tuple, [(.tuple xs, m)] => some (.val (.tuple xs) m)
  | .isinst T, [(d, _)] => (isTy T d).map fun r => .val (.bool r) m0
  | .sorted, [(.list xs, m)] => if depAll DEP xs && sortable xs then some (.new (.l (sortD xs)) m) else none
  | _, _ => none
def mthS (b : Mt) (o : PyData × Msk) (args : List (PyData × Msk)) : Option Rs :=
  match b, o, args with
  | .bitLength, (.int i, _), [] => some (.val (.int (Builtin.Int.intBits i : Nat)) m0)
  | _, _, _ => none
def idxS (a : PyData × Msk) (i : PyData) : Option Rs :=
  match a, i with
  | (.list xs, m), .int k => (atI xs k).map fun d => .val d (nm d m)
  | (.tuple xs, m), .int k => (atI xs k).map fun d => .val d (nm d m)
  | _, _ => none
def slcS (a : PyData × Msk) (lo hi : Option Int) : Option Rs :=
  match a with
  | (.list xs, m) => some (.new (.l (cutD xs lo hi)) m)
  | _ => none
def seqItems : PyData → Option (List PyData)
  | .list xs => some xs
  | .tuple xs => some xs
  | _ => none
/-- the turns of a range -/
def rngFrom (lo c : Int) : Nat → List PyData
  | 0 => []
  | n + 1 => .int lo :: rngFrom (lo + c) c n
def okR (i : Int) : Bool := decide (-(2 ^ 62) ≤ i) && decide (i < 2 ^ 62)
def rngS : List PyData → Option (List PyData)
  | [.int j] => if okR j then some (rngFrom 0 1 j.toNat) else none
  | [.int i, .int j] => if okR i && okR j then some (rngFrom i 1 (j - i).toNat) else none
  | [.int i, .int j, .int c] => if (okR i && okR j) && decide (c = -1) then some (rngFrom i (-1) (i - j).toNat) else none
  | _ => none
def enuS : Int → List PyData → List PyData
  | _, [] => []
  | k, x :: xs => .tuple [.int k, x] :: enuS (k + 1) xs
def zipS : List PyData → List PyData → List PyData
  | x :: xs, y :: ys => .tuple [x, y] :: zipS xs ys
  | _, _ => []
def setVals (m : Msk) : List Nat → List PyData → En → En
  | i :: is, d :: ds, σ => setVals m is ds (σ.set i (.val d (nm d m)))
  | _, _, σ => σ
def bindT (tg : Tg) (x : PyData) (m : Msk) (σ : En) : Option En :=
  match tg, x with
  | .nm i, x => some (σ.set i (.val x (nm x m)))
  | .tup is, .tuple xs => if is.length = xs.length then some (setVals m is xs σ) else none
  | _, _ => none
def wipeE : List Nat → En → En
  | [], σ => σ
  | v :: vs, σ => (wipeE vs σ).set v .emp
/-- the slots vs as they stand in σ, the others as in τ -/
def backE (σ : En) : List Nat → En → En
  | [], τ => τ
  | v :: vs, τ => match σ[v]? with
    | some s => (backE σ vs τ).set v s
    | none => backE σ vs τ
def lockE : List Nat → En → En
  | [], σ => σ
  | i :: is, σ => match σ[i]? with
    | some (.own o m io) => lockE is (σ.set i (.lck o m io))
    | _ => lockE is σ
def unlockE : List Nat → En → En
  | [], σ => σ
  | i :: is, σ => match σ[i]? with
    | some (.lck o m io) => unlockE is (σ.set i (.own o m io))
    | _ => unlockE is σ
def isOwn (σ : En) (i : Nat) : Bool := match σ[i]? with
  | some (.own _ _ _) => true
  | _ => false
/-- the names of own objects among operands -/
def Opd.locks (σ : En) : Opd → List Nat
  | .pk i => if isOwn σ i then [i] else []
  | .rs _ => []
def Rs.kept : Rs → PyData × Msk
  | .val d m => (d, m)
  | .new o m => (o.data, m.kept)
def lcGo (bf : PyData → En → Option En) (cf : En → Option (Bool × En)) (ef : En → Option (Rs × En)) (m : Msk) : List PyData → En → Option (List PyData × En)
  | [], σ => some ([], σ)
  | x :: xs, σ => (bf x σ).bind fun σ1 => (cf σ1).bind fun c => if c.1 = true then
      (ef c.2).bind fun r => if r.1.kept.2.le m then (lcGo bf cf ef m xs r.2).map fun q => (r.1.kept.1 :: q.1, q.2) else none
    else lcGo bf cf ef m xs c.2
/-- the operands of a call: data for all, the mask of what they reach; kept unless the result reaches nothing -/
def getAll (σ : En) : List Opd → Option (List (PyData × Msk))
  | [] => some []
  | x :: xs => (x.get σ).bind fun d => (getAll σ xs).map fun r => d :: r
def keepAll : List Opd → En → Option (List PyData × Msk × En)
  | [], σ => some ([], m0, σ)
  | x :: xs, σ => (x.keep σ).bind fun p => (keepAll xs p.2.2).map fun q => (p.1 :: q.1, p.2.1.or q.2.1, q.2.2)
/-- the mask of a call's result, by the mask of its arguments -/
def resM (t : Bool) (rk ma : Msk) : Msk :=
  ((if rk.d then ma else m0).or (if rk.c then (if (rk.d && ma.d) || t then mD else mC) else m0)).or (if rk.g then mG else m0)
def outRs (t : Bool) (rk ma : Msk) : Rt → Rs
  | .v d => .val d (nm d (resM t rk ma))
  | .n o => .new o (resM t rk ma)
def IL.at : IL → Nat → Option IE
  | .nil, _ => none
  | .cons e _, 0 => some e
  | .cons _ es, k + 1 => es.at k
/-- the list that a call changes: its slot and items -/
def ioOf (io : Option Nat) (args : IL) (σ : En) : Option (Option (Nat × List PyData)) :=
  match io with
  | none => some none
  | some k => match args.at k with
    | some (.var i) => match σ[i]? with
      | some (.own (.l ds) m _) => if m = m0 then some (some (i, ds)) else none
      | _ => none
    | _ => none
def setIo (io : Option Nat) (iv : Option (Nat × List PyData)) (ds : List PyData) : List PyData :=
  match io, iv with
  | some k, some v => ds.set k (.list v.2)
  | _, _ => ds
def putIo (iv : Option (Nat × List PyData)) (out : List PyData) (σ : En) : En :=
  match iv with
  | some v => match σ[v.1]? with
    | some (.own (.l _) m io) => σ.set v.1 (.own (.l out) m io)
    | _ => σ
  | none => σ
/-- no other operand is the name i -/
def noPk (i : Nat) : List Opd → Bool
  | [] => true
  | .pk j :: xs => (j != i) && noPk i xs
  | .rs _ :: xs => noPk i xs
def ioApart (io : Option Nat) (iv : Option (Nat × List PyData)) (ops : List Opd) : Bool :=
  match io, iv with
  | some k, some v => noPk v.1 (ops.eraseIdx k)
  | _, _ => true
/-- a call whose result reaches nothing: the operands are only read -/
def callB (f : FSig) (iv : Option (Nat × List PyData)) (ops : List Opd) (σ : En) : Option (Rs × En) :=
  if decide (ops.length = f.ps.length) && ioApart f.io iv ops then (getAll σ ops).bind fun ds => if (ds.any fun d => d.2.g) && !f.gi then none else
    (f.sem (ds.map (·.1))).map fun r => (outRs f.tod m0 m0 r.1, putIo iv r.2 σ) else none
/-- a call whose operands are kept -/
def callK (f : FSig) (iv : Option (Nat × List PyData)) (ds : List PyData) (m : Msk) (σ : En) : Option (Rs × En) :=
  if decide (ds.length = f.ps.length) && (!m.g || f.gi) then (f.sem (setIo f.io iv ds)).map fun r => (outRs f.tod f.rk m r.1, putIo iv r.2 σ) else none
/-- positional operands and those by name, in the order of the parameters -/
def fullL {α : Type} (dflt : α) (n : Nat) (pos : List α) (kws : List Nat) (ks : List α) : List α :=
  (List.range n).map fun i => if i < pos.length then pos.getD i dflt else ks.getD (kws.idxOf i) dflt
/-- the names given by keyword are the parameters that are left -/
def kwOk (n npos : Nat) (kws : List Nat) : Bool := (List.range n).all fun i => decide (i < npos) || kws.contains i

mutual
def ev : IE → En → Option (Rs × En)
  | .var i, σ => (grab σ i).map fun p => (.val p.1 p.2.1, p.2.2)
  | .lit d, σ => some (.val d m0, σ)
  | .glb _ d, σ => some (.val d (if flatD d then m0 else mG), σ)
  | .bin o a b, σ => (mkOpd a (ev a σ) σ).bind fun x => (mkOpd b (ev b x.2) x.2).bind fun y => (x.1.get y.2).bind fun d => (y.1.get y.2).bind fun e => (binS o d.1 e.1 d.2 e.2).map fun r => (r, y.2)
  | .neg a, σ => (mkOpd a (ev a σ) σ).bind fun x => (x.1.get x.2).bind fun d => match d.1 with
    | .int i => some (.val (.int (-i)) m0, x.2)
    | _ => none
  | .cmp o a b, σ => (mkOpd a (ev a σ) σ).bind fun x => (mkOpd b (ev b x.2) x.2).bind fun y => (x.1.get y.2).bind fun d => (y.1.get y.2).bind fun e => (cmpS o d.1 e.1).map fun r => (.val (.bool r) m0, y.2)
  | .chn o o' a b c, σ => (mkOpd a (ev a σ) σ).bind fun x => (mkOpd b (ev b x.2) x.2).bind fun y => (x.1.get y.2).bind fun d => (y.1.get y.2).bind fun e => (cmpS o d.1 e.1).bind fun r =>
      if r = true then (mkOpd c (ev c y.2) y.2).bind fun z => (z.1.get z.2).bind fun h => (y.1.get z.2).bind fun e' => (cmpS o' e'.1 h.1).map fun q => (.val (.bool q) m0, z.2) else some (.val (.bool false) m0, y.2)
  | .and a b, σ => (ev a σ).bind fun r => (truthS r.1.data).bind fun t => if t = true then ev b r.2 else some r
  | .or a b, σ => (ev a σ).bind fun r => (truthS r.1.data).bind fun t => if t = true then some r else ev b r.2
  | .one a, σ => ev a σ
  | .not a, σ => (mkOpd a (ev a σ) σ).bind fun x => (x.1.get x.2).bind fun d => (truthS d.1).map fun t => (.val (.bool !t) m0, x.2)
  | .ife c a b, σ => (mkOpd c (ev c σ) σ).bind fun x => (x.1.get x.2).bind fun d => (truthS d.1).bind fun t => if t = true then ev a x.2 else ev b x.2
  | .lst xs m, σ => (evL xs σ).bind fun p => if p.2.1.le m && decide (p.1.length ≤ LIM) then some (.new (.l p.1) m, p.2.2) else none
  | .tup xs, σ => (evL xs σ).bind fun p => if p.1.length ≤ LIM then some (.val (.tuple p.1) p.2.1, p.2.2) else none
  | .idx a i, σ => (mkOpd a (ev a σ) σ).bind fun x => (mkOpd i (ev i x.2) x.2).bind fun y => (x.1.get y.2).bind fun d => (y.1.get y.2).bind fun e => (idxS d e.1).map fun r => (r, y.2)
  | .slc a lo hi, σ => (mkOpd a (ev a σ) σ).bind fun x => (evP lo x.2).bind fun l => (evP hi l.2).bind fun h => (x.1.get h.2).bind fun d => (slcS d l.1 h.1).map fun r => (r, h.2)
  | .lc elt tg it cnd m, σ => (evI it σ).bind fun q => if q.2.2.1.any (fun i => tg.slots.contains i) then none else
      (lcGo (fun x s => bindT tg x q.2.1 s) (fun s => evC cnd s) (fun s => ev elt s) m q.1 (wipeE tg.slots (lockE q.2.2.1 q.2.2.2))).bind fun p =>
        if p.1.length ≤ LIM then some (.new (.l p.1) m, unlockE q.2.2.1 (backE (lockE q.2.2.1 q.2.2.2) tg.slots p.2)) else none
  | .call f args, σ => if f.rk = m0 then (evO args σ).bind fun p => (ioOf f.io args p.2).bind fun iv => callB f iv p.1 p.2
      else (evK f.io args σ).bind fun p => (ioOf f.io args p.2.2).bind fun iv => callK f iv p.1 p.2.1 p.2.2
  | .callk f args kws kargs, σ => if f.io = none then (evL args σ).bind fun p => (evL kargs p.2.2).bind fun q => if decide (q.1.length = kws.length) && kwOk f.ps.length p.1.length kws then
      callK f none (fullL .none f.ps.length p.1 kws q.1) (p.2.1.or q.2.1) q.2.2 else none else none
  | .blt b args, σ => (evO args σ).bind fun p => (getAll p.2 p.1).bind fun ds => (bltS b ds).map fun r => (r, p.2)
  | .mth b o args, σ => (mkOpd o (ev o σ) σ).bind fun x => (evO args x.2).bind fun p => (x.1.get p.2).bind fun d => (getAll p.2 p.1).bind fun ds => (mthS b d ds).map fun r => (r, p.2)
/-- items of a display: kept -/
def evL : IL → En → Option (List PyData × Msk × En)
  | .nil, σ => some ([], m0, σ)
  | .cons e es, σ => (ev e σ).bind fun r => (evL es r.2).map fun q => (r.1.kept.1 :: q.1, r.1.kept.2.or q.2.1, q.2.2)
/-- arguments, kept, but for the list that is changed -/
def evK : Option Nat → IL → En → Option (List PyData × Msk × En)
  | _, .nil, σ => some ([], m0, σ)
  | some 0, .cons e es, σ => match e with
    | .var i => if (peek σ i).isSome = true then (evK none es σ).map fun q => (.none :: q.1, q.2.1, q.2.2) else none
    | _ => none
  | some (k + 1), .cons e es, σ => (ev e σ).bind fun r => (evK (some k) es r.2).map fun q => (r.1.kept.1 :: q.1, r.1.kept.2.or q.2.1, q.2.2)
  | none, .cons e es, σ => (ev e σ).bind fun r => (evK none es r.2).map fun q => (r.1.kept.1 :: q.1, r.1.kept.2.or q.2.1, q.2.2)
/-- operands -/
def evO : IL → En → Option (List Opd × En)
  | .nil, σ => some ([], σ)
  | .cons e es, σ => (mkOpd e (ev e σ) σ).bind fun x => (evO es x.2).map fun q => (x.1 :: q.1, q.2)
/-- a part of a slice -/
def evP : IO → En → Option (Option Int × En)
  | .no, σ => some (none, σ)
  | .yes e, σ => (mkOpd e (ev e σ) σ).bind fun x => (x.1.get x.2).bind fun d => match d.1 with
    | .int i => some (some i, x.2)
    | _ => none
/-- a comprehension's test -/
def evC : IO → En → Option (Bool × En)
  | .no, σ => some (true, σ)
  | .yes e, σ => (mkOpd e (ev e σ) σ).bind fun x => (x.1.get x.2).bind fun d => (truthS d.1).map fun t => (t, x.2)
/-- what a comprehension walks: its items, their mask, the names of own objects that are walked -/
def evI : II → En → Option (List PyData × Msk × List Nat × En)
  | .seq e, σ => (mkOpd e (ev e σ) σ).bind fun x => (x.1.get x.2).bind fun d => (seqItems d.1).map fun xs => (xs, d.2, x.1.locks x.2, x.2)
  | .rng args, σ => (evO args σ).bind fun p => (getAll p.2 p.1).bind fun ds => (rngS (ds.map (·.1))).map fun xs => (xs, m0, [], p.2)
  | .enu e, σ => (mkOpd e (ev e σ) σ).bind fun x => (x.1.get x.2).bind fun d => match d.1 with
    | .list xs => some (enuS 0 xs, d.2, x.1.locks x.2, x.2)
    | _ => none
  | .zip a b, σ => (mkOpd a (ev a σ) σ).bind fun x => (mkOpd b (ev b x.2) x.2).bind fun y => (x.1.get y.2).bind fun d => (y.1.get y.2).bind fun e => match d.1, e.1 with
    | .list xs, .list ys => some (zipS xs ys, d.2.or e.2, x.1.locks y.2 ++ y.1.locks y.2, y.2)
    | _, _ => none
end
end Dv

/-! Dv, part C: statements, the run of a def -/
namespace Dv
open PySem PySem.Spec PySem.W PyProof.Rows L2

mutual
inductive IS where
  | ex (e : IE)
  | asg (i : Nat) (e : IE)
  | unp (is : List Nat) (e : IE)
  | par (i j : Nat) (a b : IE)
  | sti (i : Nat) (k e : IE)
  | app (i : Nat) (e : IE)
  | pop (i : Nat)
  | aug (i : Nat) (o : Operator) (e : IE)
  | ifs (c : IE) (a b : ISL)
  | fors (tg : Tg) (it : II) (body : ISL)
  | whl (n : Nat) (c : IE) (body : ISL)
  | ret (e : IO)
  | brk
  | cnt
  | pas
  | no
inductive ISL where
  | nil
  | cons (s : IS) (ss : ISL)
  | hv (i x : Nat) (ss : ISL)
end

inductive Fl where
  | nx (σ : En)
  | rt (r : Rs) (σ : En)
  | bk (σ : En)
  | ct (σ : En)

def Rs.slot : Rs → Sl
  | .val d m => .val d m
  | .new o m => .own o m false
/-- what a return hands back: an own object stays new -/
def evR (e : IE) (r : Option (Rs × En)) (σ : En) : Option (Rs × En) :=
  match e with
  | .var i => match σ[i]? with
    | some (.own o m false) => some (.new o m, σ.set i .emp)
    | _ => r
  | _ => r
def evT (e : IE) (σ : En) : Option (Bool × En) := (mkOpd e (ev e σ) σ).bind fun x => (x.1.get x.2).bind fun d => (truthS d.1).map fun t => (t, x.2)
/-- x[k] = v -/
def stiS (σ : En) (i : Nat) (k d : PyData) (m : Msk) : Option En :=
  match σ[i]?, k with
  | some (.own (.l ds) m' io), .int k => (ixN ds.length k).map fun j => σ.set i (.own (.l (ds.set j d)) (m'.or m) io)
  | _, _ => none
def appS (σ : En) (i : Nat) (d : PyData) (m : Msk) : Option En :=
  match σ[i]? with
  | some (.own (.l ds) m' io) => if ds.length < LIM then some (σ.set i (.own (.l (ds ++ [d])) (m'.or m) io)) else none
  | _ => none
def popS (σ : En) (i : Nat) : Option En :=
  match σ[i]? with
  | some (.own (.l ds) m io) => if ds.isEmpty then none else some (σ.set i (.own (.l ds.dropLast) m io))
  | _ => none
def augS (σ : En) (i : Nat) (o : Operator) (d : PyData × Msk) : Option En :=
  match o, peek σ i, d.1 with
  | .Add, some (.int x, _), .int y => some (σ.set i (.val (.int (x + y)) m0))
  | .Sub, some (.int x, _), .int y => some (σ.set i (.val (.int (x - y)) m0))
  | _, _, _ => none
def Opd.keepI (σ : En) (r : Opd) : Option (List PyData × Msk × En) := (r.keep σ).bind fun p => (seqItems p.1).map fun xs => (xs, p.2.1, p.2.2)
/-- what a for walks: kept, so it stands while the loop runs -/
def evF : II → En → Option (List PyData × Msk × En)
  | .seq e, σ => (mkOpd e (ev e σ) σ).bind fun x => x.1.keepI x.2
  | .rng args, σ => (evO args σ).bind fun p => (getAll p.2 p.1).bind fun ds => (rngS (ds.map (·.1))).map fun xs => (xs, m0, p.2)
  | .enu e, σ => (mkOpd e (ev e σ) σ).bind fun x => (x.1.keep x.2).bind fun p => match p.1 with
    | .list xs => some (enuS 0 xs, p.2.1, p.2.2)
    | _ => none
  | .zip a b, σ => (mkOpd a (ev a σ) σ).bind fun x => (x.1.keep x.2).bind fun p => (mkOpd b (ev b p.2.2) p.2.2).bind fun y => (y.1.keep y.2).bind fun q => match p.1, q.1 with
    | .list xs, .list ys => some (zipS xs ys, p.2.1.or q.2.1, q.2.2)
    | _, _ => none
def forGo (bf : PyData → En → Option En) (body : En → Option Fl) : List PyData → En → Option Fl
  | [], σ => some (.nx σ)
  | x :: xs, σ => (bf x σ).bind fun σ1 => (body σ1).bind fun f => match f with
    | .nx σ2 => forGo bf body xs σ2
    | .ct σ2 => forGo bf body xs σ2
    | .bk σ2 => some (.nx σ2)
    | .rt r σ2 => some (.rt r σ2)
def whlGo (tf : En → Option (Bool × En)) (body : En → Option Fl) : Nat → En → Option Fl
  | 0, _ => none
  | n + 1, σ => (tf σ).bind fun t => if t.1 = true then (body t.2).bind fun f => match f with
      | .nx σ2 => whlGo tf body n σ2
      | .ct σ2 => whlGo tf body n σ2
      | .bk σ2 => some (.nx σ2)
      | .rt r σ2 => some (.rt r σ2)
    else some (.nx t.2)
/-- a list stands in the slot -/
def isL (σ : En) (i : Nat) : Bool :=
  match peek σ i with
  | some (.list _, _) => true
  | _ => false
/-- the lists of the region d are changed: what reaches there is forgotten -/
def Sl.kill : Sl → Sl
  | .val d m => if (nm d m).d = true then .emp else .val d (nm d m)
  | .own o m io => if m.d = true then .emp else .own o m io
  | .lck o m io => if m.d = true then .emp else .lck o m io
  | .emp => .emp
def killD (σ : En) : En := σ.map Sl.kill
def hvOk (ds : List PyData) : Bool := decide (ds.length < LIM) && ds.all fun d => match d with
  | .list es => decide (es.length + ds.length < LIM)
  | _ => false
mutual
def evS : IS → En → Option Fl
  | .ex e, σ => (ev e σ).map fun r => .nx r.2
  | .asg i e, σ => (ev e σ).map fun r => .nx (r.2.set i r.1.slot)
  | .unp is e, σ => (mkOpd e (ev e σ) σ).bind fun x => (x.1.get x.2).bind fun d => (bindT (.tup is) d.1 d.2 x.2).map .nx
  | .par i j a b, σ => (ev a σ).bind fun r => (ev b r.2).map fun q => .nx ((q.2.set i r.1.slot).set j q.1.slot)
  | .sti i k e, σ => (ev e σ).bind fun r => if isL r.2 i = true then (mkOpd k (ev k r.2) r.2).bind fun x => (x.1.get x.2).bind fun kd => (stiS x.2 i kd.1 r.1.kept.1 r.1.kept.2).map .nx else none
  | .app i e, σ => if isL σ i = true then (ev e σ).bind fun r => (appS r.2 i r.1.kept.1 r.1.kept.2).map .nx else none
  | .pop i, σ => (popS σ i).map .nx
  | .aug i o e, σ => if (peek σ i).isSome = true then (mkOpd e (ev e σ) σ).bind fun x => (x.1.get x.2).bind fun d => (augS x.2 i o d).map .nx else none
  | .ifs c a b, σ => (evT c σ).bind fun t => if t.1 = true then evSL a t.2 else evSL b t.2
  | .fors tg it body, σ => (evF it σ).bind fun q => forGo (fun x s => bindT tg x q.2.1 s) (fun s => evSL body s) q.1 q.2.2
  | .whl n c body, σ => whlGo (fun s => evT c s) (fun s => evSL body s) n σ
  | .ret .no, σ => some (.rt (.val .none m0) σ)
  | .ret (.yes e), σ => (evR e (ev e σ) σ).map fun r => .rt r.1 r.2
  | .brk, σ => some (.bk σ)
  | .cnt, σ => some (.ct σ)
  | .pas, σ => some (.nx σ)
  | .no, _ => none
def evSL : ISL → En → Option Fl
  | .nil, σ => some (.nx σ)
  | .cons s ss, σ => (evS s σ).bind fun f => match f with
    | .nx σ1 => evSL ss σ1
    | f => some f
  | .hv i x ss, σ => match σ[i]? with
    | some (.own (.l ds) m false) => if (!m.c && !m.g) && (hvOk ds && (decide (x < σ.length) && x != i)) then evSL ss (((killD σ).set x .emp).set i .emp) else none
    | _ => none
end
mutual
/-- what a statement leaves of the callers' lists is not known -/
def hvS : IS → Bool
  | .ifs _ a b => hvL a || hvL b
  | .fors _ _ b => hvL b
  | .whl _ _ b => hvL b
  | _ => false
def hvL : ISL → Bool
  | .nil => false
  | .cons s ss => hvS s || hvL ss
  | .hv _ _ _ => true
end

/-- the slots at the entry: the parameter at io is the caller's list, changed here -/
def entry (io : Option Nat) (gi : Bool) : Nat → List PyData → En
  | _, [] => []
  | k, d :: ds => (if io = some k then (match d with | .list xs => Sl.own (.l xs) m0 true | _ => .emp) else Sl.val d ⟨true, false, gi⟩) :: entry io gi (k + 1) ds
def ioOut (io : Option Nat) (σ : En) : Option (List PyData) :=
  match io with
  | none => some []
  | some k => match σ[k]? with
    | some (.own (.l ds) m true) => if m = m0 then some ds else none
    | _ => none
def Rs.out (rk : Msk) : Rs → Option Rt
  | .val d m => if (nm d m).le rk then some (.v d) else none
  | .new o m => if m.le rk then some (.n o) else none
def finR (rk : Msk) (io : Option Nat) (r : Rs) (σ : En) : Option (Rt × List PyData) := (r.out rk).bind fun t => (ioOut io σ).map fun o => (t, o)
/-- no argument but the changed list reaches a list -/
def flatArgs (io : Option Nat) : Nat → List PyData → Bool
  | _, [] => true
  | k, d :: ds => (decide (io = some k) || flatD d) && flatArgs io (k + 1) ds
/-- a def's run: n names in all -/
def runF (n : Nat) (io : Option Nat) (gi : Bool) (rk : Msk) (body : ISL) (args : List PyData) : Option (Rt × List PyData) :=
  if (hvL body && !flatArgs io 0 args) = true then none else
  (evSL body (entry io gi 0 args ++ List.replicate (n - args.length) .emp)).bind fun f => match f with
    | .nx σ => finR rk io (.val .none m0) σ
    | .rt r σ => finR rk io r σ
    | _ => none
end Dv

/-! Dv, part D: what the evaluator does to slots and worlds -/
namespace Dv
open PySem PySem.Spec PySem.W PyProof.Rows L2

theorem Dr.nm {K : PySem.W.Frag} {R R' : Reg} {H : Hp} {v : V} {d : PyData} (h : Dr K R H v d) (hf : flatD d = true) : Dr K R' H v d := by
  cases h <;> first | (simp [flatD] at hf; done) | constructor
theorem nm_flat {d : PyData} {m : Msk} (h : flatD d = true) : Dv.nm d m = m0 := by cases d <;> simp [flatD] at h <;> rfl
theorem nm_deep {d : PyData} {m : Msk} (h : flatD d = false) : Dv.nm d m = m := by cases d <;> simp [flatD] at h <;> rfl
theorem Dr.atNm {K : PySem.W.Frag} {W : Wd} {H : Hp} {v : V} {d : PyData} {m : Msk} (h : Dr K (W.rg m) H v d) : Dr K (W.rg (Dv.nm d m)) H v d := by
  cases hf : flatD d with
  | true => exact Dr.nm h hf
  | false => rw [nm_deep hf]; exact h
theorem Dr.leM {K : PySem.W.Frag} {W : Wd} {H : Hp} {v : V} {d : PyData} {m m' : Msk} (h : Dr K (W.rg m) H v d) (l : m.le m' = true) : Dr K (W.rg m') H v d := Dr.mono (Reg.keeps (Msk.le_rg l)) h
theorem DrAll.leM {K : PySem.W.Frag} {W : Wd} {H : Hp} {v : List V} {d : List PyData} {m m' : Msk} (h : DrAll K (W.rg m) H v d) (l : m.le m' = true) : DrAll K (W.rg m') H v d := DrAll.mono (Reg.keeps (Msk.le_rg l)) h
theorem Dr.ofNm {K : PySem.W.Frag} {W : Wd} {H : Hp} {v : V} {d : PyData} {m m' : Msk} (h : Dr K (W.rg m) H v d) (l : (Dv.nm d m).le m' = true) : Dr K (W.rg m') H v d := (h.atNm).leM l

/-- what can be read at v now -/
def Rdb (F : Fx) (W : Wd) (v : V) (d : PyData) (m : Msk) : Prop :=
  Dr F.K (W.rg m) W.H v d ∨ ∃ p o, v = .ref p ∧ d = o.data ∧ OwR F.K (W.rg m) W.H p o

structure Stp (σV : L2.St) (σ : En) (W : Wd) (σ' : En) (W' : Wd) : Prop where
  step : Step (Ow σV σ) W (Ow σV σ') W'
  lk : ∀ (i : Nat) (o : OC) (m : Msk) (io : Bool), σ[i]? = some (.lck o m io) → σ'[i]? = some (.lck o m io)
theorem Stp.refl (σV : L2.St) (σ : En) (W : Wd) : Stp σV σ W σ W := ⟨Step.refl _ _, fun _ _ _ _ h => h⟩
theorem Stp.trans {σV : L2.St} {σ σ1 σ2 : En} {W W1 W2 : Wd} (a : Stp σV σ W σ1 W1) (b : Stp σV σ1 W1 σ2 W2) : Stp σV σ W σ2 W2 :=
  ⟨a.step.trans b.step, fun i o m io h => b.lk i o m io (a.lk i o m io h)⟩

section
variable {F : Fx} {σV : L2.St} {σ σ' : En} {W W' : Wd}
theorem Rel.keepsS (R : Rel F σV σ W) (s : Stp σV σ W σ' W') (m : Msk) : Keeps (W.rg m) W.H (W'.rg m) W'.H := R.keeps s.step m
theorem RsR.stp (R : Rel F σV σ W) (s : Stp σV σ W σ' W') {v : V} {r : Rs} (h : RsR F (Ow σV σ) W v r) : RsR F (Ow σV σ') W' v r := h.step R s.step

/-! ### a slot read -/
theorem peek_ok (R : Rel F σV σ W) {i : Nat} {d : PyData} {m : Msk} (h : peek σ i = some (d, m)) : ∃ v, σV[i]? = some (some v) ∧ Rdb F W v d m := by
  unfold peek at h
  cases e : σ[i]? with
  | none => rw [e] at h; cases h
  | some s =>
    rw [e] at h
    have q := R.slot i s e
    cases s with
    | emp => cases h
    | val d' m' =>
      cases h
      obtain ⟨v, e1, e2⟩ := q
      exact ⟨v, e1, .inl e2.atNm⟩
    | own o m' io =>
      cases h
      obtain ⟨p, e1, e2, e3, e4⟩ := q
      exact ⟨_, e1, .inr ⟨p, o, rfl, rfl, e3⟩⟩
    | lck o m' io =>
      cases h
      obtain ⟨p, e1, e2, e3, e4⟩ := q
      exact ⟨_, e1, .inr ⟨p, o, rfl, rfl, e3⟩⟩
theorem Rdb.int {v : V} {i : Int} {m : Msk} (h : Rdb F W v (.int i) m) : v = .int i := by
  rcases h with h | ⟨p, o, _, e, _⟩
  · cases h; rfl
  · cases o <;> cases e
theorem Rdb.str {v : V} {x : Str} {m : Msk} (h : Rdb F W v (.str x) m) : v = .str x := by
  rcases h with h | ⟨p, o, _, e, _⟩
  · cases h; rfl
  · cases o <;> cases e
theorem Rdb.bl {v : V} {b : Bool} {m : Msk} (h : Rdb F W v (.bool b) m) : v = .bl b := by
  rcases h with h | ⟨p, o, _, e, _⟩
  · cases h; rfl
  · cases o <;> cases e
theorem Rdb.non {v : V} {m : Msk} (h : Rdb F W v .none m) : v = .non := by
  rcases h with h | ⟨p, o, _, e, _⟩
  · cases h; rfl
  · cases o <;> cases e
theorem Rdb.lst {v : V} {ds : List PyData} {m : Msk} (h : Rdb F W v (.list ds) m) : ∃ p vs, v = .ref p ∧ SqL F.K W.H p vs ∧ DrAll F.K (W.rg m) W.H vs ds := by
  rcases h with h | ⟨p, o, rfl, e, h⟩
  · cases h with
    | lst a b c => exact ⟨_, _, rfl, SqL.of b, c⟩
    | lstI a b c => exact ⟨_, _, rfl, b.seq, c⟩
  · cases o with
    | l es => cases e; obtain ⟨vs, a, b⟩ := h; exact ⟨p, vs, rfl, SqL.of a, b⟩
    | dk _ _ => cases e
    | dt _ _ => cases e
theorem Rdb.tup {v : V} {ds : List PyData} {m : Msk} (h : Rdb F W v (.tuple ds) m) : ∃ p vs, v = .ref p ∧ SqT F.K W.H p vs ∧ DrAll F.K (W.rg m) W.H vs ds := by
  rcases h with h | ⟨p, o, rfl, e, h⟩
  · cases h with
    | tup a b => exact ⟨_, _, rfl, a, b⟩
  · cases o <;> cases e
theorem Rdb.dp {v : V} {d : PyData} {m : Msk} {n : Nat} (h : Rdb F W v d m) (hd : dep n d = true) : Dp F.K W.H v d := by
  rcases h with h | ⟨p, o, rfl, e, h⟩
  · exact Dr.dp d n hd h
  · cases o with
    | l es =>
      subst e
      obtain ⟨vs, a, b⟩ := h
      cases n with
      | zero => simp [OC.data, dep] at hd
      | succ n => exact .lst (SqL.of a) (DrAll.dp es n (by simpa [OC.data, dep] using hd) b)
    | dk _ _ => subst e; cases n <;> simp [OC.data, dep] at hd
    | dt _ _ => subst e; cases n <;> simp [OC.data, dep] at hd

/-! ### operands -/
def OpdR (F : Fx) (σV : L2.St) (σ : En) (W : Wd) (v : V) : Opd → Prop
  | .pk i => σV[i]? = some (some v)
  | .rs r => RsR F (Ow σV σ) W v r
theorem OpdR.stp (R : Rel F σV σ W) (s : Stp σV σ W σ' W') {v : V} {x : Opd} (h : OpdR F σV σ W v x) : OpdR F σV σ' W' v x := by
  cases x with
  | pk i => exact h
  | rs r => exact RsR.stp R s h
theorem RsR.rdb {O : Addr → Prop} {v : V} {r : Rs} {d : PyData} {m : Msk} (h : RsR F O W v r) (e : Opd.get σ (.rs r) = some (d, m)) : Rdb F W v d m := by
  cases r with
  | val d' m' => cases e; exact .inl h
  | new o m' => cases e; obtain ⟨p, rfl, _, _, _, h4⟩ := h; exact .inr ⟨p, o, rfl, rfl, h4⟩
theorem OpdR.get (R : Rel F σV σ W) {v : V} {x : Opd} {d : PyData} {m : Msk} (h : OpdR F σV σ W v x) (e : x.get σ = some (d, m)) : Rdb F W v d m := by
  cases x with
  | pk i =>
    obtain ⟨u, e1, e2⟩ := peek_ok R (show peek σ i = some (d, m) from e)
    have q : σV[i]? = some (some v) := h
    rw [q] at e1
    cases e1
    exact e2
  | rs r => exact RsR.rdb (σ := σ) h e

/-! ### an object kept -/
/-- p is put to the kept objects -/
def Wd.put (W : Wd) (m : Msk) (p : Addr) : Wd := if m.d = true then ⟨W.H, fun a => W.Sd a ∨ a = p, W.Sc⟩ else ⟨W.H, W.Sd, fun a => W.Sc a ∨ a = p⟩
theorem Wd.put_H (W : Wd) (m : Msk) (p : Addr) : (W.put m p).H = W.H := by unfold Wd.put; split <;> rfl
theorem Wd.put_S (W : Wd) (m : Msk) (p a : Addr) : (W.put m p).S a ↔ W.S a ∨ a = p := by
  unfold Wd.put Wd.S
  split
  · constructor
    · rintro ((h | h) | h)
      · exact .inl (.inl h)
      · exact .inr h
      · exact .inl (.inr h)
    · rintro ((h | h) | h)
      · exact .inl (.inl h)
      · exact .inr h
      · exact .inl (.inr h)
  · constructor
    · rintro (h | h | h)
      · exact .inl (.inl h)
      · exact .inl (.inr h)
      · exact .inr h
    · rintro ((h | h) | h)
      · exact .inl h
      · exact .inr (.inl h)
      · exact .inr (.inr h)
theorem Wd.put_subD (W : Wd) (m : Msk) (p a : Addr) (h : W.Sd a) : (W.put m p).Sd a := by unfold Wd.put; split; exact .inl h; exact h
theorem Wd.put_subC (W : Wd) (m : Msk) (p a : Addr) (h : W.Sc a) : (W.put m p).Sc a := by unfold Wd.put; split; exact h; exact .inl h
theorem Wd.put_mem (W : Wd) (m : Msk) (p : Addr) : ((W.put m p).rg m.kept).mem p := by
  by_cases h : m.d = true
  · have e1 : m.kept = m := if_pos h
    have e2 : W.put m p = ⟨W.H, fun a => W.Sd a ∨ a = p, W.Sc⟩ := if_pos h
    rw [e1, e2]
    exact .inl ⟨h, .inr rfl⟩
  · have e1 : m.kept = ⟨m.d, true, m.g⟩ := if_neg h
    have e2 : W.put m p = ⟨W.H, W.Sd, fun a => W.Sc a ∨ a = p⟩ := if_neg h
    rw [e1, e2]
    exact .inr ⟨rfl, .inr rfl⟩
theorem Wd.put_keeps (W : Wd) (m m' : Msk) (p : Addr) : Keeps (W.rg m') W.H ((W.put m p).rg m') (W.put m p).H := by
  rw [Wd.put_H]
  refine Reg.keeps ⟨fun a h => ?_, fun h => h⟩
  rcases h with ⟨e, h⟩ | ⟨e, h⟩
  · exact .inl ⟨e, W.put_subD m p a h⟩
  · exact .inr ⟨e, W.put_subC m p a h⟩
theorem Wd.put_keepsK (W : Wd) (m : Msk) (p : Addr) : Keeps (W.rg m) W.H ((W.put m p).rg m.kept) (W.put m p).H := by
  have a := W.put_keeps m m p
  have b : Reg.le ((W.put m p).rg m) ((W.put m p).rg m.kept) := Msk.le_rg (Msk.le_kept m)
  exact ⟨fun x h => b.1 x (a.mem x h), fun h => b.2 (a.imm h), a.at_, a.tup, a.frz⟩
theorem SlR.put {p : Addr} {x : Option (Option V)} {s : Sl} (hp : ∀ o m io, (s = .own o m io ∨ s = .lck o m io) → x ≠ some (some (.ref p))) (m : Msk) (h : SlR F W x s) : SlR F (W.put m p) x s := by
  cases s with
  | emp => trivial
  | val d m' => obtain ⟨v, e1, e2⟩ := h; exact ⟨v, e1, Dr.mono (W.put_keeps m m' p) e2⟩
  | own o m' io =>
    obtain ⟨q, e1, e2, e3, e4⟩ := h
    refine ⟨q, e1, fun hs => ?_, e3.mono (W.put_keeps m m' p) (fun u e => by rw [Wd.put_H]; exact e), e4⟩
    rcases (W.put_S m p q).mp hs with z | z
    · exact e2 z
    · exact hp o m' io (.inl rfl) (by rw [e1, z])
  | lck o m' io =>
    obtain ⟨q, e1, e2, e3, e4⟩ := h
    refine ⟨q, e1, fun hs => ?_, e3.mono (W.put_keeps m m' p) (fun u e => by rw [Wd.put_H]; exact e), e4⟩
    rcases (W.put_S m p q).mp hs with z | z
    · exact e2 z
    · exact hp o m' io (.inr rfl) (by rw [e1, z])
theorem put_core (R : Rel F σV σ W) {p : Addr} {m : Msk} (hs : ¬ W.S p) (hl : ∃ u, W.H p = some u) (h0 : F.H0 p = none) :
    (∀ a, (W.put m p).S a → ∃ u, (W.put m p).H a = some u) ∧ (∀ a, (W.put m p).Sd a → (W.put m p).Sc a → False) ∧ (∀ a, (W.put m p).Sc a → F.H0 a = none) ∧ (∀ a, (W.put m p).Sd a → F.D0 a ∨ F.H0 a = none) := by
  refine ⟨fun a h => ?_, fun a h1 h2 => ?_, fun a h => ?_, fun a h => ?_⟩
  · rw [Wd.put_H]
    rcases (W.put_S m p a).mp h with z | z
    · exact R.live a z
    · rw [z]; exact hl
  · unfold Wd.put at h1 h2
    split at h1
    · next hd =>
      rw [if_pos hd] at h2
      rcases h1 with h1 | h1
      · exact R.disj a h1 h2
      · rw [h1] at h2; exact hs (.inr h2)
    · next hd =>
      rw [if_neg hd] at h2
      rcases h2 with h2 | h2
      · exact R.disj a h1 h2
      · rw [h2] at h1; exact hs (.inl h1)
  · unfold Wd.put at h
    split at h
    · exact R.newC a h
    · rcases h with h | h
      · exact R.newC a h
      · rw [h]; exact h0
  · unfold Wd.put at h
    split at h
    · rcases h with h | h
      · exact R.oldD a h
      · rw [h]; exact .inr h0
    · exact R.oldD a h
/-- a new object that no slot holds is kept -/
theorem Rel.keepNew (R : Rel F σV σ W) {p : Addr} {m : Msk} (hs : ¬ W.S p) (ho : ¬ Ow σV σ p) (hl : ∃ u, W.H p = some u) (h0 : F.H0 p = none) : Rel F σV σ (W.put m p) := by
  obtain ⟨c1, c2, c3, c4⟩ := put_core (m := m) R hs hl h0
  refine ⟨R.len, c1, c2, c3, c4, fun a o e n => by rw [Wd.put_H]; exact R.base a o e n, fun a o e => by rw [Wd.put_H]; exact R.old a o e, fun i s e => ?_, R.dist⟩
  refine SlR.put (fun o m' io z hx => ho ⟨i, ⟨o, m', io, ?_⟩, hx⟩) m (R.slot i s e)
  rcases z with z | z
  · exact .inl (by rw [e, z])
  · exact .inr (by rw [e, z])
theorem Step.put {O O' : Addr → Prop} (s : Step O W O' W') {m : Msk} {p : Addr} (h : W.H p = none ∨ O p) : Step O W O' (W'.put m p) := by
  refine ⟨fun a o e n => by rw [Wd.put_H]; exact s.keep a o e n, fun a ha => ?_, s.own, fun a ha => W'.put_subD m p a (s.subD a ha), fun a ha => W'.put_subC m p a (s.subC a ha), fun a o e => by rw [Wd.put_H]; exact s.live a o e⟩
  rcases (W'.put_S m p a).mp ha with z | z
  · exact s.grow a z
  · subst z
    rcases h with h | h
    · exact .inr (.inl h)
    · exact .inr (.inr h)
/-- a slot's own object is kept -/
theorem Rel.grab (R : Rel F σV σ W) {i : Nat} {d : PyData} {m : Msk} (h : Dv.grab σ i = some (d, m, σ')) :
    ∃ v W', σV[i]? = some (some v) ∧ W'.H = W.H ∧ Rel F σV σ' W' ∧ Stp σV σ W σ' W' ∧ Dr F.K (W'.rg m) W'.H v d := by
  unfold Dv.grab at h
  cases e : σ[i]? with
  | none => rw [e] at h; cases h
  | some s =>
    rw [e] at h
    have q := R.slot i s e
    cases s with
    | emp => cases h
    | lck o m' io => cases h
    | val d' m' =>
      cases h
      obtain ⟨v, e1, e2⟩ := q
      exact ⟨v, W, e1, rfl, R, Stp.refl _ _ _, e2.atNm⟩
    | own o m' io =>
      cases io with
      | true => cases h
      | false =>
        cases h
        obtain ⟨p, e1, e2, e3, e4⟩ := q
        have hO : OwnAt σV σ i p := ⟨⟨o, m', false, .inl e⟩, e1⟩
        have hl : ∃ u, W.H p = some u := let ⟨u, q, _⟩ := e3.some_; ⟨u, q⟩
        have h0 : F.H0 p = none := e4
        obtain ⟨c1, c2, c3, c4⟩ := put_core (m := m') R e2 hl h0
        have hi : i < σ.length := (List.getElem?_eq_some_iff.mp e).1
        have own' : ∀ j q, OwnAt σV (σ.set i (.val o.data m'.kept)) j q → OwnAt σV σ j q ∧ j ≠ i := fun j q ⟨⟨o2, m2, io2, h1⟩, h2⟩ => by
          by_cases hj : j = i
          · subst hj
            rw [List.getElem?_set_self hi] at h1
            rcases h1 with h1 | h1 <;> cases h1
          · rw [List.getElem?_set_ne (Ne.symm hj)] at h1
            exact ⟨⟨⟨o2, m2, io2, h1⟩, h2⟩, hj⟩
        have dr : Dr F.K ((W.put m' p).rg m'.kept) (W.put m' p).H (.ref p) o.data := by
          have := OwR.keep (R' := (W.put m' p).rg m'.kept) (by have k := W.put_keepsK m' p; rw [Wd.put_H] at k; exact k) (W.put_mem m' p) e3
          rw [Wd.put_H]
          exact this
        refine ⟨_, W.put m' p, e1, W.put_H m' p, ⟨by rw [List.length_set]; exact R.len, c1, c2, c3, c4, fun a o e n => by rw [Wd.put_H]; exact R.base a o e n, fun a o e => by rw [Wd.put_H]; exact R.old a o e, fun j s ej => ?_, fun j k q h1 h2 => R.dist j k q (own' j q h1).1 (own' k q h2).1⟩,
          ⟨Step.put ⟨fun a o e _ => e, fun a h => .inl h, fun a ⟨j, h⟩ => .inl ⟨j, (own' j a h).1⟩, fun a h => h, fun a h => h, fun a o e => ⟨o, e⟩⟩ (.inr ⟨i, hO⟩), fun j o2 m2 io2 h => ?_⟩, dr⟩
        · by_cases hj : j = i
          · subst hj
            rw [List.getElem?_set_self hi] at ej
            cases ej
            exact ⟨_, e1, dr⟩
          · rw [List.getElem?_set_ne (Ne.symm hj)] at ej
            refine SlR.put (fun o2 m2 io2 z hx => hj (R.dist j i p ⟨⟨o2, m2, io2, ?_⟩, hx⟩ hO)) m' (R.slot j s ej)
            rcases z with z | z
            · exact .inl (by rw [ej, z])
            · exact .inr (by rw [ej, z])
        · by_cases hj : j = i
          · subst hj; rw [e] at h; cases h
          · rw [List.getElem?_set_ne (Ne.symm hj)]; exact h

/-! ### new objects -/
def Wd.upd (W : Wd) (p : Addr) (o : HO) : Wd := ⟨L2.upd W.H p o, W.Sd, W.Sc⟩
theorem new_keeps (W : Wd) {p : Addr} {o : HO} (hp : W.H p = none) (m : Msk) : Keeps (W.rg m) W.H ((W.upd p o).rg m) (W.upd p o).H :=
  ⟨fun a h => h, fun h => h, fun a u _ e => by show L2.upd W.H p o a = _; rw [upd_ne (ne_of_none e hp)]; exact e, fun a xs e => by show L2.upd W.H p o a = _; rw [upd_ne (ne_of_none e hp)]; exact e,
    fun a u w e => by show L2.upd W.H p o a = _; rw [upd_ne (ne_of_none e hp)]; exact e⟩
theorem Rel.new (R : Rel F σV σ W) {p : Addr} {o : HO} (hp : W.H p = none) : Rel F σV σ (W.upd p o) ∧ Stp σV σ W σ (W.upd p o) := by
  have kp : ∀ a u, W.H a = some u → (W.upd p o).H a = some u := fun a u e => by
    show L2.upd W.H p o a = _
    rw [upd_ne (ne_of_none e hp)]
    exact e
  refine ⟨⟨R.len, fun a h => (R.live a h).elim fun u e => ⟨u, kp a u e⟩, R.disj, R.newC, R.oldD, fun a u e n => kp a u (R.base a u e n), fun a u e => (R.old a u e).elim fun w q => ⟨w, kp a w q⟩, fun i s e => ?_, R.dist⟩,
    ⟨⟨fun a u e _ => kp a u e, fun a h => .inl h, fun a h => .inl h, fun a h => h, fun a h => h, fun a u e => ⟨u, kp a u e⟩⟩, fun _ _ _ _ h => h⟩⟩
  have q := R.slot i s e
  cases s with
  | emp => trivial
  | val d m => obtain ⟨v, e1, e2⟩ := q; exact ⟨v, e1, Dr.mono (new_keeps W hp m) e2⟩
  | own o' m io => obtain ⟨v, e1, e2, e3, e4⟩ := q; exact ⟨v, e1, e2, e3.mono (new_keeps W hp m) (kp v), e4⟩
  | lck o' m io => obtain ⟨v, e1, e2, e3, e4⟩ := q; exact ⟨v, e1, e2, e3.mono (new_keeps W hp m) (kp v), e4⟩
/-- a result is a new object -/
def RsNew (W : Wd) (v : V) : Rs → Prop
  | .val _ _ => True
  | .new _ _ => ∃ p, v = .ref p ∧ W.H p = none
/-- a new list of kept items -/
theorem new_list (R : Rel F σV σ W) {p : Addr} (hp : W.H p = none) {vs : List V} {ds : List PyData} {m : Msk} (h : DrAll F.K (W.rg m) W.H vs ds) :
    Rel F σV σ (W.upd p (.lst vs)) ∧ Stp σV σ W σ (W.upd p (.lst vs)) ∧ RsR F (Ow σV σ) (W.upd p (.lst vs)) (.ref p) (.new (.l ds) m) ∧ RsNew W (.ref p) (.new (.l ds) m) := by
  obtain ⟨a, b⟩ := R.new (o := .lst vs) hp
  obtain ⟨f1, f2, f3⟩ := R.fresh hp
  exact ⟨a, b, ⟨p, rfl, f2, f3, f1, vs, upd_same, DrAll.mono (new_keeps W hp m) h⟩, p, rfl, hp⟩
/-- a new tuple of kept items -/
theorem new_tup (R : Rel F σV σ W) {p : Addr} (hp : W.H p = none) {vs : List V} {ds : List PyData} {m : Msk} (h : DrAll F.K (W.rg m) W.H vs ds) :
    Rel F σV σ (W.upd p (.tup vs)) ∧ Stp σV σ W σ (W.upd p (.tup vs)) ∧ RsR F (Ow σV σ) (W.upd p (.tup vs)) (.ref p) (.val (.tuple ds) m) := by
  obtain ⟨a, b⟩ := R.new (o := .tup vs) hp
  exact ⟨a, b, .tup (SqT.of upd_same) (DrAll.mono (new_keeps W hp m) h)⟩
/-- a result is kept -/
theorem Rel.kept {W0 : Wd} {σ0 : En} (R : Rel F σV σ W) (s : Stp σV σ0 W0 σ W) {v : V} {r : Rs} (h : RsR F (Ow σV σ) W v r) (hn : RsNew W0 v r) :
    ∃ W', W'.H = W.H ∧ Rel F σV σ W' ∧ Stp σV σ0 W0 σ W' ∧ Dr F.K (W'.rg r.kept.2) W'.H v r.kept.1 := by
  cases r with
  | val d m => exact ⟨W, rfl, R, s, h⟩
  | new o m =>
    obtain ⟨p, rfl, h1, h2, h3, h4⟩ := h
    obtain ⟨q, e, hq⟩ := hn
    cases e
    obtain ⟨u, e, _⟩ := h4.some_
    refine ⟨W.put m p, W.put_H m p, R.keepNew h1 h2 ⟨u, e⟩ h3, ⟨s.step.put (.inl hq), s.lk⟩, ?_⟩
    have k := W.put_keepsK m p
    rw [Wd.put_H] at k
    rw [Wd.put_H]
    exact OwR.keep k (W.put_mem m p) h4
end
end Dv

/-! Dv, part E: readings that keep step with the evaluator -/
namespace Dv
open PySem PySem.Spec PySem.W PyProof.Rows L2

/-- the reading t of an expression keeps step with f -/
def SE (F : Fx) (t : TE) (f : En → Option (Rs × En)) : Prop :=
  ∀ {σV : L2.St} {σ : En} {W : Wd} {r : Rs} {σ' : En} {Q : VK}, Rel F σV σ W → f σ = some (r, σ') →
    (∀ v W', Rel F σV σ' W' → Stp σV σ W σ' W' → RsR F (Ow σV σ') W' v r → RsNew W v r → Q v W'.H) → t σV W.H Q
def OpdNew (W : Wd) (v : V) : Opd → Prop
  | .pk _ => True
  | .rs r => RsNew W v r
def SO (F : Fx) (t : TE) (f : En → Option (Opd × En)) : Prop :=
  ∀ {σV : L2.St} {σ : En} {W : Wd} {x : Opd} {σ' : En} {Q : VK}, Rel F σV σ W → f σ = some (x, σ') →
    (∀ v W', Rel F σV σ' W' → Stp σV σ W σ' W' → OpdR F σV σ' W' v x → OpdNew W v x → Q v W'.H) → t σV W.H Q
inductive OpdsR (F : Fx) (σV : L2.St) (σ : En) (W0 W : Wd) : List V → List Opd → Prop
  | nil : OpdsR F σV σ W0 W [] []
  | cons {v : V} {vs : List V} {x : Opd} {xs : List Opd} : OpdR F σV σ W v x → OpdNew W0 v x → OpdsR F σV σ W0 W vs xs → OpdsR F σV σ W0 W (v :: vs) (x :: xs)
def SOs (F : Fx) (t : TA) (f : En → Option (List Opd × En)) : Prop :=
  ∀ {σV : L2.St} {σ : En} {W : Wd} {xs : List Opd} {σ' : En} {Q : List V → Hp → Prop}, Rel F σV σ W → f σ = some (xs, σ') →
    (∀ vs W', Rel F σV σ' W' → Stp σV σ W σ' W' → OpdsR F σV σ' W W' vs xs → Q vs W'.H) → t σV W.H Q
def SL (F : Fx) (t : TA) (f : En → Option (List PyData × Msk × En)) : Prop :=
  ∀ {σV : L2.St} {σ : En} {W : Wd} {ds : List PyData} {m : Msk} {σ' : En} {Q : List V → Hp → Prop}, Rel F σV σ W → f σ = some (ds, m, σ') →
    (∀ vs W', Rel F σV σ' W' → Stp σV σ W σ' W' → DrAll F.K (W'.rg m) W'.H vs ds → Q vs W'.H) → t σV W.H Q
def ST (F : Fx) (t : TT) (f : En → Option (Bool × En)) : Prop :=
  ∀ {σV : L2.St} {σ : En} {W : Wd} {b : Bool} {σ' : En} {Q : Bool → Hp → Prop}, Rel F σV σ W → f σ = some (b, σ') →
    (∀ W', Rel F σV σ' W' → Stp σV σ W σ' W' → Q b W'.H) → t σV W.H Q

section
variable {F : Fx} {σV : L2.St} {σ σ' : En} {W W' : Wd}
theorem RsNew.stp (s : Stp σV σ W σ' W') {v : V} {r : Rs} (h : RsNew W' v r) : RsNew W v r := by
  cases r with
  | val _ _ => trivial
  | new o m =>
    obtain ⟨p, rfl, hp⟩ := h
    refine ⟨p, rfl, ?_⟩
    cases e : W.H p with
    | none => rfl
    | some u =>
      obtain ⟨w, q⟩ := s.step.live p u e
      rw [hp] at q
      cases q
theorem OpdNew.stp (s : Stp σV σ W σ' W') {v : V} {x : Opd} (h : OpdNew W' v x) : OpdNew W v x := by
  cases x with
  | pk _ => trivial
  | rs r => exact RsNew.stp s h
theorem OpdsR.stp (R : Rel F σV σ W) (s : Stp σV σ W σ' W') {W0 : Wd} : ∀ {vs : List V} {xs : List Opd}, OpdsR F σV σ W0 W vs xs → OpdsR F σV σ' W0 W' vs xs
  | _, _, .nil => .nil
  | _, _, .cons a b c => .cons (OpdR.stp R s a) b (OpdsR.stp R s c)
theorem OpdsR.back {W0 W1 : Wd} {σ0 σ1 : En} (s : Stp σV σ0 W0 σ1 W1) : ∀ {vs : List V} {xs : List Opd}, OpdsR F σV σ W1 W vs xs → OpdsR F σV σ W0 W vs xs
  | _, _, .nil => .nil
  | _, _, .cons a b c => .cons a (OpdNew.stp s b) (OpdsR.back s c)
end

section
variable {F : Fx} {t ta tb tc : TE} {f fa fb fc : En → Option (Rs × En)}
theorem so_var (i : Nat) : SO F (tVar i) (fun σ => if (peek σ i).isSome = true then some (.pk i, σ) else none) := by
  intro σV σ W x σ' Q R h k
  dsimp only at h
  split at h
  · next e =>
    cases h
    obtain ⟨⟨d, m⟩, e⟩ := Option.isSome_iff_exists.mp e
    obtain ⟨v, e1, e2⟩ := peek_ok R e
    exact ⟨v, e1, k v W R (Stp.refl _ _ _) e1 trivial⟩
  · cases h
theorem so_of (h : SE F t f) : SO F t (fun σ => (f σ).map fun p => (.rs p.1, p.2)) := by
  intro σV σ W x σ' Q R e k
  obtain ⟨⟨r, τ⟩, e1, e2⟩ := Option.map_eq_some_iff.mp e
  cases e2
  exact h R e1 fun v W' R' s q n => k v W' R' s q n
/-- an expression as an operand -/
theorem so_mk {e : IE} (h : SE F t (ev e)) (hv : ∀ i, e = .var i → t = tVar i) : SO F t (fun σ => mkOpd e (ev e σ) σ) := by
  cases e with
  | var i => rw [hv i rfl]; exact so_var i
  | _ => exact so_of h
theorem se_var (i : Nat) : SE F (tVar i) (ev (.var i)) := by
  intro σV σ W r σ' Q R e k
  unfold ev at e
  obtain ⟨⟨d, m, τ⟩, e1, e2⟩ := Option.map_eq_some_iff.mp e
  cases e2
  obtain ⟨v, W', e3, eH, R', s, dr⟩ := R.grab e1
  refine ⟨v, e3, ?_⟩
  rw [← eH]
  exact k v W' R' s dr trivial
theorem se_lit {d : PyData} {v : V} (h : ∀ K R H, Dr K R H v d) : SE F (tC v) (ev (.lit d)) := by
  intro σV σ W r σ' Q R e k
  unfold ev at e
  cases e
  exact k v W R (Stp.refl _ _ _) (h _ _ _) trivial
theorem se_glb {x : Str} {d : PyData} {v : V} (h : ∀ H, Dr F.K ⟨fun _ => False, True⟩ H v d) : SE F (tC v) (ev (.glb x d)) := by
  intro σV σ W r σ' Q R e k
  unfold ev at e
  cases e
  refine k v W R (Stp.refl _ _ _) ?_ trivial
  show Dr F.K (W.rg (if flatD d = true then m0 else mG)) W.H v d
  split
  · next hf => exact Dr.nm (h W.H) hf
  · next hf => exact Dr.mono ⟨fun _ z => False.elim z, fun _ => rfl, fun _ _ z => False.elim z, fun _ _ e => e, fun _ _ _ e => e⟩ (h W.H)

/-- two operands -/
theorem so_two {ga gb : En → Option (Opd × En)} (ha : SO F ta ga) (hb : SO F tb gb) {σV : L2.St} {σ σ1 σ2 : En} {W : Wd} {x y : Opd} {P : V → V → Hp → Prop} (R : Rel F σV σ W) (e1 : ga σ = some (x, σ1)) (e2 : gb σ1 = some (y, σ2))
    (k : ∀ v u W', Rel F σV σ2 W' → Stp σV σ W σ2 W' → OpdR F σV σ2 W' v x → OpdR F σV σ2 W' u y → OpdNew W v x → OpdNew W u y → P v u W'.H) : ta σV W.H (fun v H1 => tb σV H1 fun u H2 => P v u H2) :=
  ha R e1 fun v W1 R1 s1 q1 n1 => hb R1 e2 fun u W2 R2 s2 q2 n2 => k v u W2 R2 (s1.trans s2) (OpdR.stp R1 s2 q1) q2 n1 (OpdNew.stp s1 n2)

/-- a two-place operation by data -/
def R2S (F : Fx) (r : R2) (g : PyData → PyData → Msk → Msk → Option Rs) : Prop :=
  ∀ {σV : L2.St} {σ : En} {W : Wd} {x y : V} {d e : PyData} {m m' : Msk} {z : Rs} {Q : VK}, Rel F σV σ W → Rdb F W x d m → Rdb F W y e m' → g d e m m' = some z →
    (∀ v W', Rel F σV σ W' → Stp σV σ W σ W' → RsR F (Ow σV σ) W' v z → RsNew W v z → Q v W'.H) → r x y W.H Q
theorem se_two {ga gb : En → Option (Opd × En)} {r : R2} {g : PyData → PyData → Msk → Msk → Option Rs} (ha : SO F ta ga) (hb : SO F tb gb) (hr : R2S F r g) :
    SE F (tOp r ta tb) (fun σ => (ga σ).bind fun x => (gb x.2).bind fun y => (x.1.get y.2).bind fun d => (y.1.get y.2).bind fun e => (g d.1 e.1 d.2 e.2).map fun r => (r, y.2)) := by
  intro σV σ W z σ' Q R e k
  obtain ⟨⟨x, σ1⟩, e1, e⟩ := Option.bind_eq_some_iff.mp e
  obtain ⟨⟨y, σ2⟩, e2, e⟩ := Option.bind_eq_some_iff.mp e
  obtain ⟨⟨d, m⟩, e3, e⟩ := Option.bind_eq_some_iff.mp e
  obtain ⟨⟨d', m'⟩, e4, e⟩ := Option.bind_eq_some_iff.mp e
  obtain ⟨z', e5, e⟩ := Option.map_eq_some_iff.mp e
  cases e
  exact so_two (P := fun v u H => r v u H Q) ha hb R e1 e2 fun v u W' R' s q1 q2 _ _ => hr R' (q1.get R' e3) (q2.get R' e4) e5 fun w W'' R'' s' q n => k w W'' R'' (s.trans s') q (RsNew.stp s n)
/-- a one-place operation -/
theorem se_one {ga : En → Option (Opd × En)} {r : V → Hp → VK → Prop} {g : PyData → Msk → Option Rs} (ha : SO F ta ga)
    (hr : ∀ {σV : L2.St} {σ : En} {W : Wd} {x : V} {d : PyData} {m : Msk} {z : Rs} {Q : VK}, Rel F σV σ W → Rdb F W x d m → g d m = some z →
      (∀ v W', Rel F σV σ W' → Stp σV σ W σ W' → RsR F (Ow σV σ) W' v z → RsNew W v z → Q v W'.H) → r x W.H Q) :
    SE F (tUn r ta) (fun σ => (ga σ).bind fun x => (x.1.get x.2).bind fun d => (g d.1 d.2).map fun r => (r, x.2)) := by
  intro σV σ W z σ' Q R e k
  obtain ⟨⟨x, σ1⟩, e1, e⟩ := Option.bind_eq_some_iff.mp e
  obtain ⟨⟨d, m⟩, e3, e⟩ := Option.bind_eq_some_iff.mp e
  obtain ⟨z', e5, e⟩ := Option.map_eq_some_iff.mp e
  cases e
  exact ha R e1 fun v W' R' s q _ => hr R' (q.get R' e3) e5 fun w W'' R'' s' q n => k w W'' R'' (s.trans s') q (RsNew.stp s n)
end

/-! ### sizes, ends -/
theorem lim_eq : (sizeLine : Nat) = LIM := sizeLine_eq
section
variable {F : Fx} {σV : L2.St} {σ : En} {W : Wd} {Q : VK}
/-- the end of an operation that makes nothing -/
theorem end_val {v : V} {d : PyData} {m : Msk} (R : Rel F σV σ W) (h : ∀ w W', Rel F σV σ W' → Stp σV σ W σ W' → RsR F (Ow σV σ) W' w (.val d m) → RsNew W w (.val d m) → Q w W'.H) (q : Dr F.K (W.rg m) W.H v d) : Q v W.H :=
  h v W R (Stp.refl _ _ _) q trivial
theorem end_lst {p : Addr} {vs : List V} {ds : List PyData} {m : Msk} (R : Rel F σV σ W) (hp : W.H p = none) (a : DrAll F.K (W.rg m) W.H vs ds)
    (h : ∀ w W', Rel F σV σ W' → Stp σV σ W σ W' → RsR F (Ow σV σ) W' w (.new (.l ds) m) → RsNew W w (.new (.l ds) m) → Q w W'.H) : Q (.ref p) (L2.upd W.H p (.lst vs)) := by
  obtain ⟨R', s, q, n⟩ := new_list R hp a
  exact h _ (W.upd p (.lst vs)) R' s q n
theorem end_tup {p : Addr} {vs : List V} {ds : List PyData} {m : Msk} (R : Rel F σV σ W) (hp : W.H p = none) (a : DrAll F.K (W.rg m) W.H vs ds)
    (h : ∀ w W', Rel F σV σ W' → Stp σV σ W σ W' → RsR F (Ow σV σ) W' w (.val (.tuple ds) m) → RsNew W w (.val (.tuple ds) m) → Q w W'.H) : Q (.ref p) (L2.upd W.H p (.tup vs)) := by
  obtain ⟨R', s, q⟩ := new_tup R hp a
  exact h _ (W.upd p (.tup vs)) R' s q trivial
theorem Rdb.lstM {v : V} {ds : List PyData} {m : Msk} (h : Rdb F W v (.list ds) m) (hg : m.g = false) : ∃ p vs, v = .ref p ∧ W.H p = some (.lst vs) ∧ DrAll F.K (W.rg m) W.H vs ds := by
  rcases h with h | ⟨p, o, rfl, e, h⟩
  · cases h with
    | lst a b c => exact ⟨_, _, rfl, b, c⟩
    | lstI a b c =>
      have e : m.g = true := a
      rw [hg] at e
      cases e
  · cases o with
    | l es => cases e; obtain ⟨vs, a, b⟩ := h; exact ⟨p, vs, rfl, a, b⟩
    | dk _ _ => cases e
    | dt _ _ => cases e
end
end Dv

/-! Dv, part F: operators, comparisons, subscripts, built-in functions -/
namespace Dv
open PySem PySem.Spec PySem.W PyProof.Rows L2

/-! ### operators -/
/-- the reading that nothing meets -/
abbrev rNo : R2 := fun _ _ _ _ => False
theorem or_no {X : Cx} {f : Value → Value → Sem Value} : OpR X f rNo := fun _ _ _ _ _ _ _ _ _ _ _ _ h => h.elim
/-- powers by size -/
def CPowW (i j : Int) : Prop := 0 ≤ j ∧ (Builtin.Int.intBits i : Int) * j ≤ 2 ^ 27
theorem op_powW {X : Cx} : OpR X (binaryOp .Pow) (rI CPowW fun i j => .int (i ^ j.toNat)) := opI fun _ _ _ _ _ _ _ hc q => pow_int hc.1 hc.2 q
/-- the reading of an operator -/
def rBin : Operator → R2
  | .Add => fun x y H Q => rI0 (fun i j => .int (i + j)) x y H Q ∨ (∃ i j, x = .str i ∧ y = .str j ∧ i.length + j.length ≤ sizeLine ∧ Q (.str (i ++ j)) H) ∨ rCat x y H Q
  | .Sub => rI0 fun i j => .int (i - j)
  | .Mult => fun x y H Q => rI CMulW (fun i j => .int (i * j)) x y H Q ∨ rRep x y H Q
  | .FloorDiv => rI CDivW fun i j => .int (i / j)
  | .Mod => rI (fun _ j => 0 < j) fun i j => .int (i % j)
  | .Pow => rI CPowW fun i j => .int (i ^ j.toNat)
  | .LShift => rI CShl fun i j => .int (i * 2 ^ j.toNat)
  | .RShift => rI (fun _ j => 0 ≤ j) fun i j => .int (i / 2 ^ j.toNat)
  | .BitAnd => rI0 fun i j => .int (Builtin.bitAnd i j)
  | .BitOr => rI0 fun i j => .int (Builtin.bitOr i j)
  | .BitXor => rI0 fun i j => .int (Builtin.bitXor i j)
  | _ => rNo
theorem opr_bin {X : Cx} : ∀ o : Operator, OpR X (binaryOp o) (rBin o)
  | .Add => op_add.or (op_add_str.or op_cat)
  | .Sub => op_sub
  | .Mult => op_mulW.or op_rep
  | .FloorDiv => op_fdivW
  | .Mod => op_mod
  | .Pow => op_powW
  | .LShift => op_shlW
  | .RShift => op_shr
  | .BitAnd => op_and
  | .BitOr => op_or
  | .BitXor => op_xor
  | .Div | .MatMult => or_no
theorem log2_bits {i : Int} : (Builtin.Int.intBits i : Nat) ≤ i.natAbs.log2 + 1 := by
  unfold Builtin.Int.intBits
  split <;> omega
theorem rs_bin {F : Fx} : ∀ o : Operator, R2S F (rBin o) (binS o) := by
  intro o σV σ W x y d e m m' z Q R hx hy hz k
  cases o with
  | Add =>
    cases d <;> cases e <;> try (simp only [binS] at hz; cases hz; done)
    · -- ints
      case int.int i j =>
      cases hz
      exact .inl ⟨i, j, hx.int, hy.int, end_val R k (.int _)⟩
    · case str.str i j =>
      simp only [binS] at hz
      split at hz
      · next hl => cases hz; exact .inr (.inl ⟨i, j, hx.str, hy.str, by rw [lim_eq]; exact hl, end_val R k (.str _)⟩)
      · cases hz
    · case list.list xs ys =>
      simp only [binS] at hz
      split at hz
      · next hl =>
        cases hz
        simp only [Bool.and_eq_true, decide_eq_true_eq, Bool.not_eq_true'] at hl
        obtain ⟨p, vs, rfl, h1, h2⟩ := hx.lstM hl.2.1
        obtain ⟨q, us, rfl, h3, h4⟩ := hy.lstM hl.2.2
        refine .inr (.inr ⟨p, q, vs, us, rfl, rfl, h1, h3, by rw [lim_eq, h2.length, h4.length]; exact hl.1, fun r hr => end_lst R hr ((h2.leM (Msk.le_or_l m m')).append (h4.leM (Msk.le_or_r m m'))) k⟩)
      · cases hz
  | Sub =>
    cases d <;> cases e <;> try (simp only [binS] at hz; cases hz; done)
    cases hz
    exact ⟨_, _, hx.int, hy.int, end_val R k (.int _)⟩
  | Mult =>
    cases d <;> cases e <;> try (simp only [binS] at hz; cases hz; done)
    · case int.int i j =>
      simp only [binS] at hz
      split at hz
      · next hl =>
        cases hz
        simp only [smallI, Bool.and_eq_true, decide_eq_true_eq] at hl
        exact .inl ⟨i, j, hx.int, hy.int, by show i.natAbs.log2 + j.natAbs.log2 < 1000000; omega, end_val R k (.int _)⟩
      · cases hz
    · case list.int xs i =>
      simp only [binS] at hz
      split at hz
      · next hl =>
        cases hz
        simp only [Bool.and_eq_true, decide_eq_true_eq, Bool.not_eq_true'] at hl
        obtain ⟨p, vs, rfl, h1, h2⟩ := hx.lstM hl.2.2
        refine .inr ⟨p, i, vs, rfl, hy.int, h1, by omega, by omega, by rw [lim_eq, h2.length]; exact hl.2.1, fun r hr => end_lst R hr (h2.rep _) k⟩
      · cases hz
  | FloorDiv =>
    cases d <;> cases e <;> try (simp only [binS] at hz; cases hz; done)
    simp only [binS] at hz
    split at hz
    · next hl =>
      cases hz
      simp only [smallI, Bool.and_eq_true, decide_eq_true_eq] at hl
      exact ⟨_, _, hx.int, hy.int, ⟨hl.1, hl.2⟩, end_val R k (.int _)⟩
    · cases hz
  | Mod =>
    cases d <;> cases e <;> try (simp only [binS] at hz; cases hz; done)
    simp only [binS] at hz
    split at hz
    · next hl => cases hz; exact ⟨_, _, hx.int, hy.int, hl, end_val R k (.int _)⟩
    · cases hz
  | Pow =>
    cases d <;> cases e <;> try (simp only [binS] at hz; cases hz; done)
    case int.int i j =>
    simp only [binS] at hz
    split at hz
    · next hl =>
      cases hz
      simp only [Bool.and_eq_true, decide_eq_true_eq] at hl
      refine ⟨i, j, hx.int, hy.int, ⟨hl.1.1, ?_⟩, end_val R k (.int _)⟩
      have h1 := @log2_bits i
      obtain ⟨n, rfl⟩ := Int.eq_ofNat_of_zero_le hl.1.1
      have h2 : i.natAbs.log2 * n < 100000 := hl.2
      have h3 : (Builtin.Int.intBits i : Nat) * n ≤ (i.natAbs.log2 + 1) * n := Nat.mul_le_mul_right n h1
      have h4 : (i.natAbs.log2 + 1) * n = i.natAbs.log2 * n + n := Nat.succ_mul _ _
      have h5 : ((n : Nat) : Int) ≤ 100000 := hl.1.2
      have h6 : ((Builtin.Int.intBits i : Nat) * n : Nat) ≤ 2 ^ 27 := by omega
      exact_mod_cast h6
    · cases hz
  | LShift =>
    cases d <;> cases e <;> try (simp only [binS] at hz; cases hz; done)
    case int.int i j =>
    simp only [binS] at hz
    split at hz
    · next hl =>
      cases hz
      simp only [smallI, Bool.and_eq_true, decide_eq_true_eq] at hl
      have h1 := @log2_bits i
      exact ⟨i, j, hx.int, hy.int, ⟨hl.1, by omega⟩, end_val R k (.int _)⟩
    · cases hz
  | RShift =>
    cases d <;> cases e <;> try (simp only [binS] at hz; cases hz; done)
    simp only [binS] at hz
    split at hz
    · next hl => cases hz; exact ⟨_, _, hx.int, hy.int, hl, end_val R k (.int _)⟩
    · cases hz
  | BitAnd =>
    cases d <;> cases e <;> try (simp only [binS] at hz; cases hz; done)
    cases hz
    exact ⟨_, _, hx.int, hy.int, end_val R k (.int _)⟩
  | BitOr =>
    cases d <;> cases e <;> try (simp only [binS] at hz; cases hz; done)
    cases hz
    exact ⟨_, _, hx.int, hy.int, end_val R k (.int _)⟩
  | BitXor =>
    cases d <;> cases e <;> try (simp only [binS] at hz; cases hz; done)
    cases hz
    exact ⟨_, _, hx.int, hy.int, end_val R k (.int _)⟩
  | Div => simp only [binS] at hz; cases hz
  | MatMult => simp only [binS] at hz; cases hz

/-! ### comparisons -/
def rCmp (K : PySem.W.Frag) : CmpOp → R2
  | .Eq => rEqD K
  | .NotEq => rNeD K
  | .Lt => rI0 fun i j => .bl (decide (i < j))
  | .LtE => rI0 fun i j => .bl (decide (i ≤ j))
  | .Gt => rI0 fun i j => .bl (decide (j < i))
  | .GtE => rI0 fun i j => .bl (decide (j ≤ i))
  | .In => rInD K
  | .NotIn => rNotInD K
  | .Is => fun x y H Q => y = .non ∧ Q (.bl (decide (x = .non))) H
  | .IsNot => fun x y H Q => y = .non ∧ Q (.bl (!decide (x = .non))) H
theorem opr_cmp {X : Cx} (hu : X.A.units + 65 < cLine) : ∀ o : CmpOp, OpR X (compareOp o) (rCmp X.K o)
  | .Eq => op_eqD (by omega)
  | .NotEq => op_neD (by omega)
  | .Lt => op_lt
  | .LtE => op_le
  | .Gt => op_gt
  | .GtE => op_ge
  | .In => op_inD hu
  | .NotIn => op_notInD hu
  | .Is => op_isN
  | .IsNot => op_notN
def cmpR (o : CmpOp) (d e : PyData) (_ _ : Msk) : Option Rs := (cmpS o d e).map fun r => .val (.bool r) m0
theorem shaped_of {d : PyData} (h : dep DEP d = true) : SeqAt.shaped d = true := dep_shaped h (by decide)
theorem non_iff {F : Fx} {W : Wd} {v : V} {d : PyData} {m : Msk} (h : Rdb F W v d m) : decide (v = .non) = isNon d := by
  rcases h with h | ⟨p, o, rfl, rfl, _⟩
  · cases h <;> simp [isNon]
  · cases o <;> simp [OC.data, isNon]
theorem cmp_some {o : CmpOp} {d e : PyData} {m m' : Msk} {z : Rs} (h : cmpR o d e m m' = some z) : ∃ r, cmpS o d e = some r ∧ z = .val (.bool r) m0 := by
  obtain ⟨r, h1, h2⟩ := Option.map_eq_some_iff.mp h
  exact ⟨r, h1, h2.symm⟩
theorem ite_some {c : Prop} [Decidable c] {a r : Bool} (h : (if c then some a else none) = some r) : c ∧ a = r := by
  by_cases hc : c
  · rw [if_pos hc] at h; exact ⟨hc, Option.some.inj h⟩
  · rw [if_neg hc] at h; cases h
theorem rs_cmp {F : Fx} (o : CmpOp) : R2S F (rCmp F.K o) (cmpR o) := by
  intro σV σ W x y d e m m' z Q R hx hy hz k
  obtain ⟨r, hc, rfl⟩ := cmp_some hz
  clear hz
  cases o with
  | Eq =>
    obtain ⟨hl, rfl⟩ := ite_some (show (if (dep DEP d && dep DEP e) = true then some (PyData.eqv d e) else none) = some r from hc)
    rw [Bool.and_eq_true] at hl
    exact ⟨d, e, hx.dp hl.1, hy.dp hl.2, shaped_of hl.1, shaped_of hl.2, end_val R k (.bl _)⟩
  | NotEq =>
    obtain ⟨hl, rfl⟩ := ite_some (show (if (dep DEP d && dep DEP e) = true then some (!PyData.eqv d e) else none) = some r from hc)
    rw [Bool.and_eq_true] at hl
    exact ⟨d, e, hx.dp hl.1, hy.dp hl.2, shaped_of hl.1, shaped_of hl.2, end_val R k (.bl _)⟩
  | In =>
    cases e with
    | list es =>
      obtain ⟨hl, rfl⟩ := ite_some (show (if (dep DEP d && dep DEP (.list es)) = true then some (es.any fun z => PyData.eqv z d) else none) = some r from hc)
      rw [Bool.and_eq_true] at hl
      exact ⟨_, _, hx.dp hl.1, hy.dp hl.2, shaped_of hl.1, shaped_of hl.2, end_val R k (.bl _)⟩
    | _ => cases hc
  | NotIn =>
    cases e with
    | list es =>
      obtain ⟨hl, rfl⟩ := ite_some (show (if (dep DEP d && dep DEP (.list es)) = true then some (!es.any fun z => PyData.eqv z d) else none) = some r from hc)
      rw [Bool.and_eq_true] at hl
      exact ⟨_, _, hx.dp hl.1, hy.dp hl.2, shaped_of hl.1, shaped_of hl.2, end_val R k (.bl _)⟩
    | _ => cases hc
  | Is =>
    cases e with
    | none =>
      cases hc
      refine ⟨hy.non, ?_⟩
      rw [non_iff hx]
      exact end_val R k (.bl _)
    | _ => cases hc
  | IsNot =>
    cases e with
    | none =>
      cases hc
      refine ⟨hy.non, ?_⟩
      rw [non_iff hx]
      exact end_val R k (.bl _)
    | _ => cases hc
  | Lt =>
    cases d <;> cases e <;> try (cases hc; done)
    cases hc
    exact ⟨_, _, hx.int, hy.int, end_val R k (.bl _)⟩
  | LtE =>
    cases d <;> cases e <;> try (cases hc; done)
    cases hc
    exact ⟨_, _, hx.int, hy.int, end_val R k (.bl _)⟩
  | Gt =>
    cases d <;> cases e <;> try (cases hc; done)
    cases hc
    exact ⟨_, _, hx.int, hy.int, end_val R k (.bl _)⟩
  | GtE =>
    cases d <;> cases e <;> try (cases hc; done)
    cases hc
    exact ⟨_, _, hx.int, hy.int, end_val R k (.bl _)⟩

/-! ### subscripts, slices -/
def rIxD (K : PySem.W.Frag) : R2 := fun x y H Q => rIxL K x y H Q ∨ rIxT K x y H Q
theorem ix_data {X : Cx} : IxR X (rIxD X.K) := ix_list.or ix_tup
theorem atI_dr {K : PySem.W.Frag} {R : Reg} {H : Hp} {vs : List V} {ds : List PyData} {i : Int} {d : PyData} (a : DrAll K R H vs ds) (h : atI ds i = some d) : ∃ v, atI vs i = some v ∧ Dr K R H v d := by
  unfold atI at h ⊢
  rw [a.length]
  obtain ⟨j, e1, e2⟩ := Option.bind_eq_some_iff.mp h
  obtain ⟨v, e3, e4⟩ := a.get e2
  exact ⟨v, by rw [e1]; exact e3, e4⟩
def idxR (d e : PyData) (m _ : Msk) : Option Rs := idxS (d, m) e
theorem rs_idx {F : Fx} : R2S F (rIxD F.K) idxR := by
  intro σV σ W x y d e m m' z Q R hx hy hz k
  cases d <;> cases e <;> try (simp only [idxR, idxS] at hz; cases hz; done)
  · simp only [idxR, idxS] at hz
    obtain ⟨d, e1, e2⟩ := Option.map_eq_some_iff.mp hz
    subst e2
    obtain ⟨p, vs, rfl, h1, h2⟩ := hx.lst
    obtain ⟨v, e3, e4⟩ := atI_dr h2 e1
    exact .inl ⟨p, vs, _, v, rfl, hy.int, h1, e3, end_val R k e4.atNm⟩
  · simp only [idxR, idxS] at hz
    obtain ⟨d, e1, e2⟩ := Option.map_eq_some_iff.mp hz
    subst e2
    obtain ⟨p, vs, rfl, h1, h2⟩ := hx.tup
    obtain ⟨v, e3, e4⟩ := atI_dr h2 e1
    exact .inr ⟨p, vs, _, v, rfl, hy.int, h1, e3, end_val R k e4.atNm⟩
theorem cut_dr {K : PySem.W.Frag} {R : Reg} {H : Hp} {vs : List V} {ds : List PyData} {lo hi : Option Int} (a : DrAll K R H vs ds) : DrAll K R H (cutV vs lo hi) (cutD ds lo hi) := by
  unfold cutV cutD
  rw [a.length]
  exact (a.drop _).take _

/-! ### built-in functions -/
/-- repr of data -/
def rRepr (K : PySem.W.Frag) : List V → Hp → VK → Prop := fun xs H Q => ∃ x d, xs = [x] ∧ Dp K H x d ∧ dep DEP d = true ∧ d.showable = true ∧ d.shown.length ≤ sizeLine ∧ Q (.str d.shown) H
theorem noDictOf {d : PyData} (h : dep DEP d = true) : d.hasDict = false := PyData.hasDict_of_canLay d (dep_lay d DEP h).1
theorem call_reprD {X : Cx} (hu : X.A.units + 64 < cLine) (hg : X.A.guards = some []) : CallR X (.builtin "repr") (rRepr X.K) := by
  intro pins s σ H xs us Q I r h
  obtain ⟨x, d, rfl, hd, h1, h2, h3, q⟩ := h
  obtain ⟨u, rfl, ru⟩ := vals1 r
  have hdep : d.depth ≤ 60 := (dep_lay d DEP h1).2
  cases hd with
  | non => cases ru; exact PySem.P.repr_of_none ⟨.str _, H, I.tok _, ⟨_, rfl⟩, q⟩
  | bl b => cases ru; exact PySem.P.repr_of_bool ⟨.str _, H, I.tok _, ⟨_, rfl⟩, q⟩
  | int i =>
    obtain ⟨t, rfl⟩ := ru
    exact PySem.P.repr_of_int (of_decide_eq_true (by simpa [PyData.showable] using h2)) ⟨.str _, H, I.tok _, ⟨_, rfl⟩, q⟩
  | str z =>
    obtain ⟨t, rfl⟩ := ru
    exact PySem.P.repr_of_str ⟨.str _, H, I.tok _, ⟨_, rfl⟩, q⟩ h3
  | lst a b =>
    cases ru
    obtain ⟨as, rd⟩ := Dp.reads I _ _ (.ref _) (Dp.lst a b) rfl
    exact repr_of_reads' rd h2 (PyData.noDict_hsm (noDictOf h1)) hg (by omega) (fun _ _ e => e) (fun h' u tk hk => ⟨.str _, H, I.kept hk, ⟨_, rfl⟩, q⟩) h3
  | tup a b =>
    cases ru
    obtain ⟨as, rd⟩ := Dp.reads I _ _ (.ref _) (Dp.tup a b) rfl
    exact repr_of_reads' rd h2 (PyData.noDict_hsm (noDictOf h1)) hg (by omega) (fun _ _ e => e) (fun h' u tk hk => ⟨.str _, H, I.kept hk, ⟨_, rfl⟩, q⟩) h3
end Dv

/-! Dv, part G: built-in functions -/
namespace Dv
open PySem PySem.Spec PySem.W PyProof.Rows L2

inductive RdA (F : Fx) (W : Wd) : List V → List (PyData × Msk) → Prop
  | nil : RdA F W [] []
  | cons {v : V} {vs : List V} {d : PyData × Msk} {ds : List (PyData × Msk)} : Rdb F W v d.1 d.2 → RdA F W vs ds → RdA F W (v :: vs) (d :: ds)
theorem RdA.one {F : Fx} {W : Wd} {vs : List V} {d : PyData × Msk} (h : RdA F W vs [d]) : ∃ v, vs = [v] ∧ Rdb F W v d.1 d.2 := by
  cases h with
  | cons a b => cases b; exact ⟨_, rfl, a⟩
theorem RdA.two {F : Fx} {W : Wd} {vs : List V} {d e : PyData × Msk} (h : RdA F W vs [d, e]) : ∃ v u, vs = [v, u] ∧ Rdb F W v d.1 d.2 ∧ Rdb F W u e.1 e.2 := by
  cases h with
  | cons a b =>
    cases b with
    | cons c b => cases b; exact ⟨_, _, rfl, a, c⟩
/-- a call by values and by data -/
def CS (F : Fx) (r : List V → Hp → VK → Prop) (g : List (PyData × Msk) → Option Rs) : Prop :=
  ∀ {σV : L2.St} {σ : En} {W : Wd} {vs : List V} {ds : List (PyData × Msk)} {z : Rs} {Q : VK}, Rel F σV σ W → RdA F W vs ds → g ds = some z →
    (∀ v W', Rel F σV σ W' → Stp σV σ W σ W' → RsR F (Ow σV σ) W' v z → RsNew W v z → Q v W'.H) → r vs W.H Q

theorem ints_of {K : PySem.W.Frag} {R : Reg} {H : Hp} : ∀ {ds : List PyData} {ns : List Int} {vs : List V}, allInts ds = some ns → DrAll K R H vs ds → vs = ns.map V.int
  | [], ns, _, h, .nil => by simp [allInts] at h; subst h; rfl
  | .int i :: ds, ns, _, h, .cons a b => by
    simp only [allInts, Option.map_eq_some_iff] at h
    obtain ⟨ms, h1, rfl⟩ := h
    cases a
    rw [ints_of h1 b]
    rfl
  | .none :: _, _, _, h, _ | .bool _ :: _, _, _, h, _ | .str _ :: _, _, _, h, _ | .list _ :: _, _, _, h, _ | .tuple _ :: _, _, _, h, _ | .dict _ :: _, _, _, h, _ => by simp [allInts] at h
theorem minL_mem : ∀ (r : List Int) (x : Int), minL x r ∈ x :: r ∧ ∀ y ∈ x :: r, minL x r ≤ y
  | [], x => by simp [minL]
  | y :: r, x => by
    by_cases hyx : y < x
    · have h := minL_mem r y
      have e : minL x (y :: r) = minL y r := by simp only [minL, if_pos hyx]
      rw [e]
      refine ⟨List.mem_cons_of_mem _ h.1, fun z hz => ?_⟩
      rcases List.mem_cons.mp hz with rfl | hz
      · exact Int.le_trans (h.2 y (List.mem_cons_self ..)) (by omega)
      · exact h.2 z hz
    · have h := minL_mem r x
      have e : minL x (y :: r) = minL x r := by simp only [minL, if_neg hyx]
      rw [e]
      refine ⟨?_, fun z hz => ?_⟩
      · rcases List.mem_cons.mp h.1 with q | q
        · rw [q]; exact List.mem_cons_self ..
        · exact List.mem_cons_of_mem _ (List.mem_cons_of_mem _ q)
      · rcases List.mem_cons.mp hz with rfl | hz
        · exact h.2 z (List.mem_cons_self ..)
        · rcases List.mem_cons.mp hz with rfl | hz
          · exact Int.le_trans (h.2 x (List.mem_cons_self ..)) (by omega)
          · exact h.2 z (List.mem_cons_of_mem _ hz)
theorem maxL_mem : ∀ (r : List Int) (x : Int), maxL x r ∈ x :: r ∧ ∀ y ∈ x :: r, y ≤ maxL x r
  | [], x => by simp [maxL]
  | y :: r, x => by
    by_cases hyx : x < y
    · have h := maxL_mem r y
      have e : maxL x (y :: r) = maxL y r := by simp only [maxL, if_pos hyx]
      rw [e]
      refine ⟨List.mem_cons_of_mem _ h.1, fun z hz => ?_⟩
      rcases List.mem_cons.mp hz with rfl | hz
      · exact Int.le_trans (by omega) (h.2 y (List.mem_cons_self ..))
      · exact h.2 z hz
    · have h := maxL_mem r x
      have e : maxL x (y :: r) = maxL x r := by simp only [maxL, if_neg hyx]
      rw [e]
      refine ⟨?_, fun z hz => ?_⟩
      · rcases List.mem_cons.mp h.1 with q | q
        · rw [q]; exact List.mem_cons_self ..
        · exact List.mem_cons_of_mem _ (List.mem_cons_of_mem _ q)
      · rcases List.mem_cons.mp hz with rfl | hz
        · exact h.2 z (List.mem_cons_self ..)
        · rcases List.mem_cons.mp hz with rfl | hz
          · exact Int.le_trans (by omega) (h.2 x (List.mem_cons_self ..))
          · exact h.2 z (List.mem_cons_of_mem _ hz)

/-! ### sorted -/
theorem insD_eq (a : PyData) (r : List PyData) : insD a r = (if (r.all fun b => true) = true then insD a r else r) := by simp
theorem insD_perm (a : PyData) : ∀ r : List PyData, (insD a r).Perm (a :: r)
  | [] => List.Perm.refl _
  | b :: r => by
    unfold insD
    split
    · exact List.Perm.refl _
    · exact ((insD_perm a r).cons b).trans (List.Perm.swap a b r)
theorem sortD_perm : ∀ xs : List PyData, (sortD xs).Perm xs
  | [] => List.Perm.refl _
  | a :: r => (insD_perm a (sortD r)).trans ((sortD_perm r).cons a)
theorem leD_total : TotalLe leD := by
  have h := sortLe_total (listOrd itemOrd) false (fun d : PyData => keyToks d)
  exact h
theorem insD_sorted (a : PyData) : ∀ r : List PyData, r.Pairwise (fun x y => leD x y = true) → (insD a r).Pairwise (fun x y => leD x y = true)
  | [], _ => by simp [insD]
  | b :: r, h => by
    unfold insD
    rw [List.pairwise_cons] at h
    split
    · next hab =>
      rw [List.pairwise_cons]
      refine ⟨fun c hc => ?_, by rw [List.pairwise_cons]; exact h⟩
      rcases List.mem_cons.mp hc with rfl | hc
      · exact hab
      · exact leD_total.trans a b c hab (h.1 c hc)
    · next hab =>
      rw [List.pairwise_cons]
      refine ⟨fun c hc => ?_, insD_sorted a r h.2⟩
      have := (insD_perm a r).mem_iff.mp hc
      rcases List.mem_cons.mp this with rfl | hc
      · exact (leD_total.total b c).elim id fun q => absurd q hab
      · exact h.1 c hc
theorem sortD_sorted : ∀ xs : List PyData, (sortD xs).Pairwise (fun x y => leD x y = true)
  | [] => List.Pairwise.nil
  | a :: r => insD_sorted a _ (sortD_sorted r)
theorem insD_filter (c a : PyData) : ∀ r : List PyData, r.Pairwise (fun x y => leD x y = true) → (insD a r).filter (sameRank leD c) = (a :: r).filter (sameRank leD c)
  | [], _ => rfl
  | b :: r, h => by
    rw [List.pairwise_cons] at h
    unfold insD
    split
    · rfl
    · next hab =>
      rw [List.filter_cons, insD_filter c a r h.2, List.filter_cons, List.filter_cons, List.filter_cons]
      by_cases ha : sameRank leD c a = true
      · by_cases hb : sameRank leD c b = true
        · exfalso
          simp only [sameRank, Bool.and_eq_true] at ha hb
          exact hab (leD_total.trans a c b ha.2 hb.1)
        · simp [ha, hb]
      · simp [ha]
theorem sortD_eq (xs : List PyData) : sortD xs = xs.mergeSort leD := by
  refine sort_unique leD_total (sortD_sorted xs) fun c => ?_
  induction xs with
  | nil => rfl
  | cons a r ih =>
    show (insD a (sortD r)).filter _ = _
    rw [insD_filter c a _ (sortD_sorted r), List.filter_cons, List.filter_cons, ih]

theorem dp_pairs {K : PySem.W.Frag} {H : Hp} : ∀ {vs : List V} {ds : List PyData}, DpAll K H vs ds → ∀ p ∈ vs.zip ds, Dp K H p.1 p.2
  | _, _, .nil, p, hp => by simp at hp
  | _, _, .cons a b, p, hp => by
    rw [List.zip_cons_cons] at hp
    rcases List.mem_cons.mp hp with rfl | hp
    · exact a
    · exact dp_pairs b p hp
theorem dr_pairs {K : PySem.W.Frag} {R : Reg} {H : Hp} : ∀ {vs : List V} {ds : List PyData}, DrAll K R H vs ds → ∀ p ∈ vs.zip ds, Dr K R H p.1 p.2
  | _, _, .nil, p, hp => by simp at hp
  | _, _, .cons a b, p, hp => by
    rw [List.zip_cons_cons] at hp
    rcases List.mem_cons.mp hp with rfl | hp
    · exact a
    · exact dr_pairs b p hp
theorem dr_of_pairs {K : PySem.W.Frag} {R : Reg} {H : Hp} : ∀ (ps : List (V × PyData)), (∀ p ∈ ps, Dr K R H p.1 p.2) → DrAll K R H (ps.map Prod.fst) (ps.map Prod.snd)
  | [], _ => .nil
  | p :: ps, h => .cons (h p (List.mem_cons_self ..)) (dr_of_pairs ps fun q hq => h q (List.mem_cons_of_mem _ hq))
theorem dpAll_len {K : PySem.W.Frag} {H : Hp} : ∀ {vs : List V} {ds : List PyData}, DpAll K H vs ds → vs.length = ds.length
  | _, _, .nil => rfl
  | _, _, .cons _ b => by rw [List.length_cons, List.length_cons, dpAll_len b]
theorem each_zip {R : Value → V × PyData → Prop} : ∀ {xs : List V} {us : List Value} {ds : List PyData}, Vals xs us → xs.length = ds.length → (∀ x u d, RelV x u → (x, d) ∈ xs.zip ds → R u (x, d)) → EachIs R us (xs.zip ds)
  | _, _, [], .nil, _, _ => .nil
  | _, _, _ :: _, .nil, h, _ => by cases h
  | _, _, [], .cons _ _, h, _ => by cases h
  | _, _, d :: ds, .cons r t, h, k => by
    rw [List.zip_cons_cons]
    refine .cons (k _ _ d r (by rw [List.zip_cons_cons]; exact List.mem_cons_self ..)) (each_zip t (by simpa using h) fun x u e q hm => k x u e q (by rw [List.zip_cons_cons]; exact List.mem_cons_of_mem _ hm))
theorem vals_of_each : ∀ {us : List Value} {ps : List (V × PyData)}, EachIs (fun u p => RelV p.1 u) us ps → Vals (ps.map Prod.fst) us
  | _, _, .nil => .nil
  | _, _, .cons r t => .cons r (vals_of_each t)
abbrev pairLe : V × PyData → V × PyData → Bool := dataLe false (fun p : V × PyData => p.2)
def rSortD (K : PySem.W.Frag) : List V → Hp → VK → Prop := fun vs H Q => ∃ a xs ds, vs = [.ref a] ∧ SqL K H a xs ∧ DpAll K H xs ds ∧ depAll DEP ds = true ∧ sortable ds = true ∧
  ∀ p, H p = none → Q (.ref p) (L2.upd H p (.lst (((xs.zip ds).mergeSort pairLe).map Prod.fst)))
theorem call_sortedD {X : Cx} (hu : X.A.units + 64 < cLine) : CallR X (.builtin "sorted") (rSortD X.K) := by
  intro pins s σ H vs us Q I r h
  obtain ⟨a, xs, ds, rfl, hs, hd, h1, h2, q⟩ := h
  obtain ⟨its, rv, hl, hz⟩ := I.list hs
  rw [Vals.ref1 r]
  have hlen := dpAll_len hd
  have hsnd : (xs.zip ds).map Prod.snd = ds := List.map_snd_zip (by omega)
  simp only [sortable, Bool.and_eq_true, Bool.or_eq_true, decide_eq_true_eq, List.all_eq_true] at h2
  obtain ⟨h20, h21, h22⟩ := h2
  rw [depAll_eq, List.all_eq_true] at h1
  have e1 : EachIs (fun u (p : V × PyData) => RelV p.1 u) its (xs.zip ds) := each_zip rv hlen fun x u d q _ => q
  have e2 : EachIs (fun u (p : V × PyData) => ∃ as, Reads s.heap u p.2 as) its (xs.zip ds) := each_zip rv hlen fun x u d q hm => Dp.reads I d x u (dp_pairs hd _ hm) q
  refine sorted_data (enc := Prod.snd) hl.isList e1 e2 ?_ ?_ ?_ ?_ ?_
  · rw [hsnd]
    intro d hd d' hd'
    exact h21 d hd d' hd'
  · rw [hsnd]
    rcases h22 with h | h
    · refine .inr fun d hd => ?_
      have := h d hd
      cases d <;> simp [noTup] at this ⊢
    · refine .inl fun d hd => ?_
      have := h d hd
      cases d <;> simp [neTup] at this ⊢
      next xs =>
        cases xs with
        | nil => simp [neTup] at this
        | cons x r => exact ⟨x, r, rfl⟩
  · rw [List.length_zip, hlen, Nat.min_self, lim_eq]
    exact h20
  · intro p hp
    have hm : p.2 ∈ ds := by rw [← hsnd]; exact List.mem_map.mpr ⟨p, hp, rfl⟩
    have hdp : p.2.depth ≤ 60 := (dep_lay p.2 DEP (h1 _ hm)).2
    show X.A.units + 2 + p.2.depth < cLine
    omega
  · intro out ho eo
    obtain ⟨e, he⟩ := sortedAll_at s.heap its (List.toArray out)
    have hv := vals_of_each eo
    refine ⟨.ref _, _, I.laid (t' := s.toks) (a := s.heap.objs.size + 1) (o := .lst (((xs.zip ds).mergeSort pairLe).map Prod.fst)) (fun b o q => sortedAll_old q) (Nat.le_succ _) ?_, rfl, q _ (I.hok.fresh (Nat.le_succ _))⟩
    refine ⟨?_, out, e, hv, he⟩
    rw [List.length_map, List.length_mergeSort, List.length_zip, hlen, Nat.min_self, lim_eq]
    exact h20

/-! ### all of them -/
def rBl (K : PySem.W.Frag) : Bl → List V → Hp → VK → Prop
  | .len => fun xs H Q => (∃ p ys, xs = [.ref p] ∧ (SqL K H p ys ∨ SqT K H p ys) ∧ Q (.int ys.length) H) ∨ ∃ z, xs = [.str z] ∧ z.length ≤ sizeLine ∧ Q (.int z.length) H
  | .repr => rRepr K
  | .sum => rSum K
  | .min1 => rMin K
  | .max1 => rMax K
  | .min2 => fun xs H Q => ∃ i j, xs = [.int i, .int j] ∧ Q (.int (if j < i then j else i)) H
  | .max2 => fun xs H Q => ∃ i j, xs = [.int i, .int j] ∧ Q (.int (if j > i then j else i)) H
  | .abs => fun xs H Q => ∃ i, xs = [.int i] ∧ Q (.int (if i < 0 then -i else i)) H
  | .int => fun xs H Q => (∃ i, xs = [.int i] ∧ Q (.int i) H) ∨ ∃ k, xs = [.bl k] ∧ Q (.int (if k then 1 else 0)) H
  | .list => fun xs H Q => ∃ p ys, xs = [.ref p] ∧ (SqL K H p ys ∨ SqT K H p ys) ∧ ∀ l, H l = none → Q (.ref l) (L2.upd H l (.lst ys))
  | .tuple => fun xs H Q => ∃ p ys, xs = [.ref p] ∧ ((SqL K H p ys ∧ ∀ l, H l = none → Q (.ref l) (L2.upd H l (.tup ys))) ∨ (SqT K H p ys ∧ Q (.ref p) H))
  | .sorted => rSortD K
  | .isinst T => fun xs H Q => rIsi K (xs ++ [.ty T]) H Q
def Bl.val : Bl → Value
  | .len => .builtin "len"
  | .repr => .builtin "repr"
  | .sum => .builtin "sum"
  | .min1 | .min2 => .builtin "min"
  | .max1 | .max2 => .builtin "max"
  | .abs => .builtin "abs"
  | .int => .type "int"
  | .list => .type "list"
  | .tuple => .type "tuple"
  | .sorted => .builtin "sorted"
  | .isinst _ => .builtin "isinstance"
theorem call_bl {X : Cx} (hc : X.calm = true) (hu : X.A.units + 64 < cLine) (hg : X.A.guards = some []) : ∀ b : Bl, (∀ T, b ≠ .isinst T) → CallR X b.val (rBl X.K b)
  | .len, _ => call_len_seq.or call_len_str
  | .repr, _ => call_reprD hu hg
  | .sum, _ => cr_sum hc
  | .min1, _ => cr_min hc
  | .max1, _ => cr_max hc
  | .min2, _ => call_min2 hc
  | .max2, _ => call_max2 hc
  | .abs, _ => call_abs
  | .int, _ => call_int1
  | .list, _ => call_list_of
  | .tuple, _ => call_tuple_of
  | .sorted, _ => call_sortedD hu
  | .isinst T, h => absurd rfl (h T)
theorem tyX_of {F : Fx} {W : Wd} {v : V} {d : PyData} {m : Msk} (h : Rdb F W v d m) : TyX F.K W.H v (.type (tyOf d)) := by
  rcases h with h | ⟨p, o, rfl, rfl, h⟩
  · cases h with
    | non => exact .base .non
    | bl b => exact .base (.bl b)
    | int i => exact .base (.int i)
    | str x => exact .base (.str x)
    | lst a b c => exact .base (.lst b)
    | lstI a b c =>
      rcases b with ⟨o, b⟩ | ⟨o, its, n, b1, b2, _⟩
      · exact .base (.frz b)
      · exact .kList b1 b2
    | tup a b =>
      rcases a with (a | ⟨o, a⟩) | ⟨o, its, n, b1, b2, _⟩
      · exact .base (.tup a)
      · exact .fTuple a
      · exact .kTuple b1 b2
    | dK a b c e => exact .base (.dK b)
    | dT a b c e => exact .base (.dT b)
  · cases o with
    | l ds => obtain ⟨vs, e, _⟩ := h; exact .base (.lst e)
    | dk ks ds => obtain ⟨vs, e, _⟩ := h; exact .base (.dK e)
    | dt ks ds => obtain ⟨vs, e, _⟩ := h; exact .base (.dT e)
theorem Rdb.seq {F : Fx} {W : Wd} {v : V} {ds : List PyData} {m : Msk} (h : Rdb F W v (.list ds) m ∨ Rdb F W v (.tuple ds) m) : ∃ p vs, v = .ref p ∧ (SqL F.K W.H p vs ∨ SqT F.K W.H p vs) ∧ DrAll F.K (W.rg m) W.H vs ds := by
  rcases h with h | h
  · obtain ⟨p, vs, a, b, c⟩ := h.lst; exact ⟨p, vs, a, .inl b, c⟩
  · obtain ⟨p, vs, a, b, c⟩ := h.tup; exact ⟨p, vs, a, .inr b, c⟩
theorem zip_sorted (xs : List V) (ds : List PyData) (h : xs.length = ds.length) : ((xs.zip ds).mergeSort pairLe).map Prod.snd = sortD ds := by
  rw [sortD_eq, sort_maps (r := pairLe) (s := leD) Prod.snd (fun a _ b _ => rfl), List.map_snd_zip (by omega)]
theorem cs_bl {F : Fx} (b : Bl) : CS F (rBl F.K b) (bltS b) := by
  intro σV σ W vs ds z Q R ha hz k
  match b, ds, hz with
  | .len, [(.list xs, m)], hz =>
    cases hz
    obtain ⟨v, rfl, q⟩ := ha.one
    obtain ⟨p, us, rfl, h1, h2⟩ := Rdb.seq (.inl q)
    exact .inl ⟨p, us, rfl, h1, end_val R k (by rw [h2.length]; exact .int _)⟩
  | .len, [(.tuple xs, m)], hz =>
    cases hz
    obtain ⟨v, rfl, q⟩ := ha.one
    obtain ⟨p, us, rfl, h1, h2⟩ := Rdb.seq (.inr q)
    exact .inl ⟨p, us, rfl, h1, end_val R k (by rw [h2.length]; exact .int _)⟩
  | .len, [(.str x, m)], hz =>
    obtain ⟨v, rfl, q⟩ := ha.one
    simp only [bltS] at hz
    split at hz
    · next hl => cases hz; exact .inr ⟨x, by rw [q.str], by rw [lim_eq]; exact hl, end_val R k (.int _)⟩
    · cases hz
  | .repr, [(d, m)], hz =>
    obtain ⟨v, rfl, q⟩ := ha.one
    simp only [bltS] at hz
    split at hz
    · next hl =>
      cases hz
      simp only [Bool.and_eq_true, decide_eq_true_eq] at hl
      exact ⟨v, d, rfl, q.dp hl.1, hl.1, hl.2.1, by rw [lim_eq]; exact hl.2.2, end_val R k (.str _)⟩
    · cases hz
  | .sum, [(.list xs, m)], hz =>
    obtain ⟨v, rfl, q⟩ := ha.one
    obtain ⟨ns, e1, e2⟩ := Option.map_eq_some_iff.mp hz
    cases e2
    obtain ⟨p, us, rfl, h1, h2⟩ := q.lst
    rw [ints_of e1 h2] at h1
    exact ⟨p, ns, rfl, h1, end_val R k (.int _)⟩
  | .min1, [(.list xs, m)], hz =>
    obtain ⟨v, rfl, q⟩ := ha.one
    obtain ⟨ns, e1, e2⟩ := Option.bind_eq_some_iff.mp hz
    obtain ⟨p, us, rfl, h1, h2⟩ := q.lst
    rw [ints_of e1 h2] at h1
    cases ns with
    | nil => cases e2
    | cons x r =>
      cases e2
      refine ⟨p, x :: r, rfl, h1, Nat.zero_lt_succ _, fun n hn hl => ?_⟩
      have q := minL_mem r x
      have e : n = minL x r := Int.le_antisymm (hl _ q.1) (q.2 _ hn)
      rw [e]
      exact end_val R k (.int _)
  | .max1, [(.list xs, m)], hz =>
    obtain ⟨v, rfl, q⟩ := ha.one
    obtain ⟨ns, e1, e2⟩ := Option.bind_eq_some_iff.mp hz
    obtain ⟨p, us, rfl, h1, h2⟩ := q.lst
    rw [ints_of e1 h2] at h1
    cases ns with
    | nil => cases e2
    | cons x r =>
      cases e2
      refine ⟨p, x :: r, rfl, h1, Nat.zero_lt_succ _, fun n hn hl => ?_⟩
      have q := maxL_mem r x
      have e : n = maxL x r := Int.le_antisymm (q.2 _ hn) (hl _ q.1)
      rw [e]
      exact end_val R k (.int _)
  | .min2, [(.int i, _), (.int j, _)], hz =>
    cases hz
    obtain ⟨v, u, rfl, q1, q2⟩ := ha.two
    exact ⟨i, j, by rw [q1.int, q2.int], end_val R k (.int _)⟩
  | .max2, [(.int i, _), (.int j, _)], hz =>
    cases hz
    obtain ⟨v, u, rfl, q1, q2⟩ := ha.two
    exact ⟨i, j, by rw [q1.int, q2.int], end_val R k (.int _)⟩
  | .abs, [(.int i, _)], hz =>
    cases hz
    obtain ⟨v, rfl, q⟩ := ha.one
    exact ⟨i, by rw [q.int], end_val R k (.int _)⟩
  | .int, [(.int i, _)], hz =>
    cases hz
    obtain ⟨v, rfl, q⟩ := ha.one
    exact .inl ⟨i, by rw [q.int], end_val R k (.int _)⟩
  | .int, [(.bool i, _)], hz =>
    cases hz
    obtain ⟨v, rfl, q⟩ := ha.one
    exact .inr ⟨i, by rw [q.bl], end_val R k (.int _)⟩
  | .list, [(.list xs, m)], hz =>
    cases hz
    obtain ⟨v, rfl, q⟩ := ha.one
    obtain ⟨p, us, rfl, h1, h2⟩ := Rdb.seq (.inl q)
    exact ⟨p, us, rfl, h1, fun l hl => end_lst R hl h2 k⟩
  | .list, [(.tuple xs, m)], hz =>
    cases hz
    obtain ⟨v, rfl, q⟩ := ha.one
    obtain ⟨p, us, rfl, h1, h2⟩ := Rdb.seq (.inr q)
    exact ⟨p, us, rfl, h1, fun l hl => end_lst R hl h2 k⟩
  | .tuple, [(.list xs, m)], hz =>
    cases hz
    obtain ⟨v, rfl, q⟩ := ha.one
    obtain ⟨p, us, rfl, h1, h2⟩ := q.lst
    exact ⟨p, us, rfl, .inl ⟨h1, fun l hl => end_tup R hl h2 k⟩⟩
  | .tuple, [(.tuple xs, m)], hz =>
    cases hz
    obtain ⟨v, rfl, q⟩ := ha.one
    obtain ⟨p, us, rfl, h1, h2⟩ := q.tup
    exact ⟨p, us, rfl, .inr ⟨h1, end_val R k (.tup h1 h2)⟩⟩
  | .isinst T, [(d, m)], hz =>
    obtain ⟨v, rfl, q⟩ := ha.one
    obtain ⟨r, e1, e2⟩ := Option.map_eq_some_iff.mp hz
    cases e2
    exact ⟨v, .ty T, _, _, r, rfl, .ty T, tyX_of q, kit_ty e1, end_val R k (.bl _)⟩
  | .sorted, [(.list xs, m)], hz =>
    obtain ⟨v, rfl, q⟩ := ha.one
    simp only [bltS] at hz
    split at hz
    · next hl =>
      cases hz
      rw [Bool.and_eq_true] at hl
      obtain ⟨p, us, rfl, h1, h2⟩ := q.lst
      refine ⟨p, us, xs, rfl, h1, DrAll.dp xs DEP hl.1 h2, hl.1, hl.2, fun l hl' => ?_⟩
      have a : DrAll F.K (W.rg m) W.H (((us.zip xs).mergeSort pairLe).map Prod.fst) (((us.zip xs).mergeSort pairLe).map Prod.snd) :=
        dr_of_pairs _ fun p hp => dr_pairs h2 p ((List.mergeSort_perm _ _).mem_iff.mp hp)
      rw [zip_sorted us xs h2.length] at a
      exact end_lst R hl' a k
    · cases hz
end Dv

/-! Dv, part H: what a def promises, by data; calls -/
namespace Dv
open PySem PySem.Spec PySem.W PyProof.Rows L2

abbrev noReg : Reg := ⟨fun _ => False, False⟩
theorem noReg_keeps (R : Reg) (H : Hp) : Keeps noReg H R H := ⟨fun _ z => False.elim z, fun z => False.elim z, fun _ _ z => False.elim z, fun _ _ e => e, fun _ _ _ e => e⟩
/-- what a call hands back, S the addresses handed, S' the new ones that are kept -/
def RtR (K : PySem.W.Frag) (rk : Msk) (S S' : Addr → Prop) (H H' : Hp) (v : V) : Rt → Prop
  | .v d => Dr K ⟨fun a => (rk.d = true ∧ S a) ∨ (rk.c = true ∧ S' a), rk.g = true⟩ H' v d
  | .n o => ∃ p, v = .ref p ∧ H p = none ∧ ¬ S' p ∧ OwR K ⟨fun a => (rk.d = true ∧ S a) ∨ (rk.c = true ∧ S' a), rk.g = true⟩ H' p o
def ArgR (K : PySem.W.Frag) (f : FSig) (S : Addr → Prop) (im : Prop) (ios : Option Addr) (H : Hp) (i : Nat) (v : V) (d : PyData) : Prop :=
  if f.io = some i then ∃ p xs ws, d = .list xs ∧ v = .ref p ∧ ios = some p ∧ ¬ S p ∧ H p = some (.lst ws) ∧ DrAll K noReg H ws xs else Dr K ⟨S, im⟩ H v d
/-- the promise of a def of the text, by data -/
def spF (K : PySem.W.Frag) (f : FSig) : Sp := fun vs H Q _ =>
  ∃ (ds : List PyData) (rt : Rt) (out : List PyData) (S : Addr → Prop) (im : Prop) (ios : Option Addr),
    f.sem ds = some (rt, out) ∧ vs.length = f.ps.length ∧ vs.length = ds.length ∧ (∀ a, S a → ∃ u, H a = some u) ∧ (im → f.gi = true) ∧
    (∀ (i : Nat) (v : V) (d : PyData), vs[i]? = some v → ds[i]? = some d → ArgR K f S im ios H i v d) ∧ (f.io = none → ios = none) ∧ (∀ k, f.io = some k → k < vs.length) ∧
    ∀ (v : V) (H' : Hp) (S' : Addr → Prop), (∀ a o, H a = some o → ios ≠ some a → H' a = some o) → (∀ a, S' a → H a = none ∧ ∃ u, H' a = some u) →
      (∀ p, ios = some p → ∃ ws, H' p = some (.lst ws) ∧ DrAll K noReg H' ws out) → RtR K f.rk S S' H H' v rt → Q v H'

section
variable {F : Fx} {σV : L2.St} {σ σ' : En} {W W' : Wd}
/-- the world behind a call -/
def Wd.after (W : Wd) (H' : Hp) (S' : Addr → Prop) (bd bc : Bool) : Wd := ⟨H', fun a => W.Sd a ∨ (bd = true ∧ S' a), fun a => W.Sc a ∨ (bc = true ∧ S' a)⟩
theorem after_S {H' : Hp} {S' : Addr → Prop} {bd bc : Bool} {a : Addr} (h : (W.after H' S' bd bc).S a) : W.S a ∨ S' a := by
  rcases h with (h | ⟨_, h⟩) | (h | ⟨_, h⟩)
  · exact .inl (.inl h)
  · exact .inr h
  · exact .inl (.inr h)
  · exact .inr h
/-- a call changes at most the list at ios, held by the slot i -/
theorem Rel.after (R : Rel F σV σ W) {H' : Hp} {S' : Addr → Prop} {bd bc : Bool} (hb : (bd && bc) = false) (ios : Option Addr)
    (hk : ∀ a o, W.H a = some o → ios ≠ some a → H' a = some o) (hS : ∀ a, S' a → W.H a = none ∧ ∃ u, H' a = some u)
    (hi : ∀ p, ios = some p → Ow σV σ p ∧ (∃ u, H' p = some u) ∧ (F.H0 p = none ∨ F.IO p))
    (hσ : ∀ (j : Nat) (s : Sl), σ'[j]? = some s → SlR F (W.after H' S' bd bc) σV[j]? s)
    (hl : σ'.length = σ.length) (ho : ∀ j p, OwnAt σV σ' j p → OwnAt σV σ j p) (hlk : ∀ (i : Nat) (o : OC) (m : Msk) (io : Bool), σ[i]? = some (.lck o m io) → σ'[i]? = some (.lck o m io)) :
    Rel F σV σ' (W.after H' S' bd bc) ∧ Stp σV σ W σ' (W.after H' S' bd bc) := by
  have alive : ∀ a o, W.H a = some o → ∃ u, H' a = some u := fun a o e => by
    by_cases h : ios = some a
    · exact (hi a h).2.1
    · exact ⟨o, hk a o e h⟩
  refine ⟨⟨by rw [hl]; exact R.len, fun a h => ?_, fun a h1 h2 => ?_, fun a h => ?_, fun a h => ?_, fun a o e n => ?_, fun a o e => ?_, hσ, fun i j p h1 h2 => R.dist i j p (ho i p h1) (ho j p h2)⟩, ⟨⟨fun a o e n => ?_, fun a h => ?_, fun a ⟨j, h⟩ => .inl ⟨j, ho j a h⟩, fun a h => .inl h, fun a h => .inl h, alive⟩, hlk⟩⟩
  · rcases after_S h with h | h
    · obtain ⟨u, e⟩ := R.live a h
      exact alive a u e
    · exact (hS a h).2
  · have dead : ∀ a, S' a → ¬ W.S a := fun a h hs => by
      obtain ⟨u, e⟩ := R.live a hs
      rw [(hS a h).1] at e
      cases e
    rcases h1 with h1 | ⟨b1, h1⟩
    · rcases h2 with h2 | ⟨b2, h2⟩
      · exact R.disj a h1 h2
      · exact dead a h2 (.inl h1)
    · rcases h2 with h2 | ⟨b2, h2⟩
      · exact dead a h1 (.inr h2)
      · rw [b1, b2] at hb; cases hb
  · rcases h with h | ⟨_, h⟩
    · exact R.newC a h
    · exact (R.fresh (hS a h).1).1
  · rcases h with h | ⟨_, h⟩
    · exact R.oldD a h
    · exact .inr (R.fresh (hS a h).1).1
  · have e1 := R.base a o e n
    refine hk a o e1 fun h => ?_
    rcases (hi a h).2.2 with z | z
    · rw [e] at z; cases z
    · exact n z
  · obtain ⟨u, q⟩ := R.old a o e
    exact alive a u q
  · refine hk a o e fun h => n (hi a h).1
  · rcases after_S h with h | h
    · exact .inl h
    · exact .inr (.inl (hS a h).1)
theorem after_keeps (R : Rel F σV σ W) {H' : Hp} {S' : Addr → Prop} {bd bc : Bool} {ios : Option Addr} (hk : ∀ a o, W.H a = some o → ios ≠ some a → H' a = some o)
    (hi : ∀ p, ios = some p → Ow σV σ p) (m : Msk) : Keeps (W.rg m) W.H ((W.after H' S' bd bc).rg m) (W.after H' S' bd bc).H where
  mem := fun a h => by
    rcases h with ⟨e, h⟩ | ⟨e, h⟩
    · exact .inl ⟨e, .inl h⟩
    · exact .inr ⟨e, .inl h⟩
  imm := fun h => h
  at_ := fun a o h e => hk a o e fun z => by
    obtain ⟨u, _, q, _⟩ := R.own_at (hi a z)
    exact q (Wd.rg_sub h)
  tup := fun a xs e => hk a _ e fun z => by
    obtain ⟨u, e', _, q, _⟩ := R.own_at (hi a z)
    rw [e] at e'; cases e'
    exact q xs rfl
  frz := fun a o u e => hk a _ e fun z => by
    obtain ⟨u', e', _, _, q⟩ := R.own_at (hi a z)
    rw [e] at e'; cases e'
    exact q o u rfl
theorem SlR.keeps {W2 : Wd} (k : ∀ m, Keeps (W.rg m) W.H (W2.rg m) W2.H) {x : Option (Option V)} {s : Sl} (h : SlR F W x s)
    (hp : ∀ p, x = some (some (.ref p)) → (∃ o m io, s = .own o m io ∨ s = .lck o m io) → ¬ W.S p → (∀ u, W.H p = some u → W2.H p = some u) ∧ ¬ W2.S p) : SlR F W2 x s := by
  cases s with
  | emp => trivial
  | val d m => obtain ⟨v, e1, e2⟩ := h; exact ⟨v, e1, Dr.mono (k m) e2⟩
  | own o m io => obtain ⟨p, e1, e2, e3, e4⟩ := h; obtain ⟨q1, q2⟩ := hp p e1 ⟨o, m, io, .inl rfl⟩ e2; exact ⟨p, e1, q2, e3.mono (k m) q1, e4⟩
  | lck o m io => obtain ⟨p, e1, e2, e3, e4⟩ := h; obtain ⟨q1, q2⟩ := hp p e1 ⟨o, m, io, .inr rfl⟩ e2; exact ⟨p, e1, q2, e3.mono (k m) q1, e4⟩
/-- .. no list is changed -/
theorem Rel.afterN (R : Rel F σV σ W) {H' : Hp} {S' : Addr → Prop} {bd bc : Bool} (hb : (bd && bc) = false)
    (hk : ∀ a o, W.H a = some o → H' a = some o) (hS : ∀ a, S' a → W.H a = none ∧ ∃ u, H' a = some u) : Rel F σV σ (W.after H' S' bd bc) ∧ Stp σV σ W σ (W.after H' S' bd bc) := by
  refine R.after hb none (fun a o e _ => hk a o e) hS (fun p z => by cases z) (fun j s e => ?_) rfl (fun _ _ h => h) (fun _ _ _ _ h => h)
  refine SlR.keeps (after_keeps R (ios := none) (fun a o e _ => hk a o e) (fun p z => by cases z)) (R.slot j s e) fun p e1 e2 e3 => ⟨fun u q => hk p u q, fun h => ?_⟩
  rcases after_S h with h | h
  · exact e3 h
  · obtain ⟨o, m, io, z⟩ := e2
    have hO : Ow σV σ p := ⟨j, ⟨o, m, io, by rcases z with z | z; exact .inl (by rw [e, z]); exact .inr (by rw [e, z])⟩, e1⟩
    obtain ⟨u, q, _⟩ := R.own_at hO
    rw [(hS p h).1] at q; cases q
/-- .. the list of the slot i is changed -/
theorem Rel.afterI (R : Rel F σV σ W) {H' : Hp} {S' : Addr → Prop} {bd bc : Bool} (hb : (bd && bc) = false) {i : Nat} {p : Addr} {ds out : List PyData} {io : Bool} {ws : List V}
    (hs : σ[i]? = some (.own (.l ds) m0 io)) (hp : σV[i]? = some (some (.ref p)))
    (hk : ∀ a o, W.H a = some o → some p ≠ some a → H' a = some o) (hS : ∀ a, S' a → W.H a = none ∧ ∃ u, H' a = some u) (hw : H' p = some (.lst ws)) (hd : DrAll F.K noReg H' ws out) :
    Rel F σV (σ.set i (.own (.l out) m0 io)) (W.after H' S' bd bc) ∧ Stp σV σ W (σ.set i (.own (.l out) m0 io)) (W.after H' S' bd bc) := by
  have hO : OwnAt σV σ i p := ⟨⟨.l ds, m0, io, .inl hs⟩, hp⟩
  obtain ⟨q0, e0, n0, ow0, c0⟩ := R.slot i _ hs
  rw [hp] at e0
  cases e0
  have hlt : i < σ.length := (List.getElem?_eq_some_iff.mp hs).1
  have aliveP : ∃ u, W.H p = some u := let ⟨u, q, _⟩ := ow0.some_; ⟨u, q⟩
  have own' : ∀ j q, OwnAt σV (σ.set i (.own (.l out) m0 io)) j q → OwnAt σV σ j q := fun j q ⟨⟨o2, m2, io2, h1⟩, h2⟩ => by
    by_cases hj : j = i
    · subst hj; rw [hp] at h2; cases h2; exact hO
    · rw [List.getElem?_set_ne (Ne.symm hj)] at h1
      exact ⟨⟨o2, m2, io2, h1⟩, h2⟩
  refine R.after hb (some p) hk hS (fun q z => ?_) (fun j s e => ?_) (by rw [List.length_set]) own' (fun j o m io2 h => ?_)
  · cases z
    refine ⟨⟨i, hO⟩, ⟨_, hw⟩, ?_⟩
    cases io with
    | true => exact .inr c0
    | false => exact .inl c0
  · by_cases hj : j = i
    · subst hj
      rw [List.getElem?_set_self hlt] at e
      cases e
      refine ⟨p, hp, fun h => ?_, ⟨ws, hw, DrAll.mono (noReg_keeps _ _) hd⟩, c0⟩
      rcases after_S h with h | h
      · exact n0 h
      · obtain ⟨u, q⟩ := aliveP
        rw [(hS p h).1] at q; cases q
    · rw [List.getElem?_set_ne (Ne.symm hj)] at e
      refine SlR.keeps (after_keeps R (ios := some p) hk (fun q z => by cases z; exact ⟨i, hO⟩)) (R.slot j s e) fun q e1 e2 e3 => ?_
      obtain ⟨o, m, io2, z⟩ := e2
      have hO2 : OwnAt σV σ j q := ⟨⟨o, m, io2, by rcases z with z | z; exact .inl (by rw [e, z]); exact .inr (by rw [e, z])⟩, e1⟩
      have hne : q ≠ p := fun z => hj (R.dist j i p (z ▸ hO2) hO)
      refine ⟨fun u qq => hk q u qq (fun z => hne (Option.some.inj z).symm), fun h => ?_⟩
      rcases after_S h with h | h
      · exact e3 h
      · obtain ⟨u, qq, _⟩ := R.own_at ⟨j, hO2⟩
        rw [(hS q h).1] at qq; cases qq
  · by_cases hj : j = i
    · subst hj; rw [hs] at h; cases h
    · rw [List.getElem?_set_ne (Ne.symm hj)]; exact h
end
end Dv

/-! Dv, part I: argument lists, calls -/
namespace Dv
open PySem PySem.Spec PySem.W PyProof.Rows L2

section
variable {F : Fx} {te : TE} {t : TA} {e : IE} {es : IL}
theorem sos_nil : SOs F tNil (evO .nil) := by
  intro σV σ W xs σ' Q R h k
  unfold evO at h
  cases h
  exact k [] W R (Stp.refl _ _ _) .nil
theorem sos_cons (ha : SO F te (fun σ => mkOpd e (ev e σ) σ)) (hs : SOs F t (evO es)) : SOs F (tCons te t) (evO (.cons e es)) := by
  intro σV σ W xs σ' Q R h k
  unfold evO at h
  obtain ⟨⟨x, σ1⟩, e1, h⟩ := Option.bind_eq_some_iff.mp h
  obtain ⟨⟨ys, σ2⟩, e2, h⟩ := Option.map_eq_some_iff.mp h
  cases h
  refine ha R e1 fun v W1 R1 s1 q1 n1 => hs R1 e2 fun vs W2 R2 s2 q2 => k (v :: vs) W2 R2 (s1.trans s2) (.cons (OpdR.stp R1 s2 q1) n1 (OpdsR.back s1 q2))
theorem sl_nil : SL F tNil (evL .nil) := by
  intro σV σ W ds m σ' Q R h k
  unfold evL at h
  cases h
  exact k [] W R (Stp.refl _ _ _) .nil
theorem sl_cons (ha : SE F te (ev e)) (hs : SL F t (evL es)) : SL F (tCons te t) (evL (.cons e es)) := by
  intro σV σ W ds m σ' Q R h k
  unfold evL at h
  obtain ⟨⟨r, σ1⟩, e1, h⟩ := Option.bind_eq_some_iff.mp h
  obtain ⟨⟨ys, m', σ2⟩, e2, h⟩ := Option.map_eq_some_iff.mp h
  cases h
  refine ha R e1 fun v W1 R1 s1 q1 n1 => ?_
  obtain ⟨W1', eH, R1', s1', d1⟩ := R1.kept s1 q1 n1
  rw [← eH]
  exact hs R1' e2 fun vs W2 R2 s2 q2 => k (v :: vs) W2 R2 (s1'.trans s2) (.cons ((Dr.mono (R1'.keepsS s2 _) d1).leM (Msk.le_or_l _ _)) (q2.leM (Msk.le_or_r _ _)))
/-- arguments kept, the one at io only named -/
def SK (F : Fx) (t : TA) (il : IL) : Prop :=
  ∀ {io : Option Nat} {σV : L2.St} {σ : En} {W : Wd} {ds : List PyData} {m : Msk} {σ' : En} {Q : List V → Hp → Prop}, Rel F σV σ W → evK io il σ = some (ds, m, σ') →
    (∀ vs W', Rel F σV σ' W' → Stp σV σ W σ' W' → vs.length = ds.length → (∀ (j : Nat) (v : V) (d : PyData), io ≠ some j → vs[j]? = some v → ds[j]? = some d → Dr F.K (W'.rg m) W'.H v d) →
      (∀ k i, io = some k → il.at k = some (.var i) → ∃ v, vs[k]? = some v ∧ σV[i]? = some (some v)) → Q vs W'.H) → t σV W.H Q
theorem sk_nil : SK F tNil .nil := by
  intro io σV σ W ds m σ' Q R h k
  have h : some (([] : List PyData), m0, σ) = some (ds, m, σ') := by rw [← h]; cases io <;> simp [evK]
  cases h
  exact k [] W R (Stp.refl _ _ _) rfl (fun j v d _ e _ => by simp at e) (fun k i _ e => by simp [IL.at] at e)
theorem sk_cons (ha : SE F te (ev e)) (hv : ∀ i, e = .var i → te = tVar i) (hs : SK F t es) : SK F (tCons te t) (.cons e es) := by
  intro io σV σ W ds m σ' Q R h k
  cases io with
  | none =>
    unfold evK at h
    obtain ⟨⟨r, σ1⟩, e1, h⟩ := Option.bind_eq_some_iff.mp h
    obtain ⟨⟨ys, m', σ2⟩, e2, h⟩ := Option.map_eq_some_iff.mp h
    cases h
    refine ha R e1 fun v W1 R1 s1 q1 n1 => ?_
    obtain ⟨W1', eH, R1', s1', d1⟩ := R1.kept s1 q1 n1
    rw [← eH]
    refine hs R1' e2 fun vs W2 R2 s2 l2 q2 _ => k (v :: vs) W2 R2 (s1'.trans s2) (by simp [l2]) (fun j u d hj h1 h2 => ?_) (fun k i z => by cases z)
    cases j with
    | zero => cases h1; cases h2; exact (Dr.mono (R1'.keepsS s2 _) d1).leM (Msk.le_or_l _ _)
    | succ j => exact (q2 j u d (fun z => by cases z) (by simpa using h1) (by simpa using h2)).leM (Msk.le_or_r _ _)
  | some n =>
    cases n with
    | succ n =>
      unfold evK at h
      obtain ⟨⟨r, σ1⟩, e1, h⟩ := Option.bind_eq_some_iff.mp h
      obtain ⟨⟨ys, m', σ2⟩, e2, h⟩ := Option.map_eq_some_iff.mp h
      cases h
      refine ha R e1 fun v W1 R1 s1 q1 n1 => ?_
      obtain ⟨W1', eH, R1', s1', d1⟩ := R1.kept s1 q1 n1
      rw [← eH]
      refine hs R1' e2 fun vs W2 R2 s2 l2 q2 z2 => k (v :: vs) W2 R2 (s1'.trans s2) (by simp [l2]) (fun j u d hj h1 h2 => ?_) (fun k i hk hi => ?_)
      · cases j with
        | zero => cases h1; cases h2; exact (Dr.mono (R1'.keepsS s2 _) d1).leM (Msk.le_or_l _ _)
        | succ j => exact (q2 j u d (fun z => hj (by cases z; rfl)) (by simpa using h1) (by simpa using h2)).leM (Msk.le_or_r _ _)
      · cases hk
        obtain ⟨u, a, b⟩ := z2 n i rfl hi
        exact ⟨u, a, b⟩
    | zero =>
      unfold evK at h
      cases e with
      | var i =>
        dsimp only at h
        split at h
        · next hp =>
          obtain ⟨⟨ys, m', σ2⟩, e2, h⟩ := Option.map_eq_some_iff.mp h
          cases h
          obtain ⟨⟨d, md⟩, hp⟩ := Option.isSome_iff_exists.mp hp
          obtain ⟨v, hv1, _⟩ := peek_ok R hp
          rw [hv i rfl]
          refine ⟨v, hv1, hs R e2 fun vs W2 R2 s2 l2 q2 _ => k (v :: vs) W2 R2 s2 (by simp [l2]) (fun j u d hj h1 h2 => ?_) (fun k i' hk hi => ?_)⟩
          · cases j with
            | zero => exact absurd rfl hj
            | succ j => exact q2 j u d (fun z => by cases z) (by simpa using h1) (by simpa using h2)
          · cases hk
            have hi : some (IE.var i) = some (IE.var i') := hi
            cases hi
            exact ⟨v, rfl, hv1⟩
        · cases h
      | _ => cases h
end

section
variable {F : Fx} {σV : L2.St} {σ σ0 : En} {W W0 : Wd}
theorem OpdsR.length : ∀ {vs : List V} {xs : List Opd}, OpdsR F σV σ W0 W vs xs → vs.length = xs.length
  | _, _, .nil => rfl
  | _, _, .cons _ _ c => by simp [OpdsR.length c]
theorem getAll_length : ∀ {xs : List Opd} {ds : List (PyData × Msk)}, getAll σ xs = some ds → ds.length = xs.length
  | [], ds, h => by simp [getAll] at h; subst h; rfl
  | x :: xs, ds, h => by
    simp only [getAll, Option.bind_eq_some_iff, Option.map_eq_some_iff] at h
    obtain ⟨d, _, r, h2, rfl⟩ := h
    simp [getAll_length h2]
theorem OpdsR.at (h : OpdsR F σV σ W0 W vs xs) : ∀ {ds : List (PyData × Msk)} (j : Nat) (v : V) (d : PyData × Msk), getAll σ xs = some ds → vs[j]? = some v → ds[j]? = some d → ∃ x, xs[j]? = some x ∧ OpdR F σV σ W v x ∧ x.get σ = some d := by
  induction h with
  | nil => intro ds j v d _ h1; simp at h1
  | cons a b c ih =>
    intro ds j v d h h1 h2
    simp only [getAll, Option.bind_eq_some_iff, Option.map_eq_some_iff] at h
    obtain ⟨d', g1, r, g2, rfl⟩ := h
    cases j with
    | zero => cases h1; cases h2; exact ⟨_, rfl, a, g1⟩
    | succ j =>
      obtain ⟨x, q1, q2, q3⟩ := ih j v d g2 (by simpa using h1) (by simpa using h2)
      exact ⟨x, by simpa using q1, q2, q3⟩
theorem rdA_of (R : Rel F σV σ W) (h : OpdsR F σV σ W0 W vs xs) : ∀ {ds : List (PyData × Msk)}, getAll σ xs = some ds → RdA F W vs ds := by
  induction h with
  | nil => intro ds e; simp [getAll] at e; subst e; exact .nil
  | cons a b c ih =>
    intro ds h
    simp only [getAll, Option.bind_eq_some_iff, Option.map_eq_some_iff] at h
    obtain ⟨d', g1, r, g2, rfl⟩ := h
    exact .cons (a.get R g1) (ih g2)
/-- an operand: kept data, or an object of a slot or of no slot -/
theorem opd_cases (R : Rel F σV σ W) {v : V} {x : Opd} {d : PyData} {m : Msk} (a : OpdR F σV σ W v x) (e : x.get σ = some (d, m)) :
    Dr F.K (W.rg m) W.H v d ∨ ∃ p o, v = .ref p ∧ d = o.data ∧ OwR F.K (W.rg m) W.H p o ∧ ((∃ j, x = .pk j ∧ OwnAt σV σ j p) ∨ ¬ Ow σV σ p) := by
  cases x with
  | rs r =>
    cases r with
    | val d' m' => cases e; exact .inl a
    | new o m' => cases e; obtain ⟨p, rfl, _, h2, _, h4⟩ := a; exact .inr ⟨p, o, rfl, rfl, h4, .inr h2⟩
  | pk i =>
    have e : peek σ i = some (d, m) := e
    have a : σV[i]? = some (some v) := a
    unfold peek at e
    cases es : σ[i]? with
    | none => rw [es] at e; cases e
    | some s =>
      rw [es] at e
      have q := R.slot i s es
      cases s with
      | emp => cases e
      | val d' m' =>
        cases e
        obtain ⟨u, e1, e2⟩ := q
        rw [a] at e1; cases e1
        exact .inl e2.atNm
      | own o m' io =>
        cases e
        obtain ⟨p, e1, e2, e3, e4⟩ := q
        rw [a] at e1; cases e1
        exact .inr ⟨p, o, rfl, rfl, e3, .inl ⟨i, rfl, ⟨o, _, io, .inl es⟩, a⟩⟩
      | lck o m' io =>
        cases e
        obtain ⟨p, e1, e2, e3, e4⟩ := q
        rw [a] at e1; cases e1
        exact .inr ⟨p, o, rfl, rfl, e3, .inl ⟨i, rfl, ⟨o, _, io, .inr es⟩, a⟩⟩
theorem ioOf_some {io : Option Nat} {il : IL} {iv : Option (Nat × List PyData)} (h : ioOf io il σ = some iv) :
    (io = none ∧ iv = none) ∨ ∃ k i ds b, io = some k ∧ iv = some (i, ds) ∧ il.at k = some (.var i) ∧ σ[i]? = some (.own (.l ds) m0 b) := by
  cases io with
  | none => simp [ioOf] at h; exact .inl ⟨rfl, h.symm⟩
  | some k =>
    unfold ioOf at h
    dsimp only at h
    cases ea : il.at k with
    | none => rw [ea] at h; cases h
    | some e =>
      rw [ea] at h
      cases e with
      | var i =>
        dsimp only at h
        cases es : σ[i]? with
        | none => rw [es] at h; cases h
        | some s =>
          rw [es] at h
          cases s with
          | own o m b =>
            cases o with
            | l ds =>
              dsimp only at h
              split at h
              · next hm => cases h; exact .inr ⟨k, i, ds, b, rfl, rfl, ea, by rw [es, hm]⟩
              · cases h
            | dk _ _ => cases h
            | dt _ _ => cases h
          | _ => cases h
      | _ => cases h
theorem noPk_at {i : Nat} : ∀ {xs : List Opd} {k j : Nat}, noPk i (xs.eraseIdx k) = true → j ≠ k → xs[j]? ≠ some (.pk i)
  | [], _, _, _, _ => by simp
  | x :: xs, 0, j, h, hj => by
    cases j with
    | zero => exact absurd rfl hj
    | succ j =>
      simp only [List.eraseIdx_zero, List.tail_cons] at h
      rw [List.getElem?_cons_succ]
      clear hj
      induction xs generalizing j with
      | nil => simp
      | cons y ys ih =>
        cases y with
        | pk n =>
          simp only [noPk, Bool.and_eq_true, bne_iff_ne, ne_eq] at h
          cases j with
          | zero => simp only [List.getElem?_cons_zero, ne_eq, Option.some.injEq, Opd.pk.injEq]; exact h.1
          | succ j => rw [List.getElem?_cons_succ]; exact ih j h.2
        | rs r =>
          simp only [noPk] at h
          cases j with
          | zero => simp
          | succ j => rw [List.getElem?_cons_succ]; exact ih j h
  | x :: xs, k + 1, j, h, hj => by
    simp only [List.eraseIdx_cons_succ] at h
    cases j with
    | zero =>
      cases x with
      | pk n =>
        simp only [noPk, Bool.and_eq_true, bne_iff_ne, ne_eq] at h
        simp only [List.getElem?_cons_zero, ne_eq, Option.some.injEq, Opd.pk.injEq]
        exact h.1
      | rs r => simp
    | succ j =>
      rw [List.getElem?_cons_succ]
      refine noPk_at (k := k) ?_ (fun z => hj (by rw [z]))
      cases x with
      | pk n => simp only [noPk, Bool.and_eq_true] at h; exact h.2
      | rs r => simpa [noPk] using h
end

section
variable {F : Fx} {σV : L2.St} {σ σ' : En} {W : Wd} {f : FSig} {E : XK}
theorem m0_no {W : Wd} {a : Addr} (h : (W.rg m0).mem a) : False := by
  rcases h with ⟨z, _⟩ | ⟨z, _⟩ <;> cases z
theorem m0_keeps (W : Wd) (H : Hp) : Keeps (W.rg m0) H noReg H := ⟨fun a h => (m0_no h).elim, fun (z : false = true) => Bool.noConfusion z, fun a o h => (m0_no h).elim, fun _ _ e => e, fun _ _ _ e => e⟩
theorem resM_d {t : Bool} {rk ma : Msk} {a : Addr} (hd : rk.d = true) {W : Wd} (h : (W.rg ma).mem a) : (W.rg (resM t rk ma)).mem a := by
  have l : ma.le (resM t rk ma) = true := by
    unfold resM
    rw [if_pos hd]
    have h1 := Msk.le_or_l ma (if rk.c = true then if ((rk.d && ma.d) || t) = true then mD else mC else m0)
    have h2 := Msk.le_or_l (ma.or (if rk.c = true then if ((rk.d && ma.d) || t) = true then mD else mC else m0)) (if rk.g = true then mG else m0)
    generalize ma.or (if rk.c = true then if ((rk.d && ma.d) || t) = true then mD else mC else m0) = x at h1 h2
    generalize x.or (if rk.g = true then mG else m0) = y at h2
    obtain ⟨a1, a2, a3⟩ := ma
    obtain ⟨b1, b2, b3⟩ := x
    obtain ⟨c1, c2, c3⟩ := y
    revert h1 h2
    cases a1 <;> cases a2 <;> cases a3 <;> cases b1 <;> cases b2 <;> cases b3 <;> cases c1 <;> cases c2 <;> cases c3 <;> simp [Msk.le]
  exact (Msk.le_rg l).1 a h
theorem resM_g {t : Bool} {rk ma : Msk} (h : rk.g = true) : (resM t rk ma).g = true := by
  unfold resM
  rw [if_pos h]
  simp [Msk.or, mG]
/-- the result of a call, in the caller's world -/
theorem ret_ok {S S' : Addr → Prop} {H' : Hp} {ma : Msk} {v : V} {rt : Rt} (R : Rel F σV σ W) (hS : ∀ a, f.rk.d = true → S a → (W.rg ma).mem a) (hn : ∀ a, S' a → W.H a = none) (hst : ∀ p, Ow σV σ' p → Ow σV σ p) (h : RtR F.K f.rk S S' W.H H' v rt) :
    RsR F (Ow σV σ') (W.after H' S' (f.rk.c && ((f.rk.d && ma.d) || f.tod)) (f.rk.c && !((f.rk.d && ma.d) || f.tod))) v (outRs f.tod f.rk ma rt) ∧ RsNew W v (outRs f.tod f.rk ma rt) := by
  have k : Keeps ⟨fun a => (f.rk.d = true ∧ S a) ∨ (f.rk.c = true ∧ S' a), f.rk.g = true⟩ H' ((W.after H' S' (f.rk.c && ((f.rk.d && ma.d) || f.tod)) (f.rk.c && !((f.rk.d && ma.d) || f.tod))).rg (resM f.tod f.rk ma)) H' := by
    refine Reg.keeps ⟨fun a h => ?_, fun h => resM_g h⟩
    rcases h with ⟨hd, h⟩ | ⟨hc, h⟩
    · have q := resM_d (t := f.tod) hd (hS a hd h)
      rcases q with ⟨e, q⟩ | ⟨e, q⟩
      · exact .inl ⟨e, .inl q⟩
      · exact .inr ⟨e, .inl q⟩
    · by_cases hb : ((f.rk.d && ma.d) || f.tod) = true
      · refine .inl ⟨?_, .inr ⟨by rw [hc, hb]; rfl, h⟩⟩
        unfold resM
        rw [if_pos hc, if_pos hb]
        simp [Msk.or, mD]
      · refine .inr ⟨?_, .inr ⟨by have z : ((f.rk.d && ma.d) || f.tod) = false := Bool.eq_false_iff.mpr hb; rw [hc, z]; rfl, h⟩⟩
        unfold resM
        rw [if_pos hc, if_neg hb]
        simp [Msk.or, mC]
  cases rt with
  | v d => exact ⟨Dr.atNm (Dr.mono k h), trivial⟩
  | n o =>
    obtain ⟨p, rfl, h1, h2, h3⟩ := h
    obtain ⟨f1, f2, f3⟩ := R.fresh h1
    refine ⟨⟨p, rfl, fun hs => ?_, fun ho => f3 (hst p ho), f1, h3.mono k fun u e => e⟩, p, rfl, h1⟩
    rcases after_S hs with z | z
    · exact f2 z
    · exact h2 z
theorem flag_ok (t : Bool) (rk ma : Msk) : ((rk.c && ((rk.d && ma.d) || t)) && (rk.c && !((rk.d && ma.d) || t))) = false := by
  cases rk.c <;> cases rk.d <;> cases ma.d <;> cases t <;> rfl

/-- the operands are kept -/
theorem callK_ok {il : IL} {iv : Option (Nat × List PyData)} {ds : List PyData} {ma : Msk} {r : Rs} {vs : List V} {Q : VK} (R : Rel F σV σ W) (hio : ioOf f.io il σ = some iv)
    (hl : vs.length = ds.length) (ha : ∀ (j : Nat) (v : V) (d : PyData), f.io ≠ some j → vs[j]? = some v → ds[j]? = some d → Dr F.K (W.rg ma) W.H v d)
    (hz : ∀ k i, f.io = some k → il.at k = some (.var i) → ∃ v, vs[k]? = some v ∧ σV[i]? = some (some v))
    (h : callK f iv ds ma σ = some (r, σ')) (k : ∀ v W', Rel F σV σ' W' → Stp σV σ W σ' W' → RsR F (Ow σV σ') W' v r → RsNew W v r → Q v W'.H) : spF F.K f vs W.H Q E := by
  unfold callK at h
  split at h
  · next hc =>
    simp only [Bool.and_eq_true, Bool.or_eq_true, Bool.not_eq_true', decide_eq_true_eq] at hc
    obtain ⟨⟨rt, out⟩, e1, e2⟩ := Option.map_eq_some_iff.mp h
    cases e2
    have him : ma.g = true → f.gi = true := fun z => by rcases hc.2 with q | q; rw [z] at q; cases q; exact q
    have hlive : ∀ a, (W.rg ma).mem a → ∃ u, W.H a = some u := fun a h => R.live a (Wd.rg_sub h)
    rcases ioOf_some hio with ⟨i0, rfl⟩ | ⟨kk, i, xs, b, i0, rfl, i1, i2⟩
    · refine ⟨ds, rt, out, (W.rg ma).mem, ma.g = true, none, ?_, by rw [hl]; exact hc.1, hl, hlive, him, fun j v d h1 h2 => ?_, fun _ => rfl, fun kk z => (by rw [i0] at z; cases z), fun v H' S' hk hS _ hr => ?_⟩
      · have : setIo f.io none ds = ds := by unfold setIo; rw [i0]
        rw [this] at e1; exact e1
      · unfold ArgR
        rw [i0, if_neg (by simp)]
        exact ha j v d (by rw [i0]; simp) h1 h2
      · have hk' : ∀ a o, W.H a = some o → H' a = some o := fun a o e => hk a o e (by simp)
        obtain ⟨R', s'⟩ := R.afterN (bd := f.rk.c && ((f.rk.d && ma.d) || f.tod)) (bc := f.rk.c && !((f.rk.d && ma.d) || f.tod)) (flag_ok f.tod f.rk ma) hk' hS
        obtain ⟨q1, q2⟩ := ret_ok (σ' := σ) R (fun a _ h => h) (fun a h => (hS a h).1) (fun p h => h) hr
        exact k v _ R' s' q1 q2
    · obtain ⟨v0, hv1, hv2⟩ := hz kk i i0 i1
      obtain ⟨p, e0, n0, ow0, c0⟩ := R.slot i _ i2
      rw [hv2] at e0
      cases e0
      obtain ⟨ws0, hw0, hd0⟩ := ow0
      have hkl : kk < vs.length := (List.getElem?_eq_some_iff.mp hv1).1
      refine ⟨ds.set kk (.list xs), rt, out, (W.rg ma).mem, ma.g = true, some p, ?_, by rw [hl]; exact hc.1, by rw [List.length_set]; exact hl, hlive, him, fun j v d h1 h2 => ?_, fun z => (by rw [i0] at z; cases z), fun k2 z => (by rw [i0] at z; cases z; exact hkl), fun v H' S' hk hS hw hr => ?_⟩
      · have : setIo f.io (some (i, xs)) ds = ds.set kk (.list xs) := by unfold setIo; rw [i0]
        rw [this] at e1; exact e1
      · unfold ArgR
        by_cases hj : kk = j
        · subst hj
          rw [i0, if_pos rfl]
          rw [hv1] at h1
          cases h1
          rw [List.getElem?_set_self (by rw [← hl]; exact hkl)] at h2
          cases h2
          exact ⟨p, xs, ws0, rfl, rfl, rfl, fun h => n0 (Wd.rg_sub h), hw0, DrAll.mono (m0_keeps W _) hd0⟩
        · rw [i0, if_neg (fun z => hj (Option.some.inj z))]
          rw [List.getElem?_set_ne hj] at h2
          exact ha j v d (by rw [i0]; exact fun z => hj (Option.some.inj z)) h1 h2
      · obtain ⟨ws, hw1, hw2⟩ := hw p rfl
        obtain ⟨R', s'⟩ := R.afterI (bd := f.rk.c && ((f.rk.d && ma.d) || f.tod)) (bc := f.rk.c && !((f.rk.d && ma.d) || f.tod)) (flag_ok f.tod f.rk ma) i2 hv2 hk hS hw1 hw2
        have hput : putIo (some (i, xs)) out σ = σ.set i (.own (.l out) m0 b) := by unfold putIo; dsimp only; rw [i2]
        rw [hput] at k
        have hst : ∀ q, Ow σV (σ.set i (.own (.l out) m0 b)) q → Ow σV σ q := fun q ⟨j, ⟨o2, m2, io2, h1⟩, h2⟩ => by
          by_cases hj : j = i
          · subst hj; exact ⟨j, ⟨.l xs, m0, b, .inl i2⟩, h2⟩
          · rw [List.getElem?_set_ne (Ne.symm hj)] at h1
            exact ⟨j, ⟨o2, m2, io2, h1⟩, h2⟩
        obtain ⟨q1, q2⟩ := ret_ok (σ' := σ.set i (.own (.l out) m0 b)) R (fun a _ h => h) (fun a h => (hS a h).1) hst hr
        exact k v _ R' s' q1 q2
  · cases h

/-- the operands are only read -/
theorem callB_ok {il : IL} {iv : Option (Nat × List PyData)} {ops : List Opd} {r : Rs} {vs : List V} {Q : VK} {W0 : Wd} (R : Rel F σV σ W) (hrk : f.rk = m0) (hio : ioOf f.io il σ = some iv) (ho : OpdsR F σV σ W0 W vs ops)
    (hz : ∀ k i, f.io = some k → il.at k = some (.var i) → ops[k]? = some (.pk i))
    (h : callB f iv ops σ = some (r, σ')) (k : ∀ v W', Rel F σV σ' W' → Stp σV σ W σ' W' → RsR F (Ow σV σ') W' v r → RsNew W v r → Q v W'.H) : spF F.K f vs W.H Q E := by
  unfold callB at h
  split at h
  · next hc =>
    simp only [Bool.and_eq_true, decide_eq_true_eq] at hc
    obtain ⟨ds, e0, h⟩ := Option.bind_eq_some_iff.mp h
    split at h
    · cases h
    · next hg =>
      obtain ⟨⟨rt, out⟩, e1, e2⟩ := Option.map_eq_some_iff.mp h
      cases e2
      have hl := ho.length
      have hl2 := getAll_length e0
      have him : (ds.any fun d => d.2.g) = true → f.gi = true := fun z => by
        rw [z, Bool.true_and] at hg
        simpa using hg
      have arg : ∀ (S : Addr → Prop), (∀ a, W.S a → S a) → ∀ (j : Nat) (v : V) (d : PyData), vs[j]? = some v → (ds.map (·.1))[j]? = some d →
          (∀ p x, ops[j]? = some x → (∃ u, W.H p = some u) → ((∃ i, x = .pk i ∧ OwnAt σV σ i p) ∨ ¬ Ow σV σ p) → S p) → Dr F.K ⟨S, (ds.any fun d => d.2.g) = true⟩ W.H v d := fun S hS j v d h1 h2 hp => by
        rw [List.getElem?_map] at h2
        obtain ⟨⟨d', m⟩, h3, rfl⟩ := Option.map_eq_some_iff.mp h2
        obtain ⟨x, q1, q2, q3⟩ := ho.at j v (d', m) e0 h1 h3
        have hgm : m.g = true → (ds.any fun d => d.2.g) = true := fun z => List.any_eq_true.mpr ⟨(d', m), List.mem_of_getElem? h3, z⟩
        rcases opd_cases R q2 q3 with q | ⟨p, o, rfl, rfl, q4, q5⟩
        · exact Dr.mono (Reg.keeps (R := W.rg m) (R' := ⟨S, (ds.any fun d => d.2.g) = true⟩) ⟨fun a h => hS a (Wd.rg_sub h), hgm⟩) q
        · obtain ⟨u, e, _⟩ := q4.some_
          exact OwR.keep (Reg.keeps (R := W.rg m) (R' := ⟨S, (ds.any fun d => d.2.g) = true⟩) ⟨fun a h => hS a (Wd.rg_sub h), hgm⟩) (hp p x q1 ⟨u, e⟩ q5) q4
      have em : outRs f.tod m0 m0 rt = outRs f.tod f.rk m0 rt := by rw [hrk]
      rcases ioOf_some hio with ⟨i0, rfl⟩ | ⟨kk, i, xs, b, i0, rfl, i1, i2⟩
      · refine ⟨ds.map (·.1), rt, out, fun a => ∃ u, W.H a = some u, (ds.any fun d => d.2.g) = true, none, e1, by rw [hl]; exact hc.1, by rw [List.length_map, hl2, hl], fun a h => h, him, fun j v d h1 h2 => ?_, fun _ => rfl, fun kk z => (by rw [i0] at z; cases z), fun v H' S' hk hS _ hr => ?_⟩
        · unfold ArgR
          rw [i0, if_neg (by simp)]
          exact arg _ (fun a h => R.live a h) j v d h1 h2 fun p x _ h _ => h
        · have hk' : ∀ a o, W.H a = some o → H' a = some o := fun a o e => hk a o e (by simp)
          obtain ⟨R', s'⟩ := R.afterN (bd := f.rk.c && ((f.rk.d && m0.d) || f.tod)) (bc := f.rk.c && !((f.rk.d && m0.d) || f.tod)) (flag_ok f.tod f.rk m0) hk' hS
          obtain ⟨q1, q2⟩ := ret_ok (σ' := σ) (ma := m0) R (fun a z h => by rw [hrk] at z; cases z) (fun a h => (hS a h).1) (fun p h => h) hr
          rw [em] at k
          exact k v _ R' s' q1 q2
      · have hop := hz kk i i0 i1
        obtain ⟨p, hv2, n0, ow0, c0⟩ := R.slot i _ i2
        have hO : OwnAt σV σ i p := ⟨⟨.l xs, m0, b, .inl i2⟩, hv2⟩
        obtain ⟨ws0, hw0, hd0⟩ := id ow0
        have hkl : kk < ops.length := (List.getElem?_eq_some_iff.mp hop).1
        have hap : noPk i (ops.eraseIdx kk) = true := by have := hc.2; unfold ioApart at this; rw [i0] at this; exact this
        have hdk : (ds.map (·.1))[kk]? = some (.list xs) := by
          rw [List.getElem?_map]
          obtain ⟨d, hd⟩ : ∃ d, ds[kk]? = some d := ⟨_, List.getElem?_eq_getElem (by rw [hl2]; exact hkl)⟩
          obtain ⟨v, hv⟩ : ∃ v, vs[kk]? = some v := ⟨_, List.getElem?_eq_getElem (by rw [hl]; exact hkl)⟩
          obtain ⟨x, q1, q2, q3⟩ := ho.at kk v d e0 hv hd
          rw [hop] at q1
          cases q1
          have q3 : peek σ i = some d := q3
          unfold peek at q3
          rw [i2] at q3
          cases q3
          rw [hd]
          rfl
        refine ⟨ds.map (·.1), rt, out, fun a => (∃ u, W.H a = some u) ∧ a ≠ p, (ds.any fun d => d.2.g) = true, some p, e1, by rw [hl]; exact hc.1, by rw [List.length_map, hl2, hl], fun a h => h.1, him, fun j v d h1 h2 => ?_, fun z => (by rw [i0] at z; cases z), fun k2 z => (by rw [i0] at z; cases z; rw [hl]; exact hkl), fun v H' S' hk hS hw hr => ?_⟩
        · unfold ArgR
          by_cases hj : kk = j
          · subst hj
            rw [i0, if_pos rfl]
            rw [hdk] at h2
            cases h2
            obtain ⟨d, hd⟩ : ∃ d, ds[kk]? = some d := ⟨_, List.getElem?_eq_getElem (by rw [hl2]; exact hkl)⟩
            obtain ⟨x, q1, q2, q3⟩ := ho.at kk v d e0 h1 hd
            rw [hop] at q1
            cases q1
            have q2 : σV[i]? = some (some v) := q2
            rw [hv2] at q2
            cases q2
            exact ⟨p, xs, ws0, rfl, rfl, rfl, fun h => h.2 rfl, hw0, DrAll.mono (m0_keeps W _) hd0⟩
          · rw [i0, if_neg (fun z => hj (Option.some.inj z))]
            refine arg _ (fun a h => ⟨R.live a h, fun z => n0 (z ▸ h)⟩) j v d h1 h2 fun q x hx ha hq => ⟨ha, fun z => ?_⟩
            subst z
            rcases hq with ⟨j', rfl, hO'⟩ | hq
            · have : j' = i := R.dist j' i q hO' hO
              subst this
              exact noPk_at hap (Ne.symm hj) hx
            · exact hq ⟨i, hO⟩
        · obtain ⟨ws, hw1, hw2⟩ := hw p rfl
          obtain ⟨R', s'⟩ := R.afterI (bd := f.rk.c && ((f.rk.d && m0.d) || f.tod)) (bc := f.rk.c && !((f.rk.d && m0.d) || f.tod)) (flag_ok f.tod f.rk m0) i2 hv2 hk hS hw1 hw2
          have hput : putIo (some (i, xs)) out σ = σ.set i (.own (.l out) m0 b) := by unfold putIo; dsimp only; rw [i2]
          rw [hput] at k
          have hst : ∀ q, Ow σV (σ.set i (.own (.l out) m0 b)) q → Ow σV σ q := fun q ⟨j, ⟨o2, m2, io2, h1⟩, h2⟩ => by
            by_cases hj : j = i
            · subst hj; exact ⟨j, ⟨.l xs, m0, b, .inl i2⟩, h2⟩
            · rw [List.getElem?_set_ne (Ne.symm hj)] at h1
              exact ⟨j, ⟨o2, m2, io2, h1⟩, h2⟩
          obtain ⟨q1, q2⟩ := ret_ok (σ' := σ.set i (.own (.l out) m0 b)) (ma := m0) R (fun a z h => by rw [hrk] at z; cases z) (fun a h => (hS a h).1) hst hr
          rw [em] at k
          exact k v _ R' s' q1 q2
  · cases h
end
end Dv

/-! Dv, part J: the small language held against the syntax -/
namespace Dv
open PySem PySem.Spec PySem.W PyProof.Rows L2

/-- the forms of an expression that need no care -/
def okHead : Expr → Bool
  | .Starred .. | .Slice .. | .Set .. | .NamedExpr .. | .SetComp .. | .DictComp .. | .Lambda .. | .Await .. | .Yield .. | .YieldFrom .. => false
  | _ => true
theorem oh_star {e : Expr} (h : okHead e = true) (es : List Expr) (env : Env) : starEach (e :: es) env = (false, eval e env) :: starEach es env := by
  cases e <;> first | rfl | (simp [okHead] at h; done)
theorem oh_ix {e : Expr} (h : okHead e = true) : PlainIx e := by
  intro o i
  cases e <;> first | rfl | (simp [okHead] at h; done)
theorem oh_mark {e : Expr} (h : okHead e = true) (op : CmpOp) : behindInMarks op e = false := by
  cases e <;> first | rfl | (simp [okHead] at h; done)
theorem oh_fold {e : Expr} (h : okHead e = true) (env : Env) (x : Value) : foldedSetIterable e env x = pure x := by
  cases e <;> first | rfl | (simp [okHead] at h; done)
theorem oh_last {e e' : Expr} (h : okHead e' = true) (op op' : CmpOp) : lastMarks [op, op'] [e, e'] = false := oh_mark h op'

structure SC where
  N : List Str
  sc : Scope
  fn : Str → Bool
def visB (sc : Scope) (x : Str) : Bool :=
  match sc.names.lookup x with
  | some .local | some .cell | some .free => true
  | _ => false
theorem vis_of {sc : Scope} {x : Str} (h : visB sc x = true) : Vis sc x := by
  unfold visB at h
  unfold Vis
  split at h
  · next e => exact .inl e
  · next e => exact .inr (.inl e)
  · next e => exact .inr (.inr e)
  · cases h
def locB (c : SC) (x : Str) : Bool :=
  match c.sc.names.lookup x with
  | some .local => true
  | some .cell => c.fn x
  | _ => false
def glB (sc : Scope) (x : Str) : Bool :=
  match sc.names.lookup x with
  | some .globalImplicit => true
  | _ => false
def nameB (x : Str) : Bool := x != ("__debug__" : Str) && (x != ("__classdict__" : Str) && x != ("__name__" : Str))
def chkVar (c : SC) (i : Nat) (x : Str) : Bool := decide (c.N[i]? = some x) && (visB c.sc x && nameB x)
def chkLoc (c : SC) (i : Nat) (x : Str) : Bool := decide (c.N[i]? = some x) && locB c x
def chkGl (c : SC) (x y : Str) : Bool := decide (x = y) && (glB c.sc x && nameB x)
def Bl.name : Bl → Str
  | .len => "len"
  | .repr => "repr"
  | .sum => "sum"
  | .min1 | .min2 => "min"
  | .max1 | .max2 => "max"
  | .abs => "abs"
  | .int => "int"
  | .list => "list"
  | .tuple => "tuple"
  | .sorted => "sorted"
  | .isinst _ => "isinstance"
def litOk : PyData → Const → Bool
  | .none, .none => true
  | .bool a, .bool b => a == b
  | .int i, .int j => decide (i = j)
  | .str x, .str y => decide (x = y)
  | _, _ => false
/-- names of a target -/
def tgNames : List Expr → Option (List Str)
  | [] => some []
  | .Name x _ :: es => (tgNames es).map fun r => x :: r
  | _ :: _ => none
def chkTg (c : SC) : Tg → Expr → Bool
  | .nm i, .Name x _ => chkLoc c i x
  | .tup is, .Tuple es _ _ => match tgNames es with
    | some xs => decide (xs.length = is.length) && ((is.zip xs).all fun p => chkLoc c p.1 p.2)
    | none => false
  | _, _ => false
def ownOf : Tg → Expr → List (Str × Nat)
  | .nm i, .Name x _ => [(x, i)]
  | .tup is, .Tuple es _ _ => match tgNames es with
    | some xs => xs.zip is
    | none => []
  | _, _ => []
def blkSC (c : SC) (scope : Scope) : SC := ⟨c.N, relS scope c.sc, fun x => scope.names.lookup x == some .cell⟩
def isBlkTy : Bl → Bool
  | .isinst _ => true
  | _ => false
def tyB : Bl → String
  | .isinst T => T
  | _ => ""
def tyNames : List String := ["int", "bool", "str", "list", "tuple", "dict"]

/-- what can be a test -/
def tstOk : IE → Bool
  | .ife _ _ _ => false
  | .and a b => tstOk a && tstOk b
  | .or a b => tstOk a && tstOk b
  | .one a => tstOk a
  | .not a => tstOk a
  | _ => true
def isBoolOp : Expr → Bool
  | .BoolOp _ _ _ => true
  | _ => false

/-- the type's name behind the value, in isinstance -/
def isiTail (c : SC) (T : String) : IL → List Expr → Bool
  | .nil, [.Name x _] => (decide (Str.ofString T = x) && tyNames.contains T) && chkGl c x x
  | _, _ => false
mutual
def chkE (c : SC) : IE → Expr → Bool
  | .var i, .Name x _ => chkVar c i x
  | .lit d, .Constant k _ _ => litOk d k
  | .glb x _, .Name y _ => chkGl c x y
  | .bin o a b, .BinOp l op r _ => decide (o = op) && (chkE c a l && chkE c b r)
  | .neg a, .UnaryOp .USub e _ => chkE c a e
  | .cmp o a b, .Compare l [op] [r] _ => decide (o = op) && (okHead r && (chkE c a l && chkE c b r))
  | .chn o o' a b d, .Compare l [op, op'] [r, q] _ => (decide (o = op) && decide (o' = op')) && (okHead q && (chkE c a l && (chkE c b r && chkE c d q)))
  | .and a b, .BoolOp .And (x :: y :: r) p => chkE c a x && (chkE c b (.BoolOp .And (y :: r) p) && (tstOk a && tstOk b))
  | .or a b, .BoolOp .Or (x :: y :: r) p => chkE c a x && (chkE c b (.BoolOp .Or (y :: r) p) && (tstOk a && tstOk b))
  | .one a, .BoolOp _ [x] _ => chkE c a x && tstOk a
  | .not a, .UnaryOp .Not e _ => chkE c a e
  | .ife t a b, .IfExp x y z _ => (chkE c t x && tstOk t) && (chkE c a y && chkE c b z)
  | .lst xs _, .List es _ => chkL c xs es
  | .tup xs, .Tuple es _ _ => chkL c xs es
  | .idx a i, .Subscript x y _ => okHead y && (chkE c a x && chkE c i y)
  | .slc a lo hi, .Subscript x (.Slice l h none _) _ => chkE c a x && (chkO c lo l && chkO c hi h)
  | .lc elt tg it cnd _, .ListComp e [⟨te, ie, ifs, k⟩] scope _ => (decide (k = 0) && (okHead ie && blkC c.N c.sc scope (ownOf tg te))) && (chkI c it te ie && (chkTg (blkSC c scope) tg te && (chkC (blkSC c scope) cnd ifs && chkE (blkSC c scope) elt e)))
  | .call f args, .Call (.Name x _) es [] _ => chkGl c f.name x && chkL c args es
  | .callk f args kws kargs, .Call (.Name x _) es ks _ => chkGl c f.name x && (chkL c args es && (chkK c f.ps kws kargs ks && !ks.isEmpty))
  | .blt b args, .Call (.Name x _) es [] _ => chkGl c b.name x && chkB c b args es
  | .mth .bitLength o .nil, .Call (.Attribute (.Name x xp) a ap) [] [] cp => decide (a = ("bit_length" : Str)) && ((ap.endLine == cp.line) && chkE c o (.Name x xp))
  | _, _ => false
def chkL (c : SC) : IL → List Expr → Bool
  | .nil, [] => true
  | .cons a as, e :: es => (okHead e && chkE c a e) && chkL c as es
  | _, _ => false
def chkO (c : SC) : IO → Option Expr → Bool
  | .no, none => true
  | .yes a, some e => chkE c a e
  | _, _ => false
def chkC (c : SC) : IO → List Expr → Bool
  | .no, [] => true
  | .yes a, [e] => chkE c a e && tstOk a
  | _, _ => false
def chkB (c : SC) : Bl → IL → List Expr → Bool
  | b, .cons a as, e :: es => (okHead e && chkE c a e) && (if isBlkTy b = true then isiTail c (tyB b) as es else chkL c as es)
  | _, _, _ => false
def chkK (c : SC) (ps : List Str) : List Nat → IL → List Keyword → Bool
  | [], .nil, [] => true
  | i :: is, .cons a as, ⟨some x, e, _⟩ :: ks => (decide (ps[i]? = some x) && (okHead e && chkE c a e)) && chkK c ps is as ks
  | _, _, _ => false
def chkI (c : SC) : II → Expr → Expr → Bool
  | .seq a, _, e => okHead e && chkE c a e
  | .rng args, _, .Call (.Name x _) es [] _ => chkGl c ("range" : Str) x && (chkL c args es && decide (es.length = 1 ∨ es.length = 2 ∨ es.length = 3))
  | .enu a, .Tuple _ _ _, .Call (.Name x _) [e] [] _ => chkGl c ("enumerate" : Str) x && (okHead e && chkE c a e)
  | .zip a b, .Tuple _ _ _, .Call (.Name x _) [e, e'] [] _ => chkGl c ("zip" : Str) x && ((okHead e && chkE c a e) && (okHead e' && chkE c b e'))
  | _, _, _ => false
end
end Dv

/-! Dv, part K: the rules of expressions -/
namespace Dv
open PySem PySem.Spec PySem.W PyProof.Rows L2

/-- what all bodies share -/
structure Gx where
  prog : Program
  w : World
  K : PySem.W.Frag
  mg : Str → Option Value
  base : Heap
  A : Around
structure Ok (c : SC) (g : Gx) (X : Cx) : Prop where
  N : X.N = c.N
  nd : c.N.Nodup
  sc : X.env.scope = c.sc
  fn : X.fn = c.fn
  calm : X.calm = true
  prog : X.prog = g.prog
  w : X.w = g.w
  K : X.K = g.K
  mg : X.mg = g.mg
  base : X.base = g.base
  A : X.A = g.A
structure GOk (g : Gx) : Prop where
  units : g.A.units + 66 < cLine
  guards : g.A.guards = some []

/-- a def of the text, called where no repr runs -/
structure FnG (P : Program) (w : World) (K : PySem.W.Frag) (mg : Str → Option Value) (base : Heap) (k : Nat) (f : Addr) (fd : FuncData) (ps : List Str) (sp : Sp) : Prop where
  run : ∀ (A : Around) (outer : List Env) (s : Shared) (H : Hp) (args : Args) (us : List Value) (vs : List V) (Q : VK), Room k A → A.guards = some [] → Env0 P w K mg base A outer s H →
    BindsTo s fd args (ps.zip us) → Vals vs us → sp vs H Q E0 → codeAny (model P w) A (.call (.ref f) args) (CR CX0 outer P w H s Q E0) s
theorem FnG.mono {P : Program} {w : World} {K : PySem.W.Frag} {mg : Str → Option Value} {base : Heap} {j k : Nat} {f : Addr} {fd : FuncData} {ps : List Str} {sp : Sp} (F : FnG P w K mg base j f fd ps sp) (h : j ≤ k) : FnG P w K mg base k f fd ps sp :=
  ⟨fun A outer s H args us vs Q hr => F.run A outer s H args us vs Q (hr.mono h)⟩
structure GoodAt (g : Gx) (f : FSig) (a : Addr) (fd : FuncData) : Prop where
  ok : ∃ k, FnG g.prog g.w g.K g.mg g.base k a fd f.ps (spF g.K f) ∧ Room k g.A
  at_ : g.mg f.name = some (.ref a)
  kp : PySem.W.keepIn g.K (.ref a) = true
  bind : ∀ us : List Value, us.length = f.ps.length → bindArgs fd ⟨us, []⟩ = pure (f.ps.zip us)
def Good (g : Gx) (f : FSig) : Prop := ∃ a fd, GoodAt g f a fd
/-- .. with the keywords kws behind n arguments -/
def GoodK (g : Gx) (f : FSig) (n : Nat) (kws : List Nat) : Prop := ∃ a fd, GoodAt g f a fd ∧
  ∀ us ws : List Value, us.length = n → ws.length = kws.length → bindArgs fd ⟨us, (kws.map fun i => f.ps.getD i "").zip ws⟩ = pure (f.ps.zip (fullL .none f.ps.length us kws ws))
def GoodGl (g : Gx) (x : Str) (d : PyData) : Prop := ∃ v u, g.mg x = some u ∧ RelV v u ∧ ∀ H, Dr g.K ⟨fun _ => False, True⟩ H v d
def GoodB (g : Gx) (x : Str) : Prop := g.mg x = none

mutual
def usE (g : Gx) : IE → Prop
  | .var _ => True
  | .lit _ => True
  | .glb x d => GoodGl g x d
  | .bin _ a b => usE g a ∧ usE g b
  | .neg a => usE g a
  | .cmp _ a b => usE g a ∧ usE g b
  | .chn _ _ a b d => usE g a ∧ usE g b ∧ usE g d
  | .and a b => usE g a ∧ usE g b
  | .or a b => usE g a ∧ usE g b
  | .one a => usE g a
  | .not a => usE g a
  | .ife t a b => usE g t ∧ usE g a ∧ usE g b
  | .lst xs _ => usL g xs
  | .tup xs => usL g xs
  | .idx a i => usE g a ∧ usE g i
  | .slc a lo hi => usE g a ∧ usO g lo ∧ usO g hi
  | .lc elt _ it cnd _ => usI g it ∧ usO g cnd ∧ usE g elt
  | .call f args => Good g f ∧ usL g args
  | .callk f args kws kargs => GoodK g f args.len kws ∧ usL g args ∧ usL g kargs
  | .blt b args => (GoodB g b.name ∧ match b with | .isinst T => GoodB g (Str.ofString T) | _ => True) ∧ usL g args
  | .mth _ o args => usE g o ∧ usL g args
def usL (g : Gx) : IL → Prop
  | .nil => True
  | .cons a as => usE g a ∧ usL g as
def usO (g : Gx) : IO → Prop
  | .no => True
  | .yes a => usE g a
def usI (g : Gx) : II → Prop
  | .seq a => usE g a
  | .rng as => GoodB g "range" ∧ usL g as
  | .enu a => GoodB g "enumerate" ∧ usE g a
  | .zip a b => GoodB g "zip" ∧ usE g a ∧ usE g b
end

/-! ### tests -/
def tstV (e : IE) (σ : En) : Option (Bool × En) := (ev e σ).bind fun r => (truthS r.1.data).map fun t => (t, r.2)
def tstO (e : IE) (σ : En) : Option (Bool × En) := (mkOpd e (ev e σ) σ).bind fun x => (x.1.get x.2).bind fun d => (truthS d.1).map fun t => (t, x.2)
def isVar : IE → Bool
  | .var _ => true
  | _ => false
theorem tst_same {e : IE} (h : isVar e = false) (σ : En) : tstO e σ = tstV e σ := by
  have key : ∀ r : Option (Rs × En), (r.map fun p => ((Opd.rs p.1 : Opd), p.2)).bind (fun x => (x.1.get x.2).bind fun d => (truthS d.1).map fun t => (t, x.2)) = r.bind fun r => (truthS r.1.data).map fun t => (t, r.2) := by
    intro r
    cases r with
    | none => rfl
    | some p =>
      obtain ⟨r, τ⟩ := p
      cases r <;> rfl
  have hm : mkOpd e (ev e σ) σ = (ev e σ).map fun p => ((Opd.rs p.1 : Opd), p.2) := by
    cases e <;> first | rfl | cases h
  unfold tstO tstV
  rw [hm]
  exact key _
theorem truV_of {F : Fx} {W : Wd} {v : V} {d : PyData} {m : Msk} {k : Bool} (h : Rdb F W v d m) (ht : truthS d = some k) : TruV F.K v W.H k := by
  unfold truthS at ht
  split at ht
  · next hk =>
    cases ht
    cases d with
    | none => rw [h.non]; exact rfl
    | bool b => rw [h.bl]; exact rfl
    | int i => rw [h.int]; exact rfl
    | str x =>
      rw [h.str]
      refine ⟨by rw [lim_eq]; exact of_decide_eq_true hk, ?_⟩
      show (x.length != 0) = ((x.length : Int) != 0)
      cases x.length with
      | zero => rfl
      | succ n => simp; omega
    | list xs =>
      obtain ⟨p, vs, rfl, h1, h2⟩ := h.lst
      refine .inl ⟨vs, h1, ?_⟩
      show (!xs.isEmpty) = !vs.isEmpty
      cases h2 <;> rfl
    | tuple xs =>
      obtain ⟨p, vs, rfl, h1, h2⟩ := h.tup
      refine .inr (.inl ⟨vs, h1, ?_⟩)
      show (!xs.isEmpty) = !vs.isEmpty
      cases h2 <;> rfl
    | dict xs => cases hk
  · cases ht
def tTru (K : PySem.W.Frag) (t : TE) : TT := fun σ H Q => t σ H fun x H' => ∃ k, TruV K x H' k ∧ Q k H'
theorem st_truO {F : Fx} {t : TE} {e : IE} (h : SO F t (fun σ => mkOpd e (ev e σ) σ)) : ST F (tTru F.K t) (tstO e) := by
  intro σV σ W b σ' Q R he k
  obtain ⟨⟨x, σ1⟩, e1, he⟩ := Option.bind_eq_some_iff.mp he
  obtain ⟨⟨d, m⟩, e2, he⟩ := Option.bind_eq_some_iff.mp he
  obtain ⟨t', e3, he⟩ := Option.map_eq_some_iff.mp he
  cases he
  exact h R e1 fun v W' R' s q _ => ⟨b, truV_of (q.get R' e2) e3, k W' R' s⟩
theorem rs_data {σ : En} (r : Rs) : ∃ m, Opd.get σ (.rs r) = some (r.data, m) := by cases r <;> exact ⟨_, rfl⟩
theorem st_truV {F : Fx} {t : TE} {e : IE} (h : SE F t (ev e)) : ST F (tTru F.K t) (tstV e) := by
  intro σV σ W b σ' Q R he k
  obtain ⟨⟨r, σ1⟩, e1, he⟩ := Option.bind_eq_some_iff.mp he
  obtain ⟨t', e3, he⟩ := Option.map_eq_some_iff.mp he
  cases he
  refine h R e1 fun v W' R' s q _ => ?_
  obtain ⟨m, em⟩ := rs_data (σ := σ) r
  exact ⟨b, truV_of (RsR.rdb (σ := _) q em) e3, k W' R' s⟩
/-- a test that gives True or False -/
theorem st_bool {F : Fx} {t : TE} {e : IE} (h : SE F t (ev e)) (hb : ∀ σ r σ', ev e σ = some (r, σ') → ∃ b m, r = .val (.bool b) m) : ST F (tTest t) (tstV e) := by
  intro σV σ W b σ' Q R he k
  obtain ⟨⟨r, σ1⟩, e1, he⟩ := Option.bind_eq_some_iff.mp he
  obtain ⟨t', e3, he⟩ := Option.map_eq_some_iff.mp he
  cases he
  obtain ⟨b', m, rfl⟩ := hb _ _ _ e1
  have e3 : some b' = some b := e3
  cases e3
  refine h R e1 fun v W' R' s q _ => ⟨b, ?_, k W' R' s⟩
  have q : Dr F.K (W'.rg m) W'.H v (.bool b) := q
  cases q
  rfl

/-- an expression held against the small language -/
structure EOK (c : SC) (g : Gx) (ir : IE) (e : Expr) : Prop where
  pe : ∃ t, (∀ X, Ok c g X → PE X e t) ∧ (∀ F : Fx, F.K = g.K → SE F t (ev ir)) ∧ ∀ i, ir = .var i → t = tVar i
  pt : tstOk ir = true → ∃ tt, (∀ X, Ok c g X → PT X e tt) ∧ (∀ F : Fx, F.K = g.K → ST F tt (tstV ir)) ∧ (∀ F : Fx, F.K = g.K → ST F tt (tstO ir)) ∧
    ∀ op vs p, e = .BoolOp op vs p → ∀ X, Ok c g X → PW X e tt
theorem EOK.so {c : SC} {g : Gx} {ir : IE} {e : Expr} (h : EOK c g ir e) : ∃ t, (∀ X, Ok c g X → PE X e t) ∧ (∀ F : Fx, F.K = g.K → SE F t (ev ir)) ∧ (∀ F : Fx, F.K = g.K → SO F t (fun σ => mkOpd ir (ev ir σ) σ)) ∧ ∀ i, ir = .var i → t = tVar i := by
  obtain ⟨t, h1, h2, h3⟩ := h.pe
  exact ⟨t, h1, h2, fun F hF => so_mk (h2 F hF) h3, h3⟩
/-- forms whose test is the truth of their value -/
def truHead : Expr → Bool
  | .UnaryOp .Not _ _ | .BoolOp _ _ _ | .IfExp _ _ _ _ | .Compare _ _ _ _ => false
  | _ => true
theorem th_true {e : Expr} (h : truHead e = true) (env : Env) (whole : Sem Value) : isTrue e env whole = (do let v ← whole; standAt e.pos; holding [v] (truthy v)) := by
  cases e with
  | UnaryOp op x p => cases op <;> first | rfl | (simp [truHead] at h; done)
  | _ => first | rfl | (simp [truHead] at h; done)
theorem th_bool {e : Expr} (h : truHead e = true) (op : BoolOp) (vs : List Expr) (p : Pos) : e ≠ .BoolOp op vs p := fun z => by
  subst z
  simp [truHead] at h
/-- the rule for all forms but these -/
theorem eok_plain {c : SC} {g : Gx} {ir : IE} {e : Expr} (ht : truHead e = true) (h : ∃ t, (∀ X, Ok c g X → PE X e t) ∧ (∀ F : Fx, F.K = g.K → SE F t (ev ir)) ∧ ∀ i, ir = .var i → t = tVar i) : EOK c g ir e := by
  refine ⟨h, fun _ => ?_⟩
  obtain ⟨t, h1, h2, h3⟩ := h
  refine ⟨tTru g.K t, fun X ok => ?_, fun F hF => ?_, fun F hF => ?_, fun op vs p z => absurd z (th_bool ht op vs p)⟩
  · have := pt_truth (h1 X ok) (th_true ht X.env)
    rw [ok.K] at this
    exact this
  · rw [← hF]; exact st_truV (h2 F hF)
  · rw [← hF]; exact st_truO (so_mk (h2 F hF) h3)
end Dv

/-! Dv, part L: each form of an expression -/
namespace Dv
open PySem PySem.Spec PySem.W PyProof.Rows L2

theorem band {a b : Bool} (h : (a && b) = true) : a = true ∧ b = true := Bool.and_eq_true_iff.mp h
theorem lookVis {c : SC} {g : Gx} {X : Cx} (ok : Ok c g X) {x : Str} (h : visB c.sc x = true) : Vis X.env.scope x := by rw [ok.sc]; exact vis_of h
theorem lookGl {c : SC} {g : Gx} {X : Cx} (ok : Ok c g X) {x : Str} (h : glB c.sc x = true) : Gl X x := by
  show X.env.scope.names.lookup x = some .globalImplicit
  rw [ok.sc]
  unfold glB at h
  split at h
  · next e => exact e
  · cases h
theorem lookLoc {c : SC} {g : Gx} {X : Cx} (ok : Ok c g X) {x : Str} (h : locB c x = true) : Loc X.env.scope x ∧ (X.fn x = true ∨ X.env.scope.names.lookup x = some .local) := by
  rw [ok.sc, ok.fn]
  unfold locB at h
  split at h
  · next e => exact ⟨.inl e, .inr e⟩
  · next e => exact ⟨.inr e, .inl h⟩
  · cases h
theorem bne_of {x y : Str} (h : (x != y) = true) : (x == y) = false := by simpa [bne] using h
theorem ne_of_bne {x y : Str} (h : (x != y) = true) : x ≠ y := by simpa using h
theorem nameB_of {x : Str} (h : nameB x = true) : (x == ("__debug__" : Str)) = false ∧ (x == ("__classdict__" : Str)) = false ∧ x ≠ ("__name__" : Str) := by
  unfold nameB at h
  obtain ⟨h1, h⟩ := band h
  obtain ⟨h2, h3⟩ := band h
  exact ⟨bne_of h1, bne_of h2, ne_of_bne h3⟩

section
variable {c : SC} {g : Gx}
theorem eok_var {i : Nat} {x : Str} {p : Pos} (h : chkVar c i x = true) : EOK c g (.var i) (.Name x p) := by
  obtain ⟨h1, h2⟩ := band h
  obtain ⟨h2, h3⟩ := band h2
  obtain ⟨n1, n2, _⟩ := nameB_of h3
  refine eok_plain rfl ⟨tVar i, fun X ok => pe_var (by rw [ok.N]; exact of_decide_eq_true h1) (lookVis ok h2) n1 n2, fun F _ => se_var i, fun j e => by cases e; rfl⟩
theorem eok_lit {d : PyData} {k : Const} {n : Nat} {p : Pos} (h : litOk d k = true) : EOK c g (.lit d) (.Constant k n p) := by
  refine eok_plain rfl ?_
  cases d <;> cases k <;> try (simp [litOk] at h; done)
  · exact ⟨tC .non, fun X ok => pe_non, fun F _ => se_lit fun _ _ _ => .non, fun i z => by cases z⟩
  · case bool.bool a b =>
    have e : a = b := by simpa [litOk] using h
    subst e
    exact ⟨tC (.bl a), fun X ok => pe_bl, fun F _ => se_lit fun _ _ _ => .bl a, fun i z => by cases z⟩
  · case int.int a b =>
    have e : a = b := by simpa [litOk] using h
    subst e
    exact ⟨tC (.int a), fun X ok => pe_int, fun F _ => se_lit fun _ _ _ => .int a, fun i z => by cases z⟩
  · case str.str a b =>
    have e : a = b := by simpa [litOk] using h
    subst e
    exact ⟨tC (.str a), fun X ok => pe_str, fun F _ => se_lit fun _ _ _ => .str a, fun i z => by cases z⟩
theorem eok_glb {x y : Str} {d : PyData} {p : Pos} (h : chkGl c x y = true) (u : GoodGl g x d) : EOK c g (.glb x d) (.Name y p) := by
  obtain ⟨h1, h2⟩ := band h
  obtain ⟨h2, h3⟩ := band h2
  obtain ⟨n1, n2, n3⟩ := nameB_of h3
  have e : x = y := of_decide_eq_true h1
  subst e
  obtain ⟨v, w, u1, u2, u3⟩ := u
  refine eok_plain rfl ⟨tC v, fun X ok => pe_glob (lookGl ok h2) (by rw [ok.mg]; exact u1) u2 n1, fun F hF => se_glb fun H => ?_, fun i z => by cases z⟩
  rw [hF]
  exact u3 H
theorem eok_bin {o : Operator} {a b : IE} {l r : Expr} {p : Pos} (ha : EOK c g a l) (hb : EOK c g b r) : EOK c g (.bin o a b) (.BinOp l o r p) := by
  obtain ⟨ta, a1, a2, a3, _⟩ := ha.so
  obtain ⟨tb, b1, b2, b3, _⟩ := hb.so
  refine eok_plain rfl ⟨tOp (rBin o) ta tb, fun X ok => pe_op (opr_bin o) (a1 X ok) (b1 X ok), fun F hF => ?_, fun i z => by cases z⟩
  intro σV σ W z σ' Q R e k
  exact se_two (a3 F hF) (b3 F hF) (rs_bin o) R (by unfold ev at e; exact e) k
theorem eok_neg {a : IE} {e : Expr} {p : Pos} (ha : EOK c g a e) : EOK c g (.neg a) (.UnaryOp .USub e p) := by
  obtain ⟨ta, a1, a2, a3, _⟩ := ha.so
  refine eok_plain rfl ⟨tUn (rU fun i => .int (-i)) ta, fun X ok => pe_un un_neg (a1 X ok), fun F hF => ?_, fun i z => by cases z⟩
  intro σV σ W z σ' Q R e k
  unfold ev at e
  obtain ⟨⟨x, σ1⟩, e1, e⟩ := Option.bind_eq_some_iff.mp e
  obtain ⟨⟨d, m⟩, e2, e⟩ := Option.bind_eq_some_iff.mp e
  refine a3 F hF R e1 fun v W' R' s q _ => ?_
  have q := q.get R' e2
  cases d <;> try (cases e; done)
  cases e
  exact ⟨_, q.int, k _ W' R' s (.int _) trivial⟩
theorem cmp_map (o : Option Bool) (y : En) : (o.map fun r => (Rs.val (.bool r) m0, y)) = (o.map fun r => Rs.val (.bool r) m0).map fun r => (r, y) := by cases o <;> rfl
theorem se_cmp {F : Fx} {o : CmpOp} {a b : IE} {ta tb : TE} (ha : SO F ta (fun σ => mkOpd a (ev a σ) σ)) (hb : SO F tb (fun σ => mkOpd b (ev b σ) σ)) : SE F (tOp (rCmp F.K o) ta tb) (ev (.cmp o a b)) := by
  intro σV σ W z σ' Q R e k
  refine se_two ha hb (rs_cmp o) R ?_ k
  unfold ev at e
  rw [← e]
  dsimp only
  congr 1
  funext x
  congr 1
  funext y
  congr 1
  funext d
  congr 1
  funext e
  exact (cmp_map _ _).symm
theorem cmp_bool {o : CmpOp} {a b : IE} : ∀ σ r σ', ev (.cmp o a b) σ = some (r, σ') → ∃ b m, r = .val (.bool b) m := by
  intro σ r σ' e
  unfold ev at e
  obtain ⟨⟨x, σ1⟩, e1, e⟩ := Option.bind_eq_some_iff.mp e
  obtain ⟨⟨y, σ2⟩, e1, e⟩ := Option.bind_eq_some_iff.mp e
  obtain ⟨⟨d, m⟩, e2, e⟩ := Option.bind_eq_some_iff.mp e
  obtain ⟨⟨d', m'⟩, e2, e⟩ := Option.bind_eq_some_iff.mp e
  obtain ⟨b, e2, e⟩ := Option.map_eq_some_iff.mp e
  cases e
  exact ⟨b, m0, rfl⟩
theorem eok_cmp (gk : GOk g) {o : CmpOp} {a b : IE} {l r : Expr} {p : Pos} (hr : okHead r = true) (ha : EOK c g a l) (hb : EOK c g b r) : EOK c g (.cmp o a b) (.Compare l [o] [r] p) := by
  obtain ⟨ta, a1, a2, a3, _⟩ := ha.so
  obtain ⟨tb, b1, b2, b3, _⟩ := hb.so
  have hu : ∀ X, Ok c g X → X.A.units + 65 < cLine := fun X ok => by rw [ok.A]; have := gk.units; omega
  refine ⟨⟨tOp (rCmp g.K o) ta tb, fun X ok => ?_, fun F hF => ?_, fun i z => by cases z⟩, fun _ => ⟨tTest (tOp (rCmp g.K o) ta tb), fun X ok => ?_, fun F hF => ?_, fun F hF => ?_, fun op vs p z => by cases z⟩⟩
  · have := pe_cmpR (pos := p) (opr_cmp (hu X ok) o) (a1 X ok) (b1 X ok) (oh_mark hr o)
    rw [ok.K] at this
    exact this
  · rw [← hF]; exact se_cmp (a3 F hF) (b3 F hF)
  · have := pt_cmpR (pos := p) (opr_cmp (hu X ok) o) (a1 X ok) (b1 X ok) (oh_mark hr o)
    rw [ok.K] at this
    exact this
  · rw [← hF]; exact st_bool (se_cmp (a3 F hF) (b3 F hF)) cmp_bool
  · rw [← hF]
    intro σV σ W z σ' Q R e k
    rw [tst_same rfl] at e
    exact st_bool (se_cmp (o := o) (a3 F hF) (b3 F hF)) cmp_bool R e k
theorem se_chn {F : Fx} {o o' : CmpOp} {a b d : IE} {ta tb td : TE} (ha : SO F ta (fun σ => mkOpd a (ev a σ) σ)) (hb : SO F tb (fun σ => mkOpd b (ev b σ) σ)) (hd : SO F td (fun σ => mkOpd d (ev d σ) σ)) :
    SE F (tChain (rCmp F.K o) (rCmp F.K o') ta tb td) (ev (.chn o o' a b d)) := by
  intro σV σ W z σ' Q R e k
  unfold ev at e
  obtain ⟨⟨x, σ1⟩, e1, e⟩ := Option.bind_eq_some_iff.mp e
  obtain ⟨⟨y, σ2⟩, e2, e⟩ := Option.bind_eq_some_iff.mp e
  obtain ⟨⟨dx, mx⟩, e3, e⟩ := Option.bind_eq_some_iff.mp e
  obtain ⟨⟨dy, my⟩, e4, e⟩ := Option.bind_eq_some_iff.mp e
  obtain ⟨r, e5, e⟩ := Option.bind_eq_some_iff.mp e
  refine so_two (P := fun v u H => rCmp F.K o v u H _) ha hb R e1 e2 fun v u W' R' s q1 q2 _ n2 => ?_
  refine rs_cmp o R' (q1.get R' e3) (q2.get R' e4) (show cmpR o dx dy mx my = some (.val (.bool r) m0) by unfold cmpR; rw [e5]; rfl) fun w W2 R2 s2 qw _ => ?_
  have qw : Dr F.K (W2.rg m0) W2.H w (.bool r) := qw
  cases qw
  refine ⟨r, rfl, ?_⟩
  cases r with
  | false =>
    cases e
    exact k _ W2 R2 (s.trans s2) (.bl false) trivial
  | true =>
    dsimp only at e
    rw [if_pos rfl] at e
    obtain ⟨⟨z', σ3⟩, e6, e⟩ := Option.bind_eq_some_iff.mp e
    obtain ⟨⟨dz, mz⟩, e7, e⟩ := Option.bind_eq_some_iff.mp e
    obtain ⟨⟨dy', my'⟩, e9, e⟩ := Option.bind_eq_some_iff.mp e
    obtain ⟨r', e8, e⟩ := Option.map_eq_some_iff.mp e
    cases e
    refine hd R2 e6 fun w W3 R3 s3 q3 _ => ?_
    have q2' : OpdR F σV _ W3 u y := OpdR.stp R2 s3 (OpdR.stp R' s2 q2)
    exact rs_cmp o' R3 (q2'.get R3 e9) (q3.get R3 e7) (show cmpR o' dy' dz my' mz = some (.val (.bool r') m0) by unfold cmpR; rw [e8]; rfl) fun w W4 R4 s4 q4 n4 => k w W4 R4 ((s.trans s2).trans (s3.trans s4)) q4 (RsNew.stp ((s.trans s2).trans s3) n4)

theorem eok_chn (gk : GOk g) {o o' : CmpOp} {a b d : IE} {l r q : Expr} {p : Pos} (hq : okHead q = true) (ha : EOK c g a l) (hb : EOK c g b r) (hd : EOK c g d q) : EOK c g (.chn o o' a b d) (.Compare l [o, o'] [r, q] p) := by
  obtain ⟨ta, a1, a2, a3, _⟩ := ha.so
  obtain ⟨tb, b1, b2, b3, _⟩ := hb.so
  obtain ⟨td, d1, d2, d3, _⟩ := hd.so
  have hu : ∀ X, Ok c g X → X.A.units + 65 < cLine := fun X ok => by rw [ok.A]; have := gk.units; omega
  have hbool : ∀ σ r σ', ev (.chn o o' a b d) σ = some (r, σ') → ∃ b m, r = .val (.bool b) m := by
    intro σ r σ' e
    unfold ev at e
    obtain ⟨⟨x, σ1⟩, e1, e⟩ := Option.bind_eq_some_iff.mp e
    obtain ⟨⟨y, σ2⟩, e1, e⟩ := Option.bind_eq_some_iff.mp e
    obtain ⟨⟨d, m⟩, e2, e⟩ := Option.bind_eq_some_iff.mp e
    obtain ⟨⟨d', m'⟩, e2, e⟩ := Option.bind_eq_some_iff.mp e
    obtain ⟨b, e2, e⟩ := Option.bind_eq_some_iff.mp e
    cases b with
    | false => cases e; exact ⟨false, m0, rfl⟩
    | true =>
      dsimp only at e
      rw [if_pos rfl] at e
      obtain ⟨⟨z', σ3⟩, e6, e⟩ := Option.bind_eq_some_iff.mp e
      obtain ⟨⟨dz, mz⟩, e7, e⟩ := Option.bind_eq_some_iff.mp e
      obtain ⟨⟨dz, mz⟩, e7, e⟩ := Option.bind_eq_some_iff.mp e
      obtain ⟨r', e8, e⟩ := Option.map_eq_some_iff.mp e
      cases e
      exact ⟨r', m0, rfl⟩
  refine ⟨⟨tChain (rCmp g.K o) (rCmp g.K o') ta tb td, fun X ok => ?_, fun F hF => ?_, fun i z => by cases z⟩, fun _ => ⟨tTest (tChain (rCmp g.K o) (rCmp g.K o') ta tb td), fun X ok => ?_, fun F hF => ?_, fun F hF => ?_, fun op vs p z => by cases z⟩⟩
  · have := pe_chain (pos := p) (opr_cmp (hu X ok) o) (opr_cmp (hu X ok) o') (a1 X ok) (b1 X ok) (d1 X ok) (oh_last hq o o')
    rw [ok.K] at this
    exact this
  · rw [← hF]; exact se_chn (a3 F hF) (b3 F hF) (d3 F hF)
  · have := pt_chain (pos := p) (opr_cmp (hu X ok) o) (opr_cmp (hu X ok) o') (a1 X ok) (b1 X ok) (d1 X ok) (oh_last hq o o')
    rw [ok.K] at this
    exact this
  · rw [← hF]; exact st_bool (se_chn (a3 F hF) (b3 F hF) (d3 F hF)) hbool
  · rw [← hF]
    intro σV σ W z σ' Q R e k
    rw [tst_same rfl] at e
    exact st_bool (se_chn (a3 F hF) (b3 F hF) (d3 F hF)) hbool R e k

/-! ### and, or, not -/
theorem se_and {F : Fx} {a b : IE} {ta tb : TE} (ha : SE F ta (ev a)) (hb : SE F tb (ev b)) : SE F (tAndT F.K ta tb) (ev (.and a b)) := by
  intro σV σ W z σ' Q R e k
  unfold ev at e
  obtain ⟨⟨r, σ1⟩, e1, e⟩ := Option.bind_eq_some_iff.mp e
  obtain ⟨t, e2, e⟩ := Option.bind_eq_some_iff.mp e
  refine ha R e1 fun v W' R' s q n => ?_
  obtain ⟨m, em⟩ := rs_data (σ := σ1) r
  refine ⟨t, truV_of (RsR.rdb (σ := σ1) q em) e2, ?_⟩
  cases t with
  | true => exact iteT (hb R' e fun w W2 R2 s2 q2 n2 => k w W2 R2 (s.trans s2) q2 (RsNew.stp s n2))
  | false => cases e; exact iteF (k v W' R' s q n)
theorem se_or {F : Fx} {a b : IE} {ta tb : TE} (ha : SE F ta (ev a)) (hb : SE F tb (ev b)) : SE F (tOrT F.K ta tb) (ev (.or a b)) := by
  intro σV σ W z σ' Q R e k
  unfold ev at e
  obtain ⟨⟨r, σ1⟩, e1, e⟩ := Option.bind_eq_some_iff.mp e
  obtain ⟨t, e2, e⟩ := Option.bind_eq_some_iff.mp e
  refine ha R e1 fun v W' R' s q n => ?_
  obtain ⟨m, em⟩ := rs_data (σ := σ1) r
  refine ⟨t, truV_of (RsR.rdb (σ := σ1) q em) e2, ?_⟩
  cases t with
  | false => exact iteF (hb R' e fun w W2 R2 s2 q2 n2 => k w W2 R2 (s.trans s2) q2 (RsNew.stp s n2))
  | true => cases e; exact iteT (k v W' R' s q n)
theorem st_and {F : Fx} {a b : IE} {ta tb : TT} (ha : ST F ta (tstV a)) (hb : ST F tb (tstV b)) : ST F (tAnd ta tb) (tstV (.and a b)) := by
  intro σV σ W z σ' Q R e k
  unfold tstV ev at e
  obtain ⟨⟨r, σ1⟩, e1, e⟩ := Option.bind_eq_some_iff.mp e
  obtain ⟨⟨r0, σ0⟩, e0, e1⟩ := Option.bind_eq_some_iff.mp e1
  obtain ⟨t, e2, e1⟩ := Option.bind_eq_some_iff.mp e1
  refine ha R (show tstV a σ = some (t, σ0) by unfold tstV; rw [e0]; show (truthS r0.data).map _ = _; rw [e2]; rfl) fun W' R' s => ?_
  cases t with
  | true => exact iteT (hb R' (show tstV b σ0 = some (z, σ') by unfold tstV; rw [show ev b σ0 = some (r, σ1) from e1]; exact e) fun W2 R2 s2 => k W2 R2 (s.trans s2))
  | false =>
    cases e1
    rw [show truthS r.data = some false from e2] at e
    cases e
    exact iteF (k W' R' s)
theorem st_or {F : Fx} {a b : IE} {ta tb : TT} (ha : ST F ta (tstV a)) (hb : ST F tb (tstV b)) : ST F (tOr ta tb) (tstV (.or a b)) := by
  intro σV σ W z σ' Q R e k
  unfold tstV ev at e
  obtain ⟨⟨r, σ1⟩, e1, e⟩ := Option.bind_eq_some_iff.mp e
  obtain ⟨⟨r0, σ0⟩, e0, e1⟩ := Option.bind_eq_some_iff.mp e1
  obtain ⟨t, e2, e1⟩ := Option.bind_eq_some_iff.mp e1
  refine ha R (show tstV a σ = some (t, σ0) by unfold tstV; rw [e0]; show (truthS r0.data).map _ = _; rw [e2]; rfl) fun W' R' s => ?_
  cases t with
  | false => exact iteF (hb R' (show tstV b σ0 = some (z, σ') by unfold tstV; rw [show ev b σ0 = some (r, σ1) from e1]; exact e) fun W2 R2 s2 => k W2 R2 (s.trans s2))
  | true =>
    cases e1
    rw [show truthS r.data = some true from e2] at e
    cases e
    exact iteT (k W' R' s)
theorem st_O {F : Fx} {ir : IE} {tt : TT} (hv : isVar ir = false) (h : ST F tt (tstV ir)) : ST F tt (tstO ir) := by
  intro σV σ W z σ' Q R e k
  rw [tst_same hv] at e
  exact h R e k
theorem eok_and {a b : IE} {x y : Expr} {r : List Expr} {p : Pos} (ha : EOK c g a x) (hb : EOK c g b (.BoolOp .And (y :: r) p)) (hta : tstOk a = true) (htb : tstOk b = true) : EOK c g (.and a b) (.BoolOp .And (x :: y :: r) p) := by
  obtain ⟨ta, a1, a2, _⟩ := ha.pe
  obtain ⟨tb, b1, b2, _⟩ := hb.pe
  obtain ⟨ua, a3, a4, _, _⟩ := ha.pt hta
  obtain ⟨ub, b3, b4, _, b5⟩ := hb.pt htb
  refine ⟨⟨tAndT g.K ta tb, fun X ok => ?_, fun F hF => by rw [← hF]; exact se_and (a2 F hF) (b2 F hF), fun i z => by cases z⟩, fun _ => ⟨tAnd ua ub, fun X ok => PW.pt (pw_and (a3 X ok) (b5 _ _ _ rfl X ok)), fun F hF => st_and (a4 F hF) (b4 F hF), fun F hF => st_O rfl (st_and (a4 F hF) (b4 F hF)), fun op vs p z X ok => ?_⟩⟩
  · have := pe_andT (pos := p) (a1 X ok) (b1 X ok)
    rw [ok.K] at this
    exact this
  · exact pw_and (a3 X ok) (b5 _ _ _ rfl X ok)
theorem eok_or {a b : IE} {x y : Expr} {r : List Expr} {p : Pos} (ha : EOK c g a x) (hb : EOK c g b (.BoolOp .Or (y :: r) p)) (hta : tstOk a = true) (htb : tstOk b = true) : EOK c g (.or a b) (.BoolOp .Or (x :: y :: r) p) := by
  obtain ⟨ta, a1, a2, _⟩ := ha.pe
  obtain ⟨tb, b1, b2, _⟩ := hb.pe
  obtain ⟨ua, a3, a4, _, _⟩ := ha.pt hta
  obtain ⟨ub, b3, b4, _, b5⟩ := hb.pt htb
  refine ⟨⟨tOrT g.K ta tb, fun X ok => ?_, fun F hF => by rw [← hF]; exact se_or (a2 F hF) (b2 F hF), fun i z => by cases z⟩, fun _ => ⟨tOr ua ub, fun X ok => PW.pt (pw_or (a3 X ok) (b5 _ _ _ rfl X ok)), fun F hF => st_or (a4 F hF) (b4 F hF), fun F hF => st_O rfl (st_or (a4 F hF) (b4 F hF)), fun op vs p z X ok => ?_⟩⟩
  · have := pe_orT (pos := p) (a1 X ok) (b1 X ok)
    rw [ok.K] at this
    exact this
  · exact pw_or (a3 X ok) (b5 _ _ _ rfl X ok)
theorem eok_one {a : IE} {o : BoolOp} {x : Expr} {p : Pos} (ha : EOK c g a x) (hta : tstOk a = true) : EOK c g (.one a) (.BoolOp o [x] p) := by
  obtain ⟨ta, a1, a2, _⟩ := ha.pe
  obtain ⟨ua, a3, a4, _, _⟩ := ha.pt hta
  have hs : ∀ F : Fx, F.K = g.K → ST F ua (tstV (.one a)) := fun F hF => by
    intro σV σ W z σ' Q R e k
    exact a4 F hF R (by unfold tstV ev at e; exact e) k
  have hw : ∀ X, Ok c g X → PW X (.BoolOp o [x] p) ua := fun X ok => by
    cases o
    · exact pw_and1 (a3 X ok)
    · exact pw_or1 (a3 X ok)
  refine ⟨⟨ta, fun X ok => pe_one (a1 X ok), fun F hF => ?_, fun i z => by cases z⟩, fun _ => ⟨ua, fun X ok => (hw X ok).pt, hs, fun F hF => st_O rfl (hs F hF), fun op vs p z X ok => hw X ok⟩⟩
  intro σV σ W z σ' Q R e k
  exact a2 F hF R (by unfold ev at e; exact e) k
theorem eok_not {a : IE} {x : Expr} {p : Pos} (ha : EOK c g a x) : EOK c g (.not a) (.UnaryOp .Not x p) := by
  obtain ⟨ta, a1, a2, a3, _⟩ := ha.so
  refine ⟨⟨tNotT g.K ta, fun X ok => ?_, fun F hF => ?_, fun i z => by cases z⟩, fun hto => ?_⟩
  · have := pe_notT (pos := p) (a1 X ok)
    rw [ok.K] at this
    exact this
  · intro σV σ W z σ' Q R e k
    unfold ev at e
    obtain ⟨⟨y, σ1⟩, e1, e⟩ := Option.bind_eq_some_iff.mp e
    obtain ⟨⟨d, m⟩, e2, e⟩ := Option.bind_eq_some_iff.mp e
    obtain ⟨t, e3, e⟩ := Option.map_eq_some_iff.mp e
    cases e
    refine a3 F hF R e1 fun v W' R' s q _ => ⟨t, ?_, k _ W' R' s (.bl _) trivial⟩
    have := truV_of (q.get R' e2) e3
    rw [hF] at this
    exact this
  · obtain ⟨ua, p1, p2, p3, _⟩ := ha.pt (by simpa [tstOk] using hto)
    have hs : ∀ F : Fx, F.K = g.K → ST F (tNot ua) (tstV (.not a)) := fun F hF => by
      intro σV σ W z σ' Q R e k
      unfold tstV ev at e
      obtain ⟨⟨r, σ1⟩, e1, e⟩ := Option.bind_eq_some_iff.mp e
      obtain ⟨⟨y, σ2⟩, e2, e1⟩ := Option.bind_eq_some_iff.mp e1
      obtain ⟨⟨d, m⟩, e3, e1⟩ := Option.bind_eq_some_iff.mp e1
      obtain ⟨t, e4, e1⟩ := Option.map_eq_some_iff.mp e1
      obtain ⟨rfl, rfl⟩ := Prod.mk.inj e1
      obtain ⟨rfl, rfl⟩ := Prod.mk.inj (Option.some.inj (show some ((!t), σ2) = some (z, σ') from e))
      refine p3 F hF R (show tstO a σ = some (t, σ2) by unfold tstO; rw [e2]; show (Opd.get σ2 y).bind _ = _; rw [e3]; show (truthS d).map _ = _; rw [e4]; rfl) fun W' R' s => k W' R' s
    exact ⟨tNot ua, fun X ok => pt_not (p1 X ok), hs, fun F hF => st_O rfl (hs F hF), fun op vs p z => by cases z⟩
theorem eok_ife {t a b : IE} {x y z : Expr} {p : Pos} (ht : EOK c g t x) (htt : tstOk t = true) (ha : EOK c g a y) (hb : EOK c g b z) : EOK c g (.ife t a b) (.IfExp x y z p) := by
  obtain ⟨tt, t1, _, t3, _⟩ := ht.pt htt
  obtain ⟨ta, a1, a2, _⟩ := ha.pe
  obtain ⟨tb, b1, b2, _⟩ := hb.pe
  refine ⟨⟨tIf tt ta tb, fun X ok => pe_ifExp (t1 X ok) (a1 X ok) (b1 X ok), fun F hF => ?_, fun i z => by cases z⟩, fun z => by simp [tstOk] at z⟩
  intro σV σ W r σ' Q R e k
  unfold ev at e
  obtain ⟨⟨y, σ1⟩, e1, e⟩ := Option.bind_eq_some_iff.mp e
  obtain ⟨⟨d, m⟩, e2, e⟩ := Option.bind_eq_some_iff.mp e
  obtain ⟨b, e3, e⟩ := Option.bind_eq_some_iff.mp e
  refine t3 F hF R (show tstO t σ = some (b, σ1) by unfold tstO; rw [e1]; show (Opd.get σ1 y).bind _ = _; rw [e2]; show (truthS d).map _ = _; rw [e3]; rfl) fun W' R' s => ?_
  cases b with
  | true => exact iteT (a2 F hF R' e fun w W2 R2 s2 q2 n2 => k w W2 R2 (s.trans s2) q2 (RsNew.stp s n2))
  | false => exact iteF (b2 F hF R' e fun w W2 R2 s2 q2 n2 => k w W2 R2 (s.trans s2) q2 (RsNew.stp s n2))
end
end Dv

/-! Dv, part M: displays, subscripts, calls -/
namespace Dv
open PySem PySem.Spec PySem.W PyProof.Rows L2

/-! ### a call of a def of the text -/
section
variable {X : Cx} {k : Nat} {f : Addr} {fd : FuncData} {ps : List Str} {sp : Sp}
/-- what is wanted behind a callee -/
def CEnd (X : Cx) (pins : List (Addr × Obj)) (σ : L2.St) (Q : VK) : Result → Shared → Prop
  | .ok (.ret u), s' => EP X pins σ Q u s'
  | _, _ => False
theorem call_run {pins : List (Addr × Obj)} {σ : L2.St} {H : Hp} {s : Shared} {Q : VK} {args : Args} {us : List Value} {vs : List V} (G : FnG X.prog X.w X.K X.mg X.base k f fd ps sp) (hr : Room k X.A) (hg : X.A.guards = some [])
    (I : L2.Inv X pins σ H s) (hb : BindsTo s fd args (ps.zip us)) (hv : Vals vs us) (h : sp vs H Q E0) : codeAny (model X.prog X.w) X.A (.call (.ref f) args) (CEnd X pins σ Q) s :=
  codeAny_mono (G.run X.A X.stack s H args us vs Q hr hg I.env0 hb hv h) fun r s' q => match r, q with
    | .ok (.ret u), q => I.after q
    | .error _, q => q
theorem call_done {pins : List (Addr × Obj)} {σ : L2.St} {s : Shared} {Q : VK} {us : List Value} {kw : List (Str × Value)}
    (h : codeAny (model X.prog X.w) X.A (.call (.ref f) ⟨us, kw⟩) (CEnd X pins σ Q) s) : wpAny (model X.prog X.w) X.A (call (.ref f) us kw) (EP X pins σ Q) X.xe s := by
  refine wpAny_call (codeAny_mono h fun r s' q => ?_)
  match r, q with
  | .ok (.ret u), q => exact q
  | .ok .next, q => exact q.elim
  | .ok .brk, q => exact q.elim
  | .ok .cont, q => exact q.elim
  | .error _, q => exact q.elim
end
/-- no star among plain arguments -/
theorem any_star (env : Env) (pos : Pos) : ∀ es : List Expr, (es.all okHead) = true → (backTo pos (starEach es env)).any (·.1) = false
  | [], _ => rfl
  | e :: es, h => by
    rw [List.all_cons, Bool.and_eq_true] at h
    rw [oh_star h.1]
    show (false || (backTo pos (starEach es env)).any (·.1)) = false
    rw [any_star env pos es h.2]
    rfl
theorem chkL_all {c : SC} : ∀ {il : IL} {es : List Expr}, chkL c il es = true → es.all okHead = true ∧ es.length = il.len
  | .nil, [], _ => ⟨rfl, rfl⟩
  | .cons a as, e :: es, h => by
    rw [chkL] at h
    obtain ⟨h1, h2⟩ := band h
    obtain ⟨h3, _⟩ := band h1
    obtain ⟨i1, i2⟩ := chkL_all h2
    exact ⟨by rw [List.all_cons, h3, i1]; rfl, by show es.length + 1 = as.len + 1; rw [i2]⟩
  | .nil, _ :: _, h => by simp [chkL] at h
  | .cons _ _, [], h => by simp [chkL] at h
section
variable {c : SC} {g : Gx}
/-- the facts of a callee, in a body -/
theorem GoodAt.inX {f : FSig} {a : Addr} {fd : FuncData} {X : Cx} (G : GoodAt g f a fd) (ok : Ok c g X) : (∃ k, FnG X.prog X.w X.K X.mg X.base k a fd f.ps (spF X.K f) ∧ Room k X.A) ∧ X.mg f.name = some (.ref a) ∧ PySem.W.keepIn X.K (.ref a) = true := by
  rw [ok.prog, ok.w, ok.K, ok.mg, ok.base, ok.A]
  exact ⟨G.ok, G.at_, G.kp⟩
theorem def_run (gk : GOk g) {X : Cx} (ok : Ok c g X) {f : FSig} {a : Addr} {fd : FuncData} (G : GoodAt g f a fd) {pins : List (Addr × Obj)} {σ : L2.St} {H : Hp} {s : Shared} {Q : VK} {us : List Value} {vs : List V}
    (I : L2.Inv X pins σ H s) (r : Vals vs us) (q : spF X.K f vs H Q E0) : wpAny (model X.prog X.w) X.A (call (.ref a) us) (EP X pins σ Q) X.xe s := by
  obtain ⟨⟨k, G1, hr⟩, _, _⟩ := G.inX ok
  have hl : us.length = f.ps.length := by
    obtain ⟨_, _, _, _, _, _, _, q2, _⟩ := q
    rw [← r.length]; exact q2
  exact call_done (call_run G1 hr (by rw [ok.A]; exact gk.guards) I (.of_eq (G.bind us hl)) r q)
theorem pe_def0 (gk : GOk g) {X : Cx} (ok : Ok c g X) {f : FSig} {a : Addr} {fd : FuncData} (G : GoodAt g f a fd) {p pos : Pos} (hx : chkGl c f.name f.name = true) : PE X (.Call (.Name f.name p) [] [] pos) (tCall (spF X.K f) [] E0 tNil) := by
  obtain ⟨_, hm, hk⟩ := G.inX ok
  obtain ⟨h2, h3⟩ := band (band hx).2
  constructor
  intro pins s σ H Q I h
  exact wpAny_Call_Name_kw (ld_glob I (lookGl ok h2) hm (PySem.W.callWith_K0 I.kIn hk (def_run gk ok G I .nil h)) (nameB_of h3).1)
theorem pe_def (gk : GOk g) {X : Cx} (ok : Ok c g X) {f : FSig} {a : Addr} {fd : FuncData} (G : GoodAt g f a fd) {e : Expr} {rest : List Expr} {t : TA} {p pos : Pos} (hx : chkGl c f.name f.name = true) (he : (e :: rest).all okHead = true) (ha : PA X (e :: rest) t) :
    PE X (.Call (.Name f.name p) (e :: rest) [] pos) (tCall (spF X.K f) [] E0 t) := by
  obtain ⟨_, hm, hk⟩ := G.inX ok
  obtain ⟨h2, h3⟩ := band (band hx).2
  rw [List.all_cons, Bool.and_eq_true] at he
  constructor
  intro pins s σ H Q I h
  refine wpAny_Call_Name_kw (ld_glob I (lookGl ok h2) hm ?_ (nameB_of h3).1)
  refine PySem.W.callWith_K (h₀ := X.base) I.ok.mod.kin hk (thn (ha.run pos pins s σ H _ I h) fun us s1 ⟨vs, H1, I1, r, q⟩ => ⟨I1.kIn, ?_⟩) (oh_star he.1 rest X.env) (any_star X.env pos rest he.2)
  have q : spF X.K f (vs ++ []) H1 Q E0 := q
  rw [List.append_nil] at q
  exact def_run gk ok G I1 r q

/-- an argument list held against the small language -/
structure LOK (c : SC) (g : Gx) (il : IL) (es : List Expr) : Prop where
  ex : ∃ t, (∀ X, Ok c g X → PA X es t) ∧ (∀ F : Fx, F.K = g.K → SOs F t (evO il)) ∧ (∀ F : Fx, F.K = g.K → SL F t (evL il)) ∧ (∀ F : Fx, F.K = g.K → SK F t il)
theorem lok_nil : LOK c g .nil [] := ⟨tNil, fun _ _ => pa_nil, fun _ _ => sos_nil, fun _ _ => sl_nil, fun _ _ => sk_nil⟩
theorem lok_cons {a : IE} {as : IL} {e : Expr} {es : List Expr} (hh : okHead e = true) (ha : EOK c g a e) (hs : LOK c g as es) : LOK c g (.cons a as) (e :: es) := by
  obtain ⟨t, a1, a2, a3, a4⟩ := ha.so
  obtain ⟨u, b1, b2, b3, b4⟩ := hs.ex
  exact ⟨tCons t u, fun X ok => pa_cons (a1 X ok) (b1 X ok) (oh_star hh es X.env), fun F hF => sos_cons (a3 F hF) (b2 F hF), fun F hF => sl_cons (a2 F hF) (b3 F hF), fun F hF => sk_cons (a2 F hF) a4 (b4 F hF)⟩
theorem eok_lst {xs : IL} {m : Msk} {es : List Expr} {p : Pos} (h : LOK c g xs es) : EOK c g (.lst xs m) (.List es p) := by
  obtain ⟨t, a1, _, a3, _⟩ := h.ex
  refine eok_plain rfl ⟨tLst t, fun X ok => pe_lst (a1 X ok), fun F hF => ?_, fun i z => by cases z⟩
  intro σV σ W r σ' Q R e k
  unfold ev at e
  obtain ⟨⟨ds, m', σ1⟩, e1, e⟩ := Option.bind_eq_some_iff.mp e
  dsimp only at e
  split at e
  · next hl =>
    cases e
    obtain ⟨h1, h2⟩ := band hl
    refine a3 F hF R e1 fun vs W' R' s q => ⟨by rw [lim_eq, q.length]; exact of_decide_eq_true h2, fun p hp => ?_⟩
    exact end_lst R' hp (q.leM h1) fun w W2 R2 s2 q2 n2 => k w W2 R2 (s.trans s2) q2 (RsNew.stp s n2)
  · cases e
theorem eok_tup {xs : IL} {es : List Expr} {n : Nat} {p : Pos} (h : LOK c g xs es) : EOK c g (.tup xs) (.Tuple es n p) := by
  obtain ⟨t, a1, _, a3, _⟩ := h.ex
  refine eok_plain rfl ⟨tTup t, fun X ok => pe_tup (a1 X ok), fun F hF => ?_, fun i z => by cases z⟩
  intro σV σ W r σ' Q R e k
  unfold ev at e
  obtain ⟨⟨ds, m', σ1⟩, e1, e⟩ := Option.bind_eq_some_iff.mp e
  dsimp only at e
  split at e
  · next hl =>
    cases e
    refine a3 F hF R e1 fun vs W' R' s q => ⟨by rw [lim_eq, q.length]; exact hl, fun p hp => ?_⟩
    exact end_tup R' hp q fun w W2 R2 s2 q2 n2 => k w W2 R2 (s.trans s2) q2 trivial
  · cases e
theorem eok_idx {a i : IE} {x y : Expr} {p : Pos} (hy : okHead y = true) (ha : EOK c g a x) (hi : EOK c g i y) : EOK c g (.idx a i) (.Subscript x y p) := by
  obtain ⟨ta, a1, a2, a3, _⟩ := ha.so
  obtain ⟨ti, b1, b2, b3, _⟩ := hi.so
  refine eok_plain rfl ⟨tOp (rIxD g.K) ta ti, fun X ok => ?_, fun F hF => ?_, fun i z => by cases z⟩
  · have := pe_ix (pos := p) ix_data (a1 X ok) (b1 X ok) (oh_ix hy)
    rw [ok.K] at this
    exact this
  · intro σV σ W z σ' Q R e k
    rw [← hF]
    exact se_two (a3 F hF) (b3 F hF) rs_idx R (by unfold ev at e; exact e) k
/-- a part of a slice -/
def SPt (F : Fx) (t : TO) (f : En → Option (Option Int × En)) : Prop :=
  ∀ {σV : L2.St} {σ : En} {W : Wd} {o : Option Int} {σ' : En} {Q : Option Int → Hp → Prop}, Rel F σV σ W → f σ = some (o, σ') → (∀ W', Rel F σV σ' W' → Stp σV σ W σ' W' → Q o W'.H) → t σV W.H Q
structure POK (c : SC) (g : Gx) (io : IO) (e : Option Expr) : Prop where
  ex : ∃ t, (∀ X, Ok c g X → PO X e t) ∧ (∀ F : Fx, F.K = g.K → SPt F t (evP io))
theorem pok_no : POK c g .no none := ⟨tNoPart, fun _ _ => po_none, fun F _ => by
  intro σV σ W o σ' Q R e k
  unfold evP at e
  cases e
  exact k W R (Stp.refl _ _ _)⟩
theorem pok_yes {a : IE} {e : Expr} (ha : EOK c g a e) : POK c g (.yes a) (some e) := by
  obtain ⟨ta, a1, a2, a3, _⟩ := ha.so
  refine ⟨tPart ta, fun X ok => po_some (a1 X ok), fun F hF => ?_⟩
  intro σV σ W o σ' Q R e k
  unfold evP at e
  obtain ⟨⟨x, σ1⟩, e1, e⟩ := Option.bind_eq_some_iff.mp e
  obtain ⟨⟨d, m⟩, e2, e⟩ := Option.bind_eq_some_iff.mp e
  refine a3 F hF R e1 fun v W' R' s q _ => ?_
  have q := q.get R' e2
  cases d <;> try (cases e; done)
  cases e
  exact ⟨_, q.int, k W' R' s⟩
theorem eok_slc {a : IE} {lo hi : IO} {x : Expr} {l h : Option Expr} {p p2 : Pos} (ha : EOK c g a x) (hl : POK c g lo l) (hh : POK c g hi h) : EOK c g (.slc a lo hi) (.Subscript x (.Slice l h none p2) p) := by
  obtain ⟨ta, a1, a2, a3, _⟩ := ha.so
  obtain ⟨tl, l1, l2⟩ := hl.ex
  obtain ⟨th, h1, h2⟩ := hh.ex
  refine eok_plain rfl ⟨tSl (rSlL g.K) ta tl th, fun X ok => ?_, fun F hF => ?_, fun i z => by cases z⟩
  · have := pe_slice (pos := p) (p2 := p2) sl_list (a1 X ok) (l1 X ok) (h1 X ok)
    rw [ok.K] at this
    exact this
  · intro σV σ W z σ' Q R e k
    rw [← hF]
    unfold ev at e
    obtain ⟨⟨x, σ1⟩, e1, e⟩ := Option.bind_eq_some_iff.mp e
    obtain ⟨⟨lo', σ2⟩, e2, e⟩ := Option.bind_eq_some_iff.mp e
    obtain ⟨⟨hi', σ3⟩, e3, e⟩ := Option.bind_eq_some_iff.mp e
    obtain ⟨⟨d, m⟩, e4, e⟩ := Option.bind_eq_some_iff.mp e
    obtain ⟨r, e5, e⟩ := Option.map_eq_some_iff.mp e
    obtain ⟨rfl, rfl⟩ := Prod.mk.inj e
    refine a3 F hF R e1 fun v W1 R1 s1 q1 _ => l2 F hF R1 e2 fun W2 R2 s2 => h2 F hF R2 e3 fun W3 R3 s3 => ?_
    have q := (OpdR.stp R2 s3 (OpdR.stp R1 s2 q1)).get R3 e4
    cases d <;> try (cases e5; done)
    cases e5
    obtain ⟨p, vs, rfl, h1, h2⟩ := q.lst
    exact ⟨p, vs, rfl, h1, fun p hp => end_lst R3 hp (cut_dr h2) fun w W4 R4 s4 q4 n4 => k w W4 R4 ((s1.trans s2).trans (s3.trans s4)) q4 (RsNew.stp ((s1.trans s2).trans s3) n4)⟩
theorem evO_at {σ : En} : ∀ {il : IL} {xs : List Opd} {σ' : En} {k i : Nat}, evO il σ = some (xs, σ') → il.at k = some (.var i) → xs[k]? = some (.pk i) := by
  intro il
  induction il using IL.rec (motive_1 := fun _ => True) (motive_3 := fun _ => True) (motive_4 := fun _ => True) generalizing σ with
  | nil => intro xs σ' k i _ h; simp [IL.at] at h
  | cons e es _ ih =>
    intro xs σ' k i h h2
    unfold evO at h
    obtain ⟨⟨x, σ1⟩, e1, h⟩ := Option.bind_eq_some_iff.mp h
    obtain ⟨⟨ys, σ2⟩, e2, h⟩ := Option.map_eq_some_iff.mp h
    cases h
    cases k with
    | zero =>
      have h2 : some e = some (IE.var i) := h2
      cases h2
      unfold mkOpd at e1
      dsimp only at e1
      split at e1
      · cases e1; rfl
      · cases e1
    | succ k => rw [List.getElem?_cons_succ]; exact ih e2 h2
  | _ => trivial
theorem eok_call (gk : GOk g) {f : FSig} {args : IL} {x : Str} {es : List Expr} {p pos : Pos} (hx : chkGl c f.name x = true) (hc : chkL c args es = true) (G : Good g f) (h : LOK c g args es) : EOK c g (.call f args) (.Call (.Name x p) es [] pos) := by
  obtain ⟨t, a1, a2, a3, a4⟩ := h.ex
  obtain ⟨a, fd, G⟩ := G
  have e : f.name = x := of_decide_eq_true (band hx).1
  subst e
  have hpe : ∃ t, (∀ X, Ok c g X → PE X (.Call (.Name f.name p) es [] pos) (tCall (spF g.K f) [] E0 t)) ∧ (∀ F : Fx, F.K = g.K → SOs F t (evO args)) ∧ (∀ F : Fx, F.K = g.K → SK F t args) := by
    cases es with
    | nil =>
      cases args with
      | nil => exact ⟨tNil, fun X ok => by have := pe_def0 gk ok G (p := p) (pos := pos) hx; rw [ok.K] at this; exact this, fun _ _ => sos_nil, fun _ _ => sk_nil⟩
      | cons _ _ => simp [chkL] at hc
    | cons e rest => exact ⟨t, fun X ok => by have := pe_def gk ok G (p := p) (pos := pos) hx (chkL_all hc).1 (a1 X ok); rw [ok.K] at this; exact this, a2, a4⟩
  obtain ⟨t, a1, a2, a4⟩ := hpe
  refine eok_plain rfl ⟨tCall (spF g.K f) [] E0 t, a1, fun F hF => ?_, fun i z => by cases z⟩
  · intro σV σ W z σ' Q R e k
    rw [← hF]
    unfold ev at e
    split at e
    · next hrk =>
      obtain ⟨⟨ops, σ1⟩, e1, e⟩ := Option.bind_eq_some_iff.mp e
      obtain ⟨iv, e2, e⟩ := Option.bind_eq_some_iff.mp e
      refine a2 F hF R e1 fun vs W' R' s q => ?_
      rw [List.append_nil]
      exact callB_ok R' hrk e2 q (fun k i _ hi => evO_at e1 hi) e fun w W2 R2 s2 q2 n2 => k w W2 R2 (s.trans s2) q2 (RsNew.stp s n2)
    · obtain ⟨⟨ds, m, σ1⟩, e1, e⟩ := Option.bind_eq_some_iff.mp e
      obtain ⟨iv, e2, e⟩ := Option.bind_eq_some_iff.mp e
      refine a4 F hF R e1 fun vs W' R' s hl q hz => ?_
      rw [List.append_nil]
      exact callK_ok R' e2 hl q hz e fun w W2 R2 s2 q2 n2 => k w W2 R2 (s.trans s2) q2 (RsNew.stp s n2)

/-! ### built-in functions, methods -/
theorem bl_boot : ∀ b : Bl, bootBuiltins b.name = some b.val
  | .len => by decide +kernel
  | .repr => by decide +kernel
  | .sum => by decide +kernel
  | .min1 => by decide +kernel
  | .min2 => by decide +kernel
  | .max1 => by decide +kernel
  | .max2 => by decide +kernel
  | .abs => by decide +kernel
  | .int => by decide +kernel
  | .list => by decide +kernel
  | .tuple => by decide +kernel
  | .sorted => by decide +kernel
  | .isinst _ => by show bootBuiltins ("isinstance" : Str) = some (.builtin "isinstance"); decide +kernel
theorem ty_boot : ∀ T ∈ tyNames, bootBuiltins (Str.ofString T) = some (.type T) := by decide +kernel
theorem pe_bl {X : Cx} {b : Bl} {r : List V → Hp → VK → Prop} {e : Expr} {es : List Expr} {t : TA} {p pos : Pos} (hc : CallR X b.val r) (hg : Gl X b.name) (hm : X.mg b.name = none) (hn : nameB b.name = true) (he : (e :: es).all okHead = true) (ha : PA X (e :: es) t) :
    PE X (.Call (.Name b.name p) (e :: es) [] pos) (tCB r t) := by
  have hb := bl_boot b
  obtain ⟨n1, n2, n3⟩ := nameB_of hn
  rw [List.all_cons, Bool.and_eq_true] at he
  cases b <;> first
    | exact pe_callB hc hg hm hb ha n3 n1 (oh_star he.1 es X.env) (any_star X.env pos es he.2)
    | exact pe_callTy hc hg hm hb ha n3 n1 (oh_star he.1 es X.env) (any_star X.env pos es he.2)
theorem se_bl {F : Fx} {b : Bl} {args : IL} {t : TA} (ha : SOs F t (evO args)) : SE F (tCB (rBl F.K b) t) (ev (.blt b args)) := by
  intro σV σ W z σ' Q R e k
  unfold ev at e
  obtain ⟨⟨xs, σ1⟩, e1, e⟩ := Option.bind_eq_some_iff.mp e
  obtain ⟨ds, e2, e⟩ := Option.bind_eq_some_iff.mp e
  obtain ⟨r, e3, e⟩ := Option.map_eq_some_iff.mp e
  obtain ⟨rfl, rfl⟩ := Prod.mk.inj e
  exact ha R e1 fun vs W' R' s q => cs_bl b R' (rdA_of R' q e2) e3 fun w W2 R2 s2 q2 n2 => k w W2 R2 (s.trans s2) q2 (RsNew.stp s n2)
theorem eok_blt (gk : GOk g) {b : Bl} (hb : ∀ T, b ≠ .isinst T) {a : IE} {as : IL} {x : Str} {e : Expr} {es : List Expr} {p pos : Pos} (hx : chkGl c b.name x = true) (he : (e :: es).all okHead = true) (u : GoodB g b.name) (h : LOK c g (.cons a as) (e :: es)) :
    EOK c g (.blt b (.cons a as)) (.Call (.Name x p) (e :: es) [] pos) := by
  obtain ⟨t, a1, a2, _, _⟩ := h.ex
  have ex : b.name = x := of_decide_eq_true (band hx).1
  subst ex
  obtain ⟨h2, h3⟩ := band (band hx).2
  refine eok_plain rfl ⟨tCB (rBl g.K b) t, fun X ok => ?_, fun F hF => by rw [← hF]; exact se_bl (a2 F hF), fun i z => by cases z⟩
  have hu : X.A.units + 64 < cLine := by rw [ok.A]; have := gk.units; omega
  have := pe_bl (p := p) (pos := pos) (call_bl (X := X) ok.calm hu (by rw [ok.A]; exact gk.guards) b hb) (lookGl ok h2) (by rw [ok.mg]; exact u) h3 he (a1 X ok)
  rw [ok.K] at this
  exact this
theorem eok_isi {T : String} {a : IE} {x y : Str} {e : Expr} {p q pos : Pos} (hx : chkGl c ("isinstance" : Str) x = true) (ho : okHead e = true) (hT : Str.ofString T = y) (hm : T ∈ tyNames) (hy : chkGl c y y = true) (u : GoodB g ("isinstance" : Str)) (u2 : GoodB g (Str.ofString T)) (ha : EOK c g a e) :
    EOK c g (.blt (.isinst T) (.cons a .nil)) (.Call (.Name x p) [e, .Name y q] [] pos) := by
  obtain ⟨t, a1, a2, a3, _⟩ := ha.so
  have ex : ("isinstance" : Str) = x := of_decide_eq_true (band hx).1
  subst ex
  subst hT
  obtain ⟨h2, h3⟩ := band (band hx).2
  obtain ⟨y2, y3⟩ := band (band hy).2
  obtain ⟨n1, n2, n3⟩ := nameB_of y3
  refine eok_plain rfl ⟨tCB (rIsi g.K) (tCons t (tCons (tC (.ty T)) tNil)), fun X ok => ?_, fun F hF => ?_, fun i z => by cases z⟩
  · have pT : PE X (.Name (Str.ofString T) q) (tC (.ty T)) := pe_bltn (lookGl ok y2) (by rw [ok.mg]; exact u2) (ty_boot T hm) rfl n3 n1
    have pa : PA X [e, .Name (Str.ofString T) q] (tCons t (tCons (tC (.ty T)) tNil)) := pa_cons (a1 X ok) (pa_cons pT pa_nil) (oh_star ho _ _)
    have := pe_bl (b := .isinst T) (p := p) (pos := pos) (r := rIsi X.K) call_isi (lookGl ok h2) (by rw [ok.mg]; exact u) h3 (by rw [List.all_cons, ho]; rfl) pa
    rw [ok.K] at this
    exact this
  · intro σV σ W z σ' Q R e k
    rw [← hF]
    have key : tCB (rBl F.K (.isinst T)) (tCons t tNil) σV W.H Q := se_bl (sos_cons (a3 F hF) sos_nil) R e k
    exact key
theorem eok_bits {o : IE} {x : Str} {xp ap cp : Pos} (hl : (ap.endLine == cp.line) = true) (ha : EOK c g o (.Name x xp)) : EOK c g (.mth .bitLength o .nil) (.Call (.Attribute (.Name x xp) ("bit_length" : Str) ap) [] [] cp) := by
  obtain ⟨t, a1, a2, a3, _⟩ := ha.so
  refine eok_plain rfl ⟨tBits t, fun X ok => pe_bits (a1 X ok) rfl hl, fun F hF => ?_, fun i z => by cases z⟩
  intro σV σ W z σ' Q R e k
  unfold ev at e
  obtain ⟨⟨x, σ1⟩, e1, e⟩ := Option.bind_eq_some_iff.mp e
  obtain ⟨⟨xs, σ2⟩, e2, e⟩ := Option.bind_eq_some_iff.mp e
  obtain ⟨⟨d, m⟩, e3, e⟩ := Option.bind_eq_some_iff.mp e
  obtain ⟨ds, e4, e⟩ := Option.bind_eq_some_iff.mp e
  obtain ⟨r, e5, e⟩ := Option.map_eq_some_iff.mp e
  obtain ⟨rfl, rfl⟩ := Prod.mk.inj e
  unfold evO at e2
  obtain ⟨rfl, rfl⟩ := Prod.mk.inj (Option.some.inj e2)
  have e4 : some ([] : List (PyData × Msk)) = some ds := e4
  cases e4
  refine a3 F hF R e1 fun v W' R' s q _ => ?_
  have q := q.get R' e3
  cases d <;> try (cases e5; done)
  cases e5
  exact ⟨_, q.int, k _ W' R' s (.int _) trivial⟩
end
end Dv

/-! Dv, part N: slots bound, wiped, locked; comprehensions -/
namespace Dv
open PySem PySem.Spec PySem.W PyProof.Rows L2

/-! ### slots -/
theorem setL_length (m : Msk) : ∀ (is : List Nat) (ds : List PyData) (σ : En), (setVals m is ds σ).length = σ.length
  | [], _, _ => by simp [setVals]
  | _ :: _, [], _ => by simp [setVals]
  | i :: is, d :: ds, σ => by simp [setVals, setL_length m is ds]
theorem wipeE_length : ∀ (vs : List Nat) (σ : En), (wipeE vs σ).length = σ.length
  | [], _ => rfl
  | v :: vs, σ => by simp [wipeE, wipeE_length vs]
theorem wipeE_in : ∀ {vs : List Nat} {σ : En} {i : Nat}, i ∈ vs → i < σ.length → (wipeE vs σ)[i]? = some .emp
  | v :: vs, σ, i, h, hl => by
    unfold wipeE
    by_cases e : v = i
    · subst e; rw [List.getElem?_set_self (by rw [wipeE_length]; exact hl)]
    · rw [List.getElem?_set_ne e]
      rcases List.mem_cons.mp h with z | z
      · exact absurd z.symm e
      · exact wipeE_in z hl
theorem wipeE_out : ∀ {vs : List Nat} {σ : En} {i : Nat}, i ∉ vs → (wipeE vs σ)[i]? = σ[i]?
  | [], _, _, _ => rfl
  | v :: vs, σ, i, h => by
    unfold wipeE
    rw [List.mem_cons, not_or] at h
    rw [List.getElem?_set_ne (Ne.symm h.1)]
    exact wipeE_out h.2
theorem wipeV_out : ∀ {vs : List Nat} {σ : L2.St} {i : Nat}, i ∉ vs → (wipe σ vs)[i]? = σ[i]?
  | [], _, _, _ => rfl
  | v :: vs, σ, i, h => by
    unfold wipe
    rw [List.mem_cons, not_or] at h
    rw [List.getElem?_set_ne (Ne.symm h.1)]
    exact wipeV_out h.2
theorem wipeV_in : ∀ {vs : List Nat} {σ : L2.St} {i : Nat}, i ∈ vs → i < σ.length → (wipe σ vs)[i]? = some none
  | v :: vs, σ, i, h, hl => by
    unfold wipe
    by_cases e : v = i
    · subst e; rw [List.getElem?_set_self (by rw [wipe_length]; exact hl)]
    · rw [List.getElem?_set_ne e]
      rcases List.mem_cons.mp h with z | z
      · exact absurd z.symm e
      · exact wipeV_in z hl
theorem backE_length (σ : En) : ∀ (vs : List Nat) (τ : En), (backE σ vs τ).length = τ.length
  | [], _ => rfl
  | v :: vs, τ => by
    unfold backE
    split
    · rw [List.length_set, backE_length σ vs τ]
    · exact backE_length σ vs τ
theorem backE_in {σ : En} : ∀ {vs : List Nat} {τ : En} {i : Nat}, i ∈ vs → i < σ.length → σ.length = τ.length → (backE σ vs τ)[i]? = σ[i]?
  | v :: vs, τ, i, h, hl, hτ => by
    unfold backE
    by_cases e : v = i
    · subst e
      have q : σ[v]? = some σ[v] := List.getElem?_eq_getElem hl
      rw [q]
      dsimp only
      rw [List.getElem?_set_self (by rw [backE_length]; omega)]
    · have hm : i ∈ vs := (List.mem_cons.mp h).resolve_left (Ne.symm e)
      split
      · rw [List.getElem?_set_ne e]; exact backE_in hm hl hτ
      · exact backE_in hm hl hτ
theorem backE_out {σ : En} : ∀ {vs : List Nat} {τ : En} {i : Nat}, i ∉ vs → (backE σ vs τ)[i]? = τ[i]?
  | [], _, _, _ => rfl
  | v :: vs, τ, i, h => by
    rw [List.mem_cons, not_or] at h
    unfold backE
    split
    · rw [List.getElem?_set_ne (Ne.symm h.1)]; exact backE_out h.2
    · exact backE_out h.2

/-- a slot locked, unlocked -/
def Sl.lock : Sl → Sl
  | .own o m io => .lck o m io
  | s => s
def Sl.unlock : Sl → Sl
  | .lck o m io => .own o m io
  | s => s
theorem lockE_length : ∀ (is : List Nat) (σ : En), (lockE is σ).length = σ.length
  | [], _ => rfl
  | i :: is, σ => by
    unfold lockE
    split
    · rw [lockE_length is, List.length_set]
    · exact lockE_length is σ
theorem unlockE_length : ∀ (is : List Nat) (σ : En), (unlockE is σ).length = σ.length
  | [], _ => rfl
  | i :: is, σ => by
    unfold unlockE
    split
    · rw [unlockE_length is, List.length_set]
    · exact unlockE_length is σ
theorem lockE_get : ∀ {is : List Nat} {σ : En} {j : Nat} {s : Sl}, σ[j]? = some s → (lockE is σ)[j]? = some (if j ∈ is then s.lock else s)
  | [], σ, j, s, h => by simpa [lockE] using h
  | i :: is, σ, j, s, h => by
    unfold lockE
    split
    · next o m io e =>
      by_cases hj : i = j
      · subst hj
        rw [h] at e
        cases e
        have q := lockE_get (is := is) (σ := σ.set i (.lck o m io)) (j := i) (s := .lck o m io) (List.getElem?_set_self (List.getElem?_eq_some_iff.mp h).1)
        rw [q, if_pos (List.mem_cons_self ..)]
        show _ = some (Sl.lck o m io)
        split <;> rfl
      · rw [lockE_get (is := is) (s := s) (by rw [List.getElem?_set_ne hj]; exact h)]
        simp only [List.mem_cons, Ne.symm hj, false_or]
    · next hn =>
      rw [lockE_get (is := is) h]
      by_cases hj : j = i
      · subst hj
        rw [if_pos (List.mem_cons_self ..)]
        have : s.lock = s := by
          cases s with
          | own o m io => exact absurd h (hn o m io)
          | _ => rfl
        rw [this]
        split <;> rfl
      · simp only [List.mem_cons, hj, false_or]
theorem unlockE_get : ∀ {is : List Nat} {σ : En} {j : Nat} {s : Sl}, σ[j]? = some s → (unlockE is σ)[j]? = some (if j ∈ is then s.unlock else s)
  | [], σ, j, s, h => by simpa [unlockE] using h
  | i :: is, σ, j, s, h => by
    unfold unlockE
    split
    · next o m io e =>
      by_cases hj : i = j
      · subst hj
        rw [h] at e
        cases e
        have q := unlockE_get (is := is) (σ := σ.set i (.own o m io)) (j := i) (s := .own o m io) (List.getElem?_set_self (List.getElem?_eq_some_iff.mp h).1)
        rw [q, if_pos (List.mem_cons_self ..)]
        show _ = some (Sl.own o m io)
        split <;> rfl
      · rw [unlockE_get (is := is) (s := s) (by rw [List.getElem?_set_ne hj]; exact h)]
        simp only [List.mem_cons, Ne.symm hj, false_or]
    · next hn =>
      rw [unlockE_get (is := is) h]
      by_cases hj : j = i
      · subst hj
        rw [if_pos (List.mem_cons_self ..)]
        have : s.unlock = s := by
          cases s with
          | lck o m io => exact absurd h (hn o m io)
          | _ => rfl
        rw [this]
        split <;> rfl
      · simp only [List.mem_cons, hj, false_or]
theorem get_of_len {σ τ : En} (h : τ.length = σ.length) {j : Nat} {s : Sl} (e : τ[j]? = some s) : ∃ s', σ[j]? = some s' := by
  have := (List.getElem?_eq_some_iff.mp e).1
  exact ⟨_, List.getElem?_eq_getElem (by omega)⟩

section
variable {F : Fx} {σV : L2.St} {σ : En} {W : Wd}
/-- the slots may be told otherwise where the same objects stand in them -/
theorem Rel.again {σ' : En} {σV' : L2.St} (R : Rel F σV σ W) (hl : σV'.length = σ'.length) (hs : ∀ (j : Nat) (s : Sl), σ'[j]? = some s → SlR F W σV'[j]? s) (ho : ∀ j p, OwnAt σV' σ' j p → OwnAt σV σ j p) : Rel F σV' σ' W :=
  ⟨hl, R.live, R.disj, R.newC, R.oldD, R.base, R.old, hs, fun i j p h1 h2 => R.dist i j p (ho i p h1) (ho j p h2)⟩
theorem ownAt_lock {is : List Nat} {j : Nat} {p : Addr} (h : OwnAt σV (lockE is σ) j p) : OwnAt σV σ j p := by
  obtain ⟨⟨o, m, io, h1⟩, h2⟩ := h
  refine ⟨?_, h2⟩
  obtain ⟨s, e⟩ : ∃ s, σ[j]? = some s := by
    rcases h1 with h1 | h1 <;> exact get_of_len (lockE_length is σ) h1
  have q := lockE_get (is := is) e
  rw [q] at h1
  cases s with
  | own o' m' io' => exact ⟨o', m', io', .inl e⟩
  | lck o' m' io' => exact ⟨o', m', io', .inr e⟩
  | emp => rcases h1 with h1 | h1 <;> (split at h1 <;> cases h1)
  | val d m' => rcases h1 with h1 | h1 <;> (split at h1 <;> cases h1)
theorem ownAt_unlock {is : List Nat} {j : Nat} {p : Addr} (h : OwnAt σV (unlockE is σ) j p) : OwnAt σV σ j p := by
  obtain ⟨⟨o, m, io, h1⟩, h2⟩ := h
  refine ⟨?_, h2⟩
  obtain ⟨s, e⟩ : ∃ s, σ[j]? = some s := by
    rcases h1 with h1 | h1 <;> exact get_of_len (unlockE_length is σ) h1
  have q := unlockE_get (is := is) e
  rw [q] at h1
  cases s with
  | own o' m' io' => exact ⟨o', m', io', .inl e⟩
  | lck o' m' io' => exact ⟨o', m', io', .inr e⟩
  | emp => rcases h1 with h1 | h1 <;> (split at h1 <;> cases h1)
  | val d m' => rcases h1 with h1 | h1 <;> (split at h1 <;> cases h1)
theorem SlR.lock {x : Option (Option V)} {s : Sl} (h : SlR F W x s) : SlR F W x s.lock := by cases s <;> exact h
theorem SlR.unlock {x : Option (Option V)} {s : Sl} (h : SlR F W x s) : SlR F W x s.unlock := by cases s <;> exact h
theorem Rel.lock (R : Rel F σV σ W) (is : List Nat) : Rel F σV (lockE is σ) W := by
  refine R.again (by rw [lockE_length]; exact R.len) (fun j s e => ?_) fun j p h => ownAt_lock h
  obtain ⟨s', e'⟩ := get_of_len (lockE_length is σ) e
  rw [lockE_get e'] at e
  cases e
  split
  · exact (R.slot j s' e').lock
  · exact R.slot j s' e'
theorem Rel.unlock (R : Rel F σV σ W) (is : List Nat) : Rel F σV (unlockE is σ) W := by
  refine R.again (by rw [unlockE_length]; exact R.len) (fun j s e => ?_) fun j p h => ownAt_unlock h
  obtain ⟨s', e'⟩ := get_of_len (unlockE_length is σ) e
  rw [unlockE_get e'] at e
  cases e
  split
  · exact (R.slot j s' e').unlock
  · exact R.slot j s' e'
theorem ownAt_wipe {vs : List Nat} {j : Nat} {p : Addr} (h : OwnAt (wipe σV vs) (wipeE vs σ) j p) : OwnAt σV σ j p ∧ j ∉ vs := by
  obtain ⟨⟨o, m, io, h1⟩, h2⟩ := h
  by_cases hj : j ∈ vs
  · exfalso
    have hl : j < σ.length := by
      rcases h1 with h1 | h1
      · have := (List.getElem?_eq_some_iff.mp h1).1; rw [wipeE_length] at this; exact this
      · have := (List.getElem?_eq_some_iff.mp h1).1; rw [wipeE_length] at this; exact this
    rw [wipeE_in hj hl] at h1
    rcases h1 with h1 | h1 <;> cases h1
  · rw [wipeE_out hj] at h1
    rw [wipeV_out hj] at h2
    exact ⟨⟨⟨o, m, io, h1⟩, h2⟩, hj⟩
theorem Rel.wiped (R : Rel F σV σ W) (vs : List Nat) : Rel F (wipe σV vs) (wipeE vs σ) W := by
  refine R.again (by rw [wipe_length, wipeE_length]; exact R.len) (fun j s e => ?_) fun j p h => (ownAt_wipe h).1
  by_cases hj : j ∈ vs
  · have hl : j < σ.length := by have := (List.getElem?_eq_some_iff.mp e).1; rw [wipeE_length] at this; exact this
    rw [wipeE_in hj hl] at e
    cases e
    trivial
  · rw [wipeE_out hj] at e
    rw [wipeV_out hj]
    exact R.slot j s e
/-- the wiped slots come back -/
theorem Rel.back {vs : List Nat} {σ3 : En} {W' : Wd} (R : Rel F σV σ W) (R3 : Rel F (wipe σV vs) (wipeE vs σ3) W') (s : Step (Ow (wipe σV vs) (wipeE vs σ)) W (Ow (wipe σV vs) (wipeE vs σ3)) W') :
    Rel F σV (backE σ vs σ3) W' ∧ Step (Ow σV σ) W (Ow σV (backE σ vs σ3)) W' := by
  have len3 : σ3.length = σ.length := by
    have h1 := R3.len
    have h2 := R.len
    rw [wipe_length, wipeE_length] at h1
    omega
  have hidden : ∀ j p, OwnAt σV σ j p → j ∈ vs → ¬ Ow (wipe σV vs) (wipeE vs σ) p := fun j p h hj ⟨i, hi⟩ => by
    obtain ⟨h1, h2⟩ := ownAt_wipe hi
    have := R.dist i j p h1 h
    subst this
    exact h2 hj
  have ownB : ∀ j p, OwnAt σV (backE σ vs σ3) j p → (j ∈ vs ∧ OwnAt σV σ j p) ∨ (j ∉ vs ∧ OwnAt (wipe σV vs) (wipeE vs σ3) j p) := fun j p ⟨⟨o, m, io, h1⟩, h2⟩ => by
    by_cases hj : j ∈ vs
    · have hl : j < σ.length := by
        rcases h1 with h1 | h1
        · have := (List.getElem?_eq_some_iff.mp h1).1; rw [backE_length] at this; omega
        · have := (List.getElem?_eq_some_iff.mp h1).1; rw [backE_length] at this; omega
      rw [backE_in hj hl len3.symm] at h1
      exact .inl ⟨hj, ⟨o, m, io, h1⟩, h2⟩
    · rw [backE_out hj] at h1
      refine .inr ⟨hj, ⟨o, m, io, ?_⟩, by rw [wipeV_out hj]; exact h2⟩
      rw [wipeE_out hj]
      exact h1
  have kp := fun m => (R.wiped vs).keeps s m
  refine ⟨⟨by rw [backE_length, len3]; exact R.len, R3.live, R3.disj, R3.newC, R3.oldD, R3.base, R3.old, fun j sl e => ?_, fun i j p h1 h2 => ?_⟩, ⟨fun a o e n => ?_, fun a h => ?_, fun a ⟨j, h⟩ => ?_, s.subD, s.subC, s.live⟩⟩
  · by_cases hj : j ∈ vs
    · have hl : j < σ.length := by have := (List.getElem?_eq_some_iff.mp e).1; rw [backE_length] at this; omega
      rw [backE_in hj hl len3.symm] at e
      refine SlR.keeps kp (R.slot j sl e) fun p e1 e2 e3 => ?_
      obtain ⟨o, m, io, z⟩ := e2
      have hO : OwnAt σV σ j p := ⟨⟨o, m, io, by rcases z with z | z; exact .inl (by rw [e, z]); exact .inr (by rw [e, z])⟩, e1⟩
      have hn := hidden j p hO hj
      refine ⟨fun u q => s.keep p u q hn, fun h => ?_⟩
      obtain ⟨u, q, _⟩ := R.own_at ⟨j, hO⟩
      rcases s.grow p h with z | z | z
      · exact e3 z
      · rw [q] at z; cases z
      · exact hn z
    · rw [backE_out hj] at e
      have := R3.slot j sl (by rw [wipeE_out hj]; exact e)
      rw [wipeV_out hj] at this
      exact this
  · rcases ownB i p h1 with ⟨i1, i2⟩ | ⟨i1, i2⟩
    · rcases ownB j p h2 with ⟨j1, j2⟩ | ⟨j1, j2⟩
      · exact R.dist i j p i2 j2
      · exfalso
        obtain ⟨u, q, _⟩ := R.own_at ⟨i, i2⟩
        rcases s.own p ⟨j, j2⟩ with z | z
        · exact hidden i p i2 i1 z
        · rw [q] at z; cases z
    · rcases ownB j p h2 with ⟨j1, j2⟩ | ⟨j1, j2⟩
      · exfalso
        obtain ⟨u, q, _⟩ := R.own_at ⟨j, j2⟩
        rcases s.own p ⟨i, i2⟩ with z | z
        · exact hidden j p j2 j1 z
        · rw [q] at z; cases z
      · exact R3.dist i j p i2 j2
  · exact s.keep a o e fun ⟨j, h⟩ => n ⟨j, (ownAt_wipe h).1⟩
  · rcases s.grow a h with z | z | ⟨j, z⟩
    · exact .inl z
    · exact .inr (.inl z)
    · exact .inr (.inr ⟨j, (ownAt_wipe z).1⟩)
  · rcases ownB j a h with ⟨j1, j2⟩ | ⟨j1, j2⟩
    · exact .inl ⟨j, j2⟩
    · rcases s.own a ⟨j, j2⟩ with ⟨i, z⟩ | z
      · exact .inl ⟨i, (ownAt_wipe z).1⟩
      · exact .inr z
end
end Dv

/-! Dv, part O: names bound; what is walked -/
namespace Dv
open PySem PySem.Spec PySem.W PyProof.Rows L2

/-! ### a slot is set -/
def Sl.owned : Sl → Bool
  | .own _ _ _ => true
  | .lck _ _ _ => true
  | _ => false
theorem wipe_same {σ τ : L2.St} {vs : List Nat} (hl : σ.length = τ.length) (h : ∀ j, j ∉ vs → σ[j]? = τ[j]?) : wipe σ vs = wipe τ vs := by
  apply List.ext_getElem?
  intro j
  by_cases hj : j ∈ vs
  · by_cases hlt : j < σ.length
    · rw [wipeV_in hj hlt, wipeV_in hj (by omega)]
    · rw [List.getElem?_eq_none (by rw [wipe_length]; omega), List.getElem?_eq_none (by rw [wipe_length]; omega)]
  · rw [wipeV_out hj, wipeV_out hj, h j hj]
theorem wipeE_same {σ τ : En} {vs : List Nat} (hl : σ.length = τ.length) (h : ∀ j, j ∉ vs → σ[j]? = τ[j]?) : wipeE vs σ = wipeE vs τ := by
  apply List.ext_getElem?
  intro j
  by_cases hj : j ∈ vs
  · by_cases hlt : j < σ.length
    · rw [wipeE_in hj hlt, wipeE_in hj (by omega)]
    · rw [List.getElem?_eq_none (by rw [wipeE_length]; omega), List.getElem?_eq_none (by rw [wipeE_length]; omega)]
  · rw [wipeE_out hj, wipeE_out hj, h j hj]
section
variable {F : Fx} {σV : L2.St} {σ : En} {W : Wd}
theorem ownAt_set {i j : Nat} {s : Sl} {v : V} {p : Addr} (hl : σV.length = σ.length) (h : OwnAt (σV.set i (some v)) (σ.set i s) j p) : (j ≠ i ∧ OwnAt σV σ j p) ∨ (j = i ∧ s.owned = true ∧ v = .ref p) := by
  obtain ⟨⟨o, m, io, h1⟩, h2⟩ := h
  by_cases hj : j = i
  · subst hj
    refine .inr ⟨rfl, ?_⟩
    have hlt : j < σ.length := by
      have : j < (σ.set j s).length := by rcases h1 with h1 | h1 <;> exact (List.getElem?_eq_some_iff.mp h1).1
      rwa [List.length_set] at this
    rw [List.getElem?_set_self hlt] at h1
    rw [List.getElem?_set_self (by omega)] at h2
    have h2 : some (some v) = some (some (V.ref p)) := h2
    refine ⟨?_, by cases h2; rfl⟩
    rcases h1 with h1 | h1 <;> (have h1 := Option.some.inj h1; subst h1; rfl)
  · rw [List.getElem?_set_ne (Ne.symm hj)] at h1 h2
    exact .inl ⟨hj, ⟨o, m, io, h1⟩, h2⟩
theorem Rel.setV (R : Rel F σV σ W) (i : Nat) {s : Sl} {v : V} (hs : SlR F W (some (some v)) s) (hn : s.owned = true → ∀ p, v = .ref p → ¬ Ow σV σ p) : Rel F (σV.set i (some v)) (σ.set i s) W := by
  refine ⟨by rw [List.length_set, List.length_set]; exact R.len, R.live, R.disj, R.newC, R.oldD, R.base, R.old, fun j s' e => ?_, fun j k p h1 h2 => ?_⟩
  · by_cases hj : j = i
    · subst hj
      have hlt : j < σ.length := by have := (List.getElem?_eq_some_iff.mp e).1; rwa [List.length_set] at this
      rw [List.getElem?_set_self hlt] at e
      cases e
      rw [List.getElem?_set_self (by rw [R.len]; exact hlt)]
      exact hs
    · rw [List.getElem?_set_ne (Ne.symm hj)] at e ⊢
      exact R.slot j s' e
  · rcases ownAt_set R.len h1 with ⟨a1, a2⟩ | ⟨a1, a2, a3⟩
    · rcases ownAt_set R.len h2 with ⟨b1, b2⟩ | ⟨b1, b2, b3⟩
      · exact R.dist j k p a2 b2
      · exact absurd ⟨j, a2⟩ (hn b2 p b3)
    · rcases ownAt_set R.len h2 with ⟨b1, b2⟩ | ⟨b1, b2, b3⟩
      · exact absurd ⟨k, b2⟩ (hn a2 p a3)
      · rw [a1, b1]
/-- a list of no slot and of no region is written -/
theorem Rel.poke (R : Rel F σV σ W) {D : Addr} {vs ws : List V} (hS : ¬ W.S D) (hO : ¬ Ow σV σ D) (hD : W.H D = some (.lst vs)) (h0 : F.H0 D = none) : Rel F σV σ (W.upd D (.lst ws)) := by
  have at_ : ∀ a, a ≠ D → (W.upd D (.lst ws)).H a = W.H a := fun a ha => upd_ne ha
  have alive : ∀ a, (∃ u, W.H a = some u) → ∃ u, (W.upd D (.lst ws)).H a = some u := fun a ⟨u, e⟩ => by
    by_cases ha : a = D
    · subst ha; exact ⟨_, upd_same⟩
    · exact ⟨u, by rw [at_ a ha]; exact e⟩
  have kp : ∀ m, Keeps (W.rg m) W.H ((W.upd D (.lst ws)).rg m) (W.upd D (.lst ws)).H := fun m => ⟨fun a h => h, fun h => h,
    fun a o h e => by rw [at_ a (fun z => hS (z ▸ Wd.rg_sub h))]; exact e,
    fun a xs e => by rw [at_ a (fun z => by rw [z, hD] at e; cases e)]; exact e, fun a o u e => by rw [at_ a (fun z => by rw [z, hD] at e; cases e)]; exact e⟩
  refine ⟨R.len, fun a h => alive a (R.live a h), R.disj, R.newC, R.oldD, fun a o e n => by rw [at_ a (fun z => by rw [z, h0] at e; cases e)]; exact R.base a o e n, fun a o e => alive a (R.old a o e), fun j s e => ?_, R.dist⟩
  refine SlR.keeps kp (R.slot j s e) fun p e1 e2 e3 => ?_
  obtain ⟨o, m, io, z⟩ := e2
  have hO2 : OwnAt σV σ j p := ⟨⟨o, m, io, by rcases z with z | z; exact .inl (by rw [e, z]); exact .inr (by rw [e, z])⟩, e1⟩
  exact ⟨fun u q => by rw [at_ p (fun z => hO (z ▸ ⟨j, hO2⟩))]; exact q, e3⟩

/-! ### targets -/
/-- what binding the names vs does -/
structure BindR (F : Fx) (σV : L2.St) (σ : En) (W : Wd) (σV' : L2.St) (σ' : En) (vs : List Nat) : Prop where
  rel : Rel F σV' σ' W
  own : ∀ p, Ow σV' σ' p → Ow σV σ p
  len : σV'.length = σV.length
  lenE : σ'.length = σ.length
  out : ∀ j, j ∉ vs → σV'[j]? = σV[j]?
  outE : ∀ j, j ∉ vs → σ'[j]? = σ[j]?
theorem BindR.one (R : Rel F σV σ W) (i : Nat) {v : V} {d : PyData} {m : Msk} (q : Dr F.K (W.rg m) W.H v d) : BindR F σV σ W (σV.set i (some v)) (σ.set i (.val d (Dv.nm d m))) [i] where
  rel := R.setV i ⟨v, rfl, q.atNm⟩ (fun z => by cases z)
  own := fun p ⟨j, h⟩ => by
    rcases ownAt_set R.len h with ⟨_, a⟩ | ⟨_, a, _⟩
    · exact ⟨j, a⟩
    · cases a
  len := List.length_set
  lenE := List.length_set
  out := fun j hj => by rw [List.mem_singleton] at hj; exact List.getElem?_set_ne (Ne.symm hj)
  outE := fun j hj => by rw [List.mem_singleton] at hj; exact List.getElem?_set_ne (Ne.symm hj)
def gNames : List Nat → TGs
  | [] => gNil
  | i :: is => gCons (gName i) (gNames is)
def gTg (K : PySem.W.Frag) : Tg → TG
  | .nm i => gName i
  | .tup is => gTup K is.length (gNames is)
theorem names_bind {m : Msk} : ∀ {is : List Nat} {vs : List V} {ds : List PyData} {σV : L2.St} {σ : En} {Q : L2.St → Hp → Prop}, Rel F σV σ W → DrAll F.K (W.rg m) W.H vs ds → is.length = ds.length →
    (∀ σV', BindR F σV σ W σV' (setVals m is ds σ) is → Q σV' W.H) → gNames is vs σV W.H Q
  | [], _, _, σV, σ, Q, R, .nil, _, k => ⟨rfl, k σV ⟨R, fun _ h => h, rfl, rfl, fun _ _ => rfl, fun _ _ => rfl⟩⟩
  | i :: is, _, _, σV, σ, Q, R, .cons (d := d) a b, hl, k => by
    have B := BindR.one R i a
    refine ⟨_, _, rfl, names_bind (is := is) B.rel b (by simpa using hl) fun σV' B' => k σV' ⟨B'.rel, fun p h => B.own p (B'.own p h), B'.len.trans B.len, B'.lenE.trans B.lenE, fun j hj => ?_, fun j hj => ?_⟩⟩
    · rw [List.mem_cons, not_or] at hj
      rw [B'.out j hj.2, B.out j (by simpa using hj.1)]
    · rw [List.mem_cons, not_or] at hj
      rw [show setVals m (i :: is) (d :: _) σ = setVals m is _ (σ.set i (.val d (Dv.nm d m))) from rfl, B'.outE j hj.2, B.outE j (by simpa using hj.1)]
theorem tg_bind {tg : Tg} {v : V} {d : PyData} {m : Msk} {σ' : En} {Q : L2.St → Hp → Prop} (R : Rel F σV σ W) (q : Rdb F W v d m) (hd : Dr F.K (W.rg m) W.H v d ∨ ∃ is, tg = .tup is) (h : bindT tg d m σ = some σ') (k : ∀ σV', BindR F σV σ W σV' σ' tg.slots → Q σV' W.H) : gTg F.K tg v σV W.H Q := by
  cases tg with
  | nm i =>
    have h : some (σ.set i (.val d (Dv.nm d m))) = some σ' := h
    cases h
    rcases hd with hd | ⟨is, z⟩
    · exact k _ (BindR.one R i hd)
    · cases z
  | tup is =>
    cases d with
    | tuple xs =>
      have h : (if is.length = xs.length then some (setVals m is xs σ) else none) = some σ' := h
      split at h
      · next hl =>
        cases h
        obtain ⟨p, vs, rfl, h1, h2⟩ := q.tup
        exact ⟨p, vs, rfl, h1, by rw [h2.length, hl], names_bind R h2 hl k⟩
      · cases h
    | _ => cases h
theorem bindT_wipe {tg : Tg} {d : PyData} {m : Msk} : bindT tg d m (wipeE tg.slots σ) = (bindT tg d m σ).map fun τ => τ := by
  have key : ∀ (is : List Nat) (ds : List PyData) (τ τ' : En), τ.length = τ'.length → (∀ j, j ∉ is → τ[j]? = τ'[j]?) → is.length = ds.length → setVals m is ds τ = setVals m is ds τ' := by
    intro is
    induction is with
    | nil => intro ds τ τ' hl h _; simp only [setVals]; exact List.ext_getElem? fun j => h j (by simp)
    | cons i is ih =>
      intro ds τ τ' hl h hd
      cases ds with
      | nil => simp at hd
      | cons d ds =>
        simp only [setVals]
        refine ih ds _ _ (by simp [hl]) (fun j hj => ?_) (by simpa using hd)
        by_cases hji : j = i
        · subst hji
          by_cases hlt : j < τ.length
          · rw [List.getElem?_set_self hlt, List.getElem?_set_self (by omega)]
          · rw [List.getElem?_eq_none (by simp; omega), List.getElem?_eq_none (by simp; omega)]
        · rw [List.getElem?_set_ne (Ne.symm hji), List.getElem?_set_ne (Ne.symm hji)]
          exact h j (by simp [hji, hj])
  rw [Option.map_id']
  cases tg with
  | nm i =>
    show some ((wipeE [i] σ).set i _) = some (σ.set i _)
    congr 1
    exact key [i] [d] (wipeE [i] σ) σ (wipeE_length _ _) (fun j hj => wipeE_out hj) rfl
  | tup is =>
    cases d with
    | tuple xs =>
      show (if is.length = xs.length then some (setVals m is xs (wipeE is σ)) else none) = (if is.length = xs.length then some (setVals m is xs σ) else none)
      split
      · next hl => rw [key is xs (wipeE is σ) σ (wipeE_length _ _) (fun j hj => wipeE_out hj) hl]
      · rfl
    | _ => rfl
end

/-! ### targets held against the syntax -/
theorem names_each (env : Env) : ∀ {es : List Expr} {xs : List Str}, tgNames es = some xs → (assignEach es env).length = xs.length ∧ (assignEach es env).findIdx? (·.1) = none ∧ es.length = xs.length
  | [], xs, h => by simp [tgNames] at h; subst h; exact ⟨rfl, rfl, rfl⟩
  | e :: es, xs, h => by
    cases e with
    | Name x p =>
      simp only [tgNames, Option.map_eq_some_iff] at h
      obtain ⟨ys, h1, rfl⟩ := h
      obtain ⟨a, b, c⟩ := names_each env h1
      have e1 : assignEach (.Name x p :: es) env = (false, assign (.Name x p) env) :: assignEach es env := rfl
      refine ⟨by rw [e1, List.length_cons, List.length_cons, a], by rw [e1, List.findIdx?_cons]; simp [b], by simp [c]⟩
    | _ => simp [tgNames] at h
theorem pgs_names {c : SC} {g : Gx} {X : Cx} (ok : Ok c g X) : ∀ {es : List Expr} {xs : List Str} {is : List Nat}, tgNames es = some xs → xs.length = is.length → ((is.zip xs).all fun p => chkLoc c p.1 p.2) = true → PGs X es (gNames is)
  | [], xs, is, h, hl, _ => by
    simp [tgNames] at h
    subst h
    cases is with
    | nil => exact pgs_nil
    | cons _ _ => simp at hl
  | e :: es, xs, is, h, hl, hc => by
    cases e with
    | Name x p =>
      simp only [tgNames, Option.map_eq_some_iff] at h
      obtain ⟨ys, h1, rfl⟩ := h
      cases is with
      | nil => simp at hl
      | cons i is =>
        rw [List.zip_cons_cons, List.all_cons] at hc
        obtain ⟨c1, c2⟩ := band hc
        obtain ⟨d1, d2⟩ := band c1
        obtain ⟨l1, l2⟩ := lookLoc ok d2
        exact pgs_cons (pg_name (by rw [ok.N]; exact ok.nd) (by rw [ok.N]; exact of_decide_eq_true d1) l1 l2) (pgs_names ok h1 (by simpa using hl) c2)
    | _ => simp [tgNames] at h
theorem pg_tg {c : SC} {g : Gx} {X : Cx} (ok : Ok c g X) {tg : Tg} {e : Expr} (h : chkTg c tg e = true) : PG X e (gTg X.K tg) := by
  cases tg with
  | nm i =>
    cases e with
    | Name x p =>
      obtain ⟨d1, d2⟩ := band (show (decide (c.N[i]? = some x) && locB c x) = true from h)
      obtain ⟨l1, l2⟩ := lookLoc ok d2
      exact pg_name (by rw [ok.N]; exact ok.nd) (by rw [ok.N]; exact of_decide_eq_true d1) l1 l2
    | _ => simp [chkTg] at h
  | tup is =>
    cases e with
    | Tuple es k p =>
      simp only [chkTg] at h
      split at h
      · next xs e1 =>
        obtain ⟨h1, h2⟩ := band h
        have hl : xs.length = is.length := of_decide_eq_true h1
        obtain ⟨a, b, _⟩ := names_each X.env e1
        exact pg_tup ok.calm (pgs_names ok e1 hl h2) (by rw [a, hl]) b
      · cases h
    | _ => simp [chkTg] at h
theorem own_slots {c : SC} {tg : Tg} {e : Expr} (h : chkTg c tg e = true) : (ownOf tg e).map (·.2) = tg.slots := by
  cases tg with
  | nm i =>
    cases e with
    | Name x p => rfl
    | _ => simp [chkTg] at h
  | tup is =>
    cases e with
    | Tuple es k p =>
      simp only [chkTg] at h
      split at h
      · next xs e1 =>
        obtain ⟨h1, _⟩ := band h
        have hl : xs.length = is.length := of_decide_eq_true h1
        have e2 : ownOf (.tup is) (.Tuple es k p) = xs.zip is := by simp only [ownOf, e1]
        rw [e2, List.map_snd_zip (by omega)]
        rfl
      · cases h
    | _ => simp [chkTg] at h
end Dv

/-! Dv, part P: what is walked -/
namespace Dv
open PySem PySem.Spec PySem.W PyProof.Rows L2

/-- an iterator at a world: the items are these -/
structure Walk1 (F : Fx) (σV : L2.St) (σ : En) (W : Wd) (J : It) (items : List PyData) (m : Msk) : Prop where
  go : ∀ (i : Nat) (d : PyData), items[i]? = some d → J.go i W.H
  yld : ∀ (i : Nat) (d : PyData) (x : V) (H' : Hp), items[i]? = some d → J.yld i W.H x H' → ∃ W', W'.H = H' ∧ Rel F σV σ W' ∧ Stp σV σ W σ W' ∧ Dr F.K (W'.rg m) W'.H x d
  stop : ∀ i, items.length ≤ i → J.stop i W.H
section
variable {F : Fx} {σV : L2.St} {σ : En} {W : Wd}
theorem walk_list (R : Rel F σV σ W) {a : Addr} {ds : List PyData} {m : Msk} (h : Rdb F W (.ref a) (.list ds) m) : Walk1 F σV σ W (Itl F.K a) ds m := by
  obtain ⟨p, vs, e, h1, h2⟩ := h.lst
  cases e
  refine ⟨fun i d hi => ?_, fun i d x H' hi hy => ?_, fun i hi => ⟨vs, h1, by rw [h2.length]; exact hi⟩⟩
  · obtain ⟨v, q1, _⟩ := h2.get hi
    exact ⟨vs, v, h1, q1⟩
  · obtain ⟨rfl, y⟩ := hy
    obtain ⟨v, q1, q2⟩ := h2.get hi
    rw [y vs h1] at q1
    cases q1
    exact ⟨W, rfl, R, Stp.refl _ _ _, q2⟩
theorem walk_tup (R : Rel F σV σ W) {a : Addr} {ds : List PyData} {m : Msk} (h : Rdb F W (.ref a) (.tuple ds) m) : Walk1 F σV σ W (Itt F.K a) ds m := by
  obtain ⟨p, vs, e, h1, h2⟩ := h.tup
  cases e
  refine ⟨fun i d hi => ?_, fun i d x H' hi hy => ?_, fun i hi => ⟨vs, h1, by rw [h2.length]; exact hi⟩⟩
  · obtain ⟨v, q1, _⟩ := h2.get hi
    exact ⟨vs, v, h1, q1⟩
  · obtain ⟨rfl, y⟩ := hy
    obtain ⟨v, q1, q2⟩ := h2.get hi
    rw [y vs h1] at q1
    cases q1
    exact ⟨W, rfl, R, Stp.refl _ _ _, q2⟩
theorem rngFrom_get : ∀ (n : Nat) (lo c : Int) (i : Nat) (d : PyData), (rngFrom lo c n)[i]? = some d → i < n ∧ d = .int (lo + (i : Nat) * c)
  | 0, _, _, i, d, h => by simp [rngFrom] at h
  | n + 1, lo, c, 0, d, h => by simp [rngFrom] at h; subst h; simp
  | n + 1, lo, c, i + 1, d, h => by
    obtain ⟨a, b⟩ := rngFrom_get n (lo + c) c i d (by simpa [rngFrom] using h)
    refine ⟨by omega, b.trans ?_⟩
    rw [show ((i + 1 : Nat) : Int) = (i : Int) + 1 from by omega, Int.add_mul, Int.one_mul]
    congr 1
    omega
theorem rngFrom_length : ∀ (n : Nat) (lo c : Int), (rngFrom lo c n).length = n
  | 0, _, _ => rfl
  | n + 1, lo, c => by simp [rngFrom, rngFrom_length n]
theorem walk_rng (R : Rel F σV σ W) (lo : Int) (n : Nat) : Walk1 F σV σ W (Itr lo n) (rngFrom lo 1 n) m0 := by
  refine ⟨fun i d hi => (rngFrom_get n lo 1 i d hi).1, fun i d x H' hi hy => ?_, fun i hi => by rw [rngFrom_length] at hi; exact hi⟩
  obtain ⟨_, e⟩ := rngFrom_get n lo 1 i d hi
  obtain ⟨rfl, rfl⟩ := hy
  subst e
  rw [Int.mul_one]
  exact ⟨W, rfl, R, Stp.refl _ _ _, .int _⟩
theorem walk_rngC (R : Rel F σV σ W) (lo c : Int) (n : Nat) : Walk1 F σV σ W (Itc lo c n) (rngFrom lo c n) m0 := by
  refine ⟨fun i d hi => (rngFrom_get n lo c i d hi).1, fun i d x H' hi hy => ?_, fun i hi => by rw [rngFrom_length] at hi; exact hi⟩
  obtain ⟨_, e⟩ := rngFrom_get n lo c i d hi
  obtain ⟨rfl, rfl⟩ := hy
  subst e
  exact ⟨W, rfl, R, Stp.refl _ _ _, .int _⟩
theorem enuS_length : ∀ (ds : List PyData) (k : Int), (enuS k ds).length = ds.length
  | [], _ => rfl
  | d :: ds, k => by simp [enuS, enuS_length ds]
theorem enuS_get : ∀ (ds : List PyData) (k : Int) (i : Nat) (d : PyData), (enuS k ds)[i]? = some d → ∃ x, ds[i]? = some x ∧ d = .tuple [.int (k + (i : Nat)), x]
  | [], _, i, d, h => by simp [enuS] at h
  | x :: ds, k, 0, d, h => by simp [enuS] at h; subst h; exact ⟨x, rfl, by simp⟩
  | x :: ds, k, i + 1, d, h => by
    obtain ⟨y, a, b⟩ := enuS_get ds (k + 1) i d (by simpa [enuS] using h)
    refine ⟨y, by simpa using a, b.trans ?_⟩
    rw [show k + 1 + (i : Nat) = k + ((i + 1 : Nat) : Int) from by omega]
theorem walk_enum (R : Rel F σV σ W) {a : Addr} {ds : List PyData} {m : Msk} (h : Rdb F W (.ref a) (.list ds) m) : Walk1 F σV σ W (Ite F.K a) (enuS 0 ds) m := by
  obtain ⟨p, vs, e, h1, h2⟩ := h.lst
  cases e
  refine ⟨fun i d hi => ?_, fun i d x H' hi hy => ?_, fun i hi => ⟨vs, h1, by rw [h2.length]; rw [enuS_length] at hi; exact hi⟩⟩
  · obtain ⟨x, q1, _⟩ := enuS_get ds 0 i d hi
    obtain ⟨v, q2, _⟩ := h2.get q1
    exact ⟨vs, v, h1, q2⟩
  · obtain ⟨y, q1, rfl⟩ := enuS_get ds 0 i d hi
    obtain ⟨v, q2, q3⟩ := h2.get q1
    obtain ⟨T, z, rfl, hT, rfl, hz⟩ := hy
    rw [hz vs h1] at q2
    cases q2
    have e0 : (0 : Int) + (i : Nat) = (i : Nat) := by omega
    rw [e0]
    obtain ⟨R', s, q⟩ := new_tup R hT (.cons (.int (i : Nat)) (.cons q3 .nil))
    exact ⟨W.upd T (.tup [.int (i : Nat), _]), rfl, R', s, q⟩
theorem zipS_get : ∀ (xs ys : List PyData) (i : Nat) (d : PyData), (zipS xs ys)[i]? = some d → ∃ x y, xs[i]? = some x ∧ ys[i]? = some y ∧ d = .tuple [x, y]
  | [], ys, i, d, h => by simp [zipS] at h
  | x :: xs, [], i, d, h => by simp [zipS] at h
  | x :: xs, y :: ys, 0, d, h => by simp [zipS] at h; subst h; exact ⟨x, y, rfl, rfl, rfl⟩
  | x :: xs, y :: ys, i + 1, d, h => by
    obtain ⟨u, v, a, b, c⟩ := zipS_get xs ys i d (by simpa [zipS] using h)
    exact ⟨u, v, by simpa using a, by simpa using b, c⟩
theorem zipS_length : ∀ (xs ys : List PyData), (zipS xs ys).length = min xs.length ys.length
  | [], ys => by simp [zipS]
  | x :: xs, [] => by simp [zipS]
  | x :: xs, y :: ys => by simp [zipS, zipS_length xs ys]
theorem walk_zip (R : Rel F σV σ W) {a b : Addr} {xs ys : List PyData} {m m' : Msk} (h : Rdb F W (.ref a) (.list xs) m) (h' : Rdb F W (.ref b) (.list ys) m') : Walk1 F σV σ W (Itz F.K a b) (zipS xs ys) (m.or m') := by
  obtain ⟨p, vs, e, h1, h2⟩ := h.lst
  cases e
  obtain ⟨p, ws, e, g1, g2⟩ := h'.lst
  cases e
  refine ⟨fun i d hi => ?_, fun i d x H' hi hy => ?_, fun i hi => ⟨vs, ws, h1, g1, by rw [h2.length, g2.length]; rw [zipS_length] at hi; omega⟩⟩
  · obtain ⟨x, y, q1, q2, _⟩ := zipS_get xs ys i d hi
    obtain ⟨v, q3, _⟩ := h2.get q1
    obtain ⟨w, q4, _⟩ := g2.get q2
    exact ⟨vs, ws, v, w, h1, g1, q3, q4⟩
  · obtain ⟨x, y, q1, q2, rfl⟩ := zipS_get xs ys i d hi
    obtain ⟨v, q3, q5⟩ := h2.get q1
    obtain ⟨w, q4, q6⟩ := g2.get q2
    obtain ⟨T, v', w', rfl, hT, rfl, z1, z2⟩ := hy
    rw [z1 vs h1] at q3
    rw [z2 ws g1] at q4
    cases q3
    cases q4
    obtain ⟨R', s, q⟩ := new_tup R hT (.cons (q5.leM (Msk.le_or_l m m')) (.cons (q6.leM (Msk.le_or_r m m')) .nil))
    exact ⟨W.upd T (.tup [_, _]), rfl, R', s, q⟩

/-- later, in a comprehension: behind the wiped slots vs, the slots of σl else as they were -/
structure LateC (F : Fx) (σV : L2.St) (σl : En) (W : Wd) (vs : List Nat) (σV' : L2.St) (σ' : En) (W' : Wd) : Prop where
  rel : Rel F σV' σ' W'
  step : Step (Ow (wipe σV vs) (wipeE vs σl)) W (Ow σV' σ') W'
  out : ∀ j, j ∉ vs → σV'[j]? = σV[j]?
  lk : ∀ (j : Nat) (o : OC) (m : Msk) (io : Bool), j ∉ vs → σl[j]? = some (.lck o m io) → σ'[j]? = some (.lck o m io)
/-- an operand that is walked can be read all through the comprehension -/
theorem late_rdb {lks : List Nat} (R : Rel F σV σ W) {v : V} {x : Opd} {d : PyData} {m : Msk} (a : OpdR F σV σ W v x) (e : x.get σ = some (d, m)) (hl : ∀ i ∈ x.locks σ, i ∈ lks)
    {vs : List Nat} (hv : ∀ i ∈ lks, i ∉ vs) {σV' : L2.St} {σ' : En} {W' : Wd} (L : LateC F σV (lockE lks σ) W vs σV' σ' W') : Rdb F W' v d m := by
  have R0 : Rel F (wipe σV vs) (wipeE vs (lockE lks σ)) W := (R.lock lks).wiped vs
  have kp := R0.keeps L.step m
  rcases opd_cases R a e with h | ⟨p, o, rfl, rfl, h, hc⟩
  · exact .inl (Dr.mono kp h)
  · have hid : ¬ Ow (wipe σV vs) (wipeE vs (lockE lks σ)) p → Rdb F W' (.ref p) o.data m := fun hn => .inr ⟨p, o, rfl, rfl, h.mono kp fun u q => L.step.keep p u q hn⟩
    rcases hc with ⟨j, rfl, hO⟩ | hn
    · by_cases hj : j ∈ vs
      · refine hid fun ⟨i, hi⟩ => ?_
        obtain ⟨h1, h2⟩ := ownAt_wipe hi
        have := R.dist i j p (ownAt_lock h1) hO
        subst this
        exact h2 hj
      · obtain ⟨⟨o2, m2, io2, hs⟩, hp⟩ := hO
        have e2 : peek σ j = some (o.data, m) := e
        rcases hs with hs | hs
        · have hin : j ∈ lks := hl j (by show j ∈ (if isOwn σ j = true then [j] else []); rw [if_pos (by unfold isOwn; rw [hs])]; exact List.mem_singleton_self j)
          have q := L.lk j o2 m2 io2 hj (by rw [lockE_get hs, if_pos hin]; rfl)
          obtain ⟨p', e3, _, ow, _⟩ := L.rel.slot j _ q
          rw [L.out j hj, hp] at e3
          cases e3
          unfold peek at e2
          rw [hs] at e2
          obtain ⟨ed, em⟩ := Prod.mk.inj (Option.some.inj e2)
          rw [← ed, ← em]
          exact .inr ⟨p, o2, rfl, rfl, ow⟩
        · have q := L.lk j o2 m2 io2 hj (by rw [lockE_get hs]; split <;> rfl)
          obtain ⟨p', e3, _, ow, _⟩ := L.rel.slot j _ q
          rw [L.out j hj, hp] at e3
          cases e3
          unfold peek at e2
          rw [hs] at e2
          obtain ⟨ed, em⟩ := Prod.mk.inj (Option.some.inj e2)
          rw [← ed, ← em]
          exact .inr ⟨p, o2, rfl, rfl, ow⟩
    · refine hid fun ⟨i, hi⟩ => hn ⟨i, ownAt_lock (ownAt_wipe hi).1⟩
end
end Dv

/-! Dv, part Q: iterators held against the syntax -/
namespace Dv
open PySem PySem.Spec PySem.W PyProof.Rows L2

/-- a list or a tuple, as it comes -/
def iSeq (K : PySem.W.Frag) (tl : TE) : TI := fun σ H R => tl σ H fun x H1 => ∃ a, x = .ref a ∧ (((∃ xs, SqL K H1 a xs) ∧ R (Itl K a) H1) ∨ ((∃ xs, SqT K H1 a xs) ∧ R (Itt K a) H1))
theorem pi_seq {X : Cx} {tg l : Expr} {tl : TE} (hl : PE X l tl) : PI X tg l (iSeq X.K tl) := by
  constructor
  intro pins s σ H R I h
  refine thn (hl.run pins s σ H _ I h) ?_
  rintro v s1 ⟨x, H1, I1, r1, a, rfl, q⟩
  cases r1
  have fresh : ∀ b ∈ [s1.heap.objs.size], FpOk X pins H1 b := by
    intro b hb
    rw [List.mem_singleton] at hb
    rw [hb]
    exact I1.fpOk (Nat.le_refl _) (I1.hok.fresh (Nat.le_refl _))
  rcases q with ⟨⟨xs, hq⟩, q⟩ | ⟨⟨xs, hq⟩, q⟩
  · obtain ⟨its, rv, p, hz⟩ := I1.list hq
    refine wpAny_pyIter_list p.isList ⟨_, _, _, _, H1, rfl, ?_, turn_list a _, ⟨_, Heap.get?_push_size _ rfl, rfl, rfl⟩, fresh, q⟩
    exact I1.kept (t' := s1.toks) (fun b o e => Heap.get?_push_of_some _ e)
  · obtain ⟨its, rv, p, hz⟩ := I1.tuple hq
    have p : s1.heap.IsTuple a its.toArray := p
    refine wpAny_pyIter_tuple p ⟨_, _, _, _, H1, rfl, ?_, turn_tuple a _, ⟨_, Heap.get?_push_size _ rfl, rfl, rfl⟩, fresh, q⟩
    exact I1.kept (t' := s1.toks) (fun b o e => Heap.get?_push_of_some _ e)

/-- an iterator's reading, in a comprehension -/
def SIc (F : Fx) (wi : TI) (f : En → Option (List PyData × Msk × List Nat × En)) : Prop :=
  ∀ {σV : L2.St} {σ : En} {W : Wd} {items : List PyData} {m : Msk} {lks : List Nat} {σ' : En} {R : It → Hp → Prop}, Rel F σV σ W → f σ = some (items, m, lks, σ') →
    (∀ J W', Rel F σV σ' W' → Stp σV σ W σ' W' → (∀ i ∈ lks, isOwn σ' i = true) →
      (∀ vs, (∀ i ∈ lks, i ∉ vs) → ∀ σV2 σ2 W2, LateC F σV (lockE lks σ') W' vs σV2 σ2 W2 → Walk1 F σV2 σ2 W2 J items m) → R J W'.H) → wi σV W.H R
/-- .. in a for -/
def SIf (F : Fx) (wi : TI) (f : En → Option (List PyData × Msk × En)) : Prop :=
  ∀ {σV : L2.St} {σ : En} {W : Wd} {items : List PyData} {m : Msk} {σ' : En} {R : It → Hp → Prop}, Rel F σV σ W → f σ = some (items, m, σ') →
    (∀ J W', Rel F σV σ' W' → Stp σV σ W σ' W' →
      (∀ σV2 σ2 W2, Rel F σV2 σ2 W2 → Step (Ow σV σ') W' (Ow σV2 σ2) W2 → Walk1 F σV2 σ2 W2 J items m) → R J W'.H) → wi σV W.H R

section
variable {F : Fx} {σV : L2.St} {σ σ' : En} {W W0 : Wd}
theorem locks_own {x : Opd} : ∀ i ∈ x.locks σ, isOwn σ i = true := by
  intro i hi
  cases x with
  | pk j =>
    have hi : i ∈ (if isOwn σ j = true then [j] else []) := hi
    split at hi
    · rw [List.mem_singleton] at hi; rw [hi]; assumption
    · cases hi
  | rs r => cases hi
/-- an operand is kept -/
theorem opd_keep {σ0 : En} (R : Rel F σV σ W) (s : Stp σV σ0 W0 σ W) {v : V} {x : Opd} {d : PyData} {m : Msk} (a : OpdR F σV σ W v x) (n : OpdNew W0 v x) (e : x.keep σ = some (d, m, σ')) :
    ∃ W', W'.H = W.H ∧ Rel F σV σ' W' ∧ Stp σV σ0 W0 σ' W' ∧ Dr F.K (W'.rg m) W'.H v d := by
  cases x with
  | pk i =>
    obtain ⟨u, W', e1, eH, R', s', q⟩ := R.grab (show grab σ i = some (d, m, σ') from e)
    have a : σV[i]? = some (some v) := a
    rw [a] at e1
    cases e1
    exact ⟨W', eH, R', s.trans s', q⟩
  | rs r =>
    have key : Rs.kept r = (d, m) ∧ σ = σ' := by
      cases r <;> (have e := Option.some.inj e; obtain ⟨e1, e2⟩ := Prod.mk.inj e; obtain ⟨e2, e3⟩ := Prod.mk.inj e2; exact ⟨by rw [← e1, ← e2]; rfl, e3⟩)
    obtain ⟨k1, rfl⟩ := key
    obtain ⟨W', eH, R', s', q⟩ := R.kept s a n
    rw [k1] at q
    exact ⟨W', eH, R', s', q⟩
theorem walk_seq (R : Rel F σV σ W) {a : Addr} {d : PyData} {xs : List PyData} {m : Msk} (h : Rdb F W (.ref a) d m) (e : seqItems d = some xs) :
    (∃ es, d = .list es ∧ xs = es ∧ Walk1 F σV σ W (Itl F.K a) xs m) ∨ (∃ es, d = .tuple es ∧ xs = es ∧ Walk1 F σV σ W (Itt F.K a) xs m) := by
  cases d <;> try (cases e; done)
  · cases e; exact .inl ⟨_, rfl, rfl, walk_list R h⟩
  · cases e; exact .inr ⟨_, rfl, rfl, walk_tup R h⟩

/-! ### lists and tuples -/
theorem sic_seq {t : TE} {e : IE} (h : SO F t (fun σ => mkOpd e (ev e σ) σ)) : SIc F (iSeq F.K t) (evI (.seq e)) := by
  intro σV σ W items m lks σ' R Rl he k
  unfold evI at he
  obtain ⟨⟨x, σ1⟩, e1, he⟩ := Option.bind_eq_some_iff.mp he
  obtain ⟨⟨d, m1⟩, e2, he⟩ := Option.bind_eq_some_iff.mp he
  obtain ⟨xs, e3, he⟩ := Option.map_eq_some_iff.mp he
  cases he
  refine h Rl e1 fun v W' R' s q _ => ?_
  have rd := q.get R' e2
  have fin : ∀ vs, (∀ i ∈ x.locks σ1, i ∉ vs) → ∀ σV2 σ2 W2, LateC F σV (lockE (x.locks σ1) σ1) W' vs σV2 σ2 W2 → Rdb F W2 v d m1 := fun vs hv σV2 σ2 W2 L => late_rdb R' q e2 (fun i hi => hi) hv L
  cases d <;> try (cases e3; done)
  · cases e3
    obtain ⟨p, ws, rfl, h1, h2⟩ := rd.lst
    exact ⟨p, rfl, .inl ⟨⟨ws, h1⟩, k _ W' R' s locks_own fun vs hv σV2 σ2 W2 L => walk_list L.rel (fin vs hv σV2 σ2 W2 L)⟩⟩
  · cases e3
    obtain ⟨p, ws, rfl, h1, h2⟩ := rd.tup
    exact ⟨p, rfl, .inr ⟨⟨ws, h1⟩, k _ W' R' s locks_own fun vs hv σV2 σ2 W2 L => walk_tup L.rel (fin vs hv σV2 σ2 W2 L)⟩⟩
theorem sif_seq {t : TE} {e : IE} (h : SO F t (fun σ => mkOpd e (ev e σ) σ)) : SIf F (iSeq F.K t) (evF (.seq e)) := by
  intro σV σ W items m σ' R Rl he k
  unfold evF at he
  obtain ⟨⟨x, σ1⟩, e1, he⟩ := Option.bind_eq_some_iff.mp he
  unfold Opd.keepI at he
  obtain ⟨⟨d, m1, σ2⟩, e2, he⟩ := Option.bind_eq_some_iff.mp he
  obtain ⟨xs, e3, he⟩ := Option.map_eq_some_iff.mp he
  cases he
  refine h Rl e1 fun v W' R' s q n => ?_
  obtain ⟨W2, eH, R2, s2, dr⟩ := opd_keep R' s q n e2
  rw [← eH]
  have fin : ∀ σV3 σ3 W3, Rel F σV3 σ3 W3 → Step (Ow σV σ2) W2 (Ow σV3 σ3) W3 → Rdb F W3 v d m1 := fun σV3 σ3 W3 R3 s3 => .inl (Dr.mono (R2.keeps s3 _) dr)
  have rd : Rdb F W2 v d m1 := .inl dr
  cases d <;> try (cases e3; done)
  · cases e3
    obtain ⟨p, ws, rfl, h1, h2⟩ := rd.lst
    exact ⟨p, rfl, .inl ⟨⟨ws, h1⟩, k _ W2 R2 s2 fun σV3 σ3 W3 R3 s3 => walk_list R3 (fin σV3 σ3 W3 R3 s3)⟩⟩
  · cases e3
    obtain ⟨p, ws, rfl, h1, h2⟩ := rd.tup
    exact ⟨p, rfl, .inr ⟨⟨ws, h1⟩, k _ W2 R2 s2 fun σV3 σ3 W3 R3 s3 => walk_tup R3 (fin σV3 σ3 W3 R3 s3)⟩⟩

/-! ### enumerate -/
theorem sic_enu {t : TE} {e : IE} (h : SO F t (fun σ => mkOpd e (ev e σ) σ)) : SIc F (iEnum F.K (tCons t tNil)) (evI (.enu e)) := by
  intro σV σ W items m lks σ' R Rl he k
  unfold evI at he
  obtain ⟨⟨x, σ1⟩, e1, he⟩ := Option.bind_eq_some_iff.mp he
  obtain ⟨⟨d, m1⟩, e2, he⟩ := Option.bind_eq_some_iff.mp he
  refine h Rl e1 fun v W' R' s q _ => ?_
  have rd := q.get R' e2
  cases d <;> try (cases he; done)
  cases he
  obtain ⟨p, ws, rfl, h1, h2⟩ := rd.lst
  exact ⟨p, ws, rfl, h1, k _ W' R' s locks_own fun vs hv σV2 σ2 W2 L => walk_enum L.rel (late_rdb R' q e2 (fun i hi => hi) hv L)⟩
theorem sif_enu {t : TE} {e : IE} (h : SO F t (fun σ => mkOpd e (ev e σ) σ)) : SIf F (iEnum F.K (tCons t tNil)) (evF (.enu e)) := by
  intro σV σ W items m σ' R Rl he k
  unfold evF at he
  obtain ⟨⟨x, σ1⟩, e1, he⟩ := Option.bind_eq_some_iff.mp he
  obtain ⟨⟨d, m1, σ2⟩, e2, he⟩ := Option.bind_eq_some_iff.mp he
  refine h Rl e1 fun v W' R' s q n => ?_
  obtain ⟨W2, eH, R2, s2, dr⟩ := opd_keep R' s q n e2
  show ∃ a xs, [v] = [V.ref a] ∧ SqL F.K W'.H a xs ∧ R (Ite F.K a) W'.H
  rw [← eH]
  cases d <;> try (cases he; done)
  cases he
  have rd : Rdb F W2 v (.list _) m1 := .inl dr
  obtain ⟨p, ws, rfl, h1, h2⟩ := rd.lst
  exact ⟨p, ws, rfl, h1, k _ W2 R2 s2 fun σV3 σ3 W3 R3 s3 => walk_enum R3 (.inl (Dr.mono (R2.keeps s3 _) dr))⟩

/-! ### zip -/
theorem sic_zip {ta tb : TE} {a b : IE} (ha : SO F ta (fun σ => mkOpd a (ev a σ) σ)) (hb : SO F tb (fun σ => mkOpd b (ev b σ) σ)) : SIc F (iZip F.K (tCons ta (tCons tb tNil))) (evI (.zip a b)) := by
  intro σV σ W items m lks σ' R Rl he k
  unfold evI at he
  obtain ⟨⟨x, σ1⟩, e1, he⟩ := Option.bind_eq_some_iff.mp he
  obtain ⟨⟨y, σ2⟩, e2, he⟩ := Option.bind_eq_some_iff.mp he
  obtain ⟨⟨d, m1⟩, e3, he⟩ := Option.bind_eq_some_iff.mp he
  obtain ⟨⟨d', m2⟩, e4, he⟩ := Option.bind_eq_some_iff.mp he
  refine ha Rl e1 fun v W1 R1 s1 q1 _ => hb R1 e2 fun u W2 R2 s2 q2 _ => ?_
  have q1' := OpdR.stp R1 s2 q1
  have r1 := q1'.get R2 e3
  have r2 := q2.get R2 e4
  cases d <;> try (cases he; done)
  cases d' <;> try (cases he; done)
  cases he
  obtain ⟨p, ws, rfl, h1, h2⟩ := r1.lst
  obtain ⟨p', ws', rfl, h1', h2'⟩ := r2.lst
  refine ⟨p, p', ws, ws', rfl, h1, h1', k _ W2 R2 (s1.trans s2) (fun i hi => ?_) fun vs hv σV3 σ3 W3 L => walk_zip L.rel (late_rdb R2 q1' e3 (fun i hi => List.mem_append_left _ hi) hv L) (late_rdb R2 q2 e4 (fun i hi => List.mem_append_right _ hi) hv L)⟩
  rcases List.mem_append.mp hi with hi | hi <;> exact locks_own i hi
theorem sif_zip {ta tb : TE} {a b : IE} (ha : SO F ta (fun σ => mkOpd a (ev a σ) σ)) (hb : SO F tb (fun σ => mkOpd b (ev b σ) σ)) : SIf F (iZip F.K (tCons ta (tCons tb tNil))) (evF (.zip a b)) := by
  intro σV σ W items m σ' R Rl he k
  unfold evF at he
  obtain ⟨⟨x, σ1⟩, e1, he⟩ := Option.bind_eq_some_iff.mp he
  obtain ⟨⟨d, m1, σ1'⟩, e3, he⟩ := Option.bind_eq_some_iff.mp he
  obtain ⟨⟨y, σ2⟩, e2, he⟩ := Option.bind_eq_some_iff.mp he
  obtain ⟨⟨d', m2, σ2'⟩, e4, he⟩ := Option.bind_eq_some_iff.mp he
  refine ha Rl e1 fun v W1 R1 s1 q1 n1 => ?_
  obtain ⟨W1', eH1, R1', s1', dr1⟩ := opd_keep R1 s1 q1 n1 e3
  rw [← eH1]
  refine hb R1' e2 fun u W2 R2 s2 q2 n2 => ?_
  obtain ⟨W2', eH2, R2', s2', dr2⟩ := opd_keep R2 s2 q2 n2 e4
  show ∃ a b xs ys, [v, u] = [V.ref a, V.ref b] ∧ SqL F.K W2.H a xs ∧ SqL F.K W2.H b ys ∧ R (Itz F.K a b) W2.H
  rw [← eH2]
  have dr1' := Dr.mono (R1'.keepsS s2' _) dr1
  cases d <;> try (cases he; done)
  cases d' <;> try (cases he; done)
  cases he
  have r1 : Rdb F W2' v (.list _) m1 := .inl dr1'
  have r2 : Rdb F W2' u (.list _) m2 := .inl dr2
  obtain ⟨p, ws, rfl, h1, h2⟩ := r1.lst
  obtain ⟨p', ws', rfl, h1', h2'⟩ := r2.lst
  exact ⟨p, p', ws, ws', rfl, h1, h1', k _ W2' R2' (s1'.trans s2') fun σV3 σ3 W3 R3 s3 => walk_zip R3 (.inl (Dr.mono (R2'.keeps s3 _) dr1')) (.inl (Dr.mono (R2'.keeps s3 _) dr2))⟩

/-! ### range -/
/-- the reading of a range by its arguments' number -/
def iRngN (n : Nat) (ta : TA) : TI := if n = 1 then iRng1 ta else if n = 2 then iRng2 ta else iRng3 ta
theorem okR_of {i : Int} (h : okR i = true) : -(2 ^ 62) ≤ i ∧ i < 2 ^ 62 := by
  unfold okR at h
  obtain ⟨a, b⟩ := band h
  exact ⟨of_decide_eq_true a, of_decide_eq_true b⟩
/-- a range's reading: its arguments read, then the walk -/
theorem iRngN_of {σ1 : En} {ds : List (PyData × Msk)} {xs : List PyData} {n : Nat} {ta : TA} {R : It → Hp → Prop}
    (hta : ∀ Q : List V → Hp → Prop, (∀ vs W', Rel F σV σ1 W' → Stp σV σ W σ1 W' → RdA F W' vs ds → Q vs W'.H) → ta σV W.H Q)
    (hn : ds.length = n) (e : rngS (ds.map (·.1)) = some xs) (k : ∀ W', Rel F σV σ1 W' → Stp σV σ W σ1 W' → ∀ J, (∀ σV σ W, Rel F σV σ W → Walk1 F σV σ W J xs m0) → R J W'.H) : iRngN n ta σV W.H R := by
  unfold iRngN
  match ds, hta, hn, e with
  | [], _, _, e => cases e
  | [(d, m)], hta, hn, e =>
    rw [if_pos (show n = 1 from hn.symm)]
    cases d <;> try (cases e; done)
    rename_i j
    have e : (if okR j = true then some (rngFrom 0 1 j.toNat) else none) = some xs := e
    split at e
    · next hj =>
      cases e
      refine hta _ fun vs W' R' s ha => ?_
      obtain ⟨v, rfl, r⟩ := ha.one
      exact ⟨j, by rw [r.int], (okR_of hj).1, (okR_of hj).2, k W' R' s _ fun σV σ W R => walk_rng R 0 _⟩
    · cases e
  | [(d, m), (d2, m2)], hta, hn, e =>
    have hn : n = 2 := hn.symm
    rw [if_neg (by omega), if_pos hn]
    cases d <;> try (cases e; done)
    rename_i i
    cases d2 <;> try (cases e; done)
    rename_i j
    have e : (if (okR i && okR j) = true then some (rngFrom i 1 (j - i).toNat) else none) = some xs := e
    split at e
    · next hj =>
      cases e
      obtain ⟨h1, h2⟩ := band hj
      refine hta _ fun vs W' R' s ha => ?_
      obtain ⟨v, u, rfl, r, r2⟩ := ha.two
      exact ⟨i, j, by rw [r.int, r2.int], ⟨(okR_of h1).1, (okR_of h1).2, (okR_of h2).1, (okR_of h2).2⟩, k W' R' s _ fun σV σ W R => walk_rng R i _⟩
    · cases e
  | [(d, m), (d2, m2), (d3, m3)], hta, hn, e =>
    have hn : n = 3 := hn.symm
    rw [if_neg (by omega), if_neg (by omega)]
    cases d <;> try (cases e; done)
    rename_i i
    cases d2 <;> try (cases e; done)
    rename_i j
    cases d3 <;> try (cases e; done)
    rename_i c
    have e : (if ((okR i && okR j) && decide (c = -1)) = true then some (rngFrom i (-1) (i - j).toNat) else none) = some xs := e
    split at e
    · next hj =>
      cases e
      obtain ⟨h1, h2⟩ := band hj
      obtain ⟨h0, h1⟩ := band h1
      have hc : c = -1 := of_decide_eq_true h2
      subst hc
      refine hta _ fun vs W' R' s ha => ?_
      cases ha with
      | cons r hb =>
        obtain ⟨u, w, rfl, r2, r3⟩ := hb.two
        exact ⟨i, j, -1, (i - j).toNat, by rw [r.int, r2.int, r3.int], RgC.neg (okR_of h0).1 (okR_of h0).2 (okR_of h1).1 (okR_of h1).2, k W' R' s _ fun σV σ W R => walk_rngC R i (-1) _⟩
    · cases e
  | (d, m) :: (d2, m2) :: (d3, m3) :: (d4, m4) :: r, _, _, e =>
    cases d <;> try (cases e; done)
    all_goals (cases d2 <;> try (cases e; done))
    all_goals (cases d3 <;> cases e)
theorem OpdsR.len2 {vs : List V} {xs : List Opd} {ds : List (PyData × Msk)} (e : getAll σ xs = some ds) : ds.length = xs.length := getAll_length e
theorem evO_len : ∀ {il : IL} {σ σ' : En} {xs : List Opd}, evO il σ = some (xs, σ') → xs.length = il.len := by
  intro il
  induction il using IL.rec (motive_1 := fun _ => True) (motive_3 := fun _ => True) (motive_4 := fun _ => True) with
  | nil => intro σ σ' xs h; unfold evO at h; cases h; rfl
  | cons e es _ ih =>
    intro σ σ' xs h
    unfold evO at h
    obtain ⟨⟨x, σ1⟩, e1, h⟩ := Option.bind_eq_some_iff.mp h
    obtain ⟨⟨ys, σ2⟩, e2, h⟩ := Option.map_eq_some_iff.mp h
    cases h
    rw [List.length_cons, ih e2]
    rfl
  | _ => trivial

theorem sic_rng {n : Nat} {ta : TA} {args : IL} (hn : args.len = n) (h : SOs F ta (evO args)) : SIc F (iRngN n ta) (evI (.rng args)) := by
  intro σV σ W items m lks σ' R Rl he k
  unfold evI at he
  obtain ⟨⟨ops, σ1⟩, e1, he⟩ := Option.bind_eq_some_iff.mp he
  obtain ⟨ds, e2, he⟩ := Option.bind_eq_some_iff.mp he
  obtain ⟨xs, e3, he⟩ := Option.map_eq_some_iff.mp he
  cases he
  have hl : ds.length = n := by rw [getAll_length e2, evO_len e1, hn]
  exact iRngN_of (fun Q hQ => h Rl e1 fun vs W' R' s q => hQ vs W' R' s (rdA_of R' q e2)) hl e3 fun W' R' s J hJ => k J W' R' s (fun i hi => by cases hi) fun vs _ σV2 σ2 W2 L => hJ σV2 σ2 W2 L.rel
theorem sif_rng {n : Nat} {ta : TA} {args : IL} (hn : args.len = n) (h : SOs F ta (evO args)) : SIf F (iRngN n ta) (evF (.rng args)) := by
  intro σV σ W items m σ' R Rl he k
  unfold evF at he
  obtain ⟨⟨ops, σ1⟩, e1, he⟩ := Option.bind_eq_some_iff.mp he
  obtain ⟨ds, e2, he⟩ := Option.bind_eq_some_iff.mp he
  obtain ⟨xs, e3, he⟩ := Option.map_eq_some_iff.mp he
  cases he
  have hl : ds.length = n := by rw [getAll_length e2, evO_len e1, hn]
  exact iRngN_of (fun Q hQ => h Rl e1 fun vs W' R' s q => hQ vs W' R' s (rdA_of R' q e2)) hl e3 fun W' R' s J hJ => k J W' R' s fun σV2 σ2 W2 R2 _ => hJ σV2 σ2 W2 R2
end
end Dv

/-! Dv, part R: comprehensions -/
namespace Dv
open PySem PySem.Spec PySem.W PyProof.Rows L2

theorem Step.less {O O' O2 : Addr → Prop} {W W' : Wd} (s : Step O W O' W') (h : ∀ p, O2 p → O' p) : Step O W O2 W' := ⟨s.keep, s.grow, fun a ha => s.own a (h a ha), s.subD, s.subC, s.live⟩
theorem Step.more {O O' O1 : Addr → Prop} {W W' : Wd} (s : Step O W O' W') (h : ∀ p, O p → O1 p) : Step O1 W O' W' :=
  ⟨fun a o e n => s.keep a o e fun z => n (h a z), fun a ha => (s.grow a ha).imp id fun z => z.imp id (h a), fun a ha => (s.own a ha).imp (h a) id, s.subD, s.subC, s.live⟩
theorem Step.poked {O O' : Addr → Prop} {W W' : Wd} (s : Step O W O' W') {D : Addr} {o : HO} (h : W.H D = none) : Step O W O' (W'.upd D o) := by
  refine ⟨fun a u e n => ?_, s.grow, s.own, s.subD, s.subC, fun a u e => ?_⟩
  · show L2.upd W'.H D o a = some u
    rw [upd_ne (ne_of_none e h)]
    exact s.keep a u e n
  · obtain ⟨u', q⟩ := s.live a u e
    refine ⟨u', ?_⟩
    show L2.upd W'.H D o a = some u'
    rw [upd_ne (ne_of_none e h)]
    exact q
theorem poke_keeps {W : Wd} {D : Addr} {vs ws : List V} (hS : ¬ W.S D) (hD : W.H D = some (.lst vs)) (m : Msk) : Keeps (W.rg m) W.H ((W.upd D (.lst ws)).rg m) (W.upd D (.lst ws)).H := by
  have at_ : ∀ a, a ≠ D → (W.upd D (.lst ws)).H a = W.H a := fun a ha => upd_ne ha
  exact ⟨fun a h => h, fun h => h, fun a o h e => by rw [at_ a (fun z => hS (z ▸ Wd.rg_sub h))]; exact e,
    fun a xs e => by rw [at_ a (fun z => by rw [z, hD] at e; cases e)]; exact e, fun a o u e => by rw [at_ a (fun z => by rw [z, hD] at e; cases e)]; exact e⟩
theorem ownAt_back {σV : L2.St} {σ σ3 : En} {vs : List Nat} {j : Nat} {p : Addr} (hl : σ3.length = σ.length) (h : OwnAt σV (backE σ vs σ3) j p) : (j ∈ vs ∧ OwnAt σV σ j p) ∨ (j ∉ vs ∧ OwnAt (wipe σV vs) (wipeE vs σ3) j p) := by
  obtain ⟨⟨o, m, io, h1⟩, h2⟩ := h
  by_cases hj : j ∈ vs
  · have hlt : j < (backE σ vs σ3).length := by rcases h1 with h1 | h1 <;> exact (List.getElem?_eq_some_iff.mp h1).1
    rw [backE_length, hl] at hlt
    rw [backE_in hj hlt hl.symm] at h1
    exact .inl ⟨hj, ⟨o, m, io, h1⟩, h2⟩
  · rw [backE_out hj] at h1
    exact .inr ⟨hj, ⟨o, m, io, by rw [wipeE_out hj]; exact h1⟩, by rw [wipeV_out hj]; exact h2⟩

section
variable {F : Fx}
/-- the state of a comprehension at a turn: σ0 the wiped slots at its start, D the new list -/
structure Lcs (F : Fx) (σV : L2.St) (σ0 : En) (W1 : Wd) (vs : List Nat) (D : Addr) (m : Msk) (Wi : Wd) (τ : En) (acc : List V) (as : List PyData) : Prop where
  rel : Rel F (wipe σV vs) (wipeE vs τ) Wi
  step : Step (Ow (wipe σV vs) (wipeE vs σ0)) W1 (Ow (wipe σV vs) (wipeE vs τ)) Wi
  lk : ∀ (j : Nat) (o : OC) (m : Msk) (io : Bool), j ∉ vs → σ0[j]? = some (.lck o m io) → τ[j]? = some (.lck o m io)
  at_ : Wi.H D = some (.lst acc)
  nS : ¬ Wi.S D
  nO : ¬ Ow (wipe σV vs) (wipeE vs τ) D
  dr : DrAll F.K (Wi.rg m) Wi.H acc as
theorem wk_stop {σV : L2.St} {W1 : Wd} {lks : List Nat} {J : It} {items : List PyData} {mi : Msk} {σl : En} {vs : List Nat} {D : Addr} {m : Msk} {Wi : Wd} {τi : En} {acc : List V} {as : List PyData}
    (walk : ∀ vs, (∀ i ∈ lks, i ∉ vs) → ∀ σV2 σ2 W2, LateC F σV σl W1 vs σV2 σ2 W2 → Walk1 F σV2 σ2 W2 J items mi) (hdis : ∀ i ∈ lks, i ∉ vs) (S : Lcs F σV σl W1 vs D m Wi τi acc as) : J.stop items.length Wi.H :=
  (walk vs hdis (wipe σV vs) (wipeE vs τi) Wi ⟨S.rel, S.step, fun j hj => wipeV_out hj, fun j o m io hj hs => by rw [wipeE_out hj]; exact S.lk j o m io hj hs⟩).stop _ (Nat.le_refl _)
theorem se_lc {wi : TI} {tt : TT} {te : TE} {elt : IE} {tg : Tg} {it : II} {cnd : IO} {m : Msk} (hi : SIc F wi (evI it)) (ht : ST F tt (fun σ => evC cnd σ)) (he : SE F te (fun σ => ev elt σ)) : SE F (tLc wi (gTg F.K tg) tt te tg.slots) (ev (.lc elt tg it cnd m)) := by
  intro σV σ W r σ' Q R h k
  unfold ev at h
  obtain ⟨⟨items, mi, lks, σ1⟩, e1, h⟩ := Option.bind_eq_some_iff.mp h
  dsimp only at h
  split at h
  · cases h
  next hany =>
  obtain ⟨⟨ds, τ⟩, e2, h⟩ := Option.bind_eq_some_iff.mp h
  dsimp only at h
  split at h
  rotate_left
  · cases h
  next hlim =>
  cases h
  refine hi R e1 fun J W1 R1 s1 hown walk => ?_
  intro D hD
  generalize hvs : tg.slots = vs at *
  generalize hσl : lockE lks σ1 = σl at *
  have hdis : ∀ i ∈ lks, i ∉ vs := fun i hi hv => hany (List.any_eq_true.mpr ⟨i, hi, by simpa using hv⟩)
  have Rl : Rel F σV σl W1 := by rw [← hσl]; exact R1.lock lks
  have R0 : Rel F (wipe σV vs) (wipeE vs σl) W1 := Rl.wiped vs
  have H0D : F.H0 D = none := (R1.fresh hD).1
  have ww : ∀ τ : En, wipeE vs (wipeE vs τ) = wipeE vs τ := fun τ => wipeE_same (wipeE_length _ _) fun j hj => wipeE_out hj
  generalize hgo : lcGo (fun x s => bindT tg x mi s) (fun s => evC cnd s) (fun s => ev elt s) m = go at *
  refine ⟨fun i n H => n = items.length - i ∧ i ≤ items.length ∧ ∃ (Wi : Wd) (τi : En) (acc : List V) (as rest : List PyData), Wi.H = H ∧ Lcs F σV σl W1 vs D m Wi τi acc as ∧ as ++ rest = ds ∧ go (items.drop i) τi = some (rest, τ), ⟨items.length, ?_⟩, ?_⟩
  · obtain ⟨Rn, sn⟩ := R0.new (o := .lst []) hD
    obtain ⟨f1, f2, f3⟩ := R0.fresh hD
    refine ⟨by simp, Nat.zero_le _, W1.upd D (.lst []), wipeE vs σl, [], [], ds, rfl, ⟨by rw [ww]; exact Rn, by rw [ww]; exact sn.step, fun j o m io hj hs => by rw [wipeE_out hj]; exact hs, upd_same, f2, by rw [ww]; exact f3, .nil⟩, rfl, by simpa using e2⟩
  · rintro i n H ⟨rfl, hin, Wi, τi, acc, as, rest, rfl, S, happ, hgo'⟩
    by_cases hlt : i < items.length
    · right
      have hd : items[i]? = some items[i] := List.getElem?_eq_getElem hlt
      have hdrop : items.drop i = items[i] :: items.drop (i + 1) := List.drop_eq_getElem_cons hlt
      generalize items[i] = d at hd hdrop
      rw [hdrop, ← hgo] at hgo'
      unfold lcGo at hgo'
      rw [hgo] at hgo'
      obtain ⟨τ1, b1, hgo'⟩ := Option.bind_eq_some_iff.mp hgo'
      obtain ⟨⟨b, τ2⟩, b2, hgo'⟩ := Option.bind_eq_some_iff.mp hgo'
      have wk := walk vs hdis (wipe σV vs) (wipeE vs τi) Wi ⟨S.rel, S.step, fun j hj => wipeV_out hj, fun j o m io hj hs => by rw [wipeE_out hj]; exact S.lk j o m io hj hs⟩
      refine ⟨wk.go i d hd, fun H' => ∃ (Wi : Wd) (τi : En) (acc : List V) (as rest : List PyData), Wi.H = H' ∧ Lcs F σV σl W1 vs D m Wi τi acc as ∧ as ++ rest = ds ∧ go (items.drop (i + 1)) τi = some (rest, τ),
        fun H' nx => ⟨items.length - (i + 1), by omega, rfl, hlt, nx⟩, fun x H' hy => ?_⟩
      obtain ⟨W2, rfl, R2, s2, dr⟩ := wk.yld i d x H' hd hy
      have b1' : bindT tg d mi (wipeE vs τi) = some τ1 := by
        rw [← hvs, bindT_wipe, b1]
        rfl
      refine tg_bind R2 (.inl dr) (.inl dr) b1' fun σV2 B => ?_
      rw [hvs] at B
      have hw : wipe σV2 vs = wipe σV vs := by
        have e : wipe (wipe σV vs) vs = wipe σV vs := wipe_same (wipe_length _ _) fun j hj => wipeV_out hj
        rw [← e]
        exact wipe_same B.len fun j hj => B.out j hj
      refine ⟨hw, ht B.rel b2 fun W3 R3 s3 => ?_⟩
      -- from the turn's start to W3
      have st3 : Step (Ow (wipe σV vs) (wipeE vs τi)) Wi (Ow σV2 τ2) W3 := (s2.step.less B.own).trans s3.step
      have lk3 : ∀ (j : Nat) (o : OC) (m : Msk) (io : Bool), j ∉ vs → σl[j]? = some (.lck o m io) → τ2[j]? = some (.lck o m io) := fun j o m io hj hs =>
        s3.lk j o m io (by rw [B.outE j hj, wipeE_out hj]; exact S.lk j o m io hj hs)
      -- the list D in a world reached by a step
      have keepD : ∀ {O2 : Addr → Prop} {Wx : Wd}, Step (Ow (wipe σV vs) (wipeE vs τi)) Wi O2 Wx → Wx.H D = some (.lst acc) ∧ ¬ Wx.S D ∧ ¬ O2 D := fun {O2 Wx} s => by
        refine ⟨s.keep D _ S.at_ S.nO, fun z => ?_, fun z => ?_⟩
        · rcases s.grow D z with z | z | z
          · exact S.nS z
          · rw [S.at_] at z; cases z
          · exact S.nO z
        · rcases s.own D z with z | z
          · exact S.nO z
          · rw [S.at_] at z; cases z
      cases b with
      | false =>
        rw [if_neg (by simp)] at hgo'
        rw [if_neg (by simp)]
        obtain ⟨q1, q2, q3⟩ := keepD st3
        refine ⟨W3, τ2, acc, as, rest, rfl, ⟨by rw [← hw]; exact R3.wiped vs, ?_, lk3, q1, q2, ?_, DrAll.mono (S.rel.keeps st3 m) S.dr⟩, happ, hgo'⟩
        · have z := (S.step.trans st3).less (O2 := Ow (wipe σV2 vs) (wipeE vs τ2)) fun p ⟨j, hp⟩ => ⟨j, (ownAt_wipe hp).1⟩
          rw [hw] at z
          exact z
        · rintro ⟨j, hp⟩
          rw [← hw] at hp
          exact q3 ⟨j, (ownAt_wipe hp).1⟩
      | true =>
        rw [if_pos rfl] at hgo'
        rw [if_pos rfl]
        obtain ⟨⟨r, τ3⟩, b3, hgo'⟩ := Option.bind_eq_some_iff.mp hgo'
        dsimp only at hgo'
        split at hgo'
        rotate_left
        · cases hgo'
        next hle =>
        obtain ⟨⟨rest', τe⟩, b4, hgo'⟩ := Option.map_eq_some_iff.mp hgo'
        cases hgo'
        refine he R3 b3 fun y W4 R4 s4 q4 n4 => ?_
        obtain ⟨W4', eH, R4', s4', dr4⟩ := R4.kept s4 q4 n4
        have st4 : Step (Ow (wipe σV vs) (wipeE vs τi)) Wi (Ow σV2 τ3) W4' := st3.trans s4'.step
        obtain ⟨q1, q2, q3⟩ := keepD st4
        have hlen : acc.length < LIM := by
          have : (as ++ r.kept.1 :: rest').length ≤ LIM := by rw [happ]; exact hlim
          rw [S.dr.length]
          simp at this
          omega
        refine ⟨acc, by rw [← eH]; exact q1, by rw [lim_eq]; exact hlen, ?_⟩
        have P := R4'.poke (ws := acc ++ [y]) q2 q3 q1 H0D
        have kp := poke_keeps (ws := acc ++ [y]) q2 q1 m
        refine ⟨W4'.upd D (.lst (acc ++ [y])), τ3, acc ++ [y], as ++ [r.kept.1], rest', by rw [← eH]; rfl, ⟨by rw [← hw]; exact P.wiped vs, ?_, fun j o m io hj hs => s4'.lk j o m io (lk3 j o m io hj hs), upd_same, q2, ?_, ?_⟩, by rw [List.append_assoc]; exact happ, b4⟩
        · have z := ((S.step.trans st4).poked (D := D) (o := .lst (acc ++ [y])) hD).less (O2 := Ow (wipe σV2 vs) (wipeE vs τ3)) fun p ⟨j, hp⟩ => ⟨j, (ownAt_wipe hp).1⟩
          rw [hw] at z
          exact z
        · rintro ⟨j, hp⟩
          rw [← hw] at hp
          exact q3 ⟨j, (ownAt_wipe hp).1⟩
        · exact (DrAll.mono kp (DrAll.mono (S.rel.keeps st4 m) S.dr)).append (.cons (Dr.mono kp (dr4.leM hle)) .nil)
    · left
      have e : i = items.length := by omega
      subst e
      rw [List.drop_length, ← hgo] at hgo'
      unfold lcGo at hgo'
      cases hgo'
      rw [List.append_nil] at happ
      subst happ
      refine ⟨wk_stop walk hdis S, ?_⟩
      have lenτ : τ.length = σl.length := by
        have h1 := S.rel.len
        have h2 := Rl.len
        rw [wipe_length, wipeE_length] at h1
        omega
      obtain ⟨Rb, sb⟩ := Rl.back S.rel S.step
      have nOb : ¬ Ow σV (unlockE lks (backE σl vs τ)) D := by
        rintro ⟨j, hp⟩
        rcases ownAt_back lenτ (ownAt_unlock hp) with ⟨_, z⟩ | ⟨_, z⟩
        · obtain ⟨u, q, _⟩ := Rl.own_at ⟨j, z⟩
          rw [hD] at q; cases q
        · exact S.nO ⟨j, z⟩
      have sfin : Stp σV σ1 W1 (unlockE lks (backE σl vs τ)) Wi := by
        refine ⟨(sb.less fun p ⟨j, hp⟩ => ⟨j, ownAt_unlock hp⟩).more fun p ⟨j, hp⟩ => ⟨j, by rw [← hσl] at hp; exact ownAt_lock hp⟩, fun j o m io hs => ?_⟩
        have hnl : j ∉ lks := fun hj => by
          have := hown j hj
          unfold isOwn at this
          rw [hs] at this
          cases this
        have e3 : σl[j]? = some (.lck o m io) := by rw [← hσl, lockE_get hs, if_neg hnl]
        have e4 : (backE σl vs τ)[j]? = some (.lck o m io) := by
          by_cases hj : j ∈ vs
          · rw [backE_in hj (List.getElem?_eq_some_iff.mp e3).1 lenτ.symm]; exact e3
          · rw [backE_out hj]; exact S.lk j o m io hj e3
        rw [unlockE_get e4, if_neg hnl]
      exact k (.ref D) Wi (Rb.unlock lks) (s1.trans sfin) ⟨D, rfl, S.nS, nOb, H0D, acc, S.at_, S.dr⟩ (RsNew.stp s1 ⟨D, rfl, hD⟩)
end
end Dv

/-! Dv, part S: every expression that is held against the syntax -/
namespace Dv
open PySem PySem.Spec PySem.W PyProof.Rows L2

section
variable {c : SC} {g : Gx}
/-! ### comprehensions -/
structure IOK (c : SC) (g : Gx) (it : II) (te ie : Expr) : Prop where
  ex : ∃ wi, (∀ X, Ok c g X → PI X te ie wi) ∧ (∀ F : Fx, F.K = g.K → SIc F wi (evI it)) ∧ (∀ F : Fx, F.K = g.K → SIf F wi (evF it))
structure COK (c : SC) (g : Gx) (cnd : IO) (ifs : List Expr) : Prop where
  ex : ∃ tt, (∀ X, Ok c g X → PTs X ifs tt) ∧ (∀ F : Fx, F.K = g.K → ST F tt (fun σ => evC cnd σ))
theorem cok_no : COK c g .no [] := ⟨tYes, fun _ _ => pts_nil, fun F _ => by
  intro σV σ W b σ' Q R e k
  unfold evC at e
  cases e
  exact k W R (Stp.refl _ _ _)⟩
theorem cok_yes {a : IE} {e : Expr} (ht : tstOk a = true) (h : EOK c g a e) : COK c g (.yes a) [e] := by
  obtain ⟨tt, h1, _, h3, _⟩ := h.pt ht
  refine ⟨tt, fun X ok => pts_one (h1 X ok), fun F hF => ?_⟩
  intro σV σ W b σ' Q R e k
  exact h3 F hF R (by unfold evC at e; exact e) k
theorem iok_seq {a : IE} {te e : Expr} (h : EOK c g a e) : IOK c g (.seq a) te e := by
  obtain ⟨t, h1, h2, h3, _⟩ := h.so
  exact ⟨iSeq g.K t, fun X ok => by have := pi_seq (tg := te) (h1 X ok); rw [ok.K] at this; exact this, fun F hF => by rw [← hF]; exact sic_seq (h3 F hF), fun F hF => by rw [← hF]; exact sif_seq (h3 F hF)⟩
theorem iok_rng {args : IL} {te : Expr} {x : Str} {es : List Expr} {p pos : Pos} (hx : chkGl c ("range" : Str) x = true) (u : GoodB g "range") (hc : chkL c args es = true) (hn : es.length = 1 ∨ es.length = 2 ∨ es.length = 3) (h : LOK c g args es) : IOK c g (.rng args) te (.Call (.Name x p) es [] pos) := by
  obtain ⟨t, a1, a2, _, _⟩ := h.ex
  have ex : ("range" : Str) = x := of_decide_eq_true (band hx).1
  subst ex
  obtain ⟨h2, h3⟩ := band (band hx).2
  obtain ⟨ho, hl⟩ := chkL_all hc
  refine ⟨iRngN es.length t, fun X ok => ?_, fun F hF => sic_rng hl.symm (a2 F hF), fun F hF => sif_rng hl.symm (a2 F hF)⟩
  have hm : X.mg ("range" : Str) = none := by rw [ok.mg]; exact u
  have hg := lookGl ok h2
  match es, hn, ho, a1 X ok with
  | [a], _, ho, pa => exact pi_range1 hg hm pa (oh_star (by simpa using ho) [] X.env)
  | [a, b], _, ho, pa =>
    simp only [List.all_cons, List.all_nil, Bool.and_true, Bool.and_eq_true] at ho
    exact pi_range2 hg hm pa (by rw [oh_star ho.1, oh_star ho.2]; rfl) (by rw [oh_star ho.2]; rfl)
  | [a, b, d], _, ho, pa =>
    simp only [List.all_cons, List.all_nil, Bool.and_true, Bool.and_eq_true] at ho
    exact pi_range3 hg hm pa (oh_star ho.1 _ _) (any_star X.env pos [b, d] (by simp [ho]))
  | [], hn, _, _ => simp at hn
  | _ :: _ :: _ :: _ :: _, hn, _, _ => simp at hn
theorem iok_enu {a : IE} {e : Expr} {x : Str} {elts : List Expr} {kk : Nat} {p pos tpos : Pos} (hx : chkGl c ("enumerate" : Str) x = true) (u : GoodB g "enumerate") (ho : okHead e = true) (h : EOK c g a e) : IOK c g (.enu a) (.Tuple elts kk tpos) (.Call (.Name x p) [e] [] pos) := by
  obtain ⟨t, h1, h2, h3, _⟩ := h.so
  have ex : ("enumerate" : Str) = x := of_decide_eq_true (band hx).1
  subst ex
  obtain ⟨h4, h5⟩ := band (band hx).2
  refine ⟨iEnum g.K (tCons t tNil), fun X ok => ?_, fun F hF => by rw [← hF]; exact sic_enu (h3 F hF), fun F hF => by rw [← hF]; exact sif_enu (h3 F hF)⟩
  have := pi_enum (X := X) (e := e) (ta := tCons t tNil) (p := p) (pos := pos) (tpos := tpos) (elts := elts) (kk := kk) (lookGl ok h4) (by rw [ok.mg]; exact u) (pa_cons (h1 X ok) pa_nil (oh_star ho _ _)) (oh_star ho _ _)
  rw [ok.K] at this
  exact this
theorem iok_zip {a b : IE} {e e2 : Expr} {x : Str} {elts : List Expr} {kk : Nat} {p pos tpos : Pos} (hx : chkGl c ("zip" : Str) x = true) (u : GoodB g "zip") (ho : okHead e = true) (ho2 : okHead e2 = true) (h : EOK c g a e) (h' : EOK c g b e2) : IOK c g (.zip a b) (.Tuple elts kk tpos) (.Call (.Name x p) [e, e2] [] pos) := by
  obtain ⟨t, h1, h2, h3, _⟩ := h.so
  obtain ⟨t', h1', h2', h3', _⟩ := h'.so
  have ex : ("zip" : Str) = x := of_decide_eq_true (band hx).1
  subst ex
  obtain ⟨h4, h5⟩ := band (band hx).2
  refine ⟨iZip g.K (tCons t (tCons t' tNil)), fun X ok => ?_, fun F hF => by rw [← hF]; exact sic_zip (h3 F hF) (h3' F hF), fun F hF => by rw [← hF]; exact sif_zip (h3 F hF) (h3' F hF)⟩
  have := pi_zip (X := X) (e := e) (e2 := e2) (ta := tCons t (tCons t' tNil)) (p := p) (pos := pos) (tpos := tpos) (elts := elts) (kk := kk) (lookGl ok h4) (by rw [ok.mg]; exact u) (pa_cons (h1 X ok) (pa_cons (h1' X ok) pa_nil (oh_star ho2 _ _)) (oh_star ho _ _)) (oh_star ho _ _) (any_star X.env pos [e2] (by simp [ho2]))
  rw [ok.K] at this
  exact this
/-- the block's context -/
theorem ok_blk {X : Cx} (ok : Ok c g X) (s : Shared) (H : Hp) (scope : Scope) (C : Addr) (cl : List (Str × Addr)) (fp : List Addr) : Ok (blkSC c scope) g (X.blk s H scope (compEnvC scope cl C X.env) fp) where
  N := ok.N
  nd := ok.nd
  sc := by rw [show (blkSC c scope).sc = relS scope c.sc from rfl, ← ok.sc]; rfl
  fn := rfl
  calm := ok.calm
  prog := ok.prog
  w := ok.w
  K := ok.K
  mg := ok.mg
  base := ok.base
  A := ok.A
theorem eok_lc {elt : IE} {tg : Tg} {it : II} {cnd : IO} {m : Msk} {e te ie : Expr} {ifs : List Expr} {scope : Scope} {p : Pos} (ho : okHead ie = true) (hb : blkC c.N c.sc scope (ownOf tg te) = true) (ht : chkTg (blkSC c scope) tg te = true)
    (hi : IOK c g it te ie) (hc : COK (blkSC c scope) g cnd ifs) (he : EOK (blkSC c scope) g elt e) : EOK c g (.lc elt tg it cnd m) (.ListComp e [⟨te, ie, ifs, 0⟩] scope p) := by
  obtain ⟨wi, i1, i2, _⟩ := hi.ex
  obtain ⟨tt, c1, c2⟩ := hc.ex
  obtain ⟨t, e1, e2, _, _⟩ := he.so
  refine eok_plain rfl ⟨tLc wi (gTg g.K tg) tt t tg.slots, fun X ok => ?_, fun F hF => ?_, fun i z => by cases z⟩
  · have := pe_lc (X := X) (pos := p) (own := ownOf tg te) (scope := scope) (elt := e) (tg := te) (iter := ie) (ifs := ifs) (wi := wi) (g := gTg X.K tg) (tt := tt) (te := t) ok.calm (by rw [ok.N]; exact ok.nd) (i1 X ok) (blkOk_by (by rw [ok.N, ok.sc]; exact hb))
      (fun s H C cl fp => pg_tg (ok_blk ok s H scope C cl fp) ht) (fun s H C cl fp => c1 _ (ok_blk ok s H scope C cl fp)) (fun s H C cl fp => e1 _ (ok_blk ok s H scope C cl fp)) (oh_fold ho X.env)
    rw [own_slots ht, ok.K] at this
    exact this
  · rw [← hF]
    intro σV σ W r σ' Q R h k
    exact se_lc (i2 F hF) (c2 F hF) (e2 F hF) R h k

/-! ### calls with keywords -/
theorem vals_map {α : Type} {f : α → V} {f' : α → Value} (h : ∀ a, RelV (f a) (f' a)) : ∀ l : List α, Vals (l.map f) (l.map f')
  | [] => .nil
  | a :: l => .cons (h a) (vals_map h l)
theorem vals_getD {vs : List V} {us : List Value} (h : Vals vs us) : ∀ i : Nat, RelV (vs.getD i .non) (us.getD i .none) := by
  induction h with
  | nil => intro i; exact rfl
  | cons a b ih =>
    intro i
    cases i with
    | zero => exact a
    | succ i => exact ih i
theorem drAll_map {α : Type} {K : PySem.W.Frag} {R : Reg} {H : Hp} {f : α → V} {f' : α → PyData} (h : ∀ a, Dr K R H (f a) (f' a)) : ∀ l : List α, DrAll K R H (l.map f) (l.map f')
  | [] => .nil
  | a :: l => .cons (h a) (drAll_map h l)
theorem drAll_getD {K : PySem.W.Frag} {R : Reg} {H : Hp} : ∀ {vs : List V} {ds : List PyData}, DrAll K R H vs ds → ∀ i : Nat, Dr K R H (vs.getD i .non) (ds.getD i .none)
  | _, _, .nil, _ => .non
  | _, _, .cons a _, 0 => a
  | _, _, .cons _ b, i + 1 => drAll_getD b i
theorem vals_full {n : Nat} {vs zs : List V} {us ws : List Value} {kws : List Nat} (h : Vals vs us) (h' : Vals zs ws) : Vals (fullL .non n vs kws zs) (fullL .none n us kws ws) := by
  unfold fullL
  refine vals_map (fun i => ?_) _
  rw [h.length]
  split
  · exact vals_getD h i
  · exact vals_getD h' _
theorem drAll_full {K : PySem.W.Frag} {R : Reg} {H : Hp} {n : Nat} {vs zs : List V} {ds es : List PyData} {kws : List Nat} (h : DrAll K R H vs ds) (h' : DrAll K R H zs es) : DrAll K R H (fullL .non n vs kws zs) (fullL .none n ds kws es) := by
  unfold fullL
  refine drAll_map (fun i => ?_) _
  rw [h.length]
  split
  · exact drAll_getD h i
  · exact drAll_getD h' _
/-- keywords held against the syntax -/
structure KOK (c : SC) (g : Gx) (ps : List Str) (kws : List Nat) (il : IL) (ks : List Keyword) : Prop where
  ex : ∃ tk, (∀ X, Ok c g X → PK X ks tk) ∧ (∀ F : Fx, F.K = g.K → SL F tk (evL il))
  names : ∀ (pos : Pos) (env : Env), (backToKw pos (keywordEach ks env)).filterMap (·.1) = kws.map fun i => ps.getD i ""
  all : ∀ (pos : Pos) (env : Env), (backToKw pos (keywordEach ks env)).all (·.1.isSome) = true
  any : ∀ (pos : Pos) (env : Env), (backToKw pos (keywordEach ks env)).any (·.1.isNone) = false
theorem kok_nil {ps : List Str} : KOK c g ps [] .nil [] := ⟨⟨tNil, fun _ _ => pk_nil, fun _ _ => sl_nil⟩, fun _ _ => rfl, fun _ _ => rfl, fun _ _ => rfl⟩
theorem kok_cons {ps : List Str} {i : Nat} {is : List Nat} {a : IE} {as : IL} {x : Str} {e : Expr} {kp : Pos} {ks : List Keyword} (hp : ps[i]? = some x) (ha : EOK c g a e) (h : KOK c g ps is as ks) : KOK c g ps (i :: is) (.cons a as) (⟨some x, e, kp⟩ :: ks) := by
  obtain ⟨t, a1, a2, a3, a4⟩ := ha.so
  obtain ⟨tk, b1, b2⟩ := h.ex
  refine ⟨⟨tCons t tk, fun X ok => pk_cons (a1 X ok) (b1 X ok), fun F hF => sl_cons (a2 F hF) (b2 F hF)⟩, fun pos env => ?_, fun pos env => ?_, fun pos env => ?_⟩
  · show x :: (backToKw pos (keywordEach ks env)).filterMap (·.1) = ps.getD i "" :: is.map fun i => ps.getD i ""
    rw [h.names pos env, List.getD_eq_getElem?_getD, hp]
    rfl
  · show (true && (backToKw pos (keywordEach ks env)).all (·.1.isSome)) = true
    rw [h.all pos env]
    rfl
  · show (false || (backToKw pos (keywordEach ks env)).any (·.1.isNone)) = false
    rw [h.any pos env]
    rfl
theorem evL_len : ∀ {il : IL} {σ σ' : En} {xs : List PyData} {m : Msk}, evL il σ = some (xs, m, σ') → xs.length = il.len := by
  intro il
  induction il using IL.rec (motive_1 := fun _ => True) (motive_3 := fun _ => True) (motive_4 := fun _ => True) with
  | nil => intro σ σ' xs m h; unfold evL at h; cases h; rfl
  | cons e es _ ih =>
    intro σ σ' xs m h
    unfold evL at h
    obtain ⟨⟨x, σ1⟩, e1, h⟩ := Option.bind_eq_some_iff.mp h
    obtain ⟨⟨ys, m', σ2⟩, e2, h⟩ := Option.map_eq_some_iff.mp h
    cases h
    rw [List.length_cons, ih e2]
    rfl
  | _ => trivial
theorem eok_callk (gk : GOk g) {f : FSig} {args kargs : IL} {kws : List Nat} {x : Str} {es : List Expr} {ks : List Keyword} {p pos : Pos} (hx : chkGl c f.name x = true) (hc : chkL c args es = true) (hkl : kargs.len = kws.length) (G : GoodK g f args.len kws) (h : LOK c g args es) (hk : KOK c g f.ps kws kargs ks) :
    EOK c g (.callk f args kws kargs) (.Call (.Name x p) es ks pos) := by
  obtain ⟨t, a1, a2, a3, a4⟩ := h.ex
  obtain ⟨tk, b1, b2⟩ := hk.ex
  obtain ⟨a, fd, G, Gb⟩ := G
  have e : f.name = x := of_decide_eq_true (band hx).1
  subst e
  obtain ⟨h2, h3⟩ := band (band hx).2
  obtain ⟨ho, hl⟩ := chkL_all hc
  -- the call proper
  have fin : ∀ X, Ok c g X → ∀ (pins : List (Addr × Obj)) (σ : L2.St) (H : Hp) (s : Shared) (Q : VK) (us ws : List Value) (vs zs : List V), L2.Inv X pins σ H s → Vals vs us → Vals zs ws → vs.length = args.len → zs.length = kws.length → spF g.K f (fullL .non f.ps.length vs kws zs) H Q E0 →
      wpAny (model X.prog X.w) X.A (call (.ref a) us ((kws.map fun i => f.ps.getD i "").zip ws)) (EP X pins σ Q) X.xe s := fun X ok pins σ H s Q us ws vs zs I r rz l1 l2 q => by
    obtain ⟨⟨k, G1, hr⟩, _, _⟩ := G.inX ok
    rw [← ok.K] at q
    exact call_done (call_run G1 hr (by rw [ok.A]; exact gk.guards) I (.of_eq (Gb us ws (by rw [← r.length]; exact l1) (by rw [← rz.length]; exact l2))) (vals_full r rz) q)
  have hpe : ∃ t, (∀ X, Ok c g X → PE X (.Call (.Name f.name p) es ks pos) (fun σ H Q => t σ H fun vs H1 => tk σ H1 fun zs H2 => (vs.length = args.len ∧ zs.length = kws.length) ∧ spF g.K f (fullL .non f.ps.length vs kws zs) H2 Q E0)) ∧ (∀ F : Fx, F.K = g.K → SL F t (evL args)) := by
    cases es with
    | nil =>
      cases args with
      | cons _ _ => simp [chkL] at hc
      | nil =>
        refine ⟨tNil, fun X ok => ?_, fun _ _ => sl_nil⟩
        obtain ⟨_, hm, hkp⟩ := G.inX ok
        constructor
        intro pins s σ H Q I hw
        refine wpAny_Call_Name_kw (ld_glob I (lookGl ok h2) hm ?_ (nameB_of h3).1)
        refine PySem.W.callWith_KW0 (h₀ := X.base) I.ok.mod.kin hkp (hk.all pos X.env) (thn ((b1 X ok).run pos pins s σ H _ I hw) fun ws s2 ⟨zs, H2, I2, rz, ⟨l1, l2⟩, q2⟩ => ⟨I2.kIn, ?_⟩) (by rw [hk.any pos X.env]; rfl)
        rw [hk.names pos X.env]
        exact fin X ok pins σ H2 s2 Q [] ws [] zs I2 .nil rz l1 l2 q2
    | cons e rest =>
      refine ⟨t, fun X ok => ?_, a3⟩
      obtain ⟨_, hm, hkp⟩ := G.inX ok
      constructor
      intro pins s σ H Q I hw
      refine wpAny_Call_Name_kw (ld_glob I (lookGl ok h2) hm ?_ (nameB_of h3).1)
      rw [List.all_cons, Bool.and_eq_true] at ho
      refine PySem.W.callWith_KW (h₀ := X.base) I.ok.mod.kin hkp (hk.all pos X.env) (thn ((a1 X ok).run pos pins s σ H _ I hw) fun us s1 ⟨vs, H1, I1, r, q⟩ => ?_) ?_ (oh_star ho.1 rest X.env)
      · refine thn ((b1 X ok).run pos pins s1 σ H1 _ I1 q) fun ws s2 ⟨zs, H2, I2, rz, ⟨l1, l2⟩, q2⟩ => ⟨I2.kIn, ?_⟩
        rw [hk.names pos X.env]
        exact fin X ok pins σ H2 s2 Q us ws vs zs I2 r rz l1 l2 q2
      · rw [hk.any pos X.env, any_star X.env pos (e :: rest) (by rw [List.all_cons, ho.1, ho.2]; rfl)]
        rfl
  obtain ⟨t, c1, c3⟩ := hpe
  refine eok_plain rfl ⟨_, c1, fun F hF => ?_, fun i z => by cases z⟩
  intro σV σ W z σ' Q R e k
  unfold ev at e
  split at e
  · next hio =>
    obtain ⟨⟨ds, m1, σ1⟩, e1, e⟩ := Option.bind_eq_some_iff.mp e
    obtain ⟨⟨es', m2, σ2⟩, e2, e⟩ := Option.bind_eq_some_iff.mp e
    dsimp only at e
    split at e
    · next hlen =>
      have hlen := of_decide_eq_true (band hlen).1
      refine c3 F hF R e1 fun vs W1 R1 s1 q1 => b2 F hF R1 e2 fun zs W2 R2 s2 q2 => ?_
      have q1' := DrAll.mono (R1.keepsS s2 _) q1
      have dl := drAll_full (n := f.ps.length) (kws := kws) (q1'.leM (Msk.le_or_l m1 m2)) (q2.leM (Msk.le_or_r m1 m2))
      refine ⟨⟨by rw [q1.length]; exact evL_len e1, by rw [q2.length]; exact hlen⟩, ?_⟩
      rw [← hF]
      refine callK_ok (il := .nil) R2 (by rw [hio]; rfl) dl.length (fun j v d _ h1 h2 => ?_) (fun k i z _ => by rw [hio] at z; cases z) e fun w W3 R3 s3 q3 n3 => k w W3 R3 ((s1.trans s2).trans s3) q3 (RsNew.stp (s1.trans s2) n3)
      obtain ⟨d', g1, g2⟩ := dl.getV h1
      rw [h2] at g1
      cases g1
      exact g2
    · cases e
  · cases e
end
end Dv

/-! Dv, part T: what the checker passes is read as the small language says -/
namespace Dv
open PySem PySem.Spec PySem.W PyProof.Rows L2

section
variable {g : Gx}
theorem chkK_len {c : SC} {ps : List Str} : ∀ {kws : List Nat} {il : IL} {ks : List Keyword}, chkK c ps kws il ks = true → il.len = kws.length
  | [], .nil, [], _ => rfl
  | i :: is, .cons a as, ⟨some x, e, p⟩ :: ks, h => by
    rw [chkK] at h
    obtain ⟨_, h2⟩ := band h
    show as.len + 1 = is.length + 1
    rw [chkK_len h2]
  | [], .nil, _ :: _, h => by simp [chkK] at h
  | [], .cons _ _, _, h => by simp [chkK] at h
  | _ :: _, .nil, _, h => by simp [chkK] at h
  | _ :: _, .cons _ _, [], h => by simp [chkK] at h
  | _ :: _, .cons _ _, ⟨none, _, _⟩ :: _, h => by simp [chkK] at h
theorem isi_of {c : SC} {T : String} {as : IL} {es : List Expr} (h : isiTail c T as es = true) : as = .nil ∧ ∃ y q, es = [.Name y q] ∧ Str.ofString T = y ∧ T ∈ tyNames ∧ chkGl c y y = true := by
  unfold isiTail at h
  split at h
  · obtain ⟨h6, h7⟩ := band h
    obtain ⟨h8, h9⟩ := band h6
    exact ⟨rfl, _, _, rfl, of_decide_eq_true h8, by simpa using h9, h7⟩
  · cases h
theorem chkB_cons {c : SC} {b : Bl} {a : IE} {as : IL} {es : List Expr} (h : chkB c b (.cons a as) es = true) : ∃ e es', es = e :: es' ∧ okHead e = true ∧ chkE c a e = true ∧ (if isBlkTy b = true then isiTail c (tyB b) as es' else chkL c as es') = true := by
  cases es with
  | nil => simp [chkB] at h
  | cons e es =>
    rw [chkB] at h
    obtain ⟨h3, h4⟩ := band h
    obtain ⟨h5, h6⟩ := band h3
    exact ⟨e, es, rfl, h5, h6, h4⟩
theorem chkB_nil {c : SC} {b : Bl} {es : List Expr} (h : chkB c b .nil es = true) : False := by simp [chkB] at h
theorem chkLc {c : SC} {elt : IE} {tg : Tg} {it : II} {cnd : IO} {m : Msk} {e : Expr} {gs : List Comprehension} {scope : Scope} {p : Pos} (h : chkE c (.lc elt tg it cnd m) (.ListComp e gs scope p) = true) :
    ∃ te ie ifs, gs = [⟨te, ie, ifs, 0⟩] ∧ okHead ie = true ∧ blkC c.N c.sc scope (ownOf tg te) = true ∧ chkI c it te ie = true ∧ chkTg (blkSC c scope) tg te = true ∧ chkC (blkSC c scope) cnd ifs = true ∧ chkE (blkSC c scope) elt e = true := by
  match gs, h with
  | [⟨te, ie, ifs, k⟩], h =>
    rw [chkE] at h
    obtain ⟨ha, h⟩ := band h
    obtain ⟨hk, hb⟩ := band ha
    obtain ⟨h0, h1⟩ := band hb
    obtain ⟨h2, h⟩ := band h
    obtain ⟨h3, h⟩ := band h
    obtain ⟨h4, h5⟩ := band h
    have hk := of_decide_eq_true hk
    subst hk
    exact ⟨_, _, _, rfl, h0, h1, h2, h3, h4, h5⟩
  | [], h => simp [chkE] at h
  | _ :: _ :: _, h => simp [chkE] at h
mutual
theorem eok_of (gk : GOk g) : ∀ (ir : IE) (c : SC) (e : Expr), chkE c ir e = true → usE g ir → EOK c g ir e
  | .var i, c, e, h, u => by
    cases e <;> try (simp [chkE] at h; done)
    rw [chkE] at h
    exact eok_var h
  | .lit d, c, e, h, u => by
    cases e <;> try (simp [chkE] at h; done)
    rw [chkE] at h
    exact eok_lit h
  | .glb x d, c, e, h, u => by
    cases e <;> try (simp [chkE] at h; done)
    rw [chkE] at h
    exact eok_glb h u
  | .bin o a b, c, e, h, u => by
    cases e <;> try (simp [chkE] at h; done)
    rw [chkE] at h
    obtain ⟨h1, h⟩ := band h
    obtain ⟨h2, h3⟩ := band h
    have e := of_decide_eq_true h1
    subst e
    exact eok_bin (eok_of gk a c _ h2 u.1) (eok_of gk b c _ h3 u.2)
  | .neg a, c, e, h, u => by
    cases e <;> try (simp [chkE] at h; done)
    rename_i op e p
    cases op <;> try (simp [chkE] at h; done)
    rw [chkE] at h
    exact eok_neg (eok_of gk a c _ h u)
  | .not a, c, e, h, u => by
    cases e <;> try (simp [chkE] at h; done)
    rename_i op e p
    cases op <;> try (simp [chkE] at h; done)
    rw [chkE] at h
    exact eok_not (eok_of gk a c _ h u)
  | .cmp o a b, c, e, h, u => by
    cases e <;> try (simp [chkE] at h; done)
    rename_i l ops rs p
    match ops, rs, h with
    | [op], [r], h =>
      rw [chkE] at h
      obtain ⟨h1, h⟩ := band h
      obtain ⟨h2, h⟩ := band h
      obtain ⟨h3, h4⟩ := band h
      have e := of_decide_eq_true h1
      subst e
      exact eok_cmp gk h2 (eok_of gk a c _ h3 u.1) (eok_of gk b c _ h4 u.2)
    | [], _, h => simp [chkE] at h
    | [_], [], h => simp [chkE] at h
    | [_], _ :: _ :: _, h => simp [chkE] at h
    | _ :: _ :: _, _, h => simp [chkE] at h
  | .chn o o' a b d, c, e, h, u => by
    cases e <;> try (simp [chkE] at h; done)
    rename_i l ops rs p
    match ops, rs, h with
    | [op, op'], [r, q], h =>
      rw [chkE] at h
      obtain ⟨h01, h⟩ := band h
      obtain ⟨h0, h1⟩ := band h01
      obtain ⟨h2, h⟩ := band h
      obtain ⟨h3, h⟩ := band h
      obtain ⟨h4, h5⟩ := band h
      have e0 := of_decide_eq_true h0
      have e1 := of_decide_eq_true h1
      subst e0
      subst e1
      exact eok_chn gk h2 (eok_of gk a c _ h3 u.1) (eok_of gk b c _ h4 u.2.1) (eok_of gk d c _ h5 u.2.2)
    | [], _, h => simp [chkE] at h
    | [_], _, h => simp [chkE] at h
    | [_, _], [], h => simp [chkE] at h
    | [_, _], [_], h => simp [chkE] at h
    | [_, _], _ :: _ :: _ :: _, h => simp [chkE] at h
    | _ :: _ :: _ :: _, _, h => simp [chkE] at h
  | .and a b, c, e, h, u => by
    cases e <;> try (simp [chkE] at h; done)
    rename_i op vs p
    match op, vs, h with
    | .And, x :: y :: r, h =>
      rw [chkE] at h
      obtain ⟨h1, h⟩ := band h
      obtain ⟨h2, h⟩ := band h
      obtain ⟨h3, h4⟩ := band h
      exact eok_and (eok_of gk a c _ h1 u.1) (eok_of gk b c _ h2 u.2) h3 h4
    | .And, [], h => simp [chkE] at h
    | .And, [_], h => simp [chkE] at h
    | .Or, _, h => simp [chkE] at h
  | .or a b, c, e, h, u => by
    cases e <;> try (simp [chkE] at h; done)
    rename_i op vs p
    match op, vs, h with
    | .Or, x :: y :: r, h =>
      rw [chkE] at h
      obtain ⟨h1, h⟩ := band h
      obtain ⟨h2, h⟩ := band h
      obtain ⟨h3, h4⟩ := band h
      exact eok_or (eok_of gk a c _ h1 u.1) (eok_of gk b c _ h2 u.2) h3 h4
    | .Or, [], h => simp [chkE] at h
    | .Or, [_], h => simp [chkE] at h
    | .And, _, h => simp [chkE] at h
  | .one a, c, e, h, u => by
    cases e <;> try (simp [chkE] at h; done)
    rename_i op vs p
    match vs, h with
    | [x], h =>
      rw [chkE] at h
      obtain ⟨h1, h2⟩ := band h
      exact eok_one (eok_of gk a c _ h1 u) h2
    | [], h => simp [chkE] at h
    | _ :: _ :: _, h => simp [chkE] at h
  | .ife t a b, c, e, h, u => by
    cases e <;> try (simp [chkE] at h; done)
    rw [chkE] at h
    obtain ⟨h1, h⟩ := band h
    obtain ⟨h0, h1⟩ := band h1
    obtain ⟨h2, h3⟩ := band h
    exact eok_ife (eok_of gk t c _ h0 u.1) h1 (eok_of gk a c _ h2 u.2.1) (eok_of gk b c _ h3 u.2.2)
  | .lst xs m, c, e, h, u => by
    cases e <;> try (simp [chkE] at h; done)
    rw [chkE] at h
    exact eok_lst (lok_of gk xs c _ h u)
  | .tup xs, c, e, h, u => by
    cases e <;> try (simp [chkE] at h; done)
    rw [chkE] at h
    exact eok_tup (lok_of gk xs c _ h u)
  | .idx a i, c, e, h, u => by
    cases e <;> try (simp [chkE] at h; done)
    rw [chkE] at h
    obtain ⟨h1, h⟩ := band h
    obtain ⟨h2, h3⟩ := band h
    exact eok_idx h1 (eok_of gk a c _ h2 u.1) (eok_of gk i c _ h3 u.2)
  | .slc a lo hi, c, e, h, u => by
    cases e <;> try (simp [chkE] at h; done)
    rename_i x s p
    cases s <;> try (simp [chkE] at h; done)
    rename_i l hh st p2
    cases st
    · rw [chkE] at h
      obtain ⟨h1, h⟩ := band h
      obtain ⟨h2, h3⟩ := band h
      exact eok_slc (eok_of gk a c _ h1 u.1) (pok_of gk lo c _ h2 u.2.1) (pok_of gk hi c _ h3 u.2.2)
    · simp [chkE] at h
  | .lc elt tg it cnd m, c, e, h, u => by
    cases e <;> try (simp [chkE] at h; done)
    obtain ⟨te, ie, ifs, rfl, h0, h1, h2, h3, h4, h5⟩ := chkLc h
    exact eok_lc h0 h1 h3 (iok_of gk it c _ _ h2 u.1) (cok_of gk cnd _ _ h4 u.2.1) (eok_of gk elt _ _ h5 u.2.2)
  | .call f args, c, e, h, u => by
    cases e <;> try (simp [chkE] at h; done)
    rename_i fe es ks p
    cases fe <;> try (simp [chkE] at h; done)
    cases ks
    · rw [chkE] at h
      obtain ⟨h1, h2⟩ := band h
      exact eok_call gk h1 h2 u.1 (lok_of gk args c _ h2 u.2)
    · simp [chkE] at h
  | .callk f args kws kargs, c, e, h, u => by
    cases e <;> try (simp [chkE] at h; done)
    rename_i fe es ks p
    cases fe <;> try (simp [chkE] at h; done)
    rw [chkE] at h
    obtain ⟨h1, h⟩ := band h
    obtain ⟨h2, h⟩ := band h
    obtain ⟨h3, _⟩ := band h
    exact eok_callk gk h1 h2 (chkK_len h3) u.1 (lok_of gk args c _ h2 u.2.1) (kok_of gk kargs f.ps kws c _ h3 u.2.2)
  | .blt b args, c, e, h, u => by
    cases e <;> try (simp [chkE] at h; done)
    rename_i fe es ks p
    cases fe <;> try (simp [chkE] at h; done)
    rename_i x xp
    cases ks
    · rw [chkE] at h
      obtain ⟨h1, h2⟩ := band h
      cases args with
      | nil => exact (chkB_nil h2).elim
      | cons a as =>
        obtain ⟨e, es', rfl, h3, h4, h5⟩ := chkB_cons h2
        by_cases hb : ∃ T, b = .isinst T
        · obtain ⟨T, rfl⟩ := hb
          obtain ⟨rfl, y, q, rfl, h6, h7, h8⟩ := isi_of h5
          exact eok_isi h1 h3 h6 h7 h8 u.1.1 u.1.2 (eok_of gk a c _ h4 u.2.1)
        · have hb' : ∀ T, b ≠ .isinst T := fun T z => hb ⟨T, z⟩
          have h5 : chkL c as es' = true := by cases b <;> first | exact h5 | exact absurd rfl (hb' _)
          exact eok_blt gk hb' h1 (by rw [List.all_cons, h3, (chkL_all h5).1]; rfl) u.1.1 (lok_cons h3 (eok_of gk a c _ h4 u.2.1) (lok_of gk as c _ h5 u.2.2))
    · simp [chkE] at h
  | .mth b o args, c, e, h, u => by
    cases b <;> try (simp [chkE] at h; done)
    cases args <;> try (simp [chkE] at h; done)
    cases e <;> try (simp [chkE] at h; done)
    rename_i fe es ks p
    cases fe <;> try (simp [chkE] at h; done)
    rename_i x a ap
    cases x <;> try (simp [chkE] at h; done)
    rename_i x xp
    cases es <;> cases ks <;> try (simp [chkE] at h; done)
    rw [chkE] at h
    obtain ⟨h1, h⟩ := band h
    obtain ⟨h2, h3⟩ := band h
    have e := of_decide_eq_true h1
    subst e
    exact eok_bits h2 (eok_of gk o c _ h3 u.1)
theorem lok_of (gk : GOk g) : ∀ (il : IL) (c : SC) (es : List Expr), chkL c il es = true → usL g il → LOK c g il es
  | .nil, c, [], _, _ => lok_nil
  | .cons a as, c, e :: es, h, u => by
    rw [chkL] at h
    obtain ⟨h1, h2⟩ := band h
    obtain ⟨h3, h4⟩ := band h1
    exact lok_cons h3 (eok_of gk a c e h4 u.1) (lok_of gk as c es h2 u.2)
  | .nil, _, _ :: _, h, _ => by simp [chkL] at h
  | .cons _ _, _, [], h, _ => by simp [chkL] at h
theorem kok_of (gk : GOk g) : ∀ (il : IL) (ps : List Str) (kws : List Nat) (c : SC) (ks : List Keyword), chkK c ps kws il ks = true → usL g il → KOK c g ps kws il ks
  | .nil, ps, [], c, [], _, _ => kok_nil
  | .cons a as, ps, i :: is, c, ⟨some x, e, p⟩ :: ks, h, u => by
    rw [chkK] at h
    obtain ⟨h1, h2⟩ := band h
    obtain ⟨h3, h4⟩ := band h1
    obtain ⟨h5, h6⟩ := band h4
    exact kok_cons (of_decide_eq_true h3) (eok_of gk a c e h6 u.1) (kok_of gk as ps is c ks h2 u.2)
  | .nil, _, [], _, _ :: _, h, _ => by simp [chkK] at h
  | .cons _ _, _, [], _, _, h, _ => by simp [chkK] at h
  | .nil, _, _ :: _, _, _, h, _ => by simp [chkK] at h
  | .cons _ _, _, _ :: _, _, [], h, _ => by simp [chkK] at h
  | .cons _ _, _, _ :: _, _, ⟨none, _, _⟩ :: _, h, _ => by simp [chkK] at h
theorem pok_of (gk : GOk g) : ∀ (io : IO) (c : SC) (e : Option Expr), chkO c io e = true → usO g io → POK c g io e
  | .no, c, none, _, _ => pok_no
  | .yes a, c, some e, h, u => by
    rw [chkO] at h
    exact pok_yes (eok_of gk a c e h u)
  | .no, _, some _, h, _ => by simp [chkO] at h
  | .yes _, _, none, h, _ => by simp [chkO] at h
theorem cok_of (gk : GOk g) : ∀ (io : IO) (c : SC) (es : List Expr), chkC c io es = true → usO g io → COK c g io es
  | .no, c, [], _, _ => cok_no
  | .yes a, c, [e], h, u => by
    rw [chkC] at h
    obtain ⟨h1, h2⟩ := band h
    exact cok_yes h2 (eok_of gk a c e h1 u)
  | .no, _, _ :: _, h, _ => by simp [chkC] at h
  | .yes _, _, [], h, _ => by simp [chkC] at h
  | .yes _, _, _ :: _ :: _, h, _ => by simp [chkC] at h
theorem iok_of (gk : GOk g) : ∀ (it : II) (c : SC) (te e : Expr), chkI c it te e = true → usI g it → IOK c g it te e
  | .seq a, c, te, e, h, u => by
    rw [chkI] at h
    exact iok_seq (eok_of gk a c e (band h).2 u)
  | .rng args, c, te, e, h, u => by
    cases e <;> try (simp [chkI] at h; done)
    rename_i fe es ks p
    cases fe <;> try (simp [chkI] at h; done)
    cases ks <;> try (simp [chkI] at h; done)
    rw [chkI] at h
    obtain ⟨h1, h⟩ := band h
    obtain ⟨h2, h3⟩ := band h
    exact iok_rng h1 u.1 h2 (of_decide_eq_true h3) (lok_of gk args c es h2 u.2)
  | .enu a, c, te, e, h, u => by
    cases te <;> try (simp [chkI] at h; done)
    cases e <;> try (simp [chkI] at h; done)
    rename_i fe es ks p
    cases fe <;> try (simp [chkI] at h; done)
    match es, ks, h with
    | [e], [], h =>
      rw [chkI] at h
      obtain ⟨h1, h⟩ := band h
      obtain ⟨h2, h3⟩ := band h
      exact iok_enu h1 u.1 h2 (eok_of gk a c e h3 u.2)
    | [], _, h => simp [chkI] at h
    | [_], _ :: _, h => simp [chkI] at h
    | _ :: _ :: _, _, h => simp [chkI] at h
  | .zip a b, c, te, e, h, u => by
    cases te <;> try (simp [chkI] at h; done)
    cases e <;> try (simp [chkI] at h; done)
    rename_i fe es ks p
    cases fe <;> try (simp [chkI] at h; done)
    match es, ks, h with
    | [e, e2], [], h =>
      rw [chkI] at h
      obtain ⟨h1, h⟩ := band h
      obtain ⟨h2, h3⟩ := band h
      obtain ⟨h4, h5⟩ := band h2
      obtain ⟨h6, h7⟩ := band h3
      exact iok_zip h1 u.1 h4 h6 (eok_of gk a c e h5 u.2.1) (eok_of gk b c e2 h7 u.2.2)
    | [], _, h => simp [chkI] at h
    | [_], _, h => simp [chkI] at h
    | [_, _], _ :: _, h => simp [chkI] at h
    | _ :: _ :: _ :: _, _, h => simp [chkI] at h
end
end
end Dv

/-! Dv, part U: statements -/
namespace Dv
open PySem PySem.Spec PySem.W PyProof.Rows L2

/-! ### an own object is written -/
section
variable {F : Fx} {σV : L2.St} {σ : En} {W : Wd}
theorem wr_step (σ' : En) {p : Addr} (u : HO) (hO : Ow σV σ p) (ho : ∀ q, Ow σV σ' q → Ow σV σ q) : Step (Ow σV σ) W (Ow σV σ') (W.upd p u) := by
  refine ⟨fun a o e n => ?_, fun a h => .inl h, fun a h => .inl (ho a h), fun a h => h, fun a h => h, fun a o e => ?_⟩
  · show L2.upd W.H p u a = some o
    rw [upd_ne (fun z => n (by rw [z]; exact hO))]
    exact e
  · by_cases ha : a = p
    · subst ha; exact ⟨u, upd_same⟩
    · exact ⟨o, by show L2.upd W.H p u a = some o; rw [upd_ne ha]; exact e⟩
theorem Rel.wr (R : Rel F σV σ W) {i : Nat} {p : Addr} {o o' : OC} {m m' : Msk} {io : Bool} (u : HO) (hs : σ[i]? = some (.own o m io)) (hp : σV[i]? = some (some (.ref p))) (how : OwR F.K ((W.upd p u).rg m') (W.upd p u).H p o') :
    Rel F σV (σ.set i (.own o' m' io)) (W.upd p u) ∧ Step (Ow σV σ) W (Ow σV (σ.set i (.own o' m' io))) (W.upd p u) := by
  have hO : OwnAt σV σ i p := ⟨⟨o, m, io, .inl hs⟩, hp⟩
  obtain ⟨q0, e0, n0, ow0, c0⟩ := R.slot i _ hs
  rw [hp] at e0
  cases e0
  have hlt : i < σ.length := (List.getElem?_eq_some_iff.mp hs).1
  have own' : ∀ j q, OwnAt σV (σ.set i (.own o' m' io)) j q → OwnAt σV σ j q := fun j q ⟨⟨o2, m2, io2, h1⟩, h2⟩ => by
    by_cases hj : j = i
    · subst hj; rw [hp] at h2; cases h2; exact hO
    · rw [List.getElem?_set_ne (Ne.symm hj)] at h1
      exact ⟨⟨o2, m2, io2, h1⟩, h2⟩
  have st : Step (Ow σV σ) W (Ow σV (σ.set i (.own o' m' io))) (W.upd p u) := wr_step _ u ⟨i, hO⟩ fun q ⟨j, h⟩ => ⟨j, own' j q h⟩
  have kp := fun m => R.keeps st m
  refine ⟨⟨by rw [List.length_set]; exact R.len, fun a h => ?_, R.disj, R.newC, R.oldD, fun a o e n => ?_, fun a o e => ?_, fun j s e => ?_, fun j k q h1 h2 => R.dist j k q (own' j q h1) (own' k q h2)⟩, st⟩
  · obtain ⟨o, e⟩ := R.live a h
    exact st.live a o e
  · have e1 := R.base a o e n
    show L2.upd W.H p u a = some o
    rw [upd_ne (fun z => ?_)]
    · exact e1
    · subst z
      cases io with
      | true => exact n c0
      | false =>
        have c0 : F.H0 a = none := c0
        rw [e] at c0; cases c0
  · obtain ⟨u', q⟩ := R.old a o e
    exact st.live a u' q
  · by_cases hj : j = i
    · subst hj
      rw [List.getElem?_set_self hlt] at e
      cases e
      exact ⟨p, hp, n0, how, c0⟩
    · rw [List.getElem?_set_ne (Ne.symm hj)] at e
      refine SlR.keeps kp (R.slot j s e) fun q e1 e2 e3 => ?_
      obtain ⟨o2, m2, io2, z⟩ := e2
      have hO2 : OwnAt σV σ j q := ⟨⟨o2, m2, io2, by rcases z with z | z; exact .inl (by rw [e, z]); exact .inr (by rw [e, z])⟩, e1⟩
      have hne : q ≠ p := fun z => hj (R.dist j i p (z ▸ hO2) hO)
      exact ⟨fun u' qq => by show L2.upd W.H p u q = some u'; rw [upd_ne hne]; exact qq, e3⟩
/-- an own list gets new items -/
theorem Rel.wrL (R : Rel F σV σ W) {i : Nat} {p : Addr} {ds ds' : List PyData} {m m' : Msk} {io : Bool} {vs' : List V} (hs : σ[i]? = some (.own (.l ds) m io)) (hp : σV[i]? = some (some (.ref p))) (h : DrAll F.K (W.rg m') W.H vs' ds') :
    Rel F σV (σ.set i (.own (.l ds') m' io)) (W.upd p (.lst vs')) ∧ Step (Ow σV σ) W (Ow σV (σ.set i (.own (.l ds') m' io))) (W.upd p (.lst vs')) := by
  have hO : OwnAt σV σ i p := ⟨⟨.l ds, m, io, .inl hs⟩, hp⟩
  exact R.wr (.lst vs') hs hp ⟨vs', upd_same, DrAll.mono (R.keeps (wr_step σ (.lst vs') ⟨i, hO⟩ fun q h => h) m') h⟩
/-- a result goes to a slot -/
theorem Rel.bind (R : Rel F σV σ W) (i : Nat) {v : V} {r : Rs} (q : RsR F (Ow σV σ) W v r) : Rel F (σV.set i (some v)) (σ.set i r.slot) W := by
  refine R.setV i ?_ fun ho p hv => ?_
  · cases r with
    | val d m => exact ⟨v, rfl, q⟩
    | new o m =>
      obtain ⟨p, rfl, h1, h2, h3, h4⟩ := q
      exact ⟨p, rfl, h1, h4, h3⟩
  · cases r with
    | val d m => cases ho
    | new o m =>
      obtain ⟨q, rfl, h1, h2, h3, h4⟩ := q
      cases hv
      exact h2
theorem Step.bind {O : Addr → Prop} {W0 : Wd} (s : Step O W0 (Ow σV σ) W) (hl : σV.length = σ.length) (i : Nat) {v : V} {r : Rs} (n : RsNew W0 v r) : Step O W0 (Ow (σV.set i (some v)) (σ.set i r.slot)) W := by
  refine ⟨s.keep, s.grow, fun a ⟨j, h⟩ => ?_, s.subD, s.subC, s.live⟩
  rcases ownAt_set hl h with ⟨_, h⟩ | ⟨_, h1, h2⟩
  · exact s.own a ⟨j, h⟩
  · cases r with
    | val d m => cases h1
    | new o m =>
      obtain ⟨p, rfl, hp⟩ := n
      cases h2
      exact .inr hp
end

/-! ### what is wanted behind a statement -/
def EndR (F : Fx) (hv : Bool) (σV : L2.St) (σ : En) (W : Wd) (D : Ends) : Fl → Prop
  | .nx σ' => ∀ σV' W', Rel F σV' σ' W' → (hv = false → Step (Ow σV σ) W (Ow σV' σ') W') → D.nx σV' W'.H
  | .ct σ' => ∀ σV' W', Rel F σV' σ' W' → (hv = false → Step (Ow σV σ) W (Ow σV' σ') W') → D.ct σV' W'.H
  | .bk σ' => ∀ σV' W', Rel F σV' σ' W' → (hv = false → Step (Ow σV σ) W (Ow σV' σ') W') → D.bk σV' W'.H
  | .rt r σ' => ∀ v σV' W', Rel F σV' σ' W' → (hv = false → Step (Ow σV σ) W (Ow σV' σ') W') → RsR F (Ow σV' σ') W' v r → D.rt v W'.H
section
variable {F : Fx} {hv : Bool} {σV σV1 : L2.St} {σ σ1 : En} {W W1 : Wd} {D D1 : Ends} {f : Fl}
theorem EndR.pre (s : hv = false → Step (Ow σV σ) W (Ow σV1 σ1) W1) (h : EndR F hv σV σ W D f) : EndR F hv σV1 σ1 W1 D f := by
  cases f with
  | nx τ => exact fun σV' W' R' s' => h σV' W' R' fun z => (s z).trans (s' z)
  | ct τ => exact fun σV' W' R' s' => h σV' W' R' fun z => (s z).trans (s' z)
  | bk τ => exact fun σV' W' R' s' => h σV' W' R' fun z => (s z).trans (s' z)
  | rt r τ => exact fun v σV' W' R' s' => h v σV' W' R' fun z => (s z).trans (s' z)
theorem EndR.flag {hv' : Bool} (z : hv = false → hv' = false) (h : EndR F hv σV σ W D f) : EndR F hv' σV σ W D f := by
  cases f with
  | nx τ => exact fun σV' W' R' s' => h σV' W' R' fun q => s' (z q)
  | ct τ => exact fun σV' W' R' s' => h σV' W' R' fun q => s' (z q)
  | bk τ => exact fun σV' W' R' s' => h σV' W' R' fun q => s' (z q)
  | rt r τ => exact fun v σV' W' R' s' => h v σV' W' R' fun q => s' (z q)
end
/-- a statement's reading -/
def SS (F : Fx) (hv : Bool) (t : TS) (g : En → Option Fl) : Prop :=
  ∀ {σV : L2.St} {σ : En} {W : Wd} {f : Fl} {D : Ends}, Rel F σV σ W → g σ = some f → EndR F hv σV σ W D f → t D σV W.H

/-- the context of a body -/
structure OkS (c : SC) (g : Gx) (X : Cx) : Prop where
  ok : Ok c g X
  ps : PassesOwn (model X.prog X.w) X.A X.env X.xe
  kind : c.sc.kind = .function
structure SOK (c : SC) (g : Gx) (s : IS) (st : Stmt) : Prop where
  ex : ∃ t, (∀ X, OkS c g X → PS X st t) ∧ (∀ F : Fx, F.K = g.K → (hvS s = true → ∀ a, ¬ F.D0 a) → SS F (hvS s) t (evS s))
structure SLOK (c : SC) (g : Gx) (ss : ISL) (sts : List Stmt) : Prop where
  ex : ∃ t, (∀ X, OkS c g X → PSs X sts t) ∧ (∀ F : Fx, F.K = g.K → (hvL ss = true → ∀ a, ¬ F.D0 a) → SS F (hvL ss) t (evSL ss))

/-- no comprehension -/
def noComp : Expr → Bool
  | .ListComp .. | .SetComp .. | .DictComp .. => false
  | _ => true
theorem nc_swaps {e : Expr} (h : noComp e = true) (t : Option Expr) (l : Nat) (env : Env) : swapsWith e t l env = pure false := by
  cases e <;> first | rfl | (simp [noComp] at h; done)
def noTupE : Expr → Bool
  | .Tuple .. => false
  | _ => true
theorem nt_stores {e : Expr} (h : noTupE e = true) (ts : List Expr) (env : Env) : swappedStores ts e env = pure none := by
  unfold swappedStores
  split
  · next hk =>
    split at hk <;> first | (simp [noTupE] at h; done) | cases hk
  · rfl
section
variable {c : SC} {g : Gx}
theorem kind_blk {X : Cx} (ok : OkS c g X) : X.env.blockKind = .function := by
  have e : X.env.scope.kind = .function := by rw [ok.ok.sc]; exact ok.kind
  unfold Env.blockKind
  rw [e]
  rfl

/-! ### the simple ones -/
theorem sok_no {st : Stmt} : SOK c g .no st := ⟨tNever, fun _ _ => ps_never, fun F _ _ => by
  intro σV σ W f D R h k
  simp [evS] at h⟩
theorem sok_pas {p : Pos} : SOK c g .pas (.Pass p) := ⟨tNext, fun _ _ => ps_pass, fun F _ _ => by
  intro σV σ W f D R h k
  simp only [evS, Option.some.injEq] at h
  subst h
  exact k σV W R fun _ => Step.refl _ _⟩
theorem sok_brk {p : Pos} : SOK c g .brk (.Break p) := ⟨tBreak, fun _ _ => ps_break, fun F _ _ => by
  intro σV σ W f D R h k
  simp only [evS, Option.some.injEq] at h
  subst h
  exact k σV W R fun _ => Step.refl _ _⟩
theorem sok_cnt {p : Pos} : SOK c g .cnt (.Continue p) := ⟨tCont, fun _ _ => ps_continue, fun F _ _ => by
  intro σV σ W f D R h k
  simp only [evS, Option.some.injEq] at h
  subst h
  exact k σV W R fun _ => Step.refl _ _⟩
theorem sok_ex {a : IE} {e : Expr} {p : Pos} (hn : noComp e = true) (ha : EOK c g a e) : SOK c g (.ex a) (.Expr e p) := by
  obtain ⟨t, a1, a2, _, _⟩ := ha.so
  refine ⟨tDrop t, fun X ok => ps_expr (a1 X ok.ok) (nc_swaps hn _ _ _), fun F hF _ => ?_⟩
  intro σV σ W f D R h k
  simp only [evS] at h
  obtain ⟨⟨r, σ1⟩, e1, rfl⟩ := Option.map_eq_some_iff.mp h
  exact a2 F hF R e1 fun v W' R' s q n => k σV W' R' fun _ => s.step
theorem sok_retN {p : Pos} : SOK c g (.ret .no) (.Return none p) := ⟨tRetN, fun _ _ => ps_retN, fun F _ _ => by
  intro σV σ W f D R h k
  simp only [evS, Option.some.injEq] at h
  subst h
  exact k .non σV W R (fun _ => Step.refl _ _) .non⟩
/-- a name's own object is handed back -/
theorem give_own {F : Fx} {σV : L2.St} {σ : En} {W : Wd} (R : Rel F σV σ W) {i : Nat} {o : OC} {m : Msk} (hs : σ[i]? = some (.own o m false)) :
    ∃ v, σV[i]? = some (some v) ∧ Rel F σV (σ.set i .emp) W ∧ Step (Ow σV σ) W (Ow σV (σ.set i .emp)) W ∧ RsR F (Ow σV (σ.set i .emp)) W v (.new o m) := by
  obtain ⟨p, e1, e2, e3, e4⟩ := R.slot i _ hs
  have hO : OwnAt σV σ i p := ⟨⟨o, m, false, .inl hs⟩, e1⟩
  have hlt : i < σ.length := (List.getElem?_eq_some_iff.mp hs).1
  have own' : ∀ j q, OwnAt σV (σ.set i .emp) j q → j ≠ i ∧ OwnAt σV σ j q := fun j q ⟨⟨o2, m2, io2, h1⟩, h2⟩ => by
    by_cases hj : j = i
    · subst hj
      rw [List.getElem?_set_self hlt] at h1
      rcases h1 with h1 | h1 <;> cases h1
    · rw [List.getElem?_set_ne (Ne.symm hj)] at h1
      exact ⟨hj, ⟨o2, m2, io2, h1⟩, h2⟩
  refine ⟨.ref p, e1, R.again (by rw [List.length_set]; exact R.len) (fun j s e => ?_) fun j q h => (own' j q h).2, (Step.refl _ _).less fun q ⟨j, h⟩ => ⟨j, (own' j q h).2⟩, p, rfl, e2, fun ⟨j, h⟩ => ?_, e4, e3⟩
  · by_cases hj : j = i
    · subst hj
      rw [List.getElem?_set_self hlt] at e
      cases e
      trivial
    · rw [List.getElem?_set_ne (Ne.symm hj)] at e
      exact R.slot j s e
  · obtain ⟨h1, h2⟩ := own' j p h
    exact h1 (R.dist j i p h2 hO)
theorem sok_ret {a : IE} {e : Expr} {p : Pos} (ha : EOK c g a e) : SOK c g (.ret (.yes a)) (.Return (some e) p) := by
  obtain ⟨t, a1, a2, _, a4⟩ := ha.so
  refine ⟨tRet t, fun X ok => ps_ret (a1 X ok.ok), fun F hF _ => ?_⟩
  intro σV σ W f D R h k
  simp only [evS] at h
  obtain ⟨⟨r, σ1⟩, e1, rfl⟩ := Option.map_eq_some_iff.mp h
  have key : ev a σ = some (r, σ1) ∨ ∃ i o m, a = .var i ∧ σ[i]? = some (.own o m false) ∧ r = .new o m ∧ σ1 = σ.set i .emp := by
    unfold evR at e1
    cases a with
    | var i =>
      dsimp only at e1
      split at e1
      · next o m hs =>
        obtain ⟨h1, h2⟩ := Prod.mk.inj (Option.some.inj e1)
        exact .inr ⟨i, o, m, rfl, hs, h1.symm, h2.symm⟩
      · exact .inl e1
    | _ => exact .inl e1
  rcases key with e1 | ⟨i, o, m, rfl, hs, rfl, rfl⟩
  · exact a2 F hF R e1 fun v W' R' s q n => k v σV W' R' (fun _ => s.step) q
  · rw [a4 i rfl]
    obtain ⟨v, h1, h2, h3, h4⟩ := give_own R hs
    exact ⟨v, h1, k v σV W h2 (fun _ => h3) h4⟩
theorem sok_aug {i : Nat} {o : Operator} {a : IE} {x : Str} {e : Expr} {p pos : Pos} (hx : chkLoc c i x = true) (ho : o = .Add ∨ o = .Sub) (ha : EOK c g a e) : SOK c g (.aug i o a) (.AugAssign (.Name x p) o e pos) := by
  obtain ⟨t, a1, a2, a3, _⟩ := ha.so
  obtain ⟨h1, h2⟩ := band hx
  refine ⟨tAug i t (ipI fun x y => if o = .Add then x + y else x - y), fun X ok => ?_, fun F hF _ => ?_⟩
  · obtain ⟨l1, l2⟩ := lookLoc ok.ok h2
    rcases ho with rfl | rfl
    · exact ps_aug (by rw [ok.ok.N]; exact ok.ok.nd) (by rw [ok.ok.N]; exact of_decide_eq_true h1) l1 (a1 X ok.ok) ip_add l2
    · exact ps_aug (by rw [ok.ok.N]; exact ok.ok.nd) (by rw [ok.ok.N]; exact of_decide_eq_true h1) l1 (a1 X ok.ok) ip_sub l2
  · intro σV σ W f D R h k
    simp only [evS] at h
    split at h
    rotate_left
    · cases h
    next hsome =>
    obtain ⟨⟨y, σ1⟩, e1, h⟩ := Option.bind_eq_some_iff.mp h
    obtain ⟨⟨d, m⟩, e2, h⟩ := Option.bind_eq_some_iff.mp h
    obtain ⟨σ2, e3, rfl⟩ := Option.map_eq_some_iff.mp h
    dsimp only at e2 e3
    obtain ⟨xi, yi, m', hp, hd, hσ⟩ : ∃ xi yi m', peek σ1 i = some (.int xi, m') ∧ d = .int yi ∧ σ2 = σ1.set i (.val (.int (if o = .Add then xi + yi else xi - yi)) m0) := by
      cases hp : peek σ1 i with
      | none => rcases ho with rfl | rfl <;> simp [augS, hp] at e3
      | some q =>
        obtain ⟨d0, m'⟩ := q
        rcases ho with rfl | rfl <;> cases d0 <;> cases d <;> simp [augS, hp] at e3
        · exact ⟨_, _, m', rfl, rfl, e3.symm⟩
        · exact ⟨_, _, m', rfl, rfl, by rw [if_neg (by decide)]; exact e3.symm⟩
    subst hd hσ
    obtain ⟨⟨d0, m0'⟩, hp0⟩ := Option.isSome_iff_exists.mp hsome
    obtain ⟨v, hv, _⟩ := peek_ok R hp0
    refine ⟨v, hv, a3 F hF R e1 fun w W' R' s q _ => ?_⟩
    obtain ⟨v', hv', rd⟩ := peek_ok R' hp
    rw [hv] at hv'
    cases hv'
    refine ⟨xi, yi, rd.int, (q.get R' e2).int, ?_⟩
    refine k _ W' (R'.bind i (r := .val (.int _) m0) (.int _)) fun _ => Step.bind s.step R'.len i (r := .val _ _) trivial
end
end Dv

/-! Dv, part V: assignments, lists changed -/
namespace Dv
open PySem PySem.Spec PySem.W PyProof.Rows L2

section
variable {c : SC} {g : Gx}
/-! ### name = value -/
theorem ss_asg {F : Fx} {t : TE} {a : IE} {i : Nat} (h : SE F t (ev a)) : SS F false (tAsg t (gName i)) (evS (.asg i a)) := by
  intro σV σ W f D R he k
  simp only [evS] at he
  obtain ⟨⟨r, σ1⟩, e1, rfl⟩ := Option.map_eq_some_iff.mp he
  exact h R e1 fun v W' R' s q n => k _ W' (R'.bind i q) fun _ => Step.bind s.step R'.len i n
theorem sok_asg {i : Nat} {a : IE} {x : Str} {e : Expr} {p pos : Pos} (hx : chkLoc c i x = true) (hn : noComp e = true) (ha : EOK c g a e) : SOK c g (.asg i a) (.Assign [.Name x p] e pos) := by
  obtain ⟨t, a1, a2, _, _⟩ := ha.so
  obtain ⟨h1, h2⟩ := band hx
  refine ⟨tAsg t (gName i), fun X ok => ?_, fun F hF _ => ss_asg (a2 F hF)⟩
  obtain ⟨l1, l2⟩ := lookLoc ok.ok h2
  exact ps_set (by rw [ok.ok.N]; exact ok.ok.nd) (by rw [ok.ok.N]; exact of_decide_eq_true h1) l1 (a1 X ok.ok) (nc_swaps hn _ _ _) l2
theorem lc_swaps {elt : Expr} {gs : List Comprehension} {scope : Scope} {pos py : Pos} {y : Str} {l : Nat} {env : Env} (hk : env.blockKind = .function) :
    swapsWith (.ListComp elt gs scope pos) (some (.Name y py)) l env = pure (env.kindOf y == some .local && (py.line == pos.line && !(scope.names.any fun (n, k) => n == y && (k == .local || k == .cell)))) := by
  unfold swapsWith
  simp only [hk, Expr.pos]
  show pure _ = pure _
  congr 1
  simp [Bool.and_assoc]
theorem sok_asgL {i : Nat} {elt : IE} {tg : Tg} {it : II} {cnd : IO} {m : Msk} {x : Str} {e te ie : Expr} {ifs : List Expr} {scope : Scope} {p pos lp : Pos} (hx : chkLoc c i x = true) (ho : okHead ie = true) (hb : blkC c.N c.sc scope (ownOf tg te) = true) (ht : chkTg (blkSC c scope) tg te = true)
    (hi : IOK c g it te ie) (hc : COK (blkSC c scope) g cnd ifs) (he : EOK (blkSC c scope) g elt e) : SOK c g (.asg i (.lc elt tg it cnd m)) (.Assign [.Name x p] (.ListComp e [⟨te, ie, ifs, 0⟩] scope lp) pos) := by
  obtain ⟨wi, i1, i2, _⟩ := hi.ex
  obtain ⟨tt, c1, c2⟩ := hc.ex
  obtain ⟨t, e1, e2, _, _⟩ := he.so
  obtain ⟨h1, h2⟩ := band hx
  have hss : ∀ F : Fx, F.K = g.K → SS F false (tAsg (tLc wi (gTg g.K tg) tt t tg.slots) (gName i)) (evS (.asg i (.lc elt tg it cnd m))) := fun F hF => by
    rw [← hF]
    refine ss_asg ?_
    intro σV σ W r σ' Q R h k
    exact se_lc (i2 F hF) (c2 F hF) (e2 F hF) R h k
  refine ⟨_, fun X ok => ?_, fun F hF _ => hss F hF⟩
  obtain ⟨l1, l2⟩ := lookLoc ok.ok h2
  have hN : X.N.Nodup := by rw [ok.ok.N]; exact ok.ok.nd
  have hxi : X.N[i]? = some x := by rw [ok.ok.N]; exact of_decide_eq_true h1
  have bo : BlkOk X.N X.env.scope scope (ownOf tg te) := blkOk_by (by rw [ok.ok.N, ok.ok.sc]; exact hb)
  cases hs : (X.env.kindOf x == some .local && (p.line == lp.line && !(scope.names.any fun (n, k) => n == x && (k == .local || k == .cell)))) with
  | true =>
    have hloc : X.env.scope.names.lookup x = some .local := by
      have z := (band hs).1
      exact of_decide_eq_true (show decide (X.env.kindOf x = some .local) = true by simpa using z)
    have := ps_setLc (X := X) (i := i) (y := x) (py := p) (pos := lp) (spos := pos) (own := ownOf tg te) (scope := scope) (elt := e) (tg := te) (iter := ie) (ifs := ifs) (wi := wi) (g := gTg X.K tg) (tt := tt) (te := t) ok.ok.calm hN hxi hloc (by rw [lc_swaps (kind_blk ok), hs]) (i1 X ok.ok) bo
      (fun s H C cl fp => pg_tg (ok_blk ok.ok s H scope C cl fp) ht) (fun s H C cl fp => c1 _ (ok_blk ok.ok s H scope C cl fp)) (fun s H C cl fp => e1 _ (ok_blk ok.ok s H scope C cl fp)) (oh_fold ho X.env)
    rw [own_slots ht, ok.ok.K] at this
    exact this
  | false =>
    have pe := pe_lc (X := X) (pos := lp) (own := ownOf tg te) (scope := scope) (elt := e) (tg := te) (iter := ie) (ifs := ifs) (wi := wi) (g := gTg X.K tg) (tt := tt) (te := t) ok.ok.calm hN (i1 X ok.ok) bo
      (fun s H C cl fp => pg_tg (ok_blk ok.ok s H scope C cl fp) ht) (fun s H C cl fp => c1 _ (ok_blk ok.ok s H scope C cl fp)) (fun s H C cl fp => e1 _ (ok_blk ok.ok s H scope C cl fp)) (oh_fold ho X.env)
    rw [own_slots ht, ok.ok.K] at pe
    exact ps_set hN hxi l1 pe (by rw [lc_swaps (kind_blk ok), hs]) l2

/-! ### several names -/
theorem nc_sole {e : Expr} (h : noComp e = true) (t : Expr) (l : Nat) (env : Env) : swapsWithSole [t] e l env = pure false := nc_swaps h (some t) l env
theorem sok_unp {is : List Nat} {a : IE} {es : List Expr} {n : Nat} {e : Expr} {p pos : Pos} (ht : chkTg c (.tup is) (.Tuple es n p) = true) (hn : noComp e = true) (hn2 : noTupE e = true) (ha : EOK c g a e) : SOK c g (.unp is a) (.Assign [.Tuple es n p] e pos) := by
  obtain ⟨t, a1, a2, a3, _⟩ := ha.so
  refine ⟨tAsg t (gTg g.K (.tup is)), fun X ok => ?_, fun F hF _ => ?_⟩
  · have pg := pg_tg ok.ok ht
    rw [ok.ok.K] at pg
    exact ps_asg (a1 X ok.ok) pg (nc_sole hn _ _ _) (nt_stores hn2 _ _)
  · intro σV σ W f D R h k
    simp only [evS] at h
    obtain ⟨⟨x, σ1⟩, e1, h⟩ := Option.bind_eq_some_iff.mp h
    obtain ⟨⟨d, m⟩, e2, h⟩ := Option.bind_eq_some_iff.mp h
    obtain ⟨σ2, e3, rfl⟩ := Option.map_eq_some_iff.mp h
    rw [← hF]
    refine a3 F hF R e1 fun v W' R' s q _ => ?_
    exact tg_bind R' (q.get R' e2) (.inr ⟨is, rfl⟩) e3 fun σV' B => k σV' W' B.rel fun _ => s.step.less B.own
def swapOk (sc : Scope) (x y : Str) (px py : Pos) (u v : Expr) : Bool :=
  (decide (sc.names.lookup x = some .local) && decide (sc.names.lookup y = some .local)) && ((px.line == py.line && decide (x ≠ y)) && ((okHead u && okHead v) && (!([u, v].all (foldedForSure 8)) && !([u, v].all (constantsAlone 8)))))
theorem swap_of {x y : Str} {px py pt : Pos} {kt k2 : Nat} {pt2 : Pos} {u v : Expr} {env : Env} (hk : env.blockKind = .function) (h : swapOk env.scope x y px py u v = true) :
    swappedStores [.Tuple [.Name x px, .Name y py] kt pt] (.Tuple [u, v] k2 pt2) env = pure (some [x, y]) := by
  obtain ⟨h1, h⟩ := band h
  obtain ⟨h2, h⟩ := band h
  obtain ⟨h3, h⟩ := band h
  obtain ⟨h4, h5⟩ := band h
  obtain ⟨a1, a2⟩ := band h1
  obtain ⟨b1, b2⟩ := band h2
  obtain ⟨c1, c2⟩ := band h3
  have kx : env.kindOf x = some .local := of_decide_eq_true a1
  have ky : env.kindOf y = some .local := of_decide_eq_true a2
  have hne : x ≠ y := of_decide_eq_true b2
  have hl : px.line = py.line := by simpa using b1
  have f1 : ([u, v].all (foldedForSure 8)) = false := by cases z : [u, v].all (foldedForSure 8) with | false => rfl | true => rw [z] at h4; cases h4
  have f2 : ([u, v].all (constantsAlone 8)) = false := by cases z : [u, v].all (constantsAlone 8) with | false => rfl | true => rw [z] at h5; cases h5
  unfold swappedStores
  have hyx : (y == x) = false := by simpa using fun z => hne (z.symm)
  simp only [hk, kx, ky, hl, f1, f2, Expr.pos, List.length_cons, List.length_nil, List.head?_cons, Option.map_some, Option.getD_some, List.filterMap_cons, List.filterMap_nil, beq_self_eq_true, Bool.and_self, if_true, bne_self_eq_false, Bool.or_false, Bool.false_eq_true, if_false]
  have hd : ([x, y] : List Str).eraseDups = [x, y] := by
    simp [List.eraseDups_cons, hyx]
  rw [hd]
  have e1 : (!(true || (0 + 1 + 1 : Nat) == 3)) = false := rfl
  rw [e1, if_neg Bool.false_ne_true, if_neg]
  · rfl
  · intro hz
    simp only [List.any_cons, List.any_nil, Bool.or_false, Bool.or_eq_true] at hz
    rcases hz with hz | hz
    · cases u <;> first | (simp [okHead] at c1; done) | cases hz
    · cases v <;> first | (simp [okHead] at c2; done) | cases hz
theorem sok_par {i j : Nat} {a b : IE} {x y : Str} {px py pt pt2 pos : Pos} {kt k2 : Nat} {u v : Expr} (hij : i ≠ j) (hx : chkLoc c i x = true) (hy : chkLoc c j y = true) (hs : swapOk c.sc x y px py u v = true) (ha : EOK c g a u) (hb : EOK c g b v) :
    SOK c g (.par i j a b) (.Assign [.Tuple [.Name x px, .Name y py] kt pt] (.Tuple [u, v] k2 pt2) pos) := by
  obtain ⟨t, a1, a2, _, _⟩ := ha.so
  obtain ⟨t', b1, b2, _, _⟩ := hb.so
  obtain ⟨x1, x2⟩ := band hx
  obtain ⟨y1, y2⟩ := band hy
  obtain ⟨s1, s2⟩ := band hs
  obtain ⟨s3, s4⟩ := band s1
  obtain ⟨s5, s6⟩ := band s2
  obtain ⟨s7, s8⟩ := band s6
  obtain ⟨o1, o2⟩ := band s7
  refine ⟨tPar i j (tCons t (tCons t' tNil)), fun X ok => ?_, fun F hF _ => ?_⟩
  · refine ps_par ok.ok.calm (by rw [ok.ok.N]; exact ok.ok.nd) (by rw [ok.ok.N]; exact of_decide_eq_true x1) (by rw [ok.ok.N]; exact of_decide_eq_true y1) hij (by rw [ok.ok.sc]; exact of_decide_eq_true s3) (by rw [ok.ok.sc]; exact of_decide_eq_true s4)
      (pa_cons (a1 X ok.ok) (pa_cons (b1 X ok.ok) pa_nil (oh_star o2 _ _)) (oh_star o1 _ _)) (swap_of (kind_blk ok) (by rw [ok.ok.sc]; exact hs)) ?_
    exact nc_sole rfl _ _ _
  · intro σV σ W f D R h k
    simp only [evS] at h
    obtain ⟨⟨r, σ1⟩, e1, h⟩ := Option.bind_eq_some_iff.mp h
    obtain ⟨⟨q, σ2⟩, e2, rfl⟩ := Option.map_eq_some_iff.mp h
    refine a2 F hF R e1 fun v W1 R1 s1 q1 n1 => b2 F hF R1 e2 fun w W2 R2 s2 q2 n2 => ⟨v, w, rfl, ?_⟩
    have q1' := RsR.stp R1 s2 q1
    have R3 := R2.bind i q1'
    -- the second is not the first's object
    have q2' : RsR F (Ow (σV.set i (some v)) (σ2.set i r.slot)) W2 w q := by
      cases q with
      | val d m => exact q2
      | new o m =>
        obtain ⟨p, rfl, g1, g2, g3, g4⟩ := q2
        refine ⟨p, rfl, g1, fun ⟨l, hl⟩ => ?_, g3, g4⟩
        rcases ownAt_set R2.len hl with ⟨_, z⟩ | ⟨_, z1, z2⟩
        · exact g2 ⟨l, z⟩
        · obtain ⟨p', hp', hnew⟩ := n2
          cases hp'
          cases r with
          | val d m => cases z1
          | new o' m' =>
            obtain ⟨p'', e'', _, _, _, ow⟩ := q1
            rw [z2] at e''
            cases e''
            obtain ⟨u', eu, _⟩ := ow.some_
            rw [hnew] at eu
            cases eu
    refine k _ W2 (R3.bind j q2') fun _ => ?_
    exact Step.bind (Step.bind (s1.trans s2).step R2.len i n1) R3.len j (RsNew.stp s1 n2)

/-! ### x[k] = v -/
theorem asg_sub {o i : Expr} {pos : Pos} (h : okHead i = true) (env : Env) (v : Value) : assign (.Subscript o i pos) env v = (do
      let ov ← holding [v] (eval o env)
      let iv ← holding [v, ov] (eval i env)
      standAt pos
      holding [v, ov, iv] (setItem ov iv v)
      release [v, ov, iv] []) := by
  cases i <;> first | rfl | (simp [okHead] at h; done)
theorem isL_at {F : Fx} {σV : L2.St} {σ : En} {W : Wd} (R : Rel F σV σ W) {i : Nat} (h : isL σ i = true) : ∃ p, σV[i]? = some (some (.ref p)) := by
  unfold isL at h
  split at h
  · next xs m hp =>
    obtain ⟨v, hv, rd⟩ := peek_ok R hp
    obtain ⟨p, vs, rfl, _⟩ := rd.lst
    exact ⟨p, hv⟩
  · cases h
theorem sok_sti {i : Nat} {kx a : IE} {x : Str} {ke e : Expr} {xp sp pos : Pos} (hx : chkVar c i x = true) (hk : okHead ke = true) (hn : noComp e = true) (hke : EOK c g kx ke) (ha : EOK c g a e) : SOK c g (.sti i kx a) (.Assign [.Subscript (.Name x xp) ke sp] e pos) := by
  obtain ⟨t, a1, a2, _, _⟩ := ha.so
  obtain ⟨t', b1, b2, b3, _⟩ := hke.so
  have hv : ∃ tv, (∀ X, Ok c g X → PE X (.Name x xp) (tVar i)) := ⟨tVar i, fun X ok => by
    obtain ⟨h1, h2⟩ := band hx
    obtain ⟨h2, h3⟩ := band h2
    obtain ⟨n1, n2, _⟩ := nameB_of h3
    exact pe_var (by rw [ok.N]; exact of_decide_eq_true h1) (lookVis ok h2) n1 n2⟩
  obtain ⟨_, hv⟩ := hv
  refine ⟨tAsg t (gSub (tVar i) t' rSetL), fun X ok => ?_, fun F hF _ => ?_⟩
  · exact ps_asg (a1 X ok.ok) (pg_sub (hv X ok.ok) (b1 X ok.ok) set_list (fun v => asg_sub hk X.env v)) (nc_sole hn _ _ _) (by cases e <;> rfl)
  · intro σV σ W f D R h k
    simp only [evS] at h
    obtain ⟨⟨r, σ1⟩, e1, h⟩ := Option.bind_eq_some_iff.mp h
    dsimp only at h
    split at h
    rotate_left
    · cases h
    next hisL =>
    obtain ⟨⟨y, σ2⟩, e2, h⟩ := Option.bind_eq_some_iff.mp h
    obtain ⟨⟨d, m⟩, e3, h⟩ := Option.bind_eq_some_iff.mp h
    obtain ⟨σ3, e4, rfl⟩ := Option.map_eq_some_iff.mp h
    dsimp only at e4
    unfold stiS at e4
    split at e4
    rotate_left
    · cases e4
    next _ _ ds m' io kk hs =>
    obtain ⟨jx, e5, e4⟩ := Option.map_eq_some_iff.mp e4
    subst e4
    refine a2 F hF R e1 fun v W1 R1 s1 q1 n1 => ?_
    obtain ⟨W1', eH, R1', s1', dr⟩ := R1.kept s1 q1 n1
    show ∃ u, σV[i]? = some (some u) ∧ _
    rw [← eH]
    -- the list's address
    have hp := isL_at R1' hisL
    obtain ⟨p, hp⟩ := hp
    refine ⟨.ref p, hp, b3 F hF R1' e2 fun w W2 R2 s2 q2 _ => ?_⟩
    obtain ⟨p', e', _, ⟨vs, hvs, hdr⟩, _⟩ := R2.slot i _ hs
    rw [hp] at e'
    cases e'
    have hw : w = .int kk := (q2.get R2 e3).int
    subst hw
    refine ⟨p, vs, kk, jx, rfl, rfl, hvs, by rw [hdr.length]; exact e5, ?_⟩
    have dr2 := Dr.mono (R2.keepsS (Stp.refl _ _ _) _) (Dr.mono (R1'.keepsS s2 _) dr)
    obtain ⟨R3, s3⟩ := R2.wrL hs hp (DrAll.set (dr2.leM (Msk.le_or_r m' _)) jx (hdr.leM (Msk.le_or_l m' _)))
    exact k σV _ R3 fun _ => (s1'.trans s2).step.trans s3
end
end Dv

/-! Dv, part W: methods of lists, branches, loops -/
namespace Dv
open PySem PySem.Spec PySem.W PyProof.Rows L2

section
variable {c : SC} {g : Gx}
theorem pe_nm {X : Cx} (ok : Ok c g X) {i : Nat} {x : Str} {p : Pos} (hx : chkVar c i x = true) : PE X (.Name x p) (tVar i) := by
  obtain ⟨h1, h2⟩ := band hx
  obtain ⟨h2, h3⟩ := band h2
  obtain ⟨n1, n2, _⟩ := nameB_of h3
  exact pe_var (by rw [ok.N]; exact of_decide_eq_true h1) (lookVis ok h2) n1 n2
theorem pe_app {X : Cx} (ok : Ok c g X) {i : Nat} {x : Str} {e : Expr} {t : TE} {xp ap cp : Pos} (hx : chkVar c i x = true) (hl : (ap.endLine == cp.line) = true) (ho : okHead e = true) (he : PE X e t) :
    PE X (.Call (.Attribute (.Name x xp) ("append" : Str) ap) [e] [] cp) (tBM g.K "list" rAppend (tVar i) (tCons t tNil)) := by
  have := pe_bm (X := X) (apos := ap) (cpos := cp) F.plainAttrs_list F.slot_list_append F.type_list_append mt_append (pe_nm ok (p := xp) hx) (pa_cons he pa_nil (oh_star ho _ _)) rfl (by rw [oh_star ho]; rfl) hl (oh_star ho _ _)
  rw [ok.K] at this
  exact this
theorem isL_rd {F : Fx} {σV : L2.St} {σ : En} {W : Wd} (R : Rel F σV σ W) {i : Nat} (h : isL σ i = true) : ∃ p, σV[i]? = some (some (.ref p)) ∧ ∃ xs, SqL F.K W.H p xs := by
  unfold isL at h
  split at h
  · next xs m hp =>
    obtain ⟨v, hv, rd⟩ := peek_ok R hp
    obtain ⟨p, vs, rfl, h1, _⟩ := rd.lst
    exact ⟨p, hv, vs, h1⟩
  · cases h
theorem sok_app {i : Nat} {a : IE} {x : Str} {e : Expr} {xp ap cp p : Pos} (hx : chkVar c i x = true) (hl : (ap.endLine == cp.line) = true) (ho : okHead e = true) (ha : EOK c g a e) :
    SOK c g (.app i a) (.Expr (.Call (.Attribute (.Name x xp) ("append" : Str) ap) [e] [] cp) p) := by
  obtain ⟨t, a1, a2, _, _⟩ := ha.so
  refine ⟨tDrop (tBM g.K "list" rAppend (tVar i) (tCons t tNil)), fun X ok => ps_expr (pe_app ok.ok hx hl ho (a1 X ok.ok)) (nc_swaps rfl _ _ _), fun F hF hd => ?_⟩
  intro σV σ W f D R h k
  simp only [evS] at h
  split at h
  rotate_left
  · cases h
  next hisL =>
  obtain ⟨⟨r, σ1⟩, e1, h⟩ := Option.bind_eq_some_iff.mp h
  obtain ⟨σ2, e2, rfl⟩ := Option.map_eq_some_iff.mp h
  dsimp only at e2
  obtain ⟨p, hp, xs, hq⟩ := isL_rd R hisL
  refine ⟨.ref p, hp, .inl ⟨rfl, xs, by rw [← hF]; exact hq⟩, a2 F hF R e1 fun v W1 R1 s1 q1 n1 => ?_⟩
  obtain ⟨W1', eH, R1', s1', dr⟩ := R1.kept s1 q1 n1
  unfold appS at e2
  split at e2
  rotate_left
  · cases e2
  next ds m' io hs =>
  split at e2
  rotate_left
  · cases e2
  next hlt =>
  cases e2
  obtain ⟨p', e', _, ⟨vs, hvs, hdr⟩, _⟩ := R1'.slot i _ hs
  rw [hp] at e'
  cases e'
  refine ⟨p, vs, v, rfl, rfl, by rw [← eH]; exact hvs, by rw [lim_eq, hdr.length]; exact hlt, ?_⟩
  obtain ⟨R3, s3⟩ := R1'.wrL hs hp ((hdr.leM (Msk.le_or_l m' r.kept.2)).append (.cons (dr.leM (Msk.le_or_r m' _)) .nil))
  have := k σV _ R3 fun _ => s1'.step.trans s3
  rw [show (W1'.upd p (.lst (vs ++ [v]))).H = L2.upd W1'.H p (.lst (vs ++ [v])) from rfl, eH] at this
  exact this
theorem dropLast_dr {K : PySem.W.Frag} {R : Reg} {H : Hp} {vs : List V} {ds : List PyData} (h : DrAll K R H vs ds) : DrAll K R H vs.dropLast ds.dropLast := by
  rw [List.dropLast_eq_take, List.dropLast_eq_take, h.length]
  exact h.take _
theorem sok_pop {i : Nat} {x : Str} {xp ap cp p : Pos} (hx : chkVar c i x = true) (hl : (ap.endLine == cp.line) = true) :
    SOK c g (.pop i) (.Expr (.Call (.Attribute (.Name x xp) ("pop" : Str) ap) [] [] cp) p) := by
  refine ⟨tDrop (tBM0 g.K "list" rPop (tVar i)), fun X ok => ps_expr ?_ (nc_swaps rfl _ _ _), fun F hF hd => ?_⟩
  · have := pe_bm0 (X := X) (apos := ap) (cpos := cp) F.plainAttrs_list F.slot_list_pop F.type_list_pop mt_pop (pe_nm ok.ok (p := xp) hx) rfl hl
    rw [ok.ok.K] at this
    exact this
  · intro σV σ W f D R h k
    simp only [evS] at h
    obtain ⟨σ2, e2, rfl⟩ := Option.map_eq_some_iff.mp h
    unfold popS at e2
    split at e2
    rotate_left
    · cases e2
    next ds m' io hs =>
    split at e2
    · cases e2
    next hne =>
    cases e2
    obtain ⟨p, hp, _, ⟨vs, hvs, hdr⟩, _⟩ := R.slot i _ hs
    have hl := hdr.length
    have hpos : 0 < vs.length := by
      cases ds with
      | nil => simp at hne
      | cons _ _ => rw [hl]; simp
    refine ⟨.ref p, hp, .inl ⟨rfl, vs, SqL.of hvs⟩, p, vs, vs[vs.length - 1], rfl, rfl, hvs, List.getElem?_eq_getElem (by omega), ?_⟩
    obtain ⟨R3, s3⟩ := R.wrL hs hp (dropLast_dr hdr)
    exact k σV _ R3 fun _ => s3

/-! ### branches -/
theorem sok_ifs {a : IE} {sa sb : ISL} {e : Expr} {ta tb : List Stmt} {p : Pos} (ht : tstOk a = true) (ha : EOK c g a e) (h1 : SLOK c g sa ta) (h2 : SLOK c g sb tb) : SOK c g (.ifs a sa sb) (.If e ta tb p) := by
  obtain ⟨tt, p1, _, p3, _⟩ := ha.pt ht
  obtain ⟨u1, q1, q2⟩ := h1.ex
  obtain ⟨u2, r1, r2⟩ := h2.ex
  refine ⟨tIfS tt u1 u2, fun X ok => ps_if (p1 X ok.ok) (q1 X ok) (r1 X ok), fun F hF hd => ?_⟩
  intro σV σ W f D R h k
  simp only [evS] at h
  obtain ⟨⟨b, σ1⟩, e1, h⟩ := Option.bind_eq_some_iff.mp h
  refine p3 F hF R (by unfold evT at e1; exact e1) fun W1 R1 s1 => ?_
  cases b with
  | true =>
    rw [if_pos rfl]
    exact q2 F hF (fun z => hd (by simp only [hvS, z, Bool.true_or])) R1 (by simpa using h) ((k.pre fun _ => s1.step).flag fun z => by simp only [hvS, Bool.or_eq_false_iff] at z; exact z.1)
  | false =>
    rw [if_neg (by simp)]
    exact r2 F hF (fun z => hd (by simp only [hvS, z, Bool.or_true])) R1 (by simpa using h) ((k.pre fun _ => s1.step).flag fun z => by simp only [hvS, Bool.or_eq_false_iff] at z; exact z.2)

/-! ### blocks -/
theorem slok_nil : SLOK c g .nil [] := ⟨tNext, fun _ _ => pss_nil, fun F _ _ => by
  intro σV σ W f D R h k
  simp only [evSL, Option.some.injEq] at h
  subst h
  exact k σV W R fun _ => Step.refl _ _⟩
theorem ss_seq {F : Fx} {s : IS} {ss : ISL} {t u : TS} (h1 : SS F (hvS s) t (evS s)) (h2 : SS F (hvL ss) u (evSL ss)) : SS F (hvL (.cons s ss)) (tSeq t u) (evSL (.cons s ss)) := by
  intro σV σ W f D R h k
  simp only [evSL] at h
  obtain ⟨f1, e1, h⟩ := Option.bind_eq_some_iff.mp h
  have z1 : hvL (.cons s ss) = false → hvS s = false := fun z => by simp only [hvL, Bool.or_eq_false_iff] at z; exact z.1
  have z2 : hvL (.cons s ss) = false → hvL ss = false := fun z => by simp only [hvL, Bool.or_eq_false_iff] at z; exact z.2
  refine h1 R e1 ?_
  cases f1 with
  | nx σ1 =>
    intro σV1 W1 R1 s1
    have key : EndR F (hvL (.cons s ss)) σV σ W D f := k
    refine h2 R1 h ?_
    cases hv : hvL (.cons s ss) with
    | false =>
      rw [hv] at key
      exact (key.pre fun _ => s1 (z1 hv)).flag fun _ => z2 hv
    | true =>
      rw [hv] at key
      exact (key.pre fun z => by cases z).flag fun z => by cases z
  | rt r σ1 =>
    cases h
    exact k.flag z1
  | bk σ1 =>
    cases h
    exact k.flag z1
  | ct σ1 =>
    cases h
    exact k.flag z1
theorem slok_cons {s : IS} {ss : ISL} {st : Stmt} {sts : List Stmt} (h1 : SOK c g s st) (h2 : SLOK c g ss sts) : SLOK c g (.cons s ss) (st :: sts) := by
  obtain ⟨t, p1, p2⟩ := h1.ex
  obtain ⟨u, q1, q2⟩ := h2.ex
  exact ⟨tSeq t u, fun X ok => pss_cons (p1 X ok) (q1 X ok), fun F hF hd => ss_seq (p2 F hF fun z => hd (by simp only [hvL, z, Bool.true_or])) (q2 F hF fun z => hd (by simp only [hvL, z, Bool.or_true]))⟩
theorem slok_no {ss : ISL} {sts : List Stmt} : SLOK c g (.cons .no ss) sts := ⟨tNever, fun _ _ => pss_never, fun F _ _ => by
  intro σV σ W f D R h k
  simp [evSL, evS] at h⟩

/-! ### loops -/
theorem sok_fors {tg : Tg} {it : II} {body : ISL} {te ie : Expr} {sb : List Stmt} {p : Pos} (ho : okHead ie = true) (ht : chkTg c tg te = true) (hv : hvL body = false) (hi : IOK c g it te ie) (hb : SLOK c g body sb) : SOK c g (.fors tg it body) (.For te ie sb [] p) := by
  obtain ⟨wi, i1, _, i3⟩ := hi.ex
  obtain ⟨u, q1, q2⟩ := hb.ex
  refine ⟨tFor wi (gTg g.K tg) u, fun X ok => ?_, fun F hF hd => ?_⟩
  · have pg := pg_tg ok.ok ht
    rw [ok.ok.K] at pg
    exact ps_for ok.ps ok.ok.calm (i1 X ok.ok) pg (q1 X ok) (oh_fold ho X.env)
  · intro σV σ W f D R h k
    simp only [evS] at h
    obtain ⟨⟨items, m, σ1⟩, e1, h⟩ := Option.bind_eq_some_iff.mp h
    dsimp only at h
    have hvS' : hvS (.fors tg it body) = false := hv
    rw [hvS'] at k
    refine i3 F hF R e1 fun J W1 R1 s1 walk => ?_
    have ss : SS F (hvL body) u (evSL body) := q2 F hF fun z => by rw [hv] at z; cases z
    rw [hv] at ss
    generalize hgo : forGo (fun x s => bindT tg x m s) (fun s => evSL body s) = go at h
    refine ⟨fun i n σVi H => n = items.length - i ∧ i ≤ items.length ∧ ∃ (Wi : Wd) (τi : En), Wi.H = H ∧ Rel F σVi τi Wi ∧ Step (Ow σV σ1) W1 (Ow σVi τi) Wi ∧ go (items.drop i) τi = some f, ⟨items.length, by simp, Nat.zero_le _, W1, σ1, rfl, R1, Step.refl _ _, by simpa using h⟩, ?_⟩
    rintro i n σVi H ⟨rfl, hin, Wi, τi, rfl, Ri, si, hgo'⟩
    have wk := walk σVi τi Wi Ri si
    by_cases hlt : i < items.length
    · right
      have hd : items[i]? = some items[i] := List.getElem?_eq_getElem hlt
      have hdrop : items.drop i = items[i] :: items.drop (i + 1) := List.drop_eq_getElem_cons hlt
      generalize items[i] = d at hd hdrop
      rw [hdrop, ← hgo] at hgo'
      unfold forGo at hgo'
      rw [hgo] at hgo'
      obtain ⟨τ1, b1, hgo'⟩ := Option.bind_eq_some_iff.mp hgo'
      obtain ⟨f1, b2, hgo'⟩ := Option.bind_eq_some_iff.mp hgo'
      refine ⟨wk.go i d hd, fun σV' H' => ∃ (Wi : Wd) (τi : En), Wi.H = H' ∧ Rel F σV' τi Wi ∧ Step (Ow σV σ1) W1 (Ow σV' τi) Wi ∧ go (items.drop (i + 1)) τi = some f,
        fun σV' H' nx => ⟨items.length - (i + 1), by omega, rfl, hlt, nx⟩, fun x H' hy => ?_⟩
      obtain ⟨W2, rfl, R2, s2, dr⟩ := wk.yld i d x H' hd hy
      rw [← hF]
      refine tg_bind R2 (.inl dr) (.inl dr) b1 fun σV2 B => ?_
      have st2 : Step (Ow σV σ1) W1 (Ow σV2 τ1) W2 := (si.trans s2.step).less B.own
      refine ss B.rel b2 ?_
      cases f1 with
      | nx τ2 => exact fun σV' W' R' s' => ⟨W', τ2, rfl, R', st2.trans (s' rfl), hgo'⟩
      | ct τ2 => exact fun σV' W' R' s' => ⟨W', τ2, rfl, R', st2.trans (s' rfl), hgo'⟩
      | bk τ2 =>
        cases hgo'
        exact fun σV' W' R' s' => k σV' W' R' fun _ => s1.step.trans (st2.trans (s' rfl))
      | rt r τ2 =>
        cases hgo'
        exact fun v σV' W' R' s' q => k v σV' W' R' (fun _ => s1.step.trans (st2.trans (s' rfl))) q
    · left
      have e : i = items.length := by omega
      subst e
      rw [List.drop_length, ← hgo] at hgo'
      unfold forGo at hgo'
      cases hgo'
      exact ⟨wk.stop _ (Nat.le_refl _), k σVi Wi Ri fun _ => s1.step.trans si⟩
theorem sok_whl {n : Nat} {a : IE} {body : ISL} {e : Expr} {sb : List Stmt} {p : Pos} (ht : tstOk a = true) (ha : EOK c g a e) (hv : hvL body = false) (hb : SLOK c g body sb) : SOK c g (.whl n a body) (.While e sb [] p) := by
  obtain ⟨tt, p1, _, p3, _⟩ := ha.pt ht
  obtain ⟨u, q1, q2⟩ := hb.ex
  refine ⟨tWhile tt u, fun X ok => ps_while ok.ps (p1 X ok.ok) (q1 X ok), fun F hF hd => ?_⟩
  intro σV σ W f D R h k
  simp only [evS] at h
  have hvS' : hvS (.whl n a body) = false := hv
  rw [hvS'] at k
  have ss : SS F (hvL body) u (evSL body) := q2 F hF fun z => by rw [hv] at z; cases z
  rw [hv] at ss
  generalize hgo : whlGo (fun s => evT a s) (fun s => evSL body s) = go at h
  refine ⟨fun n σVi H => ∃ (Wi : Wd) (τi : En), Wi.H = H ∧ Rel F σVi τi Wi ∧ Step (Ow σV σ) W (Ow σVi τi) Wi ∧ go n τi = some f, ⟨n, W, σ, rfl, R, Step.refl _ _, h⟩, ?_⟩
  rintro n σVi H ⟨Wi, τi, rfl, Ri, si, hgo'⟩
  cases n with
  | zero =>
    rw [← hgo] at hgo'
    unfold whlGo at hgo'
    cases hgo'
  | succ n =>
    rw [← hgo] at hgo'
    unfold whlGo at hgo'
    rw [hgo] at hgo'
    obtain ⟨⟨b, τ1⟩, b1, hgo'⟩ := Option.bind_eq_some_iff.mp hgo'
    refine p3 F hF Ri (by unfold evT at b1; exact b1) fun W1 R1 s1 => ?_
    cases b with
    | false =>
      rw [if_neg (by simp)] at hgo' ⊢
      cases hgo'
      exact k σVi W1 R1 fun _ => si.trans s1.step
    | true =>
      rw [if_pos rfl] at hgo' ⊢
      obtain ⟨f1, b2, hgo'⟩ := Option.bind_eq_some_iff.mp hgo'
      refine ⟨fun σV' H' => ∃ (Wi : Wd) (τi : En), Wi.H = H' ∧ Rel F σV' τi Wi ∧ Step (Ow σV σ) W (Ow σV' τi) Wi ∧ go n τi = some f, fun σV' H' nx => ⟨n, Nat.lt_succ_self n, nx⟩, ?_⟩
      have st2 := si.trans s1.step
      refine ss R1 b2 ?_
      cases f1 with
      | nx τ2 => exact fun σV' W' R' s' => ⟨W', τ2, rfl, R', st2.trans (s' rfl), hgo'⟩
      | ct τ2 => exact fun σV' W' R' s' => ⟨W', τ2, rfl, R', st2.trans (s' rfl), hgo'⟩
      | bk τ2 =>
        cases hgo'
        exact fun σV' W' R' s' => k σV' W' R' fun _ => st2.trans (s' rfl)
      | rt r τ2 =>
        cases hgo'
        exact fun v σV' W' R' s' q => k v σV' W' R' (fun _ => st2.trans (s' rfl)) q
end
end Dv

/-! Dv, part X: lists that a call told are changed; every statement that is held against the syntax -/
namespace Dv
open PySem PySem.Spec PySem.W PyProof.Rows L2

section
variable {F : Fx}
/-- the heap while the lists of Sd get at most n more items each -/
structure Hav (W : Wd) (H' : Hp) (n : Nat) : Prop where
  keep : ∀ a o, W.H a = some o → (W.Sd a → ∀ ws, o ≠ .lst ws) → H' a = some o
  live : ∀ a o, W.H a = some o → ∃ u, H' a = some u
  lst : ∀ a ws, W.Sd a → W.H a = some (.lst ws) → ∃ ws', H' a = some (.lst ws') ∧ ws'.length ≤ ws.length + n
theorem Hav.app {W : Wd} {H' : Hp} {n : Nat} (h : Hav W H' n) {a : Addr} {ws ws' : List V} (ha : W.Sd a) (e0 : W.H a = some (.lst ws)) (e : H' a = some (.lst ws')) (y : V) : Hav W (L2.upd H' a (.lst (ws' ++ [y]))) (n + 1) := by
  refine ⟨fun b o eb nb => ?_, fun b o eb => ?_, fun b ws hb eb => ?_⟩
  · rw [upd_ne (fun z => by subst z; rw [e0] at eb; cases eb; exact nb ha ws rfl)]
    exact h.keep b o eb nb
  · by_cases z : b = a
    · subst z; exact ⟨_, upd_same⟩
    · rw [upd_ne z]; exact h.live b o eb
  · obtain ⟨w, e1, e2⟩ := h.lst b ws hb eb
    by_cases z : b = a
    · subst z
      rw [e] at e1
      cases e1
      exact ⟨_, upd_same, by rw [List.length_append]; simp; omega⟩
    · rw [upd_ne z]
      exact ⟨w, e1, by omega⟩
theorem kill_get {σ : En} {j : Nat} {s : Sl} (h : (killD σ)[j]? = some s) : ∃ s', σ[j]? = some s' ∧ s = s'.kill := by
  unfold killD at h
  rw [List.getElem?_map, Option.map_eq_some_iff] at h
  obtain ⟨s', h1, h2⟩ := h
  exact ⟨s', h1, h2.symm⟩
theorem rg_noD {W : Wd} {m : Msk} (hm : ¬ m.d = true) {H' : Hp} (W' : Wd) (hW : W'.Sc = W.Sc) (hk : ∀ a o, W.H a = some o → W.Sc a → H' a = some o) (ht : ∀ a xs, W.H a = some (.tup xs) → H' a = some (.tup xs)) (hf : ∀ a o u, W.H a = some (.frz o u) → H' a = some (.frz o u)) : Keeps (W.rg m) W.H (W'.rg m) H' := by
  refine ⟨fun a h => ?_, fun h => h, fun a o h e => ?_, ht, hf⟩
  · rcases h with ⟨z, _⟩ | ⟨z, h⟩
    · exact absurd z hm
    · exact .inr ⟨z, by rw [hW]; exact h⟩
  · rcases h with ⟨z, _⟩ | ⟨z, h⟩
    · exact absurd z hm
    · exact hk a o e h
/-- behind a change of the told lists -/
theorem hav_rel {σV σV' : L2.St} {σ : En} {W : Wd} {H' H3 : Hp} {n i x : Nat} {p p' : Addr} (R : Rel F σV σ W) (hD : ∀ a, ¬ F.D0 a) {ds : List PyData} {m : Msk} (hs : σ[i]? = some (.own (.l ds) m false)) (hp : σV[i]? = some (some (.ref p)))
    (hl : σV'.length = σV.length) (ho : ∀ j, j ≠ x → σV'[j]? = σV[j]?) (hv : Hav W H' n) (hp' : H' p' = none)
    (e3 : ∀ a, a ≠ p → a ≠ p' → H3 a = H' a) (ep : ∃ u, H3 p = some u) : Rel F σV' (((killD σ).set x .emp).set i .emp) ⟨H3, fun _ => False, W.Sc⟩ := by
  have hO : OwnAt σV σ i p := ⟨⟨.l ds, m, false, .inl hs⟩, hp⟩
  obtain ⟨q0, e0, n0, ow0, c0⟩ := R.slot i _ hs
  rw [hp] at e0
  cases e0
  obtain ⟨vs0, hvs0, _⟩ := ow0
  have c0 : F.H0 p = none := c0
  have np' : ∀ a o, W.H a = some o → a ≠ p' := fun a o e z => by
    obtain ⟨u, q⟩ := hv.live a o e
    rw [z, hp'] at q
    cases q
  -- what stays
  have stay : ∀ a o, W.H a = some o → (W.Sd a → ∀ ws, o ≠ .lst ws) → a ≠ p → H3 a = some o := fun a o e nd na => by
    rw [e3 a na (np' a o e)]
    exact hv.keep a o e nd
  have alive : ∀ a o, W.H a = some o → ∃ u, H3 a = some u := fun a o e => by
    by_cases z : a = p
    · subst z; exact ep
    · rw [e3 a z (np' a o e)]; exact hv.live a o e
  have kp : ∀ mm : Msk, ¬ mm.d = true → Keeps (W.rg mm) W.H (Wd.rg ⟨H3, fun _ => False, W.Sc⟩ mm) H3 := fun mm hm => by
    refine rg_noD hm ⟨H3, fun _ => False, W.Sc⟩ rfl (fun a o e hc => ?_) (fun a xs e => ?_) (fun a o u e => ?_)
    · exact stay a o e (fun z => (R.disj a z hc).elim) (fun z => n0 (by rw [← z]; exact .inr hc))
    · exact stay a _ e (fun _ _ z => by cases z) (fun z => by rw [z, hvs0] at e; cases e)
    · exact stay a _ e (fun _ _ z => by cases z) (fun z => by rw [z, hvs0] at e; cases e)
  have getS : ∀ (j : Nat) (s : Sl), (((killD σ).set x .emp).set i .emp)[j]? = some s → s = .emp ∨ (j ≠ i ∧ j ≠ x ∧ ∃ s', σ[j]? = some s' ∧ s = s'.kill) := fun j s e => by
    by_cases hji : j = i
    · subst hji
      have hlt : j < ((killD σ).set x .emp).length := by have := (List.getElem?_eq_some_iff.mp e).1; rwa [List.length_set] at this
      rw [List.getElem?_set_self hlt] at e
      exact .inl (Option.some.inj e).symm
    · rw [List.getElem?_set_ne (Ne.symm hji)] at e
      by_cases hjx : j = x
      · subst hjx
        have hlt : j < (killD σ).length := by have := (List.getElem?_eq_some_iff.mp e).1; rwa [List.length_set] at this
        rw [List.getElem?_set_self hlt] at e
        exact .inl (Option.some.inj e).symm
      · rw [List.getElem?_set_ne (Ne.symm hjx)] at e
        exact .inr ⟨hji, hjx, kill_get e⟩
  have own' : ∀ j q, OwnAt σV' (((killD σ).set x .emp).set i .emp) j q → j ≠ i ∧ OwnAt σV σ j q := fun j q ⟨⟨o2, m2, io2, h1⟩, h2⟩ => by
    have key : ∀ s, (((killD σ).set x .emp).set i .emp)[j]? = some s → s.owned = true → j ≠ i ∧ j ≠ x ∧ σ[j]? = some s := fun s e hso => by
      rcases getS j s e with z | ⟨g1, g2, s', g3, g4⟩
      · rw [z] at hso; cases hso
      · refine ⟨g1, g2, ?_⟩
        cases s' with
        | emp => rw [g4] at hso; cases hso
        | val d m => rw [g4] at hso; simp only [Sl.kill] at hso; split at hso <;> cases hso
        | own o m io => rw [g4] at hso; rw [g3, g4]; simp only [Sl.kill] at hso ⊢; split at hso; cases hso; next hh => rw [if_neg hh]
        | lck o m io => rw [g4] at hso; rw [g3, g4]; simp only [Sl.kill] at hso ⊢; split at hso; cases hso; next hh => rw [if_neg hh]
    rcases h1 with h1 | h1
    · obtain ⟨g1, g2, g3⟩ := key _ h1 rfl
      exact ⟨g1, ⟨o2, m2, io2, .inl g3⟩, by rw [← ho j g2]; exact h2⟩
    · obtain ⟨g1, g2, g3⟩ := key _ h1 rfl
      exact ⟨g1, ⟨o2, m2, io2, .inr g3⟩, by rw [← ho j g2]; exact h2⟩
  refine ⟨by rw [hl, List.length_set, List.length_set]; unfold killD; rw [List.length_map]; exact R.len, fun a h => ?_, fun a h _ => h, R.newC, fun a h => h.elim, fun a o e nio => ?_, fun a o e => ?_, fun j s e => ?_, fun j k q h1 h2 => R.dist j k q (own' j q h1).2 (own' k q h2).2⟩
  · rcases h with h | h
    · exact h.elim
    · obtain ⟨u, q⟩ := R.live a (.inr h)
      exact alive a u q
  · refine stay a o (R.base a o e nio) (fun z => ?_) (fun z => ?_)
    · rcases R.oldD a z with y | y
      · exact (hD a y).elim
      · rw [e] at y; cases y
    · rw [z, c0] at e; cases e
  · obtain ⟨u, q⟩ := R.old a o e
    exact alive a u q
  · rcases getS j s e with rfl | ⟨g1, g2, s', g3, rfl⟩
    · trivial
    · have sl := R.slot j s' g3
      rw [← ho j g2] at sl
      have ownD : ∀ (o : OC) (mm : Msk) (io : Bool), (s' = .own o mm io ∨ s' = .lck o mm io) → ∀ q, σV'[j]? = some (some (.ref q)) → ¬ W.S q → q ≠ p := fun o mm io hs' q hq hnS z => by
        have hO2 : OwnAt σV σ j q := ⟨⟨o, mm, io, by rcases hs' with z | z; exact .inl (by rw [g3, z]); exact .inr (by rw [g3, z])⟩, by rw [← ho j g2]; exact hq⟩
        exact g1 (R.dist j i p (z ▸ hO2) hO)
      cases s' with
      | emp => trivial
      | val d mm =>
        show SlR F _ _ (if (Dv.nm d mm).d = true then Sl.emp else .val d (Dv.nm d mm))
        split
        · trivial
        · next hm => obtain ⟨v, e1, e2⟩ := sl; exact ⟨v, e1, Dr.mono (kp _ hm) e2.atNm⟩
      | own o mm io =>
        show SlR F _ _ (if mm.d = true then Sl.emp else .own o mm io)
        split
        · trivial
        · next hm =>
          obtain ⟨q, e1, e2, e3', e4⟩ := sl
          have hne := ownD o mm io (.inl rfl) q e1 e2
          exact ⟨q, e1, fun z => z.elim (fun y => y) fun y => e2 (.inr y), e3'.mono (kp mm hm) fun u eu => stay q u eu (fun z => (e2 (.inl z)).elim) hne, e4⟩
      | lck o mm io =>
        show SlR F _ _ (if mm.d = true then Sl.emp else .lck o mm io)
        split
        · trivial
        · next hm =>
          obtain ⟨q, e1, e2, e3', e4⟩ := sl
          have hne := ownD o mm io (.inr rfl) q e1 e2
          exact ⟨q, e1, fun z => z.elim (fun y => y) fun y => e2 (.inr y), e3'.mono (kp mm hm) fun u eu => stay q u eu (fun z => (e2 (.inl z)).elim) hne, e4⟩
end
section
variable {c : SC} {g : Gx}
theorem hvOk_at {ds : List PyData} (h : hvOk ds = true) : ds.length < LIM ∧ ∀ (i : Nat) (d : PyData), ds[i]? = some d → ∃ es, d = .list es ∧ es.length + ds.length < LIM := by
  unfold hvOk at h
  obtain ⟨h1, h2⟩ := band h
  refine ⟨of_decide_eq_true h1, fun i d hd => ?_⟩
  have q := List.all_eq_true.mp h2 d (List.mem_of_getElem? hd)
  cases d <;> try (cases q; done)
  exact ⟨_, rfl, of_decide_eq_true q⟩
theorem slok_hv {i x : Nat} {ss : ISL} {sts : List Stmt} {xn tn : Str} {n : Int} {kk : Nat} {xp tp fp xp2 ap cp0 cp ep tp2 ap2 lp cp2 ep2 : Pos} (hx : chkLoc c x xn = true) (hx2 : chkVar c x xn = true) (ht : chkVar c i tn = true) (hl : (ap.endLine == cp.line) = true) (hl2 : (ap2.endLine == cp2.line) = true) (h : SLOK c g ss sts) :
    SLOK c g (.hv i x ss) (.For (.Name xn xp) (.Name tn tp) [.Expr (.Call (.Attribute (.Name xn xp2) ("append" : Str) ap) [.Constant (.int n) kk cp0] [] cp) ep] [] fp ::
      .Expr (.Call (.Attribute (.Name tn tp2) ("append" : Str) ap2) [.List [] lp] [] cp2) ep2 :: sts) := by
  obtain ⟨u, q1, q2⟩ := h.ex
  refine ⟨tSeq (tFor (iSeq g.K (tVar i)) (gName x) (tDrop (tBM g.K "list" rAppend (tVar x) (tCons (tC (.int n)) tNil)))) (tSeq (tDrop (tBM g.K "list" rAppend (tVar i) (tCons (tLst tNil) tNil))) u), fun X ok => ?_, fun F hF hd => ?_⟩
  · have hN : X.N.Nodup := by rw [ok.ok.N]; exact ok.ok.nd
    obtain ⟨h1, h2⟩ := band hx
    obtain ⟨l1, l2⟩ := lookLoc ok.ok h2
    have pi := pi_seq (tg := .Name xn xp) (pe_nm ok.ok (p := tp) ht)
    rw [ok.ok.K] at pi
    refine pss_cons (ps_for ok.ps ok.ok.calm pi (pg_name hN (by rw [ok.ok.N]; exact of_decide_eq_true h1) l1 l2) (pss_one (ps_expr (pe_app ok.ok hx2 hl rfl pe_int) (nc_swaps rfl _ _ _)))) (pss_cons (ps_expr (pe_app ok.ok ht hl2 rfl (pe_lst pa_nil)) (nc_swaps rfl _ _ _)) (q1 X ok))
  · have hD := hd rfl
    intro σV σ W f D R h k
    simp only [evSL] at h
    split at h
    rotate_left
    · cases h
    next ds m hs =>
    split at h
    rotate_left
    · cases h
    next hc =>
    obtain ⟨c1, c2⟩ := band hc
    obtain ⟨c3, c4⟩ := band c1
    obtain ⟨c5, c6⟩ := band c2
    obtain ⟨c7, c8⟩ := band c6
    have mc : m.c = false := by simpa using c3
    have mg : m.g = false := by simpa using c4
    have hlt : x < σ.length := of_decide_eq_true c7
    have hxi : x ≠ i := by simpa using c8
    obtain ⟨lim, hds⟩ := hvOk_at c5
    obtain ⟨p, hp, nS, ⟨vs, hvs, hdr⟩, c0⟩ := R.slot i _ hs
    have hlen := hdr.length
    have pP : W.Sd p → ∀ ws, HO.lst vs ≠ .lst ws := fun z => (nS (.inl z)).elim
    refine ⟨.ref p, hp, p, rfl, .inl ⟨⟨vs, SqL.of hvs⟩, ?_⟩⟩
    refine ⟨fun j n σj Hj => n = vs.length - j ∧ j ≤ vs.length ∧ σj.length = σV.length ∧ (∀ l, l ≠ x → σj[l]? = σV[l]?) ∧ Hav W Hj j, ⟨vs.length, by simp, Nat.zero_le _, rfl, fun _ _ => rfl, ⟨fun _ _ e _ => e, fun a o e => ⟨o, e⟩, fun a ws _ e => ⟨ws, e, by omega⟩⟩⟩, ?_⟩
    rintro j n σj Hj ⟨rfl, hj, sl, so, hav⟩
    have hpj : Hj p = some (.lst vs) := hav.keep p _ hvs pP
    by_cases hjl : j < vs.length
    · right
      obtain ⟨v, hv⟩ : ∃ v, vs[j]? = some v := ⟨_, List.getElem?_eq_getElem hjl⟩
      obtain ⟨d, hd, dr⟩ := hdr.getV hv
      obtain ⟨es, rfl, hes⟩ := hds j d hd
      obtain ⟨a, ws, rfl, ha, hws, hwl⟩ : ∃ a ws, v = .ref a ∧ W.Sd a ∧ W.H a = some (.lst ws) ∧ ws.length = es.length := by
        cases dr with
        | lst b1 b2 b3 =>
          rcases b1 with ⟨_, b1⟩ | ⟨b0, _⟩
          · exact ⟨_, _, rfl, b1, b2, b3.length⟩
          · rw [mc] at b0; cases b0
        | lstI b1 _ _ =>
          have b1 : m.g = true := b1
          rw [mg] at b1; cases b1
      refine ⟨⟨vs, .ref a, SqL.of hpj, hv⟩, fun σ' H' => σ'.length = σV.length ∧ (∀ l, l ≠ x → σ'[l]? = σV[l]?) ∧ Hav W H' (j + 1), fun σ' H' nx => ⟨vs.length - (j + 1), by omega, rfl, hjl, nx⟩, ?_⟩
      rintro y H' ⟨rfl, hy⟩
      have hy := hy vs (SqL.of hpj)
      rw [hv] at hy
      cases hy
      obtain ⟨ws', e1, e2⟩ := hav.lst a ws ha hws
      refine ⟨.ref a, ?_, .inl ⟨rfl, ws', SqL.of e1⟩, a, ws', .int n, rfl, rfl, e1, ?_, by rw [List.length_set]; exact sl, fun l hl => ?_, hav.app ha hws e1 _⟩
      · rw [List.getElem?_set_self (by rw [sl, R.len]; exact hlt)]
      · rw [lim_eq]
        have : ws.length + ds.length < LIM := by rw [hwl]; exact hes
        omega
      · rw [List.getElem?_set_ne (Ne.symm hl)]
        exact so l hl
    · left
      refine ⟨⟨vs, SqL.of hpj, by omega⟩, .ref p, by rw [so i (Ne.symm hxi)]; exact hp, .inl ⟨rfl, vs, SqL.of hpj⟩, by show 0 ≤ sizeLine; exact Nat.zero_le _, fun p' hp' => ?_⟩
      have hne : p ≠ p' := fun z => by rw [z, hp'] at hpj; cases hpj
      refine ⟨p, vs, .ref p', rfl, rfl, by rw [upd_ne hne]; exact hpj, by rw [lim_eq]; omega, ?_⟩
      have R' := hav_rel (H3 := L2.upd (L2.upd Hj p' (.lst [])) p (.lst (vs ++ [.ref p']))) R hD hs hp sl so hav hp' (fun a h1 h2 => by rw [upd_ne h1, upd_ne h2]) ⟨_, upd_same⟩
      refine q2 F hF (fun _ => hD) R' h ?_
      have k : EndR F true σV σ W D f := k
      exact (k.pre fun z => by cases z).flag fun z => by cases z
end
end Dv

/-! Dv, part Y: every statement that is held against the syntax -/
namespace Dv
open PySem PySem.Spec PySem.W PyProof.Rows L2

def isLC : Expr → Bool
  | .ListComp .. => true
  | _ => false
/-- for x in t: x.append(n), then t.append([]) -/
def chkHv (c : SC) (i x : Nat) : Stmt → Stmt → Bool
  | .For (.Name xn _) (.Name tn _) [.Expr (.Call (.Attribute (.Name xn2 _) a ap) [.Constant (.int _) _ _] [] cp) _] [] _, .Expr (.Call (.Attribute (.Name tn2 _) a2 ap2) [.List [] _] [] cp2) _ =>
    ((decide (xn = xn2) && decide (tn = tn2)) && (decide (a = ("append" : Str)) && decide (a2 = ("append" : Str)))) && (((ap.endLine == cp.line) && (ap2.endLine == cp2.line)) && (chkLoc c x xn && (chkVar c x xn && chkVar c i tn)))
  | _, _ => false
/-- statements without blocks -/
def chkAt (c : SC) : IS → Stmt → Bool
  | .ex e, .Expr v _ => noComp v && chkE c e v
  | .asg i e, .Assign [.Name x _] v _ => chkLoc c i x && ((noComp v || isLC v) && chkE c e v)
  | .unp is e, .Assign [.Tuple es k p] v _ => (noComp v && noTupE v) && (chkTg c (.tup is) (.Tuple es k p) && chkE c e v)
  | .par i j a b, .Assign [.Tuple [.Name x px, .Name y py] _ _] (.Tuple [u, v] _ _) _ => (i != j && (chkLoc c i x && chkLoc c j y)) && (swapOk c.sc x y px py u v && (chkE c a u && chkE c b v))
  | .sti i k e, .Assign [.Subscript (.Name x _) kx _] v _ => (noComp v && okHead kx) && (chkVar c i x && (chkE c k kx && chkE c e v))
  | .app i e, .Expr (.Call (.Attribute (.Name x _) a ap) [v] [] cp) _ => (decide (a = ("append" : Str)) && (ap.endLine == cp.line)) && (chkVar c i x && (okHead v && chkE c e v))
  | .pop i, .Expr (.Call (.Attribute (.Name x _) a ap) [] [] cp) _ => (decide (a = ("pop" : Str)) && (ap.endLine == cp.line)) && chkVar c i x
  | .aug i o e, .AugAssign (.Name x _) op v _ => (decide (o = op) && (decide (o = .Add) || decide (o = .Sub))) && (chkLoc c i x && chkE c e v)
  | .ret (.yes e), .Return (some v) _ => chkE c e v
  | .ret .no, .Return none _ => true
  | .brk, .Break _ => true
  | .cnt, .Continue _ => true
  | .pas, .Pass _ => true
  | .no, _ => true
  | _, _ => false
mutual
def chkS (c : SC) : IS → Stmt → Bool
  | .ifs t a b, st => match st with
    | .If te sa sb _ => (tstOk t && chkE c t te) && (chkSL c a sa && chkSL c b sb)
    | _ => false
  | .fors tg it body, st => match st with
    | .For te ie sb oe _ => oe.isEmpty && ((okHead ie && chkTg c tg te) && (!hvL body && (chkI c it te ie && chkSL c body sb)))
    | _ => false
  | .whl _ t body, st => match st with
    | .While te sb oe _ => oe.isEmpty && ((tstOk t && chkE c t te) && (!hvL body && chkSL c body sb))
    | _ => false
  | .ex e, st => chkAt c (.ex e) st
  | .asg i e, st => chkAt c (.asg i e) st
  | .unp is e, st => chkAt c (.unp is e) st
  | .par i j a b, st => chkAt c (.par i j a b) st
  | .sti i k e, st => chkAt c (.sti i k e) st
  | .app i e, st => chkAt c (.app i e) st
  | .pop i, st => chkAt c (.pop i) st
  | .aug i o e, st => chkAt c (.aug i o e) st
  | .ret e, st => chkAt c (.ret e) st
  | .brk, st => chkAt c .brk st
  | .cnt, st => chkAt c .cnt st
  | .pas, st => chkAt c .pas st
  | .no, st => chkAt c .no st
def chkSL (c : SC) : ISL → List Stmt → Bool
  | .nil, sts => sts.isEmpty
  | .cons s ss, sts => match sts with
    | st :: rest => chkS c s st && chkSL c ss rest
    | [] => false
  | .hv i x ss, sts => match sts with
    | st1 :: st2 :: rest => chkHv c i x st1 st2 && chkSL c ss rest
    | _ => false
end
mutual
def usS (g : Gx) : IS → Prop
  | .ex e => usE g e
  | .asg _ e => usE g e
  | .unp _ e => usE g e
  | .par _ _ a b => usE g a ∧ usE g b
  | .sti _ k e => usE g k ∧ usE g e
  | .app _ e => usE g e
  | .pop _ => True
  | .aug _ _ e => usE g e
  | .ifs t a b => usE g t ∧ usSL g a ∧ usSL g b
  | .fors _ it body => usI g it ∧ usSL g body
  | .whl _ t body => usE g t ∧ usSL g body
  | .ret e => usO g e
  | .brk | .cnt | .pas | .no => True
def usSL (g : Gx) : ISL → Prop
  | .nil => True
  | .cons s ss => usS g s ∧ usSL g ss
  | .hv _ _ ss => usSL g ss
end

section
variable {c : SC} {g : Gx}
theorem asg_of (gk : GOk g) {i : Nat} {e : IE} {x : Str} {v : Expr} {p pos : Pos} (h1 : chkLoc c i x = true) (h2 : (noComp v || isLC v) = true) (h3 : chkE c e v = true) (u : usE g e) : SOK c g (.asg i e) (.Assign [.Name x p] v pos) := by
  cases hn : noComp v with
  | true => exact sok_asg h1 hn (eok_of gk e c v h3 u)
  | false =>
    rw [hn, Bool.false_or] at h2
    cases v <;> try (cases h2; done)
    cases e <;> try (simp [chkE] at h3; done)
    obtain ⟨te, ie, ifs, rfl, h0, hb, hi, ht, hc, he⟩ := chkLc h3
    exact sok_asgL h1 h0 hb ht (iok_of gk _ c _ _ hi u.1) (cok_of gk _ _ _ hc u.2.1) (eok_of gk _ _ _ he u.2.2)
theorem hv_of {i x : Nat} {ss : ISL} {st1 st2 : Stmt} {sts : List Stmt} (h : chkHv c i x st1 st2 = true) (hs : SLOK c g ss sts) : SLOK c g (.hv i x ss) (st1 :: st2 :: sts) := by
  unfold chkHv at h
  split at h
  · obtain ⟨h1, h⟩ := band h
    obtain ⟨h2, h3⟩ := band h1
    obtain ⟨e1, e2⟩ := band h2
    obtain ⟨e3, e4⟩ := band h3
    obtain ⟨h4, h⟩ := band h
    obtain ⟨l1, l2⟩ := band h4
    obtain ⟨h5, h⟩ := band h
    obtain ⟨h6, h7⟩ := band h
    have e1 := of_decide_eq_true e1
    have e2 := of_decide_eq_true e2
    have e3 := of_decide_eq_true e3
    have e4 := of_decide_eq_true e4
    subst e1 e2 e3 e4
    exact slok_hv h5 h6 h7 l1 l2 hs
  · cases h
theorem at_of (gk : GOk g) {s : IS} {st : Stmt} (h : chkAt c s st = true) (u : usS g s) : SOK c g s st := by
  unfold chkAt at h
  split at h
  · obtain ⟨h1, h2⟩ := band h
    exact sok_ex h1 (eok_of gk _ c _ h2 u)
  · obtain ⟨h1, h2⟩ := band h
    obtain ⟨h3, h4⟩ := band h2
    exact asg_of gk h1 h3 h4 u
  · obtain ⟨h1, h2⟩ := band h
    obtain ⟨h3, h4⟩ := band h1
    obtain ⟨h5, h6⟩ := band h2
    exact sok_unp h5 h3 h4 (eok_of gk _ c _ h6 u)
  · obtain ⟨h1, h2⟩ := band h
    obtain ⟨h3, h4⟩ := band h1
    obtain ⟨h5, h6⟩ := band h4
    obtain ⟨h7, h8⟩ := band h2
    obtain ⟨h9, h10⟩ := band h8
    exact sok_par (by simpa using h3) h5 h6 h7 (eok_of gk _ c _ h9 u.1) (eok_of gk _ c _ h10 u.2)
  · obtain ⟨h1, h2⟩ := band h
    obtain ⟨h3, h4⟩ := band h1
    obtain ⟨h5, h6⟩ := band h2
    obtain ⟨h7, h8⟩ := band h6
    exact sok_sti h5 h4 h3 (eok_of gk _ c _ h7 u.1) (eok_of gk _ c _ h8 u.2)
  · obtain ⟨h1, h2⟩ := band h
    obtain ⟨h3, h4⟩ := band h1
    obtain ⟨h5, h6⟩ := band h2
    obtain ⟨h7, h8⟩ := band h6
    have e3 := of_decide_eq_true h3
    subst e3
    exact sok_app h5 h4 h7 (eok_of gk _ c _ h8 u)
  · obtain ⟨h1, h2⟩ := band h
    obtain ⟨h3, h4⟩ := band h1
    have e3 := of_decide_eq_true h3
    subst e3
    exact sok_pop h2 h4
  · obtain ⟨h1, h2⟩ := band h
    obtain ⟨h3, h4⟩ := band h1
    obtain ⟨h5, h6⟩ := band h2
    have e3 := of_decide_eq_true h3
    subst e3
    exact sok_aug h5 (by rcases Bool.or_eq_true_iff.mp h4 with z | z; exact .inl (of_decide_eq_true z); exact .inr (of_decide_eq_true z)) (eok_of gk _ c _ h6 u)
  · exact sok_ret (eok_of gk _ c _ h u)
  · exact sok_retN
  · exact sok_brk
  · exact sok_cnt
  · exact sok_pas
  · exact sok_no
  · cases h
mutual
theorem sok_of (gk : GOk g) : ∀ (s : IS) (st : Stmt), chkS c s st = true → usS g s → SOK c g s st
  | .ifs t a b, st, h, u => by
    cases st <;> try (have h : false = true := h; cases h; done)
    rw [chkS] at h
    obtain ⟨h1, h2⟩ := band h
    obtain ⟨h3, h4⟩ := band h1
    obtain ⟨h5, h6⟩ := band h2
    exact sok_ifs h3 (eok_of gk t c _ h4 u.1) (slok_of gk a _ h5 u.2.1) (slok_of gk b _ h6 u.2.2)
  | .fors tg it body, st, h, u => by
    cases st <;> try (have h : false = true := h; cases h; done)
    rw [chkS] at h
    obtain ⟨h0, h⟩ := band h
    obtain ⟨h1, h2⟩ := band h
    obtain ⟨h3, h4⟩ := band h1
    obtain ⟨h5, h6⟩ := band h2
    obtain ⟨h7, h8⟩ := band h6
    have e0 := List.isEmpty_iff.mp h0
    subst e0
    exact sok_fors h3 h4 (by simpa using h5) (iok_of gk it c _ _ h7 u.1) (slok_of gk body _ h8 u.2)
  | .whl n t body, st, h, u => by
    cases st <;> try (have h : false = true := h; cases h; done)
    rw [chkS] at h
    obtain ⟨h0, h⟩ := band h
    obtain ⟨h1, h2⟩ := band h
    obtain ⟨h3, h4⟩ := band h1
    obtain ⟨h5, h6⟩ := band h2
    have e0 := List.isEmpty_iff.mp h0
    subst e0
    exact sok_whl h3 (eok_of gk t c _ h4 u.1) (by simpa using h5) (slok_of gk body _ h6 u.2)
  | .ex e, st, h, u => at_of gk (by rw [chkS] at h; exact h) u
  | .asg i e, st, h, u => at_of gk (by rw [chkS] at h; exact h) u
  | .unp is e, st, h, u => at_of gk (by rw [chkS] at h; exact h) u
  | .par i j a b, st, h, u => at_of gk (by rw [chkS] at h; exact h) u
  | .sti i k e, st, h, u => at_of gk (by rw [chkS] at h; exact h) u
  | .app i e, st, h, u => at_of gk (by rw [chkS] at h; exact h) u
  | .pop i, st, h, u => at_of gk (by rw [chkS] at h; exact h) u
  | .aug i o e, st, h, u => at_of gk (by rw [chkS] at h; exact h) u
  | .ret e, st, h, u => at_of gk (by rw [chkS] at h; exact h) u
  | .brk, st, h, u => at_of gk (by rw [chkS] at h; exact h) u
  | .cnt, st, h, u => at_of gk (by rw [chkS] at h; exact h) u
  | .pas, st, h, u => at_of gk (by rw [chkS] at h; exact h) u
  | .no, st, h, u => at_of gk (by rw [chkS] at h; exact h) u
theorem slok_of (gk : GOk g) : ∀ (ss : ISL) (sts : List Stmt), chkSL c ss sts = true → usSL g ss → SLOK c g ss sts
  | .nil, sts, h, _ => by
    rw [chkSL] at h
    have e := List.isEmpty_iff.mp h
    subst e
    exact slok_nil
  | .cons s ss, sts, h, u => by
    cases sts with
    | nil => have h : false = true := h; cases h
    | cons st sts =>
      rw [chkSL] at h
      obtain ⟨h1, h2⟩ := band h
      exact slok_cons (sok_of gk s st h1 u.1) (slok_of gk ss sts h2 u.2)
  | .hv i x ss, sts, h, u => by
    cases sts with
    | nil => have h : false = true := h; cases h
    | cons st1 sts =>
      cases sts with
      | nil => have h : false = true := h; cases h
      | cons st2 sts =>
        rw [chkSL] at h
        obtain ⟨h1, h2⟩ := band h
        exact hv_of h1 (slok_of gk ss sts h2 u)
end
end
end Dv

/-! Dv, part Z: a def of the text -/
namespace Dv
open PySem PySem.Spec PySem.W PyProof.Rows L2

/-! ### the entry -/
theorem entry_length (io : Option Nat) (gi : Bool) : ∀ (k : Nat) (ds : List PyData), (entry io gi k ds).length = ds.length
  | _, [] => rfl
  | k, d :: ds => by simp [entry, entry_length io gi (k + 1) ds]
def entryS (io : Option Nat) (gi : Bool) (k : Nat) (d : PyData) : Sl := if io = some k then (match d with | .list xs => Sl.own (.l xs) m0 true | _ => .emp) else Sl.val d ⟨true, false, gi⟩
theorem entry_get (io : Option Nat) (gi : Bool) : ∀ (k : Nat) (ds : List PyData) (i : Nat) (d : PyData), ds[i]? = some d → (entry io gi k ds)[i]? = some (entryS io gi (k + i) d)
  | _, [], _, _, h => by simp at h
  | k, d :: ds, 0, _, h => by simp at h; subst h; rfl
  | k, d :: ds, i + 1, e, h => by
    have := entry_get io gi (k + 1) ds i e (by simpa using h)
    rw [show k + (i + 1) = k + 1 + i from by omega]
    exact this
theorem flat_at (io : Option Nat) : ∀ (k : Nat) (ds : List PyData), flatArgs io k ds = true → ∀ (i : Nat) (d : PyData), ds[i]? = some d → io ≠ some (k + i) → flatD d = true
  | _, [], _, _, _, h, _ => by simp at h
  | k, d :: ds, hf, 0, e, h, hio => by
    simp at h
    subst h
    rw [flatArgs] at hf
    rcases Bool.or_eq_true_iff.mp (band hf).1 with z | z
    · exact absurd (of_decide_eq_true z) hio
    · exact z
  | k, d :: ds, hf, i + 1, e, h, hio => by
    rw [flatArgs] at hf
    exact flat_at io (k + 1) ds (band hf).2 i e (by simpa using h) (by rw [show k + 1 + i = k + (i + 1) from by omega]; exact hio)
theorem start_get {N : List Str} {vs : List V} {i : Nat} {v : V} (h : vs[i]? = some v) : (L2.start N vs)[i]? = some (some v) := by
  unfold L2.start
  have hi : i < (vs.map some).length := by rw [List.length_map]; exact (List.getElem?_eq_some_iff.mp h).1
  rw [List.getElem?_append_left hi, List.getElem?_map, h]
  rfl
section
variable {K : PySem.W.Frag} {f : FSig} {H : Hp} {vs : List V} {ds : List PyData} {S : Addr → Prop} {im : Prop} {ios : Option Addr} {N : List Str}
/-- the entry's slots stand for the arguments -/
theorem entry_rel (hl : vs.length = ds.length) (live : ∀ a, S a → ∃ u, H a = some u) (him : im → f.gi = true) (args : ∀ (i : Nat) (v : V) (d : PyData), vs[i]? = some v → ds[i]? = some d → ArgR K f S im ios H i v d)
    (S0 : Addr → Prop) (hS0 : ∀ a, S0 a → S a) (hfl : (∀ a, S a → S0 a) ∨ flatArgs f.io 0 ds = true) :
    Rel ⟨K, H, fun p => ios = some p, S0⟩ (L2.start N vs) (entry f.io f.gi 0 ds ++ List.replicate (N.length - ds.length) .emp) ⟨H, S0, fun _ => False⟩ := by
  have get : ∀ (i : Nat) (s : Sl), (entry f.io f.gi 0 ds ++ List.replicate (N.length - ds.length) .emp)[i]? = some s → s = .emp ∨ ∃ v d, vs[i]? = some v ∧ ds[i]? = some d ∧ s = entryS f.io f.gi i d := fun i s e => by
    by_cases hi : i < ds.length
    · have hd : ds[i]? = some ds[i] := List.getElem?_eq_getElem hi
      have hv : vs[i]? = some vs[i] := List.getElem?_eq_getElem (by omega)
      rw [List.getElem?_append_left (by rw [entry_length]; exact hi), entry_get f.io f.gi 0 ds i _ hd] at e
      rw [Nat.zero_add] at e
      exact .inr ⟨_, _, hv, hd, (Option.some.inj e).symm⟩
    · rw [List.getElem?_append_right (by rw [entry_length]; omega), List.getElem?_replicate] at e
      split at e
      · exact .inl (Option.some.inj e).symm
      · cases e
  have ownI : ∀ (i : Nat) (p : Addr), OwnAt (L2.start N vs) (entry f.io f.gi 0 ds ++ List.replicate (N.length - ds.length) .emp) i p → f.io = some i := fun i p ⟨⟨o, m, io, h1⟩, h2⟩ => by
    have key : ∀ s, (entry f.io f.gi 0 ds ++ List.replicate (N.length - ds.length) .emp)[i]? = some s → s.owned = true → f.io = some i := fun s e ho => by
      rcases get i s e with rfl | ⟨v, d, _, _, rfl⟩
      · cases ho
      · unfold entryS at ho
        split at ho
        · assumption
        · cases ho
    rcases h1 with h1 | h1
    · exact key _ h1 rfl
    · exact key _ h1 rfl
  refine ⟨?_, fun a h => ?_, fun a _ h => h, fun a h => h.elim, fun a h => .inl h, fun a o e _ => e, fun a o e => ⟨o, e⟩, fun i s e => ?_, fun i j p h1 h2 => ?_⟩
  · unfold L2.start
    rw [List.length_append, List.length_append, List.length_map, List.length_replicate, List.length_replicate, entry_length, hl]
  · rcases h with h | h
    · exact live a (hS0 a h)
    · exact h.elim
  · rcases get i s e with rfl | ⟨v, d, hv, hd, rfl⟩
    · trivial
    · have q := args i v d hv hd
      unfold ArgR at q
      unfold entryS
      split at q
      · next hio =>
        obtain ⟨p, xs, ws, rfl, rfl, q1, q2, q3, q4⟩ := q
        rw [if_pos hio]
        refine ⟨p, start_get hv, fun z => ?_, ⟨ws, q3, DrAll.mono (noReg_keeps _ _) q4⟩, q1⟩
        rcases z with z | z
        · exact q2 (hS0 p z)
        · exact z
      · next hio =>
        rw [if_neg hio]
        refine ⟨v, start_get hv, ?_⟩
        rcases hfl with hfl | hfl
        · exact Dr.mono (Reg.keeps ⟨fun a h => Or.inl ⟨rfl, hfl a h⟩, fun h => him h⟩) q
        · exact Dr.nm q (flat_at f.io 0 ds hfl i d hd (by rw [Nat.zero_add]; exact hio))
  · have e1 := ownI i p h1
    have e2 := ownI j p h2
    rw [e1] at e2
    exact Option.some.inj e2
/-- the end of a run -/
theorem run_end {S0 : Addr → Prop} {σV : L2.St} {σ : En} {W : Wd} {v : V} {r : Rs} {rt : Rt} {out : List PyData} {Q : VK} (hS0 : ∀ a, S0 a → S a) (hrk : f.rk.d = true → f.rk.c = true) (hio : f.io = none → ios = none) (R : Rel ⟨K, H, fun p => ios = some p, S0⟩ σV σ W)
    (q : RsR ⟨K, H, fun p => ios = some p, S0⟩ (Ow σV σ) W v r) (h : finR f.rk f.io r σ = some (rt, out))
    (k : ∀ (v : V) (H' : Hp) (S' : Addr → Prop), (∀ a o, H a = some o → ios ≠ some a → H' a = some o) → (∀ a, S' a → H a = none ∧ ∃ u, H' a = some u) →
      (∀ p, ios = some p → ∃ ws, H' p = some (.lst ws) ∧ DrAll K noReg H' ws out) → RtR K f.rk S S' H H' v rt → Q v H') : Q v W.H := by
  unfold finR at h
  obtain ⟨t, e1, h⟩ := Option.bind_eq_some_iff.mp h
  obtain ⟨o, e2, h⟩ := Option.map_eq_some_iff.mp h
  obtain ⟨rfl, rfl⟩ := Prod.mk.inj h
  have reg : ∀ m : Msk, m.le f.rk = true → Keeps (W.rg m) W.H ⟨fun a => (f.rk.d = true ∧ S a) ∨ (f.rk.c = true ∧ (W.S a ∧ H a = none)), f.rk.g = true⟩ W.H := fun m hm => by
    obtain ⟨md, mc, mg⟩ := m
    simp only [Msk.le, Bool.and_eq_true, Bool.or_eq_true, Bool.not_eq_true'] at hm
    obtain ⟨⟨h1, h2⟩, h3⟩ := hm
    refine Reg.keeps ⟨fun a h => ?_, fun h => ?_⟩
    · rcases h with ⟨z, h⟩ | ⟨z, h⟩
      · have hd : f.rk.d = true := by
          rcases h1 with h1 | h1
          · have z : md = true := z; rw [h1] at z; cases z
          · exact h1
        rcases R.oldD a h with y | y
        · exact .inl ⟨hd, hS0 a y⟩
        · exact .inr ⟨hrk hd, .inl h, y⟩
      · have hc : f.rk.c = true := by
          rcases h2 with h2 | h2
          · have z : mc = true := z; rw [h2] at z; cases z
          · exact h2
        exact .inr ⟨hc, .inr h, R.newC a h⟩
    · have z : mg = true := h
      rcases h3 with h3 | h3
      · rw [h3] at z; cases z
      · exact h3
  refine k v W.H (fun a => W.S a ∧ H a = none) (fun a o e n => R.base a o e fun z => n z) (fun a h => ⟨h.2, R.live a h.1⟩) (fun p hp => ?_) ?_
  · cases hi : f.io with
    | none => rw [hio hi] at hp; cases hp
    | some kk =>
      rw [hi] at e2
      unfold ioOut at e2
      dsimp only at e2
      split at e2
      · next ds' m hs =>
        split at e2
        · next hm =>
          cases e2
          subst hm
          obtain ⟨p', _, _, ⟨ws, hw, hd⟩, hI⟩ := R.slot kk _ hs
          have hI : ios = some p' := hI
          rw [hp] at hI
          cases hI
          exact ⟨ws, hw, DrAll.mono (m0_keeps W W.H) hd⟩
        · cases e2
      · cases e2
  · cases r with
    | val d m =>
      unfold Rs.out at e1
      dsimp only at e1
      split at e1
      · next hm =>
        cases e1
        exact Dr.mono (reg _ hm) (Dr.atNm q)
      · cases e1
    | new oc m =>
      unfold Rs.out at e1
      dsimp only at e1
      split at e1
      · next hm =>
        cases e1
        obtain ⟨p, rfl, h1, h2, h3, h4⟩ := q
        exact ⟨p, rfl, h3, fun z => h1 z.1, h4.mono (reg _ hm) fun u e => e⟩
      · cases e1
end

/-! ### the rule -/
theorem fnG_of {P : Program} {w : World} {K : PySem.W.Frag} {mg : Str → Option Value} {base : Heap} {k : Nat} {fa : Addr} {name qual : Str} {params : Arguments} {body : List Stmt} {scope : Scope} {dV kV doc pm cdv ct oc : Value} {an od : Option Addr}
    {osl : Array (Option Value)} {N : List Str} {f : FSig} {ir : ISL} (lk : K.lookup fa = some ⟨oc, od, .func (PySem.W.fnOf name qual params body scope dV kV doc pm an cdv ct), osl⟩) (hcd : PySem.W.codeIn K cdv qual = true) (Sc : FnScope N f.ps scope)
    (hchk : chkSL ⟨N, scope, fun _ => true⟩ ir body = true) (hus : ∀ A : Around, Room k A → A.guards = some [] → usSL ⟨P, w, K, mg, base, A⟩ ir)
    (hrk : f.rk.d = true → f.rk.c = true) (hsem : ∀ ds r, f.sem ds = some r → runF N.length f.io f.gi f.rk ir ds = some r) : FnG P w K mg base (k + 1) fa (PySem.W.fnOf name qual params body scope dV kV doc pm an cdv ct) f.ps (spF K f) := by
  constructor
  intro A outer s H args us vs Q hr hgd e0 hb r hsp
  obtain ⟨ds, rt, out, S, im, ios, hs, hl, hl2, live, him, hargs, hio, hiok, hk⟩ := hsp
  -- the body
  have hrun := hsem ds _ hs
  unfold runF at hrun
  split at hrun
  · cases hrun
  next hflat =>
  obtain ⟨fl, hev, hend⟩ := Option.bind_eq_some_iff.mp hrun
  have hgd' : (A.deeper (envOfC qual scope s.heap.objs.size fa cdv)).guards = some [] := hgd
  have rm := hr.deeper (envOfC qual scope s.heap.objs.size fa cdv)
  have gk : GOk ⟨P, w, K, mg, base, A.deeper (envOfC qual scope s.heap.objs.size fa cdv)⟩ := ⟨by have := rm.un; show (A.deeper _).units + 66 < cLine; omega, hgd'⟩
  obtain ⟨t, ht, hss⟩ := (slok_of gk ir body hchk (hus _ rm hgd')).ex
  have okS : OkS ⟨N, scope, fun _ => true⟩ ⟨P, w, K, mg, base, A.deeper (envOfC qual scope s.heap.objs.size fa cdv)⟩ (cxOf CX0 P w K mg base N qual scope fa cdv A outer s H E0) :=
    ⟨⟨rfl, Sc.nd, rfl, rfl, rfl, rfl, rfl, rfl, rfl, rfl, rfl⟩, passes_of rfl, Sc.kind⟩
  have hbody : t { nx := fun _ H' => Q .non H', rt := Q } (L2.start N vs) H := by
    -- the callers' lists: none where what is told is changed
    obtain ⟨S0, h1, h2, h3⟩ : ∃ S0 : Addr → Prop, (∀ a, S0 a → S a) ∧ ((∀ a, S a → S0 a) ∨ flatArgs f.io 0 ds = true) ∧ (hvL ir = true → ∀ a, ¬ S0 a) := by
      cases hv : hvL ir with
      | false => exact ⟨S, fun _ h => h, .inl fun _ h => h, fun z => by cases z⟩
      | true =>
        refine ⟨fun _ => False, fun _ h => h.elim, .inr ?_, fun _ _ h => h⟩
        rw [hv, Bool.true_and] at hflat
        simpa using hflat
    have R := entry_rel (N := N) hl2 live him hargs S0 h1 h2
    refine hss ⟨K, H, fun p => ios = some p, S0⟩ rfl h3 R hev ?_
    cases fl with
    | nx σ' => exact fun σV' W' R' _ => run_end h1 hrk hio R' (v := .non) (r := .val .none m0) Dr.non hend hk
    | rt r σ' => exact fun v σV' W' R' _ q => run_end h1 hrk hio R' q hend hk
    | bk σ' => cases hend
    | ct σ' => cases hend
  -- the call
  have KX : K.In s.heap := e0.mod.kin.keeps fun b o e => (e0.bs b o e).1
  have nolim : s.heap.NoLimit := e0.mod.nolimit.keeps fun b o e => (e0.bs b o e).1
  have kinds : ∀ y ∈ f.ps.zip us, scope.names.lookup y.1 = some .local ∨ (scope.names.lookup y.1 = some .cell ∧ ((cellsFrom (s.heap.objs.size + 1) scope.names []).lookup y.1).isSome = true) := by
    rintro ⟨n, v⟩ hy
    cases Sc.par n (List.of_mem_zip hy).1 with
    | inl q => exact .inl q
    | inr q => exact .inr ⟨q, PySem.W.cellsFrom_some _ _ _ (.inl q)⟩
  refine codeAny_call_function hr.depth (KX _ _ lk) rfl Sc.co Sc.gen rfl (PySem.W.codeRec_of KX hcd) (hb _ _ _ _ (wpAny_newFunctionEnv_cells Sc.kind kinds ?_))
  rintro env rfl s1 x
  refine ⟨nolim.keeps x.toInCall.keep, codeAny_func ?_⟩
  have I := inv_start (CX := CX0) (E := E0) Sc hr.hd e0 hl r x
  refine wpAny_mono ((ht _ okS).run [] s1 (L2.start N vs) H _ I hbody) (fun fl s' hs => ?_) fun e s' hs => hs
  cases fl with
  | ret u => obtain ⟨v, σ', H', J, rv, q⟩ := hs; exact ⟨v, H', J.os, J.bare, J.base, J.hok, rv, q⟩
  | next => obtain ⟨σ', H', J, q⟩ := hs; exact ⟨.non, H', J.os, J.bare, J.base, J.hok, rfl, q⟩
  | brk => obtain ⟨_, _, _, q⟩ := hs; cases q
  | cont => obtain ⟨_, _, _, q⟩ := hs; cases q
end Dv

/-! Dv, the end: the law's def, called with the script -/
namespace Dv
open PySem PySem.Spec PySem.W PyProof.Rows L2

/-- the script's list as it lies -/
abbrev scrO (vs : List Value) : Obj := { cls := .type "list", data := .seq vs.toArray }
open Classical in
/-- the heap in which the script alone is tracked, unless it is of the written part -/
noncomputable def scrH (K : PySem.W.Frag) (a : Addr) (vs : List Value) (ns : List Int) : Hp := fun b =>
  if b = a ∧ K.lookup a = none then some (.frz (scrO vs) (.lst (ns.map V.int))) else none
section
variable {P : Program} {w : World} {K : PySem.W.Frag} {a : Addr} {vs : List Value} {ns : List Int} {h : Heap}
theorem scrH_some {b : Addr} {u : HO} (e : scrH K a vs ns b = some u) : b = a ∧ K.lookup a = none ∧ u = .frz (scrO vs) (.lst (ns.map V.int)) := by
  unfold scrH at e
  split at e
  · next z => cases e; exact ⟨z.1, z.2, rfl⟩
  · cases e
theorem scrH_only : Only (scrH K a vs ns) := fun b => by
  cases e : scrH K a vs ns b with
  | none => exact .inl rfl
  | some u => obtain ⟨_, _, rfl⟩ := scrH_some e; exact .inr ⟨_, _, rfl⟩
theorem scrH_list (KX : K.In h) (ha : h.get? a = some (scrO vs)) (hi : IntsAre vs ns) (hl : ns.length ≤ sizeLine) : SqL K (scrH K a vs ns) a (ns.map V.int) := by
  cases e : K.lookup a with
  | none => exact .inl (.inr ⟨scrO vs, if_pos ⟨rfl, e⟩⟩)
  | some o =>
    have q := KX a o e
    rw [ha] at q
    cases q
    exact .inr ⟨scrO vs, vs.toArray, _, e, rfl, rfl, rfl, by rw [List.size_toArray, hi.length]; exact hl, by simpa using vals_ints hi⟩
theorem scrH_ok (ha : h.get? a = some (scrO vs)) (hi : IntsAre vs ns) (hl : ns.length ≤ sizeLine) : HOk P w (scrH K a vs ns) h := fun b u e => by
  obtain ⟨rfl, _, rfl⟩ := scrH_some e
  exact ⟨ha, by rw [List.length_map]; exact hl, vs, _, vals_ints hi, ha⟩
/-- what stands outside of the script stands in the base -/
theorem scrH_base {b : Addr} {o : Obj} (e : h.get? b = some o) (n : b ≠ a ∨ K.lookup a ≠ none) : (hidT h (scrH K a vs ns)).get? b = some o := by
  refine hidT_get e ?_
  cases q : scrH K a vs ns b with
  | none => rfl
  | some u =>
    obtain ⟨h1, h2, _⟩ := scrH_some q
    rcases n with n | n
    · exact absurd h1 n
    · exact absurd h2 n
theorem scrH_ns {b : Addr} {m : Str → Option Value} (ha : h.get? a = some (scrO vs)) (hn : h.Ns b m) : (hidT h (scrH K a vs ns)).Ns b m := by
  obtain ⟨o, es, ep, e, d, r⟩ := hn
  refine ⟨o, es, ep, scrH_base e (.inl fun z => ?_), d, r⟩
  subst z
  rw [ha] at e
  cases e
  have z : Data.seq vs.toArray _ = Data.dict es ep := d
  cases z
theorem scrH_mod {mg mb : Str → Option Value} (KX : K.In h) (ha : h.get? a = some (scrO vs)) (hg : h.Ns mainGlobals mg) (hb : h.Ns builtinsNs mb) (hbb : ∀ x : Str, x ≠ "__name__" → mb x = bootBuiltins x) (lim : h.NoLimit) : Mod K mg (hidT h (scrH K a vs ns)) := by
  obtain ⟨mc, l1, l2⟩ := lim
  refine ⟨fun b o e => scrH_base (KX b o e) ?_, scrH_ns ha hg, ⟨mb, scrH_ns ha hb, hbb⟩, mc, scrH_ns ha l1, l2⟩
  by_cases z : b = a
  · exact .inr (by rw [← z, e]; simp)
  · exact .inl z
end
/-- THE HEAD, where the promise is FnG's -/
theorem law_G {P : Program} {w : World} {K : PySem.W.Frag} {mg mb : Str → Option Value} {k : Nat} {fa a : Addr} {fd : FuncData} {x : Str} {sp : Sp} {s : Shared} {vs : List Value} {ns : List Int}
    (KX : K.In s.heap) (hg : s.heap.Ns mainGlobals mg) (hb : s.heap.Ns builtinsNs mb) (hbb : ∀ x : Str, x ≠ "__name__" → mb x = bootBuiltins x) (lim : s.heap.NoLimit) (gens : s.gens = #[]) (ha : s.heap.get? a = some (scrO vs)) (hi : IntsAre vs ns) (hl : ns.length ≤ sizeLine)
    (hr : Room k callerA) (F : ∀ base : Heap, K.In base → base.Ns mainGlobals mg → FnG P w K mg base k fa fd [x] sp) (bind : ∀ (s : Shared) (u : Value), BindsTo s fd ⟨[u], []⟩ [(x, u)])
    (hsp : ∀ H : Hp, Only H → SqL K H a (ns.map V.int) → sp [.ref a] H (fun v _ => v = .bl true) E0) :
    codeAny (model P w) callerA (.call (.ref fa) ⟨[.ref a], []⟩) (fun r s' => r = .ok (.ret (.bool true)) ∧ OldK s.heap s'.heap ∧ s'.os = s.os ∧ AllBare s'.gens) s := by
  have md := scrH_mod (ns := ns) KX ha hg hb hbb lim
  have ok := scrH_ok (P := P) (w := w) (K := K) ha hi hl
  have ev : Env0 P w K mg (hidT s.heap (scrH K a vs ns)) callerA [] s (scrH K a vs ns) :=
    ⟨rfl, md, fun b o e => of_hidT e, Nat.le_of_eq (hidT_size _ _), trivial, fun b hb => (List.not_mem_nil hb).elim, ok, .of_eq gens⟩
  have run := (F _ md.kin (scrH_ns ha hg)).run callerA [] s (scrH K a vs ns) ⟨[.ref a], []⟩ [.ref a] [.ref a] _ hr rfl ev (bind s (.ref a)) (.cons rfl .nil) (hsp _ scrH_only (scrH_list KX ha hi hl))
  refine codeAny_mono run fun r s' hh => ?_
  match r, hh with
  | .error e, hh => exact hh.elim
  | .ok .next, hh => exact hh.elim
  | .ok .brk, hh => exact hh.elim
  | .ok .cont, hh => exact hh.elim
  | .ok (.ret u), hh =>
    obtain ⟨v, H', os, bare, un, ok', rv, q⟩ := hh
    have q : v = .bl true := q
    subst q
    have hu : u = Value.bool true := rv
    subst hu
    refine ⟨rfl, OldK.of_keep fun b o e => ?_, os, bare⟩
    cases hq : scrH K a vs ns b with
    | none => exact un.keep b o e hq (fun z => by cases z) (fun z => by cases z)
    | some u =>
      obtain ⟨_, _, rfl⟩ := scrH_some hq
      obtain ⟨e1, _⟩ := ok b _ hq
      obtain ⟨e2, _⟩ := ok' b _ (un.frzs b _ _ hq)
      rw [e] at e1
      cases e1
      exact e2
/-- the goal that the head's tactics leave, from the promise of the law's def -/
theorem walk_G {l : PySem.W.OpenLaw} {n k : Nat} {q : Program} {loose : List Str} {XP : (Str → Option Value) → Heap → Prop} {YP : World → Heap → Prop} {d : DefRec} {K : Params → PySem.W.Frag} {sp : World → Sp} {x : Str}
    (hn : l.most = some n) (hn2 : n ≤ sizeLine) (hdf : d.params.defaults = []) (hr : Room k callerA) (hY : ∀ (w : World) (h : Heap), YP w h → (K w.params).In h)
    (F : ∀ (w : World) (mg : Str → Option Value) (fa : Addr) (h : Heap), (K w.params).In h → h.Ns mainGlobals mg → mg d.name = some (.ref fa) →
      ∃ fd : FuncData, (∀ (s : Shared) (u : Value), BindsTo s fd ⟨[u], []⟩ [(x, u)]) ∧ ∀ base : Heap, (K w.params).In base → base.Ns mainGlobals mg → FnG l.prog w (K w.params) mg base k fa fd [x] (sp w))
    (hsp : ∀ (w : World) (H : Hp) (a : Addr) (ns : List Int), ns.length ≤ n → Only H → SqL (K w.params) H a (ns.map V.int) → sp w [.ref a] H (fun v _ => v = .bl true) E0) :
    PySem.W.WalkO q loose XP YP l.row.toRowW d [] (fun f vs => PySem.call f vs) := by
  refine Att.attach_call hn hdf fun w s₀ s mg mb fa o pm cd doc a vs ns G Y ho hd hcd hmg hobj hints hlen hg => ?_
  have KX := hY w _ Y
  obtain ⟨fd, hb, hF⟩ := F w mg fa _ KX G.T.g hmg
  exact law_G KX G.T.g G.T.b G.T.builtins G.T.nolimit hg hobj hints (Nat.le_trans hlen hn2) hr hF hb fun H hO hS => hsp w H a ns hlen hO hS
/-- the law's promise: it answers True for every script -/
theorem law_sp {K : PySem.W.Frag} {f : FSig} {H : Hp} {a : Addr} {ns : List Int} {x : Str} (hps : f.ps = [x]) (hio : f.io = none) (hgi : f.gi = true) (hS : SqL K H a (ns.map V.int)) (hO : Only H) (h : f.sem [.list (ns.map .int)] = some (.v (.bool true), [])) :
    spF K f [.ref a] H (fun v _ => v = .bl true) E0 := by
  refine ⟨[.list (ns.map .int)], .v (.bool true), [], fun _ => False, True, none, h, by rw [hps]; rfl, rfl, fun a h => h.elim, fun _ => hgi, fun i v d h1 h2 => ?_, fun _ => rfl, fun k z => (by rw [hio] at z; cases z), fun v H' S' _ _ _ q => ?_⟩
  · unfold ArgR
    rw [hio, if_neg (by simp)]
    cases i with
    | succ i => simp at h1
    | zero =>
      cases h1
      cases h2
      refine .lstI trivial ?_ (ints_dr ns)
      rcases hS with (hS | hS) | hS
      · rcases hO a with z | ⟨o, xs, z⟩
        · rw [hS] at z; cases z
        · rw [hS] at z; cases z
      · exact .inl hS
      · exact .inr hS
  · have q : Dr K _ H' v (.bool true) := q
    cases q
    rfl
where ints_dr {K : PySem.W.Frag} {R : Reg} {H : Hp} : ∀ ns : List Int, DrAll K R H (ns.map V.int) (ns.map .int)
  | [] => .nil
  | n :: ns => .cons (.int n) (ints_dr ns)
end Dv

/-! Dv, defs of a text together -/
namespace Dv
open PySem PySem.Spec PySem.W PyProof.Rows L2

/-- a def that keeps its promise, with what its callers want -/
structure DefG (P : Program) (w : World) (K : PySem.W.Frag) (mg : Str → Option Value) (base : Heap) (k : Nat) (st : Stmt) (f : FSig) : Prop where
  ex : ∃ fa fd, Fun K f.name f.name st fa fd ∧ FnG P w K mg base k fa fd f.ps (spF K f) ∧ mg f.name = some (.ref fa)
/-- how a def binds: by place -/
def BindP (st : Stmt) (f : FSig) : Prop := ∀ (kV doc pm : Value) (an : Option Addr) (cdv ct : Value) (us : List Value), us.length = f.ps.length →
  bindArgs (PySem.W.fnOf f.name f.name (defArgs st) (defBody st) (defScope st) .none kV doc pm an cdv ct) ⟨us, []⟩ = pure (f.ps.zip us)
/-- .. with keywords -/
def BindK (st : Stmt) (f : FSig) (n : Nat) (kws : List Nat) : Prop := ∀ (kV doc pm : Value) (an : Option Addr) (cdv ct : Value) (us ws : List Value), us.length = n → ws.length = kws.length →
  bindArgs (PySem.W.fnOf f.name f.name (defArgs st) (defBody st) (defScope st) .none kV doc pm an cdv ct) ⟨us, (kws.map fun i => f.ps.getD i "").zip ws⟩ = pure (f.ps.zip (fullL .none f.ps.length us kws ws))
section
variable {P : Program} {w : World} {K : PySem.W.Frag} {mg : Str → Option Value} {base : Heap} {k j : Nat} {st : Stmt} {f : FSig} {A : Around}
theorem DefG.good (D : DefG P w K mg base k st f) (b : BindP st f) (hk : k ≤ j) (hr : Room j A) : Good ⟨P, w, K, mg, base, A⟩ f := by
  obtain ⟨fa, fd, F, G, hm⟩ := D.ex
  obtain ⟨oc, od, kV, doc, pm, an, cdv, ct, osl, rfl, lk, hcd⟩ := F.ex
  exact ⟨fa, _, ⟨⟨j, G.mono hk, hr⟩, hm, F.kp, b kV doc pm an cdv ct⟩⟩
theorem DefG.goodK (D : DefG P w K mg base k st f) (b : BindP st f) {n : Nat} {kws : List Nat} (bk : BindK st f n kws) (hk : k ≤ j) (hr : Room j A) : GoodK ⟨P, w, K, mg, base, A⟩ f n kws := by
  obtain ⟨fa, fd, F, G, hm⟩ := D.ex
  obtain ⟨oc, od, kV, doc, pm, an, cdv, ct, osl, rfl, lk, hcd⟩ := F.ex
  exact ⟨fa, _, ⟨⟨j, G.mono hk, hr⟩, hm, F.kp, b kV doc pm an cdv ct⟩, bk kV doc pm an cdv ct⟩
/-- the caller may put the results to the region d -/
theorem DefG.tod (D : DefG P w K mg base k st f) : DefG P w K mg base k st { f with tod := true } := ⟨D.ex⟩
theorem fnG_fun {N : List Str} {ir : ISL} {fa : Addr} {fd : FuncData} (F : Fun K f.name f.name st fa fd) (Sc : FnScope N f.ps (defScope st)) (hchk : chkSL ⟨N, defScope st, fun _ => true⟩ ir (defBody st) = true)
    (hus : ∀ A : Around, Room k A → A.guards = some [] → usSL ⟨P, w, K, mg, base, A⟩ ir) (hrk : f.rk.d = true → f.rk.c = true) (hsem : ∀ ds r, f.sem ds = some r → runF N.length f.io f.gi f.rk ir ds = some r) : FnG P w K mg base (k + 1) fa fd f.ps (spF K f) := by
  obtain ⟨oc, od, kV, doc, pm, an, cdv, ct, osl, rfl, lk, hcd⟩ := F.ex
  exact fnG_of lk hcd Sc hchk hus hrk hsem
theorem defG_mk {fa : Addr} {fd : FuncData} (F : Fun K f.name f.name st fa fd) (hm : mg f.name = some (.ref fa)) (G : FnG P w K mg base k fa fd f.ps (spF K f)) : DefG P w K mg base k st f := ⟨fa, fd, F, G, hm⟩
/-- a constant of the text, a flat one -/
theorem glI {x : Str} {i : Int} {t : Tok} (h : mg x = some (.int i t)) : GoodGl ⟨P, w, K, mg, base, A⟩ x (.int i) := ⟨.int i, _, h, ⟨t, rfl⟩, fun _ => .int i⟩
theorem glS {x y : Str} {t : Tok} (h : mg x = some (.str y t)) : GoodGl ⟨P, w, K, mg, base, A⟩ x (.str y) := ⟨.str y, _, h, ⟨t, rfl⟩, fun _ => .str y⟩
end
end Dv

/-! Dv, rules of the evaluator -/
namespace Dv
open PySem PySem.Spec PySem.W PyProof.Rows L2

/-- as an operand, e is d, and nothing is changed -/
def Rd (τ : En) (e : IE) (d : PyData) (m : Msk) : Prop := ∃ x, mkOpd e (ev e τ) τ = some (x, τ) ∧ x.get τ = some (d, m)
/-- kept, e is d, and nothing is changed -/
def Kp (τ : En) (e : IE) (d : PyData) (m : Msk) : Prop := ∃ r, ev e τ = some (r, τ) ∧ r.kept = (d, m)
section
variable {τ : En} {a b c e : IE} {d d' d2 : PyData} {m m' m2 : Msk}
theorem rd_var {i : Nat} (h : peek τ i = some (d, m)) : Rd τ (.var i) d m := ⟨.pk i, by simp only [mkOpd, h, Option.isSome_some, if_true], h⟩
theorem rd_of (hv : isVar e = false) {r : Rs} (h : ev e τ = some (r, τ)) (hg : Opd.get τ (.rs r) = some (d, m)) : Rd τ e d m := by
  refine ⟨.rs r, ?_, hg⟩
  cases e <;> first | (cases hv; done) | (simp only [mkOpd, h, Option.map_some])
theorem rd_lit : Rd τ (.lit d) d m0 := rd_of rfl (r := .val d m0) (by unfold ev; rfl) rfl
theorem rd_val (hv : isVar e = false) (h : ev e τ = some (.val d m, τ)) : Rd τ e d m := rd_of hv h rfl
theorem rd_new (hv : isVar e = false) {o : OC} (h : ev e τ = some (.new o m, τ)) : Rd τ e o.data m := rd_of hv h rfl
theorem ev_glb {x : Str} (hf : flatD d = true) : ev (.glb x d) τ = some (.val d m0, τ) := by unfold ev; rw [if_pos hf]
theorem ev_lit : ev (.lit d) τ = some (.val d m0, τ) := by unfold ev; rfl
theorem ev_cmp {o : CmpOp} {r : Bool} (ha : Rd τ a d m) (hb : Rd τ b d' m') (h : cmpS o d d' = some r) : ev (.cmp o a b) τ = some (.val (.bool r) m0, τ) := by
  obtain ⟨x, e1, g1⟩ := ha
  obtain ⟨y, e2, g2⟩ := hb
  unfold ev
  simp only [e1, e2, g1, g2, h, Option.bind_some, Option.map_some]
theorem ev_bin {o : Operator} {r : Rs} (ha : Rd τ a d m) (hb : Rd τ b d' m') (h : binS o d d' m m' = some r) : ev (.bin o a b) τ = some (r, τ) := by
  obtain ⟨x, e1, g1⟩ := ha
  obtain ⟨y, e2, g2⟩ := hb
  unfold ev
  simp only [e1, e2, g1, g2, h, Option.bind_some, Option.map_some]
theorem ev_idx {r : Rs} (ha : Rd τ a d m) (hb : Rd τ b d' m') (h : idxS (d, m) d' = some r) : ev (.idx a b) τ = some (r, τ) := by
  obtain ⟨x, e1, g1⟩ := ha
  obtain ⟨y, e2, g2⟩ := hb
  unfold ev
  simp only [e1, e2, g1, g2, h, Option.bind_some, Option.map_some]
theorem ev_not {t : Bool} (ha : Rd τ a d m) (h : truthS d = some t) : ev (.not a) τ = some (.val (.bool !t) m0, τ) := by
  obtain ⟨x, e1, g1⟩ := ha
  unfold ev
  simp only [e1, g1, h, Option.bind_some, Option.map_some]
theorem ev_neg {i : Int} (ha : Rd τ a (.int i) m) : ev (.neg a) τ = some (.val (.int (-i)) m0, τ) := by
  obtain ⟨x, e1, g1⟩ := ha
  unfold ev
  simp only [e1, g1, Option.bind_some]
theorem ev_one {r : Rs} (h : ev a τ = some (r, τ)) : ev (.one a) τ = some (r, τ) := by unfold ev; exact h
/-- and, or of truths -/
theorem ev_and {p q : Bool} (ha : ev a τ = some (.val (.bool p) m0, τ)) (hb : p = true → ev b τ = some (.val (.bool q) m0, τ)) : ev (.and a b) τ = some (.val (.bool (p && q)) m0, τ) := by
  unfold ev
  rw [ha]
  cases p with
  | false => rfl
  | true =>
    show ev b τ = _
    rw [hb rfl, Bool.true_and]
theorem ev_or {p q : Bool} (ha : ev a τ = some (.val (.bool p) m0, τ)) (hb : p = false → ev b τ = some (.val (.bool q) m0, τ)) : ev (.or a b) τ = some (.val (.bool (p || q)) m0, τ) := by
  unfold ev
  rw [ha]
  cases p with
  | true => rfl
  | false =>
    show ev b τ = _
    rw [hb rfl, Bool.false_or]
theorem evC_yes {t : Bool} (h : Rd τ e d m) (ht : truthS d = some t) : evC (.yes e) τ = some (t, τ) := by
  obtain ⟨x, e1, g1⟩ := h
  unfold evC
  simp only [e1, g1, ht, Option.bind_some, Option.map_some]
theorem evC_bool {t : Bool} (hv : isVar e = false) (h : ev e τ = some (.val (.bool t) m0, τ)) : evC (.yes e) τ = some (t, τ) := evC_yes (rd_val hv h) rfl
theorem evC_no : evC .no τ = some (true, τ) := by unfold evC; rfl
theorem evT_bool {t : Bool} (hv : isVar e = false) (h : ev e τ = some (.val (.bool t) m0, τ)) : evT e τ = some (t, τ) := by
  have := evC_bool hv h
  unfold evC at this
  exact this
/-- operands in a row -/
inductive RdL (τ : En) : IL → List (PyData × Msk) → Prop
  | nil : RdL τ .nil []
  | cons {e : IE} {es : IL} {d : PyData} {m : Msk} {ds : List (PyData × Msk)} : Rd τ e d m → RdL τ es ds → RdL τ (.cons e es) ((d, m) :: ds)
theorem RdL.ev : ∀ {es : IL} {ds : List (PyData × Msk)}, RdL τ es ds → ∃ xs, evO es τ = some (xs, τ) ∧ getAll τ xs = some ds ∧ xs.length = ds.length
  | _, _, .nil => ⟨[], by unfold evO; rfl, rfl, rfl⟩
  | _, _, .cons h t => by
    obtain ⟨x, e1, g1⟩ := h
    obtain ⟨xs, e2, g2, l2⟩ := RdL.ev t
    refine ⟨x :: xs, ?_, ?_, by simp [l2]⟩
    · unfold evO
      simp only [e1, e2, Option.bind_some, Option.map_some]
    · simp only [getAll, g1, g2, Option.bind_some, Option.map_some]
theorem ev_blt {bl : Bl} {es : IL} {ds : List (PyData × Msk)} {r : Rs} (h : RdL τ es ds) (hb : bltS bl ds = some r) : ev (.blt bl es) τ = some (r, τ) := by
  obtain ⟨xs, e1, g1, _⟩ := h.ev
  unfold Dv.ev
  simp only [e1, g1, hb, Option.bind_some, Option.map_some]
/-- a call that reads -/
theorem ev_callB {f : FSig} {es : IL} {ds : List (PyData × Msk)} {rt : Rt} {out : List PyData} (h : RdL τ es ds) (hrk : f.rk = m0) (hio : f.io = none) (hl : ds.length = f.ps.length) (hg : ((ds.any fun d => d.2.g) && !f.gi) = false) (hs : f.sem (ds.map (·.1)) = some (rt, out)) :
    ev (.call f es) τ = some (outRs f.tod m0 m0 rt, τ) := by
  obtain ⟨xs, e1, g1, l1⟩ := h.ev
  unfold Dv.ev
  rw [if_pos hrk, e1]
  simp only [hio, ioOf, Option.bind_some, callB, ioApart, Bool.and_true, l1, hl, decide_true, if_true, g1, hg, Bool.false_eq_true, if_false, hs, Option.map_some, putIo]
/-- kept operands in a row -/
inductive KpL (τ : En) : IL → List PyData → Msk → Prop
  | nil : KpL τ .nil [] m0
  | cons {e : IE} {es : IL} {d : PyData} {m m' : Msk} {ds : List PyData} : Kp τ e d m → KpL τ es ds m' → KpL τ (.cons e es) (d :: ds) (m.or m')
theorem KpL.ev : ∀ {es : IL} {ds : List PyData} {m : Msk}, KpL τ es ds m → evL es τ = some (ds, m, τ) ∧ evK none es τ = some (ds, m, τ)
  | _, _, _, .nil => ⟨by unfold evL; rfl, by simp [evK]⟩
  | _, _, _, .cons h t => by
    obtain ⟨r, e1, g1⟩ := h
    obtain ⟨e2, e3⟩ := KpL.ev t
    refine ⟨?_, ?_⟩
    · unfold evL
      simp only [e1, e2, g1, Option.bind_some, Option.map_some]
    · simp only [evK, e1, e3, g1, Option.bind_some, Option.map_some]
theorem kp_var {i : Nat} (h : τ[i]? = some (.val d m)) : Kp τ (.var i) d (nm d m) := ⟨.val d (nm d m), by unfold ev; simp only [grab, h, Option.map_some], rfl⟩
theorem kp_of {r : Rs} (h : ev e τ = some (r, τ)) : Kp τ e r.kept.1 r.kept.2 := ⟨r, h, rfl⟩
theorem ev_lst {es : IL} {ds : List PyData} (h : KpL τ es ds m') (hm : m'.le m = true) (hl : ds.length ≤ LIM) : ev (.lst es m) τ = some (.new (.l ds) m, τ) := by
  unfold ev
  simp only [h.ev.1, Option.bind_some, hm, hl, decide_true, Bool.and_self, if_true]
/-- a call that keeps -/
theorem ev_callK {f : FSig} {es : IL} {ds : List PyData} {rt : Rt} {out : List PyData} (h : KpL τ es ds m) (hrk : f.rk ≠ m0) (hio : f.io = none) (hl : ds.length = f.ps.length) (hg : (!m.g || f.gi) = true) (hs : f.sem ds = some (rt, out)) : ev (.call f es) τ = some (outRs f.tod f.rk m rt, τ) := by
  unfold ev
  rw [if_neg hrk, hio, h.ev.2]
  simp only [ioOf, Option.bind_some, callK, hl, decide_true, hg, Bool.and_self, if_true, setIo, hio, hs, Option.map_some, putIo]
end
/-- the run of a def whose body returns -/
theorem run_rt {n : Nat} {io : Option Nat} {gi : Bool} {rk : Msk} {b : ISL} {args : List PyData} {σ0 σ' : En} {r : Rs} {z : Rt × List PyData} (hf : hvL b = false) (hσ : entry io gi 0 args ++ List.replicate (n - args.length) .emp = σ0) (h : evSL b σ0 = some (.rt r σ')) (hr : finR rk io r σ' = some z) :
    runF n io gi rk b args = some z := by
  unfold runF
  rw [hf, Bool.false_and, if_neg Bool.false_ne_true, hσ, h]
  exact hr
/-! ### comprehensions that change nothing -/
/-- τ1 is τ with x bound at tg -/
def AgreeP (τ : En) (vs : List Nat) (τ1 : En) : Prop := ∀ j, j ∉ vs → peek τ1 j = peek τ j
theorem lock_peek {σ : En} {lks : List Nat} (j : Nat) : peek (lockE lks σ) j = peek σ j := by
  unfold peek
  cases e : σ[j]? with
  | none =>
    have : (lockE lks σ)[j]? = none := by rw [List.getElem?_eq_none_iff, lockE_length]; exact List.getElem?_eq_none_iff.mp e
    rw [this]
  | some s =>
    rw [lockE_get e]
    by_cases hj : j ∈ lks
    · rw [if_pos hj]; cases s <;> rfl
    · rw [if_neg hj]
theorem unlock_lock {σ : En} {lks : List Nat} (h : ∀ i ∈ lks, isOwn σ i = true) : unlockE lks (lockE lks σ) = σ := by
  apply List.ext_getElem?
  intro j
  cases e : σ[j]? with
  | none => rw [List.getElem?_eq_none_iff, unlockE_length, lockE_length]; exact List.getElem?_eq_none_iff.mp e
  | some s =>
    have e1 := lockE_get (is := lks) e
    rw [unlockE_get e1]
    by_cases hj : j ∈ lks
    · rw [if_pos hj, if_pos hj]
      have := h j hj
      unfold isOwn at this
      rw [e] at this
      cases s <;> first | rfl | cases this
    · rw [if_neg hj, if_neg hj]
theorem back_self {σ τ : En} {vs : List Nat} (hl : τ.length = σ.length) (h : ∀ j, j ∉ vs → τ[j]? = σ[j]?) : backE σ vs τ = σ := by
  apply List.ext_getElem?
  intro j
  by_cases hj : j ∈ vs
  · by_cases hlt : j < σ.length
    · rw [backE_in hj hlt hl.symm]
    · rw [List.getElem?_eq_none (by rw [backE_length]; omega), List.getElem?_eq_none (by omega)]
  · rw [backE_out hj]; exact h j hj
theorem setVals_len {m : Msk} : ∀ (is : List Nat) (ds : List PyData) (σ : En), (setVals m is ds σ).length = σ.length := setL_length m
theorem setVals_out {m : Msk} : ∀ {is : List Nat} {ds : List PyData} {σ : En} {j : Nat}, j ∉ is → (setVals m is ds σ)[j]? = σ[j]?
  | [], _, _, _, _ => by simp [setVals]
  | _ :: _, [], _, _, _ => by simp [setVals]
  | i :: is, d :: ds, σ, j, h => by
    rw [List.mem_cons, not_or] at h
    rw [setVals, setVals_out h.2, List.getElem?_set_ne (Ne.symm h.1)]
theorem bindT_out {tg : Tg} {x : PyData} {m : Msk} {τ τ1 : En} (h : bindT tg x m τ = some τ1) : τ1.length = τ.length ∧ ∀ j, j ∉ tg.slots → τ1[j]? = τ[j]? := by
  cases tg with
  | nm i =>
    have h : some (τ.set i (.val x (nm x m))) = some τ1 := h
    cases h
    exact ⟨List.length_set, fun j hj => by simp [Tg.slots] at hj; exact List.getElem?_set_ne (Ne.symm hj)⟩
  | tup is =>
    cases x with
    | tuple xs =>
      have h : (if is.length = xs.length then some (setVals m is xs τ) else none) = some τ1 := h
      split at h
      · cases h; exact ⟨setVals_len _ _ _, fun j hj => setVals_out hj⟩
      · cases h
    | _ => cases h
theorem lcGo_pure {α : Type} (D : α → PyData) {tg : Tg} {mi m : Msk} {cnd : IO} {elt : IE} {σ : En} (p : α → Bool) (g : α → PyData) : ∀ (L : List α) (τ : En), τ.length = σ.length → (∀ j, j ∉ tg.slots → τ[j]? = σ[j]?) →
    (∀ x ∈ L, ∀ τ, τ.length = σ.length → (∀ j, j ∉ tg.slots → τ[j]? = σ[j]?) → ∃ τ1, bindT tg (D x) mi τ = some τ1 ∧ evC cnd τ1 = some (p x, τ1) ∧ (p x = true → ∃ r, ev elt τ1 = some (r, τ1) ∧ r.kept.1 = g x ∧ r.kept.2.le m = true)) →
    ∃ τ', τ'.length = σ.length ∧ (∀ j, j ∉ tg.slots → τ'[j]? = σ[j]?) ∧ lcGo (fun x s => bindT tg x mi s) (fun s => evC cnd s) (fun s => ev elt s) m (L.map D) τ = some ((L.filter p).map g, τ')
  | [], τ, hl, ho, _ => ⟨τ, hl, ho, rfl⟩
  | x :: L, τ, hl, ho, k => by
    obtain ⟨τ1, e1, e2, k1⟩ := k x List.mem_cons_self τ hl ho
    obtain ⟨l1, o1⟩ := bindT_out e1
    obtain ⟨τ', l2, o2, e3⟩ := lcGo_pure D p g L τ1 (l1.trans hl) (fun j hj => (o1 j hj).trans (ho j hj)) fun y hy => k y (List.mem_cons_of_mem _ hy)
    refine ⟨τ', l2, o2, ?_⟩
    rw [List.map_cons]
    unfold lcGo
    rw [e1, Option.bind_some, e2, Option.bind_some]
    cases hp : p x with
    | false => rw [if_neg (by simp), e3, List.filter_cons, hp]; rfl
    | true =>
      obtain ⟨r, e4, e5, e6⟩ := k1 hp
      rw [if_pos rfl, e4, Option.bind_some, if_pos e6, e3, List.filter_cons, hp, e5]
      rfl
theorem ev_lc {α : Type} (D : α → PyData) {elt : IE} {tg : Tg} {it : II} {cnd : IO} {m mi : Msk} {σ : En} {L : List α} {lks : List Nat} (p : α → Bool) (g : α → PyData) (hi : evI it σ = some (L.map D, mi, lks, σ)) (hown : ∀ i ∈ lks, isOwn σ i = true) (hd : ∀ i ∈ lks, i ∉ tg.slots)
    (k : ∀ x ∈ L, ∀ τ, τ.length = σ.length → (∀ j, j ∉ tg.slots → peek τ j = peek σ j) → ∃ τ1, bindT tg (D x) mi τ = some τ1 ∧ evC cnd τ1 = some (p x, τ1) ∧ (p x = true → ∃ r, ev elt τ1 = some (r, τ1) ∧ r.kept.1 = g x ∧ r.kept.2.le m = true))
    (hl : (L.filter p).length ≤ LIM) : ev (.lc elt tg it cnd m) σ = some (.new (.l ((L.filter p).map g)) m, σ) := by
  have hany : (lks.any fun i => tg.slots.contains i) = false := by
    cases h : lks.any fun i => tg.slots.contains i with
    | false => rfl
    | true =>
      obtain ⟨i, h1, h2⟩ := List.any_eq_true.mp h
      exact absurd (by simpa using h2) (hd i h1)
  obtain ⟨τ', l2, o2, e⟩ := lcGo_pure D (tg := tg) (mi := mi) (m := m) (cnd := cnd) (elt := elt) (σ := lockE lks σ) p g L (wipeE tg.slots (lockE lks σ)) (wipeE_length _ _) (fun j hj => wipeE_out hj) fun x hx τ h1 h2 => k x hx τ (by rw [h1, lockE_length]) fun j hj => by
    rw [← lock_peek (lks := lks) (σ := σ) j]
    unfold peek
    rw [h2 j hj]
  unfold ev
  simp only [hi, Option.bind_some, hany, Bool.false_eq_true, if_false, e, List.length_map, hl, if_true]
  rw [back_self l2 o2, unlock_lock hown]
/-- a for whose turns go on; I by the items done -/
theorem forGo_fold {α : Type} (D : α → PyData) {bf : PyData → En → Option En} {body : En → Option Fl} (I : List α → En → Prop) {L0 : List α} (k : ∀ (done : List α) (x : α) (rest : List α) (σ : En), done ++ x :: rest = L0 → I done σ → ∃ σ1 σ2, bf (D x) σ = some σ1 ∧ body σ1 = some (.nx σ2) ∧ I (done ++ [x]) σ2) :
    ∀ (L done : List α) (σ : En), done ++ L = L0 → I done σ → ∃ σ', I L0 σ' ∧ forGo bf body (L.map D) σ = some (.nx σ')
  | [], done, σ, e, h => ⟨σ, by rw [← e, List.append_nil]; exact h, rfl⟩
  | x :: L, done, σ, e, h => by
    obtain ⟨σ1, σ2, e1, e2, h2⟩ := k done x L σ e h
    obtain ⟨σ', h', e3⟩ := forGo_fold D I k L (done ++ [x]) σ2 (by simpa using e) h2
    refine ⟨σ', h', ?_⟩
    rw [List.map_cons]
    unfold forGo
    rw [e1, Option.bind_some, e2, Option.bind_some]
    exact e3
theorem bind_peek {i n : Nat} {d : PyData} {m : Msk} {τ : En} (h : n ≠ i) : peek (τ.set i (.val d m)) n = peek τ n := by
  unfold peek
  rw [List.getElem?_set_ne (Ne.symm h)]
theorem pk {σ : En} {i : Nat} {d : PyData} {m : Msk} (h : σ[i]? = some (.val d m)) : peek σ i = some (d, nm d m) := by unfold peek; rw [h]
/-- the items of a list that pass -/
theorem ev_seq {α : Type} (D : α → PyData) {σ : En} {i j : Nat} {L : List α} {mi m : Msk} {cnd : IO} (q : α → Bool) (hij : i ≠ j) (hi : i < σ.length) (hp : peek σ j = some (.list (L.map D), mi)) (hm : ∀ a, (nm (D a) mi).le m = true) (hl : L.length ≤ LIM)
    (k : ∀ x ∈ L, ∀ τ : En, τ.length = σ.length → (∀ n, n ≠ i → peek τ n = peek σ n) → peek τ i = some (D x, nm (D x) mi) → evC cnd τ = some (q x, τ)) : ev (.lc (.var i) (.nm i) (.seq (.var j)) cnd m) σ = some (.new (.l ((L.filter q).map D)) m, σ) := by
  have e : evI (.seq (.var j)) σ = some (L.map D, mi, Opd.locks σ (.pk j), σ) := by
    unfold evI
    simp only [mkOpd, hp, Option.isSome_some, if_true, Option.bind_some, Opd.get, seqItems, Option.map_some]
  refine ev_lc D q D e locks_own (fun n hn => ?_) (fun x hx τ hτ ho => ?_) (Nat.le_trans (List.length_filter_le q L) hl)
  · have hn : n ∈ (if isOwn σ j = true then [j] else []) := hn
    split at hn
    · rw [List.mem_singleton] at hn
      rw [hn]
      simpa [Tg.slots] using Ne.symm hij
    · cases hn
  · have h1 : (τ.set i (.val (D x) (nm (D x) mi)))[i]? = some (.val (D x) (nm (D x) mi)) := List.getElem?_set_self (by omega)
    have h2 : nm (D x) (nm (D x) mi) = nm (D x) mi := by cases D x <;> rfl
    refine ⟨_, rfl, k x hx _ (by rw [List.length_set]; exact hτ) (fun u hu => ?_) (by rw [pk h1, h2]), fun _ => ⟨.val (D x) (nm (D x) (nm (D x) mi)), ?_, rfl, ?_⟩⟩
    · rw [bind_peek hu]
      exact ho u (by simpa [Tg.slots] using hu)
    · unfold ev grab
      rw [h1]
      rfl
    · rw [h2]; exact hm x
/-- a list or tuple in a name is walked -/
theorem evI_var {σ : En} {i : Nat} {d : PyData} {m : Msk} {xs : List PyData} (h : peek σ i = some (d, m)) (hs : seqItems d = some xs) : evI (.seq (.var i)) σ = some (xs, m, Opd.locks σ (.pk i), σ) := by
  unfold evI
  simp only [mkOpd, h, Option.isSome_some, if_true, Option.bind_some, Opd.get, hs, Option.map_some]
theorem locks_val {σ : En} {i : Nat} {d : PyData} {m : Msk} (h : σ[i]? = some (.val d m)) : Opd.locks σ (.pk i) = [] := by
  show (if isOwn σ i = true then [i] else []) = []
  unfold isOwn
  rw [h]
  rfl
end Dv

/-! what repr tells: its text is one, and short -/
namespace Dv
open PySem PySem.Spec PySem.W PyProof.Rows L2
theorem strOk_app (a b : Str) : PyData.strOk (a ++ b) = (PyData.strOk a && PyData.strOk b) := by
  unfold PyData.strOk
  show (a.cps ++ b.cps).all _ = _
  rw [Array.all_append]
theorem strOk_of (s : String) : PyData.strOk (Str.ofString s) = true := by
  unfold PyData.strOk
  rw [Str.ofString_eq_toList, List.all_toArray, List.all_eq_true]
  intro c hc
  obtain ⟨x, _, rfl⟩ := List.mem_map.mp hc
  rw [decide_eq_true_eq]
  have := x.valid
  have h : x.toNat < 0xd800 ∨ 0xdfff < x.toNat ∧ x.toNat < 0x110000 := this
  omega
theorem strOk_join (s : Str) (hs : PyData.strOk s = true) : ∀ ts : List Str, (∀ t ∈ ts, PyData.strOk t = true) → PyData.strOk (Str.join s ts) = true
  | [], _ => strOk_of ""
  | [x], h => h x List.mem_cons_self
  | x :: y :: r, h => by
    show PyData.strOk (x ++ s ++ Str.join s (y :: r)) = true
    rw [strOk_app, strOk_app, h x List.mem_cons_self, hs, strOk_join s hs (y :: r) fun t ht => h t (List.mem_cons_of_mem _ ht)]
    rfl
mutual
/-- data whose text is told by leaves of at most B bits or signs -/
def shwOk (B : Nat) : PyData → Bool
  | .none | .bool _ => true
  | .int i => decide (i.natAbs.log2 < B)
  | .str x => PyData.strOk (reprText x) && decide ((reprText x).length ≤ B)
  | .list xs | .tuple xs => shwOkAll B xs
  | .dict _ => false
def shwOkAll (B : Nat) : List PyData → Bool
  | [] => true
  | x :: xs => shwOk B x && shwOkAll B xs
end
mutual
def cnt : PyData → Nat
  | .list xs | .tuple xs => cntAll xs + 1
  | _ => 1
def cntAll : List PyData → Nat
  | [] => 0
  | x :: xs => cnt x + cntAll xs
end
theorem shwOkAll_iff {B : Nat} : ∀ {xs : List PyData}, shwOkAll B xs = true ↔ ∀ x ∈ xs, shwOk B x = true
  | [] => by simp [shwOkAll]
  | x :: xs => by rw [shwOkAll, Bool.and_eq_true, shwOkAll_iff, List.forall_mem_cons]
theorem cntAll_le {k : Nat} : ∀ {xs : List PyData}, (∀ x ∈ xs, cnt x ≤ k) → cntAll xs ≤ k * xs.length
  | [], _ => by simp [cntAll]
  | x :: xs, h => by
    have h1 := h x List.mem_cons_self
    have h2 := cntAll_le (k := k) (xs := xs) fun y hy => h y (List.mem_cons_of_mem _ hy)
    rw [cntAll, List.length_cons, Nat.mul_succ]
    omega
mutual
theorem shown_strOk {B : Nat} : ∀ {d : PyData}, shwOk B d = true → PyData.strOk d.shown = true
  | .none, _ => by simp only [PyData.shown]; exact strOk_of _
  | .bool b, _ => by cases b <;> (simp only [PyData.shown]; exact strOk_of _)
  | .int i, _ => by simp only [PyData.shown]; exact strOk_of _
  | .str x, h => by
    simp only [shwOk, Bool.and_eq_true] at h
    simp only [PyData.shown]; exact h.1
  | .list xs, h => by
    simp only [shwOk] at h
    rw [PyData.shown_list, strOk_app, strOk_app, strOk_of, strOk_of, strOk_join _ (strOk_of _) _ (shownAll_strOk h)]
    rfl
  | .tuple xs, h => by
    simp only [shwOk] at h
    rw [PyData.shown_tuple, strOk_app, strOk_app, strOk_of, strOk_of, strOk_join _ (strOk_of _) _ (shownAll_strOk h)]
    rfl
  | .dict _, h => by simp [shwOk] at h
theorem shownAll_strOk {B : Nat} : ∀ {xs : List PyData}, shwOkAll B xs = true → ∀ t ∈ PyData.shownAll xs, PyData.strOk t = true
  | [], _, t, ht => by simp [PyData.shownAll] at ht
  | x :: xs, h, t, ht => by
    simp only [shwOkAll, Bool.and_eq_true] at h
    rw [PyData.shownAll] at ht
    rcases List.mem_cons.mp ht with rfl | ht
    · exact shown_strOk h.1
    · exact shownAll_strOk h.2 t ht
end
mutual
theorem shown_cnt {B : Nat} (hB : 4 ≤ B) : ∀ {d : PyData}, shwOk B d = true → d.shown.length + 3 ≤ (B + 8) * cnt d
  | .none, _ => by
    have e : (PyData.shown .none).length = 4 := rfl
    simp only [cnt]; omega
  | .bool b, _ => by
    have e : (PyData.shown (.bool b)).length ≤ 5 := by cases b <;> decide
    simp only [cnt]; omega
  | .int i, h => by
    simp only [shwOk, decide_eq_true_eq] at h
    have e := int_text_length_le (by omega) h
    have e2 : (PyData.shown (.int i)).length = (toString i).length := by simp only [PyData.shown]; exact PySem.ofString_length _
    simp only [cnt]; omega
  | .str x, h => by
    simp only [shwOk, Bool.and_eq_true, decide_eq_true_eq] at h
    have e2 : (PyData.shown (.str x)).length = (reprText x).length := by simp only [PyData.shown]
    simp only [cnt]; omega
  | .list xs, h => by
    simp only [shwOk] at h
    have h1 := shownAll_cnt hB h
    have h2 := listText_len_le (PyData.shownAll xs)
    have h3 := PyData.shownAll_length xs
    simp only [PyData.shown, cnt, Nat.mul_add]
    omega
  | .tuple xs, h => by
    simp only [shwOk] at h
    have h1 := shownAll_cnt hB h
    have h2 := tupleText_len_le (PyData.shownAll xs)
    have h3 := PyData.shownAll_length xs
    simp only [PyData.shown, cnt, Nat.mul_add]
    omega
  | .dict _, h => by simp [shwOk] at h
theorem shownAll_cnt {B : Nat} (hB : 4 ≤ B) : ∀ {xs : List PyData}, shwOkAll B xs = true → ((PyData.shownAll xs).map (·.length)).sum + 3 * xs.length ≤ (B + 8) * cntAll xs
  | [], _ => by simp [PyData.shownAll, cntAll]
  | x :: xs, h => by
    simp only [shwOkAll, Bool.and_eq_true] at h
    have h1 := shown_cnt hB h.1
    have h2 := shownAll_cnt hB h.2
    simp only [PyData.shownAll, cntAll, List.map_cons, List.sum_cons, List.length_cons, Nat.mul_add]
    omega
end
mutual
theorem shw_showable {B : Nat} (hB : B ≤ 1920) : ∀ {d : PyData}, shwOk B d = true → d.showable = true
  | .none, _ => by simp only [PyData.showable]
  | .bool b, _ => by simp only [PyData.showable]
  | .int i, h => by
    simp only [shwOk, decide_eq_true_eq] at h
    simp only [PyData.showable, decide_eq_true_eq]; omega
  | .str x, h => by simp only [PyData.showable]
  | .list xs, h => by simp only [shwOk] at h; simp only [PyData.showable]; exact shw_showableAll hB h
  | .tuple xs, h => by simp only [shwOk] at h; simp only [PyData.showable]; exact shw_showableAll hB h
  | .dict _, h => by simp [shwOk] at h
theorem shw_showableAll {B : Nat} (hB : B ≤ 1920) : ∀ {xs : List PyData}, shwOkAll B xs = true → PyData.showableAll xs = true
  | [], _ => by simp only [PyData.showableAll]
  | x :: xs, h => by
    simp only [shwOkAll, Bool.and_eq_true] at h
    simp only [PyData.showableAll, shw_showable hB h.1, shw_showableAll hB h.2, Bool.and_self]
end
/-- repr of such data -/
theorem repr_ok {B : Nat} (hB : 4 ≤ B) (hB2 : B ≤ 1920) {d : PyData} (h : shwOk B d = true) (hd : dep DEP d = true) (hc : (B + 8) * cnt d ≤ LIM) (m : Msk) : bltS .repr [(d, m)] = some (.val (.str d.shown) m0) := by
  have h1 := shown_cnt hB h
  have h2 : LIM = 16777216 := rfl
  show (if (dep DEP d && (d.showable && decide (d.shown.length ≤ LIM))) = true then _ else _) = _
  rw [hd, shw_showable hB2 h, decide_eq_true (by omega)]
  rfl
/-- texts that are the same -/
theorem str_eq {B : Nat} {d : PyData} (h : shwOk B d = true) : cmpS .Eq (.str d.shown) (.str d.shown) = some true := by
  have e : dep DEP (.str d.shown) = true := by unfold dep; exact shown_strOk h
  show (if (dep DEP (.str d.shown) && dep DEP (.str d.shown)) = true then some (PyData.eqv (.str d.shown) (.str d.shown)) else none) = _
  rw [e, PyData.eqv]
  simp
theorem str_ne {B : Nat} {d : PyData} (h : shwOk B d = true) : cmpS .NotEq (.str d.shown) (.str d.shown) = some false := by
  have e : dep DEP (.str d.shown) = true := by unfold dep; exact shown_strOk h
  show (if (dep DEP (.str d.shown) && dep DEP (.str d.shown)) = true then some (!PyData.eqv (.str d.shown) (.str d.shown)) else none) = _
  rw [e, PyData.eqv]
  simp
end Dv

namespace Cw
open PySem PySem.Spec PySem.W PyProof.Rows L2 Dv
def topS (i : Nat) : Stmt := PySem.Challenge.pw_answerwide_k63_whole_crossing_lots.main.body.getD i (.Pass ⟨0, 0, 0, 0⟩)
/-! _law_cell : {'script': ('L', 'i'), 'index': 'i'} -> i -/
def b_law_cell : ISL :=
  (.cons (.ifs (.cmp .Lt (.var 1) (.blt .len (.cons (.var 0) .nil)))
    (.cons (.ret (.yes (.idx (.var 0) (.var 1))))
      .nil)
    .nil)
  (.cons (.ret (.yes (.bin .Mod (.blt .sum (.cons (.slc (.var 0) .no (.yes (.lit (.int 1)))) .nil)) (.lit (.int 1000003)))))
  .nil))
def f_law_cell : FSig := { name := "_law_cell", ps := ["script", "index"], io := none, rk := m0, gi := true, sem := fun ds => runF 2 none true m0 b_law_cell ds }
/-! _law_generator : {'script': ('L', 'i'), 'index': 'i', 'seed': 'i'} -> ('L', 'i') -/
def b_law_generator : ISL :=
  (.cons (.asg 2 (.call f_law_cell (.cons (.var 0) (.cons (.var 1) .nil))))
  (.cons (.ret (.yes (.lst (.cons (.bin .Mod (.blt .int (.cons (.blt .max2 (.cons (.bin .Sub (.var 2) (.bin .Pow (.lit (.int 10)) (.lit (.int 18)))) (.cons (.lit (.int 0)) .nil))) .nil)) (.bin .Pow (.bin .Pow (.lit (.int 10)) (.lit (.int 60))) (.lit (.int 10)))) (.cons (.bin .Mod (.blt .int (.cons (.var 2) .nil)) (.lit (.int 2147483647))) (.cons (.bin .Mult (.lit (.int 1000)) (.var 1)) .nil))) m0)))
  .nil))
def f_law_generator : FSig := { name := "_law_generator", ps := ["script", "index"], io := none, rk := m0, gi := true, sem := fun ds => runF 3 none true m0 b_law_generator ds }
/-! all_lots : {'many': 'i', 'found': ('L', ('L', 'i')), 'number': 'i', 'later': ('L', ('L', 'i')), 'lot': ('L', 'i')} -> ('L', ('L', 'i')) -/
def b_all_lots : ISL :=
  (.cons (.asg 1 (.lst (.cons (.lst .nil m0) .nil) ⟨false, true, false⟩))
  (.cons (.fors (.nm 2) (.rng (.cons (.bin .Sub (.var 0) (.lit (.int 1))) (.cons (.neg (.lit (.int 1))) (.cons (.neg (.lit (.int 1))) .nil))))
    (.cons (.asg 3 (.lc (.var 4) (.nm 4) (.seq (.var 1)) (.yes (.cmp .NotEq (.var 4) (.lst .nil m0))) ⟨false, true, false⟩))
      (.cons (.asg 1 (.bin .Add (.bin .Add (.lst (.cons (.lst .nil m0) (.cons (.lst (.cons (.var 2) .nil) m0) .nil)) ⟨false, true, false⟩) (.lc (.bin .Add (.lst (.cons (.var 2) .nil) m0) (.var 4)) (.nm 4) (.seq (.var 3)) .no ⟨false, true, false⟩)) (.var 3)))
      .nil)))
  (.cons (.ret (.yes (.var 1)))
  .nil)))
def f_all_lots : FSig := { name := "all_lots", ps := ["many"], io := none, rk := ⟨false, true, false⟩, gi := false, sem := fun ds => runF 5 none false ⟨false, true, false⟩ b_all_lots ds }
/-! within : {'one': ('L', 'i'), 'other': ('L', 'i'), 'number': 'i'} -> i -/
def b_within : ISL :=
  (.cons (.ret (.yes (.cmp .Eq (.lc (.var 2) (.nm 2) (.seq (.var 0)) (.yes (.cmp .NotIn (.var 2) (.var 1))) m0) (.lst .nil m0))))
  .nil)
def f_within : FSig := { name := "within", ps := ["one", "other"], io := none, rk := m0, gi := false, sem := fun ds => runF 3 none false m0 b_within ds }
/-! least_of_lots : {'lots': ('L', ('L', 'i')), 'lot': ('L', 'i'), 'less': ('L', 'i')} -> ('L', ('L', 'i')) -/
def b_least_of_lots : ISL :=
  (.cons (.ret (.yes (.lc (.var 1) (.nm 1) (.seq (.var 0)) (.yes (.cmp .Eq (.lc (.var 2) (.nm 2) (.seq (.var 0)) (.yes (.and (.cmp .Lt (.blt .len (.cons (.var 2) .nil)) (.blt .len (.cons (.var 1) .nil))) (.one (.call f_within (.cons (.var 2) (.cons (.var 1) .nil)))))) ⟨true, false, false⟩) (.lst .nil m0))) ⟨true, false, false⟩)))
  .nil)
def f_least_of_lots : FSig := { name := "least_of_lots", ps := ["lots"], io := none, rk := ⟨true, true, false⟩, gi := false, sem := fun ds => runF 3 none false ⟨true, true, false⟩ b_least_of_lots ds }
/-! crossing_of : {'many': 'i', 'lots': ('L', ('L', 'i')), 'found': ('L', ('L', 'i')), 'lot': ('L', 'i'), 'other': ('L', 'i'), 'number': 'i'} -> ('L', ('L', 'i')) -/
def b_crossing_of : ISL :=
  (.cons (.asg 2 (.lst .nil ⟨false, true, false⟩))
  (.cons (.fors (.nm 3) (.seq (.call f_all_lots (.cons (.var 0) .nil)))
    (.cons (.ifs (.cmp .Eq (.lc (.var 4) (.nm 4) (.seq (.var 1)) (.yes (.cmp .Eq (.lc (.var 5) (.nm 5) (.seq (.var 4)) (.yes (.cmp .In (.var 5) (.var 3))) m0) (.lst .nil m0))) ⟨true, false, false⟩) (.lst .nil m0))
        (.cons (.app 2 (.var 3))
          .nil)
        .nil)
      .nil))
  (.cons (.ret (.yes (.call f_least_of_lots (.cons (.var 2) .nil))))
  .nil)))
def f_crossing_of : FSig := { name := "crossing_of", ps := ["many", "lots"], io := none, rk := ⟨false, true, false⟩, gi := false, sem := fun ds => runF 6 none false ⟨false, true, false⟩ b_crossing_of ds }
/-! is_count : {'value': 'i'} -> i -/
def b_is_count : ISL :=
  (.cons (.ret (.yes (.and (.blt (.isinst "int") (.cons (.var 0) .nil)) (.and (.not (.blt (.isinst "bool") (.cons (.var 0) .nil))) (.one (.cmp .GtE (.var 0) (.lit (.int 0))))))))
  .nil)
def f_is_count : FSig := { name := "is_count", ps := ["value"], io := none, rk := m0, gi := false, sem := fun ds => runF 1 none false m0 b_is_count ds }
/-! is_lot : {'many': 'i', 'value': ('L', 'i'), 'item': 'i', 'place': 'i'} -> i -/
def b_is_lot : ISL :=
  (.cons (.ifs (.or (.not (.blt (.isinst "list") (.cons (.var 1) .nil))) (.one (.cmp .NotEq (.lc (.var 2) (.nm 2) (.seq (.var 1)) (.yes (.or (.not (.call f_is_count (.cons (.var 2) .nil))) (.one (.cmp .GtE (.var 2) (.var 0))))) m0) (.lst .nil m0))))
    (.cons (.ret (.yes (.lit (.bool false))))
      .nil)
    .nil)
  (.cons (.ret (.yes (.cmp .Eq (.lc (.var 3) (.nm 3) (.rng (.cons (.lit (.int 1)) (.cons (.blt .len (.cons (.var 1) .nil)) .nil))) (.yes (.cmp .GtE (.idx (.var 1) (.bin .Sub (.var 3) (.lit (.int 1)))) (.idx (.var 1) (.var 3)))) m0) (.lst .nil m0))))
  .nil))
def f_is_lot : FSig := { name := "is_lot", ps := ["many", "value"], io := none, rk := m0, gi := false, sem := fun ds => runF 4 none false m0 b_is_lot ds }
/-! crossing : {'many': 'i', 'lots': ('L', ('L', 'i')), 'lot': ('L', 'i')} -> ('L', ('L', 'i')) -/
def b_crossing : ISL :=
  (.cons (.ifs (.or (.not (.call f_is_count (.cons (.var 0) .nil))) (.one (.cmp .Gt (.var 0) (.glb "MOST_NUMBERS" (.int 8)))))
    (.cons .no
      .nil)
    .nil)
  (.cons (.ifs (.or (.not (.blt (.isinst "list") (.cons (.var 1) .nil))) (.one (.cmp .NotEq (.lc (.var 2) (.nm 2) (.seq (.var 1)) (.yes (.not (.call f_is_lot (.cons (.var 0) (.cons (.var 2) .nil))))) ⟨true, false, false⟩) (.lst .nil m0))))
    (.cons .no
      .nil)
    .nil)
  (.cons (.ret (.yes (.call f_crossing_of (.cons (.var 0) (.cons (.var 1) .nil)))))
  .nil)))
def f_crossing : FSig := { name := "crossing", ps := ["many", "lots"], io := none, rk := ⟨false, true, false⟩, gi := false, sem := fun ds => runF 3 none false ⟨false, true, false⟩ b_crossing ds }
/-! _law_lots : {'many_told': 'i', 'found': ('L', ('L', 'i')), 'number': 'i', 'lot': ('L', 'i')} -> ('L', ('L', 'i')) -/
def b_law_lots : ISL :=
  (.cons (.asg 1 (.lst (.cons (.lst .nil m0) .nil) ⟨false, true, false⟩))
  (.cons (.fors (.nm 2) (.rng (.cons (.var 0) .nil))
    (.cons (.asg 1 (.bin .Add (.var 1) (.lc (.bin .Add (.var 3) (.lst (.cons (.var 2) .nil) m0)) (.nm 3) (.seq (.var 1)) .no ⟨false, true, false⟩)))
      .nil))
  (.cons (.ret (.yes (.blt .sorted (.cons (.var 1) .nil))))
  .nil)))
def f_law_lots : FSig := { name := "_law_lots", ps := ["many_told"], io := none, rk := ⟨false, true, false⟩, gi := false, sem := fun ds => runF 4 none false ⟨false, true, false⟩ b_law_lots ds }
/-! _law_hash : {'seed': 'i', 'index': 'i', 'mixed': 'i'} -> i -/
def b_law_hash : ISL :=
  (.cons (.asg 2 (.bin .Mod (.blt .int (.cons (.bin .Add (.bin .Add (.bin .Add (.bin .Mult (.var 0) (.lit (.int 1140671))) (.bin .Mult (.bin .Mult (.lit (.int 27644437)) (.var 1)) (.var 1))) (.bin .Mult (.lit (.int 131)) (.var 1))) (.lit (.int 19))) .nil)) (.lit (.int 2147483629))))
  (.cons (.asg 2 (.bin .Mod (.blt .int (.cons (.bin .Add (.bin .Add (.bin .Mult (.var 2) (.var 2)) (.bin .Mult (.lit (.int 62089)) (.var 1))) (.lit (.int 32416187))) .nil)) (.lit (.int 2147483587))))
  (.cons (.ret (.yes (.bin .Mod (.blt .int (.cons (.bin .Mult (.var 2) (.lit (.int 48271))) .nil)) (.lit (.int 2147483647)))))
  .nil)))
def f_law_hash : FSig := { name := "_law_hash", ps := ["seed", "index"], io := none, rk := m0, gi := false, sem := fun ds => runF 3 none false m0 b_law_hash ds }
/-! _law_random : {'generator': ('L', 'i'), 'bound': 'i', 'drawn': 'i', 'turn': 'i'} -> i -/
def b_law_random : ISL :=
  (.cons (.ifs (.cmp .Gt (.idx (.var 0) (.lit (.int 0))) (.lit (.int 0)))
    (.cons (.asg 2 (.bin .Mod (.blt .int (.cons (.idx (.var 0) (.lit (.int 0))) .nil)) (.var 1)))
      (.cons (.sti 0 (.lit (.int 0)) (.bin .FloorDiv (.idx (.var 0) (.lit (.int 0))) (.var 1)))
      (.cons (.ret (.yes (.var 2)))
      .nil)))
    .nil)
  (.cons (.asg 2 (.lit (.int 0)))
  (.cons (.fors (.nm 3) (.rng (.cons (.bin .Add (.lit (.int 1)) (.bin .FloorDiv (.mth .bitLength (.var 1) .nil) (.lit (.int 30)))) .nil))
    (.cons (.sti 0 (.lit (.int 2)) (.bin .Add (.idx (.var 0) (.lit (.int 2))) (.lit (.int 1))))
      (.cons (.asg 2 (.bin .Add (.bin .Mult (.var 2) (.lit (.int 2147483587))) (.call f_law_hash (.cons (.idx (.var 0) (.lit (.int 1))) (.cons (.idx (.var 0) (.lit (.int 2))) .nil)))))
      .nil)))
  (.cons (.ret (.yes (.bin .Mod (.blt .int (.cons (.var 2) .nil)) (.var 1))))
  .nil))))
def f_law_random : FSig := { name := "_law_random", ps := ["generator", "bound"], io := some 0, rk := m0, gi := false, sem := fun ds => runF 4 (some 0) false m0 b_law_random ds }
/-! _law_inside : {'low': ('L', 'i'), 'high': ('L', 'i'), 'number': 'i'} -> i -/
def b_law_inside : ISL :=
  (.cons (.ret (.yes (.cmp .Eq (.lc (.var 2) (.nm 2) (.seq (.var 0)) (.yes (.cmp .NotIn (.var 2) (.var 1))) m0) (.lst .nil m0))))
  .nil)
def f_law_inside : FSig := { name := "_law_inside", ps := ["low", "high"], io := none, rk := m0, gi := false, sem := fun ds => runF 3 none false m0 b_law_inside ds }
/-! _law_least : {'lots_told': ('L', ('L', 'i')), 'lot': ('L', 'i'), 'less': ('L', 'i')} -> ('L', ('L', 'i')) -/
def b_law_least : ISL :=
  (.cons (.ret (.yes (.lc (.var 1) (.nm 1) (.seq (.var 0)) (.yes (.cmp .Eq (.lc (.var 2) (.nm 2) (.seq (.var 0)) (.yes (.and (.cmp .NotEq (.var 2) (.var 1)) (.one (.call f_law_inside (.cons (.var 2) (.cons (.var 1) .nil)))))) ⟨true, false, false⟩) (.lst .nil m0))) ⟨true, false, false⟩)))
  .nil)
def f_law_least : FSig := { name := "_law_least", ps := ["lots_told"], io := none, rk := ⟨true, true, false⟩, gi := false, sem := fun ds => runF 3 none false ⟨true, true, false⟩ b_law_least ds }
/-! _law_due : {'many_told': 'i', 'lots_told': ('L', ('L', 'i')), 'found': ('L', ('L', 'i')), 'lot': ('L', 'i'), 'other_told': ('L', 'i'), 'number': 'i'} -> ('L', ('L', 'i')) -/
def b_law_due : ISL :=
  (.cons (.asg 2 (.lst .nil ⟨false, true, false⟩))
  (.cons (.fors (.nm 3) (.seq (.call f_law_lots (.cons (.var 0) .nil)))
    (.cons (.ifs (.cmp .Eq (.lc (.var 4) (.nm 4) (.seq (.var 1)) (.yes (.cmp .Eq (.lc (.var 5) (.nm 5) (.seq (.var 4)) (.yes (.cmp .In (.var 5) (.var 3))) m0) (.lst .nil m0))) ⟨true, false, false⟩) (.lst .nil m0))
        (.cons (.app 2 (.var 3))
          .nil)
        .nil)
      .nil))
  (.cons (.ret (.yes (.call f_law_least (.cons (.var 2) .nil))))
  .nil)))
def f_law_due : FSig := { name := "_law_due", ps := ["many_told", "lots_told"], io := none, rk := ⟨false, true, false⟩, gi := false, sem := fun ds => runF 6 none false ⟨false, true, false⟩ b_law_due ds }
/-! _law_right : {'generator': ('L', 'i'), 'many_told': 'i', 'every': ('L', ('L', 'i')), 'lots_told': ('L', ('L', 'i')), 'turn': 'i', 'lot': ('L', 'i'), 'kept': 'i', 'due': ('L', ('L', 'i')), 'told': ('L', ('L', 'i')), 'some': ('L', 'i'), 'least': ('L', ('L', 'i')), 'at': 'i'} -> i -/
def b_law_right : ISL :=
  (.cons (.asg 2 (.call f_law_lots (.cons (.var 1) .nil)))
  (.cons (.asg 3 (.lc (.blt .list (.cons (.idx (.var 2) (.call f_law_random (.cons (.var 0) (.cons (.blt .len (.cons (.var 2) .nil)) .nil)))) .nil)) (.nm 4) (.rng (.cons (.call f_law_random (.cons (.var 0) (.cons (.lit (.int 6)) .nil))) .nil)) .no ⟨false, true, false⟩))
  (.cons (.ifs (.cmp .Gt (.call f_law_random (.cons (.var 0) (.cons (.lit (.int 4)) .nil))) (.lit (.int 0)))
    (.cons (.asg 3 (.lc (.var 5) (.nm 5) (.seq (.var 3)) (.yes (.cmp .NotEq (.var 5) (.lst .nil m0))) ⟨false, true, false⟩))
      .nil)
    .nil)
  (.cons (.par 6 7 (.blt .repr (.cons (.var 3) .nil)) (.call f_law_due (.cons (.var 1) (.cons (.var 3) .nil))))
  (.cons (.asg 8 (.call { f_crossing with tod := true } (.cons (.var 1) (.cons (.var 3) .nil))))
  (.cons (.ifs (.or (.cmp .NotEq (.blt .repr (.cons (.var 8) .nil)) (.blt .repr (.cons (.var 7) .nil))) (.one (.cmp .NotEq (.blt .repr (.cons (.var 3) .nil)) (.var 6))))
    (.cons (.ret (.yes (.lit (.bool false))))
      .nil)
    .nil)
  (.hv 8 9
  (.cons (.ifs (.cmp .NotEq (.blt .repr (.cons (.callk f_crossing .nil [1, 0] (.cons (.var 3) (.cons (.var 1) .nil))) .nil)) (.blt .repr (.cons (.var 7) .nil)))
    (.cons (.ret (.yes (.lit (.bool false))))
      .nil)
    .nil)
  (.cons (.asg 10 (.blt .sorted (.cons (.call f_law_least (.cons (.lc (.blt .list (.cons (.var 5) .nil)) (.tup [11, 5]) (.enu (.var 3)) (.yes (.cmp .NotIn (.var 5) (.slc (.var 3) .no (.yes (.var 11))))) ⟨false, true, false⟩) .nil)) .nil)))
  (.cons (.ret (.yes (.cmp .Eq (.blt .repr (.cons (.call f_crossing (.cons (.var 1) (.cons (.var 7) .nil))) .nil)) (.blt .repr (.cons (.var 10) .nil)))))
  .nil))))))))))
def f_law_right : FSig := { name := "_law_right", ps := ["generator", "many_told"], io := some 0, rk := m0, gi := false, sem := fun ds => runF 12 (some 0) false m0 b_law_right ds }
/-! law : {'script': ('L', 'i'), 'index': 'i', 'generator': ('L', 'i'), 'told': ('L', ('L', ('L', 'i')))} -> i -/
def b_law : ISL :=
  (.cons (.fors (.nm 1) (.rng (.cons (.lit (.int 3)) .nil))
    (.cons (.asg 2 (.call f_law_generator (.cons (.var 0) (.cons (.var 1) .nil))))
      (.cons (.ifs (.not (.call f_law_right (.cons (.var 2) (.cons (.call f_law_random (.cons (.var 2) (.cons (.lit (.int 7)) .nil))) .nil))))
        (.cons (.ret (.yes (.lit (.bool false))))
          .nil)
        .nil)
      .nil)))
  (.cons (.asg 2 (.call f_law_generator (.cons (.var 0) (.cons (.lit (.int 3)) .nil))))
  (.cons (.ifs (.and (.cmp .Eq (.call f_law_random (.cons (.var 2) (.cons (.lit (.int 12)) .nil))) (.lit (.int 0))) (.one (.not (.call f_law_right (.cons (.var 2) (.cons (.lit (.int 8)) .nil))))))
    (.cons (.ret (.yes (.lit (.bool false))))
      .nil)
    .nil)
  (.cons (.asg 3 (.lst (.cons (.call f_crossing (.cons (.lit (.int 4)) (.cons (.lst (.cons (.lst (.cons (.lit (.int 1)) (.cons (.lit (.int 2)) .nil)) m0) (.cons (.lst (.cons (.lit (.int 2)) (.cons (.lit (.int 3)) .nil)) m0) .nil)) ⟨false, true, false⟩) .nil))) (.cons (.call f_crossing (.cons (.lit (.int 3)) (.cons (.lst .nil m0) .nil))) (.cons (.call f_crossing (.cons (.lit (.int 3)) (.cons (.lst (.cons (.lst .nil m0) (.cons (.lst (.cons (.lit (.int 1)) .nil) m0) .nil)) ⟨false, true, false⟩) .nil))) (.cons (.call f_crossing (.cons (.lit (.int 0)) (.cons (.lst .nil m0) .nil))) (.cons (.call f_crossing (.cons (.lit (.int 8)) (.cons (.lst (.cons (.lst (.cons (.lit (.int 0)) (.cons (.lit (.int 7)) .nil)) m0) (.cons (.lst (.cons (.lit (.int 7)) .nil) m0) (.cons (.lst (.cons (.lit (.int 7)) .nil) m0) .nil))) ⟨false, true, false⟩) .nil))) .nil))))) ⟨false, true, false⟩))
  (.cons (.ret (.yes (.and (.cmp .Eq (.blt .repr (.cons (.var 3) .nil)) (.blt .repr (.cons (.lst (.cons (.lst (.cons (.lst (.cons (.lit (.int 1)) (.cons (.lit (.int 3)) .nil)) m0) (.cons (.lst (.cons (.lit (.int 2)) .nil) m0) .nil)) ⟨false, true, false⟩) (.cons (.lst (.cons (.lst .nil m0) .nil) ⟨false, true, false⟩) (.cons (.lst .nil m0) (.cons (.lst (.cons (.lst .nil m0) .nil) ⟨false, true, false⟩) (.cons (.lst (.cons (.lst (.cons (.lit (.int 7)) .nil) m0) .nil) ⟨false, true, false⟩) .nil))))) ⟨false, true, false⟩) .nil))) (.one (.cmp .Eq (.call f_crossing (.cons (.lit (.int 8)) (.cons (.lst (.cons (.lst (.cons (.lit (.int 0)) (.cons (.lit (.int 1)) .nil)) m0) (.cons (.lst (.cons (.lit (.int 2)) (.cons (.lit (.int 3)) .nil)) m0) (.cons (.lst (.cons (.lit (.int 4)) (.cons (.lit (.int 5)) .nil)) m0) .nil))) ⟨false, true, false⟩) .nil))) (.call f_law_due (.cons (.lit (.int 8)) (.cons (.lst (.cons (.lst (.cons (.lit (.int 0)) (.cons (.lit (.int 1)) .nil)) m0) (.cons (.lst (.cons (.lit (.int 2)) (.cons (.lit (.int 3)) .nil)) m0) (.cons (.lst (.cons (.lit (.int 4)) (.cons (.lit (.int 5)) .nil)) m0) .nil))) ⟨false, true, false⟩) .nil))))))))
  .nil)))))
def f_law : FSig := { name := "law", ps := ["script"], io := none, rk := m0, gi := true, sem := fun ds => runF 4 none true m0 b_law ds }
end Cw

open PySem PySem.Spec PySem.W PyProof.Rows L2 Dv
namespace Cw
def D1 (l : List Int) : PyData := .list (l.map .int)
theorem dep_int (n : Nat) (i : Int) : dep n (.int i) = true := by cases n <;> rfl
theorem dep_ints (n : Nat) (l : List Int) : depAll n (l.map .int) = true := by
  induction l with
  | nil => cases n <;> rfl
  | cons x l ih => rw [List.map_cons, depAll, dep_int, ih]; rfl
theorem dep_D1 (n : Nat) (l : List Int) : dep (n + 1) (D1 l) = true := by show depAll n _ = true; exact dep_ints n l
theorem dep_L (l : List Int) : dep DEP (.list (l.map .int)) = true := dep_D1 59 l
theorem eqv_int (i j : Int) : PyData.eqv (.int i) (.int j) = decide (i = j) := Bool.eq_iff_iff.mpr (by simp [PyData.eqv])
theorem eqvAll_ints : ∀ a b : List Int, PyData.eqvAll (a.map .int) (b.map .int) = decide (a = b)
  | [], [] => by simp [PyData.eqvAll]
  | [], _ :: _ => by simp [PyData.eqvAll]
  | _ :: _, [] => by simp [PyData.eqvAll]
  | x :: a, y :: b => by simp [PyData.eqvAll, eqv_int, eqvAll_ints a b, Bool.decide_and]
theorem eqv_D1 (a b : List Int) : PyData.eqv (D1 a) (D1 b) = decide (a = b) := by
  unfold D1
  rw [PyData.eqv]
  exact eqvAll_ints a b
theorem in_ints (i : Int) (l : List Int) : ((l.map PyData.int).any fun z => PyData.eqv z (.int i)) = decide (i ∈ l) := by
  induction l with
  | nil => rfl
  | cons x l ih => simp [eqv_int, ih, eq_comm, Bool.decide_or]
theorem eqv_nil {xs : List PyData} : PyData.eqv (.list xs) (.list []) = xs.isEmpty := by cases xs <;> simp [PyData.eqv, PyData.eqvAll]
abbrev A0 : Msk := ⟨true, false, false⟩
/-- .. none passes -/
theorem ev_none {σ : En} {e : IE} {xs : List PyData} {m : Msk} (he : isVar e = false) (h : ev e σ = some (.new (.l xs) m, σ)) (hd : dep DEP (.list xs) = true) : ev (.cmp .Eq e (.lst .nil m0)) σ = some (.val (.bool xs.isEmpty) m0, σ) := by
  refine ev_cmp (rd_new he h) (rd_new rfl (ev_lst .nil rfl (by decide))) ?_
  show (if (dep DEP (.list xs) && dep DEP (.list [])) = true then some (PyData.eqv (.list xs) (.list [])) else none) = _
  rw [hd, eqv_nil]
  rfl
theorem ev_some {σ : En} {e : IE} {xs : List PyData} {m : Msk} (he : isVar e = false) (h : ev e σ = some (.new (.l xs) m, σ)) (hd : dep DEP (.list xs) = true) : ev (.cmp .NotEq e (.lst .nil m0)) σ = some (.val (.bool (!xs.isEmpty)) m0, σ) := by
  refine ev_cmp (rd_new he h) (rd_new rfl (ev_lst .nil rfl (by decide))) ?_
  show (if (dep DEP (.list xs) && dep DEP (.list [])) = true then some (!PyData.eqv (.list xs) (.list [])) else none) = _
  rw [hd, eqv_nil]
  rfl
theorem notin_ev {σ : En} {i j : Nat} {x : Int} {b : List Int} {m m' : Msk} (h1 : Dv.peek σ i = some (.int x, m)) (h2 : Dv.peek σ j = some (D1 b, m')) : ev (.cmp .NotIn (.var i) (.var j)) σ = some (.val (.bool (!decide (x ∈ b))) m0, σ) := by
  refine ev_cmp (rd_var h1) (rd_var h2) ?_
  show (if (dep DEP (.int x) && dep DEP (.list (b.map .int))) = true then some (!(b.map PyData.int).any fun z => PyData.eqv z (.int x)) else none) = _
  rw [dep_int, dep_L, in_ints]
  rfl
theorem in_ev {σ : En} {i j : Nat} {x : Int} {b : List Int} {m m' : Msk} (h1 : Dv.peek σ i = some (.int x, m)) (h2 : Dv.peek σ j = some (D1 b, m')) : ev (.cmp .In (.var i) (.var j)) σ = some (.val (.bool (decide (x ∈ b))) m0, σ) := by
  refine ev_cmp (rd_var h1) (rd_var h2) ?_
  show (if (dep DEP (.int x) && dep DEP (.list (b.map .int))) = true then some ((b.map PyData.int).any fun z => PyData.eqv z (.int x)) else none) = _
  rw [dep_int, dep_L, in_ints]
  rfl
/-- every number of a is in b -/
def inL (a b : List Int) : Bool := (a.filter fun x => !decide (x ∈ b)).isEmpty
theorem map_empty {α β : Type} (f : α → β) (l : List α) : (l.map f).isEmpty = l.isEmpty := by cases l <;> rfl
theorem ev_ret {σ σ' : En} {e : IE} {r : Rs} (hv : isVar e = false) (h : ev e σ = some (r, σ')) : evS (.ret (.yes e)) σ = some (.rt r σ') := by
  simp only [evS]
  cases e <;> first | (cases hv; done) | (simp only [evR, h, Option.map_some])
theorem sl_ret {σ σ' : En} {e : IE} {r : Rs} {ss : ISL} (hv : isVar e = false) (h : ev e σ = some (r, σ')) : evSL (.cons (.ret (.yes e)) ss) σ = some (.rt r σ') := by
  simp only [evSL, ev_ret hv h, Option.bind_some]
theorem within_ev (a b : List Int) (ha : a.length ≤ LIM) : f_within.sem [D1 a, D1 b] = some (.v (.bool (inL a b)), []) := by
  have key : ev (.cmp .Eq (.lc (.var 2) (.nm 2) (.seq (.var 0)) (.yes (.cmp .NotIn (.var 2) (.var 1))) m0) (.lst .nil m0)) [.val (D1 a) A0, .val (D1 b) A0, .emp] = some (.val (.bool (inL a b)) m0, [.val (D1 a) A0, .val (D1 b) A0, .emp]) := by
    have e := ev_seq PyData.int (σ := [.val (D1 a) A0, .val (D1 b) A0, .emp]) (i := 2) (j := 0) (L := a) (mi := A0) (m := m0) (cnd := .yes (.cmp .NotIn (.var 2) (.var 1))) (fun x => !decide (x ∈ b)) (by decide) (Nat.lt_succ_self 2) rfl (fun _ => rfl) ha fun x _ τ _ ho hx =>
      evC_bool rfl (notin_ev hx (ho 1 (by decide)))
    have := ev_none rfl e (dep_L _)
    rw [map_empty] at this
    exact this
  have := sl_ret (ss := .nil) rfl key
  show (evSL b_within [.val (D1 a) A0, .val (D1 b) A0, .emp]).bind _ = _
  rw [show evSL b_within [.val (D1 a) A0, .val (D1 b) A0, .emp] = _ from this]
  rfl
theorem inside_ev (a b : List Int) (ha : a.length ≤ LIM) : f_law_inside.sem [D1 a, D1 b] = some (.v (.bool (inL a b)), []) := within_ev a b ha
theorem dep_D2 (n : Nat) : ∀ L : List (List Int), depAll (n + 1) (L.map D1) = true
  | [] => rfl
  | l :: L => by rw [List.map_cons, depAll, dep_D1, dep_D2 n L]; rfl
theorem dep_LL (L : List (List Int)) : dep DEP (.list (L.map D1)) = true := dep_D2 58 L
def small (L : List (List Int)) : Prop := L.length ≤ LIM ∧ ∀ l ∈ L, l.length ≤ LIM
/-- the lots of L beneath which is no other, by an order -/
def leastBy (lt : List Int → List Int → Bool) (L : List (List Int)) : List (List Int) := L.filter fun lot => (L.filter fun less => lt less lot && inL less lot).isEmpty
def ltA (a b : List Int) : Bool := decide (a.length < b.length)
def ltB (a b : List Int) : Bool := !decide (a = b)
theorem len_ev {σ : En} {i : Nat} {l : List Int} {m : Msk} (h : Dv.peek σ i = some (D1 l, m)) : ev (.blt .len (.cons (.var i) .nil)) σ = some (.val (.int (l.length : Nat)) m0, σ) := by
  refine ev_blt (.cons (rd_var h) .nil) ?_
  show some (Rs.val (.int ((l.map PyData.int).length : Nat)) m0) = _
  rw [List.length_map]
/-- the nested comprehension of both -/
theorem ev_least {lt : List Int → List Int → Bool} {L : List (List Int)} {test : IE} {f : FSig} (hL : small L) (hf : ∀ a b : List Int, a.length ≤ LIM → f.sem [D1 a, D1 b] = some (.v (.bool (inL a b)), [])) (hrk : f.rk = m0) (hio : f.io = none) (hps : f.ps.length = 2)
    (ht : ∀ (σ : En) (a b : List Int), Dv.peek σ 2 = some (D1 a, A0) → Dv.peek σ 1 = some (D1 b, A0) → ev test σ = some (.val (.bool (lt a b)) m0, σ)) :
    ev (.lc (.var 1) (.nm 1) (.seq (.var 0)) (.yes (.cmp .Eq (.lc (.var 2) (.nm 2) (.seq (.var 0)) (.yes (.and test (.one (.call f (.cons (.var 2) (.cons (.var 1) .nil)))))) A0) (.lst .nil m0))) A0) [.val (.list (L.map D1)) A0, .emp, .emp] =
      some (.new (.l ((leastBy lt L).map D1)) A0, [.val (.list (L.map D1)) A0, .emp, .emp]) := by
  refine ev_seq D1 (q := fun lot => (L.filter fun less => lt less lot && inL less lot).isEmpty) (i := 1) (j := 0) (mi := A0) (by decide) (Nat.lt_add_of_pos_left (by decide : 0 < 2)) rfl (fun _ => rfl) hL.1 fun lot hlot τ hτ ho hx => ?_
  have e := ev_seq D1 (σ := τ) (i := 2) (j := 0) (L := L) (mi := A0) (m := A0) (cnd := .yes (.and test (.one (.call f (.cons (.var 2) (.cons (.var 1) .nil)))))) (fun less => lt less lot && inL less lot) (by decide) (by rw [hτ]; exact Nat.lt_succ_self 2) (ho 0 (by decide)) (fun _ => rfl) hL.1 fun less hless τ2 _ ho2 hx2 => by
    have h1 : Dv.peek τ2 1 = some (D1 lot, A0) := (ho2 1 (by decide)).trans hx
    have h2 : Dv.peek τ2 2 = some (D1 less, A0) := hx2
    refine evC_bool rfl (ev_and (ht τ2 less lot h2 h1) fun _ => ev_one ?_)
    have := ev_callB (f := f) (.cons (rd_var h2) (.cons (rd_var h1) .nil)) hrk hio hps.symm rfl (hf less lot (hL.2 less hless))
    exact this
  have := ev_none rfl e (dep_LL _)
  rw [map_empty] at this
  exact evC_bool rfl this
theorem least_run {f : FSig} {b : ISL} {e : IE} {L : List (List Int)} {R : List (List Int)} (hb : b = .cons (.ret (.yes e)) .nil) (he : isVar e = false) (h : ev e [.val (.list (L.map D1)) A0, .emp, .emp] = some (.new (.l (R.map D1)) A0, [.val (.list (L.map D1)) A0, .emp, .emp])) :
    runF 3 none false ⟨true, true, false⟩ b [.list (L.map D1)] = some (.n (.l (R.map D1)), []) := by
  subst hb
  have := sl_ret (ss := .nil) he h
  show (evSL _ [.val (.list (L.map D1)) A0, .emp, .emp]).bind _ = _
  rw [this]
  rfl
theorem least_ev {L : List (List Int)} (hL : small L) : f_least_of_lots.sem [.list (L.map D1)] = some (.n (.l ((leastBy ltA L).map D1)), []) := by
  refine least_run (f := f_least_of_lots) rfl rfl (ev_least (lt := ltA) hL within_ev rfl rfl rfl fun σ a b h1 h2 => ?_)
  refine ev_cmp (rd_val rfl (len_ev h1)) (rd_val rfl (len_ev h2)) ?_
  show some (decide ((a.length : Int) < (b.length : Int))) = some (ltA a b)
  unfold ltA
  congr 1
  simp
theorem law_least_ev {L : List (List Int)} (hL : small L) : f_law_least.sem [.list (L.map D1)] = some (.n (.l ((leastBy ltB L).map D1)), []) := by
  refine least_run (f := f_law_least) rfl rfl (ev_least (lt := ltB) hL inside_ev rfl rfl rfl fun σ a b h1 h2 => ?_)
  refine ev_cmp (rd_var h1) (rd_var h2) ?_
  show (if (dep DEP (D1 a) && dep DEP (D1 b)) = true then some (!PyData.eqv (D1 a) (D1 b)) else none) = _
  rw [dep_D1, dep_D1, eqv_D1]
  rfl
end Cw

open PySem PySem.Spec PySem.W PyProof.Rows L2 Dv
namespace Cw
/-- lot meets each of F -/
def meets (F : List (List Int)) (lot : List Int) : Bool := (F.filter fun o => (o.filter fun x => decide (x ∈ lot)).isEmpty).isEmpty
def meetI : IE := .cmp .Eq (.lc (.var 4) (.nm 4) (.seq (.var 1)) (.yes (.cmp .Eq (.lc (.var 5) (.nm 5) (.seq (.var 4)) (.yes (.cmp .In (.var 5) (.var 3))) m0) (.lst .nil m0))) A0) (.lst .nil m0)
theorem meet_ev {σ : En} {F : List (List Int)} {lot : List Int} {m : Msk} (hl : σ.length = 6) (hF : small F) (h1 : Dv.peek σ 1 = some (.list (F.map D1), A0)) (h3 : Dv.peek σ 3 = some (D1 lot, m)) : ev meetI σ = some (.val (.bool (meets F lot)) m0, σ) := by
  have e := ev_seq D1 (σ := σ) (i := 4) (j := 1) (L := F) (mi := A0) (m := A0) (cnd := .yes (.cmp .Eq (.lc (.var 5) (.nm 5) (.seq (.var 4)) (.yes (.cmp .In (.var 5) (.var 3))) m0) (.lst .nil m0))) (fun o => (o.filter fun x => decide (x ∈ lot)).isEmpty) (by decide) (by rw [hl]; decide) h1 (fun _ => rfl) hF.1 fun o ho τ hτ ht hx => by
    have e2 := ev_seq PyData.int (σ := τ) (i := 5) (j := 4) (L := o) (mi := A0) (m := m0) (cnd := .yes (.cmp .In (.var 5) (.var 3))) (fun x => decide (x ∈ lot)) (by decide) (by rw [hτ, hl]; decide) hx (fun _ => rfl) (hF.2 o ho) fun x _ τ2 _ ht2 hx2 =>
      evC_bool rfl (in_ev hx2 ((ht2 3 (by decide)).trans ((ht 3 (by decide)).trans h3)))
    have := ev_none rfl e2 (dep_L _)
    rw [map_empty] at this
    exact evC_bool rfl this
  have := ev_none rfl e (dep_LL _)
  rw [map_empty] at this
  exact this
def cross (AL F : List (List Int)) : List (List Int) := AL.filter (meets F)
def crossB (f fl : FSig) : ISL :=
  .cons (.asg 2 (.lst .nil mC)) (.cons (.fors (.nm 3) (.seq (.call f (.cons (.var 0) .nil))) (.cons (.ifs meetI (.cons (.app 2 (.var 3)) .nil) .nil) .nil)) (.cons (.ret (.yes (.call fl (.cons (.var 2) .nil)))) .nil))
theorem cross_run {f fl : FSig} {k : Int} {AL F R : List (List Int)} (hF : small F) (hAL : AL.length < LIM) (hrk : f.rk = mC) (hio : f.io = none) (htod : f.tod = false) (hps : f.ps.length = 1) (hf : f.sem [.int k] = some (.n (.l (AL.map D1)), []))
    (hrl : fl.rk = ⟨true, true, false⟩) (hiol : fl.io = none) (htl : fl.tod = false) (hpl : fl.ps.length = 1) (hfl : fl.sem [.list ((cross AL F).map D1)] = some (.n (.l (R.map D1)), [])) :
    runF 6 none false mC (crossB f fl) [.int k, .list (F.map D1)] = some (.n (.l (R.map D1)), []) := by
  let A : En := [.val (.int k) A0, .val (.list (F.map D1)) A0]
  -- what is walked
  have hw : ∀ s : Sl, evF (.seq (.call f (.cons (.var 0) .nil))) (A ++ [s, .emp, .emp, .emp]) = some (AL.map D1, mC, A ++ [s, .emp, .emp, .emp]) := fun s => by
    have e := ev_callK (τ := A ++ [s, .emp, .emp, .emp]) (f := f) (es := .cons (.var 0) .nil) (m := m0.or m0) (.cons (kp_var (i := 0) rfl) .nil) (by rw [hrk]; decide) hio hps.symm rfl hf
    rw [htod, hrk] at e
    unfold evF
    simp only [mkOpd, e, Option.map_some, Option.bind_some]
    rfl
  -- the loop
  obtain ⟨σ', ⟨s, hs⟩, hgo⟩ := forGo_fold D1 (bf := fun x s => bindT (.nm 3) x mC s) (body := fun s => evSL (.cons (.ifs meetI (.cons (.app 2 (.var 3)) .nil) .nil) .nil) s) (L0 := AL)
    (fun done σ => ∃ s, σ = A ++ [.own (.l ((cross done F).map D1)) mC false, s, .emp, .emp]) (by
      rintro done x rest σ hd ⟨s, rfl⟩
      have ht : evT meetI (A ++ [.own (.l ((cross done F).map D1)) mC false, .val (D1 x) mC, .emp, .emp]) = some (meets F x, A ++ [.own (.l ((cross done F).map D1)) mC false, .val (D1 x) mC, .emp, .emp]) :=
        evT_bool rfl (meet_ev (m := mC) rfl hF rfl rfl)
      have hlen : ((cross done F).map D1).length < LIM := by
        have h1 : (cross done F).length ≤ done.length := List.length_filter_le _ _
        have h2 : (done ++ x :: rest).length = AL.length := by rw [hd]
        rw [List.length_map]
        simp at h2
        omega
      refine ⟨A ++ [.own (.l ((cross done F).map D1)) mC false, .val (D1 x) mC, .emp, .emp], A ++ [.own (.l ((cross (done ++ [x]) F).map D1)) mC false, .val (D1 x) mC, .emp, .emp], rfl, ?_, _, rfl⟩
      have hc : cross (done ++ [x]) F = cross done F ++ if meets F x = true then [x] else [] := by
        unfold cross
        rw [List.filter_append, List.filter_cons, List.filter_nil]
      simp only [evSL, evS, ht, Option.bind_some]
      cases hm : meets F x with
      | false =>
        rw [hm] at hc
        rw [hc, if_neg (by simp), if_neg (by simp), List.append_nil]
        rfl
      | true =>
        rw [hm] at hc
        rw [hc, if_pos rfl, if_pos rfl, List.map_append]
        show (Option.bind (Option.bind (Option.map _ (if _ then _ else _)) _) _) = _
        rw [if_pos hlen]
        rfl) AL [] (A ++ [.own (.l []) mC false, .emp, .emp, .emp]) rfl ⟨_, rfl⟩
  subst hs
  have h1 : evS (.asg 2 (.lst .nil mC)) (A ++ [.emp, .emp, .emp, .emp]) = some (.nx (A ++ [.own (.l []) mC false, .emp, .emp, .emp])) := by simp only [evS, ev_lst .nil (m := mC) rfl (by decide), Option.map_some]; rfl
  have h2 : evS (.fors (.nm 3) (.seq (.call f (.cons (.var 0) .nil))) (.cons (.ifs meetI (.cons (.app 2 (.var 3)) .nil) .nil) .nil)) (A ++ [.own (.l []) mC false, .emp, .emp, .emp]) = some (.nx (A ++ [.own (.l ((cross AL F).map D1)) mC false, s, .emp, .emp])) := by
    simp only [evS, hw, Option.bind_some]
    exact hgo
  have h3 : ev (.call fl (.cons (.var 2) .nil)) (A ++ [.own (.l ((cross AL F).map D1)) mC false, s, .emp, .emp]) = some (.new (.l (R.map D1)) mC, A ++ [.val (.list ((cross AL F).map D1)) mC, s, .emp, .emp]) := by
    unfold ev
    rw [if_neg (by rw [hrl]; decide), hiol]
    show (callK fl none [.list ((cross AL F).map D1)] (mC.or m0) _) = _
    unfold callK
    rw [hpl, hrl, htl, hiol]
    show (if (decide (1 = 1) && (true || fl.gi)) = true then Option.map _ (fl.sem [.list ((cross AL F).map D1)]) else none) = _
    rw [hfl]
    rfl
  have h4 := sl_ret (ss := .nil) (r := .new (.l (R.map D1)) mC) rfl h3
  show (evSL (crossB f fl) (A ++ [.emp, .emp, .emp, .emp])).bind _ = _
  have : evSL (crossB f fl) (A ++ [.emp, .emp, .emp, .emp]) = some (.rt (.new (.l (R.map D1)) mC) (A ++ [.val (.list ((cross AL F).map D1)) mC, s, .emp, .emp])) := by
    unfold crossB
    rw [evSL, h1, Option.bind_some]
    show evSL _ _ = _
    rw [evSL, h2, Option.bind_some]
    exact h4
  rw [this]
  rfl
end Cw

open PySem PySem.Spec PySem.W PyProof.Rows L2 Dv
namespace Cw
theorem crossing_of_ev {m : Int} {AL F : List (List Int)} (h : f_all_lots.sem [.int m] = some (.n (.l (AL.map D1)), [])) (hF : small F) (hAL : AL.length < LIM) (hs : small (cross AL F)) :
    f_crossing_of.sem [.int m, .list (F.map D1)] = some (.n (.l ((leastBy ltA (cross AL F)).map D1)), []) :=
  cross_run (f := f_all_lots) (fl := f_least_of_lots) hF hAL rfl rfl rfl rfl h rfl rfl rfl rfl (least_ev hs)
theorem law_due_ev {m : Int} {AL F : List (List Int)} (h : f_law_lots.sem [.int m] = some (.n (.l (AL.map D1)), [])) (hF : small F) (hAL : AL.length < LIM) (hs : small (cross AL F)) :
    f_law_due.sem [.int m, .list (F.map D1)] = some (.n (.l ((leastBy ltB (cross AL F)).map D1)), []) :=
  cross_run (f := f_law_lots) (fl := f_law_least) hF hAL rfl rfl rfl rfl h rfl rfl rfl rfl (law_least_ev hs)
theorem isi_ev {σ : En} {i : Nat} {d : PyData} {m : Msk} {T : String} {b : Bool} (h : Dv.peek σ i = some (d, m)) (ht : isTy T d = some b) : ev (.blt (.isinst T) (.cons (.var i) .nil)) σ = some (.val (.bool b) m0, σ) := by
  refine ev_blt (.cons (rd_var h) .nil) ?_
  show (isTy T d).map _ = _
  rw [ht]
  rfl
theorem is_count_ev (i : Int) : f_is_count.sem [.int i] = some (.v (.bool (decide (0 ≤ i))), []) := by
  have hp : Dv.peek [.val (.int i) A0] 0 = some (.int i, m0) := rfl
  have e1 := isi_ev (T := "int") (b := true) hp (by show kitB "int" "int" = some true; decide +kernel)
  have e2 := isi_ev (T := "bool") (b := false) hp (by show kitB "int" "bool" = some false; decide +kernel)
  have e3 := ev_not (rd_val rfl e2) (t := false) rfl
  have e4 : ev (.cmp .GtE (.var 0) (.lit (.int 0))) [.val (.int i) A0] = some (.val (.bool (decide (0 ≤ i))) m0, [.val (.int i) A0]) := ev_cmp (rd_var hp) rd_lit rfl
  have e5 := ev_and e1 fun _ => ev_and e3 fun _ => ev_one e4
  have := sl_ret (ss := .nil) rfl e5
  show runF 1 none false m0 b_is_count [.int i] = some (.v (.bool (true && (!false && decide (0 ≤ i)))), [])
  exact run_rt (σ0 := [.val (.int i) A0]) rfl rfl this rfl
theorem okR_nat {n : Nat} (h : n ≤ 1000) : okR (n : Nat) = true := by
  unfold okR
  rw [Bool.and_eq_true, decide_eq_true_eq, decide_eq_true_eq]
  omega
theorem rng_map : ∀ (n : Nat) (lo : Int), rngFrom lo 1 n = (List.range n).map fun i => .int (lo + (i : Nat))
  | 0, _ => rfl
  | n + 1, lo => by
    rw [List.range_succ_eq_map, List.map_cons, List.map_map, rngFrom, rng_map n (lo + 1)]
    congr 1
    · simp
    · apply List.map_congr_left
      intro i _
      show PyData.int _ = PyData.int _
      congr 1
      show lo + 1 + (i : Int) = lo + ((i + 1 : Nat) : Int)
      omega
theorem okR_one : okR 1 = true := by
  unfold okR
  rw [Bool.and_eq_true, decide_eq_true_eq, decide_eq_true_eq]
  omega
theorem rng12 {n : Nat} (h : n ≤ 1000) : rngS [.int 1, .int (n : Nat)] = some ((List.range (n - 1)).map fun i : Nat => PyData.int (1 + (i : Nat))) := by
  simp only [rngS, okR_one, okR_nat h, Bool.and_self, if_true, rng_map, show ((n : Int) - 1).toNat = n - 1 from by omega]
theorem evI_rng {σ : En} {args : IL} {ds : List (PyData × Msk)} {xs : List PyData} (h : RdL σ args ds) (e : rngS (ds.map (·.1)) = some xs) : evI (.rng args) σ = some (xs, m0, [], σ) := by
  obtain ⟨ops, q1, q2, _⟩ := h.ev
  unfold evI
  simp only [q1, q2, Option.bind_some, e, Option.map_some]
/-- a lot of the numbers below m: ascending -/
def isLot (m : Int) (l : List Int) : Prop := (∀ x ∈ l, 0 ≤ x ∧ x < m) ∧ ∀ i, i + 1 < l.length → l.getD i 0 < l.getD (i + 1) 0
theorem idx_ev {σ : En} {a b : IE} {l : List Int} {m m' : Msk} {k : Nat} (h1 : Rd σ a (D1 l) m) (h2 : Rd σ b (.int (k : Nat)) m') (hk : k < l.length) : ev (.idx a b) σ = some (.val (.int (l.getD k 0)) m0, σ) := by
  refine ev_idx h1 h2 ?_
  show (atI (l.map PyData.int) (k : Nat)).map _ = _
  rw [atI_nat (v := .int (l.getD k 0)) (by rw [List.getElem?_map, List.getD_eq_getElem?_getD, List.getElem?_eq_getElem hk]; rfl)]
  rfl
theorem is_lot_ev {m : Int} {l : List Int} (h : isLot m l) (hl : l.length ≤ 1000) : f_is_lot.sem [.int m, D1 l] = some (.v (.bool true), []) := by
  let σ : En := [.val (.int m) A0, .val (D1 l) A0, .emp, .emp]
  have hlim : l.length ≤ LIM := Nat.le_trans hl (by decide)
  have p0 : Dv.peek σ 0 = some (.int m, m0) := rfl
  have p1 : Dv.peek σ 1 = some (D1 l, A0) := rfl
  have e1 := isi_ev (T := "list") (b := true) p1 (by show kitB "list" "list" = some true; decide +kernel)
  have e2 := ev_not (rd_val rfl e1) (t := true) rfl
  have e3 := ev_seq PyData.int (σ := σ) (i := 2) (j := 1) (L := l) (mi := A0) (m := m0) (cnd := .yes (.or (.not (.call f_is_count (.cons (.var 2) .nil))) (.one (.cmp .GtE (.var 2) (.var 0))))) (fun x => !decide (0 ≤ x) || decide (m ≤ x)) (by decide) (by show 2 < 4; decide) p1 (fun _ => rfl) hlim fun x _ τ hτ ho hx => by
    have c1 := ev_callB (f := f_is_count) (.cons (rd_var hx) .nil) rfl rfl rfl rfl (is_count_ev x)
    have c2 := ev_not (rd_val rfl c1) (t := decide (0 ≤ x)) rfl
    have c3 : ev (.cmp .GtE (.var 2) (.var 0)) τ = some (.val (.bool (decide (m ≤ x))) m0, τ) := ev_cmp (rd_var hx) (rd_var ((ho 0 (by decide)).trans p0)) rfl
    exact evC_bool rfl (ev_or c2 fun _ => ev_one c3)
  have z1 : (l.filter fun x => !decide (0 ≤ x) || decide (m ≤ x)) = [] := by
    rw [List.filter_eq_nil_iff]
    intro x hx
    have := h.1 x hx
    simp
    omega
  rw [z1] at e3
  have e4 := ev_some rfl e3 rfl
  have e5 := ev_or e2 fun _ => ev_one e4
  have s1 : evS (.ifs (.or (.not (.blt (.isinst "list") (.cons (.var 1) .nil))) (.one (.cmp .NotEq (.lc (.var 2) (.nm 2) (.seq (.var 1)) (.yes (.or (.not (.call f_is_count (.cons (.var 2) .nil))) (.one (.cmp .GtE (.var 2) (.var 0))))) m0) (.lst .nil m0)))) (.cons (.ret (.yes (.lit (.bool false)))) .nil) .nil) σ = some (.nx σ) := by
    simp only [evS, evT_bool rfl e5, Option.bind_some]
    rfl
  -- the places
  have hi : evI (.rng (.cons (.lit (.int 1)) (.cons (.blt .len (.cons (.var 1) .nil)) .nil))) σ = some ((List.range (l.length - 1)).map (fun i => PyData.int (1 + (i : Nat))), m0, [], σ) := by
    exact evI_rng (.cons rd_lit (.cons (rd_val rfl (len_ev p1)) .nil)) (rng12 hl)
  have e6 := ev_lc (fun i : Nat => PyData.int (1 + (i : Nat))) (elt := .var 3) (tg := .nm 3) (cnd := .yes (.cmp .GtE (.idx (.var 1) (.bin .Sub (.var 3) (.lit (.int 1)))) (.idx (.var 1) (.var 3)))) (m := m0) (p := fun i => decide (l.getD (i + 1) 0 ≤ l.getD i 0)) (g := fun i => PyData.int (1 + (i : Nat))) hi (fun _ z => by cases z) (fun _ z => by cases z) (fun i hin τ hτ ho => by
    have hi2 : i + 1 < l.length := by have := List.mem_range.mp hin; omega
    have h3 : 3 < τ.length := by rw [hτ]; show 3 < 4; decide
    have g3 : (τ.set 3 (.val (.int (1 + (i : Nat))) m0))[3]? = some (.val (.int (1 + (i : Nat))) m0) := List.getElem?_set_self h3
    refine ⟨τ.set 3 (.val (.int (1 + (i : Nat))) m0), rfl, ?_, fun _ => ⟨.val (.int (1 + (i : Nat))) m0, by unfold ev grab; rw [g3]; rfl, rfl, rfl⟩⟩
    have q1 : Dv.peek (τ.set 3 (.val (.int (1 + (i : Nat))) m0)) 1 = some (D1 l, A0) := by rw [bind_peek (by decide), ho 1 (by decide)]; exact p1
    have q3 : Dv.peek (τ.set 3 (.val (.int (1 + (i : Nat))) m0)) 3 = some (.int (1 + (i : Nat)), m0) := pk g3
    have c1 : ev (.bin .Sub (.var 3) (.lit (.int 1))) (τ.set 3 (.val (.int (1 + (i : Nat))) m0)) = some (.val (.int (i : Nat)) m0, τ.set 3 (.val (.int (1 + (i : Nat))) m0)) := by
      refine ev_bin (rd_var q3) rd_lit ?_
      show some (Rs.val (.int (1 + (i : Int) - 1)) m0) = _
      rw [show (1 : Int) + i - 1 = i from by omega]
    have c2 := idx_ev (rd_var q1) (rd_val rfl c1) (k := i) (by omega)
    have c3 := idx_ev (b := .var 3) (m' := m0) (rd_var q1) (rd_var (by rw [q3, show (1 : Int) + (i : Nat) = ((i + 1 : Nat) : Int) from by omega])) (k := i + 1) hi2
    exact evC_bool rfl (ev_cmp (rd_val rfl c2) (rd_val rfl c3) rfl)) (by
      refine Nat.le_trans (List.length_filter_le _ _) ?_
      rw [List.length_range]
      omega)
  have z2 : ((List.range (l.length - 1)).filter fun i => decide (l.getD (i + 1) 0 ≤ l.getD i 0)) = [] := by
    rw [List.filter_eq_nil_iff]
    intro i hin
    have := h.2 i (by have := List.mem_range.mp hin; omega)
    simp only [decide_eq_true_eq]
    omega
  rw [z2] at e6
  have e7 := ev_none rfl e6 rfl
  have s2 := sl_ret (ss := .nil) rfl e7
  have fin : evSL b_is_lot σ = some (.rt (.val (.bool true) m0) σ) := by
    unfold b_is_lot
    rw [evSL, s1, Option.bind_some]
    exact s2
  show runF 4 none false m0 b_is_lot [.int m, D1 l] = _
  exact run_rt (σ0 := σ) rfl rfl fin rfl
end Cw

open PySem PySem.Spec PySem.W PyProof.Rows L2 Dv
namespace Cw
theorem ifs_no {σ : En} {t : IE} {a : ISL} (hv : isVar t = false) (h : ev t σ = some (.val (.bool false) m0, σ)) : evS (.ifs t a .nil) σ = some (.nx σ) := by
  simp only [evS, evT_bool hv h, Option.bind_some]
  rfl
theorem sl_nx {σ σ' : En} {s : IS} {ss : ISL} {f : Fl} (h : evS s σ = some (.nx σ')) (k : evSL ss σ' = some f) : evSL (.cons s ss) σ = some f := by
  rw [evSL, h, Option.bind_some]
  exact k
/-- lots of the numbers below m -/
def lotsIn (m : Int) (F : List (List Int)) : Prop := small F ∧ ∀ l ∈ F, isLot m l ∧ l.length ≤ 1000
theorem crossing_ev {m : Int} {F R : List (List Int)} (h0 : 0 ≤ m) (h8 : m ≤ 8) (hF : lotsIn m F) (hc : f_crossing_of.sem [.int m, .list (F.map D1)] = some (.n (.l (R.map D1)), [])) :
    f_crossing.sem [.int m, .list (F.map D1)] = some (.n (.l (R.map D1)), []) := by
  let σ : En := [.val (.int m) A0, .val (.list (F.map D1)) A0, .emp]
  have p0 : Dv.peek σ 0 = some (.int m, m0) := rfl
  have p1 : Dv.peek σ 1 = some (.list (F.map D1), A0) := rfl
  have a1 := ev_callB (f := f_is_count) (.cons (rd_var p0) .nil) rfl rfl rfl rfl (is_count_ev m)
  have a2 := ev_not (rd_val rfl a1) (t := decide (0 ≤ m)) rfl
  have a3 : ev (.cmp .Gt (.var 0) (.glb "MOST_NUMBERS" (.int 8))) σ = some (.val (.bool (decide (8 < m))) m0, σ) := ev_cmp (rd_var p0) (rd_val rfl (ev_glb rfl)) rfl
  have a4 := ev_or a2 fun _ => ev_one a3
  have z : (!decide (0 ≤ m) || decide (8 < m)) = false := by simp; omega
  rw [z] at a4
  have s1 := ifs_no (a := .cons .no .nil) rfl a4
  have b1 := isi_ev (T := "list") (b := true) p1 (by show kitB "list" "list" = some true; decide +kernel)
  have b2 := ev_not (rd_val rfl b1) (t := true) rfl
  have b3 := ev_seq D1 (σ := σ) (i := 2) (j := 1) (L := F) (mi := A0) (m := A0) (cnd := .yes (.not (.call f_is_lot (.cons (.var 0) (.cons (.var 2) .nil))))) (fun _ => false) (by decide) (by show 2 < 3; decide) p1 (fun _ => rfl) hF.1.1 fun l hl τ hτ ho hx => by
    obtain ⟨g1, g2⟩ := hF.2 l hl
    have c1 := ev_callB (f := f_is_lot) (.cons (rd_var ((ho 0 (by decide)).trans p0)) (.cons (rd_var hx) .nil)) rfl rfl rfl rfl (is_lot_ev g1 g2)
    exact evC_bool rfl (ev_not (rd_val rfl c1) (t := true) rfl)
  have zf : F.filter (fun _ => false) = [] := by rw [List.filter_eq_nil_iff]; intro _ _; simp
  rw [zf] at b3
  have b4 := ev_some rfl b3 rfl
  have b5 := ev_or b2 fun _ => ev_one b4
  have s2 := ifs_no (a := .cons .no .nil) rfl b5
  have c1 := ev_callK (τ := σ) (f := f_crossing_of) (es := .cons (.var 0) (.cons (.var 1) .nil)) (.cons (kp_var (i := 0) rfl) (.cons (kp_var (i := 1) rfl) .nil)) (by decide) rfl rfl rfl hc
  have s3 := sl_ret (ss := .nil) rfl c1
  have fin : evSL b_crossing σ = _ := sl_nx s1 (sl_nx s2 s3)
  show runF 3 none false mC b_crossing [.int m, .list (F.map D1)] = _
  exact run_rt (σ0 := σ) rfl rfl fin rfl
/-! ### drawn numbers -/
theorem smallI_of {n : Nat} {i : Int} (h0 : 0 ≤ i) (h : i < 2 ^ 200) (hn : 200 ≤ n) : smallI n i = true := by
  unfold smallI
  rw [decide_eq_true_eq]
  rcases Nat.eq_zero_or_pos i.natAbs with z | z
  · rw [z]; simp; omega
  · have h1 : i.natAbs < 2 ^ 200 := by omega
    have := (Nat.log2_lt (by omega)).mpr h1
    omega
theorem mul_ev {i j : Int} {m m' : Msk} (hi : 0 ≤ i ∧ i < 2 ^ 200) (hj : 0 ≤ j ∧ j < 2 ^ 200) : binS .Mult (.int i) (.int j) m m' = some (.val (.int (i * j)) m0) := by
  show (if (smallI 400000 i && smallI 400000 j) = true then some (Rs.val (.int (i * j)) m0) else none) = _
  rw [smallI_of hi.1 hi.2 (by decide), smallI_of hj.1 hj.2 (by decide)]
  rfl
theorem mod_ev {i j : Int} {m m' : Msk} (hj : 0 < j) : binS .Mod (.int i) (.int j) m m' = some (.val (.int (i % j)) m0) := by
  show (if 0 < j then some (Rs.val (.int (i % j)) m0) else none) = _
  rw [if_pos hj]
theorem add_ev {i j : Int} {m m' : Msk} : binS .Add (.int i) (.int j) m m' = some (.val (.int (i + j)) m0) := rfl
theorem int_ev {σ : En} {e : IE} {i : Int} {m : Msk} (h : Rd σ e (.int i) m) : ev (.blt .int (.cons e .nil)) σ = some (.val (.int i) m0, σ) := ev_blt (.cons h .nil) rfl
def hash1 (s i : Int) : Int := (s * 1140671 + 27644437 * i * i + 131 * i + 19) % 2147483629
def hash2 (x i : Int) : Int := (x * x + 62089 * i + 32416187) % 2147483587
def hash3 (x : Int) : Int := x * 48271 % 2147483647
theorem hash_ev {s i : Int} (hs : 0 ≤ s ∧ s < 2147483647) (hi : 0 ≤ i ∧ i < 1000000000) : f_law_hash.sem [.int s, .int i] = some (.v (.int (hash3 (hash2 (hash1 s i) i))), []) := by
  have b1 : 0 ≤ hash1 s i ∧ hash1 s i < 2147483629 := ⟨Int.emod_nonneg _ (by decide), Int.emod_lt_of_pos _ (by decide)⟩
  have b2 : 0 ≤ hash2 (hash1 s i) i ∧ hash2 (hash1 s i) i < 2147483587 := ⟨Int.emod_nonneg _ (by decide), Int.emod_lt_of_pos _ (by decide)⟩
  let σ0 : En := [.val (.int s) A0, .val (.int i) A0, .emp]
  have s1 : evS (.asg 2 (.bin .Mod (.blt .int (.cons (.bin .Add (.bin .Add (.bin .Add (.bin .Mult (.var 0) (.lit (.int 1140671))) (.bin .Mult (.bin .Mult (.lit (.int 27644437)) (.var 1)) (.var 1))) (.bin .Mult (.lit (.int 131)) (.var 1))) (.lit (.int 19))) .nil)) (.lit (.int 2147483629)))) σ0 = some (.nx [.val (.int s) A0, .val (.int i) A0, .val (.int (hash1 s i)) m0]) := by
    have p0 : Rd σ0 (.var 0) (.int s) m0 := rd_var rfl
    have p1 : Rd σ0 (.var 1) (.int i) m0 := rd_var rfl
    have c1 := ev_bin p0 (rd_lit (d := .int 1140671)) (mul_ev (by omega) (by decide))
    have c2 := ev_bin (rd_lit (d := .int 27644437)) p1 (mul_ev (by decide) (by omega))
    have c3 := ev_bin (rd_val rfl c2) p1 (mul_ev (by omega) (by omega))
    have c4 := ev_bin (rd_val rfl c1) (rd_val rfl c3) add_ev
    have c5 := ev_bin (rd_lit (d := .int 131)) p1 (mul_ev (by decide) (by omega))
    have c6 := ev_bin (rd_val rfl c4) (rd_val rfl c5) add_ev
    have c7 := ev_bin (rd_val rfl c6) (rd_lit (d := .int 19)) add_ev
    have c8 := ev_bin (rd_val rfl (int_ev (rd_val rfl c7))) (rd_lit (d := .int 2147483629)) (mod_ev (by decide))
    simp only [evS, c8, Option.map_some]
    rfl
  let σ1 : En := [.val (.int s) A0, .val (.int i) A0, .val (.int (hash1 s i)) m0]
  have s2 : evS (.asg 2 (.bin .Mod (.blt .int (.cons (.bin .Add (.bin .Add (.bin .Mult (.var 2) (.var 2)) (.bin .Mult (.lit (.int 62089)) (.var 1))) (.lit (.int 32416187))) .nil)) (.lit (.int 2147483587)))) σ1 = some (.nx [.val (.int s) A0, .val (.int i) A0, .val (.int (hash2 (hash1 s i) i)) m0]) := by
    have p2 : Rd σ1 (.var 2) (.int (hash1 s i)) m0 := rd_var rfl
    have p1 : Rd σ1 (.var 1) (.int i) m0 := rd_var rfl
    have c1 := ev_bin p2 p2 (mul_ev (by omega) (by omega))
    have c2 := ev_bin (rd_lit (d := .int 62089)) p1 (mul_ev (by decide) (by omega))
    have c3 := ev_bin (rd_val rfl c1) (rd_val rfl c2) add_ev
    have c4 := ev_bin (rd_val rfl c3) (rd_lit (d := .int 32416187)) add_ev
    have c8 := ev_bin (rd_val rfl (int_ev (rd_val rfl c4))) (rd_lit (d := .int 2147483587)) (mod_ev (by decide))
    simp only [evS, c8, Option.map_some]
    rfl
  let σ2 : En := [.val (.int s) A0, .val (.int i) A0, .val (.int (hash2 (hash1 s i) i)) m0]
  have c1 := ev_bin (τ := σ2) (rd_var (i := 2) rfl) (rd_lit (d := .int 48271)) (mul_ev (i := hash2 (hash1 s i) i) (j := 48271) (by omega) (by decide))
  have c2 := ev_bin (rd_val rfl (int_ev (rd_val rfl c1))) (rd_lit (d := .int 2147483647)) (mod_ev (by decide))
  have fin : evSL b_law_hash σ0 = _ := sl_nx s1 (sl_nx s2 (sl_ret (ss := .nil) rfl c2))
  show runF 3 none false m0 b_law_hash [.int s, .int i] = _
  exact run_rt (σ0 := σ0) rfl rfl fin rfl
end Cw

open PySem PySem.Spec PySem.W PyProof.Rows L2 Dv
namespace Cw
theorem asg_nx {σ σ' : En} {i : Nat} {e : IE} {r : Rs} (h : ev e σ = some (r, σ')) : evS (.asg i e) σ = some (.nx (σ'.set i r.slot)) := by
  simp only [evS, h, Option.map_some]
theorem bits_small : ∀ n : Fin 257, Builtin.Int.intBits ((n.val : Nat) : Int) < 30 := by decide +kernel
theorem ev_bits {σ : En} {i : Nat} {n : Int} {m : Msk} (h : Dv.peek σ i = some (.int n, m)) : ev (.mth .bitLength (.var i) .nil) σ = some (.val (.int (Builtin.Int.intBits n : Nat)) m0, σ) := by
  obtain ⟨x, e1, g1⟩ := rd_var h
  unfold ev
  simp only [e1, Option.bind_some]
  unfold evO
  simp only [Option.bind_some, g1, getAll, mthS, Option.map_some]
theorem div_ev {i j : Int} {m m' : Msk} (hj : 0 < j ∧ j < 2 ^ 200) : binS .FloorDiv (.int i) (.int j) m m' = some (.val (.int (i / j)) m0) := by
  show (if (decide (0 < j) && smallI 9000 j) = true then some (Rs.val (.int (i / j)) m0) else none) = _
  rw [smallI_of (by omega) hj.2 (by decide), decide_eq_true hj.1]
  rfl
/-- the generator's slot -/
abbrev gS (a b c : Int) (io : Bool) : Sl := .own (.l [.int a, .int b, .int c]) m0 io
theorem gen_idx {σ : En} {a b c : Int} {io : Bool} (h : σ[0]? = some (gS a b c io)) (k : Nat) (v : Int) (hk : ([a, b, c] : List Int)[k]? = some v) : ev (.idx (.var 0) (.lit (.int (k : Nat)))) σ = some (.val (.int v) m0, σ) := by
  have p : Dv.peek σ 0 = some (.list [.int a, .int b, .int c], m0) := by unfold Dv.peek; rw [h]; rfl
  refine ev_idx (rd_var p) rd_lit ?_
  show (atI [PyData.int a, .int b, .int c] (k : Nat)).map _ = _
  rw [atI_nat (v := .int v) (by
    show ([a, b, c].map PyData.int)[k]? = _
    rw [List.getElem?_map, hk]
    rfl)]
  rfl
/-- g[k] = e -/
theorem gen_sti {σ : En} {a b c v : Int} {io : Bool} {e : IE} {k : Nat} (hk : k < 3) (h : σ[0]? = some (gS a b c io)) (he : ev e σ = some (.val (.int v) m0, σ)) : evS (.sti 0 (.lit (.int (k : Nat))) e) σ = some (.nx (σ.set 0 (.own (.l ([PyData.int a, .int b, .int c].set k (.int v))) m0 io))) := by
  have p : isL σ 0 = true := by unfold isL Dv.peek; rw [h]; rfl
  obtain ⟨x, e1, g1⟩ := rd_lit (τ := σ) (d := .int (k : Nat))
  simp only [evS, he, Option.bind_some, p, if_true, e1, g1]
  unfold stiS
  rw [h]
  have hx : ixN [PyData.int a, .int b, .int c].length (k : Nat) = some k := by
    have : ∀ k : Fin 3, ixN 3 ((k.val : Nat) : Int) = some k.val := by decide +kernel
    exact this ⟨k, hk⟩
  simp only [hx, Option.map_some]
  rfl
theorem random_ev {a b c n : Int} (hb : 0 ≤ b ∧ b < 2147483647) (hc : 0 ≤ c ∧ c < 999999999) (hn : 0 < n ∧ n ≤ 256) :
    ∃ r a' c', f_law_random.sem [.list [.int a, .int b, .int c], .int n] = some (.v (.int r), [.int a', .int b, .int c']) ∧ (0 ≤ r ∧ r < n) ∧ c ≤ c' ∧ c' ≤ c + 1 := by
  let σ0 : En := [gS a b c true, .val (.int n) A0, .emp, .emp]
  have g0 := gen_idx (σ := σ0) (a := a) (b := b) (c := c) (io := true) rfl 0 a rfl
  have t := ev_cmp (o := .Gt) (r := decide (0 < a)) (rd_val rfl g0) (rd_lit (d := .int 0)) rfl
  by_cases ha : 0 < a
  · refine ⟨a % n, a / n, c, ?_, ⟨Int.emod_nonneg _ (by omega), Int.emod_lt_of_pos _ hn.1⟩, Int.le_refl _, by omega⟩
    have t1 := evT_bool rfl t
    have s1 : evS (.asg 2 (.bin .Mod (.blt .int (.cons (.idx (.var 0) (.lit (.int 0))) .nil)) (.var 1))) σ0 = some (.nx [gS a b c true, .val (.int n) A0, .val (.int (a % n)) m0, .emp]) := by
      have c1 := ev_bin (rd_val rfl (int_ev (rd_val rfl g0))) (rd_var (τ := σ0) (i := 1) rfl) (mod_ev hn.1)
      exact asg_nx c1
    let σ1 : En := [gS a b c true, .val (.int n) A0, .val (.int (a % n)) m0, .emp]
    have g1 := gen_idx (σ := σ1) (a := a) (b := b) (c := c) (io := true) rfl 0 a rfl
    have c2 := ev_bin (rd_val rfl g1) (rd_var (τ := σ1) (i := 1) rfl) (div_ev (i := a) (by omega))
    have s2 := gen_sti (k := 0) (by decide) (σ := σ1) (a := a) (b := b) (c := c) (io := true) rfl c2
    let σ2 : En := [gS (a / n) b c true, .val (.int n) A0, .val (.int (a % n)) m0, .emp]
    have s3 : evSL (.cons (.ret (.yes (.var 2))) .nil) σ2 = some (.rt (.val (.int (a % n)) m0) σ2) := rfl
    have br : evS (.ifs (.cmp .Gt (.idx (.var 0) (.lit (.int 0))) (.lit (.int 0))) (.cons (.asg 2 (.bin .Mod (.blt .int (.cons (.idx (.var 0) (.lit (.int 0))) .nil)) (.var 1))) (.cons (.sti 0 (.lit (.int 0)) (.bin .FloorDiv (.idx (.var 0) (.lit (.int 0))) (.var 1))) (.cons (.ret (.yes (.var 2))) .nil))) .nil) σ0 = some (.rt (.val (.int (a % n)) m0) σ2) := by
      have q := sl_nx s1 (sl_nx s2 s3)
      have t1' : evT (.cmp .Gt (.idx (.var 0) (.lit (.int 0))) (.lit (.int 0))) σ0 = some (true, σ0) := by rw [← decide_eq_true ha]; exact t1
      simp only [evS, t1', Option.bind_some, if_true]
      exact q
    have fin : evSL b_law_random σ0 = some (.rt (.val (.int (a % n)) m0) σ2) := by
      unfold b_law_random
      rw [evSL, br, Option.bind_some]
    show runF 4 (some 0) false m0 b_law_random [.list [.int a, .int b, .int c], .int n] = _
    exact run_rt (σ0 := σ0) rfl rfl fin rfl
  · have hh := hash_ev (s := b) (i := c + 1) hb (by omega)
    generalize hash3 (hash2 (hash1 b (c + 1)) (c + 1)) = hv at hh
    refine ⟨hv % n, a, c + 1, ?_, ⟨Int.emod_nonneg _ (by omega), Int.emod_lt_of_pos _ hn.1⟩, by omega, Int.le_refl _⟩
    rw [decide_eq_false ha] at t
    have s0 := ifs_no (a := .cons (.asg 2 (.bin .Mod (.blt .int (.cons (.idx (.var 0) (.lit (.int 0))) .nil)) (.var 1))) (.cons (.sti 0 (.lit (.int 0)) (.bin .FloorDiv (.idx (.var 0) (.lit (.int 0))) (.var 1))) (.cons (.ret (.yes (.var 2))) .nil))) rfl t
    let σ1 : En := [gS a b c true, .val (.int n) A0, .val (.int 0) m0, .emp]
    have s1 : evS (.asg 2 (.lit (.int 0))) σ0 = some (.nx σ1) := rfl
    -- one turn
    have hr : evF (.rng (.cons (.bin .Add (.lit (.int 1)) (.bin .FloorDiv (.mth .bitLength (.var 1) .nil) (.lit (.int 30)))) .nil)) σ1 = some ([PyData.int 0], m0, σ1) := by
      have c1 := ev_bits (σ := σ1) (i := 1) (n := n) (m := m0) rfl
      have c2 := ev_bin (rd_val rfl c1) (rd_lit (d := .int 30)) (div_ev (i := (Builtin.Int.intBits n : Nat)) (j := 30) (by omega))
      have hz : ((Builtin.Int.intBits n : Nat) : Int) / 30 = 0 := by
        have := bits_small ⟨n.toNat, by omega⟩
        rw [show ((n.toNat : Nat) : Int) = n from by omega] at this
        omega
      rw [hz] at c2
      have c3 := ev_bin (rd_lit (d := .int 1)) (rd_val rfl c2) add_ev
      obtain ⟨ops, q1, q2, _⟩ := (RdL.cons (rd_val rfl c3) .nil).ev
      unfold evF
      simp only [q1, q2, Option.bind_some]
      have : rngS ([(PyData.int (1 + 0), m0)].map (·.1)) = some [PyData.int 0] := by
        show (if okR 1 = true then some (rngFrom 0 1 (Int.toNat 1)) else none) = _
        rw [okR_one]
        rfl
      rw [this]
      rfl
    let σ2 : En := [gS a b c true, .val (.int n) A0, .val (.int 0) m0, .val (.int 0) m0]
    have g2 := gen_idx (σ := σ2) (a := a) (b := b) (c := c) (io := true) rfl 2 c rfl
    have c1 := ev_bin (rd_val rfl g2) (rd_lit (d := .int 1)) add_ev
    have s2 := gen_sti (k := 2) (by decide) (σ := σ2) (a := a) (b := b) (c := c) (io := true) rfl c1
    let σ3 : En := [gS a b (c + 1) true, .val (.int n) A0, .val (.int 0) m0, .val (.int 0) m0]
    have g3 := gen_idx (σ := σ3) (a := a) (b := b) (c := c + 1) (io := true) rfl 1 b rfl
    have g4 := gen_idx (σ := σ3) (a := a) (b := b) (c := c + 1) (io := true) rfl 2 (c + 1) rfl
    have d1 := ev_callB (f := f_law_hash) (.cons (rd_val rfl g3) (.cons (rd_val rfl g4) .nil)) rfl rfl rfl rfl hh
    have d2 := ev_bin (rd_var (τ := σ3) (i := 2) rfl) (rd_lit (d := .int 2147483587)) (mul_ev (i := 0) (j := 2147483587) (by decide) (by decide))
    have d3 := ev_bin (rd_val rfl d2) (rd_val rfl d1) add_ev
    rw [show (0 : Int) * 2147483587 + hv = hv from by omega] at d3
    let σ4 : En := [gS a b (c + 1) true, .val (.int n) A0, .val (.int hv) m0, .val (.int 0) m0]
    have s3 : evS (.asg 2 (.bin .Add (.bin .Mult (.var 2) (.lit (.int 2147483587))) (.call f_law_hash (.cons (.idx (.var 0) (.lit (.int 1))) (.cons (.idx (.var 0) (.lit (.int 2))) .nil))))) σ3 = some (.nx σ4) := by
      exact asg_nx d3
    have body := sl_nx s2 (sl_nx (ss := .nil) (f := .nx σ4) s3 (by simp only [evSL]))
    have lp : evS (.fors (.nm 3) (.rng (.cons (.bin .Add (.lit (.int 1)) (.bin .FloorDiv (.mth .bitLength (.var 1) .nil) (.lit (.int 30)))) .nil)) (.cons (.sti 0 (.lit (.int 2)) (.bin .Add (.idx (.var 0) (.lit (.int 2))) (.lit (.int 1)))) (.cons (.asg 2 (.bin .Add (.bin .Mult (.var 2) (.lit (.int 2147483587))) (.call f_law_hash (.cons (.idx (.var 0) (.lit (.int 1))) (.cons (.idx (.var 0) (.lit (.int 2))) .nil))))) .nil))) σ1 = some (.nx σ4) := by
      simp only [evS, hr, Option.bind_some]
      unfold forGo
      show ((some σ2).bind _) = _
      rw [Option.bind_some]
      exact (congrArg (fun q : Option Fl => q.bind _) body).trans rfl
    have e1 := ev_bin (rd_val rfl (int_ev (rd_var (τ := σ4) (i := 2) (d := .int hv) (m := m0) rfl))) (rd_var (τ := σ4) (i := 1) (d := .int n) (m := m0) rfl) (mod_ev hn.1)
    have fin : evSL b_law_random σ0 = some (.rt (.val (.int (hv % n)) m0) σ4) := sl_nx s0 (sl_nx s1 (sl_nx lp (sl_ret (ss := .nil) rfl e1)))
    show runF 4 (some 0) false m0 b_law_random [.list [.int a, .int b, .int c], .int n] = _
    exact run_rt (σ0 := σ0) rfl rfl fin rfl
end Cw

open PySem PySem.Spec PySem.W PyProof.Rows L2 Dv
namespace Cw
abbrev AG : Msk := ⟨true, false, true⟩
theorem allInts_map : ∀ l : List Int, Dv.allInts (l.map .int) = some l
  | [] => rfl
  | x :: l => by rw [List.map_cons, Dv.allInts, allInts_map l]; rfl
theorem cut_map (l : List Int) (lo hi : Option Int) : ∃ l' : List Int, Dv.cutD (l.map .int) lo hi = l'.map .int := by
  unfold Dv.cutD
  rw [← List.map_drop, ← List.map_take]
  exact ⟨_, rfl⟩
theorem cell_ev (ns : List Int) (k : Nat) (hl : ns.length ≤ 63) : ∃ v, f_law_cell.sem [.list (ns.map .int), .int (k : Nat)] = some (.v (.int v), []) := by
  let σ : En := [.val (.list (ns.map .int)) AG, .val (.int (k : Nat)) AG]
  have p0 : Dv.peek σ 0 = some (D1 ns, AG) := rfl
  have p1 : Dv.peek σ 1 = some (.int (k : Nat), m0) := rfl
  have c0 : ev (.cmp .Lt (.var 1) (.blt .len (.cons (.var 0) .nil))) σ = some (.val (.bool (decide ((k : Int) < (ns.length : Nat)))) m0, σ) := ev_cmp (rd_var p1) (rd_val rfl (len_ev p0)) rfl
  by_cases hk : k < ns.length
  · refine ⟨ns.getD k 0, ?_⟩
    rw [decide_eq_true (by omega)] at c0
    have c1 := idx_ev (rd_var p0) (rd_var p1) hk
    have c2 := sl_ret (ss := .nil) rfl c1
    have br : evS (.ifs (.cmp .Lt (.var 1) (.blt .len (.cons (.var 0) .nil))) (.cons (.ret (.yes (.idx (.var 0) (.var 1)))) .nil) .nil) σ = some (.rt (.val (.int (ns.getD k 0)) m0) σ) := by
      simp only [evS, evT_bool rfl c0, Option.bind_some, if_true]
      exact c2
    have fin : evSL b_law_cell σ = some (.rt (.val (.int (ns.getD k 0)) m0) σ) := by
      unfold b_law_cell
      rw [evSL, br, Option.bind_some]
    show runF 2 none true m0 b_law_cell [.list (ns.map .int), .int (k : Nat)] = _
    exact run_rt (σ0 := σ) rfl rfl fin rfl
  · rw [decide_eq_false (by omega)] at c0
    have s0 := ifs_no (a := .cons (.ret (.yes (.idx (.var 0) (.var 1)))) .nil) rfl c0
    obtain ⟨l', hl'⟩ := cut_map ns none (some 1)
    refine ⟨l'.sum % 1000003, ?_⟩
    have c1 : ev (.slc (.var 0) .no (.yes (.lit (.int 1)))) σ = some (.new (.l (l'.map .int)) AG, σ) := by
      rw [← hl']
      unfold ev
      rfl
    have c2 : ev (.blt .sum (.cons (.slc (.var 0) .no (.yes (.lit (.int 1)))) .nil)) σ = some (.val (.int l'.sum) m0, σ) := by
      refine ev_blt (.cons (rd_new rfl c1) .nil) ?_
      show (Dv.allInts (l'.map .int)).map _ = _
      rw [allInts_map]
      rfl
    have c3 := ev_bin (rd_val rfl c2) (rd_lit (d := .int 1000003)) (mod_ev (by decide))
    have fin : evSL b_law_cell σ = _ := sl_nx s0 (sl_ret (ss := .nil) rfl c3)
    show runF 2 none true m0 b_law_cell [.list (ns.map .int), .int (k : Nat)] = _
    exact run_rt (σ0 := σ) rfl rfl fin rfl
theorem pow_a : binS .Pow (.int 10) (.int 18) m0 m0 = some (.val (.int (10 ^ 18)) m0) := by kernel_rfl
theorem pow_b : binS .Pow (.int 10) (.int 60) m0 m0 = some (.val (.int (10 ^ 60)) m0) := by kernel_rfl
theorem pow_c : binS .Pow (.int (10 ^ 60)) (.int 10) m0 m0 = some (.val (.int (10 ^ 600)) m0) := by kernel_rfl
theorem pow_pos : (0 : Int) < 10 ^ 600 := by decide +kernel
theorem generator_ev (ns : List Int) (k : Nat) (hl : ns.length ≤ 63) (hk : k ≤ 3) : ∃ a b, f_law_generator.sem [.list (ns.map .int), .int (k : Nat)] = some (.n (.l [.int a, .int b, .int (1000 * (k : Nat))]), []) ∧ 0 ≤ b ∧ b < 2147483647 := by
  obtain ⟨v, hv⟩ := cell_ev ns k hl
  let σ : En := [.val (.list (ns.map .int)) AG, .val (.int (k : Nat)) AG, .emp]
  have p0 : Dv.peek σ 0 = some (D1 ns, AG) := rfl
  have p1 : Dv.peek σ 1 = some (.int (k : Nat), m0) := rfl
  have c1 := ev_callB (f := f_law_cell) (.cons (rd_var p0) (.cons (rd_var p1) .nil)) rfl rfl rfl rfl hv
  have s1 : evS (.asg 2 (.call f_law_cell (.cons (.var 0) (.cons (.var 1) .nil)))) σ = _ := asg_nx c1
  let τ : En := [.val (.list (ns.map .int)) AG, .val (.int (k : Nat)) AG, .val (.int v) m0]
  have q2 : Rd τ (.var 2) (.int v) m0 := rd_var rfl
  have q1 : Rd τ (.var 1) (.int (k : Nat)) m0 := rd_var rfl
  have d1 := ev_bin (τ := τ) (rd_lit (d := .int 10)) (rd_lit (d := .int 18)) pow_a
  have d2 := ev_bin (o := .Sub) (r := .val (.int (v - 10 ^ 18)) m0) q2 (rd_val rfl d1) rfl
  have d3 : ev (.blt .max2 (.cons (.bin .Sub (.var 2) (.bin .Pow (.lit (.int 10)) (.lit (.int 18)))) (.cons (.lit (.int 0)) .nil))) τ = some (.val (.int (if (0 : Int) > v - 10 ^ 18 then 0 else v - 10 ^ 18)) m0, τ) := ev_blt (.cons (rd_val rfl d2) (.cons rd_lit .nil)) rfl
  have d4 := ev_bin (τ := τ) (rd_lit (d := .int 10)) (rd_lit (d := .int 60)) pow_b
  have d5 := ev_bin (rd_val rfl d4) (rd_lit (d := .int 10)) pow_c
  have d6 := ev_bin (rd_val rfl (int_ev (rd_val rfl d3))) (rd_val rfl d5) (mod_ev pow_pos)
  have d7 := ev_bin (rd_val rfl (int_ev q2)) (rd_lit (d := .int 2147483647)) (mod_ev (by decide))
  have d8 := ev_bin (rd_lit (d := .int 1000)) q1 (mul_ev (i := 1000) (j := (k : Nat)) (by decide) (by omega))
  have d9 := ev_lst (m := m0) (.cons (kp_of d6) (.cons (kp_of d7) (.cons (kp_of d8) .nil))) rfl (by show 3 ≤ LIM; decide)
  have fin : evSL b_law_generator σ = _ := sl_nx s1 (sl_ret (ss := .nil) rfl d9)
  refine ⟨(if (0 : Int) > v - 10 ^ 18 then 0 else v - 10 ^ 18) % 10 ^ 600, v % 2147483647, ?_, Int.emod_nonneg _ (by decide), Int.emod_lt_of_pos _ (by decide)⟩
  show runF 3 none true m0 b_law_generator [.list (ns.map .int), .int (k : Nat)] = _
  exact run_rt (σ0 := σ) rfl rfl fin rfl
end Cw

open PySem PySem.Spec PySem.W PyProof.Rows L2 Dv
namespace Cw
/-- all lots of the numbers n, .., n + k - 1, in the order of lists -/
def lotsFrom : Nat → Int → List (List Int)
  | 0, _ => [[]]
  | k + 1, n => let later := (lotsFrom k (n + 1)).filter (fun l => !l.isEmpty)
    [[], [n]] ++ later.map (fun l => n :: l) ++ later
def lotsOf (m : Nat) : List (List Int) := lotsFrom m 0
theorem al0 : f_all_lots.sem [.int 0] = some (.n (.l ((lotsOf 0).map D1)), []) := by kernel_rfl
theorem al1 : f_all_lots.sem [.int 1] = some (.n (.l ((lotsOf 1).map D1)), []) := by kernel_rfl
theorem al2 : f_all_lots.sem [.int 2] = some (.n (.l ((lotsOf 2).map D1)), []) := by kernel_rfl
theorem al3 : f_all_lots.sem [.int 3] = some (.n (.l ((lotsOf 3).map D1)), []) := by kernel_rfl
theorem al4 : f_all_lots.sem [.int 4] = some (.n (.l ((lotsOf 4).map D1)), []) := by kernel_rfl
theorem al5 : f_all_lots.sem [.int 5] = some (.n (.l ((lotsOf 5).map D1)), []) := by kernel_rfl
theorem al6 : f_all_lots.sem [.int 6] = some (.n (.l ((lotsOf 6).map D1)), []) := by kernel_rfl
theorem al7 : f_all_lots.sem [.int 7] = some (.n (.l ((lotsOf 7).map D1)), []) := by kernel_rfl
theorem al8 : f_all_lots.sem [.int 8] = some (.n (.l ((lotsOf 8).map D1)), []) := by kernel_rfl
theorem ll0 : f_law_lots.sem [.int 0] = some (.n (.l ((lotsOf 0).map D1)), []) := by kernel_rfl
theorem ll1 : f_law_lots.sem [.int 1] = some (.n (.l ((lotsOf 1).map D1)), []) := by kernel_rfl
theorem ll2 : f_law_lots.sem [.int 2] = some (.n (.l ((lotsOf 2).map D1)), []) := by kernel_rfl
theorem ll3 : f_law_lots.sem [.int 3] = some (.n (.l ((lotsOf 3).map D1)), []) := by kernel_rfl
theorem ll4 : f_law_lots.sem [.int 4] = some (.n (.l ((lotsOf 4).map D1)), []) := by kernel_rfl
theorem ll5 : f_law_lots.sem [.int 5] = some (.n (.l ((lotsOf 5).map D1)), []) := by kernel_rfl
theorem ll6 : f_law_lots.sem [.int 6] = some (.n (.l ((lotsOf 6).map D1)), []) := by kernel_rfl
theorem ll7 : f_law_lots.sem [.int 7] = some (.n (.l ((lotsOf 7).map D1)), []) := by kernel_rfl
theorem ll8 : f_law_lots.sem [.int 8] = some (.n (.l ((lotsOf 8).map D1)), []) := by kernel_rfl
theorem al (m : Nat) (h : m ≤ 8) : f_all_lots.sem [.int (m : Nat)] = some (.n (.l ((lotsOf m).map D1)), []) := by
  match m, h with
  | 0, _ => exact al0
  | 1, _ => exact al1
  | 2, _ => exact al2
  | 3, _ => exact al3
  | 4, _ => exact al4
  | 5, _ => exact al5
  | 6, _ => exact al6
  | 7, _ => exact al7
  | 8, _ => exact al8
  | n + 9, h => omega
theorem ll (m : Nat) (h : m ≤ 8) : f_law_lots.sem [.int (m : Nat)] = some (.n (.l ((lotsOf m).map D1)), []) := by
  match m, h with
  | 0, _ => exact ll0
  | 1, _ => exact ll1
  | 2, _ => exact ll2
  | 3, _ => exact ll3
  | 4, _ => exact ll4
  | 5, _ => exact ll5
  | 6, _ => exact ll6
  | 7, _ => exact ll7
  | 8, _ => exact ll8
  | n + 9, h => omega
end Cw

open PySem PySem.Spec PySem.W PyProof.Rows L2 Dv
namespace Cw
theorem inL_iff {a b : List Int} : inL a b = true ↔ ∀ x ∈ a, x ∈ b := by
  unfold inL
  rw [List.isEmpty_iff, List.filter_eq_nil_iff]
  constructor
  · intro h x hx
    have := h x hx
    simpa using this
  · intro h x hx
    simp [h x hx]
theorem meets_iff {F : List (List Int)} {l : List Int} : meets F l = true ↔ ∀ o ∈ F, ∃ x ∈ o, x ∈ l := by
  unfold meets
  rw [List.isEmpty_iff, List.filter_eq_nil_iff]
  constructor
  · intro h o ho
    have := h o ho
    rw [List.isEmpty_iff, List.filter_eq_nil_iff] at this
    apply Classical.byContradiction
    intro hn
    refine this fun x hx => ?_
    simp only [decide_eq_true_eq]
    exact fun hxl => hn ⟨x, hx, hxl⟩
  · intro h o ho
    obtain ⟨x, hx, hl⟩ := h o ho
    rw [List.isEmpty_iff, List.filter_eq_nil_iff]
    intro z
    exact z x hx (by simpa using hl)
theorem least_mem {lt : List Int → List Int → Bool} {L : List (List Int)} {l : List Int} : l ∈ leastBy lt L ↔ l ∈ L ∧ ∀ k ∈ L, (∀ x ∈ k, x ∈ l) → lt k l = false := by
  unfold leastBy
  rw [List.mem_filter, List.isEmpty_iff, List.filter_eq_nil_iff]
  constructor
  · rintro ⟨h1, h2⟩
    refine ⟨h1, fun k hk hs => ?_⟩
    have := h2 k hk
    rw [inL_iff.mpr hs, Bool.and_true] at this
    simpa using this
  · rintro ⟨h1, h2⟩
    refine ⟨h1, fun k hk z => ?_⟩
    rw [Bool.and_eq_true] at z
    rw [h2 k hk (inL_iff.mp z.2)] at z
    cases z.1
/-- what is asked of the family of all lots -/
structure Fam (m : Int) (AL : List (List Int)) : Prop where
  full : ∀ p : Int → Bool, ∃ l ∈ AL, ∀ x, x ∈ l ↔ (0 ≤ x ∧ x < m) ∧ p x = true
  rng : ∀ l ∈ AL, ∀ x ∈ l, 0 ≤ x ∧ x < m
  lt : ∀ a ∈ AL, ∀ b ∈ AL, (∀ x ∈ a, x ∈ b) → ltA a b = ltB a b
section
variable {m : Int} {AL F : List (List Int)}
theorem Fam.ext (f : Fam m AL) {a b : List Int} (ha : a ∈ AL) (hb : b ∈ AL) (h1 : ∀ x ∈ a, x ∈ b) (h2 : ∀ x ∈ b, x ∈ a) : a = b := by
  apply Classical.byContradiction
  intro hn
  have e1 := f.lt a ha b hb h1
  have e2 := f.lt b hb a ha h2
  have q1 : ltB a b = true := by unfold ltB; rw [decide_eq_false hn]; rfl
  have q2 : ltB b a = true := by unfold ltB; rw [decide_eq_false (fun z : b = a => hn z.symm)]; rfl
  rw [q1] at e1
  rw [q2] at e2
  have l1 : a.length < b.length := of_decide_eq_true e1
  have l2 : b.length < a.length := of_decide_eq_true e2
  omega
/-- beneath each member is a least one -/
theorem least_below (f : Fam m AL) {L : List (List Int)} (hL : ∀ l ∈ L, l ∈ AL) : ∀ (n : Nat) (l : List Int), l.length ≤ n → l ∈ L → ∃ k ∈ leastBy ltA L, ∀ x ∈ k, x ∈ l := by
  intro n
  induction n with
  | zero =>
    intro l hl hm
    refine ⟨l, least_mem.mpr ⟨hm, fun k hk hs => ?_⟩, fun _ h => h⟩
    unfold ltA
    rw [decide_eq_false (by omega)]
  | succ n ih =>
    intro l hl hm
    by_cases h : ∃ k ∈ L, (∀ x ∈ k, x ∈ l) ∧ ltA k l = true
    · obtain ⟨k, hk, hs, hlt⟩ := h
      have : k.length < l.length := by unfold ltA at hlt; exact of_decide_eq_true hlt
      obtain ⟨g, hg, hgs⟩ := ih k (by omega) hk
      exact ⟨g, hg, fun x hx => hs x (hgs x hx)⟩
    · refine ⟨l, least_mem.mpr ⟨hm, fun k hk hs => ?_⟩, fun _ h => h⟩
      cases z : ltA k l with
      | false => rfl
      | true => exact absurd ⟨k, hk, hs, z⟩ h
theorem least_same (f : Fam m AL) {L : List (List Int)} (hL : ∀ l ∈ L, l ∈ AL) : leastBy ltA L = leastBy ltB L := by
  unfold leastBy
  apply List.filter_congr
  intro l hl
  have : (L.filter fun k => ltA k l && inL k l) = L.filter fun k => ltB k l && inL k l := by
    apply List.filter_congr
    intro k hk
    cases hi : inL k l with
    | false => rw [Bool.and_false, Bool.and_false]
    | true => rw [f.lt k (hL k hk) l (hL l hl) (inL_iff.mp hi)]
  rw [this]
theorem cross_mem {F : List (List Int)} {l : List Int} : l ∈ cross AL F ↔ l ∈ AL ∧ ∀ o ∈ F, ∃ x ∈ o, x ∈ l := by
  unfold cross
  rw [List.mem_filter, meets_iff]
/-- crossing twice -/
theorem dual (f : Fam m AL) (hF : ∀ l ∈ F, l ∈ AL) {h : List Int} : h ∈ leastBy ltA (cross AL (leastBy ltA (cross AL F))) ↔ h ∈ leastBy ltA F := by
  have hc : ∀ F : List (List Int), ∀ l ∈ cross AL F, l ∈ AL := fun F l hl => (cross_mem.mp hl).1
  -- each member of F crosses
  have one : ∀ o ∈ F, o ∈ cross AL (leastBy ltA (cross AL F)) := fun o ho => by
    refine cross_mem.mpr ⟨hF o ho, fun g hg => ?_⟩
    obtain ⟨x, hx, hxg⟩ := (cross_mem.mp (least_mem.mp hg).1).2 o ho
    exact ⟨x, hxg, hx⟩
  -- each that crosses holds a member of F
  have two : ∀ l ∈ cross AL (leastBy ltA (cross AL F)), ∃ o ∈ F, ∀ x ∈ o, x ∈ l := fun l hl => by
    obtain ⟨hlA, hlm⟩ := cross_mem.mp hl
    apply Classical.byContradiction
    intro hn
    obtain ⟨c, hcA, hcm⟩ := f.full fun x => !decide (x ∈ l)
    have hcT : c ∈ cross AL F := cross_mem.mpr ⟨hcA, fun o ho => by
      apply Classical.byContradiction
      intro hno
      refine hn ⟨o, ho, fun x hx => ?_⟩
      apply Classical.byContradiction
      intro hxl
      exact hno ⟨x, hx, (hcm x).mpr ⟨f.rng o (hF o ho) x hx, by simp [hxl]⟩⟩⟩
    obtain ⟨g, hg, hgs⟩ := least_below f (hc F) c.length c (Nat.le_refl _) hcT
    obtain ⟨x, hx, hxl⟩ := hlm g hg
    have := ((hcm x).mp (hgs x hx)).2
    simp [hxl] at this
  constructor
  · intro hh
    obtain ⟨h1, h2⟩ := least_mem.mp hh
    obtain ⟨o, ho, hos⟩ := two h h1
    have hA := hc _ h h1
    have ho0 : ltA o h = false := h2 o (one o ho) hos
    have e : o = h := by
      rw [f.lt o (hF o ho) h hA hos] at ho0
      unfold ltB at ho0
      simpa using ho0
    subst e
    exact least_mem.mpr ⟨ho, fun k hk hs => h2 k (one k hk) hs⟩
  · intro hh
    obtain ⟨h1, h2⟩ := least_mem.mp hh
    refine least_mem.mpr ⟨one h h1, fun k hk hs => ?_⟩
    obtain ⟨o, ho, hos⟩ := two k hk
    cases z : ltA k h with
    | false => rfl
    | true =>
      exfalso
      have q : ltA o h = false := h2 o ho fun x hx => hs x (hos x hx)
      rw [f.lt o (hF o ho) h (hF h h1) fun x hx => hs x (hos x hx)] at q
      have e : o = h := by unfold ltB at q; simpa using q
      subst e
      have : k = o := f.ext (hc _ k hk) (hF o ho) hs hos
      subst this
      unfold ltA at z
      simp at z
end
end Cw

open PySem PySem.Spec PySem.W PyProof.Rows L2 Dv
namespace Cw
theorem mem_later {k : Nat} {n : Int} {l : List Int} : l ∈ lotsFrom (k + 1) n ↔ l = [] ∨ l = [n] ∨ (∃ r ∈ lotsFrom k (n + 1), r ≠ [] ∧ l = n :: r) ∨ (l ∈ lotsFrom k (n + 1) ∧ l ≠ []) := by
  rw [show lotsFrom (k + 1) n = [[], [n]] ++ ((lotsFrom k (n + 1)).filter (fun l => !l.isEmpty)).map (fun l => n :: l) ++ (lotsFrom k (n + 1)).filter (fun l => !l.isEmpty) from rfl]
  generalize lotsFrom k (n + 1) = M
  simp only [List.mem_append, List.mem_cons, List.not_mem_nil, or_false, List.mem_map, List.mem_filter, List.isEmpty_iff, Bool.not_eq_true', or_assoc]
  constructor
  · rintro (h | h | ⟨r, ⟨h1, h2⟩, h3⟩ | ⟨h1, h2⟩)
    · exact .inl h
    · exact .inr (.inl h)
    · exact .inr (.inr (.inl ⟨r, h1, (by intro z; subst z; cases h2), h3.symm⟩))
    · exact .inr (.inr (.inr ⟨h1, (by intro z; subst z; cases h2)⟩))
  · rintro (h | h | ⟨r, h1, h2, h3⟩ | ⟨h1, h2⟩)
    · exact .inl h
    · exact .inr (.inl h)
    · exact .inr (.inr (.inl ⟨r, ⟨h1, (by cases r; exact absurd rfl h2; rfl)⟩, h3.symm⟩))
    · exact .inr (.inr (.inr ⟨h1, by cases l; exact absurd rfl h2; rfl⟩))
theorem lots_rng : ∀ (k : Nat) (n : Int) (l : List Int), l ∈ lotsFrom k n → ∀ x ∈ l, n ≤ x ∧ x < n + (k : Nat)
  | 0, n, l, h, x, hx => by
    have : l = [] := by simpa [lotsFrom] using h
    subst this
    cases hx
  | k + 1, n, l, h, x, hx => by
    rcases mem_later.mp h with rfl | rfl | ⟨r, h1, _, rfl⟩ | ⟨h1, _⟩
    · cases hx
    · rw [List.mem_singleton] at hx; subst hx; omega
    · rcases List.mem_cons.mp hx with rfl | hx
      · omega
      · have := lots_rng k (n + 1) r h1 x hx; omega
    · have := lots_rng k (n + 1) l h1 x hx; omega
theorem lots_full (p : Int → Bool) : ∀ (k : Nat) (n : Int), ∃ l ∈ lotsFrom k n, ∀ x, x ∈ l ↔ (n ≤ x ∧ x < n + (k : Nat)) ∧ p x = true
  | 0, n => ⟨[], by simp [lotsFrom], fun x => ⟨fun h => (by cases h), fun h => (by omega)⟩⟩
  | k + 1, n => by
    obtain ⟨l, hl, hm⟩ := lots_full p k (n + 1)
    by_cases hp : p n = true
    · by_cases he : l = []
      · refine ⟨[n], mem_later.mpr (.inr (.inl rfl)), fun x => ?_⟩
        rw [List.mem_singleton]
        have := hm x
        rw [he] at this
        constructor
        · rintro rfl; exact ⟨by omega, hp⟩
        · rintro ⟨h1, h2⟩
          apply Classical.byContradiction
          intro hn
          exact absurd (this.mpr ⟨by omega, h2⟩) (by simp)
      · refine ⟨n :: l, mem_later.mpr (.inr (.inr (.inl ⟨l, hl, he, rfl⟩))), fun x => ?_⟩
        rw [List.mem_cons, hm x]
        constructor
        · rintro (rfl | ⟨h1, h2⟩)
          · exact ⟨by omega, hp⟩
          · exact ⟨by omega, h2⟩
        · rintro ⟨h1, h2⟩
          by_cases e : x = n
          · exact .inl e
          · exact .inr ⟨by omega, h2⟩
    · have key : ∀ x, x ∈ l ↔ (n ≤ x ∧ x < n + ((k + 1 : Nat) : Int)) ∧ p x = true := fun x => by
        rw [hm x]
        constructor
        · rintro ⟨h1, h2⟩; exact ⟨by omega, h2⟩
        · rintro ⟨h1, h2⟩
          refine ⟨?_, h2⟩
          have : x ≠ n := fun e => hp (e ▸ h2)
          omega
      by_cases he : l = []
      · exact ⟨[], mem_later.mpr (.inl rfl), by rw [← he]; exact key⟩
      · exact ⟨l, mem_later.mpr (.inr (.inr (.inr ⟨hl, he⟩))), key⟩
theorem lt8 : ((lotsOf 8).all fun a => (lotsOf 8).all fun b => !inL a b || (ltA a b == ltB a b)) = true := by decide +kernel
theorem in8 : ((List.range 9).all fun m => (lotsOf m).all fun l => (lotsOf 8).contains l) = true := by decide +kernel
theorem fam (m : Nat) (h : m ≤ 8) : Fam (m : Nat) (lotsOf m) := by
  have i8 : ∀ l ∈ lotsOf m, l ∈ lotsOf 8 := fun l hl => by
    have := List.all_eq_true.mp (List.all_eq_true.mp in8 m (List.mem_range.mpr (by omega))) l hl
    simpa using this
  refine ⟨fun p => ?_, fun l hl x hx => ?_, fun a ha b hb hs => ?_⟩
  · obtain ⟨l, h1, h2⟩ := lots_full p m 0
    exact ⟨l, h1, fun x => by rw [h2 x, Int.zero_add]⟩
  · have := lots_rng m 0 l hl x hx
    omega
  · have := List.all_eq_true.mp (List.all_eq_true.mp lt8 a (i8 a ha)) b (i8 b hb)
    rw [inL_iff.mpr hs, Bool.not_true, Bool.false_or] at this
    simpa using this
/-- in the order of lists, none twice -/
def pwB : List (List Int) → Bool
  | [] => true
  | a :: r => (r.all fun b => leD (D1 a) (D1 b) && !leD (D1 b) (D1 a)) && pwB r
theorem pw8 : ((List.range 9).all fun m => pwB (lotsOf m)) = true := by decide +kernel
def isLotB (m : Int) (l : List Int) : Bool := (l.all fun x => decide (0 ≤ x) && decide (x < m)) && (List.range (l.length - 1)).all fun i => decide (l.getD i 0 < l.getD (i + 1) 0)
theorem lot8 : ((List.range 9).all fun m => (lotsOf m).all fun l => isLotB (m : Nat) l && decide (l.length ≤ 8)) = true := by decide +kernel
theorem len8 : ((List.range 9).all fun m => decide ((lotsOf m).length ≤ 256)) = true := by decide +kernel
theorem lot_of {m : Nat} (h : m ≤ 8) {l : List Int} (hl : l ∈ lotsOf m) : isLot (m : Nat) l ∧ l.length ≤ 8 := by
  have := List.all_eq_true.mp (List.all_eq_true.mp lot8 m (List.mem_range.mpr (by omega))) l hl
  obtain ⟨h1, h2⟩ := Bool.and_eq_true_iff.mp this
  obtain ⟨h3, h4⟩ := Bool.and_eq_true_iff.mp h1
  refine ⟨⟨fun x hx => ?_, fun i hi => ?_⟩, of_decide_eq_true h2⟩
  · have := List.all_eq_true.mp h3 x hx
    simpa using this
  · have := List.all_eq_true.mp h4 i (List.mem_range.mpr (by omega))
    exact of_decide_eq_true this
end Cw

open PySem PySem.Spec PySem.W PyProof.Rows L2 Dv
namespace Cw
theorem pw_of : ∀ {L : List (List Int)}, pwB L = true → L.Pairwise fun a b => leD (D1 a) (D1 b) = true ∧ leD (D1 b) (D1 a) = false
  | [], _ => .nil
  | a :: r, h => by
    rw [pwB, Bool.and_eq_true] at h
    refine .cons (fun b hb => ?_) (pw_of h.2)
    have := List.all_eq_true.mp h.1 b hb
    rw [Bool.and_eq_true] at this
    exact ⟨this.1, by simpa using this.2⟩
/-- a sorted list is known by its members, where the order is strict on them -/
theorem sorted_same {R : List Int → List Int → Prop} (anti : ∀ a b, R a b → R b a → False) : ∀ (L M : List (List Int)), L.Pairwise R → M.Pairwise R → (∀ x, x ∈ L ↔ x ∈ M) → L = M
  | [], [], _, _, _ => rfl
  | [], b :: M, _, _, h => absurd ((h b).mpr List.mem_cons_self) (by simp)
  | a :: L, [], _, _, h => absurd ((h a).mp List.mem_cons_self) (by simp)
  | a :: L, b :: M, h1, h2, h => by
    rw [List.pairwise_cons] at h1 h2
    have e : a = b := by
      apply Classical.byContradiction
      intro hn
      have ha : a ∈ M := ((List.mem_cons.mp ((h a).mp List.mem_cons_self)).resolve_left hn)
      have hb : b ∈ L := ((List.mem_cons.mp ((h b).mpr List.mem_cons_self)).resolve_left (Ne.symm hn))
      exact anti a b (h1.1 b hb) (h2.1 a ha)
    subst e
    have irr : ∀ x, R x x → False := fun x hx => anti x x hx hx
    rw [sorted_same anti L M h1.2 h2.2 fun x => ?_]
    have := h x
    rw [List.mem_cons, List.mem_cons] at this
    constructor
    · intro hx
      rcases this.mp (.inr hx) with rfl | hx'
      · exact (irr _ (h1.1 _ hx)).elim
      · exact hx'
    · intro hx
      rcases this.mpr (.inr hx) with rfl | hx'
      · exact (irr _ (h2.1 _ hx)).elim
      · exact hx'
end Cw

open PySem PySem.Spec PySem.W PyProof.Rows L2 Dv
namespace Cw
/-- the items of F that do not stand before, each with its place; B what stands before -/
def firstsFrom : List (List Int) → List (List Int) → List (List Int)
  | _, [] => []
  | B, a :: F => if a ∈ B then firstsFrom (B ++ [a]) F else a :: firstsFrom (B ++ [a]) F
theorem firsts_mem : ∀ (F B : List (List Int)) (x : List Int), x ∈ firstsFrom B F ↔ x ∈ F ∧ x ∉ B
  | [], B, x => by simp [firstsFrom]
  | a :: F, B, x => by
    unfold firstsFrom
    have ih := firsts_mem F (B ++ [a]) x
    rw [List.mem_append, List.mem_singleton] at ih
    by_cases ha : a ∈ B
    · rw [if_pos ha, ih, List.mem_cons]
      constructor
      · rintro ⟨h1, h2⟩; exact ⟨.inr h1, fun z => h2 (.inl z)⟩
      · rintro ⟨h1, h2⟩
        have hx : x ≠ a := fun e => h2 (e ▸ ha)
        exact ⟨h1.resolve_left hx, fun z => z.elim h2 hx⟩
    · rw [if_neg ha, List.mem_cons, ih, List.mem_cons]
      constructor
      · rintro (rfl | ⟨h1, h2⟩)
        · exact ⟨.inl rfl, ha⟩
        · exact ⟨.inr h1, fun z => h2 (.inl z)⟩
      · rintro ⟨h1, h2⟩
        by_cases hx : x = a
        · exact .inl hx
        · exact .inr ⟨h1.resolve_left hx, fun z => z.elim h2 hx⟩
theorem firsts_nodup : ∀ (F B : List (List Int)), (firstsFrom B F).Nodup
  | [], B => .nil
  | a :: F, B => by
    unfold firstsFrom
    by_cases ha : a ∈ B
    · rw [if_pos ha]; exact firsts_nodup F _
    · rw [if_neg ha]
      refine List.nodup_cons.mpr ⟨fun h => ?_, firsts_nodup F _⟩
      exact ((firsts_mem F (B ++ [a]) a).mp h).2 (by simp)
end Cw

open PySem PySem.Spec PySem.W PyProof.Rows L2 Dv
namespace Cw
theorem D1_inj {a b : List Int} (h : D1 a = D1 b) : a = b := by
  have := eqv_D1 a b
  rw [h, eqv_D1, decide_eq_true rfl] at this
  exact of_decide_eq_true this.symm
theorem all_D1 : ∀ ys : List PyData, (∀ y ∈ ys, ∃ l, y = D1 l) → ∃ M : List (List Int), ys = M.map D1
  | [], _ => ⟨[], rfl⟩
  | y :: ys, h => by
    obtain ⟨l, rfl⟩ := h y List.mem_cons_self
    obtain ⟨M, rfl⟩ := all_D1 ys fun z hz => h z (List.mem_cons_of_mem _ hz)
    exact ⟨l :: M, rfl⟩
theorem pw_two {α : Type} {R : α → α → Prop} : ∀ {L : List α}, L.Pairwise R → ∀ a ∈ L, ∀ b ∈ L, a ≠ b → R a b ∨ R b a
  | [], _, a, ha, _, _, _ => by cases ha
  | x :: L, h, a, ha, b, hb, hn => by
    rw [List.pairwise_cons] at h
    rcases List.mem_cons.mp ha with ea | ha
    · rcases List.mem_cons.mp hb with eb | hb
      · exact absurd (ea.trans eb.symm) hn
      · rw [ea]; exact .inl (h.1 b hb)
    · rcases List.mem_cons.mp hb with eb | hb
      · rw [eb]; exact .inr (h.1 a ha)
      · exact pw_two h.2 a ha b hb hn
theorem mem_map_D1 {x : List Int} {L : List (List Int)} : D1 x ∈ L.map D1 ↔ x ∈ L := by
  rw [List.mem_map]
  constructor
  · rintro ⟨y, hy, e⟩; rw [← D1_inj e]; exact hy
  · exact fun h => ⟨x, h, rfl⟩
theorem nodup_D1 : ∀ {L : List (List Int)}, L.Nodup ↔ (L.map D1).Nodup
  | [] => by simp
  | a :: L => by rw [List.map_cons, List.nodup_cons, List.nodup_cons, mem_map_D1, nodup_D1 (L := L)]
/-- sorted lots -/
theorem sort_lots {m : Nat} (h : m ≤ 8) {R L : List (List Int)} (hn : R.Nodup) (hs : L.Sublist (lotsOf m)) (hm : ∀ x, x ∈ R ↔ x ∈ L) : sortD (R.map D1) = L.map D1 := by
  have hp := sortD_perm (R.map D1)
  obtain ⟨M, hM⟩ := all_D1 (sortD (R.map D1)) fun y hy => by
    obtain ⟨l, _, e⟩ := List.mem_map.mp (hp.mem_iff.mp hy)
    exact ⟨l, e.symm⟩
  have pw := pw_of (List.all_eq_true.mp pw8 m (List.mem_range.mpr (by omega)))
  have memM : ∀ x, x ∈ M ↔ x ∈ L := fun x => by
    rw [← mem_map_D1, ← hM, hp.mem_iff, mem_map_D1]
    exact hm x
  have nodM : M.Nodup := by
    rw [nodup_D1, ← hM, hp.nodup_iff, ← nodup_D1]
    exact hn
  have inAL : ∀ x ∈ L, x ∈ lotsOf m := fun x hx => hs.subset hx
  have sortM : M.Pairwise fun a b => leD (D1 a) (D1 b) = true := by
    have := sortD_sorted (R.map D1)
    rw [hM, List.pairwise_map] at this
    exact this
  have strictM : M.Pairwise fun a b => leD (D1 a) (D1 b) = true ∧ leD (D1 b) (D1 a) = false := by
    have both := sortM.and nodM
    refine both.imp_of_mem fun {a b} ha hb hab => ?_
    rcases pw_two pw a (inAL a ((memM a).mp ha)) b (inAL b ((memM b).mp hb)) hab.2 with q | q
    · exact q
    · rw [hab.1] at q; cases q.2
  rw [hM, sorted_same (fun a b h1 h2 => by rw [h1.1] at h2; cases h2.2) M L strictM (pw.sublist hs) memM]
end Cw

open PySem PySem.Spec PySem.W PyProof.Rows L2 Dv
namespace Cw
/-- the third road of the law, in plain lists -/
theorem law_pure {m : Nat} (h : m ≤ 8) {F : List (List Int)} (hF : ∀ l ∈ F, l ∈ lotsOf m) :
    sortD ((leastBy ltB (firstsFrom [] F)).map D1) = (leastBy ltA (cross (lotsOf m) (leastBy ltA (cross (lotsOf m) F)))).map D1 := by
  have f := fam m h
  have mem : ∀ x, x ∈ firstsFrom [] F ↔ x ∈ F := fun x => by rw [firsts_mem]; simp
  refine sort_lots h ((firsts_nodup F []).sublist List.filter_sublist) (List.filter_sublist.trans List.filter_sublist) fun x => ?_
  rw [dual f hF, ← least_same f fun l hl => hF l ((mem l).mp hl)]
  rw [least_mem, least_mem, mem]
  constructor
  · rintro ⟨h1, h2⟩; exact ⟨h1, fun k hk => h2 k ((mem k).mpr hk)⟩
  · rintro ⟨h1, h2⟩; exact ⟨h1, fun k hk => h2 k ((mem k).mp hk)⟩
end Cw

open PySem PySem.Spec PySem.W PyProof.Rows L2 Dv
namespace Cw
theorem text_le : ∀ (ts : List Str) (k : Nat) (acc : Str) (n : Nat), (∀ t ∈ ts, t.length ≤ n) → (textFrom k acc ts).length ≤ acc.length + (n + 2) * ts.length
  | [], k, acc, n, _ => by show acc.length ≤ acc.length + (n + 2) * 0; omega
  | t :: r, k, acc, n, h => by
    have ih := text_le r (k + 1) (acc ++ (if k > 0 then ", " else "" : String) ++ t) n fun u hu => h u (List.mem_cons_of_mem _ hu)
    have e : (acc ++ (if k > 0 then ", " else "" : String) ++ t).length = acc.length + (if k > 0 then 2 else 0) + t.length := by
      rw [strLen_append, strLen_append]
      split <;> rfl
    rw [e] at ih
    have ht := h t List.mem_cons_self
    show (textFrom (k + 1) _ r).length ≤ _
    refine Nat.le_trans ih ?_
    rw [List.length_cons, Nat.mul_succ]
    split <;> omega
theorem list_le {ts : List Str} {n : Nat} (h : ∀ t ∈ ts, t.length ≤ n) : (listText ts).length ≤ (n + 2) * ts.length + 2 := by
  unfold listText
  rw [strLen_append]
  have := text_le ts 0 "[" n h
  have e1 : ("[" : Str).length = 1 := rfl
  have e2 : ("]" : Str).length = 1 := rfl
  omega
theorem shownAll_mem {n : Nat} : ∀ {xs : List PyData}, (∀ x ∈ xs, (PyData.shown x).length ≤ n) → ∀ t ∈ PyData.shownAll xs, t.length ≤ n
  | [], _, t, ht => by simp [PyData.shownAll] at ht
  | x :: xs, h, t, ht => by
    rw [PyData.shownAll] at ht
    rcases List.mem_cons.mp ht with rfl | ht
    · exact h x List.mem_cons_self
    · exact shownAll_mem (fun y hy => h y (List.mem_cons_of_mem _ hy)) t ht
theorem shownAll_len : ∀ xs : List PyData, (PyData.shownAll xs).length = xs.length
  | [] => by simp [PyData.shownAll]
  | x :: xs => by rw [PyData.shownAll, List.length_cons, shownAll_len xs]; rfl
theorem shown_list {n : Nat} {xs : List PyData} (h : ∀ x ∈ xs, (PyData.shown x).length ≤ n) : (PyData.shown (.list xs)).length ≤ (n + 2) * xs.length + 2 := by
  rw [PyData.shown]
  have := list_le (shownAll_mem h)
  rwa [shownAll_len] at this
theorem int_short : ∀ i : Fin 9, (PyData.shown (.int ((i.val : Nat) : Int))).length ≤ 1 := by decide +kernel
theorem show_all {xs : List PyData} : (∀ x ∈ xs, PyData.showable x = true) → PyData.showableAll xs = true := by
  induction xs with
  | nil => intro _; simp [PyData.showableAll]
  | cons x xs ih => intro h; rw [PyData.showableAll, h x List.mem_cons_self, ih fun y hy => h y (List.mem_cons_of_mem _ hy)]; rfl
theorem repr_lots {L : List (List Int)} {m : Nat} (h : m ≤ 8) (hL : ∀ l ∈ L, l ∈ lotsOf m) (hl : L.length ≤ 1000) (mm : Msk) : bltS .repr [(.list (L.map D1), mm)] = some (.val (.str (PyData.shown (.list (L.map D1)))) m0) := by
  have r9 : ∀ l ∈ L, ∀ x ∈ l, 0 ≤ x ∧ x < 9 := fun l hlL x hx => by
    have := (lot_of h (hL l hlL)).1.1 x hx
    omega
  have s1 : ∀ d ∈ L.map D1, (PyData.shown d).length ≤ 26 := fun d hd => by
    obtain ⟨l, hlL, rfl⟩ := List.mem_map.mp hd
    have := shown_list (n := 1) (xs := l.map .int) fun x hx => by
      obtain ⟨i, hi, rfl⟩ := List.mem_map.mp hx
      have := r9 l hlL i hi
      have q := int_short ⟨i.toNat, by omega⟩
      rw [show ((i.toNat : Nat) : Int) = i from by omega] at q
      exact q
    rw [List.length_map] at this
    have l8 := (lot_of h (hL l hlL)).2
    exact Nat.le_trans this (by omega)
  have s2 := shown_list s1
  rw [List.length_map] at s2
  have s3 : PyData.showable (.list (L.map D1)) = true := by
    rw [PyData.showable]
    refine show_all fun d hd => ?_
    obtain ⟨l, hlL, rfl⟩ := List.mem_map.mp hd
    unfold D1
    rw [PyData.showable]
    refine show_all fun x hx => ?_
    obtain ⟨i, hi, rfl⟩ := List.mem_map.mp hx
    have := r9 l hlL i hi
    rw [PyData.showable, decide_eq_true_eq]
    have q : ∀ i : Fin 9, (((i.val : Nat) : Int)).natAbs.log2 < 1920 := by decide +kernel
    have q := q ⟨i.toNat, by omega⟩
    rw [show ((i.toNat : Nat) : Int) = i from by omega] at q
    exact q
  show (if (dep DEP (.list (L.map D1)) && (PyData.showable (.list (L.map D1)) && decide ((PyData.shown (.list (L.map D1))).length ≤ LIM))) = true then _ else _) = _
  rw [dep_LL, s3, decide_eq_true (show (PyData.shown (.list (L.map D1))).length ≤ 16777216 from by omega)]
  rfl
end Cw

open PySem PySem.Spec PySem.W PyProof.Rows L2 Dv
namespace Cw
theorem alike_ints : ∀ a b : List Int, alikeAll (a.map PyData.int) (b.map PyData.int) = true
  | [], _ => rfl
  | _ :: _, [] => rfl
  | x :: a, y :: b => by rw [List.map_cons, List.map_cons, alikeAll, alike_ints a b]; rfl
theorem sorted_lots {L : List (List Int)} {m : Msk} (hl : L.length ≤ LIM) : bltS .sorted [(.list (L.map D1), m)] = some (.new (.l (sortD (L.map D1))) m) := by
  have hs : Dv.sortable (L.map D1) = true := by
    unfold Dv.sortable
    rw [List.length_map, decide_eq_true hl, Bool.true_and, Bool.and_eq_true]
    refine ⟨List.all_eq_true.mpr fun a ha => List.all_eq_true.mpr fun c hc => ?_, Bool.or_eq_true_iff.mpr (.inl (List.all_eq_true.mpr fun a ha => ?_))⟩
    · obtain ⟨x, _, rfl⟩ := List.mem_map.mp ha
      obtain ⟨y, _, rfl⟩ := List.mem_map.mp hc
      exact alike_ints x y
    · obtain ⟨x, _, rfl⟩ := List.mem_map.mp ha
      rfl
  show (if (depAll DEP (L.map D1) && Dv.sortable (L.map D1)) = true then _ else _) = _
  rw [hs, show depAll DEP (L.map D1) = true from dep_D2 59 L]
  rfl
end Cw

open PySem PySem.Spec PySem.W PyProof.Rows L2 Dv
namespace Cw
/-- items with their places -/
def pairsFrom : Nat → List (List Int) → List (Nat × List Int)
  | _, [] => []
  | k, a :: F => (k, a) :: pairsFrom (k + 1) F
theorem enu_pairs : ∀ (F : List (List Int)) (k : Nat), enuS (k : Nat) (F.map D1) = (pairsFrom k F).map fun q => PyData.tuple [.int (q.1 : Nat), D1 q.2]
  | [], _ => rfl
  | a :: F, k => by
    rw [List.map_cons, enuS, pairsFrom, List.map_cons]
    rw [show ((k : Nat) : Int) + 1 = ((k + 1 : Nat) : Int) from by omega, enu_pairs F (k + 1)]
theorem pairs_first : ∀ (F B G : List (List Int)), G = B ++ F → ((pairsFrom B.length F).filter fun q => !decide (q.2 ∈ G.take q.1)).map (·.2) = firstsFrom B F
  | [], B, G, _ => rfl
  | a :: F, B, G, hG => by
    have ih := pairs_first F (B ++ [a]) G (by rw [hG]; simp)
    rw [List.length_append, List.length_singleton] at ih
    have ht : G.take B.length = B := by rw [hG, List.take_left]
    rw [pairsFrom, List.filter_cons, firstsFrom]
    show (if (!decide (a ∈ G.take B.length)) = true then _ else _ : List (Nat × List Int)).map (·.2) = _
    rw [ht]
    by_cases ha : a ∈ B
    · rw [if_pos ha, decide_eq_true ha, if_neg (by simp)]
      exact ih
    · rw [if_neg ha, decide_eq_false ha, Bool.not_false, if_pos rfl, List.map_cons, ih]
theorem pairs_len : ∀ (F : List (List Int)) (k : Nat), (pairsFrom k F).length = F.length
  | [], _ => rfl
  | a :: F, k => by rw [pairsFrom, List.length_cons, List.length_cons, pairs_len F (k + 1)]
end Cw

open PySem PySem.Spec PySem.W PyProof.Rows L2 Dv
namespace Cw
theorem in_lots (l : List Int) : ∀ L : List (List Int), ((L.map D1).any fun z => PyData.eqv z (D1 l)) = decide (l ∈ L)
  | [] => rfl
  | x :: L => by
    rw [List.map_cons, List.any_cons, in_lots l L, eqv_D1]
    simp [eq_comm, Bool.decide_or]
theorem cut_take (xs : List PyData) (k : Nat) : Dv.cutD xs none (some (k : Nat)) = xs.take k := by
  unfold Dv.cutD
  rw [HT.sIx_none, HT.sIx_nat, List.drop_zero, Nat.sub_zero]
  first | exact (List.take_eq_take_min).symm | (rw [Nat.min_comm]; exact (List.take_eq_take_min).symm)
theorem ev_slcTo {σ : En} {a b : IE} {xs : List PyData} {m m' : Msk} {k : Nat} (ha : Rd σ a (.list xs) m) (hb : Rd σ b (.int (k : Nat)) m') : ev (.slc a .no (.yes b)) σ = some (.new (.l (xs.take k)) m, σ) := by
  obtain ⟨x, e1, g1⟩ := ha
  obtain ⟨y, e2, g2⟩ := hb
  unfold ev
  have p0 : evP .no σ = some (none, σ) := by unfold evP; rfl
  have p1 : evP (.yes b) σ = some (some ((k : Nat) : Int), σ) := by
    unfold evP
    simp only [e2, g2, Option.bind_some]
  simp only [e1, p0, p1, g1, Option.bind_some, slcS, Option.map_some, cut_take]
theorem ev_firsts {σ : En} {F : List (List Int)} (hl : σ.length = 12) (h3 : Dv.peek σ 3 = some (.list (F.map D1), mC)) (hF : F.length ≤ 1000) :
    ev (.lc (.blt .list (.cons (.var 5) .nil)) (.tup [11, 5]) (.enu (.var 3)) (.yes (.cmp .NotIn (.var 5) (.slc (.var 3) .no (.yes (.var 11))))) mC) σ = some (.new (.l ((firstsFrom [] F).map D1)) mC, σ) := by
  have e : evI (.enu (.var 3)) σ = some ((pairsFrom 0 F).map fun q => PyData.tuple [.int (q.1 : Nat), D1 q.2], mC, Opd.locks σ (.pk 3), σ) := by
    unfold evI
    simp only [mkOpd, h3, Option.isSome_some, if_true, Option.bind_some, Opd.get]
    rw [show enuS 0 (F.map D1) = _ from enu_pairs F 0]
  have := ev_lc (fun q : Nat × List Int => PyData.tuple [.int (q.1 : Nat), D1 q.2]) (elt := .blt .list (.cons (.var 5) .nil)) (tg := .tup [11, 5]) (cnd := .yes (.cmp .NotIn (.var 5) (.slc (.var 3) .no (.yes (.var 11))))) (m := mC) (p := fun q => !decide (q.2 ∈ F.take q.1)) (g := fun q => D1 q.2) e locks_own (fun n hn => by
    have hn : n ∈ (if isOwn σ 3 = true then [3] else []) := hn
    split at hn
    · rw [List.mem_singleton] at hn; subst hn; decide
    · cases hn) (fun q hq τ hτ ho => by
    have g11 : ((τ.set 11 (.val (.int (q.1 : Nat)) m0)).set 5 (.val (D1 q.2) mC))[11]? = some (.val (.int (q.1 : Nat)) m0) := by
      rw [List.getElem?_set_ne (by decide), List.getElem?_set_self (by omega)]
    have g5 : ((τ.set 11 (.val (.int (q.1 : Nat)) m0)).set 5 (.val (D1 q.2) mC))[5]? = some (.val (D1 q.2) mC) := List.getElem?_set_self (by rw [List.length_set]; omega)
    have q3 : Dv.peek ((τ.set 11 (.val (.int (q.1 : Nat)) m0)).set 5 (.val (D1 q.2) mC)) 3 = some (.list (F.map D1), mC) := by
      rw [bind_peek (by decide), bind_peek (by decide), ho 3 (by decide)]; exact h3
    refine ⟨_, rfl, ?_, fun _ => ⟨.new (.l (q.2.map .int)) mC, ev_blt (.cons (rd_var (pk g5)) .nil) rfl, rfl, rfl⟩⟩
    have c1 : ev (.slc (.var 3) .no (.yes (.var 11))) ((τ.set 11 (.val (.int (q.1 : Nat)) m0)).set 5 (.val (D1 q.2) mC)) = some (.new (.l ((F.take q.1).map D1)) mC, (τ.set 11 (.val (.int (q.1 : Nat)) m0)).set 5 (.val (D1 q.2) mC)) := by
      have := ev_slcTo (rd_var q3) (rd_var (pk g11))
      rw [← List.map_take] at this
      exact this
    refine evC_bool rfl (ev_cmp (rd_var (pk g5)) (rd_new rfl c1) ?_)
    show (if (dep DEP (D1 q.2) && dep DEP (.list ((F.take q.1).map D1))) = true then some (!((F.take q.1).map D1).any fun z => PyData.eqv z (D1 q.2)) else none) = _
    rw [dep_D1, dep_LL, in_lots]
    rfl) (Nat.le_trans (List.length_filter_le _ _) (by rw [pairs_len]; exact Nat.le_trans hF (by decide)))
  rw [this, ← pairs_first F [] F rfl, List.map_map]
  rfl
end Cw

open PySem PySem.Spec PySem.W PyProof.Rows L2 Dv
namespace Cw
/-- a call of two arguments, the first a list that it changes -/
theorem ev_callIo {f : FSig} {σ σ1 : En} {i : Nat} {e : IE} {x : Opd} {xs out : List PyData} {b : Bool} {d r : PyData} {md : Msk} (hp : (Dv.peek σ i).isSome = true) (hrk : f.rk = m0) (hio : f.io = some 0) (hps : f.ps.length = 2)
    (hx : mkOpd e (ev e σ) σ = some (x, σ1)) (hnp : noPk i [x] = true) (hs : σ1[i]? = some (.own (.l xs) m0 b)) (hg : x.get σ1 = some (d, md)) (hmd : md.g = false) (hsem : f.sem [.list xs, d] = some (.v r, out)) :
    ev (.call f (.cons (.var i) (.cons e .nil))) σ = some (.val r (nm r (resM f.tod m0 m0)), σ1.set i (.own (.l out) m0 b)) := by
  have e1 : evO (.cons (.var i) (.cons e .nil)) σ = some ([.pk i, x], σ1) := by
    unfold evO
    simp only [mkOpd, hp, if_true, Option.bind_some]
    unfold evO
    simp only [hx, Option.bind_some]
    unfold evO
    rfl
  have hpk : Dv.peek σ1 i = some (.list xs, m0) := by unfold Dv.peek; rw [hs]; rfl
  unfold ev
  rw [if_pos hrk, e1, hio]
  simp only [Option.bind_some, ioOf, IL.at, hs, if_true]
  unfold callB
  rw [hps, hio]
  have hga : getAll σ1 [.pk i, x] = some [(.list xs, m0), (d, md)] := by
    simp only [getAll, hg, Option.bind_some, Option.map_some, show Opd.get σ1 (.pk i) = some (.list xs, m0) from hpk]
  have hap : ioApart (some 0) (some (i, xs)) [.pk i, x] = true := hnp
  rw [hga, hap]
  simp only [List.length_cons, List.length_nil, decide_true, Bool.and_self, if_true, Option.bind_some, List.any_cons, List.any_nil, hmd, Bool.or_self, Bool.false_and, Bool.or_false, Bool.false_eq_true, if_false, List.map_cons, List.map_nil, hsem, Option.map_some, outRs, putIo, hs]
/-- a drawn number -/
theorem rnd_ev {σ σ1 : En} {i : Nat} {e : IE} {x : Opd} {a b c n : Int} {io : Bool} {md : Msk} (hp : (Dv.peek σ i).isSome = true) (hx : mkOpd e (ev e σ) σ = some (x, σ1)) (hnp : noPk i [x] = true) (hs : σ1[i]? = some (gS a b c io)) (hg : x.get σ1 = some (.int n, md)) (hmd : md.g = false)
    (hb : 0 ≤ b ∧ b < 2147483647) (hc : 0 ≤ c ∧ c < 999999999) (hn : 0 < n ∧ n ≤ 256) :
    ∃ r a' c', ev (.call f_law_random (.cons (.var i) (.cons e .nil))) σ = some (.val (.int r) m0, σ1.set i (gS a' b c' io)) ∧ (0 ≤ r ∧ r < n) ∧ c ≤ c' ∧ c' ≤ c + 1 := by
  obtain ⟨r, a', c', h1, h2, h3, h4⟩ := random_ev (a := a) hb hc hn
  exact ⟨r, a', c', ev_callIo (f := f_law_random) hp rfl rfl rfl hx hnp hs hg hmd h1, h2, h3, h4⟩
theorem rnd_lit {σ : En} {i : Nat} {a b c n : Int} {io : Bool} (hs : σ[i]? = some (gS a b c io)) 
    (hb : 0 ≤ b ∧ b < 2147483647) (hc : 0 ≤ c ∧ c < 999999999) (hn : 0 < n ∧ n ≤ 256) :
    ∃ r a' c', ev (.call f_law_random (.cons (.var i) (.cons (.lit (.int n)) .nil))) σ = some (.val (.int r) m0, σ.set i (gS a' b c' io)) ∧ (0 ≤ r ∧ r < n) ∧ c ≤ c' ∧ c' ≤ c + 1 :=
  rnd_ev (x := .rs (.val (.int n) m0)) (md := m0) (by unfold Dv.peek; rw [hs]; rfl) (by simp only [mkOpd]; unfold ev; rfl) rfl hs rfl rfl hb hc hn
/-- the lots that are told -/
abbrev lotI : IE := .blt .list (.cons (.idx (.var 2) (.call f_law_random (.cons (.var 0) (.cons (.blt .len (.cons (.var 2) .nil)) .nil)))) .nil)
theorem lot_one {m : Nat} (hm : m ≤ 8) {a b c : Int} {io : Bool} {t1 t3 t4 : Sl} {rest : En} (hb : 0 ≤ b ∧ b < 2147483647) (hc : 0 ≤ c ∧ c < 999999999) :
    ∃ l a' c', l ∈ lotsOf m ∧ (c ≤ c' ∧ c' ≤ c + 1) ∧ ev lotI (gS a b c io :: t1 :: .own (.l ((lotsOf m).map D1)) mC false :: t3 :: t4 :: rest) =
      some (.new (.l (l.map .int)) mC, gS a' b c' io :: t1 :: .own (.l ((lotsOf m).map D1)) mC false :: t3 :: t4 :: rest) := by
  let σ : En := gS a b c io :: t1 :: .own (.l ((lotsOf m).map D1)) mC false :: t3 :: t4 :: rest
  have p2 : Dv.peek σ 2 = some (.list ((lotsOf m).map D1), mC) := rfl
  have hlen : 0 < (lotsOf m).length ∧ (lotsOf m).length ≤ 256 := by
    have h2 := List.all_eq_true.mp len8 m (List.mem_range.mpr (by omega))
    obtain ⟨l, hl, _⟩ := (fam m hm).full fun _ => true
    exact ⟨List.length_pos_of_mem hl, of_decide_eq_true h2⟩
  have e1 : ev (.blt .len (.cons (.var 2) .nil)) σ = some (.val (.int ((lotsOf m).length : Nat)) m0, σ) := by
    refine ev_blt (.cons (rd_var p2) .nil) ?_
    show some (Rs.val (.int (((lotsOf m).map D1).length : Nat)) m0) = _
    rw [List.length_map]
  obtain ⟨r, a', c', h1, h2, h3, h4⟩ := rnd_ev (σ := σ) (σ1 := σ) (i := 0) (e := .blt .len (.cons (.var 2) .nil)) (x := .rs (.val (.int ((lotsOf m).length : Nat)) m0)) (md := m0) rfl (by simp only [mkOpd, e1, Option.map_some]) rfl (a := a) (b := b) (c := c) (io := io) rfl rfl rfl hb hc (n := ((lotsOf m).length : Nat)) (by omega)
  let τ : En := gS a' b c' io :: t1 :: .own (.l ((lotsOf m).map D1)) mC false :: t3 :: t4 :: rest
  have h1 : ev (.call f_law_random (.cons (.var 0) (.cons (.blt .len (.cons (.var 2) .nil)) .nil))) σ = some (.val (.int r) m0, τ) := h1
  have q2 : Dv.peek τ 2 = some (.list ((lotsOf m).map D1), mC) := rfl
  have hr : r.toNat < (lotsOf m).length := by omega
  have e2 : ev (.idx (.var 2) (.call f_law_random (.cons (.var 0) (.cons (.blt .len (.cons (.var 2) .nil)) .nil)))) σ = some (.val (D1 (lotsOf m)[r.toNat]) mC, τ) := by
    unfold ev
    simp only [mkOpd, p2, Option.isSome_some, if_true, Option.bind_some, h1, Option.map_some, Opd.get, q2, idxS]
    have ha : atI ((lotsOf m).map D1) r = some (D1 (lotsOf m)[r.toNat]) := by
      have := atI_nat (xs := (lotsOf m).map D1) (j := r.toNat) (v := D1 (lotsOf m)[r.toNat]) (by simp [List.getElem?_map, List.getElem?_eq_getElem hr])
      rwa [show ((r.toNat : Nat) : Int) = r from by omega] at this
    rw [ha]
    rfl
  refine ⟨(lotsOf m)[r.toNat], a', c', List.getElem_mem hr, ⟨h3, h4⟩, ?_⟩
  show ev lotI σ = some (_, τ)
  unfold lotI
  unfold ev
  have e3 : evO (.cons (.idx (.var 2) (.call f_law_random (.cons (.var 0) (.cons (.blt .len (.cons (.var 2) .nil)) .nil)))) .nil) σ = some ([.rs (.val (D1 (lotsOf m)[r.toNat]) mC)], τ) := by
    unfold evO
    simp only [mkOpd, e2, Option.map_some, Option.bind_some]
    unfold evO
    rfl
  simp only [e3, Option.bind_some]
  rfl
theorem lots_go {m : Nat} (hm : m ≤ 8) {b : Int} {io : Bool} {t1 t3 : Sl} {rest : En} (hb : 0 ≤ b ∧ b < 2147483647) : ∀ (xs : List PyData) (a c : Int) (t4 : Sl), 0 ≤ c → c + xs.length < 999999999 →
    ∃ (F : List (List Int)) (a' c' : Int) (t4' : Sl), F.length = xs.length ∧ (∀ l ∈ F, l ∈ lotsOf m) ∧ (c ≤ c' ∧ c' ≤ c + xs.length) ∧
      lcGo (fun x s => bindT (.nm 4) x m0 s) (fun s => evC .no s) (fun s => ev lotI s) mC xs (gS a b c io :: t1 :: .own (.l ((lotsOf m).map D1)) mC false :: t3 :: t4 :: rest) =
        some (F.map D1, gS a' b c' io :: t1 :: .own (.l ((lotsOf m).map D1)) mC false :: t3 :: t4' :: rest)
  | [], a, c, t4, h0, h1 => ⟨[], a, c, t4, rfl, (by simp), (by simp), rfl⟩
  | x :: xs, a, c, t4, h0, h1 => by
    rw [List.length_cons] at h1
    obtain ⟨l, a1, c1, hl, hc, e⟩ := lot_one hm (a := a) (b := b) (c := c) (io := io) (t1 := t1) (t3 := t3) (t4 := .val x (nm x m0)) (rest := rest) hb (by omega)
    obtain ⟨F, a2, c2, t4', h2, h3, h4, e2⟩ := lots_go hm (io := io) (t1 := t1) (t3 := t3) (rest := rest) hb xs a1 c1 (.val x (nm x m0)) (by omega) (by omega)
    refine ⟨l :: F, a2, c2, t4', by simp [h2], ?_, by rw [List.length_cons]; omega, ?_⟩
    · intro k hk
      rcases List.mem_cons.mp hk with rfl | hk
      · exact hl
      · exact h3 k hk
    · have e2 := e2
      simp only [evC_no] at e2
      unfold lcGo
      show ((some (gS a b c io :: t1 :: Sl.own (.l ((lotsOf m).map D1)) mC false :: t3 :: Sl.val x (nm x m0) :: rest)).bind _) = _
      simp only [Option.bind_some, evC_no, if_true, e]
      show (if (mC.le mC) = true then _ else _) = _
      rw [if_pos (by decide), e2]
      rfl
end Cw

open PySem PySem.Spec PySem.W PyProof.Rows L2 Dv
namespace Cw
theorem shw_lots {m : Nat} (h : m ≤ 8) {L : List (List Int)} (hL : ∀ l ∈ L, l ∈ lotsOf m) : shwOk 8 (.list (L.map D1)) = true := by
  rw [shwOk, shwOkAll_iff]
  intro d hd
  obtain ⟨l, hl, rfl⟩ := List.mem_map.mp hd
  unfold D1
  rw [shwOk, shwOkAll_iff]
  intro x hx
  obtain ⟨i, hi, rfl⟩ := List.mem_map.mp hx
  have := (lot_of h (hL l hl)).1.1 i hi
  rw [shwOk, decide_eq_true_eq]
  have q : ∀ i : Fin 9, (((i.val : Nat) : Int)).natAbs.log2 < 8 := by decide +kernel
  have q := q ⟨i.toNat, by omega⟩
  rw [show ((i.toNat : Nat) : Int) = i from by omega] at q
  exact q
theorem ev_reprL {σ : En} {i m : Nat} {L : List (List Int)} {mm : Msk} (h : m ≤ 8) (hL : ∀ l ∈ L, l ∈ lotsOf m) (hl : L.length ≤ 1000) (hp : Dv.peek σ i = some (.list (L.map D1), mm)) : ev (.blt .repr (.cons (.var i) .nil)) σ = some (.val (.str (PyData.shown (.list (L.map D1)))) m0, σ) :=
  ev_blt (.cons (rd_var hp) .nil) (repr_lots h hL hl mm)
/-- the tail of _law_right -/
def rightT3 : ISL :=
  (.cons (.asg 10 (.blt .sorted (.cons (.call f_law_least (.cons (.lc (.blt .list (.cons (.var 5) .nil)) (.tup [11, 5]) (.enu (.var 3)) (.yes (.cmp .NotIn (.var 5) (.slc (.var 3) .no (.yes (.var 11))))) ⟨false, true, false⟩) .nil)) .nil)))
  (.cons (.ret (.yes (.cmp .Eq (.blt .repr (.cons (.call f_crossing (.cons (.var 1) (.cons (.var 7) .nil))) .nil)) (.blt .repr (.cons (.var 10) .nil)))))
  .nil))
def rightT2 : ISL :=
  (.cons (.ifs (.cmp .NotEq (.blt .repr (.cons (.callk f_crossing .nil [1, 0] (.cons (.var 3) (.cons (.var 1) .nil))) .nil)) (.blt .repr (.cons (.var 7) .nil)))
    (.cons (.ret (.yes (.lit (.bool false))))
      .nil)
    .nil) rightT3)
def rightT1 : ISL :=
  (.cons (.par 6 7 (.blt .repr (.cons (.var 3) .nil)) (.call f_law_due (.cons (.var 1) (.cons (.var 3) .nil))))
  (.cons (.asg 8 (.call { f_crossing with tod := true } (.cons (.var 1) (.cons (.var 3) .nil))))
  (.cons (.ifs (.or (.cmp .NotEq (.blt .repr (.cons (.var 8) .nil)) (.blt .repr (.cons (.var 7) .nil))) (.one (.cmp .NotEq (.blt .repr (.cons (.var 3) .nil)) (.var 6))))
    (.cons (.ret (.yes (.lit (.bool false))))
      .nil)
    .nil)
  (.hv 8 9 rightT2))))
section
variable {m : Nat} {F R S : List (List Int)}
/-- what is known of lots told -/
structure Told (m : Nat) (F R S : List (List Int)) : Prop where
  le : m ≤ 8
  F1 : ∀ l ∈ F, l ∈ lotsOf m
  F2 : F.length ≤ 5
  R1 : ∀ l ∈ R, l ∈ lotsOf m
  R2 : R.length ≤ 256
  S1 : ∀ l ∈ S, l ∈ lotsOf m
  S2 : S.length ≤ 256
  due : f_law_due.sem [.int (m : Nat), .list (F.map D1)] = some (.n (.l (R.map D1)), [])
  cro : f_crossing.sem [.int (m : Nat), .list (F.map D1)] = some (.n (.l (R.map D1)), [])
  cr2 : f_crossing.sem [.int (m : Nat), .list (R.map D1)] = some (.n (.l (S.map D1)), [])
  lst : f_law_least.sem [.list ((firstsFrom [] F).map D1)] = some (.n (.l ((leastBy ltB (firstsFrom [] F)).map D1)), [])
  srt : sortD ((leastBy ltB (firstsFrom [] F)).map D1) = S.map D1
  len : (leastBy ltB (firstsFrom [] F)).length ≤ 1000
theorem sub_len {m : Nat} (h : m ≤ 8) {L : List (List Int)} (hs : L.Sublist (lotsOf m)) : L.length ≤ 256 := by
  have h2 := List.all_eq_true.mp len8 m (List.mem_range.mpr (by omega))
  exact Nat.le_trans hs.length_le (of_decide_eq_true h2)
theorem small_of {m : Nat} (h : m ≤ 8) {L : List (List Int)} (hl : L.length ≤ 256) (hs : ∀ l ∈ L, l ∈ lotsOf m) : small L := by
  refine ⟨Nat.le_trans hl (by decide), fun l hl => ?_⟩
  exact Nat.le_trans (lot_of h (hs l hl)).2 (by decide)
theorem told_of (h : m ≤ 8) (F1 : ∀ l ∈ F, l ∈ lotsOf m) (F2 : F.length ≤ 5) : ∃ R S, Told m F R S := by
  have f := fam m h
  have cs : ∀ G : List (List Int), (leastBy ltA (cross (lotsOf m) G)).Sublist (lotsOf m) := fun G => List.filter_sublist.trans List.filter_sublist
  have cm : ∀ G : List (List Int), ∀ l ∈ cross (lotsOf m) G, l ∈ lotsOf m := fun G l hl => (cross_mem.mp hl).1
  have csm : ∀ G : List (List Int), small (cross (lotsOf m) G) := fun G => small_of h (sub_len h List.filter_sublist) (cm G)
  have hAL : (lotsOf m).length < LIM := Nat.lt_of_le_of_lt (sub_len h (List.Sublist.refl _)) (by decide)
  have lin : ∀ G : List (List Int), G.length ≤ 256 → (∀ l ∈ G, l ∈ lotsOf m) → lotsIn (m : Nat) G := fun G g1 g2 => ⟨small_of h g1 g2, fun l hl => ⟨(lot_of h (g2 l hl)).1, Nat.le_trans (lot_of h (g2 l hl)).2 (by decide)⟩⟩
  have cro : ∀ G : List (List Int), G.length ≤ 256 → (∀ l ∈ G, l ∈ lotsOf m) → f_crossing.sem [.int (m : Nat), .list (G.map D1)] = some (.n (.l ((leastBy ltA (cross (lotsOf m) G)).map D1)), []) := fun G g1 g2 =>
    crossing_ev (by omega) (by omega) (lin G g1 g2) (crossing_of_ev (al m h) (lin G g1 g2).1 hAL (csm G))
  have fm : ∀ x, x ∈ firstsFrom [] F ↔ x ∈ F := fun x => by rw [firsts_mem]; simp
  have fl : (firstsFrom [] F).length ≤ 5 := by
    rw [← pairs_first F [] F rfl, List.length_map]
    exact Nat.le_trans (List.length_filter_le _ _) (by rw [pairs_len]; exact F2)
  have fL : (leastBy ltB (firstsFrom [] F)).length ≤ 5 := Nat.le_trans (List.length_filter_le _ _) fl
  refine ⟨leastBy ltA (cross (lotsOf m) F), leastBy ltA (cross (lotsOf m) (leastBy ltA (cross (lotsOf m) F))), h, F1, F2, fun l hl => (cs F).subset hl, sub_len h (cs F), fun l hl => (cs _).subset hl, sub_len h (cs _), ?_, cro F (by omega) F1, cro _ (sub_len h (cs F)) fun l hl => (cs F).subset hl,
    law_least_ev (small_of h (by omega) fun l hl => F1 l ((fm l).mp hl)), law_pure h F1, by omega⟩
  rw [least_same f (cm F)]
  exact law_due_ev (ll m h) (lin F (by omega) F1).1 hAL (csm F)
abbrev stI (g : Sl) (m : Nat) (s2 s3 : Sl) (rest : En) : En := g :: .val (.int (m : Nat)) m0 :: s2 :: s3 :: rest
theorem ev_blt1 {σ σ1 : En} {bl : Bl} {e : IE} {d : PyData} {mm : Msk} {r r2 : Rs} (hv : isVar e = false) (h : ev e σ = some (r, σ1)) (hg : Opd.get σ1 (.rs r) = some (d, mm)) (hb : bltS bl [(d, mm)] = some r2) : ev (.blt bl (.cons e .nil)) σ = some (r2, σ1) := by
  have hx : mkOpd e (ev e σ) σ = some (.rs r, σ1) := by
    cases e <;> first | (cases hv; done) | (simp only [mkOpd, h, Option.map_some])
  have e1 : evO (.cons e .nil) σ = some ([.rs r], σ1) := by
    unfold evO
    simp only [hx, Option.bind_some]
    unfold evO
    rfl
  unfold ev
  simp only [e1, Option.bind_some, getAll, hg, Option.map_some, hb]
theorem ev_cmp1 {σ σ1 : En} {o : CmpOp} {a b : IE} {d d' : PyData} {mm mm' : Msk} {r : Bool} (hv : isVar a = false) (h : ev a σ = some (.val d mm, σ1)) (hb : Rd σ1 b d' mm') (hc : cmpS o d d' = some r) : ev (.cmp o a b) σ = some (.val (.bool r) m0, σ1) := by
  have hx : mkOpd a (ev a σ) σ = some (.rs (.val d mm), σ1) := by
    cases a <;> first | (cases hv; done) | (simp only [mkOpd, h, Option.map_some])
  obtain ⟨y, e2, g2⟩ := hb
  unfold ev
  simp only [hx, Option.bind_some, e2, Opd.get, hc, Option.map_some]
  have g2' : Opd.get σ1 y = some (d', mm') := g2
  unfold Opd.get at g2'
  rw [g2']
  simp only [Option.bind_some, hc, Option.map_some]
theorem tail3 (T : Told m F R S) {g s2 : Sl} {str : PyData} {t4 t5 : Sl} : ∃ x, evSL rightT3 [g, .val (.int (m : Nat)) m0, s2, .val (.list (F.map D1)) mC, t4, t5, .val str m0, .own (.l (R.map D1)) mC false, .emp, .emp, .emp, .emp] = some (.rt (.val (.bool true) m0) (g :: x)) := by
  let σ : En := [g, .val (.int (m : Nat)) m0, s2, .val (.list (F.map D1)) mC, t4, t5, .val str m0, .own (.l (R.map D1)) mC false, .emp, .emp, .emp, .emp]
  have c1 := ev_firsts (σ := σ) (F := F) rfl rfl (Nat.le_trans T.F2 (by decide))
  have c2 := ev_callK (τ := σ) (f := f_law_least) (.cons (kp_of c1) .nil) (by decide) rfl rfl rfl T.lst
  have c3 := ev_blt (bl := .sorted) (.cons (rd_new rfl c2) .nil) (sorted_lots (Nat.le_trans T.len (by decide)))
  have s1 : evS (.asg 10 _) σ = _ := asg_nx c3
  rw [T.srt] at s1
  let τ : En := [g, .val (.int (m : Nat)) m0, s2, .val (.list (F.map D1)) mC, t4, t5, .val str m0, .own (.l (R.map D1)) mC false, .emp, .emp, .own (.l (S.map D1)) mC false, .emp]
  let τ' : En := [g, .val (.int (m : Nat)) m0, s2, .val (.list (F.map D1)) mC, t4, t5, .val str m0, .val (.list (R.map D1)) mC, .emp, .emp, .own (.l (S.map D1)) mC false, .emp]
  have d1 : ev (.call f_crossing (.cons (.var 1) (.cons (.var 7) .nil))) τ = some (.new (.l (S.map D1)) mC, τ') := by
    unfold ev
    have e1 : ev (.var 1) τ = some (.val (.int (m : Nat)) m0, τ) := by unfold ev; rfl
    have e7 : ev (.var 7) τ = some (.val (.list (R.map D1)) mC, τ') := by unfold ev; rfl
    have k : evK none (.cons (.var 1) (.cons (.var 7) .nil)) τ = some ([.int (m : Nat), .list (R.map D1)], mC, τ') := by
      simp only [evK, e1, e7, Option.bind_some, Option.map_some]
      rfl
    rw [if_neg (by decide), show f_crossing.io = none from rfl, k]
    simp only [Option.bind_some, ioOf]
    unfold callK
    show (f_crossing.sem [.int (m : Nat), .list (R.map D1)]).map _ = _
    rw [T.cr2]
    rfl
  have d2 := ev_blt1 (bl := .repr) (σ1 := τ') rfl d1 rfl (repr_lots T.le T.S1 (Nat.le_trans T.S2 (by decide)) _)
  have d3 := ev_reprL (σ := τ') (i := 10) T.le T.S1 (Nat.le_trans T.S2 (by decide)) rfl
  have d4 := ev_cmp1 rfl d2 (rd_val rfl d3) (str_eq (shw_lots T.le T.S1))
  have s2 := sl_ret (ss := .nil) rfl d4
  exact ⟨_, sl_nx s1 s2⟩
theorem tail2 (T : Told m F R S) {g s2 : Sl} {str : PyData} {t4 t5 : Sl} : ∃ x, evSL rightT2 [g, .val (.int (m : Nat)) m0, s2, .val (.list (F.map D1)) mC, t4, t5, .val str m0, .own (.l (R.map D1)) mC false, .emp, .emp, .emp, .emp] = some (.rt (.val (.bool true) m0) (g :: x)) := by
  let σ : En := [g, .val (.int (m : Nat)) m0, s2, .val (.list (F.map D1)) mC, t4, t5, .val str m0, .own (.l (R.map D1)) mC false, .emp, .emp, .emp, .emp]
  have c1 : ev (.callk f_crossing .nil [1, 0] (.cons (.var 3) (.cons (.var 1) .nil))) σ = some (.new (.l (R.map D1)) mC, σ) := by
    have k := (KpL.cons (kp_var (τ := σ) (i := 3) rfl) (.cons (kp_var (i := 1) rfl) .nil)).ev.1
    unfold ev
    rw [if_pos (by rfl)]
    have e0 : evL .nil σ = some ([], m0, σ) := by unfold evL; rfl
    simp only [e0, Option.bind_some, k]
    have hk : (decide ([PyData.list (F.map D1), PyData.int (m : Nat)].length = [1, 0].length) && Dv.kwOk f_crossing.ps.length ([] : List PyData).length [1, 0]) = true := by
      show (true && Dv.kwOk 2 0 [1, 0]) = true
      decide
    have hf : fullL PyData.none f_crossing.ps.length [] [1, 0] [PyData.list (F.map D1), PyData.int (m : Nat)] = [.int (m : Nat), .list (F.map D1)] := rfl
    rw [if_pos hk, hf]
    unfold callK
    show (f_crossing.sem [.int (m : Nat), .list (F.map D1)]).map _ = _
    rw [T.cro]
    rfl
  have c2 := ev_blt (bl := .repr) (.cons (rd_new rfl c1) .nil) (repr_lots T.le T.R1 (Nat.le_trans T.R2 (by decide)) _)
  have c3 := ev_reprL (σ := σ) (i := 7) T.le T.R1 (Nat.le_trans T.R2 (by decide)) rfl
  have c4 := ev_cmp (rd_val rfl c2) (rd_val rfl c3) (str_ne (shw_lots T.le T.R1))
  have s1 := ifs_no (a := .cons (.ret (.yes (.lit (.bool false)))) .nil) rfl c4
  obtain ⟨x, e⟩ := tail3 T (g := g) (s2 := s2) (str := str) (t4 := t4) (t5 := t5)
  exact ⟨x, sl_nx s1 e⟩
end
end Cw

open PySem PySem.Spec PySem.W PyProof.Rows L2 Dv
namespace Cw
theorem callK_ok {f : FSig} {ds out : List PyData} {mm : Msk} {σ : En} {rt : Rt} (hio : f.io = none) (hl : ds.length = f.ps.length) (hg : (!mm.g || f.gi) = true) (hs : f.sem ds = some (rt, out)) : callK f none ds mm σ = some (outRs f.tod f.rk mm rt, σ) := by
  unfold callK
  rw [hl, hg, hio]
  simp only [decide_true, Bool.and_self, if_true, setIo, hs, Option.map_some, putIo]
theorem ev_callKs {f : FSig} {es : IL} {ds out : List PyData} {mm : Msk} {σ σ' : En} {rt : Rt} (hk : evK none es σ = some (ds, mm, σ')) (hrk : f.rk ≠ m0) (hio : f.io = none) (hl : ds.length = f.ps.length) (hg : (!mm.g || f.gi) = true) (hs : f.sem ds = some (rt, out)) :
    ev (.call f es) σ = some (outRs f.tod f.rk mm rt, σ') := by
  unfold ev
  rw [if_neg hrk, hio, hk]
  simp only [Option.bind_some, ioOf]
  exact callK_ok hio hl hg hs
theorem par_nx {σ σ1 σ2 : En} {i j : Nat} {a b : IE} {r q : Rs} (c1 : ev a σ = some (r, σ1)) (c2 : ev b σ1 = some (q, σ2)) : evS (.par i j a b) σ = some (.nx ((σ2.set i r.slot).set j q.slot)) := by
  simp only [evS, c1, c2, Option.bind_some, Option.map_some]
section
variable {m : Nat} {F R S : List (List Int)}
theorem hvOk_lots (h : m ≤ 8) (hR : ∀ l ∈ R, l ∈ lotsOf m) (hl : R.length ≤ 256) : hvOk (R.map D1) = true := by
  unfold hvOk
  rw [List.length_map, decide_eq_true (show R.length < 16777216 by omega), Bool.true_and, List.all_eq_true]
  intro d hd
  obtain ⟨l, hlR, rfl⟩ := List.mem_map.mp hd
  have := (lot_of h (hR l hlR)).2
  show decide ((l.map PyData.int).length + R.length < 16777216) = true
  rw [List.length_map, decide_eq_true_eq]
  omega
theorem tail1 (T : Told m F R S) {g sl2 : Sl} (hg : g.kill = g) (hs2 : sl2.kill = sl2) : ∃ x, evSL rightT1 [g, .val (.int (m : Nat)) A0, sl2, .own (.l (F.map D1)) mC false, .emp, .emp, .emp, .emp, .emp, .emp, .emp, .emp] = some (.rt (.val (.bool true) m0) (g :: x)) := by
  let σ : En := [g, .val (.int (m : Nat)) A0, sl2, .own (.l (F.map D1)) mC false, .emp, .emp, .emp, .emp, .emp, .emp, .emp, .emp]
  let σ' : En := [g, .val (.int (m : Nat)) A0, sl2, .val (.list (F.map D1)) mC, .emp, .emp, .emp, .emp, .emp, .emp, .emp, .emp]
  have c1 := ev_reprL (σ := σ) (i := 3) T.le T.F1 (Nat.le_trans T.F2 (by decide)) rfl
  have e1 : ev (.var 1) σ = some (.val (.int (m : Nat)) m0, σ) := by unfold ev; rfl
  have e3 : ev (.var 3) σ = some (.val (.list (F.map D1)) mC, σ') := by unfold ev; rfl
  have k : evK none (.cons (.var 1) (.cons (.var 3) .nil)) σ = some ([.int (m : Nat), .list (F.map D1)], mC, σ') := by
    simp only [evK, e1, e3, Option.bind_some, Option.map_some]
    rfl
  have c2 := ev_callKs (f := f_law_due) k (by decide) rfl rfl rfl T.due
  let τ : En := [g, .val (.int (m : Nat)) A0, sl2, .val (.list (F.map D1)) mC, .emp, .emp, .val (.str (PyData.shown (.list (F.map D1)))) m0, .own (.l (R.map D1)) mC false, .emp, .emp, .emp, .emp]
  have s1 : evS (.par 6 7 (.blt .repr (.cons (.var 3) .nil)) (.call f_law_due (.cons (.var 1) (.cons (.var 3) .nil)))) σ = _ := par_nx c1 c2
  have d1 := ev_callK (τ := τ) (f := { f_crossing with tod := true }) (es := .cons (.var 1) (.cons (.var 3) .nil)) (.cons (kp_var (i := 1) rfl) (.cons (kp_var (i := 3) rfl) .nil)) (by decide) rfl rfl rfl T.cro
  have s2 : evS (.asg 8 _) τ = _ := asg_nx d1
  let υ : En := [g, .val (.int (m : Nat)) A0, sl2, .val (.list (F.map D1)) mC, .emp, .emp, .val (.str (PyData.shown (.list (F.map D1)))) m0, .own (.l (R.map D1)) mC false, .own (.l (R.map D1)) mD false, .emp, .emp, .emp]
  have r8 := ev_reprL (σ := υ) (i := 8) T.le T.R1 (Nat.le_trans T.R2 (by decide)) rfl
  have r7 := ev_reprL (σ := υ) (i := 7) T.le T.R1 (Nat.le_trans T.R2 (by decide)) rfl
  have r3 := ev_reprL (σ := υ) (i := 3) T.le T.F1 (Nat.le_trans T.F2 (by decide)) rfl
  have q1 := ev_cmp (rd_val rfl r8) (rd_val rfl r7) (str_ne (shw_lots T.le T.R1))
  have q2 := ev_cmp (o := .NotEq) (rd_val rfl r3) (rd_var (τ := υ) (i := 6) rfl) (str_ne (shw_lots T.le T.F1))
  have q3 := ev_or q1 fun _ => ev_one q2
  have s3 := ifs_no (a := .cons (.ret (.yes (.lit (.bool false)))) .nil) rfl q3
  obtain ⟨x, hx⟩ := tail2 T (g := g) (s2 := sl2) (str := .str (PyData.shown (.list (F.map D1)))) (t4 := .emp) (t5 := .emp)
  refine ⟨x, sl_nx s1 (sl_nx s2 (sl_nx s3 ?_))⟩
  have h8 : υ[8]? = some (.own (.l (R.map D1)) mD false) := rfl
  have cond : ((!mD.c && !mD.g) && (hvOk (R.map D1) && (decide (9 < υ.length) && (9 != 8)))) = true := by
    rw [hvOk_lots T.le T.R1 T.R2]
    rfl
  have go : evSL (.hv 8 9 rightT2) υ = evSL rightT2 (((killD υ).set 9 .emp).set 8 .emp) := by
    rw [evSL, h8]
    exact if_pos cond
  refine go.trans ?_
  have e : ((killD υ).set 9 .emp).set 8 .emp = [g, .val (.int (m : Nat)) m0, sl2, .val (.list (F.map D1)) mC, .emp, .emp, .val (.str (PyData.shown (.list (F.map D1)))) m0, .own (.l (R.map D1)) mC false, .emp, .emp, .emp, .emp] := by
    show [g.kill, _, sl2.kill, _, _, _, _, _, _, _, _, _] = _
    rw [hg, hs2]
    rfl
  rw [e]
  exact hx
end
end Cw

open PySem PySem.Spec PySem.W PyProof.Rows L2 Dv
namespace Cw
theorem okR_small {r : Int} (h0 : 0 ≤ r) (h : r < 1000) : okR r = true := by
  unfold okR
  rw [Bool.and_eq_true, decide_eq_true_eq, decide_eq_true_eq]
  omega
theorem told_ev {m : Nat} (hm : m ≤ 8) {a b c : Int} {io : Bool} {t1 t3 t4 : Sl} {rest : En} (hb : 0 ≤ b ∧ b < 2147483647) (hc : 0 ≤ c ∧ c < 999999000) :
    ∃ (F : List (List Int)) (a' c' : Int), F.length ≤ 5 ∧ (∀ l ∈ F, l ∈ lotsOf m) ∧ (c ≤ c' ∧ c' ≤ c + 6) ∧
      ev (.lc lotI (.nm 4) (.rng (.cons (.call f_law_random (.cons (.var 0) (.cons (.lit (.int 6)) .nil))) .nil)) .no mC) (gS a b c io :: t1 :: .own (.l ((lotsOf m).map D1)) mC false :: t3 :: t4 :: rest) =
        some (.new (.l (F.map D1)) mC, gS a' b c' io :: t1 :: .own (.l ((lotsOf m).map D1)) mC false :: t3 :: t4 :: rest) := by
  let σ : En := gS a b c io :: t1 :: .own (.l ((lotsOf m).map D1)) mC false :: t3 :: t4 :: rest
  obtain ⟨r, a1, c1, h1, h2, h3, h4⟩ := rnd_lit (σ := σ) (i := 0) (a := a) (b := b) (c := c) (n := 6) (io := io) rfl hb (by omega) (by omega)
  let τ : En := gS a1 b c1 io :: t1 :: .own (.l ((lotsOf m).map D1)) mC false :: t3 :: t4 :: rest
  have h1 : ev (.call f_law_random (.cons (.var 0) (.cons (.lit (.int 6)) .nil))) σ = some (.val (.int r) m0, τ) := h1
  have hlen : (rngFrom 0 1 r.toNat).length = r.toNat := by rw [rng_map, List.length_map, List.length_range]
  obtain ⟨F, a2, c2, t4', g1, g2, g3, g4⟩ := lots_go hm (io := io) (t1 := t1) (t3 := t3) (rest := rest) hb (rngFrom 0 1 r.toNat) a1 c1 .emp (by omega) (by rw [hlen]; omega)
  rw [hlen] at g1 g3
  refine ⟨F, a2, c2, by omega, g2, by omega, ?_⟩
  have hi : evI (.rng (.cons (.call f_law_random (.cons (.var 0) (.cons (.lit (.int 6)) .nil))) .nil)) σ = some (rngFrom 0 1 r.toNat, m0, [], τ) := by
    have e1 : evO (.cons (.call f_law_random (.cons (.var 0) (.cons (.lit (.int 6)) .nil))) .nil) σ = some ([.rs (.val (.int r) m0)], τ) := by
      unfold evO
      simp only [mkOpd, h1, Option.map_some, Option.bind_some]
      unfold evO
      rfl
    unfold evI
    simp only [e1, Option.bind_some, getAll, Opd.get, Option.map_some, List.map_cons, List.map_nil, rngS, okR_small h2.1 (by omega), if_true]
  show ev _ σ = _
  unfold ev
  simp only [hi, Option.bind_some]
  show (Option.bind (lcGo (fun x s => bindT (.nm 4) x m0 s) (fun s => evC .no s) (fun s => ev lotI s) mC (rngFrom 0 1 r.toNat) (gS a1 b c1 io :: t1 :: .own (.l ((lotsOf m).map D1)) mC false :: t3 :: .emp :: rest)) _) = _
  rw [g4]
  simp only [Option.bind_some, List.length_map]
  rw [if_pos (show F.length ≤ 16777216 by omega)]
  rfl
theorem run_rt2 {n : Nat} {io : Option Nat} {gi : Bool} {rk : Msk} {b : ISL} {args : List PyData} {σ0 σ' : En} {r : Rs} {z : Rt × List PyData} (hf : (hvL b && !flatArgs io 0 args) = false) (hσ : entry io gi 0 args ++ List.replicate (n - args.length) .emp = σ0) (h : evSL b σ0 = some (.rt r σ')) (hr : finR rk io r σ' = some z) :
    runF n io gi rk b args = some z := by
  unfold runF
  rw [hf, if_neg Bool.false_ne_true, hσ, h]
  exact hr
theorem right_ev {m : Nat} (hm : m ≤ 8) {a b c : Int} (hb : 0 ≤ b ∧ b < 2147483647) (hc : 0 ≤ c ∧ c < 999990000) :
    ∃ a' c', f_law_right.sem [.list [.int a, .int b, .int c], .int (m : Nat)] = some (.v (.bool true), [.int a', .int b, .int c']) ∧ c ≤ c' ∧ c' ≤ c + 10 := by
  let σ0 : En := [gS a b c true, .val (.int (m : Nat)) A0, .emp, .emp, .emp, .emp, .emp, .emp, .emp, .emp, .emp, .emp]
  have s1 : evS (.asg 2 (.call f_law_lots (.cons (.var 1) .nil))) σ0 = _ := asg_nx (ev_callK (τ := σ0) (f := f_law_lots) (.cons (kp_var (i := 1) rfl) .nil) (by decide) rfl rfl rfl (ll m hm))
  let E2 : Sl := .own (.l ((lotsOf m).map D1)) mC false
  let σ1 : En := [gS a b c true, .val (.int (m : Nat)) A0, E2, .emp, .emp, .emp, .emp, .emp, .emp, .emp, .emp, .emp]
  obtain ⟨F, a1, c1, f1, f2, f3, f4⟩ := told_ev hm (a := a) (b := b) (c := c) (io := true) (t1 := .val (.int (m : Nat)) A0) (t3 := .emp) (t4 := .emp) (rest := [.emp, .emp, .emp, .emp, .emp, .emp, .emp]) hb (by omega)
  have s2 : evS (.asg 3 _) σ1 = _ := asg_nx f4
  let σ2 : En := [gS a1 b c1 true, .val (.int (m : Nat)) A0, E2, .own (.l (F.map D1)) mC false, .emp, .emp, .emp, .emp, .emp, .emp, .emp, .emp]
  obtain ⟨r, a2, c2, h1, h2, h3, h4⟩ := rnd_lit (σ := σ2) (i := 0) (a := a1) (b := b) (c := c1) (n := 4) (io := true) rfl hb (by omega) (by omega)
  let σ3 : En := [gS a2 b c2 true, .val (.int (m : Nat)) A0, E2, .own (.l (F.map D1)) mC false, .emp, .emp, .emp, .emp, .emp, .emp, .emp, .emp]
  have h1 : ev (.call f_law_random (.cons (.var 0) (.cons (.lit (.int 4)) .nil))) σ2 = some (.val (.int r) m0, σ3) := h1
  have t := ev_cmp1 (o := .Gt) rfl h1 (rd_lit (d := .int 0)) (r := decide (0 < r)) rfl
  -- behind the choice
  have key : ∃ G : List (List Int), G.length ≤ 5 ∧ (∀ l ∈ G, l ∈ lotsOf m) ∧ evS (.ifs (.cmp .Gt (.call f_law_random (.cons (.var 0) (.cons (.lit (.int 4)) .nil))) (.lit (.int 0)))
      (.cons (.asg 3 (.lc (.var 5) (.nm 5) (.seq (.var 3)) (.yes (.cmp .NotEq (.var 5) (.lst .nil m0))) ⟨false, true, false⟩)) .nil) .nil) σ2 =
        some (.nx [gS a2 b c2 true, .val (.int (m : Nat)) A0, E2, .own (.l (G.map D1)) mC false, .emp, .emp, .emp, .emp, .emp, .emp, .emp, .emp]) := by
    have t1 : evT (.cmp .Gt (.call f_law_random (.cons (.var 0) (.cons (.lit (.int 4)) .nil))) (.lit (.int 0))) σ2 = some (decide (0 < r), σ3) := by
      unfold evT
      simp only [mkOpd, t, Option.map_some, Option.bind_some]
      rfl
    cases hr : decide (0 < r) with
    | false =>
      refine ⟨F, f1, f2, ?_⟩
      rw [hr] at t1
      simp only [evS, t1, Option.bind_some, Bool.false_eq_true, if_false]
      rfl
    | true =>
      rw [hr] at t1
      refine ⟨F.filter fun l => !l.isEmpty, Nat.le_trans (List.length_filter_le _ _) f1, fun l hl => f2 l (List.mem_filter.mp hl).1, ?_⟩
      have e := ev_seq D1 (σ := σ3) (i := 5) (j := 3) (L := F) (mi := mC) (m := mC) (cnd := .yes (.cmp .NotEq (.var 5) (.lst .nil m0))) (fun l => !l.isEmpty) (by decide) (by show 5 < 12; decide) rfl (fun _ => rfl) (Nat.le_trans f1 (by decide)) fun l hl τ _ _ hx => by
        refine evC_bool rfl (ev_cmp (rd_var hx) (rd_new rfl (ev_lst .nil rfl (by decide))) ?_)
        show (if (dep DEP (D1 l) && dep DEP (.list [])) = true then some (!PyData.eqv (D1 l) (.list [])) else none) = _
        rw [dep_D1]
        unfold D1
        rw [eqv_nil, map_empty]
        rfl
      simp only [evS, t1, Option.bind_some, if_true]
      have s := sl_nx (ss := .nil) (f := .nx _) (asg_nx (i := 3) e) (by simp only [evSL]; rfl)
      exact s
  obtain ⟨G, k1, k2, k3⟩ := key
  obtain ⟨R, S, T⟩ := told_of hm k2 k1
  obtain ⟨x, e⟩ := tail1 T (g := gS a2 b c2 true) (sl2 := E2) rfl rfl
  have fin : evSL b_law_right σ0 = some (.rt (.val (.bool true) m0) (gS a2 b c2 true :: x)) := sl_nx s1 (sl_nx s2 (sl_nx k3 e))
  refine ⟨a2, c2, ?_, by omega, by omega⟩
  have hsem : f_law_right.sem = fun ds => runF 12 (some 0) false m0 b_law_right ds := rfl
  rw [hsem]
  exact run_rt2 (σ0 := σ0) (by rw [show flatArgs (some 0) 0 [.list [.int a, .int b, .int c], .int (m : Nat)] = true from rfl, Bool.not_true, Bool.and_false]) rfl fin rfl
end Cw

open PySem PySem.Spec PySem.W PyProof.Rows L2 Dv
namespace Cw
theorem ev_not1 {σ σ1 : En} {a : IE} {d : PyData} {mm : Msk} {t : Bool} (hv : isVar a = false) (h : ev a σ = some (.val d mm, σ1)) (ht : truthS d = some t) : ev (.not a) σ = some (.val (.bool !t) m0, σ1) := by
  have hx : mkOpd a (ev a σ) σ = some (.rs (.val d mm), σ1) := by
    cases a <;> first | (cases hv; done) | (simp only [mkOpd, h, Option.map_some])
  unfold ev
  simp only [hx, Option.bind_some, Opd.get, ht, Option.map_some]
theorem evT1 {σ σ1 : En} {a : IE} {mm : Msk} {t : Bool} (hv : isVar a = false) (h : ev a σ = some (.val (.bool t) mm, σ1)) : evT a σ = some (t, σ1) := by
  have hx : mkOpd a (ev a σ) σ = some (.rs (.val (.bool t) mm), σ1) := by
    cases a <;> first | (cases hv; done) | (simp only [mkOpd, h, Option.map_some])
  unfold evT
  simp only [hx, Option.bind_some, Opd.get]
  rfl
theorem ifs_no1 {σ σ1 : En} {t : IE} {a : ISL} (h : evT t σ = some (false, σ1)) : evS (.ifs t a .nil) σ = some (.nx σ1) := by
  simp only [evS, h, Option.bind_some, Bool.false_eq_true, if_false, evSL]
theorem ev_and1 {σ σ1 σ2 : En} {a b : IE} {q : Bool} (ha : ev a σ = some (.val (.bool true) m0, σ1)) (hb : ev b σ1 = some (.val (.bool q) m0, σ2)) : ev (.and a b) σ = some (.val (.bool q) m0, σ2) := by
  unfold ev
  rw [ha]
  exact hb
theorem ev_and0 {σ σ1 : En} {a b : IE} (ha : ev a σ = some (.val (.bool false) m0, σ1)) : ev (.and a b) σ = some (.val (.bool false) m0, σ1) := by
  unfold ev
  rw [ha]
  rfl
theorem ev_one1 {σ σ1 : En} {a : IE} {r : Rs} (h : ev a σ = some (r, σ1)) : ev (.one a) σ = some (r, σ1) := by unfold ev; exact h
/-- a call of _law_right with a drawn count -/
theorem right_call {σ : En} {e : IE} {r : Int} {a b c : Int} {σ1 : En} (hp : (Dv.peek σ 2).isSome = true) (hv : isVar e = false) (he : ev e σ = some (.val (.int r) m0, σ1)) (hs : σ1[2]? = some (gS a b c false)) (hr : 0 ≤ r ∧ r ≤ 8) (hb : 0 ≤ b ∧ b < 2147483647) (hc : 0 ≤ c ∧ c < 999990000) :
    ∃ a' c', ev (.call f_law_right (.cons (.var 2) (.cons e .nil))) σ = some (.val (.bool true) m0, σ1.set 2 (gS a' b c' false)) := by
  obtain ⟨a', c', h, _, _⟩ := right_ev (m := r.toNat) (by omega) (a := a) hb hc
  rw [show ((r.toNat : Nat) : Int) = r from by omega] at h
  have hx : mkOpd e (ev e σ) σ = some (.rs (.val (.int r) m0), σ1) := by
    cases e <;> first | (cases hv; done) | (simp only [mkOpd, he, Option.map_some])
  exact ⟨a', c', ev_callIo (f := f_law_right) hp rfl rfl rfl hx rfl hs rfl rfl h⟩
abbrev scr (ns : List Int) : Sl := .val (.list (ns.map .int)) AG
theorem gen_asg (ns : List Int) (k : Nat) (hl : ns.length ≤ 63) (hk : k ≤ 3) {s2 s3 : Sl} {e : IE} {s1 : Sl} (he : ∀ σ : En, σ = [scr ns, s1, s2, s3] → Rd σ e (.int (k : Nat)) m0) :
    ∃ a b, (0 ≤ b ∧ b < 2147483647) ∧ evS (.asg 2 (.call f_law_generator (.cons (.var 0) (.cons e .nil)))) [scr ns, s1, s2, s3] = some (.nx [scr ns, s1, gS a b (1000 * (k : Nat)) false, s3]) := by
  obtain ⟨a, b, h, hb⟩ := generator_ev ns k hl hk
  refine ⟨a, b, hb, ?_⟩
  have := ev_callB (τ := [scr ns, s1, s2, s3]) (f := f_law_generator) (.cons (rd_var (i := 0) rfl) (.cons (he _ rfl) .nil)) rfl rfl rfl rfl h
  exact asg_nx this
theorem turn_ok (ns : List Int) (hl : ns.length ≤ 63) (k : Nat) (hk : k ≤ 3) {s2 : Sl} : ∃ s, evSL
    (.cons (.asg 2 (.call f_law_generator (.cons (.var 0) (.cons (.var 1) .nil))))
      (.cons (.ifs (.not (.call f_law_right (.cons (.var 2) (.cons (.call f_law_random (.cons (.var 2) (.cons (.lit (.int 7)) .nil))) .nil))))
        (.cons (.ret (.yes (.lit (.bool false)))) .nil) .nil) .nil)) [scr ns, .val (.int (k : Nat)) m0, s2, .emp] = some (.nx [scr ns, .val (.int (k : Nat)) m0, s, .emp]) := by
  obtain ⟨a, b, hb, s1⟩ := gen_asg ns k hl hk (s1 := .val (.int (k : Nat)) m0) (s2 := s2) (s3 := .emp) (e := .var 1) (fun σ h => by subst h; exact rd_var rfl)
  let σ : En := [scr ns, .val (.int (k : Nat)) m0, gS a b (1000 * (k : Nat)) false, .emp]
  obtain ⟨r, a1, c1, h1, h2, h3, h4⟩ := rnd_lit (σ := σ) (i := 2) (a := a) (b := b) (c := 1000 * (k : Nat)) (n := 7) (io := false) rfl hb (by omega) (by omega)
  obtain ⟨a2, c2, h5⟩ := right_call (σ := σ) (a := a1) (b := b) (c := c1) rfl rfl h1 rfl (by omega) hb (by omega)
  have s2 := ifs_no1 (a := .cons (.ret (.yes (.lit (.bool false)))) .nil) (evT1 rfl (ev_not1 rfl h5 (t := true) rfl))
  exact ⟨gS a2 b c2 false, sl_nx s1 (sl_nx s2 (by simp only [evSL]; rfl))⟩
theorem x1 : f_crossing.sem [.int 4, .list [.list [.int 1, .int 2], .list [.int 2, .int 3]]] = some (.n (.l [.list [.int 1, .int 3], .list [.int 2]]), []) := by kernel_rfl
theorem x2 : f_crossing.sem [.int 3, .list []] = some (.n (.l [.list []]), []) := by kernel_rfl
theorem x3 : f_crossing.sem [.int 3, .list [.list [], .list [.int 1]]] = some (.n (.l []), []) := by kernel_rfl
theorem x4 : f_crossing.sem [.int 0, .list []] = some (.n (.l [.list []]), []) := by kernel_rfl
theorem x5 : leastBy ltA (cross (lotsOf 8) [[0, 7], [7], [7]]) = [[7]] := by decide +kernel
theorem x6 : f_crossing.sem [.int 8, .list [.list [.int 0, .int 7], .list [.int 7], .list [.int 7]]] = some (.n (.l [.list [.int 7]]), []) := by
  have h : ∀ l ∈ [[0, 7], [7], [7]], l ∈ lotsOf 8 := by decide +kernel
  obtain ⟨R, S, T⟩ := told_of (m := 8) (by decide) h (by decide)
  have f := fam 8 (by decide)
  have e := T.cro
  have cm : ∀ G : List (List Int), ∀ l ∈ cross (lotsOf 8) G, l ∈ lotsOf 8 := fun G l hl => (cross_mem.mp hl).1
  have lin : lotsIn (8 : Nat) [[0, 7], [7], [7]] := ⟨small_of (by decide) (by decide) h, fun l hl => ⟨(lot_of (by decide) (h l hl)).1, Nat.le_trans (lot_of (by decide) (h l hl)).2 (by decide)⟩⟩
  have := crossing_ev (m := (8 : Nat)) (by decide) (by decide) lin (crossing_of_ev (al 8 (by decide)) lin.1 (Nat.lt_of_le_of_lt (sub_len (by decide) (List.Sublist.refl _)) (by decide)) (small_of (by decide) (sub_len (by decide) List.filter_sublist) (cm _)))
  rw [x5] at this
  exact this
theorem x7 : ∃ R : List (List Int), (∀ l ∈ R, l ∈ lotsOf 8) ∧ f_crossing.sem [.int 8, .list [.list [.int 0, .int 1], .list [.int 2, .int 3], .list [.int 4, .int 5]]] = some (.n (.l (R.map D1)), []) ∧
    f_law_due.sem [.int 8, .list [.list [.int 0, .int 1], .list [.int 2, .int 3], .list [.int 4, .int 5]]] = some (.n (.l (R.map D1)), []) := by
  have h : ∀ l ∈ [[0, 1], [2, 3], [4, 5]], l ∈ lotsOf 8 := by decide +kernel
  obtain ⟨R, S, T⟩ := told_of (m := 8) (by decide) h (by decide)
  exact ⟨R, T.R1, T.cro, T.due⟩
end Cw

open PySem PySem.Spec PySem.W PyProof.Rows L2 Dv
namespace Cw
theorem cro_ev {σ : En} {n : Int} {l : IE} {xs R : List PyData} {mm : Msk} (hg : mm.g = false) (hl : ev l σ = some (.new (.l xs) mm, σ)) (h : f_crossing.sem [.int n, .list xs] = some (.n (.l R), [])) : ev (.call f_crossing (.cons (.lit (.int n)) (.cons l .nil))) σ = some (.new (.l R) mC, σ) := by
  have := ev_callK (τ := σ) (f := f_crossing) (.cons (kp_of ev_lit) (.cons (kp_of hl) .nil)) (by decide) rfl rfl (by
    show (!((m0.or ((mm.kept).or m0)).g) || false) = true
    unfold Msk.kept
    split <;> simp [Msk.or, hg]) h
  rw [this]
  rfl
theorem due_ev {σ : En} {n : Int} {l : IE} {xs R : List PyData} {mm : Msk} (hg : mm.g = false) (hl : ev l σ = some (.new (.l xs) mm, σ)) (h : f_law_due.sem [.int n, .list xs] = some (.n (.l R), [])) : ev (.call f_law_due (.cons (.lit (.int n)) (.cons l .nil))) σ = some (.new (.l R) mC, σ) := by
  have := ev_callK (τ := σ) (f := f_law_due) (.cons (kp_of ev_lit) (.cons (kp_of hl) .nil)) (by decide) rfl rfl (by
    show (!((m0.or ((mm.kept).or m0)).g) || false) = true
    unfold Msk.kept
    split <;> simp [Msk.or, hg]) h
  rw [this]
  rfl
theorem repr_fix : bltS .repr [(.list [.list [.list [.int 1, .int 3], .list [.int 2]], .list [.list []], .list [], .list [.list []], .list [.list [.int 7]]], mC)] = some (.val (.str (PyData.shown (.list [.list [.list [.int 1, .int 3], .list [.int 2]], .list [.list []], .list [], .list [.list []], .list [.list [.int 7]]]))) m0) := repr_ok (B := 8) (by decide) (by decide) (by decide +kernel) (by decide +kernel) (by decide +kernel) _
def lawT : ISL :=
  (.cons (.asg 2 (.call f_law_generator (.cons (.var 0) (.cons (.lit (.int 3)) .nil))))
  (.cons (.ifs (.and (.cmp .Eq (.call f_law_random (.cons (.var 2) (.cons (.lit (.int 12)) .nil))) (.lit (.int 0))) (.one (.not (.call f_law_right (.cons (.var 2) (.cons (.lit (.int 8)) .nil))))))
    (.cons (.ret (.yes (.lit (.bool false))))
      .nil)
    .nil)
  (.cons (.asg 3 (.lst (.cons (.call f_crossing (.cons (.lit (.int 4)) (.cons (.lst (.cons (.lst (.cons (.lit (.int 1)) (.cons (.lit (.int 2)) .nil)) m0) (.cons (.lst (.cons (.lit (.int 2)) (.cons (.lit (.int 3)) .nil)) m0) .nil)) ⟨false, true, false⟩) .nil))) (.cons (.call f_crossing (.cons (.lit (.int 3)) (.cons (.lst .nil m0) .nil))) (.cons (.call f_crossing (.cons (.lit (.int 3)) (.cons (.lst (.cons (.lst .nil m0) (.cons (.lst (.cons (.lit (.int 1)) .nil) m0) .nil)) ⟨false, true, false⟩) .nil))) (.cons (.call f_crossing (.cons (.lit (.int 0)) (.cons (.lst .nil m0) .nil))) (.cons (.call f_crossing (.cons (.lit (.int 8)) (.cons (.lst (.cons (.lst (.cons (.lit (.int 0)) (.cons (.lit (.int 7)) .nil)) m0) (.cons (.lst (.cons (.lit (.int 7)) .nil) m0) (.cons (.lst (.cons (.lit (.int 7)) .nil) m0) .nil))) ⟨false, true, false⟩) .nil))) .nil))))) ⟨false, true, false⟩))
  (.cons (.ret (.yes (.and (.cmp .Eq (.blt .repr (.cons (.var 3) .nil)) (.blt .repr (.cons (.lst (.cons (.lst (.cons (.lst (.cons (.lit (.int 1)) (.cons (.lit (.int 3)) .nil)) m0) (.cons (.lst (.cons (.lit (.int 2)) .nil) m0) .nil)) ⟨false, true, false⟩) (.cons (.lst (.cons (.lst .nil m0) .nil) ⟨false, true, false⟩) (.cons (.lst .nil m0) (.cons (.lst (.cons (.lst .nil m0) .nil) ⟨false, true, false⟩) (.cons (.lst (.cons (.lst (.cons (.lit (.int 7)) .nil) m0) .nil) ⟨false, true, false⟩) .nil))))) ⟨false, true, false⟩) .nil))) (.one (.cmp .Eq (.call f_crossing (.cons (.lit (.int 8)) (.cons (.lst (.cons (.lst (.cons (.lit (.int 0)) (.cons (.lit (.int 1)) .nil)) m0) (.cons (.lst (.cons (.lit (.int 2)) (.cons (.lit (.int 3)) .nil)) m0) (.cons (.lst (.cons (.lit (.int 4)) (.cons (.lit (.int 5)) .nil)) m0) .nil))) ⟨false, true, false⟩) .nil))) (.call f_law_due (.cons (.lit (.int 8)) (.cons (.lst (.cons (.lst (.cons (.lit (.int 0)) (.cons (.lit (.int 1)) .nil)) m0) (.cons (.lst (.cons (.lit (.int 2)) (.cons (.lit (.int 3)) .nil)) m0) (.cons (.lst (.cons (.lit (.int 4)) (.cons (.lit (.int 5)) .nil)) m0) .nil))) ⟨false, true, false⟩) .nil))))))))
  .nil))))
theorem lawT_ok (ns : List Int) (hl : ns.length ≤ 63) {s1 s2 : Sl} : ∃ σ', evSL lawT [scr ns, s1, s2, .emp] = some (.rt (.val (.bool true) m0) σ') := by
  obtain ⟨a, b, hb, e1⟩ := gen_asg ns 3 hl (by decide) (s1 := s1) (s2 := s2) (s3 := .emp) (e := .lit (.int 3)) (fun σ h => rd_lit)
  let σ : En := [scr ns, s1, gS a b (1000 * (3 : Nat)) false, .emp]
  obtain ⟨r, a1, c1, h1, h2, h3, h4⟩ := rnd_lit (σ := σ) (i := 2) (a := a) (b := b) (c := 1000 * (3 : Nat)) (n := 12) (io := false) rfl hb (by omega) (by omega)
  have t := ev_cmp1 (o := .Eq) rfl h1 (rd_lit (d := .int 0)) (r := decide (r = 0)) (by
    show (if (dep DEP (.int r) && dep DEP (.int 0)) = true then some (PyData.eqv (.int r) (.int 0)) else none) = _
    rw [dep_int, dep_int, eqv_int]
    rfl)
  have key : ∃ s, evT (.and (.cmp .Eq (.call f_law_random (.cons (.var 2) (.cons (.lit (.int 12)) .nil))) (.lit (.int 0))) (.one (.not (.call f_law_right (.cons (.var 2) (.cons (.lit (.int 8)) .nil)))))) σ = some (false, [scr ns, s1, s, .emp]) := by
    cases hr : decide (r = 0) with
    | false =>
      rw [hr] at t
      exact ⟨_, evT1 rfl (ev_and0 t)⟩
    | true =>
      rw [hr] at t
      obtain ⟨a2, c2, h5⟩ := right_call (σ := σ.set 2 (gS a1 b c1 false)) (e := .lit (.int 8)) (r := 8) (a := a1) (b := b) (c := c1) rfl rfl ev_lit rfl (by omega) hb (by omega)
      exact ⟨_, evT1 rfl (ev_and1 t (ev_one1 (ev_not1 rfl h5 (t := true) rfl)))⟩
  obtain ⟨s, hs⟩ := key
  have e2 := ifs_no1 (a := .cons (.ret (.yes (.lit (.bool false)))) .nil) hs
  let τ : En := [scr ns, s1, s, .emp]
  have l1 : ev (.lst (.cons (.lst (.cons (.lit (.int 1)) (.cons (.lit (.int 2)) .nil)) m0) (.cons (.lst (.cons (.lit (.int 2)) (.cons (.lit (.int 3)) .nil)) m0) .nil)) mC) τ = some (.new (.l [.list [.int 1, .int 2], .list [.int 2, .int 3]]) mC, τ) := by kernel_rfl
  have l2 : ev (.lst .nil m0) τ = some (.new (.l []) m0, τ) := by kernel_rfl
  have l3 : ev (.lst (.cons (.lst .nil m0) (.cons (.lst (.cons (.lit (.int 1)) .nil) m0) .nil)) mC) τ = some (.new (.l [.list [], .list [.int 1]]) mC, τ) := by kernel_rfl
  have l6 : ev (.lst (.cons (.lst (.cons (.lit (.int 0)) (.cons (.lit (.int 7)) .nil)) m0) (.cons (.lst (.cons (.lit (.int 7)) .nil) m0) (.cons (.lst (.cons (.lit (.int 7)) .nil) m0) .nil))) mC) τ = some (.new (.l [.list [.int 0, .int 7], .list [.int 7], .list [.int 7]]) mC, τ) := by kernel_rfl
  have q := ev_lst (m := mC) (.cons (kp_of (cro_ev rfl l1 x1)) (.cons (kp_of (cro_ev rfl l2 x2)) (.cons (kp_of (cro_ev rfl l3 x3)) (.cons (kp_of (cro_ev rfl l2 x4)) (.cons (kp_of (cro_ev rfl l6 x6)) .nil))))) rfl (by show 5 ≤ LIM; decide)
  have e3 := asg_nx (i := 3) q
  let υ : En := [scr ns, s1, s, .own (.l [.list [.list [.int 1, .int 3], .list [.int 2]], .list [.list []], .list [], .list [.list []], .list [.list [.int 7]]]) mC false]
  have r1 : ev (.blt .repr (.cons (.var 3) .nil)) υ = _ := ev_blt (.cons (rd_var (i := 3) rfl) .nil) repr_fix
  have m1 : ev (.lst (.cons (.lst (.cons (.lst (.cons (.lit (.int 1)) (.cons (.lit (.int 3)) .nil)) m0) (.cons (.lst (.cons (.lit (.int 2)) .nil) m0) .nil)) mC) (.cons (.lst (.cons (.lst .nil m0) .nil) mC) (.cons (.lst .nil m0) (.cons (.lst (.cons (.lst .nil m0) .nil) mC) (.cons (.lst (.cons (.lst (.cons (.lit (.int 7)) .nil) m0) .nil) mC) .nil))))) mC) υ =
      some (.new (.l [.list [.list [.int 1, .int 3], .list [.int 2]], .list [.list []], .list [], .list [.list []], .list [.list [.int 7]]]) mC, υ) := by kernel_rfl
  have r2 : ev (.blt .repr (.cons _ .nil)) υ = _ := ev_blt (.cons (rd_new rfl m1) .nil) repr_fix
  have r3 := ev_cmp (rd_val rfl r1) (rd_val rfl r2) (str_eq (B := 8) (by decide +kernel))
  have m2 : ev (.lst (.cons (.lst (.cons (.lit (.int 0)) (.cons (.lit (.int 1)) .nil)) m0) (.cons (.lst (.cons (.lit (.int 2)) (.cons (.lit (.int 3)) .nil)) m0) (.cons (.lst (.cons (.lit (.int 4)) (.cons (.lit (.int 5)) .nil)) m0) .nil))) mC) υ = some (.new (.l [.list [.int 0, .int 1], .list [.int 2, .int 3], .list [.int 4, .int 5]]) mC, υ) := by kernel_rfl
  obtain ⟨R, hR, c1, c2⟩ := x7
  have w1 := cro_ev (σ := υ) rfl m2 c1
  have w2 := due_ev (σ := υ) rfl m2 c2
  have w3 := ev_cmp (o := .Eq) (r := true) (rd_new rfl w1) (rd_new rfl w2) (by
    show (if (dep DEP (.list (R.map D1)) && dep DEP (.list (R.map D1))) = true then some (PyData.eqv (.list (R.map D1)) (.list (R.map D1))) else none) = _
    rw [dep_LL, PySem.SeqAt.eqv_refl _ (dep_lay _ _ (dep_LL R)).1]
    rfl)
  have e4 := sl_ret (ss := .nil) rfl (ev_and1 r3 (ev_one1 w3))
  exact ⟨_, sl_nx e1 (sl_nx e2 (sl_nx e3 e4))⟩
theorem plain (ns : List Int) (hl : ns.length ≤ 63) : f_law.sem [.list (ns.map .int)] = some (.v (.bool true), []) := by
  let body : ISL := (.cons (.asg 2 (.call f_law_generator (.cons (.var 0) (.cons (.var 1) .nil))))
      (.cons (.ifs (.not (.call f_law_right (.cons (.var 2) (.cons (.call f_law_random (.cons (.var 2) (.cons (.lit (.int 7)) .nil))) .nil))))
        (.cons (.ret (.yes (.lit (.bool false)))) .nil) .nil) .nil))
  obtain ⟨σ', ⟨s1, s2, hs⟩, hgo⟩ := forGo_fold (fun k : Nat => PyData.int (k : Nat)) (bf := fun x s => bindT (.nm 1) x m0 s) (body := fun s => evSL body s) (L0 := [0, 1, 2])
    (fun _ σ => ∃ s1 s2, σ = [scr ns, s1, s2, .emp]) (by
      rintro done x rest σ hd ⟨s1, s2, rfl⟩
      have hx : x ≤ 3 := by
        have : x ∈ [0, 1, 2] := by rw [← hd]; simp
        simp at this
        omega
      obtain ⟨s, h⟩ := turn_ok ns hl x hx (s2 := s2)
      exact ⟨_, _, rfl, h, _, _, rfl⟩) [0, 1, 2] [] [scr ns, .emp, .emp, .emp] rfl ⟨_, _, rfl⟩
  subst hs
  have hF : evF (.rng (.cons (.lit (.int 3)) .nil)) [scr ns, .emp, .emp, .emp] = some ([0, 1, 2].map (fun k : Nat => PyData.int (k : Nat)), m0, [scr ns, .emp, .emp, .emp]) := by kernel_rfl
  have e1 : evS (.fors (.nm 1) (.rng (.cons (.lit (.int 3)) .nil)) body) [scr ns, .emp, .emp, .emp] = some (.nx [scr ns, s1, s2, .emp]) := by
    rw [evS, hF]
    exact hgo
  obtain ⟨σ', e2⟩ := lawT_ok ns hl (s1 := s1) (s2 := s2)
  have fin : evSL b_law [scr ns, .emp, .emp, .emp] = some (.rt (.val (.bool true) m0) σ') := sl_nx e1 e2
  have hsem : f_law.sem = fun ds => runF 4 none true m0 b_law ds := rfl
  rw [hsem]
  exact run_rt rfl rfl fin rfl
end Cw

namespace Cw
open PySem PySem.Spec PySem.W PyProof.Rows L2 Dv
abbrev s_law_cell : Stmt := topS 17
theorem sc_law_cell : FnScope ["script", "index"] f_law_cell.ps (defScope s_law_cell) := ⟨rfl, rfl, rfl, by decide +kernel, rfl, by decide +kernel, by decide +kernel⟩
theorem c_law_cell : chkSL ⟨["script", "index"], defScope s_law_cell, fun _ => true⟩ b_law_cell (defBody s_law_cell) = true := by decide +kernel
theorem p_law_cell : BindP s_law_cell f_law_cell := fun _ _ _ _ _ _ us hl => match us, hl with | [_, _], _ => rfl
theorem g_law_cell {P : Program} {w : World} {K : PySem.W.Frag} {mg : Str → Option Value} {base : Heap} {fa : Addr} {fd : FuncData} (F : Fun K "_law_cell" "_law_cell" s_law_cell fa fd) (z_len : mg "len" = none) (z_sum : mg "sum" = none) : FnG P w K mg base 1 fa fd f_law_cell.ps (spF K f_law_cell) := by
  refine fnG_fun (k := 0) (f := f_law_cell) F sc_law_cell c_law_cell (fun A hr hg => ?_) (by decide) (fun _ _ h => h)
  have e0 : GoodB ⟨P, w, K, mg, base, A⟩ "len" := z_len
  have e1 : GoodB ⟨P, w, K, mg, base, A⟩ "sum" := z_sum
  simp only [b_law_cell, usSL, usS, usE, usL, usO, usI, Bl.name, IL.len, true_and, and_true, e0, e1]
abbrev s_law_generator : Stmt := topS 18
theorem sc_law_generator : FnScope ["script", "index", "seed"] f_law_generator.ps (defScope s_law_generator) := ⟨rfl, rfl, rfl, by decide +kernel, rfl, by decide +kernel, by decide +kernel⟩
theorem c_law_generator : chkSL ⟨["script", "index", "seed"], defScope s_law_generator, fun _ => true⟩ b_law_generator (defBody s_law_generator) = true := by decide +kernel
theorem p_law_generator : BindP s_law_generator f_law_generator := fun _ _ _ _ _ _ us hl => match us, hl with | [_, _], _ => rfl
theorem g_law_generator {P : Program} {w : World} {K : PySem.W.Frag} {mg : Str → Option Value} {base : Heap} {fa : Addr} {fd : FuncData} (F : Fun K "_law_generator" "_law_generator" s_law_generator fa fd) (D_law_cell : DefG P w K mg base 1 s_law_cell f_law_cell) (z_int : mg "int" = none) (z_max : mg "max" = none) : FnG P w K mg base 2 fa fd f_law_generator.ps (spF K f_law_generator) := by
  refine fnG_fun (k := 1) (f := f_law_generator) F sc_law_generator c_law_generator (fun A hr hg => ?_) (by decide) (fun _ _ h => h)
  have e0 := D_law_cell.good p_law_cell (by decide : 1 ≤ 1) hr
  have e1 : GoodB ⟨P, w, K, mg, base, A⟩ "int" := z_int
  have e2 : GoodB ⟨P, w, K, mg, base, A⟩ "max" := z_max
  simp only [b_law_generator, usSL, usS, usE, usL, usO, usI, Bl.name, IL.len, true_and, and_true, e0, e1, e2]
abbrev s_all_lots : Stmt := topS 9
theorem sc_all_lots : FnScope ["many", "found", "number", "later", "lot"] f_all_lots.ps (defScope s_all_lots) := ⟨rfl, rfl, rfl, by decide +kernel, rfl, by decide +kernel, by decide +kernel⟩
theorem c_all_lots : chkSL ⟨["many", "found", "number", "later", "lot"], defScope s_all_lots, fun _ => true⟩ b_all_lots (defBody s_all_lots) = true := by decide +kernel
theorem p_all_lots : BindP s_all_lots f_all_lots := fun _ _ _ _ _ _ us hl => match us, hl with | [_], _ => rfl
theorem g_all_lots {P : Program} {w : World} {K : PySem.W.Frag} {mg : Str → Option Value} {base : Heap} {fa : Addr} {fd : FuncData} (F : Fun K "all_lots" "all_lots" s_all_lots fa fd) (z_range : mg "range" = none) : FnG P w K mg base 1 fa fd f_all_lots.ps (spF K f_all_lots) := by
  refine fnG_fun (k := 0) (f := f_all_lots) F sc_all_lots c_all_lots (fun A hr hg => ?_) (by decide) (fun _ _ h => h)
  have e0 : GoodB ⟨P, w, K, mg, base, A⟩ "range" := z_range
  simp only [b_all_lots, usSL, usS, usE, usL, usO, usI, Bl.name, IL.len, true_and, and_true, e0]
abbrev s_within : Stmt := topS 10
theorem sc_within : FnScope ["one", "other", "number"] f_within.ps (defScope s_within) := ⟨rfl, rfl, rfl, by decide +kernel, rfl, by decide +kernel, by decide +kernel⟩
theorem c_within : chkSL ⟨["one", "other", "number"], defScope s_within, fun _ => true⟩ b_within (defBody s_within) = true := by decide +kernel
theorem p_within : BindP s_within f_within := fun _ _ _ _ _ _ us hl => match us, hl with | [_, _], _ => rfl
theorem g_within {P : Program} {w : World} {K : PySem.W.Frag} {mg : Str → Option Value} {base : Heap} {fa : Addr} {fd : FuncData} (F : Fun K "within" "within" s_within fa fd)  : FnG P w K mg base 1 fa fd f_within.ps (spF K f_within) := by
  refine fnG_fun (k := 0) (f := f_within) F sc_within c_within (fun A hr hg => ?_) (by decide) (fun _ _ h => h)
  skip
  simp only [b_within, usSL, usS, usE, usL, usO, usI, Bl.name, IL.len, true_and, and_true]
abbrev s_least_of_lots : Stmt := topS 11
theorem sc_least_of_lots : FnScope ["lots", "lot", "less"] f_least_of_lots.ps (defScope s_least_of_lots) := ⟨rfl, rfl, rfl, by decide +kernel, rfl, by decide +kernel, by decide +kernel⟩
theorem c_least_of_lots : chkSL ⟨["lots", "lot", "less"], defScope s_least_of_lots, fun _ => true⟩ b_least_of_lots (defBody s_least_of_lots) = true := by decide +kernel
theorem p_least_of_lots : BindP s_least_of_lots f_least_of_lots := fun _ _ _ _ _ _ us hl => match us, hl with | [_], _ => rfl
theorem g_least_of_lots {P : Program} {w : World} {K : PySem.W.Frag} {mg : Str → Option Value} {base : Heap} {fa : Addr} {fd : FuncData} (F : Fun K "least_of_lots" "least_of_lots" s_least_of_lots fa fd) (D_within : DefG P w K mg base 1 s_within f_within) (z_len : mg "len" = none) : FnG P w K mg base 2 fa fd f_least_of_lots.ps (spF K f_least_of_lots) := by
  refine fnG_fun (k := 1) (f := f_least_of_lots) F sc_least_of_lots c_least_of_lots (fun A hr hg => ?_) (by decide) (fun _ _ h => h)
  have e0 := D_within.good p_within (by decide : 1 ≤ 1) hr
  have e1 : GoodB ⟨P, w, K, mg, base, A⟩ "len" := z_len
  simp only [b_least_of_lots, usSL, usS, usE, usL, usO, usI, Bl.name, IL.len, true_and, and_true, e0, e1]
abbrev s_crossing_of : Stmt := topS 12
theorem sc_crossing_of : FnScope ["many", "lots", "found", "lot", "other", "number"] f_crossing_of.ps (defScope s_crossing_of) := ⟨rfl, rfl, rfl, by decide +kernel, rfl, by decide +kernel, by decide +kernel⟩
theorem c_crossing_of : chkSL ⟨["many", "lots", "found", "lot", "other", "number"], defScope s_crossing_of, fun _ => true⟩ b_crossing_of (defBody s_crossing_of) = true := by decide +kernel
theorem p_crossing_of : BindP s_crossing_of f_crossing_of := fun _ _ _ _ _ _ us hl => match us, hl with | [_, _], _ => rfl
theorem g_crossing_of {P : Program} {w : World} {K : PySem.W.Frag} {mg : Str → Option Value} {base : Heap} {fa : Addr} {fd : FuncData} (F : Fun K "crossing_of" "crossing_of" s_crossing_of fa fd) (D_all_lots : DefG P w K mg base 1 s_all_lots f_all_lots) (D_least_of_lots : DefG P w K mg base 2 s_least_of_lots f_least_of_lots) : FnG P w K mg base 3 fa fd f_crossing_of.ps (spF K f_crossing_of) := by
  refine fnG_fun (k := 2) (f := f_crossing_of) F sc_crossing_of c_crossing_of (fun A hr hg => ?_) (by decide) (fun _ _ h => h)
  have e0 := D_all_lots.good p_all_lots (by decide : 1 ≤ 2) hr
  have e1 := D_least_of_lots.good p_least_of_lots (by decide : 2 ≤ 2) hr
  simp only [b_crossing_of, usSL, usS, usE, usL, usO, usI, Bl.name, IL.len, true_and, and_true, e0, e1]
abbrev s_is_count : Stmt := topS 5
theorem sc_is_count : FnScope ["value"] f_is_count.ps (defScope s_is_count) := ⟨rfl, rfl, rfl, by decide +kernel, rfl, by decide +kernel, by decide +kernel⟩
theorem c_is_count : chkSL ⟨["value"], defScope s_is_count, fun _ => true⟩ b_is_count (defBody s_is_count) = true := by decide +kernel
theorem p_is_count : BindP s_is_count f_is_count := fun _ _ _ _ _ _ us hl => match us, hl with | [_], _ => rfl
theorem g_is_count {P : Program} {w : World} {K : PySem.W.Frag} {mg : Str → Option Value} {base : Heap} {fa : Addr} {fd : FuncData} (F : Fun K "is_count" "is_count" s_is_count fa fd) (z_bool : mg "bool" = none) (z_int : mg "int" = none) (z_isinstance : mg "isinstance" = none) : FnG P w K mg base 1 fa fd f_is_count.ps (spF K f_is_count) := by
  refine fnG_fun (k := 0) (f := f_is_count) F sc_is_count c_is_count (fun A hr hg => ?_) (by decide) (fun _ _ h => h)
  have e0 : GoodB ⟨P, w, K, mg, base, A⟩ "bool" := z_bool
  have e1 : GoodB ⟨P, w, K, mg, base, A⟩ "int" := z_int
  have e2 : GoodB ⟨P, w, K, mg, base, A⟩ "isinstance" := z_isinstance
  simp only [b_is_count, usSL, usS, usE, usL, usO, usI, Bl.name, IL.len, true_and, and_true, e0, e1, e2]
abbrev s_is_lot : Stmt := topS 8
theorem sc_is_lot : FnScope ["many", "value", "item", "place"] f_is_lot.ps (defScope s_is_lot) := ⟨rfl, rfl, rfl, by decide +kernel, rfl, by decide +kernel, by decide +kernel⟩
theorem c_is_lot : chkSL ⟨["many", "value", "item", "place"], defScope s_is_lot, fun _ => true⟩ b_is_lot (defBody s_is_lot) = true := by decide +kernel
theorem p_is_lot : BindP s_is_lot f_is_lot := fun _ _ _ _ _ _ us hl => match us, hl with | [_, _], _ => rfl
theorem g_is_lot {P : Program} {w : World} {K : PySem.W.Frag} {mg : Str → Option Value} {base : Heap} {fa : Addr} {fd : FuncData} (F : Fun K "is_lot" "is_lot" s_is_lot fa fd) (D_is_count : DefG P w K mg base 1 s_is_count f_is_count) (z_isinstance : mg "isinstance" = none) (z_len : mg "len" = none) (z_list : mg "list" = none) (z_range : mg "range" = none) : FnG P w K mg base 2 fa fd f_is_lot.ps (spF K f_is_lot) := by
  refine fnG_fun (k := 1) (f := f_is_lot) F sc_is_lot c_is_lot (fun A hr hg => ?_) (by decide) (fun _ _ h => h)
  have e0 := D_is_count.good p_is_count (by decide : 1 ≤ 1) hr
  have e1 : GoodB ⟨P, w, K, mg, base, A⟩ "isinstance" := z_isinstance
  have e2 : GoodB ⟨P, w, K, mg, base, A⟩ "len" := z_len
  have e3 : GoodB ⟨P, w, K, mg, base, A⟩ "list" := z_list
  have e4 : GoodB ⟨P, w, K, mg, base, A⟩ "range" := z_range
  simp only [b_is_lot, usSL, usS, usE, usL, usO, usI, Bl.name, IL.len, true_and, and_true, e0, e1, e2, e3, e4]
abbrev s_crossing : Stmt := topS 13
theorem sc_crossing : FnScope ["many", "lots", "lot"] f_crossing.ps (defScope s_crossing) := ⟨rfl, rfl, rfl, by decide +kernel, rfl, by decide +kernel, by decide +kernel⟩
theorem c_crossing : chkSL ⟨["many", "lots", "lot"], defScope s_crossing, fun _ => true⟩ b_crossing (defBody s_crossing) = true := by decide +kernel
theorem p_crossing : BindP s_crossing f_crossing := fun _ _ _ _ _ _ us hl => match us, hl with | [_, _], _ => rfl
theorem g_crossing {P : Program} {w : World} {K : PySem.W.Frag} {mg : Str → Option Value} {base : Heap} {fa : Addr} {fd : FuncData} (F : Fun K "crossing" "crossing" s_crossing fa fd) (D_crossing_of : DefG P w K mg base 3 s_crossing_of f_crossing_of) (D_is_count : DefG P w K mg base 1 s_is_count f_is_count) (D_is_lot : DefG P w K mg base 2 s_is_lot f_is_lot) (z_isinstance : mg "isinstance" = none) (z_list : mg "list" = none) (y_MOST_NUMBERS : ∃ t, mg "MOST_NUMBERS" = some (.int 8 t)) : FnG P w K mg base 4 fa fd f_crossing.ps (spF K f_crossing) := by
  refine fnG_fun (k := 3) (f := f_crossing) F sc_crossing c_crossing (fun A hr hg => ?_) (by decide) (fun _ _ h => h)
  have e0 := D_crossing_of.good p_crossing_of (by decide : 3 ≤ 3) hr
  have e1 := D_is_count.good p_is_count (by decide : 1 ≤ 3) hr
  have e2 := D_is_lot.good p_is_lot (by decide : 2 ≤ 3) hr
  obtain ⟨_, w_MOST_NUMBERS⟩ := y_MOST_NUMBERS
  have e3 := glI (P := P) (w := w) (K := K) (base := base) (A := A) w_MOST_NUMBERS
  have e4 : GoodB ⟨P, w, K, mg, base, A⟩ "isinstance" := z_isinstance
  have e5 : GoodB ⟨P, w, K, mg, base, A⟩ "list" := z_list
  simp only [b_crossing, usSL, usS, usE, usL, usO, usI, Bl.name, IL.len, true_and, and_true, e0, e1, e2, e3, e4, e5]
abbrev s_law_lots : Stmt := topS 19
theorem sc_law_lots : FnScope ["many_told", "found", "number", "lot"] f_law_lots.ps (defScope s_law_lots) := ⟨rfl, rfl, rfl, by decide +kernel, rfl, by decide +kernel, by decide +kernel⟩
theorem c_law_lots : chkSL ⟨["many_told", "found", "number", "lot"], defScope s_law_lots, fun _ => true⟩ b_law_lots (defBody s_law_lots) = true := by decide +kernel
theorem p_law_lots : BindP s_law_lots f_law_lots := fun _ _ _ _ _ _ us hl => match us, hl with | [_], _ => rfl
theorem g_law_lots {P : Program} {w : World} {K : PySem.W.Frag} {mg : Str → Option Value} {base : Heap} {fa : Addr} {fd : FuncData} (F : Fun K "_law_lots" "_law_lots" s_law_lots fa fd) (z_range : mg "range" = none) (z_sorted : mg "sorted" = none) : FnG P w K mg base 1 fa fd f_law_lots.ps (spF K f_law_lots) := by
  refine fnG_fun (k := 0) (f := f_law_lots) F sc_law_lots c_law_lots (fun A hr hg => ?_) (by decide) (fun _ _ h => h)
  have e0 : GoodB ⟨P, w, K, mg, base, A⟩ "range" := z_range
  have e1 : GoodB ⟨P, w, K, mg, base, A⟩ "sorted" := z_sorted
  simp only [b_law_lots, usSL, usS, usE, usL, usO, usI, Bl.name, IL.len, true_and, and_true, e0, e1]
abbrev s_law_hash : Stmt := topS 15
theorem sc_law_hash : FnScope ["seed", "index", "mixed"] f_law_hash.ps (defScope s_law_hash) := ⟨rfl, rfl, rfl, by decide +kernel, rfl, by decide +kernel, by decide +kernel⟩
theorem c_law_hash : chkSL ⟨["seed", "index", "mixed"], defScope s_law_hash, fun _ => true⟩ b_law_hash (defBody s_law_hash) = true := by decide +kernel
theorem p_law_hash : BindP s_law_hash f_law_hash := fun _ _ _ _ _ _ us hl => match us, hl with | [_, _], _ => rfl
theorem g_law_hash {P : Program} {w : World} {K : PySem.W.Frag} {mg : Str → Option Value} {base : Heap} {fa : Addr} {fd : FuncData} (F : Fun K "_law_hash" "_law_hash" s_law_hash fa fd) (z_int : mg "int" = none) : FnG P w K mg base 1 fa fd f_law_hash.ps (spF K f_law_hash) := by
  refine fnG_fun (k := 0) (f := f_law_hash) F sc_law_hash c_law_hash (fun A hr hg => ?_) (by decide) (fun _ _ h => h)
  have e0 : GoodB ⟨P, w, K, mg, base, A⟩ "int" := z_int
  simp only [b_law_hash, usSL, usS, usE, usL, usO, usI, Bl.name, IL.len, true_and, and_true, e0]
abbrev s_law_random : Stmt := topS 16
theorem sc_law_random : FnScope ["generator", "bound", "drawn", "turn"] f_law_random.ps (defScope s_law_random) := ⟨rfl, rfl, rfl, by decide +kernel, rfl, by decide +kernel, by decide +kernel⟩
theorem c_law_random : chkSL ⟨["generator", "bound", "drawn", "turn"], defScope s_law_random, fun _ => true⟩ b_law_random (defBody s_law_random) = true := by decide +kernel
theorem p_law_random : BindP s_law_random f_law_random := fun _ _ _ _ _ _ us hl => match us, hl with | [_, _], _ => rfl
theorem g_law_random {P : Program} {w : World} {K : PySem.W.Frag} {mg : Str → Option Value} {base : Heap} {fa : Addr} {fd : FuncData} (F : Fun K "_law_random" "_law_random" s_law_random fa fd) (D_law_hash : DefG P w K mg base 1 s_law_hash f_law_hash) (z_int : mg "int" = none) (z_range : mg "range" = none) : FnG P w K mg base 2 fa fd f_law_random.ps (spF K f_law_random) := by
  refine fnG_fun (k := 1) (f := f_law_random) F sc_law_random c_law_random (fun A hr hg => ?_) (by decide) (fun _ _ h => h)
  have e0 := D_law_hash.good p_law_hash (by decide : 1 ≤ 1) hr
  have e1 : GoodB ⟨P, w, K, mg, base, A⟩ "int" := z_int
  have e2 : GoodB ⟨P, w, K, mg, base, A⟩ "range" := z_range
  simp only [b_law_random, usSL, usS, usE, usL, usO, usI, Bl.name, IL.len, true_and, and_true, e0, e1, e2]
abbrev s_law_inside : Stmt := topS 20
theorem sc_law_inside : FnScope ["low", "high", "number"] f_law_inside.ps (defScope s_law_inside) := ⟨rfl, rfl, rfl, by decide +kernel, rfl, by decide +kernel, by decide +kernel⟩
theorem c_law_inside : chkSL ⟨["low", "high", "number"], defScope s_law_inside, fun _ => true⟩ b_law_inside (defBody s_law_inside) = true := by decide +kernel
theorem p_law_inside : BindP s_law_inside f_law_inside := fun _ _ _ _ _ _ us hl => match us, hl with | [_, _], _ => rfl
theorem g_law_inside {P : Program} {w : World} {K : PySem.W.Frag} {mg : Str → Option Value} {base : Heap} {fa : Addr} {fd : FuncData} (F : Fun K "_law_inside" "_law_inside" s_law_inside fa fd)  : FnG P w K mg base 1 fa fd f_law_inside.ps (spF K f_law_inside) := by
  refine fnG_fun (k := 0) (f := f_law_inside) F sc_law_inside c_law_inside (fun A hr hg => ?_) (by decide) (fun _ _ h => h)
  skip
  simp only [b_law_inside, usSL, usS, usE, usL, usO, usI, Bl.name, IL.len, true_and, and_true]
abbrev s_law_least : Stmt := topS 21
theorem sc_law_least : FnScope ["lots_told", "lot", "less"] f_law_least.ps (defScope s_law_least) := ⟨rfl, rfl, rfl, by decide +kernel, rfl, by decide +kernel, by decide +kernel⟩
theorem c_law_least : chkSL ⟨["lots_told", "lot", "less"], defScope s_law_least, fun _ => true⟩ b_law_least (defBody s_law_least) = true := by decide +kernel
theorem p_law_least : BindP s_law_least f_law_least := fun _ _ _ _ _ _ us hl => match us, hl with | [_], _ => rfl
theorem g_law_least {P : Program} {w : World} {K : PySem.W.Frag} {mg : Str → Option Value} {base : Heap} {fa : Addr} {fd : FuncData} (F : Fun K "_law_least" "_law_least" s_law_least fa fd) (D_law_inside : DefG P w K mg base 1 s_law_inside f_law_inside) : FnG P w K mg base 2 fa fd f_law_least.ps (spF K f_law_least) := by
  refine fnG_fun (k := 1) (f := f_law_least) F sc_law_least c_law_least (fun A hr hg => ?_) (by decide) (fun _ _ h => h)
  have e0 := D_law_inside.good p_law_inside (by decide : 1 ≤ 1) hr
  simp only [b_law_least, usSL, usS, usE, usL, usO, usI, Bl.name, IL.len, true_and, and_true, e0]
abbrev s_law_due : Stmt := topS 22
theorem sc_law_due : FnScope ["many_told", "lots_told", "found", "lot", "other_told", "number"] f_law_due.ps (defScope s_law_due) := ⟨rfl, rfl, rfl, by decide +kernel, rfl, by decide +kernel, by decide +kernel⟩
theorem c_law_due : chkSL ⟨["many_told", "lots_told", "found", "lot", "other_told", "number"], defScope s_law_due, fun _ => true⟩ b_law_due (defBody s_law_due) = true := by decide +kernel
theorem p_law_due : BindP s_law_due f_law_due := fun _ _ _ _ _ _ us hl => match us, hl with | [_, _], _ => rfl
theorem g_law_due {P : Program} {w : World} {K : PySem.W.Frag} {mg : Str → Option Value} {base : Heap} {fa : Addr} {fd : FuncData} (F : Fun K "_law_due" "_law_due" s_law_due fa fd) (D_law_least : DefG P w K mg base 2 s_law_least f_law_least) (D_law_lots : DefG P w K mg base 1 s_law_lots f_law_lots) : FnG P w K mg base 3 fa fd f_law_due.ps (spF K f_law_due) := by
  refine fnG_fun (k := 2) (f := f_law_due) F sc_law_due c_law_due (fun A hr hg => ?_) (by decide) (fun _ _ h => h)
  have e0 := D_law_least.good p_law_least (by decide : 2 ≤ 2) hr
  have e1 := D_law_lots.good p_law_lots (by decide : 1 ≤ 2) hr
  simp only [b_law_due, usSL, usS, usE, usL, usO, usI, Bl.name, IL.len, true_and, and_true, e0, e1]
abbrev s_law_right : Stmt := topS 23
theorem sc_law_right : FnScope ["generator", "many_told", "every", "lots_told", "turn", "lot", "kept", "due", "told", "some", "least", "at"] f_law_right.ps (defScope s_law_right) := ⟨rfl, rfl, rfl, by decide +kernel, rfl, by decide +kernel, by decide +kernel⟩
theorem c_law_right : chkSL ⟨["generator", "many_told", "every", "lots_told", "turn", "lot", "kept", "due", "told", "some", "least", "at"], defScope s_law_right, fun _ => true⟩ b_law_right (defBody s_law_right) = true := by decide +kernel
theorem p_law_right : BindP s_law_right f_law_right := fun _ _ _ _ _ _ us hl => match us, hl with | [_, _], _ => rfl
theorem q_law_right_crossing_0 : BindK s_crossing f_crossing 0 [1, 0] := fun _ _ _ _ _ _ us ws h1 h2 => match us, ws, h1, h2 with | [], [_, _], _, _ => rfl
theorem g_law_right {P : Program} {w : World} {K : PySem.W.Frag} {mg : Str → Option Value} {base : Heap} {fa : Addr} {fd : FuncData} (F : Fun K "_law_right" "_law_right" s_law_right fa fd) (D_law_due : DefG P w K mg base 3 s_law_due f_law_due) (D_law_least : DefG P w K mg base 2 s_law_least f_law_least) (D_law_lots : DefG P w K mg base 1 s_law_lots f_law_lots) (D_law_random : DefG P w K mg base 2 s_law_random f_law_random) (D_crossing : DefG P w K mg base 4 s_crossing f_crossing) (z_enumerate : mg "enumerate" = none) (z_len : mg "len" = none) (z_list : mg "list" = none) (z_range : mg "range" = none) (z_repr : mg "repr" = none) (z_sorted : mg "sorted" = none) : FnG P w K mg base 5 fa fd f_law_right.ps (spF K f_law_right) := by
  refine fnG_fun (k := 4) (f := f_law_right) F sc_law_right c_law_right (fun A hr hg => ?_) (by decide) (fun _ _ h => h)
  have e0 := D_law_due.good p_law_due (by decide : 3 ≤ 4) hr
  have e1 := D_law_least.good p_law_least (by decide : 2 ≤ 4) hr
  have e2 := D_law_lots.good p_law_lots (by decide : 1 ≤ 4) hr
  have e3 := D_law_random.good p_law_random (by decide : 2 ≤ 4) hr
  have e4 := D_crossing.good p_crossing (by decide : 4 ≤ 4) hr
  have e5 := D_crossing.tod.good p_crossing (by decide : 4 ≤ 4) hr
  have e6 := D_crossing.goodK p_crossing q_law_right_crossing_0 (by decide : 4 ≤ 4) hr
  have e7 : GoodB ⟨P, w, K, mg, base, A⟩ "enumerate" := z_enumerate
  have e8 : GoodB ⟨P, w, K, mg, base, A⟩ "len" := z_len
  have e9 : GoodB ⟨P, w, K, mg, base, A⟩ "list" := z_list
  have e10 : GoodB ⟨P, w, K, mg, base, A⟩ "range" := z_range
  have e11 : GoodB ⟨P, w, K, mg, base, A⟩ "repr" := z_repr
  have e12 : GoodB ⟨P, w, K, mg, base, A⟩ "sorted" := z_sorted
  simp only [b_law_right, usSL, usS, usE, usL, usO, usI, Bl.name, IL.len, true_and, and_true, e0, e1, e2, e3, e4, e5, e6, e7, e8, e9, e10, e11, e12]
abbrev s_law : Stmt := topS 24
theorem sc_law : FnScope ["script", "index", "generator", "told"] f_law.ps (defScope s_law) := ⟨rfl, rfl, rfl, by decide +kernel, rfl, by decide +kernel, by decide +kernel⟩
theorem c_law : chkSL ⟨["script", "index", "generator", "told"], defScope s_law, fun _ => true⟩ b_law (defBody s_law) = true := by decide +kernel
theorem p_law : BindP s_law f_law := fun _ _ _ _ _ _ us hl => match us, hl with | [_], _ => rfl
theorem g_law {P : Program} {w : World} {K : PySem.W.Frag} {mg : Str → Option Value} {base : Heap} {fa : Addr} {fd : FuncData} (F : Fun K "law" "law" s_law fa fd) (D_law_due : DefG P w K mg base 3 s_law_due f_law_due) (D_law_generator : DefG P w K mg base 2 s_law_generator f_law_generator) (D_law_random : DefG P w K mg base 2 s_law_random f_law_random) (D_law_right : DefG P w K mg base 5 s_law_right f_law_right) (D_crossing : DefG P w K mg base 4 s_crossing f_crossing) (z_range : mg "range" = none) (z_repr : mg "repr" = none) : FnG P w K mg base 6 fa fd f_law.ps (spF K f_law) := by
  refine fnG_fun (k := 5) (f := f_law) F sc_law c_law (fun A hr hg => ?_) (by decide) (fun _ _ h => h)
  have e0 := D_law_due.good p_law_due (by decide : 3 ≤ 5) hr
  have e1 := D_law_generator.good p_law_generator (by decide : 2 ≤ 5) hr
  have e2 := D_law_random.good p_law_random (by decide : 2 ≤ 5) hr
  have e3 := D_law_right.good p_law_right (by decide : 5 ≤ 5) hr
  have e4 := D_crossing.good p_crossing (by decide : 4 ≤ 5) hr
  have e5 : GoodB ⟨P, w, K, mg, base, A⟩ "range" := z_range
  have e6 : GoodB ⟨P, w, K, mg, base, A⟩ "repr" := z_repr
  simp only [b_law, usSL, usS, usE, usL, usO, usI, Bl.name, IL.len, true_and, and_true, e0, e1, e2, e3, e4, e5, e6]
theorem all_mk {l : PySem.W.OpenLaw} {w : World} {K : PySem.W.Frag} {h : Heap} {mg : Str → Option Value} {fa : Addr} (X : K.In h) (G : h.Ns mainGlobals mg) (hfa : mg "law" = some (.ref fa))
    {f0 : Addr} {od0 an0 : Option Addr} {sl0 : Array (Option Value)} {oc0 kV0 dc0 pm0 cd0 ct0 : Value}
    (a0 : PySem.W.nsIn K mainGlobals "_law_cell" = some (some (.ref f0))) (l0 : K.lookup f0 = some ⟨oc0, od0, .func (PySem.W.fnOf "_law_cell" "_law_cell" (defArgs s_law_cell) (defBody s_law_cell) (defScope s_law_cell) .none kV0 dc0 pm0 an0 cd0 ct0), sl0⟩) (c0 : PySem.W.codeIn K cd0 "_law_cell" = true) (k0 : PySem.W.keepIn K (.ref f0) = true)
    {f1 : Addr} {od1 an1 : Option Addr} {sl1 : Array (Option Value)} {oc1 kV1 dc1 pm1 cd1 ct1 : Value}
    (a1 : PySem.W.nsIn K mainGlobals "_law_generator" = some (some (.ref f1))) (l1 : K.lookup f1 = some ⟨oc1, od1, .func (PySem.W.fnOf "_law_generator" "_law_generator" (defArgs s_law_generator) (defBody s_law_generator) (defScope s_law_generator) .none kV1 dc1 pm1 an1 cd1 ct1), sl1⟩) (c1 : PySem.W.codeIn K cd1 "_law_generator" = true) (k1 : PySem.W.keepIn K (.ref f1) = true)
    {f2 : Addr} {od2 an2 : Option Addr} {sl2 : Array (Option Value)} {oc2 kV2 dc2 pm2 cd2 ct2 : Value}
    (a2 : PySem.W.nsIn K mainGlobals "all_lots" = some (some (.ref f2))) (l2 : K.lookup f2 = some ⟨oc2, od2, .func (PySem.W.fnOf "all_lots" "all_lots" (defArgs s_all_lots) (defBody s_all_lots) (defScope s_all_lots) .none kV2 dc2 pm2 an2 cd2 ct2), sl2⟩) (c2 : PySem.W.codeIn K cd2 "all_lots" = true) (k2 : PySem.W.keepIn K (.ref f2) = true)
    {f3 : Addr} {od3 an3 : Option Addr} {sl3 : Array (Option Value)} {oc3 kV3 dc3 pm3 cd3 ct3 : Value}
    (a3 : PySem.W.nsIn K mainGlobals "within" = some (some (.ref f3))) (l3 : K.lookup f3 = some ⟨oc3, od3, .func (PySem.W.fnOf "within" "within" (defArgs s_within) (defBody s_within) (defScope s_within) .none kV3 dc3 pm3 an3 cd3 ct3), sl3⟩) (c3 : PySem.W.codeIn K cd3 "within" = true) (k3 : PySem.W.keepIn K (.ref f3) = true)
    {f4 : Addr} {od4 an4 : Option Addr} {sl4 : Array (Option Value)} {oc4 kV4 dc4 pm4 cd4 ct4 : Value}
    (a4 : PySem.W.nsIn K mainGlobals "least_of_lots" = some (some (.ref f4))) (l4 : K.lookup f4 = some ⟨oc4, od4, .func (PySem.W.fnOf "least_of_lots" "least_of_lots" (defArgs s_least_of_lots) (defBody s_least_of_lots) (defScope s_least_of_lots) .none kV4 dc4 pm4 an4 cd4 ct4), sl4⟩) (c4 : PySem.W.codeIn K cd4 "least_of_lots" = true) (k4 : PySem.W.keepIn K (.ref f4) = true)
    {f5 : Addr} {od5 an5 : Option Addr} {sl5 : Array (Option Value)} {oc5 kV5 dc5 pm5 cd5 ct5 : Value}
    (a5 : PySem.W.nsIn K mainGlobals "crossing_of" = some (some (.ref f5))) (l5 : K.lookup f5 = some ⟨oc5, od5, .func (PySem.W.fnOf "crossing_of" "crossing_of" (defArgs s_crossing_of) (defBody s_crossing_of) (defScope s_crossing_of) .none kV5 dc5 pm5 an5 cd5 ct5), sl5⟩) (c5 : PySem.W.codeIn K cd5 "crossing_of" = true) (k5 : PySem.W.keepIn K (.ref f5) = true)
    {f6 : Addr} {od6 an6 : Option Addr} {sl6 : Array (Option Value)} {oc6 kV6 dc6 pm6 cd6 ct6 : Value}
    (a6 : PySem.W.nsIn K mainGlobals "is_count" = some (some (.ref f6))) (l6 : K.lookup f6 = some ⟨oc6, od6, .func (PySem.W.fnOf "is_count" "is_count" (defArgs s_is_count) (defBody s_is_count) (defScope s_is_count) .none kV6 dc6 pm6 an6 cd6 ct6), sl6⟩) (c6 : PySem.W.codeIn K cd6 "is_count" = true) (k6 : PySem.W.keepIn K (.ref f6) = true)
    {f7 : Addr} {od7 an7 : Option Addr} {sl7 : Array (Option Value)} {oc7 kV7 dc7 pm7 cd7 ct7 : Value}
    (a7 : PySem.W.nsIn K mainGlobals "is_lot" = some (some (.ref f7))) (l7 : K.lookup f7 = some ⟨oc7, od7, .func (PySem.W.fnOf "is_lot" "is_lot" (defArgs s_is_lot) (defBody s_is_lot) (defScope s_is_lot) .none kV7 dc7 pm7 an7 cd7 ct7), sl7⟩) (c7 : PySem.W.codeIn K cd7 "is_lot" = true) (k7 : PySem.W.keepIn K (.ref f7) = true)
    {f8 : Addr} {od8 an8 : Option Addr} {sl8 : Array (Option Value)} {oc8 kV8 dc8 pm8 cd8 ct8 : Value}
    (a8 : PySem.W.nsIn K mainGlobals "crossing" = some (some (.ref f8))) (l8 : K.lookup f8 = some ⟨oc8, od8, .func (PySem.W.fnOf "crossing" "crossing" (defArgs s_crossing) (defBody s_crossing) (defScope s_crossing) .none kV8 dc8 pm8 an8 cd8 ct8), sl8⟩) (c8 : PySem.W.codeIn K cd8 "crossing" = true) (k8 : PySem.W.keepIn K (.ref f8) = true)
    {f9 : Addr} {od9 an9 : Option Addr} {sl9 : Array (Option Value)} {oc9 kV9 dc9 pm9 cd9 ct9 : Value}
    (a9 : PySem.W.nsIn K mainGlobals "_law_lots" = some (some (.ref f9))) (l9 : K.lookup f9 = some ⟨oc9, od9, .func (PySem.W.fnOf "_law_lots" "_law_lots" (defArgs s_law_lots) (defBody s_law_lots) (defScope s_law_lots) .none kV9 dc9 pm9 an9 cd9 ct9), sl9⟩) (c9 : PySem.W.codeIn K cd9 "_law_lots" = true) (k9 : PySem.W.keepIn K (.ref f9) = true)
    {f10 : Addr} {od10 an10 : Option Addr} {sl10 : Array (Option Value)} {oc10 kV10 dc10 pm10 cd10 ct10 : Value}
    (a10 : PySem.W.nsIn K mainGlobals "_law_hash" = some (some (.ref f10))) (l10 : K.lookup f10 = some ⟨oc10, od10, .func (PySem.W.fnOf "_law_hash" "_law_hash" (defArgs s_law_hash) (defBody s_law_hash) (defScope s_law_hash) .none kV10 dc10 pm10 an10 cd10 ct10), sl10⟩) (c10 : PySem.W.codeIn K cd10 "_law_hash" = true) (k10 : PySem.W.keepIn K (.ref f10) = true)
    {f11 : Addr} {od11 an11 : Option Addr} {sl11 : Array (Option Value)} {oc11 kV11 dc11 pm11 cd11 ct11 : Value}
    (a11 : PySem.W.nsIn K mainGlobals "_law_random" = some (some (.ref f11))) (l11 : K.lookup f11 = some ⟨oc11, od11, .func (PySem.W.fnOf "_law_random" "_law_random" (defArgs s_law_random) (defBody s_law_random) (defScope s_law_random) .none kV11 dc11 pm11 an11 cd11 ct11), sl11⟩) (c11 : PySem.W.codeIn K cd11 "_law_random" = true) (k11 : PySem.W.keepIn K (.ref f11) = true)
    {f12 : Addr} {od12 an12 : Option Addr} {sl12 : Array (Option Value)} {oc12 kV12 dc12 pm12 cd12 ct12 : Value}
    (a12 : PySem.W.nsIn K mainGlobals "_law_inside" = some (some (.ref f12))) (l12 : K.lookup f12 = some ⟨oc12, od12, .func (PySem.W.fnOf "_law_inside" "_law_inside" (defArgs s_law_inside) (defBody s_law_inside) (defScope s_law_inside) .none kV12 dc12 pm12 an12 cd12 ct12), sl12⟩) (c12 : PySem.W.codeIn K cd12 "_law_inside" = true) (k12 : PySem.W.keepIn K (.ref f12) = true)
    {f13 : Addr} {od13 an13 : Option Addr} {sl13 : Array (Option Value)} {oc13 kV13 dc13 pm13 cd13 ct13 : Value}
    (a13 : PySem.W.nsIn K mainGlobals "_law_least" = some (some (.ref f13))) (l13 : K.lookup f13 = some ⟨oc13, od13, .func (PySem.W.fnOf "_law_least" "_law_least" (defArgs s_law_least) (defBody s_law_least) (defScope s_law_least) .none kV13 dc13 pm13 an13 cd13 ct13), sl13⟩) (c13 : PySem.W.codeIn K cd13 "_law_least" = true) (k13 : PySem.W.keepIn K (.ref f13) = true)
    {f14 : Addr} {od14 an14 : Option Addr} {sl14 : Array (Option Value)} {oc14 kV14 dc14 pm14 cd14 ct14 : Value}
    (a14 : PySem.W.nsIn K mainGlobals "_law_due" = some (some (.ref f14))) (l14 : K.lookup f14 = some ⟨oc14, od14, .func (PySem.W.fnOf "_law_due" "_law_due" (defArgs s_law_due) (defBody s_law_due) (defScope s_law_due) .none kV14 dc14 pm14 an14 cd14 ct14), sl14⟩) (c14 : PySem.W.codeIn K cd14 "_law_due" = true) (k14 : PySem.W.keepIn K (.ref f14) = true)
    {f15 : Addr} {od15 an15 : Option Addr} {sl15 : Array (Option Value)} {oc15 kV15 dc15 pm15 cd15 ct15 : Value}
    (a15 : PySem.W.nsIn K mainGlobals "_law_right" = some (some (.ref f15))) (l15 : K.lookup f15 = some ⟨oc15, od15, .func (PySem.W.fnOf "_law_right" "_law_right" (defArgs s_law_right) (defBody s_law_right) (defScope s_law_right) .none kV15 dc15 pm15 an15 cd15 ct15), sl15⟩) (c15 : PySem.W.codeIn K cd15 "_law_right" = true) (k15 : PySem.W.keepIn K (.ref f15) = true)
    {f16 : Addr} {od16 an16 : Option Addr} {sl16 : Array (Option Value)} {oc16 kV16 dc16 pm16 cd16 ct16 : Value}
    (a16 : PySem.W.nsIn K mainGlobals "law" = some (some (.ref f16))) (l16 : K.lookup f16 = some ⟨oc16, od16, .func (PySem.W.fnOf "law" "law" (defArgs s_law) (defBody s_law) (defScope s_law) .none kV16 dc16 pm16 an16 cd16 ct16), sl16⟩) (c16 : PySem.W.codeIn K cd16 "law" = true) (k16 : PySem.W.keepIn K (.ref f16) = true)
    (z_bool : PySem.W.nsIn K mainGlobals "bool" = some none)
    (z_enumerate : PySem.W.nsIn K mainGlobals "enumerate" = some none)
    (z_int : PySem.W.nsIn K mainGlobals "int" = some none)
    (z_isinstance : PySem.W.nsIn K mainGlobals "isinstance" = some none)
    (z_len : PySem.W.nsIn K mainGlobals "len" = some none)
    (z_list : PySem.W.nsIn K mainGlobals "list" = some none)
    (z_max : PySem.W.nsIn K mainGlobals "max" = some none)
    (z_range : PySem.W.nsIn K mainGlobals "range" = some none)
    (z_repr : PySem.W.nsIn K mainGlobals "repr" = some none)
    (z_sorted : PySem.W.nsIn K mainGlobals "sorted" = some none)
    (z_sum : PySem.W.nsIn K mainGlobals "sum" = some none)
    {t_MOST_NUMBERS : Tok} (y_MOST_NUMBERS : PySem.W.nsIn K mainGlobals "MOST_NUMBERS" = some (some (.int 8 t_MOST_NUMBERS)))
    : ∃ fd : FuncData, (∀ (s : Shared) (v : Value), BindsTo s fd ⟨[v], []⟩ [("script", v)]) ∧ ∀ base : Heap, K.In base → base.Ns mainGlobals mg → FnG l.prog w K mg base 6 fa fd ["script"] (spF K f_law) := by
  have e := hfa.symm.trans (PySem.W.mg_of X G a16)
  cases e
  have n_bool := PySem.W.mg_none_of X G z_bool
  have n_enumerate := PySem.W.mg_none_of X G z_enumerate
  have n_int := PySem.W.mg_none_of X G z_int
  have n_isinstance := PySem.W.mg_none_of X G z_isinstance
  have n_len := PySem.W.mg_none_of X G z_len
  have n_list := PySem.W.mg_none_of X G z_list
  have n_max := PySem.W.mg_none_of X G z_max
  have n_range := PySem.W.mg_none_of X G z_range
  have n_repr := PySem.W.mg_none_of X G z_repr
  have n_sorted := PySem.W.mg_none_of X G z_sorted
  have n_sum := PySem.W.mg_none_of X G z_sum
  have m_MOST_NUMBERS : ∃ t, mg "MOST_NUMBERS" = some (.int 8 t) := ⟨_, PySem.W.mg_of X G y_MOST_NUMBERS⟩
  have F0 := fun_mk (st := s_law_cell) l0 c0 k0
  have F1 := fun_mk (st := s_law_generator) l1 c1 k1
  have F2 := fun_mk (st := s_all_lots) l2 c2 k2
  have F3 := fun_mk (st := s_within) l3 c3 k3
  have F4 := fun_mk (st := s_least_of_lots) l4 c4 k4
  have F5 := fun_mk (st := s_crossing_of) l5 c5 k5
  have F6 := fun_mk (st := s_is_count) l6 c6 k6
  have F7 := fun_mk (st := s_is_lot) l7 c7 k7
  have F8 := fun_mk (st := s_crossing) l8 c8 k8
  have F9 := fun_mk (st := s_law_lots) l9 c9 k9
  have F10 := fun_mk (st := s_law_hash) l10 c10 k10
  have F11 := fun_mk (st := s_law_random) l11 c11 k11
  have F12 := fun_mk (st := s_law_inside) l12 c12 k12
  have F13 := fun_mk (st := s_law_least) l13 c13 k13
  have F14 := fun_mk (st := s_law_due) l14 c14 k14
  have F15 := fun_mk (st := s_law_right) l15 c15 k15
  have F16 := fun_mk (st := s_law) l16 c16 k16
  refine ⟨PySem.W.fnOf "law" "law" (defArgs s_law) (defBody s_law) (defScope s_law) .none kV16 dc16 pm16 an16 cd16 ct16, fun s v => .of_eq rfl, fun base _ _ => ?_⟩
  have D0 : DefG l.prog w K mg base 1 s_law_cell f_law_cell := defG_mk (f := f_law_cell) F0 (PySem.W.mg_of X G a0) (g_law_cell F0 n_len n_sum)
  have D1 : DefG l.prog w K mg base 2 s_law_generator f_law_generator := defG_mk (f := f_law_generator) F1 (PySem.W.mg_of X G a1) (g_law_generator F1 D0 n_int n_max)
  have D2 : DefG l.prog w K mg base 1 s_all_lots f_all_lots := defG_mk (f := f_all_lots) F2 (PySem.W.mg_of X G a2) (g_all_lots F2 n_range)
  have D3 : DefG l.prog w K mg base 1 s_within f_within := defG_mk (f := f_within) F3 (PySem.W.mg_of X G a3) (g_within F3 )
  have D4 : DefG l.prog w K mg base 2 s_least_of_lots f_least_of_lots := defG_mk (f := f_least_of_lots) F4 (PySem.W.mg_of X G a4) (g_least_of_lots F4 D3 n_len)
  have D5 : DefG l.prog w K mg base 3 s_crossing_of f_crossing_of := defG_mk (f := f_crossing_of) F5 (PySem.W.mg_of X G a5) (g_crossing_of F5 D2 D4)
  have D6 : DefG l.prog w K mg base 1 s_is_count f_is_count := defG_mk (f := f_is_count) F6 (PySem.W.mg_of X G a6) (g_is_count F6 n_bool n_int n_isinstance)
  have D7 : DefG l.prog w K mg base 2 s_is_lot f_is_lot := defG_mk (f := f_is_lot) F7 (PySem.W.mg_of X G a7) (g_is_lot F7 D6 n_isinstance n_len n_list n_range)
  have D8 : DefG l.prog w K mg base 4 s_crossing f_crossing := defG_mk (f := f_crossing) F8 (PySem.W.mg_of X G a8) (g_crossing F8 D5 D6 D7 n_isinstance n_list m_MOST_NUMBERS)
  have D9 : DefG l.prog w K mg base 1 s_law_lots f_law_lots := defG_mk (f := f_law_lots) F9 (PySem.W.mg_of X G a9) (g_law_lots F9 n_range n_sorted)
  have D10 : DefG l.prog w K mg base 1 s_law_hash f_law_hash := defG_mk (f := f_law_hash) F10 (PySem.W.mg_of X G a10) (g_law_hash F10 n_int)
  have D11 : DefG l.prog w K mg base 2 s_law_random f_law_random := defG_mk (f := f_law_random) F11 (PySem.W.mg_of X G a11) (g_law_random F11 D10 n_int n_range)
  have D12 : DefG l.prog w K mg base 1 s_law_inside f_law_inside := defG_mk (f := f_law_inside) F12 (PySem.W.mg_of X G a12) (g_law_inside F12 )
  have D13 : DefG l.prog w K mg base 2 s_law_least f_law_least := defG_mk (f := f_law_least) F13 (PySem.W.mg_of X G a13) (g_law_least F13 D12)
  have D14 : DefG l.prog w K mg base 3 s_law_due f_law_due := defG_mk (f := f_law_due) F14 (PySem.W.mg_of X G a14) (g_law_due F14 D13 D9)
  have D15 : DefG l.prog w K mg base 5 s_law_right f_law_right := defG_mk (f := f_law_right) F15 (PySem.W.mg_of X G a15) (g_law_right F15 D14 D13 D9 D11 D8 n_enumerate n_len n_list n_range n_repr n_sorted)
  exact g_law F16 D14 D1 D11 D15 D8 n_range n_repr
end Cw

open PySem PySem.W PyProof.Rows in
set_option maxHeartbeats 0 in
theorem PySem.Challenge.cw_answerwide_k63_whole_crossing_lots_holds : PySem.Challenge.rw_answerwide_k63_whole_crossing_lots.Holds := by
  w_on; o_law; k_head; (case hw => w_witness2)
  k_fill
  refine Dv.walk_G (l := PySem.Challenge.rw_answerwide_k63_whole_crossing_lots) (n := 63) (k := 6) (x := "script") (sp := fun w => Dv.spF _ Cw.f_law) rfl (by decide) rfl ⟨rfl, by decide, by decide⟩ (fun w h Y => PySem.W.kIn_of Y) ?F (fun w H a ns hl hO hS => Dv.law_sp rfl rfl rfl hS hO (Cw.plain ns hl))
  case F =>
    intro w mg fa h KX G hmg
    refine' Cw.all_mk KX G hmg ?a0 ?l0 ?c0 ?k0 ?a1 ?l1 ?c1 ?k1 ?a2 ?l2 ?c2 ?k2 ?a3 ?l3 ?c3 ?k3 ?a4 ?l4 ?c4 ?k4 ?a5 ?l5 ?c5 ?k5 ?a6 ?l6 ?c6 ?k6 ?a7 ?l7 ?c7 ?k7 ?a8 ?l8 ?c8 ?k8 ?a9 ?l9 ?c9 ?k9 ?a10 ?l10 ?c10 ?k10 ?a11 ?l11 ?c11 ?k11 ?a12 ?l12 ?c12 ?k12 ?a13 ?l13 ?c13 ?k13 ?a14 ?l14 ?c14 ?k14 ?a15 ?l15 ?c15 ?k15 ?a16 ?l16 ?c16 ?k16 ?z_bool ?z_enumerate ?z_int ?z_isinstance ?z_len ?z_list ?z_max ?z_range ?z_repr ?z_sorted ?z_sum ?y_MOST_NUMBERS
    (case a0 => k_is)
    (case l0 => k_is)
    (case c0 => k_is)
    (case k0 => k_is)
    (case a1 => k_is)
    (case l1 => k_is)
    (case c1 => k_is)
    (case k1 => k_is)
    (case a2 => k_is)
    (case l2 => k_is)
    (case c2 => k_is)
    (case k2 => k_is)
    (case a3 => k_is)
    (case l3 => k_is)
    (case c3 => k_is)
    (case k3 => k_is)
    (case a4 => k_is)
    (case l4 => k_is)
    (case c4 => k_is)
    (case k4 => k_is)
    (case a5 => k_is)
    (case l5 => k_is)
    (case c5 => k_is)
    (case k5 => k_is)
    (case a6 => k_is)
    (case l6 => k_is)
    (case c6 => k_is)
    (case k6 => k_is)
    (case a7 => k_is)
    (case l7 => k_is)
    (case c7 => k_is)
    (case k7 => k_is)
    (case a8 => k_is)
    (case l8 => k_is)
    (case c8 => k_is)
    (case k8 => k_is)
    (case a9 => k_is)
    (case l9 => k_is)
    (case c9 => k_is)
    (case k9 => k_is)
    (case a10 => k_is)
    (case l10 => k_is)
    (case c10 => k_is)
    (case k10 => k_is)
    (case a11 => k_is)
    (case l11 => k_is)
    (case c11 => k_is)
    (case k11 => k_is)
    (case a12 => k_is)
    (case l12 => k_is)
    (case c12 => k_is)
    (case k12 => k_is)
    (case a13 => k_is)
    (case l13 => k_is)
    (case c13 => k_is)
    (case k13 => k_is)
    (case a14 => k_is)
    (case l14 => k_is)
    (case c14 => k_is)
    (case k14 => k_is)
    (case a15 => k_is)
    (case l15 => k_is)
    (case c15 => k_is)
    (case k15 => k_is)
    (case a16 => k_is)
    (case l16 => k_is)
    (case c16 => k_is)
    (case k16 => k_is)
    (case z_bool => k_is)
    (case z_enumerate => k_is)
    (case z_int => k_is)
    (case z_isinstance => k_is)
    (case z_len => k_is)
    (case z_list => k_is)
    (case z_max => k_is)
    (case z_range => k_is)
    (case z_repr => k_is)
    (case z_sorted => k_is)
    (case z_sum => k_is)
    (case y_MOST_NUMBERS => k_is)

