import PyProof.Rows.All
import Wide.All
import OpenK.AllK
import Wide.FinOn
import HandS.ForMost
import HandS.Exc
import HandS.ExcOwn
import HandS.Conv
import HandS.Style
import HandS.SortInts
import HandS.IsInst
import HandS.More
import HandS.SetFor
import HandS.SortOrd
import KE.KSortedM
import HandS.WordsExc
import HandS.CallSlots
import HandS.ExcIs
import HandS.TryMany
import KE.GoesMore
import HandS.Strs
import HandS.Star
import HandS.Flow
import HandS.Defaults
import PySem.Challenge.RW_unlikemerges_k12_commutators_by_degrees
set_option Elab.async false
set_option linter.all false
set_option maxRecDepth 100000
/-! D1: plain data, labels, what a value stands for, the state of a def as plain data (SI) -/
namespace DL
open PySem PySem.Spec PyProof.Rows L2

/-- plain data -/
inductive D where
  | non | bl (b : Bool) | int (i : Int) | str (x : Str)
  | tup (xs : List D) | lst (xs : List D) | obj (C : Str) (fs : List (Str × D))
  deriving Inhabited
mutual
def D.dec : (a b : D) → Decidable (a = b)
  | .non, .non => Decidable.isTrue rfl
  | .bl a, .bl b => if h : a = b then Decidable.isTrue (by rw [h]) else Decidable.isFalse (fun q => h (by cases q; rfl))
  | .int a, .int b => if h : a = b then Decidable.isTrue (by rw [h]) else Decidable.isFalse (fun q => h (by cases q; rfl))
  | .str a, .str b => if h : a = b then Decidable.isTrue (by rw [h]) else Decidable.isFalse (fun q => h (by cases q; rfl))
  | .tup a, .tup b => match D.decs a b with
    | Decidable.isTrue h => Decidable.isTrue (by rw [h])
    | Decidable.isFalse h => Decidable.isFalse (fun q => h (by cases q; rfl))
  | .lst a, .lst b => match D.decs a b with
    | Decidable.isTrue h => Decidable.isTrue (by rw [h])
    | Decidable.isFalse h => Decidable.isFalse (fun q => h (by cases q; rfl))
  | .obj C a, .obj E b => if hC : C = E then match D.decf a b with
      | Decidable.isTrue h => Decidable.isTrue (by rw [h, hC])
      | Decidable.isFalse h => Decidable.isFalse (fun q => h (by cases q; rfl))
    else Decidable.isFalse (fun q => hC (by cases q; rfl))
  | .non, .bl _ | .non, .int _ | .non, .str _ | .non, .tup _ | .non, .lst _ | .non, .obj _ _ => Decidable.isFalse (fun q => nomatch q)
  | .bl _, .non | .bl _, .int _ | .bl _, .str _ | .bl _, .tup _ | .bl _, .lst _ | .bl _, .obj _ _ => Decidable.isFalse (fun q => nomatch q)
  | .int _, .non | .int _, .bl _ | .int _, .str _ | .int _, .tup _ | .int _, .lst _ | .int _, .obj _ _ => Decidable.isFalse (fun q => nomatch q)
  | .str _, .non | .str _, .bl _ | .str _, .int _ | .str _, .tup _ | .str _, .lst _ | .str _, .obj _ _ => Decidable.isFalse (fun q => nomatch q)
  | .tup _, .non | .tup _, .bl _ | .tup _, .int _ | .tup _, .str _ | .tup _, .lst _ | .tup _, .obj _ _ => Decidable.isFalse (fun q => nomatch q)
  | .lst _, .non | .lst _, .bl _ | .lst _, .int _ | .lst _, .str _ | .lst _, .tup _ | .lst _, .obj _ _ => Decidable.isFalse (fun q => nomatch q)
  | .obj _ _, .non | .obj _ _, .bl _ | .obj _ _, .int _ | .obj _ _, .str _ | .obj _ _, .tup _ | .obj _ _, .lst _ => Decidable.isFalse (fun q => nomatch q)
def D.decs : (a b : List D) → Decidable (a = b)
  | [], [] => Decidable.isTrue rfl
  | [], _ :: _ => Decidable.isFalse (fun q => nomatch q)
  | _ :: _, [] => Decidable.isFalse (fun q => nomatch q)
  | a :: as, b :: bs => match D.dec a b with
    | Decidable.isTrue h => match D.decs as bs with
      | Decidable.isTrue h2 => Decidable.isTrue (by rw [h, h2])
      | Decidable.isFalse h2 => Decidable.isFalse (fun q => h2 (by cases q; rfl))
    | Decidable.isFalse h => Decidable.isFalse (fun q => h (by cases q; rfl))
def D.decf : (a b : List (Str × D)) → Decidable (a = b)
  | [], [] => Decidable.isTrue rfl
  | [], _ :: _ => Decidable.isFalse (fun q => nomatch q)
  | _ :: _, [] => Decidable.isFalse (fun q => nomatch q)
  | (n, a) :: as, (m, b) :: bs => if hn : n = m then match D.dec a b with
      | Decidable.isTrue h => match D.decf as bs with
        | Decidable.isTrue h2 => Decidable.isTrue (by rw [h, h2, hn])
        | Decidable.isFalse h2 => Decidable.isFalse (fun q => h2 (by cases q; rfl))
      | Decidable.isFalse h => Decidable.isFalse (fun q => h (by cases q; rfl))
    else Decidable.isFalse (fun q => hn (by cases q; rfl))
end
instance : DecidableEq D := D.dec

/-- a scalar -/
def D.flat : D → Bool
  | .non | .bl _ | .int _ | .str _ => true
  | _ => false
/-- may be owned: a list, an instance -/
def D.cont : D → Bool
  | .lst _ | .obj _ _ => true
  | _ => false
/-- the parts of a list or an instance -/
def D.at? : D → Nat → Option D
  | .lst ds, k => ds[k]?
  | .obj _ fs, k => (fs[k]?).map (·.2)
  | _, _ => none
def D.set : D → Nat → D → D
  | .lst ds, k, d => .lst (ds.set k d)
  | .obj C fs, k, d => .obj C (fs.modify k fun f => (f.1, d))
  | x, _, _ => x
def getAt : D → List Nat → Option D
  | d, [] => some d
  | d, k :: p => (d.at? k).bind fun e => getAt e p
def setAt : D → List Nat → D → D
  | _, [], e => e
  | d, k :: p, e => match d.at? k with
    | some c => d.set k (setAt c p e)
    | none => d

inductive Root | slot (i : Nat) | tmp (t : Nat) deriving DecidableEq
/-- who may write an object -/
inductive Lab | no | fz | bw | own (r : Root) (p : List Nat) deriving DecidableEq
/-- how a value is held: frozen for good; lent; owned n levels deep -/
inductive Md | fz | bw | own (r : Root) (p : List Nat) (n : Nat)
def Md.ok : Md → Lab → Prop
  | .fz, l => l = .fz
  | .bw, l => l = .fz ∨ l = .bw
  | .own _ _ 0, l => l = .fz
  | .own r p (_ + 1), l => l = .own r p
def Md.sub : Md → Nat → Md
  | .fz, _ => .fz
  | .bw, _ => .bw
  | .own _ _ 0, _ => .fz
  | .own r p (n + 1), k => .own r (p ++ [k]) n
def Md.imm : Md → Md
  | .bw => .bw
  | _ => .fz
def Md.subs : Md → List Nat → Md
  | m, [] => m
  | m, k :: p => (m.sub k).subs p
theorem imm_sub (m : Md) (k : Nat) : (m.sub k).imm = m.imm := by
  cases m with
  | fz => rfl
  | bw => rfl
  | own r p n => cases n <;> rfl
theorem imm_imm (m : Md) : m.imm.imm = m.imm := by cases m <;> rfl
theorem imm_sub' (m : Md) (k : Nat) : m.imm.sub k = m.imm := by cases m <;> rfl
theorem imm_subs' (m : Md) : ∀ p, m.imm.subs p = m.imm
  | [] => rfl
  | k :: p => by show (m.imm.sub k).subs p = m.imm; rw [imm_sub', imm_subs' m p]
theorem fz_subs : ∀ p, Md.fz.subs p = .fz := imm_subs' .fz
theorem own0_subs (r : Root) (q : List Nat) : ∀ p, p = [] ∨ (Md.own r q 0).subs p = .fz
  | [] => .inl rfl
  | k :: p => .inr (fz_subs p)
theorem own_subs (r : Root) : ∀ (p q : List Nat) (n : Nat), p.length ≤ n → (Md.own r q n).subs p = .own r (q ++ p) (n - p.length)
  | [], q, n, _ => by rw [List.append_nil]; rfl
  | k :: p, q, 0, h => absurd h (Nat.not_succ_le_zero _)
  | k :: p, q, n + 1, h => by
    show (Md.own r (q ++ [k]) n).subs p = _
    rw [own_subs r p (q ++ [k]) n (Nat.le_of_succ_le_succ h)]
    simp
theorem own_subs_fz (r : Root) : ∀ (p q : List Nat) (n : Nat), n < p.length → (Md.own r q n).subs p = .fz
  | [], q, n, h => absurd h (Nat.not_lt_zero _)
  | k :: p, q, 0, h => fz_subs p
  | k :: p, q, n + 1, h => own_subs_fz r p (q ++ [k]) n (Nat.lt_of_succ_lt_succ h)
theorem subs_app (p q : List Nat) : ∀ m : Md, m.subs (p ++ q) = (m.subs p).subs q := by
  induction p with
  | nil => intro m; rfl
  | cons k p ih => intro m; exact ih (m.sub k)

/-- an object of the module -/
def KO (K : PySem.W.Frag) (a : Addr) : HO → Prop
  | .lst xs => ∃ (o : Obj) (its : Array Value) (n : Nat), K.lookup a = some o ∧ o.cls = .type "list" ∧ o.dict = none ∧ o.data = .seq its n ∧ its.size ≤ sizeLine ∧ Vals xs its.toList
  | .frz o (.tup xs) => ∃ (its : Array Value) (n : Nat), K.lookup a = some o ∧ o.cls = .type "tuple" ∧ o.data = .seq its n ∧ its.size ≤ sizeLine ∧ Vals xs its.toList
  | _ => False
/-- the slots that are not to be set (l), those among them whose object is known (fx) -/
structure IOs where
  l : List Nat
  fx : List (Nat × Addr)
instance : Membership Nat IOs := ⟨fun x k => k ∈ x.l⟩
def io00 : IOs := ⟨[], []⟩
theorem io_ni {x : IOs} {i : Nat} (h : x.l.contains i = false) : i ∉ x := fun m => by
  rw [List.contains_iff_mem.mpr (show i ∈ x.l from m)] at h; cases h
abbrev Wd := PySem.W.Frag × (Str → Option Value) × IOs
def NA (K : PySem.W.Frag) (ℓ : Addr → Lab) (H : Hp) (m : Md) (a : Addr) (o : HO) : Prop :=
  (m.ok (ℓ a) ∧ H a = some o) ∨ (m = .bw ∧ (KO K a o ∨ (m.ok (ℓ a) ∧ (∃ xs, o = .lst xs) ∧ ∃ f, H a = some (.frz f o))))
/-- a tuple as it was made: nothing hangs at it -/
def NT (K : PySem.W.Frag) (ℓ : Addr → Lab) (H : Hp) (m : Md) (a : Addr) (vs : List V) : Prop := ∃ f : Obj, f.dict = none ∧ NA K ℓ H m a (.frz f (.tup vs))

/-- a value stands for plain data -/
inductive Rep (W : Wd) (ℓ : Addr → Lab) (H : Hp) : Md → V → D → Prop
  | non {m} : Rep W ℓ H m .non .non
  | bl {m} (b) : Rep W ℓ H m (.bl b) (.bl b)
  | int {m} (i) : Rep W ℓ H m (.int i) (.int i)
  | str {m} (x) : Rep W ℓ H m (.str x) (.str x)
  | tup {m a} {vs : List V} {ds : List D} : NT W.1 ℓ H m.imm a vs → vs.length = ds.length → (∀ (k : Nat) (v : V) (d : D), vs[k]? = some v → ds[k]? = some d → Rep W ℓ H m.imm v d) → Rep W ℓ H m (.ref a) (.tup ds)
  | lst {m a} {vs : List V} {ds : List D} : NA W.1 ℓ H m a (.lst vs) → vs.length = ds.length → (∀ (k : Nat) (v : V) (d : D), vs[k]? = some v → ds[k]? = some d → Rep W ℓ H (m.sub k) v d) → Rep W ℓ H m (.ref a) (.lst ds)
  | obj {m a C Ca dx} {vfs : List (Str × V)} {fs : List (Str × D)} : W.2.1 C = some (.ref Ca) → NA W.1 ℓ H m a (.ins Ca dx vfs) → vfs.map (·.1) = fs.map (·.1) → (∀ (k : Nat) (n : Str) (v : V) (n' : Str) (d : D), vfs[k]? = some (n, v) → fs[k]? = some (n', d) → Rep W ℓ H (m.sub k) v d) → Rep W ℓ H m (.ref a) (.obj C fs)

section
variable {W : Wd} {ℓ ℓ' : Addr → Lab} {H H' : Hp} {m m' : Md} {v : V} {d : D}
theorem NA.sqL {a : Addr} {xs : List V} (h : NA W.1 ℓ H m a (.lst xs)) : SqL W.1 H a xs := by
  rcases h with h | ⟨_, h | ⟨_, _, f, h⟩⟩
  · exact .inl (.inl h.2)
  · exact .inr h
  · exact .inl (.inr ⟨f, h⟩)
theorem NT.sqT {a : Addr} {xs : List V} (h : NT W.1 ℓ H m a xs) : SqT W.1 H a xs := by
  obtain ⟨f, _, h⟩ := h
  rcases h with h | ⟨_, h | ⟨_, ⟨_, z⟩, _⟩⟩
  · exact .inl (.inr ⟨f, h.2⟩)
  · obtain ⟨its, n, k⟩ := h
    exact .inr ⟨f, its, n, k⟩
  · cases z
theorem NA.ins {a C dx : Addr} {fs : List (Str × V)} (h : NA W.1 ℓ H m a (.ins C dx fs)) : H a = some (.ins C dx fs) := by
  rcases h with h | ⟨_, h | ⟨_, ⟨_, z⟩, _⟩⟩
  · exact h.2
  · exact h.elim
  · cases z
theorem NA.nb {a : Addr} {o : HO} (h : NA W.1 ℓ H m a o) (hm : m ≠ .bw) : m.ok (ℓ a) ∧ H a = some o := by
  rcases h with h | ⟨h, _⟩
  · exact h
  · exact absurd h hm
/-- reads carry over -/
structure Cv (W : Wd) (ℓ : Addr → Lab) (H : Hp) (ℓ' : Addr → Lab) (H' : Hp) (m m' : Md) : Prop where
  i : ∀ a o, NA W.1 ℓ H m.imm a o → NA W.1 ℓ' H' m'.imm a o
  s : ∀ p a o, NA W.1 ℓ H (m.subs p) a o → NA W.1 ℓ' H' (m'.subs p) a o
theorem Cv.sub (c : Cv W ℓ H ℓ' H' m m') (k : Nat) : Cv W ℓ H ℓ' H' (m.sub k) (m'.sub k) :=
  ⟨fun a o h => by rw [imm_sub] at h ⊢; exact c.i a o h, fun p a o h => c.s (k :: p) a o h⟩
theorem Cv.imm (c : Cv W ℓ H ℓ' H' m m') : Cv W ℓ H ℓ' H' m.imm m'.imm :=
  ⟨fun a o h => by rw [imm_imm] at h ⊢; exact c.i a o h, fun p a o h => by rw [imm_subs'] at h ⊢; exact c.i a o h⟩
theorem Rep.conv (h : Rep W ℓ H m v d) : ∀ m', Cv W ℓ H ℓ' H' m m' → Rep W ℓ' H' m' v d := by
  induction h with
  | non => intro _ _; exact .non
  | bl b => intro _ _; exact .bl b
  | int b => intro _ _; exact .int b
  | str b => intro _ _; exact .str b
  | tup h1 h2 _ ih => intro m' c; exact .tup (let ⟨f, hf, h⟩ := h1; ⟨f, hf, c.i _ _ h⟩) h2 fun k v d a b => ih k v d a b _ c.imm
  | lst h1 h2 _ ih => intro m' c; exact .lst (c.s [] _ _ h1) h2 fun k v d a b => ih k v d a b _ (c.sub k)
  | obj h0 h1 h2 _ ih => intro m' c; exact .obj h0 (c.s [] _ _ h1) h2 fun k n v n' d a b => ih k n v n' d a b _ (c.sub k)
/-- the labels that a mode can meet -/
def Md.cov (m : Md) (l : Lab) : Prop := l = .fz ∨ (m.imm = .bw ∧ l = .bw) ∨ match m with
  | .own r p _ => ∃ q, l = .own r (p ++ q)
  | _ => False
theorem cov_subs : ∀ (p : List Nat) (m : Md) {l : Lab}, (m.subs p).cov l → m.cov l
  | [], _, _, h => h
  | k :: p, m, l, h => by
    have h' := cov_subs p (m.sub k) h
    rcases h' with h' | ⟨h1, h2⟩ | h'
    · exact .inl h'
    · rw [imm_sub] at h1; exact .inr (.inl ⟨h1, h2⟩)
    · cases m with
      | fz => exact h'.elim
      | bw => exact h'.elim
      | own r q n =>
        cases n with
        | zero => exact h'.elim
        | succ n =>
          obtain ⟨x, e⟩ := h'
          exact .inr (.inr ⟨k :: x, by rw [e]; simp⟩)
theorem cov_ok {m : Md} {l : Lab} (h : m.ok l) : m.cov l := by
  cases m with
  | fz => exact .inl h
  | bw => exact h.elim .inl fun q => .inr (.inl ⟨rfl, q⟩)
  | own r p n =>
    cases n with
    | zero => exact .inl h
    | succ n => exact .inr (.inr ⟨[], by rw [List.append_nil]; exact h⟩)
theorem cov_imm {m : Md} {l : Lab} (h : m.imm.ok l) : m.cov l := by
  cases m with
  | fz => exact .inl h
  | bw => exact h.elim .inl fun q => .inr (.inl ⟨rfl, q⟩)
  | own r p n => exact .inl h
theorem NA.move {a : Addr} {o : HO} (h : NA W.1 ℓ H m a o) (k : m.ok (ℓ a) → m'.ok (ℓ' a) ∧ H' a = H a) (w : m = .bw → m' = .bw) : NA W.1 ℓ' H' m' a o := by
  rcases h with ⟨h1, h2⟩ | ⟨h, h2⟩
  · obtain ⟨k1, k2⟩ := k h1; exact .inl ⟨k1, k2.trans h2⟩
  · refine .inr ⟨w h, ?_⟩
    rcases h2 with h2 | ⟨h2, h3, f, h4⟩
    · exact .inl h2
    · obtain ⟨k1, k2⟩ := k h2; exact .inr ⟨k1, h3, f, k2.trans h4⟩
/-- nothing that the mode can meet has changed -/
theorem Rep.frame (h : Rep W ℓ H m v d) (k : ∀ a, m.cov (ℓ a) → H' a = H a ∧ ℓ' a = ℓ a) : Rep W ℓ' H' m v d := by
  refine h.conv m ⟨fun a o q => q.move (fun z => ?_) id, fun p a o q => q.move (fun z => ?_) id⟩
  · obtain ⟨k1, k2⟩ := k a (cov_imm z); exact ⟨by rw [k2]; exact z, k1⟩
  · obtain ⟨k1, k2⟩ := k a (cov_subs p m (cov_ok z)); exact ⟨by rw [k2]; exact z, k1⟩
/-- frozen things stay as long as what is frozen stays -/
theorem Rep.fz (h : Rep W ℓ H .fz v d) (k : ∀ a, ℓ a = .fz → H' a = H a ∧ ℓ' a = .fz) : Rep W ℓ' H' .fz v d := by
  refine h.frame fun a c => ?_
  rcases c with c | ⟨c, _⟩ | c
  · obtain ⟨k1, k2⟩ := k a c; exact ⟨k1, k2.trans c.symm⟩
  · cases c
  · exact c.elim
/-- a scalar stands for itself wherever it is -/
theorem Rep.flat (h : Rep W ℓ H m v d) (f : d.flat = true) : Rep W ℓ' H' m' v d := by
  cases h with
  | non => exact .non
  | bl b => exact .bl b
  | int b => exact .int b
  | str b => exact .str b
  | tup => cases f
  | lst => cases f
  | obj => cases f
/-- owned things go to another root or another place, some of them for good -/
theorem Rep.relab {r r' : Root} {p p' : List Nat} {n n' : Nat} (h : Rep W ℓ H (.own r p n) v d) (hn : n' ≤ n) (kf : ∀ a, ℓ a = .fz → H' a = H a ∧ ℓ' a = .fz)
    (k : ∀ a q, ℓ a = .own r (p ++ q) → H' a = H a ∧ ℓ' a = if q.length < n' then .own r' (p' ++ q) else .fz) : Rep W ℓ' H' (.own r' p' n') v d := by
  have kf' : ∀ {a o}, NA W.1 ℓ H .fz a o → NA W.1 ℓ' H' .fz a o := fun {a o} x => x.move (m := .fz) (m' := .fz) (fun z => by obtain ⟨k1, k2⟩ := kf a z; exact ⟨k2, k1⟩) id
  refine h.conv _ ⟨fun a o q => kf' q, fun q a o x => ?_⟩
  by_cases hq : q.length ≤ n
  · rw [own_subs r q p n hq] at x
    by_cases hq' : q.length ≤ n'
    · rw [own_subs r' q p' n' hq']
      generalize e : n - q.length = j at x
      generalize e' : n' - q.length = j'
      refine x.move (fun z => ?_) (fun z => nomatch z)
      cases j with
      | zero =>
        obtain ⟨k1, k2⟩ := kf a z
        obtain rfl : j' = 0 := by omega
        exact ⟨k2, k1⟩
      | succ j =>
        obtain ⟨k1, k2⟩ := k a q z
        refine ⟨?_, k1⟩
        cases j' with
        | zero => rw [if_neg (by omega)] at k2; exact k2
        | succ j' => rw [if_pos (by omega)] at k2; exact k2
    · rw [own_subs_fz r' q p' n' (by omega)]
      generalize e : n - q.length = j at x
      refine x.move (fun z => ?_) (fun z => nomatch z)
      cases j with
      | zero => obtain ⟨k1, k2⟩ := kf a z; exact ⟨k2, k1⟩
      | succ j =>
        obtain ⟨k1, k2⟩ := k a q z
        rw [if_neg (by omega)] at k2
        exact ⟨k2, k1⟩
  · rw [own_subs_fz r q p n (by omega)] at x
    rw [own_subs_fz r' q p' n' (by omega)]
    exact kf' x
/-- owned things go to another root or place as they are -/
theorem Rep.mv {r r' : Root} {p p' : List Nat} {n : Nat} (h : Rep W ℓ H (.own r p n) v d) (kf : ∀ a, ℓ a = .fz → H' a = H a ∧ ℓ' a = .fz)
    (k : ∀ a q, ℓ a = .own r (p ++ q) → H' a = H a ∧ ℓ' a = .own r' (p' ++ q)) : Rep W ℓ' H' (.own r' p' n) v d := by
  have kf' : ∀ {a o}, NA W.1 ℓ H .fz a o → NA W.1 ℓ' H' .fz a o := fun {a o} x => x.move (m := .fz) (m' := .fz) (fun z => by obtain ⟨k1, k2⟩ := kf a z; exact ⟨k2, k1⟩) id
  refine h.conv _ ⟨fun a o q => kf' q, fun q a o x => ?_⟩
  by_cases hq : q.length ≤ n
  · rw [own_subs r q p n hq] at x
    rw [own_subs r' q p' n hq]
    generalize n - q.length = e at x ⊢
    cases e with
    | zero => exact x.move (fun z => by obtain ⟨k1, k2⟩ := kf a z; exact ⟨k2, k1⟩) (fun z => nomatch z)
    | succ j => exact x.move (fun z => by obtain ⟨k1, k2⟩ := k a q z; exact ⟨k2, k1⟩) (fun z => nomatch z)
  · rw [own_subs_fz r q p n (by omega)] at x
    rw [own_subs_fz r' q p' n (by omega)]
    exact kf' x
/-- depth 0 is frozen -/
theorem Rep.own0 {r : Root} {p : List Nat} : Rep W ℓ H (.own r p 0) v d ↔ Rep W ℓ H .fz v d := by
  constructor
  · intro h
    refine h.conv _ ⟨fun a o q => q, fun p a o q => ?_⟩
    cases p with
    | nil => exact NA.move (m := .own r _ 0) (m' := .fz) q (fun z => ⟨z, rfl⟩) (fun z => nomatch z)
    | cons k p => exact q
  · intro h
    refine h.conv _ ⟨fun a o q => q, fun p a o q => ?_⟩
    cases p with
    | nil => exact NA.move (m := .fz) (m' := .own r _ 0) q (fun z => ⟨z, rfl⟩) (fun z => nomatch z)
    | cons k p => exact q
/-- any value is lent where all that it meets is lent -/
theorem Rep.lend (h : Rep W ℓ H m v d) (k : ∀ a, m.cov (ℓ a) → H' a = H a ∧ (ℓ' a = .fz ∨ ℓ' a = .bw)) : Rep W ℓ' H' .bw v d := by
  refine h.conv _ ⟨fun a o q => q.move (fun z => ?_) (fun _ => rfl), fun p a o q => ?_⟩
  · obtain ⟨k1, k2⟩ := k a (cov_imm z); exact ⟨k2, k1⟩
  · rw [show Md.bw.subs p = Md.bw from imm_subs' .bw p]
    exact q.move (fun z => by obtain ⟨k1, k2⟩ := k a (cov_subs p m (cov_ok z)); exact ⟨k2, k1⟩) (fun _ => rfl)
end
end DL

set_option Elab.async false
set_option linter.all false
set_option maxRecDepth 100000
/-! D2: the state of a def as plain data -/
namespace DL
open PySem PySem.Spec PyProof.Rows L2

/-- what a name holds -/
inductive SV | dat (n : Nat) (d : D) | brw (d : D) | als (j : Nat) (p : List Nat)
/-- what an expression gives -/
inductive DV | dat (n : Nat) (d : D) | brw (d : D) | plc (j : Nat) (p : List Nat) (d : D)
structure DS where
  sl : List (Option SV)
  lk : List Nat
def DV.d : DV → D
  | .dat _ d | .brw d | .plc _ _ d => d
def DV.root? : DV → Option Nat
  | .plc j _ _ => some j
  | _ => none
abbrev Temps := List (DV × V)
def roots (F : Temps) : List Nat := F.filterMap fun x => x.1.root?

/-- v' stands at the path p below v -/
inductive At (H : Hp) : V → List Nat → V → Prop
  | nil {v} : At H v [] v
  | lst {a k p} {vs : List V} {v1 v' : V} : H a = some (.lst vs) → vs[k]? = some v1 → At H v1 p v' → At H (.ref a) (k :: p) v'
  | ins {a k p C dx} {fs : List (Str × V)} {n : Str} {v1 v' : V} : H a = some (.ins C dx fs) → fs[k]? = some (n, v1) → At H v1 p v' → At H (.ref a) (k :: p) v'

section
variable {W : Wd} {ℓ ℓ' : Addr → Lab} {H H' : Hp} {m m' : Md} {v v' : V} {d d' : D}
theorem NA.own {r : Root} {p : List Nat} {n : Nat} {a : Addr} {o : HO} (h : NA W.1 ℓ H (.own r p (n + 1)) a o) : ℓ a = .own r p ∧ H a = some o := by
  exact h.nb (fun z => nomatch z)
theorem At.rep (h : At H v p v') : ∀ {r q n d}, Rep W ℓ H (.own r q n) v d → p.length ≤ n → getAt d p = some d' → Rep W ℓ H (.own r (q ++ p) (n - p.length)) v' d' := by
  induction h with
  | nil =>
    intro r q n d x _ g
    cases g
    rw [List.append_nil]; exact x
  | @lst a k p vs v1 v' h1 h2 h3 ih =>
    intro r q n d x hn g
    obtain ⟨n, rfl⟩ : ∃ j, n = j + 1 := ⟨n - 1, by simp at hn; omega⟩
    cases x with
    | tup y => 
      simp [getAt, D.at?] at g
    | lst y1 y2 y3 =>
      obtain ⟨_, y4⟩ := NA.own y1
      rw [h1] at y4; cases y4
      simp only [getAt, D.at?] at g
      obtain ⟨c, g1, g2⟩ := Option.bind_eq_some_iff.mp g
      have := ih (y3 k v1 c h2 g1) (by simp at hn; omega) g2
      simpa [List.append_assoc] using this
    | obj y0 y1 y2 y3 =>
      obtain ⟨_, y4⟩ := NA.own y1
      rw [h1] at y4; cases y4
  | @ins a k p C dx fs nm v1 v' h1 h2 h3 ih =>
    intro r q n d x hn g
    obtain ⟨n, rfl⟩ : ∃ j, n = j + 1 := ⟨n - 1, by simp at hn; omega⟩
    cases x with
    | tup y => simp [getAt, D.at?] at g
    | lst y1 y2 y3 =>
      obtain ⟨_, y4⟩ := NA.own y1
      rw [h1] at y4; cases y4
    | obj y0 y1 y2 y3 =>
      obtain ⟨_, y4⟩ := NA.own y1
      rw [h1] at y4; cases y4
      simp only [getAt, D.at?] at g
      obtain ⟨c, g1, g2⟩ := Option.bind_eq_some_iff.mp g
      obtain ⟨⟨nm', c'⟩, g3, rfl⟩ := Option.map_eq_some_iff.mp g1
      have := ih (y3 k nm v1 nm' c' h2 g3) (by simp at hn; omega) g2
      simpa [List.append_assoc] using this
/-- the nodes passed stay: the path stays -/
theorem At.frame (h : At H v p v') : ∀ {r q n d}, Rep W ℓ H (.own r q n) v d → p.length ≤ n → (getAt d p).isSome = true → (∀ a s, s.length < p.length → s <+: p → ℓ a = .own r (q ++ s) → H' a = H a) → At H' v p v' := by
  induction h with
  | nil => intros; exact .nil
  | @lst a k p vs v1 v' h1 h2 h3 ih =>
    intro r q n d x hn g k0
    obtain ⟨n, rfl⟩ : ∃ j, n = j + 1 := ⟨n - 1, by simp at hn; omega⟩
    cases x with
    | tup y => simp [getAt, D.at?] at g
    | lst y1 y2 y3 =>
      obtain ⟨y5, y4⟩ := NA.own y1
      rw [h1] at y4; cases y4
      have e : H' a = H a := k0 a [] (by simp) (by simp) (by rw [List.append_nil]; exact y5)
      simp only [getAt, D.at?] at g
      rename_i ds
      cases gk : ds[k]? with
      | none => rw [gk] at g; cases g
      | some c =>
        rw [gk] at g
        refine .lst (e.trans h1) h2 (ih (y3 k v1 c h2 gk) (by simp at hn; omega) g fun b s hs hp hb => k0 b (k :: s) (by simp; omega) ?_ ?_)
        · exact (List.prefix_cons_inj k).mpr hp
        · rw [hb]; simp
    | obj y0 y1 y2 y3 =>
      obtain ⟨_, y4⟩ := NA.own y1
      rw [h1] at y4; cases y4
  | @ins a k p C dx fs nm v1 v' h1 h2 h3 ih =>
    intro r q n d x hn g k0
    obtain ⟨n, rfl⟩ : ∃ j, n = j + 1 := ⟨n - 1, by simp at hn; omega⟩
    cases x with
    | tup y => simp [getAt, D.at?] at g
    | lst y1 y2 y3 =>
      obtain ⟨_, y4⟩ := NA.own y1
      rw [h1] at y4; cases y4
    | @obj _ _ _ _ _ _ fd y0 y1 y2 y3 =>
      obtain ⟨y5, y4⟩ := NA.own y1
      rw [h1] at y4; cases y4
      have e : H' a = H a := k0 a [] (by simp) (by simp) (by rw [List.append_nil]; exact y5)
      simp only [getAt, D.at?] at g
      cases gk : fd[k]? with
      | none => rw [gk] at g; cases g
      | some c =>
        rw [gk] at g
        refine .ins (e.trans h1) h2 (ih (y3 k nm v1 c.1 c.2 h2 gk) (by simp at hn; omega) g fun b s hs hp hb => k0 b (k :: s) (by simp; omega) ?_ ?_)
        · exact (List.prefix_cons_inj k).mpr hp
        · rw [hb]; simp
theorem At.app (h : At H v p v1) (h2 : At H v1 q v') : At H v (p ++ q) v' := by
  induction h with
  | nil => exact h2
  | lst a b c ih => exact .lst a b (ih h2)
  | ins a b c ih => exact .ins a b (ih h2)
theorem getAt_app : ∀ {p q : List Nat} {d d1 : D}, getAt d p = some d1 → getAt d (p ++ q) = getAt d1 q
  | [], q, d, d1, h => by cases h; rfl
  | k :: p, q, d, d1, h => by
    simp only [getAt, List.cons_append] at h ⊢
    obtain ⟨c, h1, h2⟩ := Option.bind_eq_some_iff.mp h
    rw [h1]
    exact getAt_app (p := p) (q := q) h2
end

/-- what such a slot holds -/
def io0 (io : IOs) (s0 : L2.St) (k : Nat) : Option (Option V) := match io.fx.lookup k with
  | some a => some (some (.ref a))
  | none => s0[k]?
/-- the entry of a def: the heap, the labels, the slots that the caller lends for writing -/
structure Ent where
  H0 : Hp
  l0 : Addr → Lab
  s0 : L2.St

section
variable (W : Wd) (ℓ : Addr → Lab) (H : Hp)
/-- the owned place p below the name j -/
def PlR (sl : List (Option SV)) (σ : L2.St) (j : Nat) (p : List Nat) (v : V) (d : D) : Prop :=
  ∃ n dj vj, sl[j]? = some (some (.dat n dj)) ∧ p.length < n ∧ σ[j]? = some (some vj) ∧ At H vj p v ∧ getAt dj p = some d ∧ d.cont = true
def SlR (sl : List (Option SV)) (σ : L2.St) (i : Nat) : SV → V → Prop
  | .dat n d, v => Rep W ℓ H (.own (.slot i) [] n) v d
  | .brw d, v => Rep W ℓ H .bw v d
  | .als j p, v => ∃ d, PlR H sl σ j p v d
/-- is the place still owned? -/
def owned (sl : List (Option SV)) (j : Nat) (p : List Nat) : Bool := match sl[j]? with
  | some (some (.dat n _)) => decide (p.length < n)
  | _ => false
def TmR (sl : List (Option SV)) (σ : L2.St) (t : Nat) : DV → V → Prop
  | .dat n d, v => Rep W ℓ H (.own (.tmp t) [] n) v d
  | .brw d, v => Rep W ℓ H .bw v d
  | .plc j p d, v => if owned sl j p = true then PlR H sl σ j p v d else Rep W ℓ H .fz v d
def TmRs (sl : List (Option SV)) (σ : L2.St) : Temps → Prop
  | [] => True
  | (x, v) :: F => TmR W ℓ H sl σ F.length x v ∧ TmRs sl σ F
structure SIw (B : Ent) (s : DS) (F : Temps) (σ : L2.St) : Prop where
  len : s.sl.length = σ.length
  lab : ∀ a, ℓ a ≠ .no → H a ≠ none
  prot : ∀ a, (B.l0 a = .fz ∨ B.l0 a = .bw) → H a = B.H0 a ∧ ℓ a = B.l0 a
  bw : ∀ a, ℓ a = .bw → B.l0 a = .bw
  keep : ∀ a, B.H0 a ≠ none → H a ≠ none
  ios : ∀ k ∈ W.2.2, σ[k]? = io0 W.2.2 B.s0 k
  lks : s.lk = roots F
  slots : ∀ i x, s.sl[i]? = some (some x) → ∃ v, σ[i]? = some (some v) ∧ SlR W ℓ H s.sl σ i x v
  temps : TmRs W ℓ H s.sl σ F
end
def SI (W : Wd) (B : Ent) (s : DS) (F : Temps) (σ : L2.St) (H : Hp) : Prop := ∃ ℓ, SIw W ℓ H B s F σ

section
variable {W : Wd} {ℓ ℓ' : Addr → Lab} {H H' : Hp} {B : Ent} {s s' : DS} {sl : List (Option SV)} {F : Temps} {i j t : Nat} {y : SV} {p : List Nat} {σ σ' : L2.St} {v : V} {d : D} {x : DV}
/-- the labels and heap change only where none of F's temps below t, no slot and nothing frozen or lent is -/
theorem TmR.same (h : TmR W ℓ H sl σ t x v) (k : ∀ a, (ℓ a = .fz ∨ ℓ a = .bw ∨ (∃ i q, ℓ a = .own (.slot i) q) ∨ ∃ q, ℓ a = .own (.tmp t) q) → H' a = H a ∧ ℓ' a = ℓ a)
    (hs : ∀ i x, sl[i]? = some (some x) → ∃ v, σ[i]? = some (some v) ∧ SlR W ℓ H sl σ i x v) : TmR W ℓ' H' sl σ t x v := by
  cases x with
  | dat n d =>
    refine Rep.frame h fun a c => k a ?_
    rcases c with c | ⟨c, _⟩ | ⟨q, c⟩
    · exact .inl c
    · cases c
    · exact .inr (.inr (.inr ⟨q, by simpa using c⟩))
  | brw d =>
    refine Rep.frame h fun a c => k a ?_
    rcases c with c | ⟨_, c⟩ | c
    · exact .inl c
    · exact .inr (.inl c)
    · exact c.elim
  | plc j p d =>
    show if owned sl j p = true then PlR H' sl σ j p v d else Rep W ℓ' H' .fz v d
    have h : if owned sl j p = true then PlR H sl σ j p v d else Rep W ℓ H .fz v d := h
    by_cases o : owned sl j p = true
    · rw [if_pos o] at h ⊢
      obtain ⟨n, dj, vj, h1, h2, h3, h4, h5, h6⟩ := h
      refine ⟨n, dj, vj, h1, h2, h3, ?_, h5, h6⟩
      obtain ⟨v', e1, e2⟩ := hs j _ h1
      rw [h3] at e1; cases e1
      exact h4.frame e2 (Nat.le_of_lt h2) (by rw [h5]; rfl) fun a s _ _ e => (k a (.inr (.inr (.inl ⟨j, s, by simpa using e⟩)))).1
    · rw [if_neg o] at h ⊢
      exact Rep.fz h fun a c => by obtain ⟨k1, k2⟩ := k a (.inl c); exact ⟨k1, k2.trans c⟩
theorem TmRs.same : ∀ {F : Temps}, TmRs W ℓ H sl σ F → (∀ a, (ℓ a = .fz ∨ ℓ a = .bw ∨ (∃ i q, ℓ a = .own (.slot i) q) ∨ ∃ t q, t < F.length ∧ ℓ a = .own (.tmp t) q) → H' a = H a ∧ ℓ' a = ℓ a) →
    (∀ i x, sl[i]? = some (some x) → ∃ v, σ[i]? = some (some v) ∧ SlR W ℓ H sl σ i x v) → TmRs W ℓ' H' sl σ F
  | [], _, _, _ => trivial
  | (x, v) :: F, h, k, hs => by
    refine ⟨h.1.same (fun a c => k a ?_) hs, TmRs.same h.2 (fun a c => k a ?_) hs⟩
    · rcases c with c | c | c | ⟨q, c⟩
      · exact .inl c
      · exact .inr (.inl c)
      · exact .inr (.inr (.inl c))
      · exact .inr (.inr (.inr ⟨_, q, Nat.lt_succ_self _, c⟩))
    · rcases c with c | c | c | ⟨t, q, ht, c⟩
      · exact .inl c
      · exact .inr (.inl c)
      · exact .inr (.inr (.inl c))
      · exact .inr (.inr (.inr ⟨t, q, Nat.lt_succ_of_lt ht, c⟩))
theorem SlR.same (h : SlR W ℓ H sl σ i y v) (k : ∀ a, (ℓ a = .fz ∨ ℓ a = .bw ∨ ∃ i q, ℓ a = .own (.slot i) q) → H' a = H a ∧ ℓ' a = ℓ a)
    (hs : ∀ i x, sl[i]? = some (some x) → ∃ v, σ[i]? = some (some v) ∧ SlR W ℓ H sl σ i x v) : SlR W ℓ' H' sl σ i y v := by
  cases y with
  | dat n d =>
    refine Rep.frame h fun a c => k a ?_
    rcases c with c | ⟨c, _⟩ | ⟨q, c⟩
    · exact .inl c
    · cases c
    · exact .inr (.inr ⟨i, q, by simpa using c⟩)
  | brw d =>
    refine Rep.frame h fun a c => k a ?_
    rcases c with c | ⟨_, c⟩ | c
    · exact .inl c
    · exact .inr (.inl c)
    · exact c.elim
  | als j p =>
    obtain ⟨d, n, dj, vj, h1, h2, h3, h4, h5, h6⟩ := h
    refine ⟨d, n, dj, vj, h1, h2, h3, ?_, h5, h6⟩
    obtain ⟨v', e1, e2⟩ := hs j _ h1
    rw [h3] at e1; cases e1
    exact h4.frame e2 (Nat.le_of_lt h2) (by rw [h5]; rfl) fun a s _ _ e => (k a (.inr (.inr ⟨j, s, by simpa using e⟩))).1
/-- a change that touches nothing that is held -/
theorem SIw.same (I : SIw W ℓ H B s F σ) (k : ∀ a, (ℓ a = .fz ∨ ℓ a = .bw ∨ (∃ i q, ℓ a = .own (.slot i) q) ∨ ∃ t q, t < F.length ∧ ℓ a = .own (.tmp t) q) → H' a = H a ∧ ℓ' a = ℓ a)
    (lab : ∀ a, ℓ' a ≠ .no → H' a ≠ none) (bw : ∀ a, ℓ' a = .bw → ℓ a = .bw) (keep : ∀ a, H a ≠ none → H' a ≠ none) : SIw W ℓ' H' B s F σ where
  len := I.len
  lab := lab
  prot := fun a c => by
    obtain ⟨k1, k2⟩ := I.prot a c
    obtain ⟨k3, k4⟩ := k a (by rw [k2]; rcases c with c | c; exact .inl c; exact .inr (.inl c))
    exact ⟨k3.trans k1, k4.trans k2⟩
  bw := fun a c => I.bw a (bw a c)
  keep := fun a c => keep a (I.keep a c)
  ios := I.ios
  lks := I.lks
  slots := fun i x e => by
    obtain ⟨v, e1, e2⟩ := I.slots i x e
    refine ⟨v, e1, e2.same (fun a c => k a ?_) I.slots⟩
    rcases c with c | c | c
    · exact .inl c
    · exact .inr (.inl c)
    · exact .inr (.inr (.inl c))
  temps := I.temps.same k I.slots

/-- a new temp that the same labels bear -/
theorem SIw.push (I : SIw W ℓ H B s F σ) (h : TmR W ℓ H s.sl σ F.length x v) (hx : x.root? = none) : SIw W ℓ H B s ((x, v) :: F) σ :=
  { I with lks := by rw [I.lks]; unfold roots; rw [List.filterMap_cons]; simp only []; rw [hx], temps := ⟨h, I.temps⟩ }
theorem SIw.pushP (I : SIw W ℓ H B s F σ) (h : TmR W ℓ H s.sl σ F.length (.plc j p d) v) : SIw W ℓ H B { s with lk := j :: s.lk } ((.plc j p d, v) :: F) σ where
  len := I.len
  lab := I.lab
  prot := I.prot
  bw := I.bw
  keep := I.keep
  ios := I.ios
  lks := by show j :: s.lk = _; rw [I.lks]; rfl
  slots := I.slots
  temps := ⟨h, I.temps⟩
/-- a temp is dropped -/
def unl (x : DV) (s : DS) : DS := match x with
  | .plc _ _ _ => { s with lk := s.lk.tail }
  | _ => s
theorem unl_sl (x : DV) (s : DS) : (unl x s).sl = s.sl := by cases x <;> rfl
theorem SIw.drop (I : SIw W ℓ H B s ((x, v) :: F) σ) : SIw W ℓ H B (unl x s) F σ := by
  have e := I.lks
  cases x with
  | dat n d => exact { I with lks := e, temps := I.temps.2 }
  | brw d => exact { I with lks := e, temps := I.temps.2 }
  | plc j p d =>
    exact ⟨I.len, I.lab, I.prot, I.bw, I.keep, I.ios, by show s.lk.tail = _; rw [e]; rfl, I.slots, I.temps.2⟩
theorem SI.drop (I : SI W B s ((x, v) :: F) σ H) : SI W B (unl x s) F σ H := let ⟨ℓ, I⟩ := I; ⟨ℓ, I.drop⟩
/-- a scalar comes -/
theorem SI.flat (I : SI W B s F σ H) (f : ∀ ℓ, Rep W ℓ H .fz v d) : SI W B s ((.dat 0 d, v) :: F) σ H := let ⟨ℓ, I⟩ := I; ⟨ℓ, I.push (Rep.own0.mpr (f ℓ)) rfl⟩

def labUpd (ℓ : Addr → Lab) (a : Addr) (l : Lab) : Addr → Lab := fun b => if b = a then l else ℓ b
theorem labUpd_same {a : Addr} {l : Lab} : labUpd ℓ a l a = l := if_pos rfl
theorem labUpd_ne {a b : Addr} {l : Lab} (h : b ≠ a) : labUpd ℓ a l b = ℓ b := if_neg h
theorem SIw.fresh (I : SIw W ℓ H B s F σ) {a : Addr} (h : H a = none) : ℓ a = .no := by
  cases e : ℓ a with
  | no => rfl
  | _ => exact absurd h (I.lab a (by rw [e]; exact fun z => nomatch z))
/-- a new object, labelled l -/
theorem SIw.alloc (I : SIw W ℓ H B s F σ) {a : Addr} {o : HO} {l : Lab} (h : H a = none) (hl : l ≠ .bw) : SIw W (labUpd ℓ a l) (upd H a o) B s F σ := by
  have e := I.fresh h
  have ne : ∀ b, ℓ b ≠ .no → b ≠ a := fun b c z => c (by rw [z]; exact e)
  refine I.same (fun b c => ?_) (fun b c => ?_) (fun b c => ?_) (fun b c => ?_)
  · have : b ≠ a := ne b (by rcases c with c | c | ⟨_, _, c⟩ | ⟨_, _, _, c⟩ <;> (rw [c]; exact fun z => nomatch z))
    exact ⟨upd_ne this, labUpd_ne this⟩
  · by_cases hb : b = a
    · rw [hb, upd_same]; exact fun z => nomatch z
    · rw [upd_ne hb]; rw [labUpd_ne hb] at c; exact I.lab b c
  · by_cases hb : b = a
    · rw [hb, labUpd_same] at c; exact absurd c hl
    · rw [labUpd_ne hb] at c; exact c
  · by_cases hb : b = a
    · rw [hb, upd_same]; exact fun z => nomatch z
    · rw [upd_ne hb]; exact c
/-- the frozen stays frozen behind a new object -/
theorem SIw.fzK (I : SIw W ℓ H B s F σ) {a : Addr} {o : HO} {l : Lab} (h : H a = none) (r : Rep W ℓ H .fz v d) : Rep W (labUpd ℓ a l) (upd H a o) .fz v d := by
  refine r.fz fun b c => ?_
  have : b ≠ a := fun z => by rw [z, I.fresh h] at c; cases c
  exact ⟨upd_ne this, by rw [labUpd_ne this]; exact c⟩
/-- a new list of frozen things -/
theorem SIw.newL (I : SIw W ℓ H B s F σ) {a : Addr} {vs : List V} {ds : List D} (h : H a = none) (hl : vs.length = ds.length) (r : ∀ (k : Nat) (v : V) (d : D), vs[k]? = some v → ds[k]? = some d → Rep W ℓ H .fz v d) :
    SI W B s ((.dat 1 (.lst ds), .ref a) :: F) σ (upd H a (.lst vs)) := by
  refine ⟨labUpd ℓ a (.own (.tmp F.length) []), (I.alloc (l := .own (.tmp F.length) []) h (by simp)).push (x := .dat 1 (.lst ds)) ?_ rfl⟩
  refine Rep.lst ?_ hl fun k v d a1 a2 => Rep.own0.mpr (I.fzK h (r k v d a1 a2))
  exact .inl ⟨labUpd_same, upd_same⟩
/-- a new tuple of frozen things -/
theorem SIw.newT (I : SIw W ℓ H B s F σ) {a : Addr} {f : Obj} (hf : f.dict = none) {vs : List V} {ds : List D} (h : H a = none) (hl : vs.length = ds.length) (r : ∀ (k : Nat) (v : V) (d : D), vs[k]? = some v → ds[k]? = some d → Rep W ℓ H .fz v d) :
    SI W B s ((.dat 0 (.tup ds), .ref a) :: F) σ (upd H a (.frz f (.tup vs))) := by
  refine ⟨labUpd ℓ a .fz, (I.alloc (l := .fz) h (by simp)).push (x := .dat 0 (.tup ds)) (Rep.own0.mpr ?_) rfl⟩
  refine Rep.tup ?_ hl fun k v d a1 a2 => I.fzK h (r k v d a1 a2)
  exact ⟨f, hf, .inl ⟨labUpd_same, upd_same⟩⟩
end
end DL

set_option Elab.async false
set_option linter.all false
set_option maxRecDepth 100000
/-! D3: how the state turns -/
namespace DL
open PySem PySem.Spec PyProof.Rows L2
section
variable {W : Wd} {ℓ ℓ' : Addr → Lab} {H H' : Hp} {B : Ent} {s s' : DS} {sl : List (Option SV)} {F : Temps} {i j t : Nat} {y : SV} {p : List Nat} {σ σ' : L2.St} {v : V} {d : D} {x : DV} {n n' : Nat}

/-! ### freezing -/
def labDown (ℓ : Addr → Lab) (r : Root) (n : Nat) : Addr → Lab := fun a => match ℓ a with
  | .own r' q => if r' = r ∧ n ≤ q.length then .fz else .own r' q
  | l => l
theorem labDown_fz {r : Root} {a : Addr} (h : ℓ a = .fz) : labDown ℓ r n a = .fz := by unfold labDown; rw [h]
theorem labDown_bw {r : Root} {a : Addr} : labDown ℓ r n a = .bw ↔ ℓ a = .bw := by
  unfold labDown; cases e : ℓ a <;> simp
  split <;> simp
theorem labDown_no {r : Root} {a : Addr} : labDown ℓ r n a = .no ↔ ℓ a = .no := by
  unfold labDown; cases e : ℓ a <;> simp
  split <;> simp
theorem labDown_other {r r' : Root} {a : Addr} {q : List Nat} (h : ℓ a = .own r' q) (hr : r' ≠ r) : labDown ℓ r n a = .own r' q := by
  unfold labDown; rw [h]; simp [hr]
theorem labDown_self {r : Root} {a : Addr} {q : List Nat} (h : ℓ a = .own r q) : labDown ℓ r n a = if q.length < n then .own r q else .fz := by
  unfold labDown; rw [h]
  by_cases c : n ≤ q.length
  · simp [c, Nat.not_lt.mpr c]
  · simp [c, Nat.lt_of_not_le c]
theorem SIw.prot_down {r : Root} (I : SIw W ℓ H B s F σ) : (∀ a, labDown ℓ r n a ≠ .no → H a ≠ none) ∧ (∀ a, (B.l0 a = .fz ∨ B.l0 a = .bw) → H a = B.H0 a ∧ labDown ℓ r n a = B.l0 a) ∧ (∀ a, labDown ℓ r n a = .bw → B.l0 a = .bw) := by
  refine ⟨fun a c => I.lab a fun z => c (labDown_no.mpr z), fun a c => ?_, fun a c => I.bw a (labDown_bw.mp c)⟩
  obtain ⟨k1, k2⟩ := I.prot a c
  refine ⟨k1, ?_⟩
  rcases c with c | c
  · rw [c] at k2 ⊢; exact labDown_fz k2
  · rw [c] at k2 ⊢; exact labDown_bw.mpr k2
/-- a temp of one's own is frozen below n' -/
theorem SIw.downT (I : SIw W ℓ H B s ((.dat n d, v) :: F) σ) (hn : n' ≤ n) : SIw W (labDown ℓ (.tmp F.length) n') H B s ((.dat n' d, v) :: F) σ := by
  obtain ⟨c1, c2, c3⟩ := I.prot_down (r := .tmp F.length) (n := n')
  have k : ∀ a, (ℓ a = .fz ∨ ℓ a = .bw ∨ (∃ i q, ℓ a = .own (.slot i) q) ∨ ∃ t q, t < F.length ∧ ℓ a = .own (.tmp t) q) → H a = H a ∧ labDown ℓ (.tmp F.length) n' a = ℓ a := fun a c => ⟨rfl, by
    rcases c with c | c | ⟨i, q, c⟩ | ⟨t, q, ht, c⟩
    · rw [c]; exact labDown_fz c
    · rw [c]; exact labDown_bw.mpr c
    · rw [c]; exact labDown_other c (by simp)
    · rw [c]; exact labDown_other c (by simp; omega)⟩
  refine ⟨I.len, c1, c2, c3, I.keep, I.ios, I.lks, fun i x e => ?_, ?_, I.temps.2.same k I.slots⟩
  · obtain ⟨v, e1, e2⟩ := I.slots i x e
    refine ⟨v, e1, e2.same (fun a c => k a ?_) I.slots⟩
    rcases c with c | c | c
    · exact .inl c
    · exact .inr (.inl c)
    · exact .inr (.inr (.inl c))
  · exact Rep.relab (r' := .tmp F.length) (p' := []) (show Rep W ℓ H (.own (.tmp F.length) [] n) v d from I.temps.1) hn (fun a c => ⟨rfl, labDown_fz c⟩) fun a q c => ⟨rfl, by
      rw [labDown_self c]; rfl⟩

/-- the root j frozen below n -/
def downX (dj : D) (j n : Nat) : Option SV → Option SV
  | some (.als j' p) => if j' = j ∧ n ≤ p.length then (getAt dj p).map (.dat 0) else some (.als j' p)
  | x => x
def downS (sl : List (Option SV)) (j n : Nat) : List (Option SV) := match sl[j]? with
  | some (some (.dat m dj)) => (sl.map (downX dj j n)).set j (some (.dat (min m n) dj))
  | _ => sl
theorem downS_len : (downS sl j n).length = sl.length := by
  unfold downS; split <;> simp
theorem downS_self {dj : D} (h : sl[j]? = some (some (.dat n dj))) : (downS sl j n')[j]? = some (some (.dat (min n n') dj)) := by
  unfold downS; rw [h]
  have : j < sl.length := (List.getElem?_eq_some_iff.mp h).1
  simp [List.getElem?_set, this]
theorem downS_other {dj : D} (h : sl[j]? = some (some (.dat n dj))) (hi : i ≠ j) : (downS sl j n')[i]? = (sl[i]?).map (downX dj j n') := by
  unfold downS; rw [h]
  simp [List.getElem?_set, Ne.symm hi]
theorem downS_dat {dj : D} {e : D} {k : Nat} (h : sl[j]? = some (some (.dat n dj))) (hi : i ≠ j) (h2 : sl[i]? = some (some (.dat k e))) : (downS sl j n')[i]? = some (some (.dat k e)) := by
  rw [downS_other h hi, h2]; rfl
theorem SIw.downS {dj : D} (I : SIw W ℓ H B s F σ) (hj : s.sl[j]? = some (some (.dat n dj))) : SIw W (labDown ℓ (.slot j) (min n n')) H B { s with sl := downS s.sl j n' } F σ := by
  obtain ⟨c1, c2, c3⟩ := I.prot_down (r := .slot j) (n := min n n')
  obtain ⟨vj, ej, rj⟩ := I.slots j _ hj
  have rj : Rep W ℓ H (.own (.slot j) [] n) vj dj := rj
  have fzK : ∀ a, ℓ a = .fz → H a = H a ∧ labDown ℓ (.slot j) (min n n') a = .fz := fun a c => ⟨rfl, labDown_fz c⟩
  -- owned places that stay
  have pl : ∀ {j' p v d}, PlR H s.sl σ j' p v d → (j' ≠ j ∨ p.length < n') → PlR H (DL.downS s.sl j n') σ j' p v d := by
    rintro j' p v d ⟨k, e, vk, h1, h2, h3, h4, h5, h6⟩ c
    by_cases hj' : j' = j
    · subst hj'
      rw [hj] at h1; cases h1
      exact ⟨_, _, vk, downS_self hj, by rcases c with c | c; exact absurd rfl c; omega, h3, h4, h5, h6⟩
    · exact ⟨_, _, vk, downS_dat hj hj' h1, h2, h3, h4, h5, h6⟩
  -- places that are frozen now
  have gone : ∀ {p v d}, PlR H s.sl σ j p v d → n' ≤ p.length → Rep W (labDown ℓ (.slot j) (min n n')) H .fz v d := by
    rintro p v d ⟨k, e, vk, h1, h2, h3, h4, h5, h6⟩ c
    rw [hj] at h1; cases h1
    rw [ej] at h3; cases h3
    have := h4.rep rj (Nat.le_of_lt h2) h5
    refine Rep.own0.mp (Rep.relab (r' := .slot j) (p' := []) (n' := 0) this (Nat.zero_le _) fzK fun a q z => ⟨rfl, ?_⟩)
    rw [labDown_self z, if_neg (by simp; omega), if_neg (Nat.not_lt_zero _)]
  have bwK : ∀ {v d}, Rep W ℓ H .bw v d → Rep W (labDown ℓ (.slot j) (min n n')) H .bw v d := fun r => r.frame fun a c => ⟨rfl, by
    rcases c with c | ⟨_, c⟩ | c
    · rw [c]; exact labDown_fz c
    · rw [c]; exact labDown_bw.mpr c
    · exact c.elim⟩
  have ownK : ∀ {r : Root} {k v d}, r ≠ .slot j → Rep W ℓ H (.own r [] k) v d → Rep W (labDown ℓ (.slot j) (min n n')) H (.own r [] k) v d := fun hr r => r.frame fun a c => ⟨rfl, by
    rcases c with c | ⟨c, _⟩ | ⟨q, c⟩
    · rw [c]; exact labDown_fz c
    · cases c
    · rw [c]; exact labDown_other c hr⟩
  have fzR : ∀ {v d}, Rep W ℓ H .fz v d → Rep W (labDown ℓ (.slot j) (min n n')) H .fz v d := fun r => r.fz fzK
  have tms : ∀ F, TmRs W ℓ H s.sl σ F → TmRs W (labDown ℓ (.slot j) (min n n')) H (DL.downS s.sl j n') σ F := by
    intro F
    induction F with
    | nil => intro _; trivial
    | cons x F ih =>
      obtain ⟨x, v⟩ := x
      rintro ⟨h1, h2⟩
      refine ⟨?_, ih h2⟩
      cases x with
      | dat k d => exact ownK (by simp) h1
      | brw d => exact bwK h1
      | plc j' p d =>
        show if owned (DL.downS s.sl j n') j' p = true then PlR H (DL.downS s.sl j n') σ j' p v d else Rep W (labDown ℓ (.slot j) (min n n')) H .fz v d
        have h1 : if owned s.sl j' p = true then PlR H s.sl σ j' p v d else Rep W ℓ H .fz v d := h1
        by_cases hj' : j' = j
        · subst hj'
          have e1 : owned s.sl j' p = decide (p.length < n) := by unfold owned; rw [hj]
          have e2 : owned (DL.downS s.sl j' n') j' p = decide (p.length < min n n') := by unfold owned; rw [downS_self hj]
          rw [e1] at h1; rw [e2]
          by_cases c : p.length < n
          · rw [if_pos (by simpa using c)] at h1
            by_cases c2 : p.length < n'
            · rw [if_pos (by simp; omega)]
              exact pl h1 (.inr c2)
            · rw [if_neg (by simp; omega)]
              exact gone h1 (by omega)
          · rw [if_neg (by simpa using c)] at h1
            rw [if_neg (by simp; omega)]
            exact fzR h1
        · have e1 : owned (DL.downS s.sl j n') j' p = owned s.sl j' p := by
            unfold owned
            rw [downS_other hj hj']
            cases e : s.sl[j']? with
            | none => rfl
            | some y =>
              cases y with
              | none => rfl
              | some y =>
                cases y with
                | dat => rfl
                | brw => rfl
                | als j2 p2 =>
                  have q : ∀ z, downX dj j n' (some (.als j2 p2)) = z → (match some z with | some (some (SV.dat n _)) => decide (p.length < n) | _ => false) = false := by
                    intro z hz
                    unfold downX at hz
                    by_cases c : j2 = j ∧ n' ≤ p2.length
                    · simp only [if_pos c] at hz
                      subst hz
                      cases getAt dj p2 <;> simp
                    · simp only [if_neg c] at hz
                      subst hz
                      rfl
                  exact q _ rfl
          rw [e1]
          by_cases o : owned s.sl j' p = true
          · rw [if_pos o] at h1 ⊢
            exact pl h1 (.inl hj')
          · rw [if_neg o] at h1 ⊢
            exact fzR h1
  refine ⟨by show (DL.downS s.sl j n').length = _; rw [downS_len]; exact I.len, c1, c2, c3, I.keep, I.ios, I.lks, fun i x e => ?_, tms F I.temps⟩
  have e : (DL.downS s.sl j n')[i]? = some (some x) := e
  by_cases hi : i = j
  · subst hi
    rw [downS_self hj] at e; cases e
    refine ⟨vj, ej, ?_⟩
    exact Rep.relab (r' := .slot i) (p' := []) rj (Nat.min_le_left _ _) fzK fun a q z => ⟨rfl, by rw [labDown_self z]; rfl⟩
  · rw [downS_other hj hi] at e
    obtain ⟨x0, e0, e1⟩ := Option.map_eq_some_iff.mp e
    cases x0 with
    | none => cases e1
    | some x0 =>
      obtain ⟨v, ev, rv⟩ := I.slots i x0 e0
      refine ⟨v, ev, ?_⟩
      cases x0 with
      | dat k d => cases e1; exact ownK (by simp [hi]) rv
      | brw d => cases e1; exact bwK rv
      | als j2 p2 =>
        obtain ⟨d, rv⟩ := rv
        have e3 : (if j2 = j ∧ n' ≤ p2.length then (getAt dj p2).map (SV.dat 0) else some (.als j2 p2)) = some x := e1
        clear e1
        by_cases c : j2 = j ∧ n' ≤ p2.length
        · rw [if_pos c] at e3
          obtain ⟨rfl, c⟩ := c
          obtain ⟨d0, g, rfl⟩ := Option.map_eq_some_iff.mp e3
          obtain ⟨k, e, vk, h1, h2, h3, h4, h5, h6⟩ := id rv
          rw [hj] at h1; cases h1
          rw [h5] at g; cases g
          exact Rep.own0.mpr (gone rv c)
        · rw [if_neg c] at e3; cases e3
          exact ⟨d, pl rv (by
            by_cases q : j2 = j
            · exact .inr (Nat.lt_of_not_le fun z => c ⟨q, z⟩)
            · exact .inl q)⟩

/-! ### what is given on -/
/-- frozen: it may be stored anywhere -/
def esc (x : DV) (s : DS) : Option (D × DS) := match x with
  | .dat _ d => some (d, s)
  | .brw d => if d.flat = true then some (d, s) else none
  | .plc j p d => if owned s.sl j p = true then some (d, unl x { s with sl := downS s.sl j 0 }) else some (d, unl x s)
theorem SI.esc {d : D} (I : SI W B s ((x, v) :: F) σ H) (h : esc x s = some (d, s')) : SI W B s' ((.dat 0 d, v) :: F) σ H := by
  obtain ⟨ℓ, I⟩ := I
  cases x with
  | dat n d => cases h; exact ⟨_, I.downT (Nat.zero_le _)⟩
  | brw d0 =>
    unfold DL.esc at h
    by_cases f : d0.flat = true
    · simp only [if_pos f] at h; cases h
      have r : Rep W ℓ H .bw v d := I.temps.1
      exact ⟨ℓ, (I.drop).push (Rep.own0.mpr (r.flat f)) rfl⟩
    · simp only [if_neg f] at h; cases h
  | plc j p d0 =>
    unfold DL.esc at h
    by_cases o : owned s.sl j p = true
    · simp only [if_pos o] at h; cases h
      have e : ∃ n dj, s.sl[j]? = some (some (.dat n dj)) := by
        unfold owned at o
        cases q : s.sl[j]? with
        | none => rw [q] at o; cases o
        | some y =>
          cases y with
          | none => rw [q] at o; cases o
          | some y => cases y with
            | dat n dj => exact ⟨n, dj, rfl⟩
            | brw => rw [q] at o; cases o
            | als => rw [q] at o; cases o
      obtain ⟨n, dj, e⟩ := e
      have J := I.downS (n' := 0) e
      have t := J.temps.1
      have t : if owned (DL.downS s.sl j 0) j p = true then _ else Rep W _ H .fz v d := t
      have o2 : owned (DL.downS s.sl j 0) j p = false := by
        unfold owned; rw [downS_self e]; simp
      rw [if_neg (by rw [o2]; exact fun z => nomatch z)] at t
      exact ⟨_, J.drop.push (Rep.own0.mpr t) rfl⟩
    · simp only [if_neg o] at h; cases h
      have t : if owned s.sl j p = true then _ else Rep W ℓ H .fz v d := I.temps.1
      rw [if_neg o] at t
      exact ⟨_, I.drop.push (Rep.own0.mpr t) rfl⟩

/-! ### parts -/
/-- the k-th part c of x -/
def dsub (x : DV) (k : Nat) (c : D) (s : DS) : DV × DS := match x with
  | .dat _ _ => (.dat 0 c, s)
  | .brw _ => (if c.flat = true then .dat 0 c else .brw c, s)
  | .plc j p _ => if owned s.sl j (p ++ [k]) = true && c.cont = true then (.plc j (p ++ [k]) c, s) else (.dat 0 c, unl x s)
theorem owned_iff : owned sl j p = true ↔ ∃ n dj, sl[j]? = some (some (.dat n dj)) ∧ p.length < n := by
  unfold owned
  constructor
  · intro o
    cases q : sl[j]? with
    | none => rw [q] at o; cases o
    | some y =>
      cases y with
      | none => rw [q] at o; cases o
      | some y => cases y with
        | dat n dj => rw [q] at o; exact ⟨n, dj, rfl, by simpa using o⟩
        | brw => rw [q] at o; cases o
        | als => rw [q] at o; cases o
  · rintro ⟨n, dj, e, h⟩
    rw [e]; simpa using h
/-- what stands behind a temp: its mode -/
theorem SIw.tmp (I : SIw W ℓ H B s ((x, v) :: F) σ) : ∃ m, Rep W ℓ H m v x.d := by
  cases x with
  | dat n d => exact ⟨_, I.temps.1⟩
  | brw d => exact ⟨_, I.temps.1⟩
  | plc j p d =>
    have t : if owned s.sl j p = true then PlR H s.sl σ j p v d else Rep W ℓ H .fz v d := I.temps.1
    by_cases o : owned s.sl j p = true
    · rw [if_pos o] at t
      obtain ⟨k, e, vk, h1, h2, h3, h4, h5, h6⟩ := t
      obtain ⟨v', e1, e2⟩ := I.slots j _ h1
      rw [h3] at e1; cases e1
      exact ⟨_, h4.rep e2 (Nat.le_of_lt h2) h5⟩
    · rw [if_neg o] at t; exact ⟨_, t⟩
theorem rep_fz_sub {m : Md} (hm : m = .fz ∨ m = .bw) (k : Nat) : m.sub k = m := by rcases hm with rfl | rfl <;> rfl
/-- a list's parts -/
theorem SIw.subL {ds : List D} (I : SIw W ℓ H B s ((x, v) :: F) σ) (h : x.d = .lst ds) : ∃ a vs, v = .ref a ∧ SqL W.1 H a vs ∧ vs.length = ds.length ∧
    ∀ (k : Nat) (v' : V) (c : D), vs[k]? = some v' → ds[k]? = some c → SI W B (dsub x k c s).2 (((dsub x k c s).1, v') :: F) σ H := by
  have fin : ∀ {m : Md} {a vs}, NA W.1 ℓ H m a (.lst vs) → SqL W.1 H a vs := fun h => h.sqL
  cases x with
  | dat n d =>
    subst h
    have J := I.downT (n' := 0) (Nat.zero_le _)
    have r := Rep.own0.mp (show Rep W _ H (.own (.tmp F.length) [] 0) v _ from J.temps.1)
    cases r with
    | lst y1 y2 y3 => exact ⟨_, _, rfl, y1.sqL, y2, fun k v' c a1 a2 => ⟨_, J.drop.push (Rep.own0.mpr (y3 k v' c a1 a2)) rfl⟩⟩
  | brw d =>
    subst h
    have r : Rep W ℓ H .bw v (.lst ds) := I.temps.1
    cases r with
    | lst y1 y2 y3 =>
      refine ⟨_, _, rfl, y1.sqL, y2, fun k v' c a1 a2 => ?_⟩
      have r := y3 k v' c a1 a2
      unfold dsub
      by_cases f : c.flat = true
      · simp only [if_pos f]; exact ⟨_, I.drop.push (Rep.own0.mpr (r.flat f)) rfl⟩
      · simp only [if_neg f]; exact ⟨_, I.drop.push r rfl⟩
  | plc j p d =>
    subst h
    have t : if owned s.sl j p = true then PlR H s.sl σ j p v (.lst ds) else Rep W ℓ H .fz v (.lst ds) := I.temps.1
    by_cases o : owned s.sl j p = true
    · rw [if_pos o] at t
      obtain ⟨n, dj, vj, h1, h2, h3, h4, h5, h6⟩ := t
      obtain ⟨v', e1, e2⟩ := I.slots j _ h1
      rw [h3] at e1; cases e1
      have e2 : Rep W ℓ H (.own (.slot j) [] n) vj dj := e2
      have r := h4.rep e2 (Nat.le_of_lt h2) h5
      obtain ⟨n2, hn2⟩ : ∃ n2, n - p.length = n2 + 1 := ⟨n - p.length - 1, by omega⟩
      rw [hn2] at r
      cases r with
      | lst y1 y2 y3 =>
        refine ⟨_, _, rfl, y1.sqL, y2, fun k v' c a1 a2 => ?_⟩
        have r := y3 k v' c a1 a2
        have r : Rep W ℓ H (.own (.slot j) ([] ++ p ++ [k]) n2) v' c := r
        unfold dsub
        by_cases q : (owned s.sl j (p ++ [k]) = true && c.cont = true) = true
        · simp only [if_pos q]
          simp only [Bool.and_eq_true, decide_eq_true_eq] at q
          refine ⟨ℓ, ?_⟩
          have e := I.lks
          refine ⟨I.len, I.lab, I.prot, I.bw, I.keep, I.ios, e, I.slots, ?_, I.temps.2⟩
          show if owned s.sl j (p ++ [k]) = true then PlR H s.sl σ j (p ++ [k]) v' c else _
          rw [if_pos q.1]
          obtain ⟨n3, dj3, e3, h7⟩ := owned_iff.mp q.1
          rw [h1] at e3; cases e3
          refine ⟨n, dj, vj, h1, h7, h3, h4.app (.lst (NA.own y1).2 a1 .nil), ?_, q.2⟩
          rw [getAt_app h5]; simp [getAt, D.at?, a2]
        · simp only [if_neg q]
          refine ⟨ℓ, I.drop.push (x := .dat 0 c) ?_ rfl⟩
          show Rep W ℓ H (.own (.tmp F.length) [] 0) v' c
          simp only [Bool.and_eq_true, decide_eq_true_eq, not_and] at q
          by_cases o2 : owned s.sl j (p ++ [k]) = true
          · have nc := q o2
            cases r with
            | non => exact .non
            | bl b => exact .bl b
            | int b => exact .int b
            | str b => exact .str b
            | tup z1 z2 z3 => exact .tup z1 z2 z3
            | lst => exact absurd rfl nc
            | obj => exact absurd rfl nc
          · have : n2 = 0 := by
              cases n2 with
              | zero => rfl
              | succ z => exact absurd (owned_iff.mpr ⟨n, dj, h1, by simp; omega⟩) o2
            subst this
            exact Rep.own0.mpr (Rep.own0.mp r)
    · rw [if_neg o] at t
      cases t with
      | lst y1 y2 y3 =>
        refine ⟨_, _, rfl, y1.sqL, y2, fun k v' c a1 a2 => ?_⟩
        have r := y3 k v' c a1 a2
        have o2 : ¬ (owned s.sl j (p ++ [k]) = true && c.cont = true) = true := by
          intro z
          simp only [Bool.and_eq_true, decide_eq_true_eq] at z
          obtain ⟨n3, dj3, e3, h7⟩ := owned_iff.mp z.1
          exact o (owned_iff.mpr ⟨n3, dj3, e3, by simp at h7; omega⟩)
        unfold dsub
        simp only [if_neg o2]
        exact ⟨ℓ, I.drop.push (Rep.own0.mpr r) rfl⟩
/-- a tuple's parts -/
theorem SIw.subT {ds : List D} (I : SIw W ℓ H B s ((x, v) :: F) σ) (h : x.d = .tup ds) : ∃ a vs, v = .ref a ∧ SqT W.1 H a vs ∧ vs.length = ds.length ∧
    ∀ (k : Nat) (v' : V) (c : D), vs[k]? = some v' → ds[k]? = some c → SI W B (dsub x k c s).2 (((dsub x k c s).1, v') :: F) σ H := by
  cases x with
  | dat n d =>
    subst h
    have J := I.downT (n' := 0) (Nat.zero_le _)
    have r := Rep.own0.mp (show Rep W _ H (.own (.tmp F.length) [] 0) v _ from J.temps.1)
    cases r with
    | tup y1 y2 y3 => exact ⟨_, _, rfl, y1.sqT, y2, fun k v' c a1 a2 => ⟨_, J.drop.push (Rep.own0.mpr (y3 k v' c a1 a2)) rfl⟩⟩
  | brw d =>
    subst h
    have r : Rep W ℓ H .bw v (.tup ds) := I.temps.1
    cases r with
    | tup y1 y2 y3 =>
      refine ⟨_, _, rfl, y1.sqT, y2, fun k v' c a1 a2 => ?_⟩
      have r := y3 k v' c a1 a2
      unfold dsub
      by_cases f : c.flat = true
      · simp only [if_pos f]; exact ⟨_, I.drop.push (Rep.own0.mpr (r.flat f)) rfl⟩
      · simp only [if_neg f]; exact ⟨_, I.drop.push r rfl⟩
  | plc j p d =>
    subst h
    have t : if owned s.sl j p = true then PlR H s.sl σ j p v (.tup ds) else Rep W ℓ H .fz v (.tup ds) := I.temps.1
    by_cases o : owned s.sl j p = true
    · rw [if_pos o] at t
      obtain ⟨n, dj, vj, h1, h2, h3, h4, h5, h6⟩ := t
      cases h6
    · rw [if_neg o] at t
      cases t with
      | tup y1 y2 y3 =>
        refine ⟨_, _, rfl, y1.sqT, y2, fun k v' c a1 a2 => ?_⟩
        have r := y3 k v' c a1 a2
        have o2 : ¬ (owned s.sl j (p ++ [k]) = true && c.cont = true) = true := by
          intro z
          simp only [Bool.and_eq_true, decide_eq_true_eq] at z
          obtain ⟨n3, dj3, e3, h7⟩ := owned_iff.mp z.1
          exact o (owned_iff.mpr ⟨n3, dj3, e3, by simp at h7; omega⟩)
        unfold dsub
        simp only [if_neg o2]
        exact ⟨ℓ, I.drop.push (Rep.own0.mpr r) rfl⟩
end
end DL

set_option Elab.async false
set_option linter.all false
set_option maxRecDepth 100000
/-! D4: assignment, writing into an owned place -/
namespace DL
open PySem PySem.Spec PyProof.Rows L2
section
variable {W : Wd} {ℓ ℓ' : Addr → Lab} {H H' : Hp} {B : Ent} {s s' : DS} {sl : List (Option SV)} {F : Temps} {i j t : Nat} {y : SV} {p : List Nat} {σ σ' : L2.St} {v : V} {d : D} {x : DV} {n n' : Nat}

/-- aliases of the root i are forgotten -/
def killX (i : Nat) : Option SV → Option SV
  | some (.als j p) => if j = i then none else some (.als j p)
  | x => x
def putS (sl : List (Option SV)) (i : Nat) (y : SV) : List (Option SV) := (sl.map (killX i)).set i (some y)
theorem putS_len : (putS sl i y).length = sl.length := by unfold putS; simp
theorem putS_self (h : i < sl.length) : (putS sl i y)[i]? = some (some y) := by
  unfold putS; simp [List.getElem?_set, h]
theorem putS_other (h : j ≠ i) : (putS sl i y)[j]? = (sl[j]?).map (killX i) := by
  unfold putS; simp [List.getElem?_set, Ne.symm h]
theorem putS_dat {k : Nat} {e : D} (h : j ≠ i) (h2 : sl[j]? = some (some (.dat k e))) : (putS sl i y)[j]? = some (some (.dat k e)) := by
  rw [putS_other h, h2]; rfl
theorem owned_putS (h : j ≠ i) : owned (putS sl i y) j p = owned sl j p := by
  unfold owned
  rw [putS_other h]
  cases e : sl[j]? with
  | none => rfl
  | some z =>
    cases z with
    | none => rfl
    | some z => cases z with
      | dat => rfl
      | brw => rfl
      | als j2 p2 =>
        have q : ∀ z, killX i (some (.als j2 p2)) = z → (match some z with | some (some (SV.dat n _)) => decide (p.length < n) | _ => false) = false := by
          intro z hz
          have hz : (if j2 = i then none else some (SV.als j2 p2)) = z := hz
          by_cases c : j2 = i
          · rw [if_pos c] at hz; subst hz; rfl
          · rw [if_neg c] at hz; subst hz; rfl
        exact q _ rfl
theorem set_other {α : Type} {l : List α} {i k : Nat} {a : α} (h : k ≠ i) : (l.set i a)[k]? = l[k]? := by
  rw [List.getElem?_set]; simp [Ne.symm h]
theorem PlR.put (h : PlR H sl σ j p v d) (hj : j ≠ i) : PlR H (putS sl i y) (σ.set i (some v')) j p v d := by
  obtain ⟨n, dj, vj, h1, h2, h3, h4, h5, h6⟩ := h
  exact ⟨n, dj, vj, putS_dat hj h1, h2, by rw [set_other hj]; exact h3, h4, h5, h6⟩
theorem mem_roots {p : List Nat} : ∀ {F : Temps}, (DV.plc j p d, v) ∈ F → j ∈ roots F
  | _ :: F, h => by
    unfold roots
    rcases List.mem_cons.mp h with h | h
    · rw [← h]; rw [List.filterMap_cons]; exact List.mem_cons_self
    · rw [List.filterMap_cons]
      have := mem_roots h
      split
      · exact this
      · exact List.mem_cons_of_mem _ this
theorem TmRs.put : ∀ {F : Temps}, TmRs W ℓ H sl σ F → i ∉ roots F → (∀ a, (ℓ a = .fz ∨ ℓ a = .bw ∨ ∃ t q, t < F.length ∧ ℓ a = .own (.tmp t) q) → ℓ' a = ℓ a) → TmRs W ℓ' H (putS sl i y) (σ.set i (some v')) F
  | [], _, _, _ => trivial
  | (x, v) :: F, h, hr, k => by
    have hr' : i ∉ roots F := fun z => hr (by
      unfold roots; rw [List.filterMap_cons]
      split
      · exact z
      · exact List.mem_cons_of_mem _ z)
    refine ⟨?_, TmRs.put h.2 hr' fun a c => k a ?_⟩
    · cases x with
      | dat n d =>
        refine Rep.frame (show Rep W ℓ H (.own (.tmp F.length) [] n) v d from h.1) fun a c => ⟨rfl, k a ?_⟩
        rcases c with c | ⟨c, _⟩ | ⟨q, c⟩
        · exact .inl c
        · cases c
        · exact .inr (.inr ⟨_, q, Nat.lt_succ_self _, by simpa using c⟩)
      | brw d =>
        refine Rep.frame (show Rep W ℓ H .bw v d from h.1) fun a c => ⟨rfl, k a ?_⟩
        rcases c with c | ⟨_, c⟩ | c
        · exact .inl c
        · exact .inr (.inl c)
        · exact c.elim
      | plc j p d =>
        have hj : j ≠ i := fun z => hr (by rw [← z]; exact mem_roots List.mem_cons_self)
        show if owned (putS sl i y) j p = true then PlR H (putS sl i y) _ j p v d else Rep W ℓ' H .fz v d
        have h1 : if owned sl j p = true then PlR H sl σ j p v d else Rep W ℓ H .fz v d := h.1
        rw [owned_putS hj]
        by_cases o : owned sl j p = true
        · rw [if_pos o] at h1 ⊢; exact h1.put hj
        · rw [if_neg o] at h1 ⊢
          exact h1.fz fun a c => ⟨rfl, (k a (.inl c)).trans c⟩
    · rcases c with c | c | ⟨t, q, ht, c⟩
      · exact .inl c
      · exact .inr (.inl c)
      · exact .inr (.inr ⟨t, q, Nat.lt_succ_of_lt ht, c⟩)
/-- what x becomes in the slot i -/
def stored (x : DV) (i : Nat) (sl : List (Option SV)) : Option SV := match x with
  | .dat n d => some (.dat n d)
  | .brw d => some (.brw d)
  | .plc j p d => if owned sl j p = true then (if j = i then none else some (.als j p)) else some (.dat 0 d)
def lab2slot (ℓ : Addr → Lab) (t i : Nat) : Addr → Lab := fun a => match ℓ a with
  | .own (.tmp t') q => if t' = t then .own (.slot i) q else .own (.tmp t') q
  | l => l
theorem SIw.put {y : SV} (I : SIw W ℓ H B s ((x, v) :: F) σ) (hi : i < s.sl.length) (hio : i ∉ W.2.2) (hr : i ∉ roots F) (hy : stored x i s.sl = some y) :
    SI W B { sl := putS s.sl i y, lk := (unl x s).lk } F (σ.set i (some v)) H := by
  have len : (putS s.sl i y).length = (σ.set i (some v)).length := by rw [putS_len, List.length_set]; exact I.len
  have ios : ∀ k ∈ W.2.2, (σ.set i (some v))[k]? = io0 W.2.2 B.s0 k := fun k hk => by rw [set_other (fun z => hio (by rw [← z]; exact hk))]; exact I.ios k hk
  have lks : (unl x s).lk = roots F := I.drop.lks
  have hσ : (σ.set i (some v))[i]? = some (some v) := by rw [List.getElem?_set]; simp [← I.len, hi]
  have other : ∀ {ℓ'}, (∀ a, (ℓ a = .fz ∨ ℓ a = .bw ∨ ∃ k q, ℓ a = .own (.slot k) q) → ℓ' a = ℓ a) → ∀ k z, k ≠ i → (putS s.sl i y)[k]? = some (some z) → ∃ v', (σ.set i (some v))[k]? = some (some v') ∧ SlR W ℓ' H (putS s.sl i y) (σ.set i (some v)) k z v' := by
    intro ℓ' hl k z hk e
    rw [putS_other hk] at e
    obtain ⟨z0, e0, e1⟩ := Option.map_eq_some_iff.mp e
    cases z0 with
    | none => cases e1
    | some z0 =>
      obtain ⟨v', a1, a2⟩ := I.slots k z0 e0
      refine ⟨v', by rw [set_other hk]; exact a1, ?_⟩
      cases z0 with
      | dat n d =>
        cases e1
        refine Rep.frame (show Rep W ℓ H (.own (.slot k) [] n) v' d from a2) fun a c => ⟨rfl, hl a ?_⟩
        rcases c with c | ⟨c, _⟩ | ⟨q, c⟩
        · exact .inl c
        · cases c
        · exact .inr (.inr ⟨k, q, by simpa using c⟩)
      | brw d =>
        cases e1
        refine Rep.frame (show Rep W ℓ H .bw v' d from a2) fun a c => ⟨rfl, hl a ?_⟩
        rcases c with c | ⟨_, c⟩ | c
        · exact .inl c
        · exact .inr (.inl c)
        · exact c.elim
      | als j2 p2 =>
        have e1 : (if j2 = i then none else some (SV.als j2 p2)) = some z := e1
        by_cases c : j2 = i
        · rw [if_pos c] at e1; cases e1
        · rw [if_neg c] at e1; cases e1
          obtain ⟨d, a2⟩ := a2
          exact ⟨d, a2.put c⟩
  cases x with
  | dat n d =>
    cases hy
    have l1 : ∀ a q, ℓ a = .own (.tmp F.length) q → lab2slot ℓ F.length i a = .own (.slot i) q := fun a q e => by unfold lab2slot; rw [e]; simp
    have l2 : ∀ a, (∀ q, ℓ a ≠ .own (.tmp F.length) q) → lab2slot ℓ F.length i a = ℓ a := fun a e => by
      unfold lab2slot
      cases c : ℓ a with
      | own r q =>
        cases r with
        | slot k => rfl
        | tmp t' =>
          have : t' ≠ F.length := fun z => e q (by rw [c, z])
          simp [this]
      | _ => rfl
    have l3 : ∀ a, lab2slot ℓ F.length i a = .no → ℓ a = .no := fun a e => by
      by_cases c : ∀ q, ℓ a ≠ .own (.tmp F.length) q
      · rw [← l2 a c]; exact e
      · obtain ⟨q, c⟩ := Classical.not_forall.mp c
        rw [l1 a q (Classical.not_not.mp c)] at e; cases e
    have l4 : ∀ a, lab2slot ℓ F.length i a = .bw → ℓ a = .bw := fun a e => by
      by_cases c : ∀ q, ℓ a ≠ .own (.tmp F.length) q
      · rw [← l2 a c]; exact e
      · obtain ⟨q, c⟩ := Classical.not_forall.mp c
        rw [l1 a q (Classical.not_not.mp c)] at e; cases e
    have l5 : ∀ a, (ℓ a = .fz ∨ ℓ a = .bw ∨ ∃ k q, ℓ a = .own (.slot k) q) → lab2slot ℓ F.length i a = ℓ a := fun a c => l2 a fun q z => by
      rw [z] at c; rcases c with c | c | ⟨_, _, c⟩ <;> cases c
    refine ⟨lab2slot ℓ F.length i, len, fun a c => I.lab a fun z => c ?_, fun a c => ?_, fun a c => I.bw a (l4 a c), I.keep, ios, lks, fun k z e => ?_, ?_⟩
    · rw [l2 a (fun q => by rw [z]; exact fun z => nomatch z)]; exact z
    · obtain ⟨k1, k2⟩ := I.prot a c
      refine ⟨k1, (l5 a ?_).trans k2⟩
      rw [k2]; rcases c with c | c
      · exact .inl c
      · exact .inr (.inl c)
    · by_cases hk : k = i
      · subst hk
        rw [putS_self hi] at e; cases e
        refine ⟨v, hσ, ?_⟩
        exact Rep.mv (p' := []) (show Rep W ℓ H (.own (.tmp F.length) [] n) v d from I.temps.1) (fun a z => ⟨rfl, (l5 a (.inl z)).trans z⟩) fun a q z => ⟨rfl, l1 a _ z⟩
      · exact other l5 k z hk e
    · refine TmRs.put I.temps.2 hr fun a c => l2 a fun q z => ?_
      rw [z] at c
      rcases c with c | c | ⟨t, q', ht, c⟩
      · cases c
      · cases c
      · cases c; exact Nat.lt_irrefl _ ht
  | brw d =>
    cases hy
    refine ⟨ℓ, len, I.lab, I.prot, I.bw, I.keep, ios, lks, fun k z e => ?_, TmRs.put I.temps.2 hr fun a c => rfl⟩
    by_cases hk : k = i
    · subst hk
      rw [putS_self hi] at e; cases e
      exact ⟨v, hσ, (show Rep W ℓ H .bw v d from I.temps.1)⟩
    · exact other (fun _ _ => rfl) k z hk e
  | plc j p d =>
    have t : if owned s.sl j p = true then PlR H s.sl σ j p v d else Rep W ℓ H .fz v d := I.temps.1
    refine ⟨ℓ, len, I.lab, I.prot, I.bw, I.keep, ios, lks, fun k z e => ?_, TmRs.put I.temps.2 hr fun a c => rfl⟩
    by_cases hk : k = i
    · subst hk
      rw [putS_self hi] at e; cases e
      refine ⟨v, hσ, ?_⟩
      have hy : (if owned s.sl j p = true then (if j = k then none else some (SV.als j p)) else some (.dat 0 d)) = some _ := hy
      by_cases o : owned s.sl j p = true
      · rw [if_pos o] at t hy
        by_cases c : j = k
        · rw [if_pos c] at hy; cases hy
        · rw [if_neg c] at hy; cases hy
          exact ⟨d, t.put c⟩
      · rw [if_neg o] at t hy; cases hy
        exact Rep.own0.mpr t
    · exact other (fun _ _ => rfl) k z hk e
end
end DL

set_option Elab.async false
set_option linter.all false
set_option maxRecDepth 100000
/-! D5: writing into an owned place -/
namespace DL
open PySem PySem.Spec PyProof.Rows L2
theorem at_set_same {d e c : D} {k : Nat} (h : d.at? k = some c) : (d.set k e).at? k = some e := by
  cases d with
  | lst ds =>
    have h : ds[k]? = some c := h
    have := (List.getElem?_eq_some_iff.mp h).1
    simp [D.set, D.at?, List.getElem?_set, this]
  | obj C fs =>
    obtain ⟨f, h1, h2⟩ := Option.map_eq_some_iff.mp (show (fs[k]?).map (·.2) = some c from h)
    simp [D.set, D.at?, List.getElem?_modify, h1]
  | _ => cases h
theorem at_set_ne {d e : D} {k k' : Nat} (h : k ≠ k') : (d.set k e).at? k' = d.at? k' := by
  cases d with
  | lst ds => simp [D.set, D.at?, List.getElem?_set, h]
  | obj C fs => simp [D.set, D.at?, List.getElem?_modify, h]
  | _ => rfl
theorem cont_set {d e : D} {k : Nat} : (d.set k e).cont = d.cont := by cases d <;> rfl
theorem getAt_setAt {e c : D} (he : e.cont = true) : ∀ {p q : List Nat} {d d' : D}, getAt d p = some c → ¬ (∃ k r, q = p ++ k :: r) → getAt d q = some d' → d'.cont = true → ∃ d'', getAt (setAt d p e) q = some d'' ∧ d''.cont = true
  | [], [], d, d', _, _, _, _ => ⟨e, rfl, he⟩
  | [], k :: q, d, d', _, h, _, _ => absurd ⟨k, q, rfl⟩ h
  | k :: p, [], d, d', h1, _, h2, h3 => by
    cases h2
    refine ⟨_, rfl, ?_⟩
    simp only [getAt] at h1
    obtain ⟨c1, a1, a2⟩ := Option.bind_eq_some_iff.mp h1
    simp only [setAt, a1]
    rw [cont_set]; exact h3
  | k :: p, k' :: q, d, d', h1, h, h2, h3 => by
    simp only [getAt] at h1 h2 ⊢
    obtain ⟨c1, a1, a2⟩ := Option.bind_eq_some_iff.mp h1
    obtain ⟨c2, b1, b2⟩ := Option.bind_eq_some_iff.mp h2
    simp only [setAt, a1]
    by_cases hk : k = k'
    · subst hk
      rw [a1] at b1; cases b1
      rw [at_set_same a1]
      exact getAt_setAt he a2 (fun ⟨k2, r, z⟩ => h ⟨k2, r, by rw [z]; rfl⟩) b2 h3
    · rw [at_set_ne hk, b1]
      exact ⟨_, b2, h3⟩
theorem list_snoc_ne {q p : List Nat} {k : Nat} : q ≠ q ++ k :: p := fun h => by
  have := congrArg List.length h; simp at this
theorem list_sib_ne {q p s : List Nat} {k k' : Nat} (h : k' ≠ k) : q ++ [k'] ++ s ≠ q ++ k :: p := fun z => by
  rw [List.append_assoc] at z
  have := List.append_cancel_left z
  simp at this
  exact h this.1
section
variable {W : Wd} {ℓ ℓ' : Addr → Lab} {H H' : Hp} {B : Ent} {s s' : DS} {sl : List (Option SV)} {F : Temps} {i j t : Nat} {y : SV} {p : List Nat} {σ σ' : L2.St} {v : V} {d : D} {x : DV} {n n' : Nat}
theorem Rep.write {r : Root} {a : Addr} {o' : HO} {dn dn' : D} (hk : ∀ b, (ℓ b = .fz ∨ ∃ s, ℓ b = .own r s) → ℓ' b = ℓ b) : ∀ (p q : List Nat) (n : Nat) (v : V) (d : D), At H v p (.ref a) → Rep W ℓ H (.own r q n) v d → p.length < n → getAt d p = some dn → ℓ a = .own r (q ++ p) →
    Rep W ℓ' (upd H a o') (.own r (q ++ p) (n - p.length)) (.ref a) dn' → Rep W ℓ' (upd H a o') (.own r q n) v (setAt d p dn')
  | [], q, n, v, d, h, _, _, _, _, new => by
    cases h
    rw [List.append_nil] at new
    exact new
  | k :: p, q, n, v, d, h, x, hn, g, la, new => by
    obtain ⟨n, rfl⟩ : ∃ m, n = m + 1 := ⟨n - 1, by simp at hn; omega⟩
    have fr : ∀ {k' v' d'}, k' ≠ k → Rep W ℓ H (.own r (q ++ [k']) n) v' d' → Rep W ℓ' (upd H a o') (.own r (q ++ [k']) n) v' d' := fun hk' rp => rp.frame fun b c => by
      rcases c with c | ⟨c, _⟩ | ⟨s, c⟩
      · exact ⟨upd_ne fun z => (by rw [z, la] at c; cases c), hk b (.inl c)⟩
      · cases c
      · refine ⟨upd_ne fun z => ?_, hk b (.inr ⟨_, c⟩)⟩
        rw [z, la] at c
        have c := Lab.own.inj c
        exact list_sib_ne (p := p) hk' c.2.symm
    cases h with
    | @lst b _ _ vs v1 _ h1 h2 h3 =>
      cases x with
      | tup y => simp [getAt, D.at?] at g
      | @lst _ _ _ ds y1 y2 y3 =>
        obtain ⟨y5, y4⟩ := NA.own y1
        rw [h1] at y4; cases y4
        simp only [getAt, D.at?] at g
        obtain ⟨c, g1, g2⟩ := Option.bind_eq_some_iff.mp g
        have ba : b ≠ a := fun z => by
          rw [z, la] at y5
          exact list_snoc_ne (Lab.own.inj y5).2.symm
        simp only [setAt, D.at?, g1, D.set]
        refine .lst (vs := vs) ?_ (by simp [y2]) fun k' v' d' e1 e2 => ?_
        · exact .inl ⟨(hk b (.inr ⟨_, y5⟩)).trans y5, (upd_ne ba).trans h1⟩
        · by_cases hk' : k' = k
          · subst hk'
            rw [h2] at e1; cases e1
            have : k' < ds.length := (List.getElem?_eq_some_iff.mp g1).1
            rw [List.getElem?_set] at e2; simp [this] at e2; subst e2
            refine Rep.write hk p (q ++ [k']) n _ c h3 (y3 k' _ c h2 g1) (by simp at hn; omega) g2 (by rw [la]; simp) ?_
            have : n + 1 - (k' :: p).length = n - p.length := by simp
            rw [this] at new
            simpa [List.append_assoc] using new
          · rw [List.getElem?_set] at e2; simp [Ne.symm hk'] at e2
            exact fr hk' (y3 k' v' d' e1 e2)
      | obj y0 y1 y2 y3 =>
        obtain ⟨_, y4⟩ := NA.own y1
        rw [h1] at y4; cases y4
    | @ins b _ _ C dx vfs nm v1 _ h1 h2 h3 =>
      cases x with
      | tup y => simp [getAt, D.at?] at g
      | lst y1 y2 y3 =>
        obtain ⟨_, y4⟩ := NA.own y1
        rw [h1] at y4; cases y4
      | @obj _ _ Cn _ _ _ fs y0 y1 y2 y3 =>
        obtain ⟨y5, y4⟩ := NA.own y1
        rw [h1] at y4; cases y4
        simp only [getAt, D.at?] at g
        obtain ⟨c, g1, g2⟩ := Option.bind_eq_some_iff.mp g
        have ba : b ≠ a := fun z => by
          rw [z, la] at y5
          exact list_snoc_ne (Lab.own.inj y5).2.symm
        simp only [setAt, D.at?, g1, D.set]
        obtain ⟨⟨nm', c'⟩, g3, e0⟩ := Option.map_eq_some_iff.mp g1
        have e0 : c' = c := e0
        subst e0
        refine .obj (vfs := vfs) y0 (dx := dx) ?_ ?_ fun k' n1 v' n2 d' e1 e2 => ?_
        · exact .inl ⟨(hk b (.inr ⟨_, y5⟩)).trans y5, (upd_ne ba).trans h1⟩
        · rw [y2]
          apply List.ext_getElem?
          intro z
          rw [List.getElem?_map, List.getElem?_map, List.getElem?_modify]
          split
          · cases fs[z]? <;> simp
          · cases fs[z]? <;> simp
        · rw [List.getElem?_modify] at e2
          by_cases hk' : k' = k
          · subst hk'
            rw [h2] at e1; cases e1
            rw [g3] at e2; simp at e2
            obtain ⟨_, rfl⟩ := e2
            refine Rep.write hk p (q ++ [k']) n _ c' h3 (y3 k' nm _ nm' c' h2 g3) (by simp at hn; omega) g2 (by rw [la]; simp) ?_
            have : n + 1 - (k' :: p).length = n - p.length := by simp
            rw [this] at new
            simpa [List.append_assoc] using new
          · simp [Ne.symm hk'] at e2
            exact fr hk' (y3 k' n1 v' n2 d' e1 e2)

/-- aliases strictly below the place are forgotten -/
def killBX (j : Nat) (p : List Nat) : Option SV → Option SV
  | some (.als j' q) => if j' = j ∧ p.isPrefixOf q = true ∧ p.length < q.length then none else some (.als j' q)
  | x => x
def wrS (sl : List (Option SV)) (j : Nat) (p : List Nat) (y : SV) : List (Option SV) := (sl.map (killBX j p)).set j (some y)
theorem wrS_self (h : j < sl.length) : (wrS sl j p y)[j]? = some (some y) := by
  unfold wrS; simp [List.getElem?_set, h]
theorem wrS_other (h : i ≠ j) : (wrS sl j p y)[i]? = (sl[i]?).map (killBX j p) := by
  unfold wrS; simp [List.getElem?_set, Ne.symm h]
theorem wrS_dat {k : Nat} {e : D} (h : i ≠ j) (h2 : sl[i]? = some (some (.dat k e))) : (wrS sl j p y)[i]? = some (some (.dat k e)) := by
  rw [wrS_other h, h2]; rfl
theorem owned_wrS {q : List Nat} (h : i ≠ j) : owned (wrS sl j p y) i q = owned sl i q := by
  unfold owned
  rw [wrS_other h]
  cases e : sl[i]? with
  | none => rfl
  | some z =>
    cases z with
    | none => rfl
    | some z => cases z with
      | dat => rfl
      | brw => rfl
      | als j2 p2 =>
        have q : ∀ z, killBX j p (some (.als j2 p2)) = z → (match some z with | some (some (SV.dat n _)) => decide (q.length < n) | _ => false) = false := by
          intro z hz
          have hz : (if j2 = j ∧ p.isPrefixOf p2 = true ∧ p.length < p2.length then none else some (SV.als j2 p2)) = z := hz
          split at hz
          · subst hz; rfl
          · subst hz; rfl
        exact q _ rfl
theorem pre_of {p q : List Nat} (h : ∃ k r, q = p ++ k :: r) : p.isPrefixOf q = true ∧ p.length < q.length := by
  obtain ⟨k, r, rfl⟩ := h
  exact ⟨by rw [List.isPrefixOf_iff_prefix]; exact List.prefix_append _ _, by simp⟩
theorem SIw.write {a : Addr} {o' : HO} {dj dn dn' : D} {vj : V} (I : SIw W ℓ H B s F σ) (hj : s.sl[j]? = some (some (.dat n dj))) (ev : σ[j]? = some (some vj)) (hat : At H vj p (.ref a)) (hp : p.length < n) (hg : getAt dj p = some dn) (hc : dn.cont = true)
    (hr : j ∉ roots F) (hl : ∀ b, (ℓ b = .fz ∨ ℓ b = .bw ∨ (∃ i q, ℓ b = .own (.slot i) q) ∨ ∃ t q, t < F.length ∧ ℓ b = .own (.tmp t) q) → ℓ' b = ℓ b) (hno : ∀ b, ℓ' b ≠ .no → ℓ b ≠ .no) (hbw : ∀ b, ℓ' b = .bw → ℓ b = .bw)
    (hc' : dn'.cont = true) (new : Rep W ℓ' (upd H a o') (.own (.slot j) p (n - p.length)) (.ref a) dn') :
    SIw W ℓ' (upd H a o') B { s with sl := wrS s.sl j p (.dat n (setAt dj p dn')) } F σ := by
  have hjl : j < s.sl.length := (List.getElem?_eq_some_iff.mp hj).1
  obtain ⟨vj', ev', rj⟩ := I.slots j _ hj
  rw [ev] at ev'; cases ev'
  have rj : Rep W ℓ H (.own (.slot j) [] n) vj dj := rj
  have la : ℓ a = .own (.slot j) p := by
    have r := hat.rep rj (Nat.le_of_lt hp) hg
    obtain ⟨m, hm⟩ : ∃ m, n - p.length = m + 1 := ⟨n - p.length - 1, by omega⟩
    rw [hm] at r
    cases r with
    | tup => cases hc
    | lst y1 => simpa using (NA.own y1).1
    | obj _ y1 => simpa using (NA.own y1).1
  have fr : ∀ {m v d}, Rep W ℓ H m v d → (∀ b, m.cov (ℓ b) → b ≠ a ∧ (ℓ b = .fz ∨ ℓ b = .bw ∨ (∃ i q, ℓ b = .own (.slot i) q) ∨ ∃ t q, t < F.length ∧ ℓ b = .own (.tmp t) q)) → Rep W ℓ' (upd H a o') m v d := fun r k => r.frame fun b c => by
    obtain ⟨k1, k2⟩ := k b c
    exact ⟨upd_ne k1, hl b k2⟩
  have na : ∀ {b}, (∀ q, ℓ b ≠ .own (.slot j) q) → b ≠ a := fun h z => h p (by rw [z]; exact la)
  have bwK : ∀ {v d}, Rep W ℓ H .bw v d → Rep W ℓ' (upd H a o') .bw v d := fun r => fr r fun b c => by
    rcases c with c | ⟨_, c⟩ | c
    · exact ⟨na fun q z => (by rw [c] at z; cases z), .inl c⟩
    · exact ⟨na fun q z => (by rw [c] at z; cases z), .inr (.inl c)⟩
    · exact c.elim
  have fzK : ∀ {v d}, Rep W ℓ H .fz v d → Rep W ℓ' (upd H a o') .fz v d := fun r => fr r fun b c => by
    rcases c with c | ⟨c, _⟩ | c
    · exact ⟨na fun q z => (by rw [c] at z; cases z), .inl c⟩
    · cases c
    · exact c.elim
  have ownK : ∀ {r : Root} {k v d}, r ≠ .slot j → (∀ q, (∃ i, r = .slot i) ∨ (∃ t, t < F.length ∧ r = .tmp t)) → Rep W ℓ H (.own r [] k) v d → Rep W ℓ' (upd H a o') (.own r [] k) v d := fun hr h2 r => fr r fun b c => by
    rcases c with c | ⟨c, _⟩ | ⟨q, c⟩
    · exact ⟨na fun q z => (by rw [c] at z; cases z), .inl c⟩
    · cases c
    · refine ⟨na fun q z => (by rw [c] at z; exact hr (Lab.own.inj z).1), ?_⟩
      rcases h2 q with ⟨i, e⟩ | ⟨t, ht, e⟩
      · exact .inr (.inr (.inl ⟨i, _, by rw [c, e]⟩))
      · exact .inr (.inr (.inr ⟨t, _, ht, by rw [c, e]⟩))
  have pl : ∀ {j' q v d}, PlR H s.sl σ j' q v d → ¬ (j' = j ∧ ∃ k r, q = p ++ k :: r) → ∃ d', PlR (upd H a o') (wrS s.sl j p (.dat n (setAt dj p dn'))) σ j' q v d' ∧ (j' ≠ j → d' = d) := by
    rintro j' q v d ⟨k, e, vk, h1, h2, h3, h4, h5, h6⟩ c
    obtain ⟨vk', e1, rk⟩ := I.slots j' _ h1
    rw [h3] at e1; cases e1
    have at' : At (upd H a o') vk q v := h4.frame rk (Nat.le_of_lt h2) (by rw [h5]; rfl) fun b s hs hpre lb => upd_ne fun z => by
      rw [z, la] at lb
      have := Lab.own.inj lb
      refine c ⟨(Root.slot.inj this.1).symm, ?_⟩
      have e : p = s := by simpa using this.2
      subst e
      obtain ⟨r, hr⟩ := hpre
      cases r with
      | nil => rw [List.append_nil] at hr; rw [hr] at hs; exact absurd hs (Nat.lt_irrefl _)
      | cons k2 r => exact ⟨k2, r, hr.symm⟩
    by_cases hj' : j' = j
    · subst hj'
      rw [hj] at h1; cases h1
      obtain ⟨d'', g1, g2⟩ := getAt_setAt hc' hg (fun z => c ⟨rfl, z⟩) h5 h6
      exact ⟨d'', ⟨_, _, vk, wrS_self hjl, h2, h3, at', g1, g2⟩, fun z => absurd rfl z⟩
    · exact ⟨d, ⟨_, _, vk, wrS_dat hj' h1, h2, h3, at', h5, h6⟩, fun _ => rfl⟩
  have tms : ∀ G : Temps, G.length ≤ F.length → j ∉ roots G → TmRs W ℓ H s.sl σ G → TmRs W ℓ' (upd H a o') (wrS s.sl j p (.dat n (setAt dj p dn'))) σ G := by
    intro G
    induction G with
    | nil => intro _ _ _; trivial
    | cons x G ih =>
      obtain ⟨x, v⟩ := x
      intro hlen hr ⟨h1, h2⟩
      have hr' : j ∉ roots G := fun z => hr (by
        unfold roots; rw [List.filterMap_cons]
        split
        · exact z
        · exact List.mem_cons_of_mem _ z)
      refine ⟨?_, ih (by simp at hlen; omega) hr' h2⟩
      cases x with
      | dat k d => exact ownK (by simp) (fun _ => .inr ⟨_, by simp at hlen; omega, rfl⟩) h1
      | brw d => exact bwK h1
      | plc j' q d =>
        have hj' : j' ≠ j := fun z => hr (by rw [← z]; exact mem_roots List.mem_cons_self)
        show if owned (wrS s.sl j p (.dat n (setAt dj p dn'))) j' q = true then PlR _ _ σ j' q v d else Rep W ℓ' _ .fz v d
        have h1 : if owned s.sl j' q = true then PlR H s.sl σ j' q v d else Rep W ℓ H .fz v d := h1
        rw [owned_wrS hj']
        by_cases o : owned s.sl j' q = true
        · rw [if_pos o] at h1 ⊢
          obtain ⟨d', z1, z2⟩ := pl h1 fun z => hj' z.1
          rw [z2 hj'] at z1; exact z1
        · rw [if_neg o] at h1 ⊢
          exact fzK h1
  refine ⟨?_, fun b c => ?_, fun b c => ?_, fun b c => I.bw b (hbw b c), fun b c => ?_, I.ios, I.lks, fun i x e => ?_, tms F (Nat.le_refl _) hr I.temps⟩
  · show (wrS _ _ _ _).length = _
    unfold wrS; simp; exact I.len
  · by_cases hb : b = a
    · rw [hb, upd_same]; exact fun z => nomatch z
    · rw [upd_ne hb]; exact I.lab b (hno b c)
  · obtain ⟨k1, k2⟩ := I.prot b c
    have lb : ℓ b = .fz ∨ ℓ b = .bw := by rw [k2]; exact c
    have hb : b ≠ a := na fun q z => by rw [z] at lb; rcases lb with lb | lb <;> cases lb
    refine ⟨(upd_ne hb).trans k1, (hl b ?_).trans k2⟩
    rcases lb with lb | lb
    · exact .inl lb
    · exact .inr (.inl lb)
  · by_cases hb : b = a
    · rw [hb, upd_same]; exact fun z => nomatch z
    · rw [upd_ne hb]; exact I.keep b c
  · have e : (wrS s.sl j p (.dat n (setAt dj p dn')))[i]? = some (some x) := e
    by_cases hi : i = j
    · subst hi
      rw [wrS_self hjl] at e; cases e
      refine ⟨vj, ev, ?_⟩
      exact Rep.write (fun b c => hl b (by
        rcases c with c | ⟨q, c⟩
        · exact .inl c
        · exact .inr (.inr (.inl ⟨_, q, c⟩)))) p [] n vj dj hat rj hp hg (by simpa using la) (by simpa using new)
    · rw [wrS_other hi] at e
      obtain ⟨x0, e0, e1⟩ := Option.map_eq_some_iff.mp e
      cases x0 with
      | none => cases e1
      | some x0 =>
        obtain ⟨v, ev2, rv⟩ := I.slots i x0 e0
        refine ⟨v, ev2, ?_⟩
        cases x0 with
        | dat k d => cases e1; exact ownK (by simp [hi]) (fun _ => .inl ⟨i, rfl⟩) rv
        | brw d => cases e1; exact bwK rv
        | als j2 p2 =>
          have e1 : (if j2 = j ∧ p.isPrefixOf p2 = true ∧ p.length < p2.length then none else some (SV.als j2 p2)) = some x := e1
          by_cases c : j2 = j ∧ p.isPrefixOf p2 = true ∧ p.length < p2.length
          · rw [if_pos c] at e1; cases e1
          · rw [if_neg c] at e1; cases e1
            obtain ⟨d, rv⟩ := rv
            obtain ⟨d', z, _⟩ := pl rv fun z => c ⟨z.1, pre_of z.2⟩
            exact ⟨d', z⟩
end
end DL

set_option Elab.async false
set_option linter.all false
set_option maxRecDepth 100000
/-! D6: what expressions and statements do to the state; the judgements -/
namespace DL
open PySem PySem.Spec PyProof.Rows L2

inductive ER | no | ok (x : DV) (s : DS) | ex (C : Str) (pl : List (Str × D)) (s : DS)
inductive AR | no | ok (xs : List DV) (s : DS) | ex (C : Str) (pl : List (Str × D)) (s : DS)
inductive BR | no | ok (b : Bool) (s : DS) | ex (C : Str) (pl : List (Str × D)) (s : DS)
inductive SO | no | nx (s : DS) | bk (s : DS) | ct (s : DS) | rt (x : DV) (s : DS) | ex (C : Str) (pl : List (Str × D)) (s : DS)
abbrev EF := DS → ER
abbrev TF := DS → BR
abbrev SF := DS → SO

/-- an exception's own fields -/
def PlOk (W : Wd) (ℓ : Addr → Lab) (H : Hp) : List (Str × D) → Option Addr → Prop
  | [], dd => dd = none
  | pl, dd => ∃ a fs, dd = some a ∧ ℓ a = .fz ∧ H a = some (.xd fs) ∧ fs.map (·.1) = pl.map (·.1) ∧ ∀ (k : Nat) (n : Str) (v : V) (n' : Str) (d : D), fs[k]? = some (n, v) → pl[k]? = some (n', d) → Rep W ℓ H .fz v d
def SIx (W : Wd) (B : Ent) (s : DS) (F : Temps) (σ : L2.St) (H : Hp) (C : Str) (pl : List (Str × D)) (cls : Value) (dd : Option Addr) : Prop :=
  ∃ ℓ Ca, SIw W ℓ H B s F σ ∧ W.2.1 C = some (.ref Ca) ∧ cls = .ref Ca ∧ PlOk W ℓ H pl dd

section
variable (W : Wd) (XW : WX)
/-- the reading of an expression -/
def EC (B : Ent) (F : Temps) (σ : L2.St) (Q : VK) : ER → Prop
  | .no => False
  | .ok x s => ∀ v H, SI W B s ((x, v) :: F) σ H → Q v H
  | .ex C pl s => ∀ cls dd H, SIx W B s F σ H C pl cls dd → XW cls dd σ H
def tD (f : EF) : TE := fun σ H Q => ∃ B s F, SI W B s F σ H ∧ EC W XW B F σ Q (f s)
def BC (B : Ent) (F : Temps) (σ : L2.St) (Q : Bool → Hp → Prop) : BR → Prop
  | .no => False
  | .ok b s => ∀ H, SI W B s F σ H → Q b H
  | .ex C pl s => ∀ cls dd H, SIx W B s F σ H C pl cls dd → XW cls dd σ H
def tDB (f : TF) : TT := fun σ H Q => ∃ B s F, SI W B s F σ H ∧ BC W XW B F σ Q (f s)
def AC (B : Ent) (F : Temps) (σ : L2.St) (Q : List V → Hp → Prop) : AR → Prop
  | .no => False
  | .ok xs s => ∀ vs H, vs.length = xs.length → SI W B s ((xs.zip vs).reverse ++ F) σ H → Q vs H
  | .ex C pl s => ∀ cls dd H, SIx W B s F σ H C pl cls dd → XW cls dd σ H
def tDA (f : DS → AR) : TA := fun σ H Q => ∃ B s F, SI W B s F σ H ∧ AC W XW B F σ Q (f s)
def SC (B : Ent) (F : Temps) (D : Ends) : SO → Prop
  | .no => False
  | .nx s => ∀ σ H, SI W B s F σ H → D.nx σ H
  | .bk s => ∀ σ H, SI W B s F σ H → D.bk σ H
  | .ct s => ∀ σ H, SI W B s F σ H → D.ct σ H
  | .rt x s => ∀ v σ H, SI W B s ((x, v) :: F) σ H → D.rt v H
  | .ex C pl s => ∀ cls dd σ H, SIx W B s F σ H C pl cls dd → XW cls dd σ H
def tDS (f : SF) : TS := fun D σ H => ∃ B s F, SI W B s F σ H ∧ SC W XW B F D (f s)
end
abbrev WXI := WX × IOs
abbrev Wx (X : Cx) (XW : WXI) : Wd := (X.K, X.mg, XW.2)
structure PEd (X : Cx) (XW : WXI) (e : Expr) (f : EF) : Prop where
  p : PE X e (tD (Wx X XW) XW.1 f)
structure PTd (X : Cx) (XW : WXI) (e : Expr) (f : TF) : Prop where
  p : PT X e (tDB (Wx X XW) XW.1 f)
structure PAd (X : Cx) (XW : WXI) (es : List Expr) (f : DS → AR) : Prop where
  p : PA X es (tDA (Wx X XW) XW.1 f)
structure PSd (X : Cx) (XW : WXI) (st : Stmt) (f : SF) : Prop where
  p : PS X st (tDS (Wx X XW) XW.1 f)
structure PSsd (X : Cx) (XW : WXI) (sts : List Stmt) (f : SF) : Prop where
  p : PSs X sts (tDS (Wx X XW) XW.1 f)
theorem PE.imp {X : Cx} {e : Expr} {t t' : TE} (h : PE X e t) (k : ∀ σ H Q, t' σ H Q → t σ H Q) : PE X e t' := ⟨fun pins s σ H Q I q => h.run pins s σ H Q I (k σ H Q q)⟩
theorem PT.imp {X : Cx} {e : Expr} {t t' : TT} (h : PT X e t) (k : ∀ σ H Q, t' σ H Q → t σ H Q) : PT X e t' := ⟨fun pins s σ H Q I q => h.run pins s σ H Q I (k σ H Q q)⟩
theorem PA.imp {X : Cx} {es : List Expr} {t t' : TA} (h : PA X es t) (k : ∀ σ H Q, t' σ H Q → t σ H Q) : PA X es t' := ⟨fun pos pins s σ H Q I q => h.run pos pins s σ H Q I (k σ H Q q)⟩
theorem PS.imp {X : Cx} {st : Stmt} {t t' : TS} (h : PS X st t) (k : ∀ D σ H, t' D σ H → t D σ H) : PS X st t' := ⟨fun pins s σ H D I q => h.run pins s σ H D I (k D σ H q)⟩
theorem PSs.imp {X : Cx} {st : List Stmt} {t t' : TS} (h : PSs X st t) (k : ∀ D σ H, t' D σ H → t D σ H) : PSs X st t' := ⟨fun pins s σ H D I q => h.run pins s σ H D I (k D σ H q)⟩

section
variable {W : Wd} {XW : WX} {ℓ ℓ' : Addr → Lab} {H H' : Hp} {B : Ent} {s s' : DS} {F : Temps} {σ σ' : L2.St} {v : V} {d : D} {x : DV} {C : Str} {pl : List (Str × D)} {cls : Value} {dd : Option Addr}
theorem SIx.drop (h : SIx W B s ((x, v) :: F) σ H C pl cls dd) : SIx W B (unl x s) F σ H C pl cls dd := by
  obtain ⟨ℓ, Ca, I, h1, h2, h3⟩ := h
  exact ⟨ℓ, Ca, I.drop, h1, h2, h3⟩

/-! ### two in a row -/
def ER.un (x : DV) : ER → ER
  | .ex C pl s => .ex C pl (unl x s)
  | r => r
/-- g of two values -/
def eBin (g : DV → DV → DS → Option (DV × DS)) (a b : EF) : EF := fun s => match a s with
  | .ok x s1 => match b s1 with
    | .ok y s2 => match g x y s2 with
      | some (z, s3) => .ok z s3
      | none => .no
    | .ex C pl s2 => .ex C pl (unl x s2)
    | .no => .no
  | r => r
def eUn (g : DV → DS → Option (DV × DS)) (a : EF) : EF := fun s => match a s with
  | .ok x s1 => match g x s1 with
    | some (z, s3) => .ok z s3
    | none => .no
  | r => r
/-- a two-place operation by values keeps to g -/
def Op2 (W : Wd) (r : R2) (g : DV → DV → DS → Option (DV × DS)) : Prop := ∀ B s F σ H x y vx vy z s', SI W B s ((y, vy) :: (x, vx) :: F) σ H → g x y s = some (z, s') → ∀ Q : VK, (∀ v H', SI W B s' ((z, v) :: F) σ H' → Q v H') → r vx vy H Q
def Op1 (W : Wd) (r : V → Hp → VK → Prop) (g : DV → DS → Option (DV × DS)) : Prop := ∀ B s F σ H x vx z s', SI W B s ((x, vx) :: F) σ H → g x s = some (z, s') → ∀ Q : VK, (∀ v H', SI W B s' ((z, v) :: F) σ H' → Q v H') → r vx H Q
theorem tBin {r : R2} {g : DV → DV → DS → Option (DV × DS)} (hg : Op2 W r g) {a b : EF} {Q : VK} (h : tD W XW (eBin g a b) σ H Q) : tOp r (tD W XW a) (tD W XW b) σ H Q := by
  obtain ⟨B, s, F, I, h⟩ := h
  refine ⟨B, s, F, I, ?_⟩
  unfold eBin at h
  cases e : a s with
  | no => rw [e] at h; exact h
  | ex C pl s1 => rw [e] at h; exact h
  | ok x s1 =>
    simp only [e] at h
    intro vx H1 I1
    refine ⟨B, s1, (x, vx) :: F, I1, ?_⟩
    cases e2 : b s1 with
    | no => simp only [e2] at h; exact h
    | ex C pl s2 => simp only [e2] at h; exact fun cls dd H2 I2 => h cls dd H2 I2.drop
    | ok y s2 =>
      simp only [e2] at h
      intro vy H2 I2
      cases e3 : g x y s2 with
      | none => simp only [e3] at h; exact h.elim
      | some z => 
        simp only [e3] at h
        exact hg _ _ _ _ _ _ _ _ _ _ _ I2 e3 Q h
theorem tUn_ {r : V → Hp → VK → Prop} {g : DV → DS → Option (DV × DS)} (hg : Op1 W r g) {a : EF} {Q : VK} (h : tD W XW (eUn g a) σ H Q) : tUn r (tD W XW a) σ H Q := by
  obtain ⟨B, s, F, I, h⟩ := h
  refine ⟨B, s, F, I, ?_⟩
  unfold eUn at h
  cases e : a s with
  | no => rw [e] at h; exact h
  | ex C pl s1 => rw [e] at h; exact h
  | ok x s1 =>
    simp only [e] at h
    intro vx H1 I1
    cases e3 : g x s1 with
    | none => simp only [e3] at h; exact h.elim
    | some z => 
      simp only [e3] at h
      exact hg _ _ _ _ _ _ _ _ _ I1 e3 Q h
end
section
variable {X : Cx} {XW : WXI} {a b : Expr} {fa fb : EF} {pos : Pos}
theorem pd_op {op : Operator} {r : R2} {g} (ho : OpR X (binaryOp op) r) (hg : Op2 (Wx X XW) r g) (ha : PEd X XW a fa) (hb : PEd X XW b fb) : PEd X XW (.BinOp a op b pos) (eBin g fa fb) :=
  ⟨PE.imp (pe_op ho ha.p hb.p) fun _ _ _ h => tBin hg h⟩
theorem pd_un {op : UnaryOp} {r} {g} (ho : UnR X (unaryOp op) r) (hg : Op1 (Wx X XW) r g) (ha : PEd X XW a fa) : PEd X XW (.UnaryOp op a pos) (eUn g fa) :=
  ⟨PE.imp (pe_un ho ha.p) fun _ _ _ h => tUn_ hg h⟩
theorem pd_cmp {op : CmpOp} {r : R2} {g} (ho : OpR X (compareOp op) r) (hg : Op2 (Wx X XW) r g) (ha : PEd X XW a fa) (hb : PEd X XW b fb) (hm : behindInMarks op b = false) : PEd X XW (.Compare a [op] [b] pos) (eBin g fa fb) :=
  ⟨PE.imp (pe_cmpR ho ha.p hb.p hm) fun _ _ _ h => tBin hg h⟩
/-- a bool as a test -/
def tOf (f : EF) : TF := fun s => match f s with
  | .ok (.dat _ (.bl b)) s' => .ok b s'
  | .ok _ _ => .no
  | .ex C pl s' => .ex C pl s'
  | .no => .no
theorem tOf_ok {W : Wd} {f : EF} {σ : L2.St} {H : Hp} {Q : Bool → Hp → Prop} (h : tDB W XW.1 (tOf f) σ H Q) : tD W XW.1 f σ H fun x H1 => ∃ c, x = .bl c ∧ Q c H1 := by
  obtain ⟨B, s, F, I, h⟩ := h
  refine ⟨B, s, F, I, ?_⟩
  unfold tOf at h
  cases e : f s with
  | no => rw [e] at h; exact h
  | ex C pl s1 => rw [e] at h; exact h
  | ok x s1 =>
    simp only [e] at h
    cases x with
    | dat n d =>
      cases d with
      | bl b =>
        intro v H1 I1
        obtain ⟨ℓ, J⟩ := I1
        have r : Rep W ℓ H1 (.own (.tmp F.length) [] n) v (.bl b) := J.temps.1
        cases r
        exact ⟨b, rfl, h H1 ⟨ℓ, J.drop⟩⟩
      | _ => exact h.elim
    | _ => exact h.elim
theorem ptd_val {e : Expr} {f : EF} (h : PEd X XW e f) (he : ∀ whole, isTrue e X.env whole = (do let v ← whole; standAt e.pos; holding [v] (truthy v)) := by intro _; rfl) : PTd X XW e (tOf f) :=
  ⟨PT.imp (pt_val h.p he) fun _ _ _ h => tOf_ok h⟩
theorem ptd_cmp {op : CmpOp} {r : R2} {g} (ho : OpR X (compareOp op) r) (hg : Op2 (Wx X XW) r g) (ha : PEd X XW a fa) (hb : PEd X XW b fb) (hm : behindInMarks op b = false) : PTd X XW (.Compare a [op] [b] pos) (tOf (eBin g fa fb)) :=
  ⟨PT.imp (pt_cmpR ho ha.p hb.p hm) fun σ H Q h => by
    have := tOf_ok h
    exact tBin hg this⟩
/-! ### and, or, not -/
def tAndF (a b : TF) : TF := fun s => match a s with
  | .ok true s1 => b s1
  | r => r
def tOrF (a b : TF) : TF := fun s => match a s with
  | .ok false s1 => b s1
  | r => r
def tNotF (a : TF) : TF := fun s => match a s with
  | .ok c s1 => .ok (!c) s1
  | r => r
structure PWd (X : Cx) (XW : WXI) (e : Expr) (f : TF) : Prop where
  p : PW X e (tDB (Wx X XW) XW.1 f)
theorem PWd.pt {e : Expr} {f : TF} (h : PWd X XW e f) : PTd X XW e f := ⟨h.p.pt⟩
theorem PW.imp {X : Cx} {e : Expr} {t t' : TT} (h : PW X e t) (k : ∀ σ H Q, t' σ H Q → t σ H Q) : PW X e t' := ⟨fun w pins s σ H Q I q => h.run w pins s σ H Q I (k σ H Q q)⟩
variable {rest : List Expr} {ta tb : TF}
theorem pwd_and1 (ha : PTd X XW a ta) : PWd X XW (.BoolOp .And [a] pos) ta := ⟨pw_and1 ha.p⟩
theorem pwd_or1 (ha : PTd X XW a ta) : PWd X XW (.BoolOp .Or [a] pos) ta := ⟨pw_or1 ha.p⟩
theorem pwd_and (ha : PTd X XW a ta) (hb : PWd X XW (.BoolOp .And (b :: rest) pos) tb) : PWd X XW (.BoolOp .And (a :: b :: rest) pos) (tAndF ta tb) := by
  refine ⟨PW.imp (pw_and ha.p hb.p) fun σ H Q h => ?_⟩
  obtain ⟨B, s, F, I, h⟩ := h
  refine ⟨B, s, F, I, ?_⟩
  unfold tAndF at h
  cases e : ta s with
  | no => rw [e] at h; exact h
  | ex C pl s1 => rw [e] at h; exact h
  | ok c s1 =>
    simp only [e] at h
    intro H1 I1
    cases c with
    | true => rw [if_pos rfl]; exact ⟨B, s1, F, I1, h⟩
    | false => rw [if_neg Bool.false_ne_true]; exact h H1 I1
theorem pwd_or (ha : PTd X XW a ta) (hb : PWd X XW (.BoolOp .Or (b :: rest) pos) tb) : PWd X XW (.BoolOp .Or (a :: b :: rest) pos) (tOrF ta tb) := by
  refine ⟨PW.imp (pw_or ha.p hb.p) fun σ H Q h => ?_⟩
  obtain ⟨B, s, F, I, h⟩ := h
  refine ⟨B, s, F, I, ?_⟩
  unfold tOrF at h
  cases e : ta s with
  | no => rw [e] at h; exact h
  | ex C pl s1 => rw [e] at h; exact h
  | ok c s1 =>
    simp only [e] at h
    intro H1 I1
    cases c with
    | true => rw [if_pos rfl]; exact h H1 I1
    | false => rw [if_neg Bool.false_ne_true]; exact ⟨B, s1, F, I1, h⟩
theorem ptd_not (ha : PTd X XW a ta) : PTd X XW (.UnaryOp .Not a pos) (tNotF ta) := by
  refine ⟨PT.imp (pt_not ha.p) fun σ H Q h => ?_⟩
  obtain ⟨B, s, F, I, h⟩ := h
  refine ⟨B, s, F, I, ?_⟩
  unfold tNotF at h
  cases e : ta s with
  | no => rw [e] at h; exact h
  | ex C pl s1 => rw [e] at h; exact h
  | ok c s1 =>
    simp only [e] at h
    exact h
/-- bools by and, or, not as values -/
def eAnd (a b : EF) : EF := fun s => match a s with
  | .ok (.dat _ (.bl true)) s1 => b s1
  | .ok (.dat _ (.bl false)) s1 => .ok (.dat 0 (.bl false)) s1
  | .ok _ _ => .no
  | r => r
def eOr (a b : EF) : EF := fun s => match a s with
  | .ok (.dat _ (.bl false)) s1 => b s1
  | .ok (.dat _ (.bl true)) s1 => .ok (.dat 0 (.bl true)) s1
  | .ok _ _ => .no
  | r => r
def eNot (a : EF) : EF := fun s => match a s with
  | .ok (.dat _ (.bl c)) s1 => .ok (.dat 0 (.bl (!c))) s1
  | .ok _ _ => .no
  | r => r
theorem pd_one {op} (h : PEd X XW a fa) : PEd X XW (.BoolOp op [a] pos) fa := ⟨pe_one h.p⟩
theorem bl_of {W : Wd} {ℓ : Addr → Lab} {H : Hp} {m : Md} {v : V} {b : Bool} (r : Rep W ℓ H m v (.bl b)) : v = .bl b := by cases r; rfl
theorem int_of {W : Wd} {ℓ : Addr → Lab} {H : Hp} {m : Md} {v : V} {b : Int} (r : Rep W ℓ H m v (.int b)) : v = .int b := by cases r; rfl
theorem str_of {W : Wd} {ℓ : Addr → Lab} {H : Hp} {m : Md} {v : V} {b : Str} (r : Rep W ℓ H m v (.str b)) : v = .str b := by cases r; rfl
theorem non_of {W : Wd} {ℓ : Addr → Lab} {H : Hp} {m : Md} {v : V} (r : Rep W ℓ H m v .non) : v = .non := by cases r; rfl
theorem pd_and (ha : PEd X XW a fa) (hb : PEd X XW (.BoolOp .And (b :: rest) pos) fb) : PEd X XW (.BoolOp .And (a :: b :: rest) pos) (eAnd fa fb) := by
  refine ⟨PE.imp (pe_and ha.p hb.p) fun σ H Q h => ?_⟩
  obtain ⟨B, s, F, I, h⟩ := h
  refine ⟨B, s, F, I, ?_⟩
  unfold eAnd at h
  cases e : fa s with
  | no => rw [e] at h; exact h
  | ex C pl s1 => rw [e] at h; exact h
  | ok x s1 =>
    simp only [e] at h
    intro v H1 ⟨ℓ, J⟩
    cases x with
    | dat n d =>
      cases d with
      | bl c =>
        cases bl_of J.temps.1
        cases c with
        | true => exact ⟨true, rfl, by rw [if_pos rfl]; exact ⟨B, s1, F, ⟨ℓ, J.drop⟩, h⟩⟩
        | false => exact ⟨false, rfl, by rw [if_neg Bool.false_ne_true]; exact h _ _ ⟨ℓ, J.drop.push (Rep.bl _) rfl⟩⟩
      | _ => exact h.elim
    | _ => exact h.elim
theorem pd_or (ha : PEd X XW a fa) (hb : PEd X XW (.BoolOp .Or (b :: rest) pos) fb) : PEd X XW (.BoolOp .Or (a :: b :: rest) pos) (eOr fa fb) := by
  refine ⟨PE.imp (pe_or ha.p hb.p) fun σ H Q h => ?_⟩
  obtain ⟨B, s, F, I, h⟩ := h
  refine ⟨B, s, F, I, ?_⟩
  unfold eOr at h
  cases e : fa s with
  | no => rw [e] at h; exact h
  | ex C pl s1 => rw [e] at h; exact h
  | ok x s1 =>
    simp only [e] at h
    intro v H1 ⟨ℓ, J⟩
    cases x with
    | dat n d =>
      cases d with
      | bl c =>
        cases bl_of J.temps.1
        cases c with
        | true => exact ⟨true, rfl, by rw [if_pos rfl]; exact h _ _ ⟨ℓ, J.drop.push (Rep.bl _) rfl⟩⟩
        | false => exact ⟨false, rfl, by rw [if_neg Bool.false_ne_true]; exact ⟨B, s1, F, ⟨ℓ, J.drop⟩, h⟩⟩
      | _ => exact h.elim
    | _ => exact h.elim
theorem pd_not (ha : PEd X XW a fa) : PEd X XW (.UnaryOp .Not a pos) (eNot fa) := by
  refine ⟨PE.imp (pe_not ha.p) fun σ H Q h => ?_⟩
  obtain ⟨B, s, F, I, h⟩ := h
  refine ⟨B, s, F, I, ?_⟩
  unfold eNot at h
  cases e : fa s with
  | no => rw [e] at h; exact h
  | ex C pl s1 => rw [e] at h; exact h
  | ok x s1 =>
    simp only [e] at h
    intro v H1 ⟨ℓ, J⟩
    cases x with
    | dat n d =>
      cases d with
      | bl c =>
        cases bl_of J.temps.1
        exact ⟨c, rfl, h _ _ ⟨ℓ, J.drop.push (Rep.bl _) rfl⟩⟩
      | _ => exact h.elim
    | _ => exact h.elim
/-- a if t else b -/
def eIf (t : TF) (a b : EF) : EF := fun s => match t s with
  | .ok true s1 => a s1
  | .ok false s1 => b s1
  | .ex C pl s1 => .ex C pl s1
  | .no => .no
theorem pd_if {c : Expr} (hc : PTd X XW c ta) (ha : PEd X XW a fa) (hb : PEd X XW b fb) : PEd X XW (.IfExp c a b pos) (eIf ta fa fb) := by
  refine ⟨PE.imp (pe_ifExp hc.p ha.p hb.p) fun σ H Q h => ?_⟩
  obtain ⟨B, s, F, I, h⟩ := h
  refine ⟨B, s, F, I, ?_⟩
  unfold eIf at h
  cases e : ta s with
  | no => rw [e] at h; exact h
  | ex C pl s1 => rw [e] at h; exact h
  | ok c s1 =>
    simp only [e] at h
    intro H1 I1
    cases c with
    | true => rw [if_pos rfl]; exact ⟨B, s1, F, I1, h⟩
    | false => rw [if_neg Bool.false_ne_true]; exact ⟨B, s1, F, I1, h⟩

/-! ### names, constants -/
def eCon (d : D) : EF := fun s => .ok (.dat 0 d) s
theorem con_ok {W : Wd} {v : V} {d : D} {σ : L2.St} {H : Hp} {Q : VK} (r : ∀ ℓ H, Rep W ℓ H .fz v d) (h : tD W XW.1 (eCon d) σ H Q) : Q v H := by
  obtain ⟨B, s, F, I, h⟩ := h
  exact h v H (I.flat fun ℓ => r ℓ H)
theorem pd_int {i : Int} {j pos} : PEd X XW (.Constant (.int i) j pos) (eCon (.int i)) := ⟨PE.imp pe_int fun _ _ _ h => con_ok (fun _ _ => .int i) h⟩
theorem pd_bl {i : Bool} {j pos} : PEd X XW (.Constant (.bool i) j pos) (eCon (.bl i)) := ⟨PE.imp pe_bl fun _ _ _ h => con_ok (fun _ _ => .bl i) h⟩
theorem pd_non {j pos} : PEd X XW (.Constant .none j pos) (eCon .non) := ⟨PE.imp pe_non fun _ _ _ h => con_ok (fun _ _ => .non) h⟩
theorem pd_str {i : Str} {j pos} : PEd X XW (.Constant (.str i) j pos) (eCon (.str i)) := ⟨PE.imp pe_str fun _ _ _ h => con_ok (fun _ _ => .str i) h⟩
/-- a module's constant int -/
theorem pd_gint {x : Str} {i : Int} {t : Tok} {pos : Pos} (hg : Gl X x) (hm : X.mg x = some (.int i t)) (hd : (x == ("__debug__" : Str)) = false := by decide) : PEd X XW (.Name x pos) (eCon (.int i)) :=
  ⟨PE.imp (pe_glob (v := .int i) hg hm ⟨_, rfl⟩ hd) fun _ _ _ h => con_ok (fun _ _ => .int i) h⟩

def eVar (i : Nat) : EF := fun s => match s.sl[i]? with
  | some (some (.dat n d)) => if (d.cont && decide (0 < n)) = true then .ok (.plc i [] d) ⟨s.sl, i :: s.lk⟩ else .ok (.dat 0 d) s
  | some (some (.brw d)) => if d.flat = true then .ok (.dat 0 d) s else .ok (.brw d) s
  | some (some (.als j p)) => match s.sl[j]? with
    | some (some (.dat n dj)) => match getAt dj p with
      | some d => if (d.cont && decide (p.length < n)) = true then .ok (.plc j p d) ⟨s.sl, j :: s.lk⟩ else .no
      | none => .no
    | _ => .no
  | _ => .no
theorem rep_nc {W : Wd} {ℓ : Addr → Lab} {H : Hp} {r : Root} {p : List Nat} {n : Nat} {v : V} {d : D} (h : Rep W ℓ H (.own r p n) v d) (c : d.cont ≠ true) : Rep W ℓ H .fz v d := by
  cases h with
  | non => exact .non
  | bl b => exact .bl b
  | int b => exact .int b
  | str b => exact .str b
  | tup z1 z2 z3 => exact .tup z1 z2 z3
  | lst => exact absurd rfl c
  | obj => exact absurd rfl c
theorem pd_var (i : Nat) {x : Str} {pos : Pos} (hN : X.N[i]? = some x := by rfl) (hv : Vis X.env.scope x := by first | exact Or.inl rfl | exact Or.inr (Or.inl rfl) | exact Or.inr (Or.inr rfl)) (hd : (x == ("__debug__" : Str)) = false := by decide)
    (hcd : (x == ("__classdict__" : Str)) = false := by decide) : PEd X XW (.Name x pos) (eVar i) := by
  refine ⟨PE.imp (pe_var hN hv hd hcd) fun σ H Q h => ?_⟩
  obtain ⟨B, s, F, ⟨ℓ, I⟩, h⟩ := h
  unfold eVar at h
  cases e : s.sl[i]? with
  | none => rw [e] at h; exact h.elim
  | some z =>
    cases z with
    | none => rw [e] at h; exact h.elim
    | some z =>
      obtain ⟨v, e1, e2⟩ := I.slots i z e
      refine ⟨v, e1, ?_⟩
      simp only [e] at h
      cases z with
      | dat n d =>
        have e2 : Rep (Wx X XW) ℓ H (.own (.slot i) [] n) v d := e2
        by_cases c : (d.cont && decide (0 < n)) = true
        · simp only [if_pos c] at h
          simp only [Bool.and_eq_true, decide_eq_true_eq] at c
          refine h v H ⟨ℓ, I.pushP ?_⟩
          show if owned s.sl i [] = true then PlR H s.sl σ i [] v d else _
          rw [if_pos (owned_iff.mpr ⟨n, d, e, (show ([] : List Nat).length < n from c.2)⟩)]
          exact ⟨n, d, v, e, c.2, e1, .nil, rfl, c.1⟩
        · simp only [if_neg c] at h
          refine h v H ⟨ℓ, I.push (Rep.own0.mpr ?_) rfl⟩
          simp only [Bool.and_eq_true, decide_eq_true_eq, not_and] at c
          by_cases cc : d.cont = true
          · obtain rfl : n = 0 := by have := c cc; omega
            exact Rep.own0.mp e2
          · exact rep_nc e2 cc
      | brw d =>
        have e2 : Rep (Wx X XW) ℓ H .bw v d := e2
        by_cases c : d.flat = true
        · simp only [if_pos c] at h
          exact h v H ⟨ℓ, I.push (Rep.own0.mpr (e2.flat c)) rfl⟩
        · simp only [if_neg c] at h
          exact h v H ⟨ℓ, I.push e2 rfl⟩
      | als j p =>
        obtain ⟨d, n, dj, vj, h1, h2, h3, h4, h5, h6⟩ := e2
        simp only [h1, h5] at h
        rw [if_pos (by simp [h2, h6])] at h
        refine h v H ⟨ℓ, I.pushP ?_⟩
        show if owned s.sl j p = true then PlR H s.sl σ j p v d else _
        rw [if_pos (owned_iff.mpr ⟨n, dj, h1, h2⟩)]
        exact ⟨n, dj, vj, h1, h2, h3, h4, h5, h6⟩

/-! ### arguments -/
def evA : List EF → DS → AR
  | [], s => .ok [] s
  | f :: fs, s => match f s with
    | .ok x s1 => match evA fs s1 with
      | .ok xs s2 => .ok (x :: xs) s2
      | .ex C pl s2 => .ex C pl (unl x s2)
      | .no => .no
    | .ex C pl s1 => .ex C pl s1
    | .no => .no
theorem pad_nil : PAd X XW [] (evA []) := ⟨PA.imp pa_nil fun σ H Q h => by
  obtain ⟨B, s, F, I, h⟩ := h
  exact h [] H rfl I⟩
theorem pad_cons {e : Expr} {es : List Expr} {f : EF} {fs : List EF} (ha : PEd X XW e f) (hr : PAd X XW es (evA fs)) (hs : starEach (e :: es) X.env = (false, eval e X.env) :: starEach es X.env := by rfl) : PAd X XW (e :: es) (evA (f :: fs)) := by
  refine ⟨PA.imp (pa_cons ha.p hr.p hs) fun σ H Q h => ?_⟩
  obtain ⟨B, s, F, I, h⟩ := h
  refine ⟨B, s, F, I, ?_⟩
  unfold evA at h
  cases e1 : f s with
  | no => simp only [e1] at h; exact h
  | ex C pl s1 => simp only [e1] at h; exact h
  | ok x s1 =>
    simp only [e1] at h
    intro v H1 I1
    refine ⟨B, s1, (x, v) :: F, I1, ?_⟩
    cases e2 : evA fs s1 with
    | no => simp only [e2] at h; exact h
    | ex C pl s2 => simp only [e2] at h; exact fun cls dd H2 I2 => h cls dd H2 I2.drop
    | ok xs s2 =>
      simp only [e2] at h
      intro vs H2 hl I2
      exact h (v :: vs) H2 (by simp [hl]) (by simpa using I2)
/-- a built-in by values -/
def OpN (W : Wd) (r : List V → Hp → VK → Prop) (g : List DV → DS → Option (DV × DS)) : Prop := ∀ B s F σ H xs vs z s', vs.length = xs.length → SI W B s ((xs.zip vs).reverse ++ F) σ H → g xs s = some (z, s') → ∀ Q : VK, (∀ v H', SI W B s' ((z, v) :: F) σ H' → Q v H') → r vs H Q
def eCall (g : List DV → DS → Option (DV × DS)) (fs : List EF) : EF := fun s => match evA fs s with
  | .ok xs s1 => match g xs s1 with
    | some (z, s2) => .ok z s2
    | none => .no
  | .ex C pl s1 => .ex C pl s1
  | .no => .no
theorem tCall_ {W : Wd} {r g} (hg : OpN W r g) {fs : List EF} {σ : L2.St} {H : Hp} {Q : VK} (h : tD W XW.1 (eCall g fs) σ H Q) : tCB r (tDA W XW.1 (evA fs)) σ H Q := by
  obtain ⟨B, s, F, I, h⟩ := h
  refine ⟨B, s, F, I, ?_⟩
  unfold eCall at h
  cases e : evA fs s with
  | no => simp only [e] at h; exact h
  | ex C pl s1 => simp only [e] at h; exact h
  | ok xs s1 =>
    simp only [e] at h
    intro vs H1 hl I1
    cases e3 : g xs s1 with
    | none => simp only [e3] at h; exact h.elim
    | some z =>
      simp only [e3] at h
      exact hg _ _ _ _ _ _ _ _ _ hl I1 e3 Q h
theorem pd_callB {x : Str} {p : Pos} {e : Expr} {es : List Expr} {id : String} {r g} {fs : List EF} (hc : CallR X (.builtin id) r) (hgd : OpN (Wx X XW) r g) (hg : Gl X x) (hm : X.mg x = none) (hv : bootBuiltins x = some (.builtin id)) (ha : PAd X XW (e :: es) (evA fs)) (hn : x ≠ "__name__" := by decide) (hdb : (x == ("__debug__" : Str)) = false := by decide)
    (he : starEach (e :: es) X.env = (false, eval e X.env) :: starEach es X.env := by rfl) (hpl : (backTo pos (starEach es X.env)).any (·.1) = false := by rfl) : PEd X XW (.Call (.Name x p) (e :: es) [] pos) (eCall g fs) :=
  ⟨PE.imp (pe_callB hc hg hm hv ha.p hn hdb he hpl) fun _ _ _ h => tCall_ hgd h⟩
theorem pd_callTy {x : Str} {p : Pos} {e : Expr} {es : List Expr} {T : String} {r g} {fs : List EF} (hc : CallR X (.type T) r) (hgd : OpN (Wx X XW) r g) (hg : Gl X x) (hm : X.mg x = none) (hv : bootBuiltins x = some (.type T)) (ha : PAd X XW (e :: es) (evA fs)) (hn : x ≠ "__name__" := by decide) (hdb : (x == ("__debug__" : Str)) = false := by decide)
    (he : starEach (e :: es) X.env = (false, eval e X.env) :: starEach es X.env := by rfl) (hpl : (backTo pos (starEach es X.env)).any (·.1) = false := by rfl) : PEd X XW (.Call (.Name x p) (e :: es) [] pos) (eCall g fs) :=
  ⟨PE.imp (pe_callTy hc hg hm hv ha.p hn hdb he hpl) fun _ _ _ h => tCall_ hgd h⟩
end
end DL

set_option Elab.async false
set_option linter.all false
set_option maxRecDepth 100000
/-! D7: operators and built-ins on plain data -/
namespace DL
open PySem PySem.Spec PyProof.Rows L2
section
variable {W : Wd} {XW : WX} {ℓ ℓ' : Addr → Lab} {H H' : Hp} {B : Ent} {s s' : DS} {F : Temps} {σ σ' : L2.St} {v vx vy : V} {d : D} {x y z : DV}
theorem SIw.two (I : SIw W ℓ H B s ((y, vy) :: (x, vx) :: F) σ) : (∃ m, Rep W ℓ H m vy y.d) ∧ (∃ m, Rep W ℓ H m vx x.d) := ⟨I.tmp, I.drop.tmp⟩
/-- a scalar out of two -/
def fin2 (x y : DV) (s : DS) (d : D) : DV × DS := (.dat 0 d, unl x (unl y s))
def fin1 (x : DV) (s : DS) (d : D) : DV × DS := (.dat 0 d, unl x s)
theorem SIw.fin2 (I : SIw W ℓ H B s ((y, vy) :: (x, vx) :: F) σ) {v : V} {d : D} (r : Rep W ℓ H .fz v d) : SI W B (fin2 x y s d).2 (((fin2 x y s d).1, v) :: F) σ H := ⟨ℓ, I.drop.drop.push (x := .dat 0 d) (Rep.own0.mpr r) rfl⟩
theorem SIw.fin1 (I : SIw W ℓ H B s ((x, vx) :: F) σ) {v : V} {d : D} (r : Rep W ℓ H .fz v d) : SI W B (fin1 x s d).2 (((fin1 x s d).1, v) :: F) σ H := ⟨ℓ, I.drop.push (x := .dat 0 d) (Rep.own0.mpr r) rfl⟩

/-! ### ints -/
def gInt (f : Int → Int → Option D) (x y : DV) (s : DS) : Option (DV × DS) := match x.d, y.d with
  | .int i, .int j => (f i j).map fun d => fin2 x y s d
  | _, _ => none
theorem gInt_some {f} (h : gInt f x y s = some (z, s')) : ∃ i j d, x.d = .int i ∧ y.d = .int j ∧ f i j = some d ∧ (z, s') = fin2 x y s d := by
  unfold gInt at h
  split at h
  · rename_i i j e1 e2
    obtain ⟨d, h1, h2⟩ := Option.map_eq_some_iff.mp h
    exact ⟨i, j, d, e1, e2, h1, h2.symm⟩
  · cases h
theorem op2_rI0 {f : Int → Int → Option D} {g : Int → Int → V} (hg : ∀ i j d, f i j = some d → ∀ ℓ H, Rep W ℓ H .fz (g i j) d) : Op2 W (rI0 g) (gInt f) := by
  intro B s F σ H x y vx vy z s' ⟨ℓ, I⟩ h Q k
  obtain ⟨i, j, d, e1, e2, e3, e4⟩ := gInt_some h
  obtain ⟨⟨m1, r1⟩, ⟨m2, r2⟩⟩ := I.two
  rw [e1] at r2; rw [e2] at r1
  have J := I.fin2 (hg i j d e3 ℓ H)
  rw [← e4] at J
  exact ⟨i, j, int_of r2, int_of r1, k _ _ J⟩
theorem op2_rI {C : Int → Int → Prop} {f : Int → Int → Option D} {g : Int → Int → V} (hg : ∀ i j d, f i j = some d → C i j ∧ ∀ ℓ H, Rep W ℓ H .fz (g i j) d) : Op2 W (rI C g) (gInt f) := by
  intro B s F σ H x y vx vy z s' ⟨ℓ, I⟩ h Q k
  obtain ⟨i, j, d, e1, e2, e3, e4⟩ := gInt_some h
  obtain ⟨⟨m1, r1⟩, ⟨m2, r2⟩⟩ := I.two
  rw [e1] at r2; rw [e2] at r1
  have J := I.fin2 ((hg i j d e3).2 ℓ H)
  rw [← e4] at J
  exact ⟨i, j, int_of r2, int_of r1, (hg i j d e3).1, k _ _ J⟩
def dAdd : DV → DV → DS → Option (DV × DS) := gInt fun i j => some (.int (i + j))
def dSub : DV → DV → DS → Option (DV × DS) := gInt fun i j => some (.int (i - j))
def dMul : DV → DV → DS → Option (DV × DS) := gInt fun i j => if (-(2 ^ 64) < i ∧ i < 2 ^ 64) ∨ (-(2 ^ 64) < j ∧ j < 2 ^ 64) then some (.int (i * j)) else none
def dMod : DV → DV → DS → Option (DV × DS) := gInt fun i j => if 0 < j then some (.int (i % j)) else none
def dDiv : DV → DV → DS → Option (DV × DS) := gInt fun i j => if 0 < j ∧ j < 1073741824 then some (.int (i / j)) else none
def dPow : DV → DV → DS → Option (DV × DS) := gInt fun i j => if 0 ≤ j ∧ j ≤ 1000000 ∧ i.natAbs < 2 ^ 64 then some (.int (i ^ j.toNat)) else none
def dShl : DV → DV → DS → Option (DV × DS) := gInt fun i j => if 0 ≤ j ∧ j ≤ 1000000 ∧ i.natAbs < 2 ^ 64 then some (.int (i * 2 ^ j.toNat)) else none
def dShr : DV → DV → DS → Option (DV × DS) := gInt fun i j => if 0 ≤ j then some (.int (i / 2 ^ j.toNat)) else none
def dLt : DV → DV → DS → Option (DV × DS) := gInt fun i j => some (.bl (decide (i < j)))
def dLe : DV → DV → DS → Option (DV × DS) := gInt fun i j => some (.bl (decide (i ≤ j)))
def dGt : DV → DV → DS → Option (DV × DS) := gInt fun i j => some (.bl (decide (j < i)))
def dGe : DV → DV → DS → Option (DV × DS) := gInt fun i j => some (.bl (decide (j ≤ i)))
theorem o_add : Op2 W (rI0 fun i j => .int (i + j)) dAdd := op2_rI0 fun i j d h => by cases h; exact fun _ _ => .int _
theorem o_sub : Op2 W (rI0 fun i j => .int (i - j)) dSub := op2_rI0 fun i j d h => by cases h; exact fun _ _ => .int _
theorem o_lt : Op2 W (rI0 fun i j => .bl (decide (i < j))) dLt := op2_rI0 fun i j d h => by cases h; exact fun _ _ => .bl _
theorem o_le : Op2 W (rI0 fun i j => .bl (decide (i ≤ j))) dLe := op2_rI0 fun i j d h => by cases h; exact fun _ _ => .bl _
theorem o_gt : Op2 W (rI0 fun i j => .bl (decide (j < i))) dGt := op2_rI0 fun i j d h => by cases h; exact fun _ _ => .bl _
theorem o_ge : Op2 W (rI0 fun i j => .bl (decide (j ≤ i))) dGe := op2_rI0 fun i j d h => by cases h; exact fun _ _ => .bl _
theorem if_some {p : Prop} [Decidable p] {α : Type} {a b : α} (h : (if p then some a else none) = some b) : p ∧ a = b := by
  split at h
  · cases h; exact ⟨‹_›, rfl⟩
  · cases h
theorem o_mul : Op2 W (rI CMul fun i j => .int (i * j)) dMul := op2_rI fun i j d h => by obtain ⟨h1, rfl⟩ := if_some h; exact ⟨h1, fun _ _ => .int _⟩
theorem o_mod : Op2 W (rI (fun _ j => 0 < j) fun i j => .int (i % j)) dMod := op2_rI fun i j d h => by obtain ⟨h1, rfl⟩ := if_some h; exact ⟨h1, fun _ _ => .int _⟩
theorem o_div : Op2 W (rI CDiv fun i j => .int (i / j)) dDiv := op2_rI fun i j d h => by obtain ⟨h1, rfl⟩ := if_some h; exact ⟨h1, fun _ _ => .int _⟩
theorem o_pow : Op2 W (rI CPow fun i j => .int (i ^ j.toNat)) dPow := op2_rI fun i j d h => by obtain ⟨h1, rfl⟩ := if_some h; exact ⟨h1, fun _ _ => .int _⟩
theorem o_shl : Op2 W (rI CPow fun i j => .int (i * 2 ^ j.toNat)) dShl := op2_rI fun i j d h => by obtain ⟨h1, rfl⟩ := if_some h; exact ⟨h1, fun _ _ => .int _⟩
theorem o_shr : Op2 W (rI (fun _ j => 0 ≤ j) fun i j => .int (i / 2 ^ j.toNat)) dShr := op2_rI fun i j d h => by obtain ⟨h1, rfl⟩ := if_some h; exact ⟨h1, fun _ _ => .int _⟩
def dNeg (x : DV) (s : DS) : Option (DV × DS) := match x.d with
  | .int i => some (fin1 x s (.int (-i)))
  | _ => none
theorem o_neg : Op1 W (rU fun i => .int (-i)) dNeg := by
  intro B s F σ H x vx z s' ⟨ℓ, I⟩ h Q k
  obtain ⟨m, r⟩ := I.tmp
  unfold dNeg at h
  split at h
  · rename_i i e
    rw [e] at r
    cases h
    exact ⟨i, int_of r, k _ _ (I.fin1 (.int _))⟩
  · cases h

/-! ### == and != -/
def py : Nat → D → Option PyData
  | _, .non => some .none
  | _, .bl b => some (.bool b)
  | _, .int i => some (.int i)
  | _, .str x => if PyData.strOk x = true then some (.str x) else none
  | n + 1, .lst ds => (ds.mapM (py n)).map .list
  | n + 1, .tup ds => (ds.mapM (py n)).map .tuple
  | _, _ => none
theorem mapM_get {α β : Type} {f : α → Option β} : ∀ {l : List α} {r : List β}, l.mapM f = some r → l.length = r.length ∧ ∀ (k : Nat) (a : α) (b : β), l[k]? = some a → r[k]? = some b → f a = some b
  | [], r, h => by cases h; exact ⟨rfl, fun k a b e => by simp at e⟩
  | a :: l, r, h => by
    rw [List.mapM_cons] at h
    obtain ⟨b, h1, h2⟩ := Option.bind_eq_some_iff.mp h
    obtain ⟨r2, h3, h4⟩ := Option.bind_eq_some_iff.mp h2
    cases h4
    obtain ⟨k1, k2⟩ := mapM_get h3
    refine ⟨by simp [k1], fun k a' b' e1 e2 => ?_⟩
    cases k with
    | zero => simp at e1 e2; subst e1; subst e2; exact h1
    | succ k => exact k2 k a' b' (by simpa using e1) (by simpa using e2)
theorem dpAll_of {K : PySem.W.Frag} {H : Hp} : ∀ {vs : List V} {ps : List PyData}, vs.length = ps.length → (∀ (k : Nat) (v : V) (p : PyData), vs[k]? = some v → ps[k]? = some p → Dp K H v p) → DpAll K H vs ps
  | [], [], _, _ => .nil
  | v :: vs, p :: ps, h, k => .cons (k 0 v p rfl rfl) (dpAll_of (by simpa using h) fun j v p e1 e2 => k (j + 1) v p (by simpa using e1) (by simpa using e2))
theorem canAll_of : ∀ {ps : List PyData}, (∀ p ∈ ps, p.canLay0 = true) → PyData.canLayAll0 ps = true
  | [], _ => rfl
  | p :: ps, h => by simp [PyData.canLayAll0, h p (by simp), canAll_of (ps := ps) fun q hq => h q (by simp [hq])]
theorem depAll_of {n : Nat} : ∀ {ps : List PyData}, (∀ p ∈ ps, p.depth ≤ n) → PyData.depthAll ps ≤ n
  | [], _ => by simp [PyData.depthAll]
  | p :: ps, h => by
    have h1 := h p (by simp)
    have h2 := depAll_of (ps := ps) fun q hq => h q (by simp [hq])
    simp only [PyData.depthAll]; omega
theorem py_ok : ∀ (n : Nat) {d : D} {p : PyData} {m : Md} {v : V}, py n d = some p → Rep W ℓ H m v d → Dp W.1 H v p ∧ p.canLay0 = true ∧ p.depth ≤ n := by
  intro n
  induction n with
  | zero =>
    intro d p m v h r
    cases r with
    | non => cases h; exact ⟨.non, rfl, Nat.zero_le _⟩
    | bl b => cases h; exact ⟨.bl _, rfl, Nat.zero_le _⟩
    | int b => cases h; exact ⟨.int _, rfl, Nat.zero_le _⟩
    | str b => 
      unfold py at h
      obtain ⟨h1, rfl⟩ := if_some h; exact ⟨.str _, by simpa [PyData.canLay0] using h1, Nat.zero_le _⟩
    | tup => cases h
    | lst => cases h
    | obj => cases h
  | succ n ih =>
    intro d p m v h r
    cases r with
    | non => cases h; exact ⟨.non, rfl, Nat.zero_le _⟩
    | bl b => cases h; exact ⟨.bl _, rfl, Nat.zero_le _⟩
    | int b => cases h; exact ⟨.int _, rfl, Nat.zero_le _⟩
    | str b => 
      unfold py at h
      obtain ⟨h1, rfl⟩ := if_some h; exact ⟨.str _, by simpa [PyData.canLay0] using h1, Nat.zero_le _⟩
    | @tup _ a vs ds y1 y2 y3 =>
      unfold py at h
      obtain ⟨ps, h1, rfl⟩ := Option.map_eq_some_iff.mp h
      obtain ⟨k1, k2⟩ := mapM_get h1
      have each : ∀ p ∈ ps, p.canLay0 = true ∧ p.depth ≤ n := fun p hp => by
        obtain ⟨k, hk, e⟩ := List.getElem_of_mem hp
        have e1 : ds[k]? = some (ds[k]'(by omega)) := List.getElem?_eq_getElem _
        have e2 : vs[k]? = some (vs[k]'(by omega)) := List.getElem?_eq_getElem _
        exact (ih (k2 k _ p e1 (by rw [← e]; exact List.getElem?_eq_getElem hk)) (y3 k _ _ e2 e1)).2
      refine ⟨.tup y1.sqT (dpAll_of (y2.trans k1) fun k v p e1 e2 => ?_), ?_, ?_⟩
      · have hk : k < ds.length := by rw [← y2]; exact (List.getElem?_eq_some_iff.mp e1).1
        have e3 : ds[k]? = some ds[k] := List.getElem?_eq_getElem hk
        exact (ih (k2 k _ p e3 e2) (y3 k v _ e1 e3)).1
      · simp only [PyData.canLay0]; exact canAll_of fun p hp => (each p hp).1
      · have := depAll_of fun p hp => (each p hp).2
        simp only [PyData.depth]; omega
    | @lst _ a vs ds y1 y2 y3 =>
      unfold py at h
      obtain ⟨ps, h1, rfl⟩ := Option.map_eq_some_iff.mp h
      obtain ⟨k1, k2⟩ := mapM_get h1
      have each : ∀ p ∈ ps, p.canLay0 = true ∧ p.depth ≤ n := fun p hp => by
        obtain ⟨k, hk, e⟩ := List.getElem_of_mem hp
        have e1 : ds[k]? = some (ds[k]'(by omega)) := List.getElem?_eq_getElem _
        have e2 : vs[k]? = some (vs[k]'(by omega)) := List.getElem?_eq_getElem _
        exact (ih (k2 k _ p e1 (by rw [← e]; exact List.getElem?_eq_getElem hk)) (y3 k _ _ e2 e1)).2
      refine ⟨.lst y1.sqL (dpAll_of (y2.trans k1) fun k v p e1 e2 => ?_), ?_, ?_⟩
      · have hk : k < ds.length := by rw [← y2]; exact (List.getElem?_eq_some_iff.mp e1).1
        have e3 : ds[k]? = some ds[k] := List.getElem?_eq_getElem hk
        exact (ih (k2 k _ p e3 e2) (y3 k v _ e1 e3)).1
      · simp only [PyData.canLay0]; exact canAll_of fun p hp => (each p hp).1
      · have := depAll_of fun p hp => (each p hp).2
        simp only [PyData.depth]; omega
    | obj => cases h
/-- == of plain data -/
def deq (d e : D) : Option Bool := (py 60 d).bind fun a => (py 60 e).map fun b => PyData.eqv a b
def gEq (neg : Bool) (x y : DV) (s : DS) : Option (DV × DS) := (deq x.d y.d).map fun b => fin2 x y s (.bl (if neg then !b else b))
def dEq := gEq false
def dNe := gEq true
theorem deq_ok {b : Bool} {d e : D} {m1 m2 : Md} (h : deq d e = some b) (r1 : Rep W ℓ H m1 vx d) (r2 : Rep W ℓ H m2 vy e) : ∃ a c, Dp W.1 H vx a ∧ Dp W.1 H vy c ∧ SeqAt.shaped a = true ∧ SeqAt.shaped c = true ∧ PyData.eqv a c = b := by
  unfold deq at h
  obtain ⟨a, h1, h2⟩ := Option.bind_eq_some_iff.mp h
  obtain ⟨c, h3, h4⟩ := Option.map_eq_some_iff.mp h2
  obtain ⟨k1, k2, k3⟩ := py_ok 60 h1 r1
  obtain ⟨l1, l2, l3⟩ := py_ok 60 h3 r2
  exact ⟨a, c, k1, l1, by simp [SeqAt.shaped, k2]; omega, by simp [SeqAt.shaped, l2]; omega, h4⟩
theorem o_eq : Op2 W (rEqD W.1) dEq := by
  intro B s F σ H x y vx vy z s' ⟨ℓ, I⟩ h Q k
  obtain ⟨b, h1, h2⟩ := Option.map_eq_some_iff.mp h
  obtain ⟨⟨m1, r1⟩, ⟨m2, r2⟩⟩ := I.two
  obtain ⟨a, c, q1, q2, q3, q4, q5⟩ := deq_ok h1 r2 r1
  cases h2
  exact ⟨a, c, q1, q2, q3, q4, by rw [q5]; exact k _ _ (I.fin2 (.bl _))⟩
theorem o_ne : Op2 W (rNeD W.1) dNe := by
  intro B s F σ H x y vx vy z s' ⟨ℓ, I⟩ h Q k
  obtain ⟨b, h1, h2⟩ := Option.map_eq_some_iff.mp h
  obtain ⟨⟨m1, r1⟩, ⟨m2, r2⟩⟩ := I.two
  obtain ⟨a, c, q1, q2, q3, q4, q5⟩ := deq_ok h1 r2 r1
  cases h2
  exact ⟨a, c, q1, q2, q3, q4, by rw [q5]; exact k _ _ (I.fin2 (.bl _))⟩

/-! ### is None -/
def gIsN (neg : Bool) (x y : DV) (s : DS) : Option (DV × DS) := match y.d with
  | .non => some (fin2 x y s (.bl (if neg then !(decide (x.d = .non)) else decide (x.d = .non))))
  | _ => none
def dIsN := gIsN false
def dNotN := gIsN true
theorem rep_non {m : Md} {d : D} (r : Rep W ℓ H m vx d) : decide (vx = .non) = decide (d = .non) := by
  cases r <;> simp
theorem o_isN : Op2 W (fun x y H Q => y = .non ∧ Q (.bl (decide (x = .non))) H) dIsN := by
  intro B s F σ H x y vx vy z s' ⟨ℓ, I⟩ h Q k
  obtain ⟨⟨m1, r1⟩, ⟨m2, r2⟩⟩ := I.two
  unfold dIsN gIsN at h
  split at h
  · rename_i e
    rw [e] at r1
    cases h
    refine ⟨non_of r1, ?_⟩
    rw [rep_non r2]
    exact k _ _ (I.fin2 (.bl _))
  · cases h
theorem o_notN : Op2 W (fun x y H Q => y = .non ∧ Q (.bl (!decide (x = .non))) H) dNotN := by
  intro B s F σ H x y vx vy z s' ⟨ℓ, I⟩ h Q k
  obtain ⟨⟨m1, r1⟩, ⟨m2, r2⟩⟩ := I.two
  unfold dNotN gIsN at h
  split at h
  · rename_i e
    rw [e] at r1
    cases h
    refine ⟨non_of r1, ?_⟩
    rw [rep_non r2]
    exact k _ _ (I.fin2 (.bl _))
  · cases h
end
end DL

set_option Elab.async false
set_option linter.all false
set_option maxRecDepth 100000
/-! D8: lists and tuples -/
namespace DL
open PySem PySem.Spec PyProof.Rows L2
section
variable {W : Wd} {XW : WX} {ℓ ℓ' : Addr → Lab} {H H' : Hp} {B : Ent} {s s' : DS} {sl : List (Option SV)} {F : Temps} {σ σ' : L2.St} {v vx vy : V} {d : D} {x y z : DV} {t : Nat} {ds as bs : List D}

def lim : DV → DV
  | .dat n d => .dat (min n 1) d
  | x => x
theorem lim_d : (lim x).d = x.d := by cases x <;> rfl
theorem SIw.lim (I : SIw W ℓ H B s ((x, v) :: F) σ) : ∃ ℓ', SIw W ℓ' H B s ((lim x, v) :: F) σ := by
  cases x with
  | dat n d => exact ⟨_, I.downT (Nat.min_le_left _ _)⟩
  | brw d => exact ⟨_, I⟩
  | plc j p d => exact ⟨_, I⟩
/-- the parts are frozen or scalars -/
def kOk (x : DV) (sl : List (Option SV)) (ds : List D) : Bool := ds.all D.flat || match x with
  | .dat n _ => decide (n ≤ 1)
  | .brw _ => false
  | .plc j p _ => !owned sl j (p ++ [0])
/-- make it so -/
def dnk (x : DV) (ds : List D) (s : DS) : DS := if ds.all D.flat = true then s else match x with
  | .plc j p _ => { s with sl := downS s.sl j (p.length + 1) }
  | _ => s
theorem downS_eq {j n : Nat} (h : ∀ n' dj, sl[j]? ≠ some (some (.dat n' dj))) : downS sl j n = sl := by
  unfold downS
  split
  · rename_i e; exact absurd e (h _ _)
  · rfl
theorem SIw.dnk (I : SIw W ℓ H B s F σ) : ∃ ℓ', SIw W ℓ' H B (dnk x ds s) F σ := by
  unfold DL.dnk
  split
  · exact ⟨ℓ, I⟩
  · cases x with
    | dat => exact ⟨ℓ, I⟩
    | brw => exact ⟨ℓ, I⟩
    | plc j p d =>
      by_cases h : ∃ n' dj, s.sl[j]? = some (some (.dat n' dj))
      · obtain ⟨n', dj, h⟩ := h
        exact ⟨_, I.downS h⟩
      · have : DL.downS s.sl j (p.length + 1) = s.sl := downS_eq fun n' dj e => h ⟨n', dj, e⟩
        simp only []
        rw [this]; exact ⟨ℓ, I⟩
theorem rep_flat_fz {m : Md} (r : Rep W ℓ H m v d) (f : d.flat = true) : Rep W ℓ H .fz v d := r.flat f
theorem TmR.kids (hs : ∀ i x, sl[i]? = some (some x) → ∃ v, σ[i]? = some (some v) ∧ SlR W ℓ H sl σ i x v) (h : TmR W ℓ H sl σ t x v) (hd : x.d = .lst ds) :
    ∃ a vs, v = .ref a ∧ SqL W.1 H a vs ∧ ((∀ d, x ≠ .brw d) → H a = some (.lst vs)) ∧ vs.length = ds.length ∧ (kOk x sl ds = true → ∀ (k : Nat) (v' : V) (c : D), vs[k]? = some v' → ds[k]? = some c → Rep W ℓ H .fz v' c) := by
  have fl : ∀ {m : Md} {k : Nat} {v' c}, ds.all D.flat = true → ds[k]? = some c → Rep W ℓ H m v' c → Rep W ℓ H .fz v' c := fun h1 h2 r => r.flat (List.all_eq_true.mp h1 _ (List.mem_of_getElem? h2))
  cases x with
  | dat n d =>
    subst hd
    have h : Rep W ℓ H (.own (.tmp t) [] n) v (.lst ds) := h
    cases h with
    | lst y1 y2 y3 =>
      refine ⟨_, _, rfl, y1.sqL, fun _ => (y1.nb (fun z => nomatch z)).2, y2, fun k0 k v' c a1 a2 => ?_⟩
      have r := y3 k v' c a1 a2
      simp only [kOk, Bool.or_eq_true, decide_eq_true_eq] at k0
      rcases k0 with k0 | k0
      · exact fl k0 a2 r
      · cases n with
        | zero => exact r
        | succ n =>
          obtain rfl : n = 0 := by omega
          exact Rep.own0.mp r
  | brw d =>
    subst hd
    have h : Rep W ℓ H .bw v (.lst ds) := h
    cases h with
    | lst y1 y2 y3 =>
      refine ⟨_, _, rfl, y1.sqL, fun z => absurd rfl (z _), y2, fun k0 k v' c a1 a2 => ?_⟩
      simp only [kOk, Bool.or_eq_true] at k0
      rcases k0 with k0 | k0
      · exact fl k0 a2 (y3 k v' c a1 a2)
      · cases k0
  | plc j p d =>
    subst hd
    have h : if owned sl j p = true then PlR H sl σ j p v (.lst ds) else Rep W ℓ H .fz v (.lst ds) := h
    by_cases o : owned sl j p = true
    · rw [if_pos o] at h
      obtain ⟨n, dj, vj, h1, h2, h3, h4, h5, h6⟩ := h
      obtain ⟨v', e1, e2⟩ := hs j _ h1
      rw [h3] at e1; cases e1
      have r := h4.rep e2 (Nat.le_of_lt h2) h5
      obtain ⟨n2, hn2⟩ : ∃ n2, n - p.length = n2 + 1 := ⟨n - p.length - 1, by omega⟩
      rw [hn2] at r
      cases r with
      | lst y1 y2 y3 =>
        refine ⟨_, _, rfl, y1.sqL, fun _ => (NA.own y1).2, y2, fun k0 k v' c a1 a2 => ?_⟩
        have r := y3 k v' c a1 a2
        simp only [kOk, Bool.or_eq_true, Bool.not_eq_true'] at k0
        rcases k0 with k0 | k0
        · exact fl k0 a2 r
        · have : n2 = 0 := by
            cases n2 with
            | zero => rfl
            | succ z => 
              have q : owned sl j (p ++ [0]) = true := owned_iff.mpr ⟨n, dj, h1, by simp; omega⟩
              rw [q] at k0; cases k0
          subst this
          exact Rep.own0.mp r
    · rw [if_neg o] at h
      cases h with
      | lst y1 y2 y3 => exact ⟨_, _, rfl, y1.sqL, fun _ => (y1.nb (fun z => nomatch z)).2, y2, fun _ k v' c a1 a2 => y3 k v' c a1 a2⟩
def kOkT (x : DV) (ds : List D) : Bool := ds.all D.flat || match x with
  | .brw _ => false
  | _ => true
theorem TmR.kidsT (hs : ∀ i x, sl[i]? = some (some x) → ∃ v, σ[i]? = some (some v) ∧ SlR W ℓ H sl σ i x v) (h : TmR W ℓ H sl σ t x v) (hd : x.d = .tup ds) :
    ∃ a vs, v = .ref a ∧ SqT W.1 H a vs ∧ vs.length = ds.length ∧ (kOkT x ds = true → ∀ (k : Nat) (v' : V) (c : D), vs[k]? = some v' → ds[k]? = some c → Rep W ℓ H .fz v' c) := by
  have fl : ∀ {m : Md} {k : Nat} {v' c}, ds.all D.flat = true → ds[k]? = some c → Rep W ℓ H m v' c → Rep W ℓ H .fz v' c := fun h1 h2 r => r.flat (List.all_eq_true.mp h1 _ (List.mem_of_getElem? h2))
  cases x with
  | dat n d =>
    subst hd
    have h : Rep W ℓ H (.own (.tmp t) [] n) v (.tup ds) := h
    cases h with
    | tup y1 y2 y3 => exact ⟨_, _, rfl, y1.sqT, y2, fun _ k v' c a1 a2 => y3 k v' c a1 a2⟩
  | brw d =>
    subst hd
    have h : Rep W ℓ H .bw v (.tup ds) := h
    cases h with
    | tup y1 y2 y3 =>
      refine ⟨_, _, rfl, y1.sqT, y2, fun k0 k v' c a1 a2 => ?_⟩
      simp only [kOkT, Bool.or_eq_true] at k0
      rcases k0 with k0 | k0
      · exact fl k0 a2 (y3 k v' c a1 a2)
      · cases k0
  | plc j p d =>
    subst hd
    have h : if owned sl j p = true then PlR H sl σ j p v (.tup ds) else Rep W ℓ H .fz v (.tup ds) := h
    by_cases o : owned sl j p = true
    · rw [if_pos o] at h
      obtain ⟨n, dj, vj, h1, h2, h3, h4, h5, h6⟩ := h
      cases h6
    · rw [if_neg o] at h
      cases h with
      | tup y1 y2 y3 => exact ⟨_, _, rfl, y1.sqT, y2, fun _ k v' c a1 a2 => y3 k v' c a1 a2⟩

/-! ### a list out of one list or tuple -/
/-- a new list made of parts of x -/
def gNew (x : DV) (src out : List D) (tup : Bool) (s : DS) : Option (DV × DS) :=
  let x := lim x
  let s1 := dnk x src s
  if (if tup then kOkT x src else kOk x s1.sl src) = true then some (.dat 1 (.lst out), unl x s1) else none
def isTup : D → Bool
  | .tup _ => true
  | _ => false
def items? : D → Option (List D)
  | .lst ds => some ds
  | .tup ds => some ds
  | _ => none
theorem unl_lim : unl (lim x) s = unl x s := by cases x <;> rfl
theorem isBrw_lim {d : D} : lim x = .brw d ↔ x = .brw d := by cases x <;> simp [lim]
/-- the list or tuple behind a temp, its parts ready -/
theorem SIw.seq (I : SIw W ℓ H B s ((x, v) :: F) σ) (hi : items? x.d = some ds) : ∃ ℓ' a vs, SIw W ℓ' H B (DL.dnk (DL.lim x) ds s) ((DL.lim x, v) :: F) σ ∧ v = .ref a ∧ (SqL W.1 H a vs ∧ isTup x.d = false ∨ SqT W.1 H a vs ∧ isTup x.d = true) ∧ (isTup x.d = false → (∀ d, x ≠ .brw d) → H a = some (.lst vs)) ∧ vs.length = ds.length ∧
    ((if isTup x.d then kOkT (DL.lim x) ds else kOk (DL.lim x) (DL.dnk (DL.lim x) ds s).sl ds) = true → ∀ (k : Nat) (v' : V) (c : D), vs[k]? = some v' → ds[k]? = some c → Rep W ℓ' H .fz v' c) := by
  obtain ⟨ℓ1, I1⟩ := I.lim
  obtain ⟨ℓ2, I2⟩ := I1.dnk (x := DL.lim x) (ds := ds)
  cases e : x.d with
  | lst xs =>
    rw [e] at hi; cases hi
    obtain ⟨a, vs, h1, h2, h3, h4, h5⟩ := I2.temps.1.kids I2.slots (by rw [lim_d]; exact e)
    exact ⟨ℓ2, a, vs, I2, h1, .inl ⟨h2, rfl⟩, fun _ k => h3 fun d z => k d (isBrw_lim.mp z), h4, h5⟩
  | tup xs =>
    rw [e] at hi; cases hi
    obtain ⟨a, vs, h1, h2, h4, h5⟩ := I2.temps.1.kidsT I2.slots (by rw [lim_d]; exact e)
    exact ⟨ℓ2, a, vs, I2, h1, .inr ⟨h2, rfl⟩, (fun z => by cases z), h4, h5⟩
  | _ => rw [e] at hi; cases hi
/-- .. and a new list of such parts -/
theorem SIw.newOf (I : SIw W ℓ H B s ((x, v) :: F) σ) {vs : List V} {os : List D} (hl : vs.length = os.length) (r : ∀ (k : Nat) (v : V) (d : D), vs[k]? = some v → os[k]? = some d → Rep W ℓ H .fz v d) {a : Addr} (ha : H a = none) :
    SI W B (unl x s) ((.dat 1 (.lst os), .ref a) :: F) σ (upd H a (.lst vs)) := I.drop.newL ha hl r
theorem SIw.newOfT (I : SIw W ℓ H B s ((x, v) :: F) σ) {vs : List V} {os : List D} (hl : vs.length = os.length) (r : ∀ (k : Nat) (v : V) (d : D), vs[k]? = some v → os[k]? = some d → Rep W ℓ H .fz v d) {a : Addr} (ha : H a = none) {f : Obj} (hf : f.dict = none) :
    SI W B (unl x s) ((.dat 0 (.tup os), .ref a) :: F) σ (upd H a (.frz f (.tup vs))) := I.drop.newT hf ha hl r
/-- list(x), tuple(x) -/
def gList (xs : List DV) (s : DS) : Option (DV × DS) := match xs with
  | [x] => match items? x.d with
    | some ds =>
      let s1 := dnk (lim x) ds s
      if (if isTup x.d then kOkT (lim x) ds else kOk (lim x) s1.sl ds) = true then some (.dat 1 (.lst ds), unl x s1) else none
    | none => none
  | _ => none
def gTuple (xs : List DV) (s : DS) : Option (DV × DS) := match xs with
  | [x] => match items? x.d with
    | some ds => if isTup x.d = true then (match x with
        | .dat _ d => some (.dat 0 d, s)
        | _ => none) else
      let s1 := dnk (lim x) ds s
      if kOk (lim x) s1.sl ds = true then some (.dat 0 (.tup ds), unl x s1) else none
    | none => none
  | _ => none
theorem one_of {xs : List DV} {vs : List V} (h : vs.length = xs.length) {x : DV} (e : xs = [x]) : ∃ v, vs = [v] := by
  subst e
  match vs, h with
  | [v], _ => exact ⟨v, rfl⟩
theorem n_list : OpN W (fun xs H Q => ∃ p ys, xs = [.ref p] ∧ (SqL W.1 H p ys ∨ SqT W.1 H p ys) ∧ ∀ l, H l = none → Q (.ref l) (upd H l (.lst ys))) gList := by
  intro B s F σ H xs vs z s' hl ⟨ℓ, I⟩ h Q k
  unfold gList at h
  split at h
  · rename_i x
    obtain ⟨v, rfl⟩ := one_of hl rfl
    have I : SIw W ℓ H B s ((x, v) :: F) σ := I
    split at h
    · rename_i ds e
      obtain ⟨ℓ', a, ws, J, rfl, h2, h3, h4, h5⟩ := I.seq e
      obtain ⟨c, h⟩ := if_some h
      cases h
      refine ⟨a, ws, rfl, h2.imp (·.1) (·.1), fun l hl => k _ _ ?_⟩
      have := J.newOf h4 (h5 c) hl
      rw [unl_lim] at this
      exact this
    · cases h
  · cases h
def rTupX (K : PySem.W.Frag) : List V → Hp → VK → Prop := fun xs H Q => ∃ p ys, xs = [.ref p] ∧ ((SqL K H p ys ∧ ∀ l f, H l = none → f.dict = none → Q (.ref l) (upd H l (.frz f (.tup ys)))) ∨ (SqT K H p ys ∧ Q (.ref p) H))
theorem n_tuple : OpN W (rTupX W.1) gTuple := by
  intro B s F σ H xs vs z s' hl ⟨ℓ, I⟩ h Q k
  unfold gTuple at h
  split at h
  · rename_i x
    obtain ⟨v, rfl⟩ := one_of hl rfl
    have I : SIw W ℓ H B s ((x, v) :: F) σ := I
    split at h
    · rename_i ds e
      by_cases ht : isTup x.d = true
      · rw [if_pos ht] at h
        split at h
        · rename_i n d
          cases h
          obtain ⟨ℓ', a, ws, J, rfl, h2, h3, h4, h5⟩ := I.seq e
          refine ⟨a, ws, rfl, .inr ⟨?_, k _ _ ⟨_, I.downT (Nat.zero_le _)⟩⟩⟩
          rcases h2 with ⟨_, h2⟩ | ⟨h2, _⟩
          · rw [h2] at ht; cases ht
          · exact h2
        · cases h
      · rw [if_neg ht] at h
        obtain ⟨ℓ', a, ws, J, rfl, h2, h3, h4, h5⟩ := I.seq e
        obtain ⟨c, h⟩ := if_some h
        cases h
        rcases h2 with ⟨h2, h6⟩ | ⟨_, h2⟩
        · rw [h6] at h5
          refine ⟨a, ws, rfl, .inl ⟨h2, fun l f hl hf => k _ _ ?_⟩⟩
          have := J.newOfT h4 (h5 c) hl hf
          rw [unl_lim] at this
          exact this
        · exact absurd h2 ht
    · cases h
  · cases h
theorem cr_tupleX {X : Cx} : CallR X (.type "tuple") (rTupX X.K) := by
  intro pins s σ H xs us Q J r h
  obtain ⟨p, ys, rfl, h⟩ := h
  obtain ⟨u, rfl, rx⟩ := vals1 r
  cases rx
  rcases h with ⟨hq, q⟩ | ⟨hq, q⟩
  · obtain ⟨its, rv, pl, hz⟩ := J.list hq
    have hlen := rv.length
    refine call_tuple_list pl.isList (fun h' kp => ?_) (by simp only [List.size_toArray] <;> omega)
    have J1 : Inv X pins σ H { s with heap := h' } := J.kept (t' := s.toks) kp
    have J2 : Inv X pins σ (upd H h'.objs.size (.frz { cls := .type "tuple", data := .seq its.toArray } (.tup ys))) { s with heap := h'.push { cls := .type "tuple", data := .seq its.toArray } } :=
      J1.laid (t' := s.toks) (fun b o e => Heap.get?_push_of_some _ e) (Nat.le_refl _) (show ObjOk X.prog X.w _ _ _ (.frz _ (.tup ys)) from ⟨Heap.get?_push_size _ rfl, hz, its, rv, IsTup.new _ _⟩)
    exact ⟨.ref h'.objs.size, _, J2, rfl, q _ _ (J1.hok.fresh (Nat.le_refl _)) rfl⟩
  · obtain ⟨its, rv, pl, hz⟩ := J.tuple hq
    exact call_tuple_same pl ⟨.ref p, H, J, rfl, q⟩
/-- len -/
def gLen (xs : List DV) (s : DS) : Option (DV × DS) := match xs with
  | [x] => match items? x.d with
    | some ds => some (fin1 x s (.int ds.length))
    | none => none
  | _ => none
theorem n_len : OpN W (fun xs H Q => ∃ p ys, xs = [.ref p] ∧ (SqL W.1 H p ys ∨ SqT W.1 H p ys) ∧ Q (.int ys.length) H) gLen := by
  intro B s F σ H xs vs z s' hl ⟨ℓ, I⟩ h Q k
  unfold gLen at h
  split at h
  · rename_i x
    obtain ⟨v, rfl⟩ := one_of hl rfl
    have I : SIw W ℓ H B s ((x, v) :: F) σ := I
    split at h
    · rename_i ds e
      cases h
      obtain ⟨ℓ', a, ws, J, rfl, h2, h3, h4, h5⟩ := I.seq e
      refine ⟨a, ws, rfl, h2.imp (·.1) (·.1), ?_⟩
      rw [h4]
      exact k _ _ (I.fin1 (.int _))
    · cases h
  · cases h
/-- x[i] -/
def gIx (x y : DV) (s : DS) : Option (DV × DS) := match items? x.d, y.d with
  | some ds, .int i => match ixN ds.length i with
    | some k => match ds[k]? with
      | some c => some (dsub x k c (unl y s))
      | none => none
    | none => none
  | _, _ => none
theorem atI_of {α : Type} {xs : List α} {i : Int} {k : Nat} {c : α} (h : ixN xs.length i = some k) (h2 : xs[k]? = some c) : atI xs i = some c := by
  unfold atI; rw [h]; exact h2
theorem o_ix : Op2 W (fun x y H Q => rIxL W.1 x y H Q ∨ rIxT W.1 x y H Q) gIx := by
  intro B s F σ H x y vx vy z s' ⟨ℓ, I⟩ h Q k
  unfold gIx at h
  split at h
  · rename_i ds i e1 e2
    split at h
    · rename_i j e3
      split at h
      · rename_i c e4
        have h := Option.some.inj h
        obtain rfl : z = (dsub x j c (unl y s)).1 := by rw [h]
        obtain rfl : s' = (dsub x j c (unl y s)).2 := by rw [h]
        obtain ⟨m1, r1⟩ := I.tmp
        rw [e2] at r1
        have J := I.drop
        cases e : x.d with
        | lst xs =>
          rw [e] at e1; cases e1
          obtain ⟨a, vs, rfl, h2, h3, h4⟩ := J.subL e
          have hj : j < ds.length := (List.getElem?_eq_some_iff.mp e4).1
          have hv : vs[j]? = some (vs[j]'(by omega)) := List.getElem?_eq_getElem _
          exact .inl ⟨a, vs, i, _, rfl, int_of r1, h2, atI_of (by rw [h3]; exact e3) hv, k _ _ (h4 j _ c hv e4)⟩
        | tup xs =>
          rw [e] at e1; cases e1
          obtain ⟨a, vs, rfl, h2, h3, h4⟩ := J.subT e
          have hj : j < ds.length := (List.getElem?_eq_some_iff.mp e4).1
          have hv : vs[j]? = some (vs[j]'(by omega)) := List.getElem?_eq_getElem _
          exact .inr ⟨a, vs, i, _, rfl, int_of r1, h2, atI_of (by rw [h3]; exact e3) hv, k _ _ (h4 j _ c hv e4)⟩
        | _ => rw [e] at e1; cases e1
      · cases h
    · cases h
  · cases h
/-! ### + and * -/
def gCat (x y : DV) (s : DS) : Option (DV × DS) := match x.d, y.d with
  | .lst as, .lst bs =>
    let s1 := dnk (lim y) bs (dnk x as s)
    match x, y with
    | .brw _, _ => none
    | _, .brw _ => none
    | _, _ => if (kOk x s1.sl as && kOk (lim y) s1.sl bs && decide (as.length + bs.length ≤ sizeLine)) = true then some (.dat 1 (.lst (as ++ bs)), unl x (unl y s1)) else none
  | _, _ => none
theorem o_cat : Op2 W rCat gCat := by
  intro B s F σ H x y vx vy z s' ⟨ℓ, I⟩ h Q k
  unfold gCat at h
  split at h
  · rename_i as bs e1 e2
    obtain ⟨ℓ1, I1⟩ := I.lim
    obtain ⟨ℓ2, I2⟩ := I1.dnk (x := x) (ds := as)
    obtain ⟨ℓ3, J⟩ := I2.dnk (x := DL.lim y) (ds := bs)
    simp only [] at h
    have key : (∀ d, x ≠ .brw d) → (∀ d, y ≠ .brw d) → (if (kOk x (DL.dnk (DL.lim y) bs (DL.dnk x as s)).sl as && kOk (DL.lim y) (DL.dnk (DL.lim y) bs (DL.dnk x as s)).sl bs && decide (as.length + bs.length ≤ sizeLine)) = true then some (DV.dat 1 (.lst (as ++ bs)), unl x (unl y (DL.dnk (DL.lim y) bs (DL.dnk x as s)))) else none) = some (z, s') → rCat vx vy H Q := by
      intro n1 n2 h
      obtain ⟨c, e⟩ := if_some h
      cases e
      simp only [Bool.and_eq_true, decide_eq_true_eq] at c
      obtain ⟨⟨c1, c2⟩, c3⟩ := c
      obtain ⟨a, vs, rfl, _, p3, p4, p5⟩ := J.temps.1.kids J.slots (by rw [lim_d]; exact e2)
      obtain ⟨b, ws, rfl, _, q3, q4, q5⟩ := J.temps.2.1.kids J.slots e1
      refine ⟨b, a, ws, vs, rfl, rfl, q3 n1, p3 (fun d z => n2 d (isBrw_lim.mp z)), by omega, fun l hl => k _ _ ?_⟩
      have J2 := J.drop.drop
      rw [unl_lim] at J2
      refine J2.newL hl (by simp [p4, q4]) fun k v d a1 a2 => ?_
      rw [List.getElem?_append] at a1 a2
      rw [q4] at a1
      split at a1
      · rename_i hk
        rw [if_pos hk] at a2
        exact q5 c1 k v d a1 a2
      · rename_i hk
        rw [if_neg hk] at a2
        exact p5 c2 _ v d a1 a2
    cases x with
    | brw => cases h
    | dat =>
      cases y with
      | brw => cases h
      | dat => exact key (fun _ z => nomatch z) (fun _ z => nomatch z) h
      | plc => exact key (fun _ z => nomatch z) (fun _ z => nomatch z) h
    | plc =>
      cases y with
      | brw => cases h
      | dat => exact key (fun _ z => nomatch z) (fun _ z => nomatch z) h
      | plc => exact key (fun _ z => nomatch z) (fun _ z => nomatch z) h
  · cases h
end
end DL

set_option Elab.async false
set_option linter.all false
set_option maxRecDepth 100000
/-! D9: more operators: list * int, slices, in, is, sorted, int, abs, isinstance, ranges as lists -/
namespace DL
open PySem PySem.Spec PyProof.Rows L2
section
variable {W : Wd} {XW : WX} {ℓ ℓ' : Addr → Lab} {H H' : Hp} {B : Ent} {s s' : DS} {sl : List (Option SV)} {F : Temps} {σ σ' : L2.St} {v vx vy : V} {d : D} {x y z : DV} {t : Nat} {ds as bs : List D}
/-- the items of a list or tuple are scalars all -/
theorem SIw.flats (I : SIw W ℓ H B s F' σ) (h : TmR W ℓ H s.sl σ t x v) (hi : items? x.d = some ds) : ∃ a vs, v = .ref a ∧ (SqL W.1 H a vs ∧ isTup x.d = false ∨ SqT W.1 H a vs ∧ isTup x.d = true) ∧ vs.length = ds.length ∧ (ds.all D.flat = true → ∀ (k : Nat) (v' : V) (c : D), vs[k]? = some v' → ds[k]? = some c → Rep W ℓ H .fz v' c) := by
  cases e : x.d with
  | lst xs =>
    rw [e] at hi; cases hi
    obtain ⟨a, vs, h1, h2, h3, h4, h5⟩ := h.kids I.slots e
    exact ⟨a, vs, h1, .inl ⟨h2, rfl⟩, h4, fun f => h5 (by simp [kOk, f])⟩
  | tup xs =>
    rw [e] at hi; cases hi
    obtain ⟨a, vs, h1, h2, h4, h5⟩ := h.kidsT I.slots e
    exact ⟨a, vs, h1, .inr ⟨h2, rfl⟩, h4, fun f => h5 (by simp [kOkT, f])⟩
  | _ => rw [e] at hi; cases hi

/-! ### list * int -/
theorem rep_flatten {α β : Type} {R : α → β → Prop} {xs : List α} {ys : List β} (hl : xs.length = ys.length) (r : ∀ (k : Nat) a b, xs[k]? = some a → ys[k]? = some b → R a b) : ∀ (n k : Nat) a b, (List.replicate n xs).flatten[k]? = some a → (List.replicate n ys).flatten[k]? = some b → R a b
  | 0, k, a, b, h, _ => by simp at h
  | n + 1, k, a, b, h1, h2 => by
    rw [List.replicate_succ, List.flatten_cons, List.getElem?_append] at h1 h2
    rw [hl] at h1
    split at h1
    · rename_i hk; rw [if_pos hk] at h2; exact r k a b h1 h2
    · rename_i hk; rw [if_neg hk] at h2; exact rep_flatten hl r n _ a b h1 h2
theorem flat_len {α : Type} (xs : List α) (n : Nat) : (List.replicate n xs).flatten.length = xs.length * n := by
  induction n with
  | zero => simp
  | succ n ih => rw [List.replicate_succ, List.flatten_cons, List.length_append, ih, Nat.mul_succ, Nat.add_comm]
def gRep (x y : DV) (s : DS) : Option (DV × DS) := match x.d, y.d with
  | .lst as, .int n => match x with
    | .brw _ => none
    | _ =>
      let s1 := dnk x as s
      if (kOk x s1.sl as && decide (-(2 ^ 63) ≤ n ∧ n < 2 ^ 63 ∧ as.length * n.toNat ≤ sizeLine)) = true then some (.dat 1 (.lst (List.replicate n.toNat as).flatten), unl x (unl y s1)) else none
  | _, _ => none
theorem o_rep : Op2 W rRep gRep := by
  intro B s F σ H x y vx vy z s' ⟨ℓ, I⟩ h Q k
  unfold gRep at h
  split at h
  · rename_i as n e1 e2
    obtain ⟨ℓ2, J⟩ := I.dnk (x := x) (ds := as)
    have key : (∀ d, x ≠ .brw d) → (if (kOk x (DL.dnk x as s).sl as && decide (-(2 ^ 63) ≤ n ∧ n < 2 ^ 63 ∧ as.length * n.toNat ≤ sizeLine)) = true then some (DV.dat 1 (.lst (List.replicate n.toNat as).flatten), unl x (unl y (DL.dnk x as s))) else none) = some (z, s') → rRep vx vy H Q := by
      intro n1 h
      obtain ⟨c, e⟩ := if_some h
      cases e
      simp only [Bool.and_eq_true, decide_eq_true_eq] at c
      obtain ⟨c1, c2, c3, c4⟩ := c
      obtain ⟨m, r⟩ := J.tmp
      rw [e2] at r
      obtain ⟨b, ws, rfl, _, q3, q4, q5⟩ := J.temps.2.1.kids J.slots e1
      refine ⟨b, n, ws, rfl, int_of r, q3 n1, c2, c3, by rw [q4]; exact c4, fun l hl => k _ _ ?_⟩
      exact J.drop.drop.newL hl (by rw [flat_len, flat_len, q4]) fun k v d a1 a2 => rep_flatten q4 (q5 c1) _ k v d a1 a2
    cases x with
    | brw => cases h
    | dat => exact key (fun _ z => nomatch z) h
    | plc => exact key (fun _ z => nomatch z) h
  · cases h
/-! ### in, not in -/
def eqF : D → D → Bool
  | .non, .non => true
  | .bl a, .bl b => a == b
  | .bl a, .int b => (if a then 1 else 0) == b
  | .int a, .bl b => a == (if b then 1 else 0)
  | .int a, .int b => a == b
  | .str a, .str b => a == b
  | _, _ => false
theorem eqF_ok {m1 m2 : Md} {d e : D} (r1 : Rep W ℓ H m1 vx d) (r2 : Rep W ℓ H m2 vy e) (f1 : d.flat = true) (f2 : e.flat = true) : eqV vx vy = eqF d e ∧ flatV vx = true ∧ flatV vy = true := by
  cases r1 <;> cases r2 <;> first | exact ⟨rfl, rfl, rfl⟩ | exact absurd f1 Bool.false_ne_true | exact absurd f2 Bool.false_ne_true
theorem flatV_ok {m1 : Md} {d : D} (r1 : Rep W ℓ H m1 vx d) (f1 : d.flat = true) : flatV vx = true := by cases r1 <;> first | rfl | exact absurd f1 Bool.false_ne_true
theorem flats_all : ∀ {vs : List V} {ds : List D}, vs.length = ds.length → ds.all D.flat = true → (∀ (k : Nat) (v' : V) (c : D), vs[k]? = some v' → ds[k]? = some c → Rep W ℓ H .fz v' c) → vs.all flatV = true
  | [], [], _, _, _ => rfl
  | v :: vs, d :: ds, h, f, r => by
    simp only [List.all_cons, Bool.and_eq_true] at f ⊢
    exact ⟨flatV_ok (r 0 v d rfl rfl) f.1, flats_all (by simpa using h) f.2 fun k v c a b => r (k + 1) v c (by simpa using a) (by simpa using b)⟩
theorem any_eqF {d : D} {m : Md} (rx : Rep W ℓ H m vx d) (fx : d.flat = true) : ∀ {vs : List V} {ds : List D}, vs.length = ds.length → ds.all D.flat = true → (∀ (k : Nat) (v' : V) (c : D), vs[k]? = some v' → ds[k]? = some c → Rep W ℓ H .fz v' c) → (vs.any fun y => eqV y vx) = ds.any fun e => eqF e d
  | [], [], _, _, _ => rfl
  | v :: vs, e :: ds, h, f, r => by
    simp only [List.all_cons, Bool.and_eq_true] at f
    rw [List.any_cons, List.any_cons, any_eqF rx fx (by simpa using h) f.2 fun k v c a b => r (k + 1) v c (by simpa using a) (by simpa using b), (eqF_ok (r 0 v e rfl rfl) rx f.1 fx).1]
def gIn (neg : Bool) (x y : DV) (s : DS) : Option (DV × DS) := match items? y.d with
  | some ds => if (x.d.flat && ds.all D.flat) = true then some (fin2 x y s (.bl (if neg then !(ds.any fun e => eqF e x.d) else ds.any fun e => eqF e x.d))) else none
  | none => none
theorem o_in (neg : Bool) : Op2 W (rIn W.1 neg) (gIn neg) := by
  intro B s F σ H x y vx vy z s' ⟨ℓ, I⟩ h Q k
  unfold gIn at h
  split at h
  · rename_i ds e
    obtain ⟨c, h⟩ := if_some h
    cases h
    simp only [Bool.and_eq_true] at c
    obtain ⟨a, vs, rfl, h2, h4, h5⟩ := I.flats I.temps.1 e
    obtain ⟨m, r⟩ := I.drop.tmp
    refine ⟨a, vs, rfl, h2.imp (·.1) (·.1), flatV_ok r c.1, flats_all h4 c.2 (h5 c.2), ?_⟩
    rw [show inV vx vs = ds.any fun e => eqF e x.d from any_eqF r c.1 h4 c.2 (h5 c.2)]
    exact k _ _ (I.fin2 (.bl _))
  · cases h
/-! ### is of bools -/
def gIs (neg : Bool) (x y : DV) (s : DS) : Option (DV × DS) := match x.d, y.d with
  | .bl a, .bl b => some (fin2 x y s (.bl (if neg then !decide (a = b) else decide (a = b))))
  | _, _ => none
theorem o_isB : Op2 W rIsB (gIs false) := by
  intro B s F σ H x y vx vy z s' ⟨ℓ, I⟩ h Q k
  obtain ⟨⟨m1, r1⟩, ⟨m2, r2⟩⟩ := I.two
  unfold gIs at h
  split at h
  · rename_i a b e1 e2
    rw [e1] at r2; rw [e2] at r1
    cases h
    exact ⟨a, b, bl_of r2, bl_of r1, k _ _ (I.fin2 (.bl _))⟩
  · cases h
theorem o_notB : Op2 W rNotB (gIs true) := by
  intro B s F σ H x y vx vy z s' ⟨ℓ, I⟩ h Q k
  obtain ⟨⟨m1, r1⟩, ⟨m2, r2⟩⟩ := I.two
  unfold gIs at h
  split at h
  · rename_i a b e1 e2
    rw [e1] at r2; rw [e2] at r1
    cases h
    exact ⟨a, b, bl_of r2, bl_of r1, k _ _ (I.fin2 (.bl _))⟩
  · cases h
/-! ### int(x), abs(x) -/
def gInt1 (xs : List DV) (s : DS) : Option (DV × DS) := match xs with
  | [x] => match x.d with
    | .int i => some (fin1 x s (.int i))
    | .bl b => some (fin1 x s (.int (if b then 1 else 0)))
    | _ => none
  | _ => none
theorem n_int : OpN W (fun xs H Q => (∃ i, xs = [.int i] ∧ Q (.int i) H) ∨ ∃ k, xs = [.bl k] ∧ Q (.int (if k then 1 else 0)) H) gInt1 := by
  intro B s F σ H xs vs z s' hl ⟨ℓ, I⟩ h Q k
  unfold gInt1 at h
  split at h
  · rename_i x
    obtain ⟨v, rfl⟩ := one_of hl rfl
    have I : SIw W ℓ H B s ((x, v) :: F) σ := I
    obtain ⟨m, r⟩ := I.tmp
    split at h
    · rename_i i e
      rw [e] at r; cases h
      exact .inl ⟨i, by rw [int_of r], k _ _ (I.fin1 (.int _))⟩
    · rename_i i e
      rw [e] at r; cases h
      exact .inr ⟨i, by rw [bl_of r], k _ _ (I.fin1 (.int _))⟩
    · cases h
  · cases h
def gAbs (xs : List DV) (s : DS) : Option (DV × DS) := match xs with
  | [x] => match x.d with
    | .int i => some (fin1 x s (.int (if i < 0 then -i else i)))
    | _ => none
  | _ => none
theorem n_abs : OpN W (fun xs H Q => ∃ i, xs = [.int i] ∧ Q (.int (if i < 0 then -i else i)) H) gAbs := by
  intro B s F σ H xs vs z s' hl ⟨ℓ, I⟩ h Q k
  unfold gAbs at h
  split at h
  · rename_i x
    obtain ⟨v, rfl⟩ := one_of hl rfl
    have I : SIw W ℓ H B s ((x, v) :: F) σ := I
    obtain ⟨m, r⟩ := I.tmp
    split at h
    · rename_i i e
      rw [e] at r; cases h
      exact ⟨i, by rw [int_of r], k _ _ (I.fin1 (.int _))⟩
    · cases h
  · cases h
/-! ### sorted of ints -/
def insI (i : Int) : List Int → List Int
  | [] => [i]
  | j :: r => if i ≤ j then i :: j :: r else j :: insI i r
def sortI : List Int → List Int
  | [] => []
  | i :: r => insI i (sortI r)
theorem insI_perm (i : Int) : ∀ l, (insI i l).Perm (i :: l)
  | [] => .refl _
  | j :: r => by
    unfold insI
    split
    · exact .refl _
    · exact ((insI_perm i r).cons j).trans (.swap i j r)
theorem sortI_perm : ∀ l, (sortI l).Perm l
  | [] => .refl _
  | i :: r => (insI_perm i _).trans ((sortI_perm r).cons i)
theorem insI_sorted (i : Int) : ∀ l, l.Pairwise (· ≤ ·) → (insI i l).Pairwise (· ≤ ·)
  | [], _ => by simp [insI]
  | j :: r, h => by
    have h' := List.pairwise_cons.mp h
    unfold insI
    split
    · rename_i hij
      refine List.pairwise_cons.mpr ⟨fun a ha => ?_, h⟩
      rcases List.mem_cons.mp ha with rfl | ha
      · exact hij
      · exact Int.le_trans hij (h'.1 a ha)
    · rename_i hij
      refine List.pairwise_cons.mpr ⟨fun a ha => ?_, insI_sorted i r h'.2⟩
      rcases List.mem_cons.mp ((insI_perm i r).mem_iff.mp ha) with rfl | ha
      · omega
      · exact h'.1 a ha
theorem sortI_sorted : ∀ l, (sortI l).Pairwise (· ≤ ·)
  | [] => .nil
  | i :: r => insI_sorted i _ (sortI_sorted r)
def asInt : D → Option Int
  | .int i => some i
  | _ => none
theorem asInts {ds : List D} : ∀ {ns : List Int}, ds.mapM asInt = some ns → ds = ns.map D.int := by
  induction ds with
  | nil => intro ns h; cases h; rfl
  | cons d ds ih =>
    intro ns h
    rw [List.mapM_cons] at h
    obtain ⟨b, h1, h2⟩ := Option.bind_eq_some_iff.mp h
    obtain ⟨r2, h3, h4⟩ := Option.bind_eq_some_iff.mp h2
    cases h4
    rw [ih h3]
    cases d with
    | int i => cases h1; rfl
    | _ => cases h1
theorem ints_vs : ∀ {vs : List V} {ns : List Int}, vs.length = (ns.map D.int).length → (∀ (k : Nat) (v' : V) (c : D), vs[k]? = some v' → (ns.map D.int)[k]? = some c → Rep W ℓ H .fz v' c) → vs = ns.map V.int
  | [], [], _, _ => rfl
  | v :: vs, n :: ns, h, r => by
    rw [List.map_cons, ← ints_vs (vs := vs) (ns := ns) (by simpa using h) fun k v c a b => r (k + 1) v c (by simpa using a) (by simpa using b)]
    have := r 0 v (.int n) rfl rfl
    rw [int_of this]
theorem ints_flat (ns : List Int) : (ns.map D.int).all D.flat = true := by simp [D.flat]
theorem ints_rep (ns : List Int) (k : Nat) (v' : V) (c : D) (h1 : (ns.map V.int)[k]? = some v') (h2 : (ns.map D.int)[k]? = some c) : Rep W ℓ H .fz v' c := by
  rw [List.getElem?_map] at h1 h2
  cases e : ns[k]? with
  | none => rw [e] at h1; cases h1
  | some n => rw [e] at h1 h2; cases h1; cases h2; exact .int _
def gSorted (xs : List DV) (s : DS) : Option (DV × DS) := match xs with
  | [x] => match items? x.d with
    | some ds => match ds.mapM asInt with
      | some ns => some (.dat 1 (.lst ((sortI ns).map D.int)), unl x s)
      | none => none
    | none => none
  | _ => none
def rSortLT (K : PySem.W.Frag) : List V → Hp → VK → Prop := fun vs H Q => ∃ (a : Addr) (ns : List Int), vs = [V.ref a] ∧ (SqL K H a (ns.map V.int) ∨ SqT K H a (ns.map V.int)) ∧
  ∀ (ns' : List Int) (p : Addr), ns'.Perm ns → ns'.Pairwise (· ≤ ·) → H p = none → Q (.ref p) (upd H p (.lst (ns'.map V.int)))
theorem n_sorted : OpN W (rSortLT W.1) gSorted := by
  intro B s F σ H xs vs z s' hl ⟨ℓ, I⟩ h Q k
  unfold gSorted at h
  split at h
  · rename_i x
    obtain ⟨v, rfl⟩ := one_of hl rfl
    have I : SIw W ℓ H B s ((x, v) :: F) σ := I
    split at h
    · rename_i ds e
      split at h
      · rename_i ns e2
        cases h
        have e3 := asInts e2
        subst e3
        obtain ⟨a, ws, rfl, h2, h4, h5⟩ := I.flats I.temps.1 e
        have e4 := ints_vs h4 (h5 (ints_flat _))
        subst e4
        refine ⟨a, ns, rfl, h2.imp (·.1) (·.1), fun ns' p hp hs hn => ?_⟩
        have : ns' = sortI ns := PySem.W.ksm_same (hp.trans (sortI_perm ns).symm) hs (sortI_sorted ns)
        subst this
        exact k _ _ (I.drop.newL hn (by simp) fun k v c a b => ints_rep _ k v c a b)
      · cases h
    · cases h
  · cases h
end
end DL

set_option Elab.async false
set_option linter.all false
set_option maxRecDepth 100000
/-! D10: sorted of a tuple of ints -/
namespace DL
open PySem PySem.Spec PyProof.Rows L2 SrtO
section
variable {prog : Program} {w : World} {A : Around} {E : Value → Shared → Prop} {s : Shared}
theorem collect_tup {l : Addr} {vs : List Value} {Q : List Value → Shared → Prop} (hl : IsTup s.heap l vs.toArray)
    (h : Q vs { s with heap := (s.heap.push (seqObj "list" #[] 0)).update s.heap.objs.size (Obj.mapSeq (· ++ vs.toArray)) }) (hsz : vs.length ≤ sizeLine) :
    wpAny (model prog w) A (collect (.ref l)) Q E s := by
  obtain ⟨o, ho, hc, n, hd⟩ := id hl
  unfold collect
  refine wpAny_bind (wpAny_runValue (codeAny_builtin entry_proto_collect' ?_))
  show wpAny _ _ (do again (.builtin "list.__iadd__" ⟨[← newList [], .ref l], []⟩)) _ _ s
  refine wpAny_bind (wpAny_newList (wpAny_pure ⟨Code.quiet_builtin _ (by decide +kernel), codeAny_builtin entry_list_iadd' ?_⟩))
  show wpAny _ _ (Builtin.List.listExtendWith (.ref s.heap.objs.size) (.ref l) (.ref s.heap.objs.size)) _ _ { s with heap := s.heap.push (seqObj "list" #[] 0) }
  unfold Builtin.List.listExtendWith
  have ho' : (s.heap.push (seqObj "list" #[] 0)).get? l = some o := Heap.get?_push_of_some _ ho
  refine wpAny_bind (wpAny_typeOf (T := "tuple") ⟨o, ho', hc⟩ ?_)
  have ht : (Value.type "tuple" == Value.type "tuple") = true := by rfl
  rw [if_pos (by rw [ht]; simp)]
  refine wpAny_bind (listItems_at ho' hd ?_)
  refine wpAny_bind (listItems_at (xs := #[]) (n := 0) (Heap.get?_push_size _ rfl) rfl ?_)
  rw [if_neg (by simp)]
  refine wpAny_bind (listUpdate_at (xs := #[]) (n := 0) (Heap.get?_push_size _ rfl) rfl ?_ (Nat.zero_le _) (by show (#[] ++ vs.toArray).size ≤ sizeLine + 1; simp only [Array.size_append, List.size_toArray, List.length_nil]; omega))
  refine wpAny_pure ?_
  show wpAny (model prog w) A (do
      let o ← load s.heap.objs.size
      match o.data with
      | .seq xs _ => pure xs.toList
      | _ => unsupported "internal:collect") Q E { s with heap := (s.heap.push (seqObj "list" #[] 0)).update s.heap.objs.size (Obj.mapSeq (· ++ vs.toArray)) }
  refine wpAny_bind (wpAny_load (get?_update_seq (Heap.get?_push_size _ rfl) _) ?_)
  show wpAny _ _ (pure ((#[] : Array Value) ++ vs.toArray).toList) Q E _
  rw [show ((#[] : Array Value) ++ vs.toArray).toList = vs by simp]
  exact wpAny_pure h
theorem sorted_ordT {l : Addr} {vs : List Value} {ltv : Value → Value → Bool} {Q : Value → Shared → Prop} (O : Swo ltv) (hl : IsTup s.heap l vs.toArray) (hz : vs.length ≤ sizeLine)
    (hS : 2 ≤ vs.length → ∀ (h₁ : Heap) (a : Addr), h₁.get? a = some (seqObj "list" vs.toArray 0) → (∀ b o, s.heap.get? b = some o → b ≠ a ∧ h₁.get? b = some o) → SortableO prog w A.in1.in1 { s with heap := h₁ } a vs ltv)
    (h : ∀ out : List Value, Srtd ltv out → Stb ltv out vs → Q (.ref (s.heap.objs.size + 1)) { s with heap := sortedAll s.heap vs out.toArray }) :
    wpAny (model prog w) A (call (.builtin "sorted") [.ref l]) Q E s := by
  refine Calls.call_function_entry kind_sorted plain_sorted entry_sorted (args_sorted1 _) ?_
  unfold Builtin.«sorted»
  refine wpAny_bind (m := checkCount "sorted" 1 1 _) (wpAny_pure ?_)
  refine wpAny_bind (collect_tup hl ?_ hz)
  refine wpAny_bind (wpAny_newList ?_ hz)
  have hsz : ((s.heap.push (seqObj "list" #[] 0)).update s.heap.objs.size (Obj.mapSeq (· ++ vs.toArray))).objs.size = s.heap.objs.size + 1 := by
    rw [Heap.size_update, size_push']
  have hoL : (((s.heap.push (seqObj "list" #[] 0)).update s.heap.objs.size (Obj.mapSeq (· ++ vs.toArray))).push (seqObj "list" vs.toArray 0)).get? (s.heap.objs.size + 1) = some (seqObj "list" vs.toArray 0) := by
    rw [← hsz]; exact Heap.get?_push_size _ rfl
  have keep : ∀ b o, s.heap.get? b = some o → b ≠ s.heap.objs.size + 1 ∧ (((s.heap.push (seqObj "list" #[] 0)).update s.heap.objs.size (Obj.mapSeq (· ++ vs.toArray))).push (seqObj "list" vs.toArray 0)).get? b = some o := fun b o q => by
    have hlt : b < s.heap.objs.size := Heap.lt_size q
    refine ⟨Nat.ne_of_lt (Nat.lt_succ_of_lt hlt), Heap.get?_push_of_some _ ?_⟩
    rw [Heap.get?_update_ne _ _ _ _ (Nat.ne_of_lt hlt)]
    exact Heap.get?_push_of_some _ q
  show wpAny _ _ _ _ _ { s with heap := ((s.heap.push (seqObj "list" #[] 0)).update s.heap.objs.size (Obj.mapSeq (· ++ vs.toArray))).push (seqObj "list" vs.toArray 0) }
  rw [hsz]
  refine wpAny_bind (wpAny_holding (wpAny_call_entry slot_list_sort ⟨_, hoL, rfl⟩ entry_list_sort (list_sort_ord O hoL hz (fun h2 => hS h2 _ _ hoL keep) fun out hs hb => ⟨_, rfl, ?_⟩) (args_list_sort _)))
  exact wpAny_pure ⟨_, rfl, h out hs hb⟩
end
theorem cr_sortLT {X : Cx} : CallR X (.builtin "sorted") (rSortLT X.K) := by
  intro pins s σ H vs us Q I r h
  obtain ⟨a, ns, rfl, hs | hs, q⟩ := h
  · exact cr_sortedI pins s σ H _ us Q I r ⟨a, ns, rfl, hs, q⟩
  obtain ⟨its, rv, hl, hz⟩ := I.tuple hs
  rw [Vals.ref1 r]
  have hi := rv.ints
  refine sorted_ordT SrtO.swo_int hl (by rw [← rv.length]; exact hz) (fun h2 h₁ a' _ _ => SrtO.ints_sortable hi h2) fun out h1 h2 => ?_
  obtain ⟨k1, k2, k3⟩ := SrtO.ints_out hi h1 h2
  obtain ⟨ep, he'⟩ := PyProof.Rows.sortedAll_at s.heap its out.toArray
  have hlen : ((out.map SrtO.iv).map V.int).length ≤ sizeLine := by
    rw [List.length_map, k2.length_eq]
    rw [List.length_map] at hz
    exact hz
  exact ⟨.ref _, upd H (s.heap.objs.size + 1) (.lst ((out.map SrtO.iv).map V.int)), I.laid (t' := s.toks) (fun _ _ => PyProof.Rows.sortedAll_old) (Nat.le_succ _) ⟨hlen, out, ep, vals_of_ints k1, he'⟩, rfl, q _ _ k2 k3 (I.hok.fresh (Nat.le_succ _))⟩
end DL

set_option Elab.async false
set_option linter.all false
set_option maxRecDepth 100000
/-! D11: displays, writing lists, methods -/
namespace DL
open PySem PySem.Spec PyProof.Rows L2
section
variable {W : Wd} {XW : WXI} {ℓ ℓ' : Addr → Lab} {H H' : Hp} {B : Ent} {s s' : DS} {sl : List (Option SV)} {F : Temps} {σ σ' : L2.St} {v vx vy : V} {d : D} {x y z : DV} {t : Nat} {ds as bs : List D} {p : List Nat} {j n : Nat}
/-- a value that is to be stored: frozen -/
def eEsc (f : EF) : EF := fun s => match f s with
  | .ok x s1 => match esc x s1 with
    | some (d, s2) => .ok (.dat 0 d) s2
    | none => .no
  | r => r
/-- a value that is to be handed on, with what it owns -/
def eMv (f : EF) : EF := fun s => match f s with
  | .ok (.dat n d) s1 => .ok (.dat n d) s1
  | .ok x s1 => match esc x s1 with
    | some (d, s2) => .ok (.dat 0 d) s2
    | none => .no
  | r => r
theorem pd_esc {X : Cx} {e : Expr} {f : EF} (h : PEd X XW e f) : PEd X XW e (eEsc f) := by
  refine ⟨PE.imp h.p fun σ H Q q => ?_⟩
  obtain ⟨B, s, F, I, q⟩ := q
  refine ⟨B, s, F, I, ?_⟩
  unfold eEsc at q
  cases e1 : f s with
  | no => rw [e1] at q; exact q
  | ex C pl s1 => rw [e1] at q; exact q
  | ok x s1 =>
    simp only [e1] at q
    intro v H1 I1
    cases e2 : esc x s1 with
    | none => simp only [e2] at q; exact q.elim
    | some z =>
      simp only [e2] at q
      exact q v H1 (I1.esc e2)
theorem pd_mv {X : Cx} {e : Expr} {f : EF} (h : PEd X XW e f) : PEd X XW e (eMv f) := by
  refine ⟨PE.imp h.p fun σ H Q q => ?_⟩
  obtain ⟨B, s, F, I, q⟩ := q
  refine ⟨B, s, F, I, ?_⟩
  unfold eMv at q
  cases e1 : f s with
  | no => rw [e1] at q; exact q
  | ex C pl s1 => rw [e1] at q; exact q
  | ok x s1 =>
    simp only [e1] at q
    intro v H1 I1
    have fin : (∀ n d, x ≠ .dat n d) → (EC (Wx X XW) XW.1 B F σ Q (match esc x s1 with
        | some (d, s2) => .ok (.dat 0 d) s2
        | none => .no)) → Q v H1 := fun _ q => by
      cases e2 : esc x s1 with
      | none => simp only [e2] at q; exact q.elim
      | some z =>
        simp only [e2] at q
        exact q v H1 (I1.esc e2)
    cases x with
    | dat n d => exact q v H1 I1
    | brw d => exact fin (fun _ _ z => nomatch z) q
    | plc j p d => exact fin (fun _ _ z => nomatch z) q

/-! ### displays -/
def frzs : List DV → Option (List D)
  | [] => some []
  | .dat 0 d :: r => (frzs r).map (d :: ·)
  | _ => none
theorem SIw.frzs : ∀ {xs : List DV} {ds : List D} {vs : List V} {F : Temps}, vs.length = xs.length → frzs xs = some ds → SIw W ℓ H B s ((xs.zip vs).reverse ++ F) σ → SIw W ℓ H B s F σ ∧ vs.length = ds.length ∧ ∀ (k : Nat) (v : V) (d : D), vs[k]? = some v → ds[k]? = some d → Rep W ℓ H .fz v d
  | [], ds, vs, F, hl, h, I => by
    cases h
    obtain rfl : vs = [] := List.length_eq_zero_iff.mp hl
    exact ⟨I, rfl, fun k v d e => by simp at e⟩
  | x :: xs, ds, vs, F, hl, h, I => by
    cases vs with
    | nil => cases hl
    | cons v vs =>
      have : ∃ d ds', x = .dat 0 d ∧ DL.frzs xs = some ds' ∧ ds = d :: ds' := by
        cases x with
        | dat n d =>
          cases n with
          | zero =>
            obtain ⟨ds', h1, h2⟩ := Option.map_eq_some_iff.mp (show (DL.frzs xs).map (d :: ·) = some ds from h)
            exact ⟨d, ds', rfl, h1, h2.symm⟩
          | succ n => cases h
        | brw => cases h
        | plc => cases h
      obtain ⟨d, ds', rfl, h1, rfl⟩ := this
      have I : SIw W ℓ H B s ((xs.zip vs).reverse ++ ((.dat 0 d, v) :: F)) σ := by simpa using I
      obtain ⟨I2, h2, h3⟩ := SIw.frzs (by simpa using hl) h1 I
      refine ⟨I2.drop, by simp [h2], fun k v' d' a b => ?_⟩
      cases k with
      | zero => simp at a b; subst a; subst b; exact Rep.own0.mp I2.temps.1
      | succ k => exact h3 k v' d' (by simpa using a) (by simpa using b)
def eDisp (tup : Bool) (fs : List EF) : EF := fun s => match evA fs s with
  | .ok xs s1 => match frzs xs with
    | some ds => if ds.length ≤ sizeLine then (if tup then .ok (.dat 0 (.tup ds)) s1 else .ok (.dat 1 (.lst ds)) s1) else .no
    | none => .no
  | .ex C pl s1 => .ex C pl s1
  | .no => .no
theorem pd_lst {X : Cx} {es : List Expr} {fs : List EF} {pos : Pos} (h : PAd X XW es (evA fs)) : PEd X XW (.List es pos) (eDisp false fs) := by
  refine ⟨PE.imp (pe_lst h.p) fun σ H Q q => ?_⟩
  obtain ⟨B, s, F, I, q⟩ := q
  refine ⟨B, s, F, I, ?_⟩
  unfold eDisp at q
  cases e1 : evA fs s with
  | no => simp only [e1] at q; exact q
  | ex C pl s1 => simp only [e1] at q; exact q
  | ok xs s1 =>
    simp only [e1] at q
    intro vs H1 hl ⟨ℓ, I1⟩
    cases e2 : frzs xs with
    | none => simp only [e2] at q; exact q.elim
    | some ds =>
      simp only [e2] at q
      obtain ⟨J, h1, h2⟩ := SIw.frzs hl e2 I1
      by_cases c : ds.length ≤ sizeLine
      · rw [if_pos c] at q
        exact ⟨by rw [h1]; exact c, fun p hp => q _ _ (J.newL hp h1 h2)⟩
      · rw [if_neg c] at q; exact q.elim
def tTupX (t : TA) : TE := fun σ H Q => t σ H fun xs H1 => xs.length ≤ sizeLine ∧ ∀ p f, H1 p = none → f.dict = none → Q (.ref p) (upd H1 p (.frz f (.tup xs)))
theorem pe_tupX {X : Cx} {es : List Expr} {pos : Pos} {x1} {t : TA} (h : PA X es t) : PE X (.Tuple es x1 pos) (tTupX t) where
  run := by
    intro pins s σ H Q J hq
    refine wpAny_Tuple_spliced (thn (h.run pos pins s σ H _ J hq) ?_)
    rintro us s1 ⟨xs, H1, J1, r, z, q⟩
    refine ⟨by rw [← r.length]; exact z, ?_⟩
    have new : H1 s1.heap.objs.size = none := J1.hok.fresh (Nat.le_refl _)
    refine ⟨.ref s1.heap.objs.size, upd H1 s1.heap.objs.size (.frz { cls := .type "tuple", data := .seq us.toArray } (.tup xs)), J1.laid (t' := s1.toks) (fun b u e => Heap.get?_push_of_some _ e) (Nat.le_refl _) ?_, rfl, q _ _ new rfl⟩
    exact ⟨Heap.get?_push_size _ rfl, z, us, r, ⟨_, Heap.get?_push_size _ rfl, rfl, _, rfl⟩⟩
theorem pd_tup {X : Cx} {es : List Expr} {fs : List EF} {pos : Pos} {x1} (h : PAd X XW es (evA fs)) : PEd X XW (.Tuple es x1 pos) (eDisp true fs) := by
  refine ⟨PE.imp (pe_tupX h.p) fun σ H Q q => ?_⟩
  obtain ⟨B, s, F, I, q⟩ := q
  refine ⟨B, s, F, I, ?_⟩
  unfold eDisp at q
  cases e1 : evA fs s with
  | no => simp only [e1] at q; exact q
  | ex C pl s1 => simp only [e1] at q; exact q
  | ok xs s1 =>
    simp only [e1] at q
    intro vs H1 hl ⟨ℓ, I1⟩
    cases e2 : frzs xs with
    | none => simp only [e2] at q; exact q.elim
    | some ds =>
      simp only [e2] at q
      obtain ⟨J, h1, h2⟩ := SIw.frzs hl e2 I1
      by_cases c : ds.length ≤ sizeLine
      · rw [if_pos c] at q
        exact ⟨by rw [h1]; exact c, fun p f hp hf => q _ _ (J.newT hf hp h1 h2)⟩
      · rw [if_neg c] at q; exact q.elim

/-! ### a list in an owned place gets other items -/
def wrF (j : Nat) (p : List Nat) (ds ds' : List D) (s : DS) : Option DS :=
  let s1 : DS := if (ds.all D.flat && ds'.all D.flat) = true then s else { s with sl := downS s.sl j (p.length + 1) }
  match s1.sl[j]? with
  | some (some (.dat n dj)) => if p.length < n then some { s1 with sl := wrS s1.sl j p (.dat n (setAt dj p (.lst ds'))) } else none
  | _ => none
/-- the place j, p holds the list ds at a -/
structure LstAt (W : Wd) (ℓ : Addr → Lab) (H : Hp) (s : DS) (σ : L2.St) (j : Nat) (p : List Nat) (a : Addr) (vs : List V) (ds : List D) : Prop where
  pl : PlR H s.sl σ j p (.ref a) (.lst ds)
  h : H a = some (.lst vs)
  len : vs.length = ds.length
theorem SIw.place (I : SIw W ℓ H B s F σ) (h : PlR H s.sl σ j p v (.lst ds)) : ∃ a vs, v = .ref a ∧ LstAt W ℓ H s σ j p a vs ds ∧ ∀ n dj, s.sl[j]? = some (some (.dat n dj)) → ∀ (k : Nat) (v' : V) (c : D), vs[k]? = some v' → ds[k]? = some c → Rep W ℓ H (.own (.slot j) (p ++ [k]) (n - p.length - 1)) v' c := by
  obtain ⟨n, dj, vj, h1, h2, h3, h4, h5, h6⟩ := id h
  obtain ⟨v', e1, e2⟩ := I.slots j _ h1
  rw [h3] at e1; cases e1
  have r := h4.rep e2 (Nat.le_of_lt h2) h5
  obtain ⟨n2, hn2⟩ : ∃ n2, n - p.length = n2 + 1 := ⟨n - p.length - 1, by omega⟩
  rw [hn2] at r
  cases r with
  | lst y1 y2 y3 =>
    refine ⟨_, _, rfl, ⟨h, (NA.own y1).2, y2⟩, fun n' dj' e k v' c a1 a2 => ?_⟩
    rw [h1] at e; cases e
    have := y3 k v' c a1 a2
    have e2 : n - p.length - 1 = n2 := by omega
    rw [e2]
    exact this
theorem SIw.wrF {a : Addr} {vs vs' : List V} {ds' : List D} (I : SIw W ℓ H B s F σ) (L : LstAt W ℓ H s σ j p a vs ds) (hr : j ∉ roots F) (hw : wrF j p ds ds' s = some s') :
    ∃ ℓ1, (∀ b, ℓ b = .fz → ℓ1 b = .fz) ∧ (∀ (k : Nat) (v' : V) (c : D), vs[k]? = some v' → ds[k]? = some c → (c ∈ ds' ∨ (ds.all D.flat && ds'.all D.flat) = true ∨ True) → Rep W ℓ1 H .fz v' c) ∧
      (vs'.length = ds'.length → (∀ (k : Nat) (v' : V) (c : D), vs'[k]? = some v' → ds'[k]? = some c → Rep W ℓ1 H .fz v' c) → SIw W ℓ1 (upd H a (.lst vs')) B s' F σ ∧ ∀ {v d}, Rep W ℓ1 H .fz v d → Rep W ℓ1 (upd H a (.lst vs')) .fz v d) := by
  unfold DL.wrF at hw
  obtain ⟨n, dj, vj, h1, h2, h3, h4, h5, h6⟩ := id L.pl
  -- what is common
  have core : ∀ {ℓ1 : Addr → Lab} {s1 : DS}, SIw W ℓ1 H B s1 F σ → PlR H s1.sl σ j p (.ref a) (.lst ds) → (match s1.sl[j]? with
      | some (some (.dat n dj)) => if p.length < n then some { s1 with sl := wrS s1.sl j p (.dat n (setAt dj p (.lst ds'))) } else none
      | _ => none) = some s' → (∀ n dj, s1.sl[j]? = some (some (.dat n dj)) → (ds.all D.flat && ds'.all D.flat) = true ∨ n = p.length + 1) →
      (∀ (k : Nat) (v' : V) (c : D), vs[k]? = some v' → ds[k]? = some c → Rep W ℓ1 H .fz v' c) ∧ (vs'.length = ds'.length → (∀ (k : Nat) (v' : V) (c : D), vs'[k]? = some v' → ds'[k]? = some c → Rep W ℓ1 H .fz v' c) → SIw W ℓ1 (upd H a (.lst vs')) B s' F σ ∧ ∀ {v d}, Rep W ℓ1 H .fz v d → Rep W ℓ1 (upd H a (.lst vs')) .fz v d) := by
    intro ℓ1 s1 J P hw hn
    obtain ⟨n, dj, vj, k1, k2, k3, k4, k5, k6⟩ := id P
    obtain ⟨a', vs0, ea, L', ch⟩ := J.place P
    cases ea
    have ev : vs0 = vs := by have := L'.h; rw [L.h] at this; cases this; rfl
    subst ev
    have hf := hn n dj k1
    have la : ℓ1 a = .own (.slot j) p := by
      obtain ⟨v0, e1, e2⟩ := J.slots j _ k1
      rw [k3] at e1; cases e1
      have r := k4.rep e2 (Nat.le_of_lt k2) k5
      obtain ⟨n2, hn2⟩ : ∃ n2, n - p.length = n2 + 1 := ⟨n - p.length - 1, by omega⟩
      rw [hn2] at r
      cases r with
      | lst y1 => simpa using (NA.own y1).1
    have fzU : ∀ {v d}, Rep W ℓ1 H .fz v d → Rep W ℓ1 (upd H a (.lst vs')) .fz v d := fun r => r.fz fun b c => ⟨upd_ne fun z => (by rw [z, la] at c; cases c), c⟩
    refine ⟨fun k v' c a1 a2 => ?_, fun hl hc => ⟨?_, fzU⟩⟩
    · have r := ch n dj k1 k v' c a1 a2
      rcases hf with hf | hf
      · simp only [Bool.and_eq_true] at hf
        exact r.flat (List.all_eq_true.mp hf.1 _ (List.mem_of_getElem? a2))
      · have e : n - p.length - 1 = 0 := by omega
        rw [e] at r; exact Rep.own0.mp r
    · simp only [k1, if_pos k2] at hw
      cases hw
      refine J.write k1 k3 k4 k2 k5 k6 hr (fun _ _ => rfl) (fun _ z => z) (fun _ z => z) rfl ?_
      obtain ⟨n2, hn2⟩ : ∃ n2, n - p.length = n2 + 1 := ⟨n - p.length - 1, by omega⟩
      rw [hn2]
      refine Rep.lst (.inl ⟨la, upd_same⟩) hl fun k v' c a1 a2 => ?_
      have r := fzU (hc k v' c a1 a2)
      show Rep W ℓ1 _ (.own (.slot j) (p ++ [k]) n2) v' c
      rcases hf with hf | hf
      · simp only [Bool.and_eq_true] at hf
        exact r.flat (List.all_eq_true.mp hf.2 _ (List.mem_of_getElem? a2))
      · have e : n2 = 0 := by omega
        subst e
        exact Rep.own0.mpr r
  by_cases c : (ds.all D.flat && ds'.all D.flat) = true
  · simp only [if_pos c] at hw
    obtain ⟨q1, q2⟩ := core I L.pl hw fun _ _ _ => .inl c
    exact ⟨ℓ, fun _ z => z, fun k v' c' a1 a2 _ => q1 k v' c' a1 a2, q2⟩
  · simp only [if_neg c] at hw
    have J := I.downS (n' := p.length + 1) h1
    have e := downS_self (n' := p.length + 1) h1
    have P : PlR H (DL.downS s.sl j (p.length + 1)) σ j p (.ref a) (.lst ds) := ⟨_, _, vj, e, by omega, h3, h4, h5, h6⟩
    obtain ⟨q1, q2⟩ := core J P hw fun n' dj' e' => .inr (by
      have e' : (DL.downS s.sl j (p.length + 1))[j]? = some (some (.dat n' dj')) := e'
      rw [e] at e'; cases e'; omega)
    exact ⟨_, fun _ z => labDown_fz z, fun k v' c' a1 a2 _ => q1 k v' c' a1 a2, q2⟩
/-- what stands behind a place -/
theorem SIw.plc_at (I : SIw W ℓ H B s ((.plc j p (.lst ds), v) :: F) σ) (o : owned s.sl j p = true) : PlR H s.sl σ j p v (.lst ds) := by
  have t : if owned s.sl j p = true then PlR H s.sl σ j p v (.lst ds) else Rep W ℓ H .fz v (.lst ds) := I.temps.1
  rw [if_pos o] at t; exact t
theorem not_mem_lk (I : SIw W ℓ H B s F σ) (h : s.lk.contains j = false) : j ∉ roots F := by
  rw [← I.lks]
  simpa using h

/-! ### methods -/
def OpM (W : Wd) (r : V → List V → Hp → VK → Prop) (g : DV → List DV → DS → Option (DV × DS)) : Prop := ∀ B s F σ H x vx ys vs z s', vs.length = ys.length → SI W B s ((ys.zip vs).reverse ++ (x, vx) :: F) σ H → g x ys s = some (z, s') → ∀ Q : VK, (∀ v H', SI W B s' ((z, v) :: F) σ H' → Q v H') → r vx vs H Q
def isLst : D → Bool
  | .lst _ => true
  | _ => false
def eMeth (g : DV → List DV → DS → Option (DV × DS)) (f : EF) (fs : List EF) : EF := fun s => match f s with
  | .ok x s1 => if isLst x.d = true then (match evA fs s1 with
    | .ok ys s2 => match g x ys s2 with
      | some (z, s3) => .ok z s3
      | none => .no
    | .ex C pl s2 => .ex C pl (unl x s2)
    | .no => .no) else .no
  | r => r
theorem rep_lst {m : Md} {ds : List D} (r : Rep W ℓ H m v (.lst ds)) : ∃ a vs, v = .ref a ∧ SqL W.1 H a vs := by
  cases r with
  | lst y1 => exact ⟨_, _, rfl, y1.sqL⟩
theorem isLst_iff {d : D} (h : isLst d = true) : ∃ ds, d = .lst ds := by
  cases d with
  | lst ds => exact ⟨ds, rfl⟩
  | _ => cases h
theorem tMeth_ {r g} (hg : OpM W r g) {f : EF} {fs : List EF} {Q : VK} (h : tD W XW.1 (eMeth g f fs) σ H Q) : tBM W.1 "list" r (tD W XW.1 f) (tDA W XW.1 (evA fs)) σ H Q := by
  obtain ⟨B, s, F, I, h⟩ := h
  refine ⟨B, s, F, I, ?_⟩
  unfold eMeth at h
  cases e : f s with
  | no => rw [e] at h; exact h
  | ex C pl s1 => rw [e] at h; exact h
  | ok x s1 =>
    simp only [e] at h
    intro vx H1 I1
    by_cases c : isLst x.d = true
    · rw [if_pos c] at h
      obtain ⟨ds, c⟩ := isLst_iff c
      obtain ⟨ℓ, J⟩ := id I1
      obtain ⟨m, r0⟩ := J.tmp
      rw [c] at r0
      obtain ⟨a, ws, rfl, hq⟩ := rep_lst r0
      refine ⟨.inl ⟨rfl, ws, hq⟩, B, s1, (x, .ref a) :: F, I1, ?_⟩
      cases e2 : evA fs s1 with
      | no => simp only [e2] at h; exact h
      | ex C pl s2 => simp only [e2] at h; exact fun cls dd H2 I2 => h cls dd H2 I2.drop
      | ok ys s2 =>
        simp only [e2] at h
        intro vs H2 hl I2
        cases e3 : g x ys s2 with
        | none => simp only [e3] at h; exact h.elim
        | some z =>
          simp only [e3] at h
          exact hg _ _ _ _ _ _ _ _ _ _ _ hl I2 e3 Q h
    · rw [if_neg c] at h; exact h.elim
/-- x.append(y) -/
def gAppend (x : DV) (ys : List DV) (s : DS) : Option (DV × DS) := match x, ys with
  | .plc j p (.lst ds), [.dat m e] =>
    let s1 : DS := if e.flat = true then s else { s with sl := downS s.sl j (p.length + 1 + m) }
    if (owned s.sl j p && decide (ds.length < sizeLine) && !s.lk.tail.contains j) = true then (match s1.sl[j]? with
      | some (some (.dat n dj)) => some (.dat 0 .non, { s1 with sl := wrS s1.sl j p (.dat n (setAt dj p (.lst (ds ++ [e])))), lk := s.lk.tail })
      | _ => none) else none
  | _, _ => none
def lab2place (ℓ : Addr → Lab) (t j : Nat) (p : List Nat) : Addr → Lab := fun a => match ℓ a with
  | .own (.tmp t') q => if t' = t then .own (.slot j) (p ++ q) else .own (.tmp t') q
  | l => l
theorem l2p_tmp {a : Addr} {q : List Nat} (h : ℓ a = .own (.tmp t) q) : lab2place ℓ t j p a = .own (.slot j) (p ++ q) := by unfold lab2place; rw [h]; simp
theorem l2p_other {a : Addr} (h : ∀ q, ℓ a ≠ .own (.tmp t) q) : lab2place ℓ t j p a = ℓ a := by
  unfold lab2place
  cases c : ℓ a with
  | own r q =>
    cases r with
    | slot k => rfl
    | tmp t' =>
      have : t' ≠ t := fun z => h q (by rw [c, z])
      simp [this]
  | _ => rfl
theorem l2p_cases (ℓ : Addr → Lab) (t j : Nat) (p : List Nat) (a : Addr) : (∃ q, ℓ a = .own (.tmp t) q ∧ lab2place ℓ t j p a = .own (.slot j) (p ++ q)) ∨ ((∀ q, ℓ a ≠ .own (.tmp t) q) ∧ lab2place ℓ t j p a = ℓ a) := by
  by_cases c : ∀ q, ℓ a ≠ .own (.tmp t) q
  · exact .inr ⟨c, l2p_other c⟩
  · obtain ⟨q, c⟩ := Classical.not_forall.mp c
    have c := Classical.not_not.mp c
    exact .inl ⟨q, c, l2p_tmp c⟩
theorem m_append : OpM W rAppend gAppend := by
  intro B s F σ H x vx ys vs z s' hl ⟨ℓ, I⟩ h Q k
  unfold gAppend at h
  split at h
  · rename_i j p ds m e
    obtain ⟨vy, rfl⟩ := one_of hl rfl
    have I : SIw W ℓ H B s ((.dat m e, vy) :: (.plc j p (.lst ds), vx) :: F) σ := I
    simp only [] at h
    obtain ⟨c, h⟩ : (owned s.sl j p && decide (ds.length < sizeLine) && !s.lk.tail.contains j) = true ∧ _ := by
      split at h
      · exact ⟨‹_›, h⟩
      · cases h
    simp only [Bool.and_eq_true, decide_eq_true_eq, Bool.not_eq_true'] at c
    obtain ⟨⟨c1, c2⟩, c3⟩ := c
    -- the state ahead, what the new item may own made fit
    have main : ∀ {ℓ1 : Addr → Lab} {s1 : DS} {m1 n : Nat} {dj : D}, SIw W ℓ1 H B s1 ((.dat m1 e, vy) :: (.plc j p (.lst ds), vx) :: F) σ → PlR H s1.sl σ j p vx (.lst ds) → s1.lk = s.lk → s1.sl[j]? = some (some (.dat n dj)) → (e.flat = true ∨ m1 = n - p.length - 1) →
        some (DV.dat 0 .non, ({ s1 with sl := wrS s1.sl j p (.dat n (setAt dj p (.lst (ds ++ [e])))), lk := s.lk.tail } : DS)) = some (z, s') → rAppend vx [vy] H Q := by
      intro ℓ1 s1 m1 n dj J P elk k1 hm h
      cases h
      obtain ⟨n', dj', vj, k1', k2, k3, k4, k5, k6⟩ := id P
      rw [k1] at k1'; cases k1'
      obtain ⟨a, ws, rfl, L, ch⟩ := J.place P
      have ch := ch n dj k1
      have hF : j ∉ roots F := by
        have e : s1.lk.tail = roots F := J.drop.drop.lks
        rw [← e, elk]; simpa using c3
      refine ⟨a, ws, vy, rfl, rfl, L.h, by rw [L.len]; exact c2, k _ _ ?_⟩
      have J2 := J.drop.drop
      have la : ℓ1 a = .own (.slot j) p := by
        obtain ⟨v0, e1, e2⟩ := J.slots j _ k1
        rw [k3] at e1; cases e1
        have r := k4.rep e2 (Nat.le_of_lt k2) k5
        obtain ⟨n2, hn2⟩ : ∃ n2, n - p.length = n2 + 1 := ⟨n - p.length - 1, by omega⟩
        rw [hn2] at r
        cases r with
        | lst y1 => simpa using (NA.own y1).1
      -- the labels behind
      let ℓ2 := lab2place ℓ1 (F.length + 1) j (p ++ [ds.length])
      have hlen : ((DV.plc j p (.lst ds), V.ref a) :: F).length = F.length + 1 := rfl
      have same : ∀ b, (∀ q, ℓ1 b ≠ .own (.tmp (F.length + 1)) q) → ℓ2 b = ℓ1 b := fun b c => l2p_other c
      have la2 : ℓ2 a = .own (.slot j) p := (same a fun q z => by rw [la] at z; cases z).trans la
      have hat : SIw W ℓ2 (upd H a (.lst (ws ++ [vy]))) B { (unl (.plc j p (.lst ds)) (unl (.dat m1 e) s1)) with sl := wrS s1.sl j p (.dat n (setAt dj p (.lst (ds ++ [e])))) } F σ := by
        refine J2.write (vj := vj) k1 k3 k4 k2 k5 k6 hF (fun b c => same b fun q z => ?_) (fun b c => ?_) (fun b c => ?_) rfl ?_
        · rw [z] at c
          rcases c with c | c | ⟨_, _, c⟩ | ⟨t, q', ht, c⟩
          · cases c
          · cases c
          · cases c
          · cases c; omega
        · rcases l2p_cases ℓ1 (F.length + 1) j (p ++ [ds.length]) b with ⟨q, c1, c2⟩ | ⟨c1, c2⟩
          · rw [c1]; exact fun z => nomatch z
          · rw [← c2]; exact c
        · rcases l2p_cases ℓ1 (F.length + 1) j (p ++ [ds.length]) b with ⟨q, c1, c2⟩ | ⟨c1, c2⟩
          · have c : ℓ2 b = .bw := c
            rw [show ℓ2 b = _ from c2] at c; cases c
          · rw [← c2]; exact c
        · obtain ⟨n2, hn2⟩ : ∃ n2, n - p.length = n2 + 1 := ⟨n - p.length - 1, by omega⟩
          have en : n - p.length - 1 = n2 := by omega
          rw [en] at ch hm
          rw [hn2]
          refine Rep.lst (.inl ⟨la2, upd_same⟩) (by simp [L.len]) fun k v' c' a1 a2 => ?_
          show Rep W ℓ2 _ (.own (.slot j) (p ++ [k]) n2) v' c'
          by_cases hk : k < ds.length
          · rw [List.getElem?_append_left (by rw [L.len]; exact hk)] at a1
            rw [List.getElem?_append_left hk] at a2
            refine (ch k v' c' a1 a2).frame fun b cb => ?_
            rcases cb with cb | ⟨cb, _⟩ | ⟨q, cb⟩
            · exact ⟨upd_ne fun z => (by rw [z, la] at cb; cases cb), same b fun q z => (by rw [cb] at z; cases z)⟩
            · cases cb
            · refine ⟨upd_ne fun z => ?_, same b fun q z => by rw [cb] at z; cases z⟩
              rw [z, la] at cb
              have := congrArg List.length (Lab.own.inj cb).2
              simp at this
          · have hk' : k = ds.length := by
              have := (List.getElem?_eq_some_iff.mp a2).1
              simp at this; omega
            subst hk'
            rw [List.getElem?_append_right (by rw [L.len]; exact Nat.le_refl _)] at a1
            rw [List.getElem?_append_right (Nat.le_refl _)] at a2
            simp [L.len] at a1 a2
            subst a1; subst a2
            have r : Rep W ℓ1 H (.own (.tmp (F.length + 1)) [] m1) vy e := J.temps.1
            rcases hm with hm | rfl
            · exact r.flat hm
            · refine r.mv (fun b cb => ⟨upd_ne fun z => (by rw [z, la] at cb; cases cb), (same b fun q z => by rw [cb] at z; cases z).trans cb⟩) fun b q cb => ⟨upd_ne fun z => (by rw [z, la] at cb; cases cb), ?_⟩
              exact l2p_tmp (by simpa using cb)
      have e9 : (unl (.plc j p (.lst ds)) (unl (.dat m1 e) s1)).lk = s.lk.tail := by show s1.lk.tail = _; rw [elk]
      refine ⟨ℓ2, SIw.push (x := .dat 0 .non) ?_ Rep.non rfl⟩
      simpa [e9] using hat
    have P : PlR H s.sl σ j p vx (.lst ds) := I.drop.plc_at c1
    obtain ⟨n, dj, vj, k1, k2, k3, k4, k5, k6⟩ := id P
    by_cases f : e.flat = true
    · simp only [if_pos f, k1] at h
      exact main I P rfl k1 (.inl f) h
    · simp only [if_neg f] at h
      have e1 := downS_self (n' := p.length + 1 + m) k1
      rw [e1] at h
      have J := I.downS (n' := p.length + 1 + m) k1
      have hm : min n (p.length + 1 + m) - p.length - 1 ≤ m := by omega
      have J2 := J.downT hm
      refine main J2 ?_ rfl e1 (.inr rfl) h
      exact ⟨_, dj, vj, e1, by omega, k3, k4, k5, k6⟩
  · cases h
end
end DL

set_option Elab.async false
set_option linter.all false
set_option maxRecDepth 100000
/-! D12: pop, index, insert, count, stores to places, isinstance, ranges as lists -/
namespace DL
open PySem PySem.Spec PyProof.Rows L2
section
variable {W : Wd} {XW : WX} {ℓ ℓ' : Addr → Lab} {H H' : Hp} {B : Ent} {s s' : DS} {sl : List (Option SV)} {F : Temps} {σ σ' : L2.St} {v vx vy : V} {d : D} {x y z : DV} {t : Nat} {ds as bs : List D} {p : List Nat} {j n : Nat}
theorem corr_drop {R : V → D → Prop} {vs : List V} {ds : List D} (hl : vs.length = ds.length) (r : ∀ (k : Nat) v d, vs[k]? = some v → ds[k]? = some d → R v d) (i : Nat) : ∀ (k : Nat) v d, (vs.eraseIdx i)[k]? = some v → (ds.eraseIdx i)[k]? = some d → R v d := fun k v d a b => by
  rw [List.getElem?_eraseIdx] at a b
  split at a
  · rename_i h; rw [if_pos h] at b; exact r k v d a b
  · rename_i h; rw [if_neg h] at b; exact r (k + 1) v d a b
/-- x.pop(i), x.pop() -/
def gPopK (j : Nat) (p : List Nat) (ds : List D) (k : Nat) (s : DS) : Option (DV × DS) :=
  if (owned s.sl j p && !s.lk.tail.contains j) = true then (match ds[k]?, wrF j p ds (ds.eraseIdx k) { s with lk := s.lk.tail } with
    | some c, some s' => some (.dat 0 c, s')
    | _, _ => none) else none
def gPop (x : DV) (ys : List DV) (s : DS) : Option (DV × DS) := match x, ys with
  | .plc j p (.lst ds), [] => gPopK j p ds (ds.length - 1) s
  | _, _ => none
def gPopAt (x : DV) (ys : List DV) (s : DS) : Option (DV × DS) := match x, ys with
  | .plc j p (.lst ds), [.dat 0 (.int i)] => if -(2 ^ 63) ≤ i ∧ i < 2 ^ 63 then (match ixN ds.length i with
    | some k => gPopK j p ds k s
    | none => none) else none
  | _, _ => none
theorem SIw.popK {k : Nat} (I : SIw W ℓ H B s ((.plc j p (.lst ds), vx) :: F) σ) (h : gPopK j p ds k s = some (z, s')) : ∃ a vs y, vx = .ref a ∧ H a = some (.lst vs) ∧ vs.length = ds.length ∧ vs[k]? = some y ∧ SI W B s' ((z, y) :: F) σ (upd H a (.lst (vs.eraseIdx k))) := by
  unfold gPopK at h
  obtain ⟨c, h⟩ : (owned s.sl j p && !s.lk.tail.contains j) = true ∧ _ := by
    split at h
    · exact ⟨‹_›, h⟩
    · cases h
  simp only [Bool.and_eq_true, Bool.not_eq_true'] at c
  obtain ⟨c1, c2⟩ := c
  split at h
  · rename_i c0 s0 e1 e2
    cases h
    have J := I.drop
    have P := I.plc_at c1
    obtain ⟨a, vs, rfl, L, ch⟩ := J.place P
    have hF : j ∉ roots F := not_mem_lk J c2
    obtain ⟨ℓ1, q0, q1, q2⟩ := SIw.wrF (vs' := vs.eraseIdx k) J L hF e2
    have hk : k < ds.length := (List.getElem?_eq_some_iff.mp e1).1
    have hv : vs[k]? = some (vs[k]'(by rw [L.len]; exact hk)) := List.getElem?_eq_getElem _
    have q1' : ∀ (k : Nat) (v' : V) (c : D), vs[k]? = some v' → ds[k]? = some c → Rep W ℓ1 H .fz v' c := fun k v' c a1 a2 => q1 k v' c a1 a2 (.inr (.inr trivial))
    obtain ⟨K, fzU⟩ := q2 (by rw [List.length_eraseIdx, List.length_eraseIdx, L.len]) (corr_drop L.len q1' k)
    exact ⟨a, vs, _, rfl, L.h, L.len, hv, ℓ1, K.push (x := .dat 0 c0) (Rep.own0.mpr (fzU (q1' k _ c0 hv e1))) rfl⟩
  · cases h
theorem m_pop : OpM W rPop gPop := by
  intro B s F σ H x vx ys vs z s' hl ⟨ℓ, I⟩ h Q k
  unfold gPop at h
  split at h
  · rename_i j p ds
    obtain rfl : vs = [] := List.length_eq_zero_iff.mp hl
    have I : SIw W ℓ H B s ((.plc j p (.lst ds), vx) :: F) σ := I
    obtain ⟨a, ws, y, rfl, h1, h2, h3, h4⟩ := I.popK h
    refine ⟨a, ws, y, rfl, rfl, h1, by rw [h2]; exact h3, ?_⟩
    have e : ws.dropLast = ws.eraseIdx (ds.length - 1) := by
      rw [← h2]
      have hne : ws ≠ [] := by
        intro z; rw [z] at h3; simp at h3
      rw [List.dropLast_eq_take, List.eraseIdx_eq_take_drop_succ]
      have : ws.length - 1 + 1 = ws.length := by
        have := List.length_pos_iff.mpr hne; omega
      rw [this, List.drop_length, List.append_nil]
    rw [e]
    exact k _ _ h4
  · cases h
theorem m_popAt : OpM W rPopAt gPopAt := by
  intro B s F σ H x vx ys vs z s' hl ⟨ℓ, I⟩ h Q k
  unfold gPopAt at h
  split at h
  · rename_i j p ds i
    obtain ⟨vy, rfl⟩ := one_of hl rfl
    have I : SIw W ℓ H B s ((.dat 0 (.int i), vy) :: (.plc j p (.lst ds), vx) :: F) σ := I
    split at h
    · rename_i hi
      split at h
      · rename_i k0 e0
        have e1 : vy = .int i := int_of I.temps.1
        subst e1
        obtain ⟨a, ws, y, rfl, h1, h2, h3, h4⟩ := I.drop.popK h
        obtain ⟨e3, _⟩ := ixN_seq e0
        exact ⟨a, ws, i, k0, y, rfl, rfl, h1, hi.1, hi.2, by rw [h2]; exact e3, h3, k _ _ h4⟩
      · cases h
    · cases h
  · cases h
/-- x.index(y) -/
def idxF (d : D) : List D → Option Nat
  | [] => none
  | e :: r => if eqF e d = true then some 0 else (idxF d r).map (· + 1)
theorem idxF_ok {d : D} {m : Md} (rx : Rep W ℓ H m vx d) (fx : d.flat = true) : ∀ {vs : List V} {ds : List D} {k : Nat}, vs.length = ds.length → ds.all D.flat = true → (∀ (k : Nat) (v' : V) (c : D), vs[k]? = some v' → ds[k]? = some c → Rep W ℓ H .fz v' c) → idxF d ds = some k →
    ∃ z, vs[k]? = some z ∧ eqV z vx = true ∧ ∀ (m : Nat) (z' : V), m < k → vs[m]? = some z' → eqV z' vx = false
  | [], [], k, _, _, _, h => by cases h
  | v :: vs, e :: ds, k, hl, f, r, h => by
    simp only [List.all_cons, Bool.and_eq_true] at f
    have e0 := (eqF_ok (r 0 v e rfl rfl) rx f.1 fx).1
    unfold idxF at h
    split at h
    · rename_i c
      cases h
      exact ⟨v, rfl, by rw [e0]; exact c, fun m z' hm => absurd hm (Nat.not_lt_zero _)⟩
    · rename_i c
      obtain ⟨k', h1, rfl⟩ := Option.map_eq_some_iff.mp h
      obtain ⟨z, q1, q2, q3⟩ := idxF_ok rx fx (by simpa using hl) f.2 (fun k v c a b => r (k + 1) v c (by simpa using a) (by simpa using b)) h1
      refine ⟨z, by simpa using q1, q2, fun m z' hm hz => ?_⟩
      cases m with
      | zero => simp at hz; subst hz; rw [e0]; simpa using c
      | succ m => exact q3 m z' (by omega) (by simpa using hz)
def gIndex (x : DV) (ys : List DV) (s : DS) : Option (DV × DS) := match x.d, ys with
  | .lst ds, [y] => if (y.d.flat && ds.all D.flat) = true then (match idxF y.d ds with
    | some k => some (fin2 x y s (.int k))
    | none => none) else none
  | _, _ => none
theorem m_index : OpM W (rIndex W.1) gIndex := by
  intro B s F σ H x vx ys vs z s' hl ⟨ℓ, I⟩ h Q k
  unfold gIndex at h
  split at h
  · rename_i ds y e
    obtain ⟨vy, rfl⟩ := one_of hl rfl
    have I : SIw W ℓ H B s ((y, vy) :: (x, vx) :: F) σ := I
    obtain ⟨c, h⟩ : (y.d.flat && ds.all D.flat) = true ∧ _ := by
      split at h
      · exact ⟨‹_›, h⟩
      · cases h
    simp only [Bool.and_eq_true] at c
    split at h
    · rename_i k0 e1
      cases h
      obtain ⟨m, r⟩ := I.tmp
      obtain ⟨a, ws, rfl, h2, h4, h5⟩ := SIw.flats I I.temps.2.1 (by rw [e]; rfl)
      obtain ⟨z, q1, q2, q3⟩ := idxF_ok r c.1 h4 c.2 (h5 c.2) e1
      have hs : SqL W.1 H a ws := by
        rcases h2 with h2 | ⟨_, h2⟩
        · exact h2.1
        · rw [e] at h2; cases h2
      exact ⟨a, ws, vy, k0, z, rfl, rfl, hs, flatV_ok r c.1, flats_all h4 c.2 (h5 c.2), q1, q2, q3, k _ _ (I.fin2 (.int _))⟩
    · cases h
  · cases h
/-- x.count(y), ints -/
def gCount (x : DV) (ys : List DV) (s : DS) : Option (DV × DS) := match x.d, ys with
  | .lst ds, [y] => match ds.mapM asInt, y.d with
    | some ns, .int i => some (fin2 x y s (.int (ns.count i : Nat)))
    | _, _ => none
  | _, _ => none
theorem m_count : OpM W (rCntI W.1) gCount := by
  intro B s F σ H x vx ys vs z s' hl ⟨ℓ, I⟩ h Q k
  unfold gCount at h
  split at h
  · rename_i ds y e
    obtain ⟨vy, rfl⟩ := one_of hl rfl
    have I : SIw W ℓ H B s ((y, vy) :: (x, vx) :: F) σ := I
    split at h
    · rename_i ns i e1 e2
      cases h
      have e3 := asInts e1
      subst e3
      obtain ⟨m, r⟩ := I.tmp
      rw [e2] at r
      obtain ⟨a, ws, rfl, h2, h4, h5⟩ := SIw.flats I I.temps.2.1 (by rw [e]; rfl)
      have e4 := ints_vs h4 (h5 (ints_flat _))
      subst e4
      have hs : SqL W.1 H a (ns.map V.int) := by
        rcases h2 with h2 | ⟨_, h2⟩
        · exact h2.1
        · rw [e] at h2; cases h2
      exact ⟨a, ns, i, rfl, by rw [int_of r], hs, k _ _ (I.fin2 (.int _))⟩
    · cases h
  · cases h
/-- x.insert(i, y), y frozen -/
def gInsert (x : DV) (ys : List DV) (s : DS) : Option (DV × DS) := match x, ys with
  | .plc j p (.lst ds), [.dat 0 (.int i), .dat 0 e] => if (owned s.sl j p && !s.lk.tail.contains j && decide (ds.length < sizeLine ∧ 0 ≤ i ∧ i < 2 ^ 63)) = true then
      (match wrF j p ds (ds.take i.toNat ++ [e] ++ ds.drop i.toNat) { s with lk := s.lk.tail } with
        | some s' => some (.dat 0 .non, s')
        | none => none) else none
  | _, _ => none
theorem m_insert : OpM W (fun x vs H Q => ∃ (l : Addr) (xs : List V) (i : Int) (y : V), x = .ref l ∧ vs = [.int i, y] ∧ H l = some (.lst xs) ∧ xs.length < sizeLine ∧ 0 ≤ i ∧ i < 2 ^ 63 ∧
    Q .non (upd H l (.lst (xs.take i.toNat ++ [y] ++ xs.drop i.toNat)))) gInsert := by
  intro B s F σ H x vx ys vs z s' hl ⟨ℓ, I⟩ h Q k
  unfold gInsert at h
  split at h
  · rename_i j p ds i e
    obtain ⟨c, h⟩ : (owned s.sl j p && !s.lk.tail.contains j && decide (ds.length < sizeLine ∧ 0 ≤ i ∧ i < 2 ^ 63)) = true ∧ _ := by
      split at h
      · exact ⟨‹_›, h⟩
      · cases h
    simp only [Bool.and_eq_true, Bool.not_eq_true', decide_eq_true_eq] at c
    obtain ⟨⟨c1, c2⟩, c3⟩ := c
    match vs, hl with
    | [vi, ve], _ =>
      have I : SIw W ℓ H B s ((.dat 0 e, ve) :: (.dat 0 (.int i), vi) :: (.plc j p (.lst ds), vx) :: F) σ := I
      split at h
      · rename_i s0 e0
        cases h
        have e1 : vi = .int i := int_of I.temps.2.1
        subst e1
        have J3 := I.drop.drop.drop
        have P := I.drop.drop.plc_at c1
        obtain ⟨a, ws, rfl, L, ch⟩ := J3.place P
        have hF : j ∉ roots F := not_mem_lk J3 c2
        obtain ⟨ℓ1, q0, q1, q2⟩ := SIw.wrF (vs' := ws.take i.toNat ++ [ve] ++ ws.drop i.toNat) J3 L hF e0
        have q1' : ∀ (k : Nat) (v' : V) (c : D), ws[k]? = some v' → ds[k]? = some c → Rep W ℓ1 H .fz v' c := fun k v' c a1 a2 => q1 k v' c a1 a2 (.inr (.inr trivial))
        have re : Rep W ℓ1 H .fz ve e := (Rep.own0.mp I.temps.1).fz fun b c => ⟨rfl, q0 b c⟩
        obtain ⟨K, fzU⟩ := q2 (by simp [L.len]) (fun k v' c' a1 a2 => by
          rw [List.getElem?_append] at a1 a2
          have e5 : (ws.take i.toNat ++ [ve]).length = (ds.take i.toNat ++ [e]).length := by simp [L.len]
          rw [e5] at a1
          split at a1
          · rename_i hk
            rw [if_pos hk] at a2
            rw [List.getElem?_append] at a1 a2
            have e6 : (ws.take i.toNat).length = (ds.take i.toNat).length := by simp [L.len]
            rw [e6] at a1
            split at a1
            · rename_i hk2
              rw [if_pos hk2] at a2
              rw [List.getElem?_take] at a1 a2
              split at a1
              · rename_i hk3; rw [if_pos hk3] at a2; exact q1' k v' c' a1 a2
              · cases a1
            · rename_i hk2
              rw [if_neg hk2] at a2
              generalize k - (List.take i.toNat ds).length = r at a1 a2
              cases r with
              | zero => simp at a1 a2; subst a1; subst a2; exact re
              | succ r => simp at a1
          · rename_i hk
            rw [if_neg hk] at a2
            rw [List.getElem?_drop] at a1 a2
            exact q1' _ v' c' a1 a2)
        exact ⟨a, ws, i, ve, rfl, rfl, L.h, by rw [L.len]; exact c3.1, c3.2.1, c3.2.2, k _ _ ⟨ℓ1, K.push (x := .dat 0 .non) Rep.non rfl⟩⟩
      · cases h
  · cases h
end
end DL

set_option Elab.async false
set_option linter.all false
set_option maxRecDepth 100000
/-! D13: statements -/
namespace DL
open PySem PySem.Spec PyProof.Rows L2
section
variable {W : Wd} {XW : WX} {ℓ ℓ' : Addr → Lab} {H H' : Hp} {B : Ent} {s s' : DS} {sl : List (Option SV)} {F : Temps} {σ σ' : L2.St} {v vx vy : V} {d : D} {x y z : DV} {t : Nat} {ds as bs : List D} {p : List Nat} {i j n : Nat} {En : Ends}
def sSkip : SF := fun s => .nx s
def sSeq (f g : SF) : SF := fun s => match f s with
  | .nx s1 => g s1
  | r => r
theorem tSeq_ {f g : SF} (h : tDS W XW (sSeq f g) En σ H) : tSeq (tDS W XW f) (tDS W XW g) En σ H := by
  obtain ⟨B, s, F, I, h⟩ := h
  refine ⟨B, s, F, I, ?_⟩
  unfold sSeq at h
  cases e : f s with
  | nx s1 => rw [e] at h; exact fun σ' H' I' => ⟨B, s1, F, I', h⟩
  | no => rw [e] at h; exact h
  | bk s1 => rw [e] at h; exact h
  | ct s1 => rw [e] at h; exact h
  | rt x s1 => rw [e] at h; exact h
  | ex C pl s1 => rw [e] at h; exact h
/-- name = e -/
def sAsg (i : Nat) (f : EF) : SF := fun s => match f s with
  | .ok x s1 => match stored x i s1.sl with
    | some y => if (decide (i < s1.sl.length) && !(unl x s1).lk.contains i) = true then .nx { sl := putS s1.sl i y, lk := (unl x s1).lk } else .no
    | none => .no
  | .ex C pl s1 => .ex C pl s1
  | .no => .no
theorem SI.put {y : SV} (I : SI W B s ((x, v) :: F) σ H) (hio : i ∉ W.2.2) (c : (decide (i < s.sl.length) && !(unl x s).lk.contains i) = true) (hy : stored x i s.sl = some y) : SI W B { sl := putS s.sl i y, lk := (unl x s).lk } F (σ.set i (some v)) H := by
  obtain ⟨ℓ, I⟩ := I
  simp only [Bool.and_eq_true, decide_eq_true_eq, Bool.not_eq_true'] at c
  exact I.put c.1 hio (not_mem_lk I.drop c.2) hy
theorem tAsg_ {f : EF} (hio : i ∉ W.2.2) (h : tDS W XW (sAsg i f) En σ H) : tAsg (tD W XW f) (gName i) En σ H := by
  obtain ⟨B, s, F, I, h⟩ := h
  refine ⟨B, s, F, I, ?_⟩
  unfold sAsg at h
  cases e : f s with
  | no => simp only [e] at h; exact h
  | ex C pl s1 => simp only [e] at h; exact fun cls dd H' => h cls dd σ H'
  | ok x s1 =>
    simp only [e] at h
    intro v H1 I1
    cases e2 : stored x i s1.sl with
    | none => simp only [e2] at h; exact h.elim
    | some y =>
      simp only [e2] at h
      by_cases c : (decide (i < s1.sl.length) && !(unl x s1).lk.contains i) = true
      · rw [if_pos c] at h
        exact h _ _ (I1.put hio c e2)
      · rw [if_neg c] at h; exact h.elim
/-- an expression as a statement -/
def sExpr (f : EF) : SF := fun s => match f s with
  | .ok x s1 => .nx (unl x s1)
  | .ex C pl s1 => .ex C pl s1
  | .no => .no
theorem tDrop_ {f : EF} (h : tDS W XW (sExpr f) En σ H) : tDrop (tD W XW f) En σ H := by
  obtain ⟨B, s, F, I, h⟩ := h
  refine ⟨B, s, F, I, ?_⟩
  unfold sExpr at h
  cases e : f s with
  | no => simp only [e] at h; exact h
  | ex C pl s1 => simp only [e] at h; exact fun cls dd H' => h cls dd σ H'
  | ok x s1 => simp only [e] at h; exact fun v H1 I1 => h _ _ I1.drop
def sRet (f : EF) : SF := fun s => match f s with
  | .ok x s1 => .rt x s1
  | .ex C pl s1 => .ex C pl s1
  | .no => .no
theorem tRet_ {f : EF} (h : tDS W XW (sRet f) En σ H) : tRet (tD W XW f) En σ H := by
  obtain ⟨B, s, F, I, h⟩ := h
  refine ⟨B, s, F, I, ?_⟩
  unfold sRet at h
  cases e : f s with
  | no => simp only [e] at h; exact h
  | ex C pl s1 => simp only [e] at h; exact fun cls dd H' => h cls dd σ H'
  | ok x s1 => simp only [e] at h; exact fun v H1 I1 => h v σ H1 I1
def sRetN : SF := fun s => .rt (.dat 0 .non) s
theorem tRetN_ (h : tDS W XW sRetN En σ H) : tRetN En σ H := by
  obtain ⟨B, s, F, I, h⟩ := h
  exact h .non σ H (I.flat fun _ => Rep.non)
def sIf (t : TF) (f g : SF) : SF := fun s => match t s with
  | .ok true s1 => f s1
  | .ok false s1 => g s1
  | .ex C pl s1 => .ex C pl s1
  | .no => .no
theorem tIfS_ {t : TF} {f g : SF} (h : tDS W XW (sIf t f g) En σ H) : tIfS (tDB W XW t) (tDS W XW f) (tDS W XW g) En σ H := by
  obtain ⟨B, s, F, I, h⟩ := h
  refine ⟨B, s, F, I, ?_⟩
  unfold sIf at h
  cases e : t s with
  | no => simp only [e] at h; exact h
  | ex C pl s1 => simp only [e] at h; exact fun cls dd H' => h cls dd σ H'
  | ok b s1 =>
    cases b with
    | true => simp only [e] at h; exact fun H1 I1 => by show (if true = true then _ else _); rw [if_pos rfl]; exact ⟨B, s1, F, I1, h⟩
    | false => simp only [e] at h; exact fun H1 I1 => by show (if false = true then _ else _); rw [if_neg Bool.false_ne_true]; exact ⟨B, s1, F, I1, h⟩
def sBreak : SF := fun s => .bk s
def sCont : SF := fun s => .ct s
/-- x[i] = e -/
def gSet (x y : DV) (e : D) (s : DS) : Option DS := match x, y with
  | .plc j p (.lst ds), .dat 0 (.int i) => if (owned s.sl j p && !s.lk.tail.contains j) = true then (match ixN ds.length i with
      | some k => wrF j p ds (ds.set k e) { s with lk := s.lk.tail }
      | none => none) else none
  | _, _ => none
theorem SIw.setIx {e : D} {ve : V} (I : SIw W ℓ H B s ((y, vy) :: (x, vx) :: F) σ) (re : Rep W ℓ H .fz ve e) (h : gSet x y e s = some s') (Q : Hp → Prop) (k : ∀ H', SI W B s' F σ H' → Q H') : rSetL vx vy ve H Q := by
  unfold gSet at h
  split at h
  · rename_i j p ds i
    obtain ⟨c, h⟩ : (owned s.sl j p && !s.lk.tail.contains j) = true ∧ _ := by
      split at h
      · exact ⟨‹_›, h⟩
      · cases h
    simp only [Bool.and_eq_true, Bool.not_eq_true'] at c
    obtain ⟨c1, c2⟩ := c
    split at h
    · rename_i k0 e0
      have e1 : vy = .int i := int_of I.temps.1
      subst e1
      have J := I.drop.drop
      have P := I.drop.plc_at c1
      obtain ⟨a, vs, rfl, L, ch⟩ := J.place P
      have hF : j ∉ roots F := not_mem_lk J c2
      obtain ⟨ℓ1, q0, q1, q2⟩ := SIw.wrF (vs' := vs.set k0 ve) J L hF h
      have q1' : ∀ (k : Nat) (v' : V) (c : D), vs[k]? = some v' → ds[k]? = some c → Rep W ℓ1 H .fz v' c := fun k v' c a1 a2 => q1 k v' c a1 a2 (.inr (.inr trivial))
      have re : Rep W ℓ1 H .fz ve e := re.fz fun b c => ⟨rfl, q0 b c⟩
      obtain ⟨K, _⟩ := q2 (by simp [L.len]) (fun k v' c' a1 a2 => by
        rw [List.getElem?_set] at a1 a2
        split at a1
        · rename_i hk
          rw [if_pos hk] at a2
          split at a1
          · split at a2
            · cases a1; cases a2; exact re
            · cases a2
          · cases a1
        · rename_i hk
          rw [if_neg hk] at a2
          exact q1' k v' c' a1 a2)
      exact ⟨a, vs, i, k0, rfl, rfl, L.h, by rw [L.len]; exact e0, k _ ⟨ℓ1, K⟩⟩
    · cases h
  · cases h
def sSetIx (fe fx fi : EF) : SF := fun s => match fe s with
  | .ok (.dat 0 e) s1 => match fx s1 with
    | .ok x s2 => match fi s2 with
      | .ok y s3 => match gSet x y e s3 with
        | some s4 => .nx s4
        | none => .no
      | .ex C pl s3 => .ex C pl (unl x s3)
      | .no => .no
    | .ex C pl s2 => .ex C pl s2
    | .no => .no
  | .ok _ _ => .no
  | .ex C pl s1 => .ex C pl s1
  | .no => .no
theorem tSetIx {fe fx fi : EF} (h : tDS W XW (sSetIx fe fx fi) En σ H) : tAsg (tD W XW fe) (gSub (tD W XW fx) (tD W XW fi) rSetL) En σ H := by
  obtain ⟨B, s, F, I, h⟩ := h
  refine ⟨B, s, F, I, ?_⟩
  unfold sSetIx at h
  cases e1 : fe s with
  | no => simp only [e1] at h; exact h
  | ex C pl s1 => simp only [e1] at h; exact fun cls dd H' => h cls dd σ H'
  | ok x0 s1 =>
    cases x0 with
    | brw => simp only [e1] at h; exact h.elim
    | plc => simp only [e1] at h; exact h.elim
    | dat n0 e =>
      cases n0 with
      | succ => simp only [e1] at h; exact h.elim
      | zero =>
        simp only [e1] at h
        intro ve H1 I1
        refine ⟨B, s1, _, I1, ?_⟩
        cases e2 : fx s1 with
        | no => simp only [e2] at h; exact h
        | ex C pl s2 => simp only [e2] at h; exact fun cls dd H' I' => h cls dd σ H' I'.drop
        | ok x s2 =>
          simp only [e2] at h
          intro vx H2 I2
          refine ⟨B, s2, _, I2, ?_⟩
          cases e3 : fi s2 with
          | no => simp only [e3] at h; exact h
          | ex C pl s3 => simp only [e3] at h; exact fun cls dd H' I' => h cls dd σ H' I'.drop.drop
          | ok y s3 =>
            simp only [e3] at h
            intro vy H3 I3
            cases e4 : gSet x y e s3 with
            | none => simp only [e4] at h; exact h.elim
            | some s4 =>
              simp only [e4] at h
              obtain ⟨ℓ, I3⟩ := I3
              refine I3.setIx (Rep.own0.mp I3.temps.2.2.1) e4 _ fun H4 I4 => ?_
              exact h σ H4 I4.drop
/-- x[i] op= e, ints -/
def sAugIx (f : Int → Int → Int) (fx fi fe : EF) : SF := fun s => match fx s with
  | .ok x s1 => match fi s1 with
    | .ok y s2 => match x.d, y.d with
      | .lst ds, .int i => match ixN ds.length i with
        | some k => match ds[k]? with
          | some (.int a) => match fe s2 with
            | .ok (.dat 0 (.int b)) s3 => match gSet x y (.int (f a b)) s3 with
              | some s4 => .nx s4
              | none => .no
            | .ok _ _ => .no
            | .ex C pl s3 => .ex C pl (unl x (unl y s3))
            | .no => .no
          | _ => .no
        | none => .no
      | _, _ => .no
    | .ex C pl s2 => .ex C pl (unl x s2)
    | .no => .no
  | .ex C pl s1 => .ex C pl s1
  | .no => .no
def rGetL (K : PySem.W.Frag) : V → V → Hp → VK → Prop := fun x y H Q => ∃ p xs i v, x = .ref p ∧ y = .int i ∧ SqL K H p xs ∧ atI xs i = some v ∧ Q v H
theorem tAugIx {f : Int → Int → Int} {fx fi fe : EF} (h : tDS W XW (sAugIx f fx fi fe) En σ H) : tAugS (tD W XW fx) (tD W XW fi) (tD W XW fe) (rGetL W.1) (ipI f) rSetL En σ H := by
  obtain ⟨B, s, F, I, h⟩ := h
  refine ⟨B, s, F, I, ?_⟩
  unfold sAugIx at h
  cases e1 : fx s with
  | no => simp only [e1] at h; exact h
  | ex C pl s1 => simp only [e1] at h; exact fun cls dd H' => h cls dd σ H'
  | ok x s1 =>
    simp only [e1] at h
    intro vx H1 I1
    refine ⟨B, s1, _, I1, ?_⟩
    cases e2 : fi s1 with
    | no => simp only [e2] at h; exact h
    | ex C pl s2 => simp only [e2] at h; exact fun cls dd H' I' => h cls dd σ H' I'.drop
    | ok y s2 =>
      simp only [e2] at h
      intro vy H2 I2
      obtain ⟨ℓ2, J2⟩ := id I2
      cases ex : x.d with
      | lst ds =>
        cases ey : y.d with
        | int i =>
          simp only [ex, ey] at h
          cases e3 : ixN ds.length i with
          | none => simp only [e3] at h; exact h.elim
          | some k =>
            simp only [e3] at h
            cases e4 : ds[k]? with
            | none => simp only [e4] at h; exact h.elim
            | some c =>
              cases c with
              | int a0 =>
                simp only [e4] at h
                obtain ⟨m, r⟩ := J2.tmp
                rw [ey] at r
                have evy := int_of r
                obtain ⟨a, vs, eva, q2, q3, q4⟩ := J2.drop.subL ex
                have hk : k < ds.length := (List.getElem?_eq_some_iff.mp e4).1
                have hv : vs[k]? = some (vs[k]'(by omega)) := List.getElem?_eq_getElem _
                have ev : vs[k]'(by omega) = .int a0 := by
                  have z := q4 k _ _ hv e4
                  have e0 : (dsub x k (.int a0) (unl y s2)).1 = .dat 0 (.int a0) := by
                    cases x with
                    | dat => rfl
                    | brw => rfl
                    | plc j p d =>
                      unfold dsub
                      simp [D.cont]
                  rw [e0] at z
                  obtain ⟨ℓ3, z⟩ := z
                  exact int_of z.temps.1
                refine ⟨a, vs, i, _, eva, evy, q2, atI_of (by rw [q3]; exact e3) hv, B, s2, _, I2, ?_⟩
                rw [ev]
                cases e5 : fe s2 with
                | no => simp only [e5] at h; exact h
                | ex C pl s3 => simp only [e5] at h; exact fun cls dd H' I' => h cls dd σ H' I'.drop.drop
                | ok w s3 =>
                  cases w with
                  | brw => simp only [e5] at h; exact h.elim
                  | plc => simp only [e5] at h; exact h.elim
                  | dat n0 b0 =>
                    cases n0 with
                    | succ => simp only [e5] at h; exact h.elim
                    | zero =>
                      cases b0 with
                      | int b0 =>
                        simp only [e5] at h
                        intro ve H4 I4
                        obtain ⟨ℓ4, J4⟩ := I4
                        refine ⟨a0, b0, rfl, int_of J4.temps.1, ?_⟩
                        cases e6 : gSet x y (.int (f a0 b0)) s3 with
                        | none => simp only [e6] at h; exact h.elim
                        | some s4 =>
                          simp only [e6] at h
                          exact SIw.setIx J4.drop (.int _) e6 _ fun H5 I5 => h σ H5 I5
                      | _ => simp only [e5] at h; exact h.elim
              | _ => simp only [e4] at h; exact h.elim
        | _ => simp only [ex, ey] at h; exact h.elim
      | _ => cases ey : y.d <;> (simp only [ex, ey] at h; exact h.elim)
end
section
variable {X : Cx} {XW : WXI} {st : Stmt} {sts : List Stmt} {f g : SF} {e : Expr} {fe : EF} {pos : Pos}
theorem pssd_nil : PSsd X XW [] sSkip := ⟨PSs.imp pss_nil fun D σ H h => by obtain ⟨B, s, F, I, h⟩ := h; exact h σ H I⟩
theorem pssd_cons (h1 : PSd X XW st f) (h2 : PSsd X XW sts g) : PSsd X XW (st :: sts) (sSeq f g) := ⟨PSs.imp (pss_cons h1.p h2.p) fun _ _ _ h => tSeq_ h⟩
theorem pssd_one (h1 : PSd X XW st f) : PSsd X XW [st] f := ⟨pss_one h1.p⟩
theorem psd_pass : PSd X XW (.Pass pos) sSkip := ⟨PS.imp ps_pass fun D σ H h => by obtain ⟨B, s, F, I, h⟩ := h; exact h σ H I⟩
theorem psd_break : PSd X XW (.Break pos) sBreak := ⟨PS.imp ps_break fun D σ H h => by obtain ⟨B, s, F, I, h⟩ := h; exact h σ H I⟩
theorem psd_continue : PSd X XW (.Continue pos) sCont := ⟨PS.imp ps_continue fun D σ H h => by obtain ⟨B, s, F, I, h⟩ := h; exact h σ H I⟩
theorem psd_set {i : Nat} {x : Str} {pos' : Pos} (hN : X.N.Nodup) (hi : X.N[i]? = some x) (hx : Loc X.env.scope x) (hio : i ∉ XW.2) (he : PEd X XW e fe) (hs : swapsWith e (some (.Name x pos')) pos.line X.env = pure false := by rfl) (hf : X.fn x = true ∨ X.env.scope.names.lookup x = some .local := by first | exact .inl rfl | exact .inr rfl | assumption) :
    PSd X XW (.Assign [.Name x pos'] e pos) (sAsg i fe) := ⟨PS.imp (ps_set hN hi hx he.p hs hf) fun _ _ _ h => tAsg_ hio h⟩
theorem psd_expr (he : PEd X XW e fe) (hs : swapsWith e none pos.line X.env = pure false := by rfl) : PSd X XW (.Expr e pos) (sExpr fe) := ⟨PS.imp (ps_expr he.p hs) fun _ _ _ h => tDrop_ h⟩
theorem psd_ret (he : PEd X XW e fe) : PSd X XW (.Return (some e) pos) (sRet fe) := ⟨PS.imp (ps_ret he.p) fun _ _ _ h => tRet_ h⟩
theorem psd_retN : PSd X XW (.Return none pos) sRetN := ⟨PS.imp ps_retN fun _ _ _ h => tRetN_ h⟩
theorem psd_if {c : Expr} {a b : List Stmt} {tc : TF} (hc : PTd X XW c tc) (ha : PSsd X XW a f) (hb : PSsd X XW b g) : PSd X XW (.If c a b pos) (sIf tc f g) := ⟨PS.imp (ps_if hc.p ha.p hb.p) fun _ _ _ h => tIfS_ h⟩
theorem psd_setIx {o i : Expr} {fx fi : EF} {spos : Pos} (he : PEd X XW e fe) (ho : PEd X XW o fx) (hi : PEd X XW i fi)
    (ha : ∀ v, assign (.Subscript o i spos) X.env v = (do
      let ov ← holding [v] (eval o X.env)
      let iv ← holding [v, ov] (eval i X.env)
      standAt spos
      holding [v, ov, iv] (setItem ov iv v)
      release [v, ov, iv] []) := by intro _; rfl)
    (hs : swapsWithSole [.Subscript o i spos] e pos.line X.env = pure false := by rfl) (hw : swappedStores [.Subscript o i spos] e X.env = pure none := by rfl)
    (h1 : (assignEach [.Subscript o i spos] X.env).map (·.2) = [assign (.Subscript o i spos) X.env] := by rfl) : PSd X XW (.Assign [.Subscript o i spos] e pos) (sSetIx fe fx fi) :=
  ⟨PS.imp (ps_asg he.p (pg_sub ho.p hi.p set_list ha) hs hw h1) fun _ _ _ h => tSetIx h⟩
theorem pget_list : PGet X (rGetL X.K) := by
  intro pins s σ H x y v u Q I rx ry h
  obtain ⟨p, xs, i, z, rfl, rfl, hq, he, q⟩ := h
  cases rx
  obtain ⟨t, rfl⟩ := ry
  obtain ⟨its, r, pl, hz⟩ := I.list hq
  obtain ⟨j, h1, h2, h3, h4, h5⟩ := atI_get he
  obtain ⟨w, ew, rw0⟩ := r.get h2
  have hl := r.length
  have hn := line63
  have fin : EP X pins σ Q w s := ⟨z, H, I, rw0, q⟩
  by_cases h0 : 0 ≤ i
  · have hj : i.toNat = j := Option.some.inj (by rw [← h1, seqIndex_of h0 h5])
    exact wpAny_getItem_list pl.isList h0 (by omega) (by rw [hj]; simpa using ew) fin
  · have hj : (i + (its.toArray.size : Int)).toNat = j := Option.some.inj (by rw [← h1, seqIndex_neg (by omega) h4, List.size_toArray, hl])
    exact wpAny_getItem_list_neg pl.isList (by omega) (by rw [List.size_toArray]; omega) (by omega) (by rw [hj]; simpa using ew) fin
theorem psd_augIx {o i : Expr} {fx fi : EF} {tpos : Pos} {op : Operator} {h : Int → Int → Int} (ho : PEd X XW o fx) (hi : PEd X XW i fi) (he : PEd X XW e fe) (hp : PIp X op (ipI h))
    (ha : ∀ ov iv new, augStore i ov iv new = (do holding [new, ov, iv] (setItem ov iv new); release [new, ov, iv] []; pure .next) := by intros; rfl) : PSd X XW (.AugAssign (.Subscript o i tpos) op e pos) (sAugIx h fx fi fe) :=
  ⟨PS.imp (ps_augS ho.p hi.p pget_list he.p hp set_list ha) fun _ _ _ h => tAugIx h⟩
/-- name op= e, ints -/
def sAug (h : Int → Int → Int) (i : Nat) (fe : EF) : SF := fun s => match s.sl[i]? with
  | some (some (.dat _ (.int a))) => match fe s with
    | .ok (.dat 0 (.int b)) s1 => if (decide (i < s1.sl.length) && !s1.lk.contains i) = true then .nx { s1 with sl := putS s1.sl i (.dat 0 (.int (h a b))) } else .no
    | .ok _ _ => .no
    | .ex C pl s1 => .ex C pl s1
    | .no => .no
  | _ => .no
theorem psd_aug {i : Nat} {x : Str} {pos' : Pos} {op : Operator} {h : Int → Int → Int} (hN : X.N.Nodup) (hi : X.N[i]? = some x) (hx : Loc X.env.scope x) (hio : i ∉ XW.2) (he : PEd X XW e fe) (ho : PIp X op (ipI h))
    (hf : X.fn x = true ∨ X.env.scope.names.lookup x = some .local := by first | exact .inl rfl | exact .inr rfl | assumption) : PSd X XW (.AugAssign (.Name x pos') op e pos) (sAug h i fe) := by
  refine ⟨PS.imp (ps_aug hN hi hx he.p ho hf) fun D σ H q => ?_⟩
  obtain ⟨B, s, F, ⟨ℓ, I⟩, q⟩ := q
  unfold sAug at q
  split at q
  · rename_i n0 a e0
    obtain ⟨v, e1, e2⟩ := I.slots i _ e0
    have ev : v = .int a := int_of (show Rep (Wx X XW) ℓ H (.own (.slot i) [] n0) v (.int a) from e2)
    subst ev
    refine ⟨_, e1, B, s, F, ⟨ℓ, I⟩, ?_⟩
    split at q
    · rename_i b s1 e3
      rw [e3]
      intro ve H1 ⟨ℓ1, J⟩
      refine ⟨a, b, rfl, int_of J.temps.1, ?_⟩
      by_cases c : (decide (i < s1.sl.length) && !s1.lk.contains i) = true
      · rw [if_pos c] at q
        have J2 : SI (Wx X XW) B s1 ((.dat 0 (.int (h a b)), .int (h a b)) :: F) σ H1 := ⟨ℓ1, J.drop.push (x := .dat 0 (.int (h a b))) (.int _) rfl⟩
        exact q _ _ (J2.put hio c rfl)
      · rw [if_neg c] at q; exact q.elim
    · exact q.elim
    · rename_i C pl s1 e3
      rw [e3]
      exact fun cls dd H' => q cls dd σ H'
    · exact q.elim
  · exact q.elim
end
end DL

set_option Elab.async false
set_option linter.all false
set_option maxRecDepth 100000
/-! D14: what a loop walks; targets; for -/
namespace DL
open PySem PySem.Spec PyProof.Rows L2
section
variable {W : Wd} {XW : WX} {ℓ ℓ' : Addr → Lab} {H H' : Hp} {B : Ent} {s s' : DS} {sl : List (Option SV)} {F : Temps} {σ σ' : L2.St} {v vx vy : V} {d : D} {x y z : DV} {t : Nat} {ds as bs : List D} {p : List Nat} {i j n : Nat} {En : Ends}

/-! ### the temp below the top goes -/
def unl2 (y x : DV) (s : DS) : DS := match y with
  | .plc j _ _ => { s with lk := j :: (unl x { s with lk := s.lk.tail }).lk }
  | _ => unl x s
def labSwap (ℓ : Addr → Lab) (t : Nat) : Addr → Lab := fun a => match ℓ a with
  | .own (.tmp t') q => if t' = t + 1 then .own (.tmp t) q else if t' = t then .no else .own (.tmp t') q
  | l => l
theorem labSwap_keep {a : Addr} (h : ℓ a = .fz ∨ ℓ a = .bw ∨ ∃ i q, ℓ a = .own (.slot i) q) : labSwap ℓ t a = ℓ a := by
  unfold labSwap
  rcases h with h | h | ⟨i, q, h⟩ <;> rw [h]
theorem labSwap_lt {a : Addr} {k : Nat} {q : List Nat} (h : ℓ a = .own (.tmp k) q) (hk : k < t) : labSwap ℓ t a = ℓ a := by
  unfold labSwap
  rw [h]
  show (if k = t + 1 then _ else if k = t then _ else _) = _
  rw [if_neg (by omega), if_neg (by omega)]
theorem labSwap_inv {a : Addr} {l : Lab} (h : labSwap ℓ t a = l) (hl : l = .fz ∨ l = .bw) : ℓ a = l := by
  unfold labSwap at h
  cases e : ℓ a with
  | own r q =>
    rw [e] at h
    cases r with
    | slot k => rcases hl with rfl | rfl <;> cases h
    | tmp k =>
      have h : (if k = t + 1 then Lab.own (.tmp t) q else if k = t then .no else .own (.tmp k) q) = l := h
      split at h
      · rcases hl with rfl | rfl <;> cases h
      · split at h <;> (rcases hl with rfl | rfl <;> cases h)
  | _ => rw [e] at h; exact h
theorem SIw.drop2 (I : SIw W ℓ H B s ((y, vy) :: (x, vx) :: F) σ) : SIw W (labSwap ℓ F.length) H B (unl2 y x s) ((y, vy) :: F) σ := by
  have hsl : (unl2 y x s).sl = s.sl := by
    cases y with
    | plc => rfl
    | dat => exact unl_sl _ _
    | brw => exact unl_sl _ _
  have lks : (unl2 y x s).lk = roots ((y, vy) :: F) := by
    have e := I.drop.drop.lks
    cases y with
    | dat => exact e
    | brw => exact e
    | plc j p d => 
      show j :: (unl x { s with lk := s.lk.tail }).lk = _
      have e2 : (unl x { s with lk := s.lk.tail }).lk = roots F := e
      rw [e2]; rfl
  refine ⟨by rw [hsl]; exact I.len, fun a c => I.lab a fun z => c ?_, fun a c => ?_, fun a c => I.bw a (labSwap_inv c (.inr rfl)), I.keep, I.ios, lks, fun i z e => ?_, ?_⟩
  · unfold labSwap; rw [z]
  · obtain ⟨k1, k2⟩ := I.prot a c
    exact ⟨k1, (labSwap_keep (by rw [k2]; rcases c with c | c; exact .inl c; exact .inr (.inl c))).trans k2⟩
  · rw [hsl] at e ⊢
    obtain ⟨w, e1, e2⟩ := I.slots i z e
    exact ⟨w, e1, e2.same (fun a c => ⟨rfl, labSwap_keep c⟩) I.slots⟩
  · rw [hsl]
    refine ⟨?_, TmRs.same I.temps.2.2 (fun a c => ⟨rfl, ?_⟩) I.slots⟩
    · have T := I.temps.1
      cases y with
      | dat n d =>
        refine Rep.mv (r := .tmp (F.length + 1)) (p := []) (p' := []) (show Rep W ℓ H (.own (.tmp (F.length + 1)) [] n) vy d from T) (fun a z => ⟨rfl, (labSwap_keep (.inl z)).trans z⟩) fun a q z => ⟨rfl, ?_⟩
        unfold labSwap
        rw [z]
        exact if_pos rfl
      | brw d =>
        refine Rep.frame (show Rep W ℓ H .bw vy d from T) fun a c => ⟨rfl, labSwap_keep ?_⟩
        rcases c with c | ⟨_, c⟩ | c
        · exact .inl c
        · exact .inr (.inl c)
        · exact c.elim
      | plc j p d =>
        have T : if owned s.sl j p = true then PlR H s.sl σ j p vy d else Rep W ℓ H .fz vy d := T
        show if owned s.sl j p = true then PlR H s.sl σ j p vy d else Rep W _ H .fz vy d
        by_cases o : owned s.sl j p = true
        · rw [if_pos o] at T ⊢; exact T
        · rw [if_neg o] at T ⊢
          exact T.fz fun a z => ⟨rfl, (labSwap_keep (.inl z)).trans z⟩
    · rcases c with c | c | c | ⟨k, q, hk, c⟩
      · exact labSwap_keep (.inl c)
      · exact labSwap_keep (.inr (.inl c))
      · exact labSwap_keep (.inr (.inr c))
      · exact labSwap_lt c hk
theorem SI.drop2 (I : SI W B s ((y, vy) :: (x, vx) :: F) σ H) : SI W B (unl2 y x s) ((y, vy) :: F) σ H := let ⟨_, I⟩ := I; ⟨_, I.drop2⟩

/-! ### a second of the top -/
def isPlain : DV → Bool
  | .dat (_ + 1) _ => false
  | _ => true
def dupS (x : DV) (s : DS) : DS := match x with
  | .plc j _ _ => { s with lk := j :: s.lk }
  | _ => s
theorem TmR.any {t' : Nat} (h : TmR W ℓ H sl σ t x v) (hx : isPlain x = true) : TmR W ℓ H sl σ t' x v := by
  cases x with
  | dat n d =>
    cases n with
    | succ => cases hx
    | zero => exact Rep.own0.mpr (Rep.own0.mp h)
  | brw => exact h
  | plc => exact h
theorem SIw.dup (I : SIw W ℓ H B s ((x, v) :: F) σ) (hx : isPlain x = true) : SIw W ℓ H B (dupS x s) ((x, v) :: (x, v) :: F) σ := by
  have T := TmR.any (t' := ((x, v) :: F).length) I.temps.1 hx
  cases x with
  | dat n d => exact I.push T rfl
  | brw d => exact I.push T rfl
  | plc j p d => exact I.pushP T

/-! ### items -/
inductive IV | one (y : DV) | many (ys : List DV)
def IVR (W : Wd) (B : Ent) (s : DS) (F : Temps) (σ : L2.St) (H : Hp) (u : V) : IV → Prop
  | .one y => SI W B s ((y, u) :: F) σ H
  | .many ys => ∃ a us, u = .ref a ∧ SqT W.1 H a us ∧ us.length = ys.length ∧ SI W B s (ys.zip us ++ F) σ H
/-- J yields the n items that itm tells, as long as (x, v) is held -/
def JOk (W : Wd) (J : It) (x : DV) (v : V) (n : Nat) (itm : Nat → DS → Option (IV × DS)) : Prop :=
  ∀ i B s F σ H, SI W B s ((x, v) :: F) σ H → (n ≤ i → J.stop i H) ∧ (i < n → J.go i H ∧ ∀ u H' y s1, J.yld i H u H' → itm i s = some (y, s1) → IVR W B s1 ((x, v) :: F) σ H' u y)
inductive IR | no | ok (x : DV) (n : Nat) (itm : Nat → DS → Option (IV × DS)) (s : DS) | ex (C : Str) (pl : List (Str × D)) (s : DS)
abbrev IF := DS → IR
def IC (W : Wd) (XW : WX) (B : Ent) (F : Temps) (σ : L2.St) (R : It → Hp → Prop) : IR → Prop
  | .no => False
  | .ok x n itm s => ∀ J v H, SI W B s ((x, v) :: F) σ H → JOk W J x v n itm → R J H
  | .ex C pl s => ∀ cls dd H, SIx W B s F σ H C pl cls dd → XW cls dd σ H
def tDI (W : Wd) (XW : WX) (f : IF) : TI := fun σ H R => ∃ B s F, SI W B s F σ H ∧ IC W XW B F σ R (f s)
end
structure PId (X : Cx) (XW : WXI) (tg iter : Expr) (f : IF) : Prop where
  p : PI X tg iter (tDI (Wx X XW) XW.1 f)
theorem PI.imp {X : Cx} {tg e : Expr} {t t' : TI} (h : PI X tg e t) (k : ∀ σ H Q, t' σ H Q → t σ H Q) : PI X tg e t' := ⟨fun pins s σ H Q I q => h.run pins s σ H Q I (k σ H Q q)⟩
/-- a value to be stored by a target -/
def SameBy (wr : List Nat) (σ σ2 : L2.St) : Prop := ∀ vs : List Nat, (∀ i ∈ wr, i ∈ vs) → wipe σ2 vs = wipe σ vs
def GC (W : Wd) (g : TG) (tgt : IV → DS → Option DS) (wr : List Nat) : Prop := ∀ B s F σ H u y s2, IVR W B s F σ H u y → tgt y s = some s2 → ∀ Q : L2.St → Hp → Prop, (∀ σ2, SI W B s2 F σ2 H → SameBy wr σ σ2 → Q σ2 H) → g u σ H Q
structure PGd (X : Cx) (XW : WXI) (tg : Expr) (g : TG) (tgt : IV → DS → Option DS) (wr : List Nat) : Prop where
  p : PG X tg g
  c : GC (Wx X XW) g tgt wr

/-! ### sequences -/
section
variable {W : Wd} {XW : WX} {B : Ent} {s : DS} {F : Temps} {σ : L2.St} {H : Hp}
/-- walked: a list or a tuple -/
def iSq (K : PySem.W.Frag) (te : TE) : TI := fun σ H R => te σ H fun v H1 => ∃ a, v = .ref a ∧ (((∃ xs, SqL K H1 a xs) ∧ R (Itl K a) H1) ∨ ((∃ xs, SqT K H1 a xs) ∧ R (Itt K a) H1))
theorem pi_sq {X : Cx} {tg e : Expr} {te : TE} (he : PE X e te) : PI X tg e (iSq X.K te) where
  run := by
    intro pins s σ H R I h
    refine thn (he.run pins s σ H _ I h) ?_
    rintro v s1 ⟨x, H1, I1, r1, a, rfl, q⟩
    cases r1
    have fresh : ∀ b ∈ [s1.heap.objs.size], FpOk X pins H1 b := by
      intro b hb
      rw [List.mem_singleton] at hb
      rw [hb]
      exact I1.fpOk (Nat.le_refl _) (I1.hok.fresh (Nat.le_refl _))
    have laid : ∀ o : Obj, o.isFreed = false → Inv X pins σ H1 { s1 with heap := s1.heap.push o } := fun o ho => I1.kept (t' := s1.toks) fun _ _ z => Heap.get?_push_of_some _ z
    rcases q with ⟨⟨xs, hq⟩, q⟩ | ⟨⟨xs, hq⟩, q⟩
    · obtain ⟨its, rv, pl, hz⟩ := I1.list hq
      exact wpAny_pyIter_list pl.isList ⟨_, _, _, _, H1, rfl, laid _ rfl, turn_list a _, ⟨_, Heap.get?_push_size _ rfl, rfl, rfl⟩, fresh, q⟩
    · obtain ⟨its, rv, pl, hz⟩ := I1.tuple hq
      exact wpAny_pyIter_tuple (show s1.heap.IsTuple a its.toArray from pl) ⟨_, _, _, _, H1, rfl, laid _ rfl, turn_tuple a _, ⟨_, Heap.get?_push_size _ rfl, rfl, rfl⟩, fresh, q⟩
def seqOf : D → Option (List D)
  | .lst ds => some ds
  | .tup ds => some ds
  | _ => none
def plain : DV → DV
  | .dat _ d => .dat 0 d
  | x => x
theorem SIw.plain {x : DV} {v : V} {ℓ : Addr → Lab} (I : SIw W ℓ H B s ((x, v) :: F) σ) : SI W B s ((DL.plain x, v) :: F) σ H := by
  cases x with
  | dat n d => exact ⟨_, I.downT (Nat.zero_le _)⟩
  | brw => exact ⟨_, I⟩
  | plc => exact ⟨_, I⟩
theorem isPlain_plain (x : DV) : isPlain (plain x) = true := by cases x <;> rfl
theorem plain_d (x : DV) : (plain x).d = x.d := by cases x <;> rfl
/-- the k-th part, pushed ahead of x itself -/
def sqItm (x : DV) (ds : List D) (k : Nat) (s : DS) : Option (IV × DS) := match ds[k]? with
  | some c => some (.one (dsub x k c (dupS x s)).1, (dsub x k c (dupS x s)).2)
  | none => none
theorem jok_list {x : DV} {a : Addr} {ds : List D} (hx : isPlain x = true) (hd : x.d = .lst ds) : JOk W (Itl W.1 a) x (.ref a) ds.length (sqItm x ds) := by
  intro i B s F σ H ⟨ℓ, I⟩
  obtain ⟨a', vs, ea, hq, hl, hk⟩ := (I.dup hx).subL hd
  cases ea
  refine ⟨fun h => ⟨vs, hq, by omega⟩, fun h => ⟨⟨vs, vs[i]'(by omega), hq, List.getElem?_eq_getElem _⟩, fun u H' y s1 hy hi => ?_⟩⟩
  obtain ⟨rfl, hy⟩ := hy
  unfold sqItm at hi
  split at hi
  · rename_i c e
    cases hi
    exact hk i u c (hy vs hq) e
  · cases hi
theorem jok_tup {x : DV} {a : Addr} {ds : List D} (hx : isPlain x = true) (hd : x.d = .tup ds) : JOk W (Itt W.1 a) x (.ref a) ds.length (sqItm x ds) := by
  intro i B s F σ H ⟨ℓ, I⟩
  obtain ⟨a', vs, ea, hq, hl, hk⟩ := (I.dup hx).subT hd
  cases ea
  refine ⟨fun h => ⟨vs, hq, by omega⟩, fun h => ⟨⟨vs, vs[i]'(by omega), hq, List.getElem?_eq_getElem _⟩, fun u H' y s1 hy hi => ?_⟩⟩
  obtain ⟨rfl, hy⟩ := hy
  unfold sqItm at hi
  split at hi
  · rename_i c e
    cases hi
    exact hk i u c (hy vs hq) e
  · cases hi
def iSeq (f : EF) : IF := fun s => match f s with
  | .ok x s1 => match seqOf x.d with
    | some ds => .ok (plain x) ds.length (sqItm (plain x) ds) s1
    | none => .no
  | .ex C pl s1 => .ex C pl s1
  | .no => .no
theorem tSeqI {f : EF} {R : It → Hp → Prop} (h : tDI W XW (iSeq f) σ H R) : iSq W.1 (tD W XW f) σ H R := by
  obtain ⟨B, s, F, I, h⟩ := h
  refine ⟨B, s, F, I, ?_⟩
  unfold iSeq at h
  cases e : f s with
  | no => simp only [e] at h; exact h
  | ex C pl s1 => simp only [e] at h; exact h
  | ok x s1 =>
    simp only [e] at h
    intro v H1 ⟨ℓ, I1⟩
    cases ed : x.d with
    | lst ds =>
      simp only [ed, seqOf] at h
      have J := I1.plain
      obtain ⟨ℓ2, J2⟩ := J
      obtain ⟨a, vs, rfl, hq, _, _⟩ := J2.subL ((plain_d x).trans ed)
      exact ⟨a, rfl, .inl ⟨⟨vs, hq⟩, h _ _ _ ⟨ℓ2, J2⟩ (jok_list (isPlain_plain x) ((plain_d x).trans ed))⟩⟩
    | tup ds =>
      simp only [ed, seqOf] at h
      have J := I1.plain
      obtain ⟨ℓ2, J2⟩ := J
      obtain ⟨a, vs, rfl, hq, _, _⟩ := J2.subT ((plain_d x).trans ed)
      exact ⟨a, rfl, .inr ⟨⟨vs, hq⟩, h _ _ _ ⟨ℓ2, J2⟩ (jok_tup (isPlain_plain x) ((plain_d x).trans ed))⟩⟩
    | _ => simp only [ed, seqOf] at h; exact h.elim
theorem pid_seq {X : Cx} {XW : WXI} {tg e : Expr} {f : EF} (he : PEd X XW e f) : PId X XW tg e (iSeq f) := ⟨PI.imp (pi_sq he.p) fun _ _ _ h => tSeqI h⟩

/-! ### ranges -/
def rgItm (lo : Int) (k : Nat) (s : DS) : Option (IV × DS) := some (.one (.dat 0 (.int (lo + k))), s)
theorem jok_rng {v : V} {x : DV} {lo : Int} {n : Nat} : JOk W (Itr lo n) x v n (rgItm lo) := by
  intro i B s F σ H I
  refine ⟨id, fun h => ⟨h, fun u H' y s1 hy hi => ?_⟩⟩
  obtain ⟨rfl, rfl⟩ := hy
  cases hi
  exact I.flat fun ℓ => Rep.int _
def okR (j : Int) : Bool := decide (-4611686018427387904 ≤ j) && decide (j < 4611686018427387904)
def iRng (fs : List EF) : IF := fun s => match evA fs s with
  | .ok [.dat 0 (.int j)] s1 => if okR j = true then .ok (.dat 0 .non) j.toNat (rgItm 0) s1 else .no
  | .ok [.dat 0 (.int i), .dat 0 (.int j)] s1 => if (okR i && okR j) = true then .ok (.dat 0 .non) (j - i).toNat (rgItm i) s1 else .no
  | .ok _ _ => .no
  | .ex C pl s1 => .ex C pl s1
  | .no => .no
theorem okR_iff {j : Int} (h : okR j = true) : -(2 ^ 62) ≤ j ∧ j < 2 ^ 62 := by
  unfold okR at h
  simp only [Bool.and_eq_true, decide_eq_true_eq] at h
  omega
theorem len1 {α : Type} {l : List α} (h : l.length = 1) : ∃ a, l = [a] := by
  match l, h with
  | [a], _ => exact ⟨a, rfl⟩
theorem len2 {α : Type} {l : List α} (h : l.length = 2) : ∃ a b, l = [a, b] := by
  match l, h with
  | [a, b], _ => exact ⟨a, b, rfl⟩
theorem tRngI1 {f : EF} {R : It → Hp → Prop} (h : tDI W XW (iRng [f]) σ H R) : iRng1 (tDA W XW (evA [f])) σ H R := by
  obtain ⟨B, s, F, I, h⟩ := h
  refine ⟨B, s, F, I, ?_⟩
  unfold iRng at h
  cases e : evA [f] s with
  | no => simp only [e] at h; exact h
  | ex C pl s1 => simp only [e] at h; exact h
  | ok xs s1 =>
    simp only [e] at h
    intro vs H1 hl I1
    split at h
    · rename_i j s2 e2
      cases e2
      obtain ⟨v, rfl⟩ := len1 hl
      obtain ⟨ℓ, I1⟩ := I1
      have I1 : SIw W ℓ H1 B s1 ((.dat 0 (.int j), v) :: F) σ := I1
      cases int_of I1.temps.1
      split at h
      · rename_i c
        obtain ⟨c1, c2⟩ := okR_iff c
        exact ⟨j, rfl, c1, c2, h _ .non _ (SI.flat ⟨ℓ, I1.drop⟩ fun _ => Rep.non) jok_rng⟩
      · exact h.elim
    · rename_i i j s2 e2
      exfalso
      cases e2
      -- two values of one expression
      clear h
      unfold evA at e
      cases e1 : f s with
      | ok x s2 => simp only [e1, evA] at e; cases e
      | ex => simp only [e1] at e; cases e
      | no => simp only [e1] at e; cases e
    · exact h.elim
    · rename_i e2; cases e2
    · rename_i e2; cases e2
theorem evA_len : ∀ {fs : List EF} {s s1 : DS} {xs : List DV}, evA fs s = .ok xs s1 → xs.length = fs.length
  | [], s, s1, xs, h => by cases h; rfl
  | f :: fs, s, s1, xs, h => by
    unfold evA at h
    cases e1 : f s with
    | ok x s2 =>
      simp only [e1] at h
      cases e2 : evA fs s2 with
      | ok ys s3 => simp only [e2] at h; cases h; simp [evA_len e2]
      | ex => simp only [e2] at h; cases h
      | no => simp only [e2] at h; cases h
    | ex => simp only [e1] at h; cases h
    | no => simp only [e1] at h; cases h
theorem tRngI2 {f g : EF} {R : It → Hp → Prop} (h : tDI W XW (iRng [f, g]) σ H R) : iRng2 (tDA W XW (evA [f, g])) σ H R := by
  obtain ⟨B, s, F, I, h⟩ := h
  refine ⟨B, s, F, I, ?_⟩
  unfold iRng at h
  cases e : evA [f, g] s with
  | no => simp only [e] at h; exact h
  | ex C pl s1 => simp only [e] at h; exact h
  | ok xs s1 =>
    have hxs := evA_len e
    simp only [e] at h
    intro vs H1 hl I1
    split at h
    · rename_i j s2 e2
      cases e2
      cases hxs
    · rename_i i j s2 e2
      cases e2
      obtain ⟨v, w, rfl⟩ := len2 hl
      obtain ⟨ℓ, I1⟩ := I1
      have I1 : SIw W ℓ H1 B s1 ((.dat 0 (.int j), w) :: (.dat 0 (.int i), v) :: F) σ := I1
      cases int_of I1.temps.1
      cases int_of I1.temps.2.1
      split at h
      · rename_i c
        simp only [Bool.and_eq_true] at c
        obtain ⟨c1, c2⟩ := okR_iff c.1
        obtain ⟨c3, c4⟩ := okR_iff c.2
        exact ⟨i, j, rfl, ⟨c1, c2, c3, c4⟩, h _ .non _ (SI.flat ⟨ℓ, I1.drop.drop⟩ fun _ => Rep.non) jok_rng⟩
      · exact h.elim
    · exact h.elim
    · rename_i e2; cases e2
    · rename_i e2; cases e2
end
section
variable {X : Cx} {XW : WXI} {tg : Expr}
theorem pid_rng1 {a : Expr} {f : EF} {p pos : Pos} (hg : Gl X "range") (hm : X.mg "range" = none) (ha : PAd X XW [a] (evA [f])) (hs : starEach [a] X.env = [(false, eval a X.env)] := by rfl) : PId X XW tg (.Call (.Name "range" p) [a] [] pos) (iRng [f]) :=
  ⟨PI.imp (pi_range1 hg hm ha.p hs) fun _ _ _ h => tRngI1 h⟩
theorem pid_rng2 {a b : Expr} {f g : EF} {p pos : Pos} (hg : Gl X "range") (hm : X.mg "range" = none) (ha : PAd X XW [a, b] (evA [f, g])) (hs : starEach [a, b] X.env = [(false, eval a X.env), (false, eval b X.env)] := by rfl) (hs2 : starEach [b] X.env = [(false, eval b X.env)] := by rfl) :
    PId X XW tg (.Call (.Name "range" p) [a, b] [] pos) (iRng [f, g]) := ⟨PI.imp (pi_range2 hg hm ha.p hs hs2) fun _ _ _ h => tRngI2 h⟩
end
end DL

set_option Elab.async false
set_option linter.all false
set_option maxRecDepth 100000
/-! D15: targets, for, while -/
namespace DL
open PySem PySem.Spec PyProof.Rows L2
section
variable {W : Wd} {XW : WX} {ℓ ℓ' : Addr → Lab} {H H' : Hp} {B : Ent} {s s' : DS} {sl : List (Option SV)} {F : Temps} {σ σ' : L2.St} {v vx vy : V} {d : D} {x y z : DV} {t : Nat} {ds as bs : List D} {p : List Nat} {i j n : Nat} {En : Ends}
/-! ### targets -/
abbrev GF := IV → DS → Option DS
theorem wipe_set : ∀ {vs : List Nat} {σ : L2.St} {i : Nat} {x : Option V}, i ∈ vs → wipe (σ.set i x) vs = wipe σ vs
  | [], _, _, _, h => absurd h (List.not_mem_nil)
  | w :: vs, σ, i, x, h => by
    show (wipe (σ.set i x) vs).set w none = (wipe σ vs).set w none
    by_cases c : i ∈ vs
    · rw [wipe_set c]
    · have e : i = w := (List.mem_cons.mp h).elim id fun z => absurd z c
      subst e
      have out : ∀ (vs : List Nat) (σ : L2.St), i ∉ vs → wipe (σ.set i x) vs = (wipe σ vs).set i x := by
        intro vs
        induction vs with
        | nil => intro σ _; rfl
        | cons a as ih =>
          intro σ hn
          show (wipe (σ.set i x) as).set a none = ((wipe σ as).set a none).set i x
          rw [ih σ (fun z => hn (List.mem_cons_of_mem _ z)), List.set_comm]
          exact fun z => hn (by rw [z]; exact List.mem_cons_self)
      rw [out vs σ c, List.set_set]
def tName (i : Nat) : GF := fun y s => match y with
  | .one y => match stored y i s.sl with
    | some z => if (decide (i < s.sl.length) && !(unl y s).lk.contains i) = true then some { sl := putS s.sl i z, lk := (unl y s).lk } else none
    | none => none
  | .many _ => none
theorem gc_name (hio : i ∉ W.2.2) : GC W (gName i) (tName i) [i] := by
  intro B s F σ H u y s2 I h Q q
  cases y with
  | many => cases h
  | one y =>
    have h : (match stored y i s.sl with
      | some z => if (decide (i < s.sl.length) && !(unl y s).lk.contains i) = true then some { sl := putS s.sl i z, lk := (unl y s).lk } else none
      | none => none) = some s2 := h
    cases e : stored y i s.sl with
    | none => simp only [e] at h; cases h
    | some z =>
      simp only [e] at h
      by_cases c : (decide (i < s.sl.length) && !(unl y s).lk.contains i) = true
      · rw [if_pos c] at h
        cases h
        exact q _ (SI.put I hio c e) fun vs hv => wipe_set (hv i (by simp))
      · rw [if_neg c] at h; cases h
def tAll : List GF → List DV → DS → Option DS
  | [], [], s => some s
  | t :: ts, y :: ys, s => match t (.one y) s with
    | some s1 => tAll ts ys s1
    | none => none
  | _, _, _ => none
def partD (d : D) : Option (List D) := match d with
  | .tup ds => some ds
  | _ => none
def bwd (d : D) : DV := if d.flat = true then .dat 0 d else .brw d
def tTup (ts : List GF) : GF := fun y s => match y with
  | .many ys => tAll ts ys s
  | .one (.dat _ d) => match partD d with
    | some ds => tAll ts (ds.map (.dat 0)) s
    | none => none
  | .one (.brw d) => match partD d with
    | some ds => tAll ts (ds.map bwd) s
    | none => none
  | .one (.plc _ _ _) => none
def GCs (W : Wd) (g : TGs) (ts : List GF) (wr : List Nat) : Prop := ∀ B s F σ H us ys s2, us.length = ys.length → SI W B s (ys.zip us ++ F) σ H → tAll ts ys s = some s2 → ∀ Q : L2.St → Hp → Prop, (∀ σ2, SI W B s2 F σ2 H → SameBy wr σ σ2 → Q σ2 H) → g us σ H Q
theorem gcs_nil : GCs W gNil [] [] := by
  intro B s F σ H us ys s2 hl I h Q q
  cases ys with
  | cons => cases h
  | nil =>
    cases h
    exact ⟨List.length_eq_zero_iff.mp hl, q _ I fun _ _ => rfl⟩
theorem gcs_cons {g : TG} {gs : TGs} {t : GF} {ts : List GF} {w1 w2 : List Nat} (h1 : GC W g t w1) (h2 : GCs W gs ts w2) : GCs W (gCons g gs) (t :: ts) (w1 ++ w2) := by
  intro B s F σ H us ys s2 hl I h Q q
  cases ys with
  | nil => cases h
  | cons y ys =>
    cases us with
    | nil => cases hl
    | cons u us =>
      have h : (match t (.one y) s with
        | some s1 => tAll ts ys s1
        | none => none) = some s2 := h
      cases e : t (.one y) s with
      | none => simp only [e] at h; cases h
      | some s1 =>
        simp only [e] at h
        refine ⟨u, us, rfl, h1 B s (ys.zip us ++ F) σ H u (.one y) s1 I e _ fun σ2 I2 e1 => ?_⟩
        exact h2 B s1 F σ2 H us ys s2 (by simpa using hl) I2 h Q fun σ3 I3 e2 => q σ3 I3 fun vs hv => (e2 vs fun i hi => hv i (List.mem_append_right _ hi)).trans (e1 vs fun i hi => hv i (List.mem_append_left _ hi))
theorem SIw.pushAll (I : SIw W ℓ H B s F σ) : ∀ {ys : List DV} {us : List V}, us.length = ys.length → (∀ (k : Nat) (u : V) (y : DV), us[k]? = some u → ys[k]? = some y → y.root? = none ∧ ∀ t, TmR W ℓ H s.sl σ t y u) → SIw W ℓ H B s (ys.zip us ++ F) σ
  | [], us, hl, _ => by
    obtain rfl := List.length_eq_zero_iff.mp hl
    exact I
  | y :: ys, [], hl, _ => by cases hl
  | y :: ys, u :: us, hl, h => by
    obtain ⟨h1, h2⟩ := h 0 u y rfl rfl
    exact (SIw.pushAll I (by simpa using hl) fun k u' y' a b => h (k + 1) u' y' (by simpa using a) (by simpa using b)).push (h2 _) h1
theorem SI.spread {m : Md} {u : V} (I : SIw W ℓ H B s F σ) (hm : m = .fz ∨ m = .bw) (r : Rep W ℓ H m u (.tup ds)) {f : D → DV} (hf : (m = .fz ∧ f = .dat 0) ∨ (m = .bw ∧ f = bwd)) : ∃ a us, u = .ref a ∧ SqT W.1 H a us ∧ us.length = (ds.map f).length ∧ SI W B s ((ds.map f).zip us ++ F) σ H := by
  cases r with
  | tup y1 y2 y3 =>
    refine ⟨_, _, rfl, y1.sqT, by simp [y2], ℓ, I.pushAll (by simp [y2]) fun k u y a b => ?_⟩
    rw [List.getElem?_map] at b
    obtain ⟨c, b1, b2⟩ := Option.map_eq_some_iff.mp b
    have r := y3 k u c a b1
    rcases hf with ⟨rfl, rfl⟩ | ⟨rfl, rfl⟩
    · subst b2
      exact ⟨rfl, fun t => Rep.own0.mpr r⟩
    · subst b2
      unfold bwd
      by_cases q : c.flat = true
      · rw [if_pos q]; exact ⟨rfl, fun t => Rep.own0.mpr (r.flat q)⟩
      · rw [if_neg q]; exact ⟨rfl, fun t => r⟩
theorem tAll_len : ∀ {ts : List GF} {ys : List DV} {s s2 : DS}, tAll ts ys s = some s2 → ys.length = ts.length
  | [], [], _, _, _ => rfl
  | t :: ts, y :: ys, s, s2, h => by
    have h : (match t (.one y) s with
        | some s1 => tAll ts ys s1
        | none => none) = some s2 := h
    cases e : t (.one y) s with
    | none => simp only [e] at h; cases h
    | some s1 => simp only [e] at h; simp [tAll_len h]
  | [], _ :: _, _, _, h => by cases h
  | _ :: _, [], _, _, h => by cases h
theorem partD_iff {d : D} (h : partD d = some ds) : d = .tup ds := by
  cases d with
  | tup => cases h; rfl
  | _ => cases h
theorem gc_tup {gs : TGs} {ts : List GF} {n : Nat} {wr : List Nat} (hs : GCs W gs ts wr) (hn : ts.length = n) : GC W (gTup W.1 n gs) (tTup ts) wr := by
  intro B s F σ H u y s2 I h Q q
  have fin : ∀ {ys : List DV}, (∃ a us, u = .ref a ∧ SqT W.1 H a us ∧ us.length = ys.length ∧ SI W B s (ys.zip us ++ F) σ H) → tAll ts ys s = some s2 → gTup W.1 n gs u σ H Q := by
    rintro ys ⟨a, us, rfl, hq, hl, I⟩ h
    exact ⟨a, us, rfl, hq, by rw [hl, tAll_len h, hn], hs B s F σ H us ys s2 hl I h Q q⟩
  cases y with
  | many ys => exact fin I h
  | one y =>
    cases y with
    | plc => cases h
    | dat k d =>
      have h : (match partD d with
        | some ds => tAll ts (ds.map (.dat 0)) s
        | none => none) = some s2 := h
      cases e : partD d with
      | none => simp only [e] at h; cases h
      | some ds =>
        simp only [e] at h
        obtain rfl := partD_iff e
        obtain ⟨ℓ, I⟩ := I
        have J := I.downT (n' := 0) (Nat.zero_le _)
        have r := Rep.own0.mp (show Rep W _ H (.own (.tmp F.length) [] 0) u _ from J.temps.1)
        exact fin (SI.spread J.drop (.inl rfl) r (.inl ⟨rfl, rfl⟩)) h
    | brw d =>
      have h : (match partD d with
        | some ds => tAll ts (ds.map bwd) s
        | none => none) = some s2 := h
      cases e : partD d with
      | none => simp only [e] at h; cases h
      | some ds =>
        simp only [e] at h
        obtain rfl := partD_iff e
        obtain ⟨ℓ, I⟩ := I
        exact fin (SI.spread I.drop (.inr rfl) (show Rep W ℓ H .bw u _ from I.temps.1) (.inr ⟨rfl, rfl⟩)) h
end
section
variable {X : Cx} {XW : WXI} {tg iter : Expr} {i : Nat} {pos : Pos}
theorem pgd_name {x : Str} (hN : X.N.Nodup) (hi : X.N[i]? = some x) (hx : Loc X.env.scope x) (hio : i ∉ XW.2) (hf : X.fn x = true ∨ X.env.scope.names.lookup x = some .local := by first | exact .inl rfl | exact .inr rfl | assumption) : PGd X XW (.Name x pos) (gName i) (tName i) [i] :=
  ⟨pg_name hN hi hx hf, gc_name hio⟩
structure PGsd (X : Cx) (XW : WXI) (tgs : List Expr) (g : TGs) (ts : List GF) (wr : List Nat) : Prop where
  p : PGs X tgs g
  c : GCs (Wx X XW) g ts wr
theorem pgsd_nil : PGsd X XW [] gNil [] [] := ⟨pgs_nil, gcs_nil⟩
theorem pgsd_cons {e : Expr} {es : List Expr} {t : GF} {ts : List GF} {g : TG} {gs : TGs} {w1 w2 : List Nat} (h1 : PGd X XW e g t w1) (h2 : PGsd X XW es gs ts w2) (hs : (assignEach (e :: es) X.env).map (·.2) = assign e X.env :: (assignEach es X.env).map (·.2) := by rfl) : PGsd X XW (e :: es) (gCons g gs) (t :: ts) (w1 ++ w2) := ⟨pgs_cons h1.p h2.p hs, gcs_cons h1.c h2.c⟩
theorem pgd_tup {es : List Expr} {k : Nat} {ts : List GF} {gs : TGs} {wr : List Nat} (hc : X.calm = true) (h : PGsd X XW es gs ts wr) (hn : (assignEach es X.env).length = ts.length := by rfl) (hst : (assignEach es X.env).findIdx? (·.1) = none := by rfl) : PGd X XW (.Tuple es k pos) (gTup X.K ts.length gs) (tTup ts) wr := ⟨pg_tup (n := ts.length) hc h.p hn hst, gc_tup h.c rfl⟩
/-- target = e, by a target that is no plain name -/
def sAsgT (t : GF) (f : EF) : SF := fun s => match f s with
  | .ok x s1 => match t (.one x) s1 with
    | some s2 => .nx s2
    | none => .no
  | .ex C pl s1 => .ex C pl s1
  | .no => .no
theorem psd_asg {e : Expr} {f : EF} {g : TG} {t : GF} {wr : List Nat} (he : PEd X XW e f) (hg : PGd X XW tg g t wr) (hs : swapsWithSole [tg] e pos.line X.env = pure false := by rfl) (hw : swappedStores [tg] e X.env = pure none := by rfl)
    (h1 : (assignEach [tg] X.env).map (·.2) = [assign tg X.env] := by rfl) : PSd X XW (.Assign [tg] e pos) (sAsgT t f) := by
  have g2 := hg.c
  refine ⟨PS.imp (ps_asg he.p hg.p hs hw h1) fun D σ H h => ?_⟩
  obtain ⟨B, s, F, I, h⟩ := h
  refine ⟨B, s, F, I, ?_⟩
  unfold sAsgT at h
  cases e : f s with
  | no => simp only [e] at h; exact h
  | ex C pl s1 => simp only [e] at h; exact fun cls dd H' => h cls dd σ H'
  | ok x s1 =>
    simp only [e] at h
    intro v H1 I1
    cases e2 : t (.one x) s1 with
    | none => simp only [e2] at h; exact h.elim
    | some s2 =>
      simp only [e2] at h
      exact g2 B s1 F σ H1 v (.one x) s2 I1 e2 _ fun σ2 I2 _ => h σ2 H1 I2
end

/-! ### for -/
def forGo (itm : Nat → DS → Option (IV × DS)) (tgt : GF) (body : SF) (x : DV) : Nat → Nat → DS → SO
  | 0, _, s => .nx (unl x s)
  | m + 1, i, s => match itm i s with
    | none => .no
    | some (y, s1) => match tgt y s1 with
      | none => .no
      | some s2 => match body s2 with
        | .nx s3 => forGo itm tgt body x m (i + 1) s3
        | .ct s3 => forGo itm tgt body x m (i + 1) s3
        | .bk s3 => .nx (unl x s3)
        | .rt z s3 => .rt z (unl2 z x s3)
        | .ex C pl s3 => .ex C pl (unl x s3)
        | .no => .no
def sFor (it : IF) (tgt : GF) (body : SF) : SF := fun s => match it s with
  | .ok x n itm s1 => forGo itm tgt body x n 0 s1
  | .ex C pl s1 => .ex C pl s1
  | .no => .no
section
variable {W : Wd} {XW : WX} {H : Hp} {σ : L2.St} {En : Ends}
theorem tFor_ {it : IF} {g : TG} {tgt : GF} {body : SF} {wr : List Nat} (hg : GC W g tgt wr) (h : tDS W XW (sFor it tgt body) En σ H) : tFor (tDI W XW it) g (tDS W XW body) En σ H := by
  obtain ⟨B, s, F, I, h⟩ := h
  refine ⟨B, s, F, I, ?_⟩
  unfold sFor at h
  cases e : it s with
  | no => simp only [e] at h; exact h
  | ex C pl s1 => simp only [e] at h; exact fun cls dd H' => h cls dd σ H'
  | ok x n itm s1 =>
    simp only [e] at h
    intro J v H1 I1 hJ
    refine ⟨fun i m σ H => m = n - i ∧ i ≤ n ∧ ∃ s, SI W B s ((x, v) :: F) σ H ∧ SC W XW B F En (forGo itm tgt body x (n - i) i s), ⟨n, by simp, Nat.zero_le _, s1, I1, h⟩, ?_⟩
    rintro i m σ2 H2 ⟨rfl, hi, s2, I2, h2⟩
    obtain ⟨j1, j2⟩ := hJ i B s2 F σ2 H2 I2
    by_cases c : n ≤ i
    · have e0 : n - i = 0 := by omega
      rw [e0] at h2
      exact .inl ⟨j1 c, h2 σ2 H2 I2.drop⟩
    · have hlt : i < n := by omega
      obtain ⟨k1, k2⟩ := j2 hlt
      have e1 : n - i = (n - (i + 1)) + 1 := by omega
      rw [e1] at h2
      unfold forGo at h2
      cases e2 : itm i s2 with
      | none => simp only [e2] at h2; exact h2.elim
      | some ys =>
        obtain ⟨y, s3⟩ := ys
        simp only [e2] at h2
        cases e3 : tgt y s3 with
        | none => simp only [e3] at h2; exact h2.elim
        | some s4 =>
          simp only [e3] at h2
          refine .inr ⟨k1, fun σ' H' => ∃ s, SI W B s ((x, v) :: F) σ' H' ∧ SC W XW B F En (forGo itm tgt body x (n - (i + 1)) (i + 1) s), fun σ' H' q => ⟨n - (i + 1), by omega, rfl, by omega, q⟩, fun u H' hy => ?_⟩
          refine hg B s3 ((x, v) :: F) σ2 H' u y s4 (k2 u H' y s3 hy e2) e3 _ fun σ3 I4 _ => ⟨B, s4, (x, v) :: F, I4, ?_⟩
          cases e4 : body s4 with
          | no => simp only [e4] at h2; exact h2
          | nx s5 => simp only [e4] at h2; exact fun σ5 H5 I5 => ⟨s5, I5, h2⟩
          | ct s5 => simp only [e4] at h2; exact fun σ5 H5 I5 => ⟨s5, I5, h2⟩
          | bk s5 => simp only [e4] at h2; exact fun σ5 H5 I5 => h2 σ5 H5 I5.drop
          | rt z s5 => simp only [e4] at h2; exact fun w σ5 H5 I5 => h2 w σ5 H5 I5.drop2
          | ex C pl s5 => simp only [e4] at h2; exact fun cls dd σ5 H5 I5 => h2 cls dd σ5 H5 I5.drop

/-! ### while -/
def whGo (c : TF) (body : SF) : Nat → DS → SO
  | 0, _ => .no
  | m + 1, s => match c s with
    | .ok true s1 => match body s1 with
      | .nx s2 => whGo c body m s2
      | .ct s2 => whGo c body m s2
      | .bk s2 => .nx s2
      | r => r
    | .ok false s1 => .nx s1
    | .ex C pl s1 => .ex C pl s1
    | .no => .no
theorem whGo_mono {c : TF} {body : SF} : ∀ {m k : Nat} {s : DS} {r : SO}, whGo c body m s = r → r ≠ .no → m ≤ k → whGo c body k s = r
  | 0, k, s, r, h, hr, _ => absurd h.symm hr
  | m + 1, 0, s, r, _, _, hk => absurd hk (Nat.not_succ_le_zero _)
  | m + 1, k + 1, s, r, h, hr, hk => by
    have hk := Nat.le_of_succ_le_succ hk
    unfold whGo at h ⊢
    cases e : c s with
    | no => simp only [e] at h ⊢; exact h
    | ex C pl s1 => simp only [e] at h ⊢; exact h
    | ok b s1 =>
      cases b with
      | false => simp only [e] at h ⊢; exact h
      | true =>
        simp only [e] at h ⊢
        cases e2 : body s1 with
        | nx s2 => simp only [e2] at h ⊢; exact whGo_mono h hr hk
        | ct s2 => simp only [e2] at h ⊢; exact whGo_mono h hr hk
        | _ => simp only [e2] at h ⊢; exact h
open Classical in
noncomputable def sWhile (c : TF) (body : SF) : SF := fun s => if h : ∃ m, whGo c body m s ≠ .no then whGo c body h.choose s else .no
theorem sWhile_of {c : TF} {body : SF} {m : Nat} {s : DS} {r : SO} (h : whGo c body m s = r) (hr : r ≠ .no) : sWhile c body s = r := by
  have hx : ∃ m, whGo c body m s ≠ .no := ⟨m, by rw [h]; exact hr⟩
  unfold sWhile
  rw [dif_pos hx]
  have h2 := hx.choose_spec
  rcases Nat.le_total m hx.choose with l | l
  · exact whGo_mono h hr l
  · exact (whGo_mono rfl h2 l).symm.trans h
theorem tWhile_ {c : TF} {body : SF} (h : tDS W XW (sWhile c body) En σ H) : tWhile (tDB W XW c) (tDS W XW body) En σ H := by
  obtain ⟨B, s, F, I, h⟩ := h
  refine ⟨fun m σ H => ∃ s, SI W B s F σ H ∧ SC W XW B F En (whGo c body m s), ?_, ?_⟩
  · unfold sWhile at h
    split at h
    · rename_i hx
      exact ⟨_, s, I, h⟩
    · exact h.elim
  · rintro m σ1 H1 ⟨s1, I1, h1⟩
    refine ⟨B, s1, F, I1, ?_⟩
    cases m with
    | zero => exact h1.elim
    | succ m =>
      unfold whGo at h1
      cases e : c s1 with
      | no => simp only [e] at h1; exact h1
      | ex C pl s2 => simp only [e] at h1; exact fun cls dd H' => h1 cls dd σ1 H'
      | ok b s2 =>
        intro H2 I2
        cases b with
        | false =>
          simp only [e] at h1
          rw [if_neg Bool.false_ne_true]
          exact h1 σ1 H2 I2
        | true =>
          simp only [e] at h1
          rw [if_pos rfl]
          refine ⟨fun σ' H' => ∃ s, SI W B s F σ' H' ∧ SC W XW B F En (whGo c body m s), fun σ' H' q => ⟨m, Nat.lt_succ_self _, q⟩, B, s2, F, I2, ?_⟩
          cases e4 : body s2 with
          | no => simp only [e4] at h1; exact h1
          | nx s5 => simp only [e4] at h1; exact fun σ5 H5 I5 => ⟨s5, I5, h1⟩
          | ct s5 => simp only [e4] at h1; exact fun σ5 H5 I5 => ⟨s5, I5, h1⟩
          | bk s5 => simp only [e4] at h1; exact fun σ5 H5 I5 => h1 σ5 H5 I5
          | rt z s5 => simp only [e4] at h1; exact fun w σ5 H5 I5 => h1 w σ5 H5 I5
          | ex C pl s5 => simp only [e4] at h1; exact fun cls dd σ5 H5 I5 => h1 cls dd σ5 H5 I5
end
section
variable {X : Cx} {XW : WXI} {tg iter : Expr} {pos : Pos} {body : List Stmt} {f : SF}
theorem psd_for {it : IF} {g : TG} {t : GF} {wr : List Nat} (hp : PassesOwn (model X.prog X.w) X.A X.env X.xe) (hc : X.calm = true) (hi : PId X XW tg iter it) (hg : PGd X XW tg g t wr) (hb : PSsd X XW body f)
    (hs : ∀ x, foldedSetIterable iter X.env x = pure x := by intro _; rfl) : PSd X XW (.For tg iter body [] pos) (sFor it t f) := by
  exact ⟨PS.imp (ps_for hp hc hi.p hg.p hb.p hs) fun _ _ _ h => tFor_ hg.c h⟩
theorem psd_while {c : Expr} {tc : TF} (hp : PassesOwn (model X.prog X.w) X.A X.env X.xe) (hc : PTd X XW c tc) (hb : PSsd X XW body f) : PSd X XW (.While c body [] pos) (sWhile tc f) :=
  ⟨PS.imp (ps_while hp hc.p hb.p) fun _ _ _ h => tWhile_ h⟩
end
end DL

set_option Elab.async false
set_option linter.all false
set_option maxRecDepth 100000
/-! D16: list comprehensions -/
namespace DL
open PySem PySem.Spec PyProof.Rows L2
section
variable {W : Wd} {XW : WX} {ℓ ℓ' : Addr → Lab} {H H' : Hp} {B : Ent} {s s' : DS} {sl : List (Option SV)} {F G : Temps} {σ σ' : L2.St} {v vx vy : V} {d : D} {x y z : DV} {t : Nat} {ds as bs : List D} {p : List Nat} {i j n : Nat} {En : Ends}
/-! ### names forgotten -/
def clr (sl : List (Option SV)) (i : Nat) : List (Option SV) := (sl.map (killX i)).set i none
def clrs (sl : List (Option SV)) : List Nat → List (Option SV)
  | [] => sl
  | i :: vs => clrs (clr sl i) vs
theorem clr_len : (clr sl i).length = sl.length := by unfold clr; simp
theorem clr_some {k : Nat} {z : SV} (h : (clr sl i)[k]? = some (some z)) : k ≠ i ∧ sl[k]? = some (some z) ∧ ∀ p, z ≠ .als i p := by
  unfold clr at h
  have hk : k ≠ i := by
    intro e
    subst e
    rw [List.getElem?_set] at h
    simp at h
  rw [set_other hk, List.getElem?_map] at h
  obtain ⟨z0, e0, e1⟩ := Option.map_eq_some_iff.mp h
  refine ⟨hk, ?_⟩
  cases z0 with
  | none => cases e1
  | some z0 =>
    cases z0 with
    | dat => cases e1; exact ⟨e0, fun _ z => nomatch z⟩
    | brw => cases e1; exact ⟨e0, fun _ z => nomatch z⟩
    | als j p =>
      have e1 : (if j = i then none else some (SV.als j p)) = some z := e1
      by_cases c : j = i
      · rw [if_pos c] at e1; cases e1
      · rw [if_neg c] at e1; cases e1
        exact ⟨e0, fun q e => by cases e; exact c rfl⟩
theorem clr_dat {k n : Nat} {e : D} (h : k ≠ i) (h2 : sl[k]? = some (some (.dat n e))) : (clr sl i)[k]? = some (some (.dat n e)) := by
  unfold clr
  rw [set_other h, List.getElem?_map, h2]
  rfl
theorem owned_clr (h : j ≠ i) : owned (clr sl i) j p = owned sl j p := by
  have : ∀ n e, (clr sl i)[j]? = some (some (.dat n e)) ↔ sl[j]? = some (some (.dat n e)) := fun n e => ⟨fun z => (clr_some z).2.1, clr_dat h⟩
  cases o : owned sl j p with
  | true =>
    obtain ⟨n, dj, e, hp⟩ := owned_iff.mp o
    exact owned_iff.mpr ⟨n, dj, (this n dj).mpr e, hp⟩
  | false =>
    cases o2 : owned (clr sl i) j p with
    | false => rfl
    | true =>
      obtain ⟨n, dj, e, hp⟩ := owned_iff.mp o2
      rw [owned_iff.mpr ⟨n, dj, (this n dj).mp e, hp⟩] at o; cases o
theorem PlR.clr (h : PlR H sl σ j p v d) (hj : j ≠ i) : PlR H (clr sl i) σ j p v d := by
  obtain ⟨n, dj, vj, h1, h2, h3, h4, h5, h6⟩ := h
  exact ⟨n, dj, vj, clr_dat hj h1, h2, h3, h4, h5, h6⟩
theorem TmRs.clr : ∀ {F : Temps}, TmRs W ℓ H sl σ F → i ∉ roots F → TmRs W ℓ H (clr sl i) σ F
  | [], _, _ => trivial
  | (x, v) :: F, h, hi => by
    have e : roots ((x, v) :: F) = (match x.root? with | some j => j :: roots F | none => roots F) := by
      unfold roots
      rw [List.filterMap_cons]
      cases x.root? <;> rfl
    cases x with
    | dat n d => exact ⟨h.1, TmRs.clr h.2 (by rw [e] at hi; exact hi)⟩
    | brw d => exact ⟨h.1, TmRs.clr h.2 (by rw [e] at hi; exact hi)⟩
    | plc j p d =>
      rw [e] at hi
      have hi : i ∉ j :: roots F := hi
      have hj : j ≠ i := fun z => hi (by rw [z]; exact List.mem_cons_self)
      refine ⟨?_, TmRs.clr h.2 fun z => hi (List.mem_cons_of_mem _ z)⟩
      have T : if owned sl j p = true then PlR H sl σ j p v d else Rep W ℓ H .fz v d := h.1
      show if owned (DL.clr sl i) j p = true then PlR H (DL.clr sl i) σ j p v d else Rep W ℓ H .fz v d
      rw [owned_clr hj]
      by_cases o : owned sl j p = true
      · rw [if_pos o] at T ⊢; exact T.clr hj
      · rw [if_neg o] at T ⊢; exact T
theorem SIw.clr (I : SIw W ℓ H B s F σ) (hi : i ∉ roots F) : SIw W ℓ H B { s with sl := clr s.sl i } F σ where
  len := by show (DL.clr s.sl i).length = _; rw [clr_len]; exact I.len
  lab := I.lab
  prot := I.prot
  bw := I.bw
  keep := I.keep
  ios := I.ios
  lks := I.lks
  slots := fun k z e => by
    obtain ⟨hk, e1, e2⟩ := clr_some e
    obtain ⟨v, a1, a2⟩ := I.slots k z e1
    refine ⟨v, a1, ?_⟩
    cases z with
    | dat => exact a2
    | brw => exact a2
    | als j q =>
      obtain ⟨d, a2⟩ := a2
      exact ⟨d, a2.clr fun z => e2 q (by rw [z])⟩
  temps := I.temps.clr hi
theorem SIw.clrs : ∀ {vs : List Nat} {s : DS}, SIw W ℓ H B s F σ → (∀ i ∈ vs, i ∉ roots F) → SIw W ℓ H B { s with sl := clrs s.sl vs } F σ
  | [], s, I, _ => I
  | i :: vs, s, I, h => SIw.clrs (vs := vs) (s := { s with sl := DL.clr s.sl i }) (I.clr (h i List.mem_cons_self)) fun k hk => h k (List.mem_cons_of_mem _ hk)
theorem clrs_keep : ∀ {vs : List Nat} {sl : List (Option SV)} {k : Nat} {z : SV}, (clrs sl vs)[k]? = some (some z) → k ∉ vs ∧ sl[k]? = some (some z)
  | [], _, _, _, h => ⟨by simp, h⟩
  | i :: vs, sl, k, z, h => by
    obtain ⟨h1, h2⟩ := clrs_keep (vs := vs) (sl := clr sl i) h
    obtain ⟨h3, h4, _⟩ := clr_some h2
    exact ⟨fun m => (List.mem_cons.mp m).elim h3 h1, h4⟩
/-- other slots, the known ones the same -/
theorem TmRs.st : ∀ {F : Temps}, TmRs W ℓ H sl σ F → (∀ (i : Nat) (x : SV), sl[i]? = some (some x) → σ'[i]? = σ[i]?) → TmRs W ℓ H sl σ' F
  | [], _, _ => trivial
  | (x, v) :: F, h, k => by
    refine ⟨?_, TmRs.st h.2 k⟩
    cases x with
    | dat n d => exact h.1
    | brw d => exact h.1
    | plc j p d =>
      have T : if owned sl j p = true then PlR H sl σ j p v d else Rep W ℓ H .fz v d := h.1
      show if owned sl j p = true then PlR H sl σ' j p v d else Rep W ℓ H .fz v d
      by_cases o : owned sl j p = true
      · rw [if_pos o] at T ⊢
        obtain ⟨n, dj, vj, h1, h2, h3, h4, h5, h6⟩ := T
        exact ⟨n, dj, vj, h1, h2, (k _ _ h1).trans h3, h4, h5, h6⟩
      · rw [if_neg o] at T ⊢; exact T
theorem SIw.st (I : SIw W ℓ H B s F σ) (hl : σ'.length = σ.length) (k : ∀ (i : Nat) (x : SV), s.sl[i]? = some (some x) → σ'[i]? = σ[i]?) (hio : ∀ k ∈ W.2.2, σ'[k]? = σ[k]?) : SIw W ℓ H B s F σ' where
  len := I.len.trans hl.symm
  lab := I.lab
  prot := I.prot
  bw := I.bw
  keep := I.keep
  ios := fun i hi => (hio i hi).trans (I.ios i hi)
  lks := I.lks
  slots := fun i x e => by
    obtain ⟨v, a1, a2⟩ := I.slots i x e
    refine ⟨v, (k i x e).trans a1, ?_⟩
    cases x with
    | dat => exact a2
    | brw => exact a2
    | als j q =>
      obtain ⟨d, n, dj, vj, h1, h2, h3, h4, h5, h6⟩ := a2
      exact ⟨d, n, dj, vj, h1, h2, (k _ _ h1).trans h3, h4, h5, h6⟩
  temps := I.temps.st k
def blkS (vs : List Nat) (s : DS) : Option DS := if vs.any (fun i => s.lk.contains i) = true then none else some { s with sl := clrs s.sl vs }
def Clear (vs : List Nat) (s : DS) : Prop := ∀ i ∈ vs, ∀ x, s.sl[i]? ≠ some (some x)
theorem SI.blk {vs : List Nat} (I : SI W B s F σ H) (h : blkS vs s = some s') (hio : ∀ i ∈ vs, i ∉ W.2.2) (e : wipe σ vs = wipe σ' vs) : SI W B s' F (wipe σ' vs) H ∧ Clear vs s' := by
  obtain ⟨ℓ, I⟩ := I
  unfold blkS at h
  split at h
  · cases h
  · rename_i c
    cases h
    have hr : ∀ i ∈ vs, i ∉ roots F := fun i hi m => c (List.any_eq_true.mpr ⟨i, hi, by rw [← I.lks] at m; simpa using m⟩)
    refine ⟨⟨ℓ, (I.clrs hr).st ?_ (fun i x z => ?_) fun k hk => ?_⟩, fun i hi x z => (clrs_keep z).1 hi⟩
    · rw [← e, wipe_length]
    · rw [← e]; exact wipe_out (clrs_keep z).1
    · rw [← e]; exact wipe_out fun m => hio k m hk
theorem SI.unblk {vs : List Nat} (I : SI W B s F (wipe σ vs) H) (hc : Clear vs s) (hio : ∀ i ∈ vs, i ∉ W.2.2) : SI W B s F σ H := by
  obtain ⟨ℓ, I⟩ := I
  refine ⟨ℓ, I.st (wipe_length _ _).symm (fun i x z => (wipe_out fun m => hc i m x z).symm) fun k hk => (wipe_out fun m => hio k m hk).symm⟩

/-! ### the new list, below some temps -/
def Plain (G : Temps) : Prop := ∀ x ∈ G, isPlain x.1 = true
theorem roots_app : roots (G ++ F) = roots G ++ roots F := by unfold roots; rw [List.filterMap_append]
theorem TmRs.insert {e : DV × V} : ∀ {G : Temps}, Plain G → TmRs W ℓ H sl σ (G ++ F) → TmR W ℓ H sl σ F.length e.1 e.2 → TmRs W ℓ H sl σ (G ++ e :: F)
  | [], _, h, he => ⟨he, h⟩
  | (x, v) :: G, hp, h, he => ⟨TmR.any h.1 (hp _ List.mem_cons_self), TmRs.insert (fun a m => hp a (List.mem_cons_of_mem _ m)) h.2 he⟩
theorem TmRs.relG {F' : Temps} : ∀ {G : Temps}, Plain G → TmRs W ℓ H sl σ (G ++ F') → (∀ a, (ℓ a = .fz ∨ ℓ a = .bw ∨ ∃ i q, ℓ a = .own (.slot i) q) → H' a = H a ∧ ℓ' a = ℓ a) → (∀ i x, sl[i]? = some (some x) → ∃ v, σ[i]? = some (some v) ∧ SlR W ℓ H sl σ i x v) → TmRs W ℓ' H' sl σ F → TmRs W ℓ' H' sl σ (G ++ F)
  | [], _, _, _, _, h2 => h2
  | (x, v) :: G, hp, h, k, hs, h2 => by
    refine ⟨?_, TmRs.relG (fun a m => hp a (List.mem_cons_of_mem _ m)) h.2 k hs h2⟩
    have hx := hp (x, v) List.mem_cons_self
    have T := h.1
    cases x with
    | dat n d =>
      cases n with
      | succ => cases hx
      | zero => exact Rep.own0.mpr ((Rep.own0.mp T).fz fun a c => by obtain ⟨k1, k2⟩ := k a (.inl c); exact ⟨k1, k2.trans c⟩)
    | brw d =>
      refine Rep.frame (show Rep W ℓ H .bw v d from T) fun a c => k a ?_
      rcases c with c | ⟨_, c⟩ | c
      · exact .inl c
      · exact .inr (.inl c)
      · exact c.elim
    | plc j p d =>
      have T : if owned sl j p = true then PlR H sl σ j p v d else Rep W ℓ H .fz v d := T
      show if owned sl j p = true then PlR H' sl σ j p v d else Rep W ℓ' H' .fz v d
      by_cases o : owned sl j p = true
      · rw [if_pos o] at T ⊢
        obtain ⟨n, dj, vj, h1, h2, h3, h4, h5, h6⟩ := T
        obtain ⟨v', e1, e2⟩ := hs j _ h1
        rw [h3] at e1; cases e1
        refine ⟨n, dj, vj, h1, h2, h3, h4.frame e2 (Nat.le_of_lt h2) (by rw [h5]; rfl) fun a q _ _ e => (k a (.inr (.inr ⟨j, q, by simpa using e⟩))).1, h5, h6⟩
      · rw [if_neg o] at T ⊢
        exact T.fz fun a c => by obtain ⟨k1, k2⟩ := k a (.inl c); exact ⟨k1, k2.trans c⟩
/-- a new list below the plain temps G -/
theorem SIw.acc0 {a : Addr} (I : SIw W ℓ H B s (G ++ F) σ) (hG : Plain G) (h : H a = none) : SIw W (labUpd ℓ a (.own (.tmp F.length) [])) (upd H a (.lst [])) B s (G ++ (.dat 1000 (.lst []), .ref a) :: F) σ := by
  have J := I.alloc (o := .lst []) (l := .own (.tmp F.length) []) h (by simp)
  refine { J with lks := ?_, temps := TmRs.insert hG J.temps ?_ }
  · rw [J.lks, roots_app, roots_app]
    rfl
  · refine Rep.lst (ds := []) (vs := []) (.inl ⟨labUpd_same, upd_same⟩) rfl fun k v d a1 => by simp at a1
def accK (k n : Nat) (d : D) : Nat := if d.flat = true then k else min k (n + 1)
def labAcc (ℓ : Addr → Lab) (t u k m : Nat) : Addr → Lab := fun a => match ℓ a with
  | .own (.tmp t') q => if t' = u then (if q.length < k - 1 then .own (.tmp t) (m :: q) else .fz) else if t' = t then (if q.length < k then .own (.tmp t) q else .fz) else .own (.tmp t') q
  | l => l
theorem labAcc_keep {u k m : Nat} {a : Addr} (h : ℓ a = .fz ∨ ℓ a = .bw ∨ ∃ i q, ℓ a = .own (.slot i) q) : labAcc ℓ t u k m a = ℓ a := by
  unfold labAcc
  rcases h with h | h | ⟨i, q, h⟩ <;> rw [h]
theorem labAcc_other {u k m : Nat} {a : Addr} {w : Nat} {q : List Nat} (h : ℓ a = .own (.tmp w) q) (h1 : w ≠ u) (h2 : w ≠ t) : labAcc ℓ t u k m a = ℓ a := by
  unfold labAcc
  rw [h]
  show (if w = u then _ else if w = t then _ else _) = _
  rw [if_neg h1, if_neg h2]
theorem labAcc_u {u k m : Nat} {a : Addr} {q : List Nat} (h : ℓ a = .own (.tmp u) q) : labAcc ℓ t u k m a = if q.length < k - 1 then .own (.tmp t) (m :: q) else .fz := by
  unfold labAcc
  rw [h]
  exact if_pos rfl
theorem labAcc_t {u k m : Nat} {a : Addr} {q : List Nat} (h : ℓ a = .own (.tmp t) q) (hu : t ≠ u) : labAcc ℓ t u k m a = if q.length < k then .own (.tmp t) q else .fz := by
  unfold labAcc
  rw [h]
  show (if t = u then _ else if t = t then _ else _) = _
  rw [if_neg hu, if_pos rfl]
theorem labAcc_bw {u k m : Nat} {a : Addr} (h : labAcc ℓ t u k m a = .bw) : ℓ a = .bw := by
  unfold labAcc at h
  cases e : ℓ a with
  | own r q =>
    rw [e] at h
    cases r with
    | slot => cases h
    | tmp w =>
      have h : (if w = u then (if q.length < k - 1 then Lab.own (.tmp t) (m :: q) else .fz) else if w = t then (if q.length < k then .own (.tmp t) q else .fz) else .own (.tmp w) q) = .bw := h
      repeat (split at h <;> try cases h)
  | bw => rfl
  | no => rw [e] at h; exact h
  | fz => rw [e] at h; exact h
theorem labAcc_no {u k m : Nat} {a : Addr} (h : ℓ a = .no) : labAcc ℓ t u k m a = .no := by unfold labAcc; rw [h]
theorem SIw.accA {k : Nat} {y D : V} (I : SIw W ℓ H B s ((.dat n d, y) :: G ++ (.dat k (.lst ds), D) :: F) σ) (hG : Plain G) (hk : 1 ≤ k) : ∃ a vs, D = .ref a ∧ H a = some (.lst vs) ∧ vs.length = ds.length ∧
    SI W B s (G ++ (.dat (accK k n d) (.lst (ds ++ [d])), D) :: F) σ (upd H a (.lst (vs ++ [y]))) ∧ 1 ≤ accK k n d := by
  have hk' : 1 ≤ accK k n d := by unfold accK; split <;> omega
  have hle : accK k n d ≤ k := by unfold accK; split <;> omega
  -- what the list is
  have tm : TmRs W ℓ H s.sl σ (G ++ (.dat k (.lst ds), D) :: F) := I.temps.2
  have under : ∀ {G : Temps}, TmRs W ℓ H s.sl σ (G ++ (.dat k (.lst ds), D) :: F) → TmRs W ℓ H s.sl σ ((.dat k (.lst ds), D) :: F) := by
    intro G
    induction G with
    | nil => exact id
    | cons g G ih => exact fun z => ih z.2
  have ta : Rep W ℓ H (.own (.tmp F.length) [] k) D (.lst ds) := (under tm).1
  have te : Rep W ℓ H (.own (.tmp (G ++ (DV.dat k (.lst ds), D) :: F).length) [] n) y d := I.temps.1
  obtain ⟨k0, hk0⟩ : ∃ k0, k = k0 + 1 := ⟨k - 1, by omega⟩
  generalize hu : (G ++ (DV.dat k (.lst ds), D) :: F).length = u at te
  have hne : F.length ≠ u := by rw [← hu]; simp; omega
  have hlt : F.length < u := by rw [← hu]; simp; omega
  generalize hkk : accK k n d = k' at hk' hle
  cases ta with
  | @lst _ a vs _ y1 y2 y3 =>
    have y1' := y1
    rw [hk0] at y1
    obtain ⟨la, ha⟩ := NA.own y1
    refine ⟨a, vs, rfl, ha, y2, ⟨labAcc ℓ F.length u k' ds.length, ?_⟩, by omega⟩
    have neA : ∀ b, (ℓ b = .fz ∨ ℓ b = .bw ∨ ∃ i q, ℓ b = .own (.slot i) q) → b ≠ a := fun b c z => by
      rw [z, la] at c
      rcases c with c | c | ⟨_, _, c⟩ <;> cases c
    have keepL : ∀ b, (ℓ b = .fz ∨ ℓ b = .bw ∨ ∃ i q, ℓ b = .own (.slot i) q) → upd H a (.lst (vs ++ [y])) b = H b ∧ labAcc ℓ F.length u k' ds.length b = ℓ b := fun b c => ⟨upd_ne (neA b c), labAcc_keep c⟩
    have fzK : ∀ b, ℓ b = .fz → upd H a (.lst (vs ++ [y])) b = H b ∧ labAcc ℓ F.length u k' ds.length b = .fz := fun b c => ⟨(keepL b (.inl c)).1, (keepL b (.inl c)).2.trans c⟩
    refine ⟨I.len, fun b c => ?_, fun b c => ?_, fun b c => I.bw b (labAcc_bw c), fun b c => ?_, I.ios, ?_, fun i z e => ?_, ?_⟩
    · by_cases hb : b = a
      · rw [hb, upd_same]; exact fun z => nomatch z
      · rw [upd_ne hb]; exact I.lab b fun z => c (labAcc_no z)
    · obtain ⟨k1, k2⟩ := I.prot b c
      obtain ⟨k3, k4⟩ := keepL b (by rw [k2]; rcases c with c | c; exact .inl c; exact .inr (.inl c))
      exact ⟨k3.trans k1, k4.trans k2⟩
    · by_cases hb : b = a
      · rw [hb, upd_same]; exact fun z => nomatch z
      · rw [upd_ne hb]; exact I.keep b c
    · have e := I.lks
      rw [e]
      simp [roots, DV.root?]
    · obtain ⟨w, e1, e2⟩ := I.slots i z e
      exact ⟨w, e1, e2.same keepL I.slots⟩
    · -- the temps
      have low : TmRs W (labAcc ℓ F.length u k' ds.length) (upd H a (.lst (vs ++ [y]))) s.sl σ F := by
        refine TmRs.same (under tm).2 (fun b c => ?_) I.slots
        rcases c with c | c | c | ⟨w, q, hw, c⟩
        · exact keepL b (.inl c)
        · exact keepL b (.inr (.inl c))
        · exact keepL b (.inr (.inr c))
        · refine ⟨upd_ne fun z => ?_, labAcc_other c (by omega) (by omega)⟩
          rw [z, la] at c
          cases c
          exact Nat.lt_irrefl _ hw
      have accR : Rep W (labAcc ℓ F.length u k' ds.length) (upd H a (.lst (vs ++ [y]))) (.own (.tmp F.length) [] k') (.ref a) (.lst (ds ++ [d])) := by
        obtain ⟨k1, hk1⟩ : ∃ k1, k' = k1 + 1 := ⟨k' - 1, by omega⟩
        have na : NA W.1 (labAcc ℓ F.length u k' ds.length) (upd H a (.lst (vs ++ [y]))) (.own (.tmp F.length) [] (k1 + 1)) a (.lst (vs ++ [y])) := by
          refine .inl ⟨?_, upd_same⟩
          show labAcc ℓ F.length u k' ds.length a = .own (.tmp F.length) []
          rw [labAcc_t la hne]
          exact if_pos (by show 0 < k'; omega)
        rw [hk1]
        rw [hk1] at na
        refine Rep.lst na (by simp [y2]) fun i w c a1 a2 => ?_
        rw [List.getElem?_append] at a1 a2
        by_cases hi : i < vs.length
        · rw [if_pos hi] at a1
          rw [if_pos (by omega)] at a2
          have r := y3 i w c a1 a2
          rw [hk0] at r
          have r : Rep W ℓ H (.own (.tmp F.length) [i] k0) w c := r
          have := r.relab (n' := k1) (r' := .tmp F.length) (p' := [i]) (ℓ' := labAcc ℓ F.length u k' ds.length) (H' := upd H a (.lst (vs ++ [y]))) (by omega) fzK fun b q e => ⟨upd_ne fun z => (by rw [z, la] at e; cases e), ?_⟩
          · rw [hk1] at this; exact this
          · rw [labAcc_t e hne]
            have : ([i] ++ q).length = q.length + 1 := by simp
            rw [this]
            by_cases hq : q.length < k1
            · rw [if_pos hq, if_pos (by omega)]
            · rw [if_neg hq, if_neg (by omega)]
        · rw [if_neg hi] at a1
          rw [if_neg (by omega)] at a2
          have e1 : i - vs.length = 0 := by
            have : i - vs.length < [y].length := (List.getElem?_eq_some_iff.mp a1).1
            simpa using this
          rw [e1] at a1
          rw [show i - ds.length = 0 by omega] at a2
          cases a1
          cases a2
          have ei : i = ds.length := by omega
          show Rep W _ _ (.own (.tmp F.length) ([] ++ [i]) k1) y d
          by_cases hf : d.flat = true
          · exact te.flat hf
          · have hkn : k' = min k (n + 1) := by rw [← hkk]; unfold accK; rw [if_neg hf]
            have := te.relab (n' := k1) (r' := .tmp F.length) (p' := [i]) (ℓ' := labAcc ℓ F.length u k' ds.length) (H' := upd H a (.lst (vs ++ [y]))) (by omega) fzK fun b q e => ⟨upd_ne fun z => ?_, ?_⟩
            · rw [hk1] at this; exact this
            · rw [z, la] at e
              cases e
              exact hne rfl
            · rw [labAcc_u (show ℓ b = .own (.tmp u) q from e)]
              have : k' - 1 = k1 := by omega
              rw [this, ei]
              rfl
      exact TmRs.relG hG tm keepL I.slots ⟨accR, low⟩

/-! ### one clause -/
theorem wipe_at : ∀ {vs : List Nat} {σ : L2.St} {i : Nat}, i ∈ vs → i < σ.length → (wipe σ vs)[i]? = some none
  | [], _, _, h, _ => absurd h List.not_mem_nil
  | w :: vs, σ, i, h, hl => by
    show ((wipe σ vs).set w none)[i]? = some none
    rw [List.getElem?_set]
    by_cases c : w = i
    · rw [if_pos c, if_pos (by rw [wipe_length, c]; exact hl)]
    · rw [if_neg c]
      exact wipe_at ((List.mem_cons.mp h).elim (fun z => absurd z.symm c) id) hl
theorem wipe_idem {ws vs : List Nat} {σ : L2.St} (h : ∀ i ∈ ws, i ∈ vs) : wipe (wipe σ vs) ws = wipe σ vs := by
  apply List.ext_getElem?
  intro i
  by_cases c : i ∈ ws
  · by_cases l : i < σ.length
    · rw [wipe_at c (by rw [wipe_length]; exact l), wipe_at (h i c) l]
    · rw [List.getElem?_eq_none (by rw [wipe_length, wipe_length]; omega), List.getElem?_eq_none (by rw [wipe_length]; omega)]
  · rw [wipe_out c]

def lcGo (vs : List Nat) (itm : Nat → DS → Option (IV × DS)) (tgt : GF) (tt : TF) (f : EF) (x : DV) : Nat → Nat → Nat → List D → DS → ER
  | 0, _, k, ds, s => .ok (.dat k (.lst ds)) (unl x s)
  | m + 1, i, k, ds, s => match itm i s with
    | none => .no
    | some (y, s1) => match tgt y s1 with
      | none => .no
      | some s2 => match tt s2 with
        | .ok true s3 => match eMv f s3 with
          | .ok (.dat n d) s4 => if ds.length < sizeLine then (match blkS vs s4 with
            | some s5 => lcGo vs itm tgt tt f x m (i + 1) (accK k n d) (ds ++ [d]) s5
            | none => .no) else .no
          | _ => .no
        | .ok false s3 => (match blkS vs s3 with
          | some s5 => lcGo vs itm tgt tt f x m (i + 1) k ds s5
          | none => .no)
        | _ => .no
def eLc (vs : List Nat) (it : IF) (tgt : GF) (tt : TF) (f : EF) : EF := fun s => match it s with
  | .ok x n itm s1 => if isPlain x = true then (match blkS vs s1 with
    | some s2 => lcGo vs itm tgt tt f x n 0 1000 [] s2
    | none => .no) else .no
  | .ex C pl s1 => .ex C pl s1
  | .no => .no
def XW0 : WX := fun _ _ _ _ => False
theorem tLc_ {it : IF} {g : TG} {tgt : GF} {tt : TF} {f : EF} {vs wr : List Nat} {Q : VK} (hg : GC W g tgt wr) (hw : ∀ i ∈ wr, i ∈ vs) (hio : ∀ i ∈ vs, i ∉ W.2.2) (h : tD W XW (eLc vs it tgt tt f) σ H Q) :
    tLc (tDI W XW it) g (tDB W XW0 tt) (tD W XW0 (eMv f)) vs σ H Q := by
  obtain ⟨B, s, F, I, h⟩ := h
  refine ⟨B, s, F, I, ?_⟩
  unfold eLc at h
  cases e : it s with
  | no => simp only [e] at h; exact h
  | ex C pl s1 => simp only [e] at h; exact h
  | ok x n itm s1 =>
    simp only [e] at h
    intro J v H1 I1 hJ
    by_cases hx : isPlain x = true
    · rw [if_pos hx] at h
      cases e1 : blkS vs s1 with
      | none => simp only [e1] at h; exact h.elim
      | some s2 =>
        simp only [e1] at h
        intro D hD
        have hG : Plain [(x, v)] := fun a m => by rw [List.mem_singleton.mp m]; exact hx
        obtain ⟨I2, C2⟩ := I1.blk e1 hio (σ' := σ) rfl
        refine ⟨fun i m H => m = n - i ∧ i ≤ n ∧ ∃ k ds s, 1 ≤ k ∧ SI W B s ([(x, v)] ++ (.dat k (.lst ds), .ref D) :: F) (wipe σ vs) H ∧ Clear vs s ∧ EC W XW B F σ Q (lcGo vs itm tgt tt f x (n - i) i k ds s), ⟨n, by simp, Nat.zero_le _, 1000, [], s2, by omega, ?_, C2, h⟩, ?_⟩
        · obtain ⟨ℓ, I2⟩ := I2
          exact ⟨_, SIw.acc0 (G := [(x, v)]) I2 hG hD⟩
        · rintro i m H2 ⟨rfl, hi, k, ds, s3, hk, I3, C3, h3⟩
          obtain ⟨j1, j2⟩ := hJ i B s3 _ _ H2 I3
          by_cases c : n ≤ i
          · have e0 : n - i = 0 := by omega
            rw [e0] at h3
            have I4 : SI W B (unl x s3) ((.dat k (.lst ds), .ref D) :: F) (wipe σ vs) H2 := SI.drop I3
            exact .inl ⟨j1 c, h3 _ H2 (I4.unblk (by unfold Clear; rw [unl_sl]; exact C3) hio)⟩
          · have hlt : i < n := by omega
            obtain ⟨k1, k2⟩ := j2 hlt
            have e1 : n - i = (n - (i + 1)) + 1 := by omega
            rw [e1] at h3
            unfold lcGo at h3
            cases e2 : itm i s3 with
            | none => simp only [e2] at h3; exact h3.elim
            | some ys =>
              obtain ⟨y, s4⟩ := ys
              simp only [e2] at h3
              cases e3 : tgt y s4 with
              | none => simp only [e3] at h3; exact h3.elim
              | some s5 =>
                simp only [e3] at h3
                refine .inr ⟨k1, fun H => ∃ k ds s, 1 ≤ k ∧ SI W B s ([(x, v)] ++ (.dat k (.lst ds), .ref D) :: F) (wipe σ vs) H ∧ Clear vs s ∧ EC W XW B F σ Q (lcGo vs itm tgt tt f x (n - (i + 1)) (i + 1) k ds s), fun H' q => ⟨n - (i + 1), by omega, rfl, by omega, q⟩, fun u H' hy => ?_⟩
                refine hg B s4 _ _ H' u y s5 (k2 u H' y s4 hy e2) e3 _ fun σ2 I5 sb => ?_
                have ew : wipe σ2 vs = wipe σ vs := (sb vs hw).trans (wipe_idem fun _ h => h)
                refine ⟨ew, B, s5, _, I5, ?_⟩
                cases e4 : tt s5 with
                | no => simp only [e4] at h3; exact h3.elim
                | ex C pl s6 => simp only [e4] at h3; exact h3.elim
                | ok b s6 =>
                  intro H3 I6
                  cases b with
                  | false =>
                    rw [if_neg Bool.false_ne_true]
                    simp only [e4] at h3
                    cases e5 : blkS vs s6 with
                    | none => simp only [e5] at h3; exact h3.elim
                    | some s7 =>
                      simp only [e5] at h3
                      obtain ⟨I7, C7⟩ := I6.blk e5 hio ew
                      exact ⟨k, ds, s7, hk, I7, C7, h3⟩
                  | true =>
                    rw [if_pos rfl]
                    simp only [e4] at h3
                    refine ⟨B, s6, _, I6, ?_⟩
                    cases e6 : eMv f s6 with
                    | no => simp only [e6] at h3; exact h3.elim
                    | ex C pl s7 => simp only [e6] at h3; exact h3.elim
                    | ok w s7 =>
                      cases w with
                      | brw => simp only [e6] at h3; exact h3.elim
                      | plc => simp only [e6] at h3; exact h3.elim
                      | dat nn dd =>
                        simp only [e6] at h3
                        intro yv H4 ⟨ℓ, I7⟩
                        obtain ⟨a, vs', ea, hH, hl, I8, hk8⟩ := SIw.accA (G := [(x, v)]) I7 hG hk
                        cases ea
                        by_cases c8 : ds.length < sizeLine
                        · rw [if_pos c8] at h3
                          refine ⟨vs', hH, by rw [hl]; exact c8, ?_⟩
                          cases e9 : blkS vs s7 with
                          | none => simp only [e9] at h3; exact h3.elim
                          | some s8 =>
                            simp only [e9] at h3
                            obtain ⟨I9, C9⟩ := SI.blk I8 e9 hio ew
                            exact ⟨_, _, s8, hk8, I9, C9, h3⟩
                        · rw [if_neg c8] at h3; exact h3.elim
    · rw [if_neg hx] at h; exact h.elim
end
end DL

set_option Elab.async false
set_option linter.all false
set_option maxRecDepth 100000
/-! D17: list comprehensions as judgements; two clauses -/
namespace DL
open PySem PySem.Spec PyProof.Rows L2
section
variable {W : Wd} {XW : WX} {H : Hp} {B : Ent} {s s' : DS} {F : Temps} {σ : L2.St}
def lcIn (vs : List Nat) (itm : Nat → DS → Option (IV × DS)) (tgt : GF) (tt : TF) (f : EF) (x : DV) : Nat → Nat → Nat → List D → DS → Option (Nat × List D × DS)
  | 0, _, k, ds, s => some (k, ds, unl x s)
  | m + 1, i, k, ds, s => match itm i s with
    | none => none
    | some (y, s1) => match tgt y s1 with
      | none => none
      | some s2 => match tt s2 with
        | .ok true s3 => match eMv f s3 with
          | .ok (.dat n d) s4 => if ds.length < sizeLine then (match blkS vs s4 with
            | some s5 => lcIn vs itm tgt tt f x m (i + 1) (accK k n d) (ds ++ [d]) s5
            | none => none) else none
          | _ => none
        | .ok false s3 => (match blkS vs s3 with
          | some s5 => lcIn vs itm tgt tt f x m (i + 1) k ds s5
          | none => none)
        | _ => none
def lc2Go (vs vs1 : List Nat) (itm : Nat → DS → Option (IV × DS)) (tgt : GF) (tt : TF) (it1 : IF) (tgt1 : GF) (tt1 : TF) (f : EF) (x : DV) : Nat → Nat → Nat → List D → DS → ER
  | 0, _, k, ds, s => .ok (.dat k (.lst ds)) (unl x s)
  | m + 1, i, k, ds, s => match itm i s with
    | none => .no
    | some (y, s1) => match tgt y s1 with
      | none => .no
      | some s2 => match tt s2 with
        | .ok true s3 => match it1 s3 with
          | .ok x1 n1 itm1 s4 => if isPlain x1 = true then (match blkS vs1 s4 with
            | some s5 => (match lcIn vs1 itm1 tgt1 tt1 f x1 n1 0 k ds s5 with
              | some (k2, ds2, s6) => (match blkS vs s6 with
                | some s7 => lc2Go vs vs1 itm tgt tt it1 tgt1 tt1 f x m (i + 1) k2 ds2 s7
                | none => .no)
              | none => .no)
            | none => .no) else .no
          | _ => .no
        | .ok false s3 => (match blkS vs s3 with
          | some s5 => lc2Go vs vs1 itm tgt tt it1 tgt1 tt1 f x m (i + 1) k ds s5
          | none => .no)
        | _ => .no
def eLc2 (vs vs1 : List Nat) (it : IF) (tgt : GF) (tt : TF) (it1 : IF) (tgt1 : GF) (tt1 : TF) (f : EF) : EF := fun s => match it s with
  | .ok x n itm s1 => if isPlain x = true then (match blkS vs s1 with
    | some s2 => lc2Go vs vs1 itm tgt tt it1 tgt1 tt1 f x n 0 1000 [] s2
    | none => .no) else .no
  | .ex C pl s1 => .ex C pl s1
  | .no => .no
theorem tLc2_ {it it1 : IF} {g g1 : TG} {tgt tgt1 : GF} {tt tt1 : TF} {f : EF} {vs wr vs1 wr1 : List Nat} {Q : VK} (hg : GC W g tgt wr) (hw : ∀ i ∈ wr, i ∈ vs) (hg1 : GC W g1 tgt1 wr1) (hw1 : ∀ i ∈ wr1, i ∈ vs1) (hio : ∀ i ∈ vs, i ∉ W.2.2) (hio1 : ∀ i ∈ vs1, i ∉ W.2.2) (h : tD W XW (eLc2 vs vs1 it tgt tt it1 tgt1 tt1 f) σ H Q) :
    tLc2 (tDI W XW it) g (tDB W XW0 tt) (tDI W XW0 it1) g1 (tDB W XW0 tt1) (tD W XW0 (eMv f)) vs vs1 σ H Q := by
  obtain ⟨B, s, F, I, h⟩ := h
  refine ⟨B, s, F, I, ?_⟩
  unfold eLc2 at h
  cases e : it s with
  | no => simp only [e] at h; exact h
  | ex C pl s1 => simp only [e] at h; exact h
  | ok x n itm s1 =>
    simp only [e] at h
    intro J v H1 I1 hJ
    by_cases hx : isPlain x = true
    · rw [if_pos hx] at h
      cases e1 : blkS vs s1 with
      | none => simp only [e1] at h; exact h.elim
      | some s2 =>
        simp only [e1] at h
        intro D hD
        have hG : Plain [(x, v)] := fun a m => by rw [List.mem_singleton.mp m]; exact hx
        obtain ⟨I2, C2⟩ := I1.blk e1 hio (σ' := σ) rfl
        refine ⟨fun i m H => m = n - i ∧ i ≤ n ∧ ∃ k ds s, 1 ≤ k ∧ SI W B s ([(x, v)] ++ (.dat k (.lst ds), .ref D) :: F) (wipe σ vs) H ∧ Clear vs s ∧ EC W XW B F σ Q (lc2Go vs vs1 itm tgt tt it1 tgt1 tt1 f x (n - i) i k ds s), ⟨n, by simp, Nat.zero_le _, 1000, [], s2, by omega, ?_, C2, h⟩, ?_⟩
        · obtain ⟨ℓ, I2⟩ := I2
          exact ⟨_, SIw.acc0 (G := [(x, v)]) I2 hG hD⟩
        · rintro i m H2 ⟨rfl, hi, k, ds, s3, hk, I3, C3, h3⟩
          obtain ⟨j1, j2⟩ := hJ i B s3 _ _ H2 I3
          by_cases c : n ≤ i
          · have e0 : n - i = 0 := by omega
            rw [e0] at h3
            have I4 : SI W B (unl x s3) ((.dat k (.lst ds), .ref D) :: F) (wipe σ vs) H2 := SI.drop I3
            exact .inl ⟨j1 c, h3 _ H2 (I4.unblk (by unfold Clear; rw [unl_sl]; exact C3) hio)⟩
          · have hlt : i < n := by omega
            obtain ⟨k1, k2⟩ := j2 hlt
            have e1 : n - i = (n - (i + 1)) + 1 := by omega
            rw [e1] at h3
            unfold lc2Go at h3
            cases e2 : itm i s3 with
            | none => simp only [e2] at h3; exact h3.elim
            | some ys =>
              obtain ⟨y, s4⟩ := ys
              simp only [e2] at h3
              cases e3 : tgt y s4 with
              | none => simp only [e3] at h3; exact h3.elim
              | some s5 =>
                simp only [e3] at h3
                refine .inr ⟨k1, fun H => ∃ k ds s, 1 ≤ k ∧ SI W B s ([(x, v)] ++ (.dat k (.lst ds), .ref D) :: F) (wipe σ vs) H ∧ Clear vs s ∧ EC W XW B F σ Q (lc2Go vs vs1 itm tgt tt it1 tgt1 tt1 f x (n - (i + 1)) (i + 1) k ds s), fun H' q => ⟨n - (i + 1), by omega, rfl, by omega, q⟩, fun u H' hy => ?_⟩
                refine hg B s4 _ _ H' u y s5 (k2 u H' y s4 hy e2) e3 _ fun σ2 I5 sb => ?_
                have ew : wipe σ2 vs = wipe σ vs := (sb vs hw).trans (wipe_idem fun _ h => h)
                refine ⟨ew, B, s5, _, I5, ?_⟩
                cases e4 : tt s5 with
                | no => simp only [e4] at h3; exact h3.elim
                | ex C pl s6 => simp only [e4] at h3; exact h3.elim
                | ok b s6 =>
                  intro H3 I6
                  cases b with
                  | false =>
                    rw [if_neg Bool.false_ne_true]
                    simp only [e4] at h3
                    cases e5 : blkS vs s6 with
                    | none => simp only [e5] at h3; exact h3.elim
                    | some s7 =>
                      simp only [e5] at h3
                      obtain ⟨I7, C7⟩ := I6.blk e5 hio ew
                      exact ⟨k, ds, s7, hk, I7, C7, h3⟩
                  | true =>
                    rw [if_pos rfl]
                    simp only [e4] at h3
                    refine ⟨B, s6, _, I6, ?_⟩
                    cases f1 : it1 s6 with
                    | no => simp only [f1] at h3; exact h3.elim
                    | ex C pl s7 => simp only [f1] at h3; exact h3.elim
                    | ok x1 n1 itm1 s7 =>
                      simp only [f1] at h3
                      intro J1 v1 H4 I7 hJ1
                      by_cases hx1 : isPlain x1 = true
                      · rw [if_pos hx1] at h3
                        have hG1 : Plain [(x1, v1), (x, v)] := fun a m => by
                          rcases List.mem_cons.mp m with m | m
                          · rw [m]; exact hx1
                          · exact hG a m
                        cases f2 : blkS vs1 s7 with
                        | none => simp only [f2] at h3; exact h3.elim
                        | some s8 =>
                          simp only [f2] at h3
                          obtain ⟨I8, C8⟩ := I7.blk f2 hio1 (σ' := σ2) rfl
                          -- what is left to do
                          refine ⟨fun j m H => m = n1 - j ∧ j ≤ n1 ∧ ∃ k ds s, 1 ≤ k ∧ SI W B s ([(x1, v1), (x, v)] ++ (.dat k (.lst ds), .ref D) :: F) (wipe σ2 vs1) H ∧ Clear vs1 s ∧
                            EC W XW B F σ Q (match lcIn vs1 itm1 tgt1 tt1 f x1 (n1 - j) j k ds s with
                              | some (k2, ds2, s6) => (match blkS vs s6 with
                                | some s7 => lc2Go vs vs1 itm tgt tt it1 tgt1 tt1 f x (n - (i + 1)) (i + 1) k2 ds2 s7
                                | none => .no)
                              | none => .no), ⟨n1, by simp, Nat.zero_le _, k, ds, s8, hk, I8, C8, h3⟩, ?_⟩
                          clear h3 C8 I8 hk
                          rintro j m H5 ⟨rfl, hj, k, ds, s9, hk, I9, C9, h3⟩
                          obtain ⟨q1, q2⟩ := hJ1 j B s9 _ _ H5 I9
                          by_cases cj : n1 ≤ j
                          · have e0 : n1 - j = 0 := by omega
                            rw [e0] at h3
                            refine .inl ⟨q1 cj, ?_⟩
                            unfold lcIn at h3
                            simp only [] at h3
                            cases f3 : blkS vs (unl x1 s9) with
                            | none => simp only [f3] at h3; exact h3.elim
                            | some s10 =>
                              simp only [f3] at h3
                              have Ia : SI W B (unl x1 s9) ([(x, v)] ++ (.dat k (.lst ds), .ref D) :: F) (wipe σ2 vs1) H5 := SI.drop I9
                              have Ib := Ia.unblk (by unfold Clear; rw [unl_sl]; exact C9) hio1
                              obtain ⟨Ic, Cc⟩ := Ib.blk f3 hio ew
                              exact ⟨k, ds, s10, hk, Ic, Cc, h3⟩
                          · have hlt1 : j < n1 := by omega
                            obtain ⟨l1, l2⟩ := q2 hlt1
                            have e1 : n1 - j = (n1 - (j + 1)) + 1 := by omega
                            rw [e1] at h3
                            unfold lcIn at h3
                            cases g2 : itm1 j s9 with
                            | none => simp only [g2] at h3; exact h3.elim
                            | some ys =>
                              obtain ⟨y1, t4⟩ := ys
                              simp only [g2] at h3
                              cases g3 : tgt1 y1 t4 with
                              | none => simp only [g3] at h3; exact h3.elim
                              | some t5 =>
                                simp only [g3] at h3
                                refine .inr ⟨l1, fun H => ∃ k ds s, 1 ≤ k ∧ SI W B s ([(x1, v1), (x, v)] ++ (.dat k (.lst ds), .ref D) :: F) (wipe σ2 vs1) H ∧ Clear vs1 s ∧
                                  EC W XW B F σ Q (match lcIn vs1 itm1 tgt1 tt1 f x1 (n1 - (j + 1)) (j + 1) k ds s with
                                    | some (k2, ds2, s6) => (match blkS vs s6 with
                                      | some s7 => lc2Go vs vs1 itm tgt tt it1 tgt1 tt1 f x (n - (i + 1)) (i + 1) k2 ds2 s7
                                      | none => .no)
                                    | none => .no), fun H' q => ⟨n1 - (j + 1), by omega, rfl, by omega, q⟩, fun u1 H6 hy1 => ?_⟩
                                refine hg1 B t4 _ _ H6 u1 y1 t5 (l2 u1 H6 y1 t4 hy1 g2) g3 _ fun σ3 K5 sb1 => ?_
                                have ew1 : wipe σ3 vs1 = wipe σ2 vs1 := (sb1 vs1 hw1).trans (wipe_idem fun _ h => h)
                                refine ⟨ew1, B, t5, _, K5, ?_⟩
                                cases g4 : tt1 t5 with
                                | no => simp only [g4] at h3; exact h3.elim
                                | ex C pl s6 => simp only [g4] at h3; exact h3.elim
                                | ok b t6 =>
                                  intro H7 K6
                                  cases b with
                                  | false =>
                                    rw [if_neg Bool.false_ne_true]
                                    simp only [g4] at h3
                                    cases g5 : blkS vs1 t6 with
                                    | none => simp only [g5] at h3; exact h3.elim
                                    | some t7 =>
                                      simp only [g5] at h3
                                      obtain ⟨K7, L7⟩ := K6.blk g5 hio1 ew1
                                      exact ⟨k, ds, t7, hk, K7, L7, h3⟩
                                  | true =>
                                    rw [if_pos rfl]
                                    simp only [g4] at h3
                                    refine ⟨B, t6, _, K6, ?_⟩
                                    cases g6 : eMv f t6 with
                                    | no => simp only [g6] at h3; exact h3.elim
                                    | ex C pl t7 => simp only [g6] at h3; exact h3.elim
                                    | ok w t7 =>
                                      cases w with
                                      | brw => simp only [g6] at h3; exact h3.elim
                                      | plc => simp only [g6] at h3; exact h3.elim
                                      | dat nn dd =>
                                        simp only [g6] at h3
                                        intro yv H8 ⟨ℓ, K7⟩
                                        obtain ⟨a, vs', ea, hH, hl, K8, hk8⟩ := SIw.accA (G := [(x1, v1), (x, v)]) K7 hG1 hk
                                        cases ea
                                        by_cases c8 : ds.length < sizeLine
                                        · rw [if_pos c8] at h3
                                          refine ⟨vs', hH, by rw [hl]; exact c8, ?_⟩
                                          cases g9 : blkS vs1 t7 with
                                          | none => simp only [g9] at h3; exact h3.elim
                                          | some t8 =>
                                            simp only [g9] at h3
                                            obtain ⟨K9, L9⟩ := SI.blk K8 g9 hio1 ew1
                                            exact ⟨_, _, t8, hk8, K9, L9, h3⟩
                                        · rw [if_neg c8] at h3; exact h3.elim
                      · rw [if_neg hx1] at h3; exact h3.elim
    · rw [if_neg hx] at h; exact h.elim
end

/-! ### judgements -/
structure PTsd (X : Cx) (XW : WXI) (ifs : List Expr) (f : TF) : Prop where
  p : PTs X ifs (tDB (Wx X XW) XW.1 f)
def tTrue : TF := fun s => .ok true s
section
variable {X : Cx} {XW : WXI}
theorem PTs.imp {ifs : List Expr} {t t' : TT} (h : PTs X ifs t) (k : ∀ σ H Q, t' σ H Q → t σ H Q) : PTs X ifs t' := ⟨fun pins s σ H Q I q => h.run pins s σ H Q I (k σ H Q q)⟩
theorem ptsd_nil : PTsd X XW [] tTrue := ⟨PTs.imp pts_nil fun σ H Q h => by obtain ⟨B, s, F, I, h⟩ := h; exact h H I⟩
theorem ptsd_one {c : Expr} {t : TF} (h : PTd X XW c t) : PTsd X XW [c] t := ⟨pts_one h.p⟩
/-- in any block of the comprehension -/
abbrev InB (X : Cx) (XW : WXI) (scope : Scope) (P : Cx → WXI → Prop) : Prop := ∀ (s : Shared) (H : Hp) (C : Addr) (cl : List (Str × Addr)) (fp : List Addr), P (X.blk s H scope (compEnvC scope cl C X.env) fp) (XW0, XW.2)
variable {elt tg iter tg1 iter1 : Expr} {ifs ifs1 : List Expr} {scope : Scope} {own : List (Str × Nat)} {pos spos py : Pos} {it it1 : IF} {g g1 : TG} {t t1 : GF} {wr wr1 vs1 : List Nat} {tt tt1 : TF} {f : EF}
theorem InB.gc (hg : InB X XW scope fun Y YW => PGd Y YW tg g t wr) : GC (Wx X XW) g t wr := (hg X.s_0 X.H_0 0 [] []).c
theorem pd_lc (hc : X.calm = true) (hN : X.N.Nodup) (hi : PId X XW tg iter it) (ok : BlkOk X.N X.env.scope scope own) (hg : InB X XW scope fun Y YW => PGd Y YW tg g t wr) (ht : InB X XW scope fun Y YW => PTsd Y YW ifs tt) (he : InB X XW scope fun Y YW => PEd Y YW elt f)
    (hw : ∀ i ∈ wr, i ∈ own.map (·.2)) (hio : ∀ i ∈ own.map (·.2), i ∉ XW.2) (hs : ∀ x, foldedSetIterable iter X.env x = pure x := by intro _; rfl) : PEd X XW (.ListComp elt [⟨tg, iter, ifs, 0⟩] scope pos) (eLc (own.map (·.2)) it t tt f) :=
  ⟨PE.imp (pe_lc hc hN hi.p ok (fun s H C cl fp => (hg s H C cl fp).p) (fun s H C cl fp => (ht s H C cl fp).p) (fun s H C cl fp => (pd_mv (he s H C cl fp)).p) hs) fun σ H Q h => tLc_ hg.gc hw hio h⟩
theorem psd_setLc {i : Nat} {y : Str} (hc : X.calm = true) (hN : X.N.Nodup) (hy : X.N[i]? = some y) (hyl : X.env.scope.names.lookup y = some .local) (hyo : i ∉ XW.2) (hsw : swapsWith (.ListComp elt [⟨tg, iter, ifs, 0⟩] scope pos) (some (.Name y py)) spos.line X.env = pure true)
    (hi : PId X XW tg iter it) (ok : BlkOk X.N X.env.scope scope own) (hg : InB X XW scope fun Y YW => PGd Y YW tg g t wr) (ht : InB X XW scope fun Y YW => PTsd Y YW ifs tt) (he : InB X XW scope fun Y YW => PEd Y YW elt f)
    (hw : ∀ i ∈ wr, i ∈ own.map (·.2)) (hio : ∀ i ∈ own.map (·.2), i ∉ XW.2) (hs : ∀ x, foldedSetIterable iter X.env x = pure x := by intro _; rfl) : PSd X XW (.Assign [.Name y py] (.ListComp elt [⟨tg, iter, ifs, 0⟩] scope pos) spos) (sAsg i (eLc (own.map (·.2)) it t tt f)) :=
  ⟨PS.imp (ps_setLc hc hN hy hyl hsw hi.p ok (fun s H C cl fp => (hg s H C cl fp).p) (fun s H C cl fp => (ht s H C cl fp).p) (fun s H C cl fp => (pd_mv (he s H C cl fp)).p) hs) fun D σ H h => tLc_ hg.gc hw hio (tAsg_ hyo h)⟩
theorem pd_lc2 (hc : X.calm = true) (hN : X.N.Nodup) (hi : PId X XW tg iter it) (ok : BlkOk X.N X.env.scope scope own) (hg : InB X XW scope fun Y YW => PGd Y YW tg g t wr) (ht : InB X XW scope fun Y YW => PTsd Y YW ifs tt)
    (hi1 : InB X XW scope fun Y YW => PId Y YW tg1 iter1 it1) (hg1 : InB X XW scope fun Y YW => PGd Y YW tg1 g1 t1 wr1) (ht1 : InB X XW scope fun Y YW => PTsd Y YW ifs1 tt1) (he : InB X XW scope fun Y YW => PEd Y YW elt f) (hv : ∀ i ∈ vs1, i ∈ own.map (·.2))
    (hw : ∀ i ∈ wr, i ∈ own.map (·.2)) (hw1 : ∀ i ∈ wr1, i ∈ vs1) (hio : ∀ i ∈ own.map (·.2), i ∉ XW.2) (hs : ∀ x, foldedSetIterable iter X.env x = pure x := by intro _; rfl) (hs1 : ∀ env x, foldedSetIterable iter1 env x = pure x := by intro _ _; rfl) :
    PEd X XW (.ListComp elt [⟨tg, iter, ifs, 0⟩, ⟨tg1, iter1, ifs1, 0⟩] scope pos) (eLc2 (own.map (·.2)) vs1 it t tt it1 t1 tt1 f) :=
  ⟨PE.imp (pe_lc2 hc hN hi.p ok hv (fun s H C cl fp => (hg s H C cl fp).p) (fun s H C cl fp => (ht s H C cl fp).p) (fun s H C cl fp => (hi1 s H C cl fp).p) (fun s H C cl fp => (hg1 s H C cl fp).p) (fun s H C cl fp => (ht1 s H C cl fp).p) (fun s H C cl fp => (pd_mv (he s H C cl fp)).p) hs hs1) fun σ H Q h =>
    tLc2_ hg.gc hw hg1.gc hw1 hio (fun i m => hio i (hv i m)) h⟩
theorem psd_setLc2 {i : Nat} {y : Str} (hc : X.calm = true) (hN : X.N.Nodup) (hy : X.N[i]? = some y) (hyl : X.env.scope.names.lookup y = some .local) (hyo : i ∉ XW.2) (hsw : swapsWith (.ListComp elt [⟨tg, iter, ifs, 0⟩, ⟨tg1, iter1, ifs1, 0⟩] scope pos) (some (.Name y py)) spos.line X.env = pure true)
    (hi : PId X XW tg iter it) (ok : BlkOk X.N X.env.scope scope own) (hg : InB X XW scope fun Y YW => PGd Y YW tg g t wr) (ht : InB X XW scope fun Y YW => PTsd Y YW ifs tt)
    (hi1 : InB X XW scope fun Y YW => PId Y YW tg1 iter1 it1) (hg1 : InB X XW scope fun Y YW => PGd Y YW tg1 g1 t1 wr1) (ht1 : InB X XW scope fun Y YW => PTsd Y YW ifs1 tt1) (he : InB X XW scope fun Y YW => PEd Y YW elt f) (hv : ∀ i ∈ vs1, i ∈ own.map (·.2))
    (hw : ∀ i ∈ wr, i ∈ own.map (·.2)) (hw1 : ∀ i ∈ wr1, i ∈ vs1) (hio : ∀ i ∈ own.map (·.2), i ∉ XW.2) (hs : ∀ x, foldedSetIterable iter X.env x = pure x := by intro _; rfl) (hs1 : ∀ env x, foldedSetIterable iter1 env x = pure x := by intro _ _; rfl) :
    PSd X XW (.Assign [.Name y py] (.ListComp elt [⟨tg, iter, ifs, 0⟩, ⟨tg1, iter1, ifs1, 0⟩] scope pos) spos) (sAsg i (eLc2 (own.map (·.2)) vs1 it t tt it1 t1 tt1 f)) :=
  ⟨PS.imp (ps_setLc2 hc hN hy hyl hsw hi.p ok hv (fun s H C cl fp => (hg s H C cl fp).p) (fun s H C cl fp => (ht s H C cl fp).p) (fun s H C cl fp => (hi1 s H C cl fp).p) (fun s H C cl fp => (hg1 s H C cl fp).p) (fun s H C cl fp => (ht1 s H C cl fp).p) (fun s H C cl fp => (pd_mv (he s H C cl fp)).p) hs hs1) fun D σ H h =>
    tLc2_ hg.gc hw hg1.gc hw1 hio (fun i m => hio i (hv i m)) (tAsg_ hyo h)⟩
end
end DL

set_option Elab.async false
set_option linter.all false
set_option maxRecDepth 100000
/-! D18: what a def promises; calls -/
namespace DL
open PySem PySem.Spec PyProof.Rows L2
/-- what a call of a def comes to: the result (what it owns), what the lent lists hold behind it -/
inductive FO | no | ok (n : Nat) (d : D) (ios : List (Nat × D)) | ex (C : Str) (pl : List (Str × D)) (ios : List (Nat × D))
abbrev FD := List SV → FO
section
variable {W W' : Wd} {XW : WX} {ℓ ℓ' ℓ2 : Addr → Lab} {H H' H2 : Hp} {B : Ent} {s s' : DS} {sl : List (Option SV)} {F G : Temps} {σ σ' : L2.St} {v vx vy : V} {d : D} {x y z : DV} {t : Nat} {ds as bs : List D} {p : List Nat} {i j n : Nat} {m : Md}
theorem Rep.chW (h : Rep W ℓ H m v d) (e1 : W'.1 = W.1) (e2 : W'.2.1 = W.2.1) : Rep W' ℓ H m v d := by
  induction h with
  | non => exact .non
  | bl b => exact .bl b
  | int b => exact .int b
  | str b => exact .str b
  | tup h1 h2 _ ih => exact .tup (by rw [e1]; exact h1) h2 fun k v d a b => ih k v d a b
  | lst h1 h2 _ ih => exact .lst (by rw [e1]; exact h1) h2 fun k v d a b => ih k v d a b
  | obj h0 h1 h2 _ ih => exact .obj (by rw [e2]; exact h0) (by rw [e1]; exact h1) h2 fun k n v n' d a b => ih k n v n' d a b
theorem PlOk.chW {pl : List (Str × D)} {dd : Option Addr} (h : PlOk W ℓ H pl dd) (e1 : W'.1 = W.1) (e2 : W'.2.1 = W.2.1) : PlOk W' ℓ H pl dd := by
  cases pl with
  | nil => exact h
  | cons p pl =>
    obtain ⟨a, fs, h1, h2, h3, h4, h5⟩ := h
    exact ⟨a, fs, h1, h2, h3, h4, fun k n v n' d a b => (h5 k n v n' d a b).chW e1 e2⟩
/-- an argument -/
def ARep (W : Wd) (ℓ : Addr → Lab) (H : Hp) (i : Nat) (v : V) : SV → Prop
  | .dat n d => Rep W ℓ H (.own (.slot i) [] n) v d
  | .brw d => Rep W ℓ H .bw v d
  | .als _ _ => False
structure Post (W : Wd) (ℓ : Addr → Lab) (H : Hp) (ℓ' : Addr → Lab) (H' : Hp) (vs : List V) (io : List Nat) (ios : List (Nat × D)) : Prop where
  lab : ∀ a, ℓ' a ≠ .no → H' a ≠ none
  keep : ∀ a, H a ≠ none → H' a ≠ none
  prot : ∀ a, (ℓ a = .fz ∨ ℓ a = .bw) → H' a = H a ∧ ℓ' a = ℓ a
  bw : ∀ a, ℓ' a = .bw → ℓ a = .bw
  len : ios.length = io.length
  io : ∀ (k i n : Nat) (d : D) (v : V), io[k]? = some i → ios[k]? = some (n, d) → vs[i]? = some v → Rep W ℓ' H' (.own (.slot i) [] n) v d
def FC (W : Wd) (ℓ : Addr → Lab) (H : Hp) (vs : List V) (io : List Nat) (Q : VK) (E : XK) : FO → Prop
  | .no => False
  | .ok n d ios => ∀ ℓ' v H', Post W ℓ H ℓ' H' vs io ios → Rep W ℓ' H' (.own (.tmp 0) [] n) v d → Q v H'
  | .ex C pl ios => ∀ ℓ' cls dd H' Ca, Post W ℓ H ℓ' H' vs io ios → W.2.1 C = some (.ref Ca) → cls = .ref Ca → PlOk W ℓ' H' pl dd → E cls dd H'
/-- the promise of a def that computes f -/
def spD (W : Wd) (io : List Nat) (np : Nat) (f : FD) : Sp := fun vs H Q E => vs.length = np ∧ ∃ (ℓ : Addr → Lab) (as : List SV), as.length = np ∧ (∀ a, ℓ a ≠ .no → H a ≠ none) ∧ (∀ (i : Nat) (v : V) (a : SV), vs[i]? = some v → as[i]? = some a → ARep W ℓ H i v a) ∧ FC W ℓ H vs io Q E (f as)

/-! ### from a body -/
def iosF (sl : List (Option SV)) : List Nat → Option (List (Nat × D))
  | [] => some []
  | i :: r => match sl[i]? with
    | some (some (.dat n d)) => (iosF sl r).map ((n, d) :: ·)
    | _ => none
def finF (io : List Nat) (x : DV) (s : DS) : FO := match x with
  | .dat n d => match iosF s.sl io with
    | some ios => .ok n d ios
    | none => .no
  | .brw _ => .no
  | .plc j p d => if (decide (p = []) && !io.contains j) = true then (match s.sl[j]? with
      | some (some (.dat (n + 1) dj)) => (match iosF s.sl io with
        | some ios => .ok (n + 1) dj ios
        | none => .no)
      | _ => .no) else (match esc (.plc j p d) s with
      | some (e, s1) => (match iosF s1.sl io with
        | some ios => .ok 0 e ios
        | none => .no)
      | none => .no)
def fnF (io : List Nat) (ns : Nat) (body : SF) : FD := fun as => match body ⟨as.map some ++ List.replicate (ns - as.length) none, []⟩ with
  | .nx s => finF io (.dat 0 .non) s
  | .rt x s => finF io x s
  | .ex C pl s => match iosF s.sl io with
    | some ios => .ex C pl ios
    | none => .no
  | _ => .no
theorem iosF_len : ∀ {io : List Nat} {ios : List (Nat × D)}, iosF sl io = some ios → ios.length = io.length
  | [], ios, h => by cases h; rfl
  | i :: r, ios, h => by
    unfold iosF at h
    split at h
    · obtain ⟨l, h1, rfl⟩ := Option.map_eq_some_iff.mp h
      simp [iosF_len h1]
    · cases h
theorem iosF_at : ∀ {io : List Nat} {ios : List (Nat × D)} {k i n : Nat} {d : D}, iosF sl io = some ios → io[k]? = some i → ios[k]? = some (n, d) → sl[i]? = some (some (.dat n d))
  | [], ios, k, i, n, d, _, h1, _ => by simp at h1
  | a :: r, ios, k, i, n, d, h, h1, h2 => by
    unfold iosF at h
    split at h
    · rename_i n0 d0 e
      obtain ⟨l, h3, rfl⟩ := Option.map_eq_some_iff.mp h
      cases k with
      | zero => simp at h1 h2; obtain ⟨rfl, rfl⟩ := h2; rw [← h1]; exact e
      | succ k => exact iosF_at h3 (by simpa using h1) (by simpa using h2)
    · cases h
theorem SIw.post {vs : List V} {io : List Nat} {ios : List (Nat × D)} {s0 : L2.St} {l0 : Addr → Lab} {H0 : Hp} (I : SIw W ℓ H ⟨H0, l0, s0⟩ s F σ) (hio : W.2.2 = ⟨io, []⟩) (h : iosF s.sl io = some ios) (hv : ∀ i ∈ io, ∀ v, vs[i]? = some v → s0[i]? = some (some v)) : Post W l0 H0 ℓ H vs io ios where
  lab := I.lab
  keep := I.keep
  prot := I.prot
  bw := I.bw
  len := iosF_len h
  io := fun k i n d v h1 h2 h3 => by
    have e := iosF_at h h1 h2
    obtain ⟨v', e1, e2⟩ := I.slots i _ e
    have hi : i ∈ io := List.mem_of_getElem? h1
    have e3 : σ[i]? = io0 W.2.2 s0 i := I.ios i (by rw [hio]; exact hi)
    rw [hio] at e3
    have e3 : σ[i]? = s0[i]? := e3
    rw [e1, hv i hi v h3] at e3
    cases e3
    exact e2
/-- the labels of a slot go to the first temp -/
def labRet (ℓ : Addr → Lab) (j : Nat) : Addr → Lab := fun a => match ℓ a with
  | .own (.slot k) q => if k = j then .own (.tmp 0) q else .own (.slot k) q
  | .own (.tmp _) _ => .no
  | l => l
theorem labRet_keep {a : Addr} {l : Lab} (hl : l = .fz ∨ l = .bw) : labRet ℓ j a = l ↔ ℓ a = l := by
  unfold labRet
  cases e : ℓ a with
  | own r q =>
    cases r with
    | slot k =>
      show (if k = j then Lab.own (.tmp 0) q else .own (.slot k) q) = l ↔ _
      split <;> (rcases hl with rfl | rfl <;> exact Iff.intro (fun z => by cases z) (fun z => by cases z))
    | tmp k => rcases hl with rfl | rfl <;> exact Iff.intro (fun z => by cases z) (fun z => by cases z)
  | _ => exact Iff.rfl
theorem start_at {N : List Str} {vs : List V} {i : Nat} {v : V} (h : vs[i]? = some v) : (L2.start N vs)[i]? = some (some v) := by
  unfold L2.start
  rw [List.getElem?_append_left (by rw [List.length_map]; exact (List.getElem?_eq_some_iff.mp h).1), List.getElem?_map, h]
  rfl
theorem fin_ok {io : List Nat} {vs : List V} {l0 : Addr → Lab} {H0 : Hp} {s0 : L2.St} {Q : VK} {E : XK} (hio : W.2.2 = ⟨io, []⟩) (hv : ∀ i ∈ io, ∀ v, vs[i]? = some v → s0[i]? = some (some v)) (h : FC W l0 H0 vs io Q E (finF io x s)) (I : SI W ⟨H0, l0, s0⟩ s [(x, v)] σ H) : Q v H := by
  obtain ⟨ℓ, I⟩ := I
  cases x with
  | dat n d =>
    unfold finF at h
    simp only [] at h
    cases e : iosF s.sl io with
    | none => simp only [e] at h; exact h.elim
    | some ios => simp only [e] at h; exact h ℓ v H (I.post hio e hv) I.temps.1
  | brw d => exact h.elim
  | plc j p d =>
    unfold finF at h
    simp only [] at h
    by_cases c : (decide (p = []) && !io.contains j) = true
    · rw [if_pos c] at h
      simp only [Bool.and_eq_true, decide_eq_true_eq, Bool.not_eq_true'] at c
      obtain ⟨rfl, c2⟩ := c
      split at h
      · rename_i n dj ej
        split at h
        · rename_i ios e
          have P := I.post hio e hv
          have T : if owned s.sl j [] = true then PlR H s.sl σ j [] v d else Rep W ℓ H .fz v d := I.temps.1
          obtain ⟨vj, e1, e2⟩ := I.slots j _ ej
          have e2 : Rep W ℓ H (.own (.slot j) [] (n + 1)) vj dj := e2
          have o : owned s.sl j [] = true := owned_iff.mpr ⟨_, dj, ej, Nat.succ_pos n⟩
          rw [if_pos o] at T
          obtain ⟨n', dj', vj', h1, h2, h3, h4, h5, h6⟩ := T
          rw [ej] at h1; cases h1
          rw [e1] at h3; cases h3
          cases h4
          have c2 : j ∉ io := by simpa using c2
          refine h (labRet ℓ j) v H ⟨fun a q => P.lab a fun z => q ?_, P.keep, fun a q => ?_, fun a q => P.bw a ((labRet_keep (.inr rfl)).mp q), P.len, fun k i n' d' w a1 a2 a3 => ?_⟩ ?_
          · unfold labRet; rw [z]
          · obtain ⟨k1, k2⟩ := P.prot a q
            refine ⟨k1, ?_⟩
            rw [← k2] at q ⊢
            rcases q with q | q
            · rw [q]; exact (labRet_keep (.inl rfl)).mpr q
            · rw [q]; exact (labRet_keep (.inr rfl)).mpr q
          · have r := P.io k i n' d' w a1 a2 a3
            have hne : i ≠ j := fun z => c2 (by rw [← z]; exact List.mem_of_getElem? a1)
            refine r.mv (fun a z => ⟨rfl, (labRet_keep (.inl rfl)).mpr z⟩) fun a q z => ⟨rfl, ?_⟩
            unfold labRet
            rw [z]
            exact if_neg hne
          · refine e2.mv (fun a z => ⟨rfl, (labRet_keep (.inl rfl)).mpr z⟩) fun a q z => ⟨rfl, ?_⟩
            unfold labRet
            rw [z]
            exact if_pos rfl
        · exact h.elim
      · exact h.elim
    · rw [if_neg c] at h
      split at h
      · rename_i e s1 e1
        split at h
        · rename_i ios e2
          obtain ⟨ℓ2, J⟩ := SI.esc ⟨ℓ, I⟩ e1
          exact h ℓ2 v H (J.post hio e2 hv) J.temps.1
        · exact h.elim
      · exact h.elim
end
end DL

set_option Elab.async false
set_option linter.all false
set_option maxRecDepth 100000
/-! D19: the rule for a def; calls of defs -/
namespace DL
open PySem PySem.Spec PyProof.Rows L2
section
variable {P : Program} {w : World} {K : PySem.W.Frag} {mg : Str → Option Value} {base : Heap}
/-- the body's reading from the promise -/
theorem body_of {qual : Str} {sc : Scope} {f : Addr} {N : List Str} {np : Nat} {io : List Nat} {bf : SF} {body : List Stmt} {cdv : Value} {A : Around} {outer : List Env} {s : Shared} {H : Hp} {E : XK} {vs : List V} {Q : VK}
    (hb : PSsd (cxOf (L2.CX P w) P w K mg base N qual sc f cdv A outer s H E) (fun cls dd _ H => E cls dd H, ⟨io, []⟩) body bf) (hsp : spD (K, mg, io00) io np (fnF io N.length bf) vs H Q E) :
    ∃ t, PSs (cxOf (L2.CX P w) P w K mg base N qual sc f cdv A outer s H E) body t ∧ t { nx := fun _ H' => Q .non H', rt := Q } (L2.start N vs) H := by
  obtain ⟨hl, ℓ, as, hla, lab, har, hfc⟩ := hsp
  refine ⟨_, hb.p, ⟨H, ℓ, L2.start N vs⟩, ⟨as.map some ++ List.replicate (N.length - as.length) none, []⟩, [], ⟨ℓ, ?_⟩, ?_⟩
  · refine ⟨?_, lab, fun a _ => ⟨rfl, rfl⟩, fun a h => h, fun a h => h, fun i _ => rfl, rfl, fun i z e => ?_, trivial⟩
    · unfold L2.start
      simp [hla, hl]
    · have e : (as.map some ++ List.replicate (N.length - as.length) none)[i]? = some (some z) := e
      rw [List.getElem?_append] at e
      split at e
      · rename_i hi
        rw [List.length_map] at hi
        rw [List.getElem?_map] at e
        obtain ⟨a, e1, e2⟩ := Option.map_eq_some_iff.mp e
        cases e2
        have hv : vs[i]? = some (vs[i]'(by omega)) := List.getElem?_eq_getElem _
        refine ⟨_, start_at hv, ?_⟩
        have r := har i _ z hv e1
        cases z with
        | dat n d => exact (show Rep (K, mg, io00) ℓ H (.own (.slot i) [] n) _ d from r).chW rfl rfl
        | brw d => exact (show Rep (K, mg, io00) ℓ H .bw _ d from r).chW rfl rfl
        | als => exact r.elim
      · rw [List.getElem?_replicate] at e
        split at e <;> cases e
  · have hv : ∀ i ∈ io, ∀ v, vs[i]? = some v → (L2.start N vs)[i]? = some (some v) := fun i _ v h => start_at h
    unfold fnF at hfc
    -- the io slots are the same words for both
    have toW : ∀ {r}, FC (K, mg, io00) ℓ H vs io Q E r → FC (K, mg, ⟨io, []⟩) ℓ H vs io Q E r := fun {r} h => by
      have pp : ∀ {ℓ' H' ios}, Post (K, mg, ⟨io, []⟩) ℓ H ℓ' H' vs io ios → Post (K, mg, io00) ℓ H ℓ' H' vs io ios := fun p => ⟨p.lab, p.keep, p.prot, p.bw, p.len, fun k i n d v a b c => (p.io k i n d v a b c).chW rfl rfl⟩
      cases r with
      | no => exact h
      | ok n d ios => exact fun ℓ' v H' p r => h ℓ' v H' (pp p) (r.chW rfl rfl)
      | ex C pl ios => exact fun ℓ' cls dd H' Ca p h1 h2 h3 => h ℓ' cls dd H' Ca (pp p) h1 h2 (h3.chW rfl rfl)
    split at hfc
    · rename_i s1 e
      rw [e]
      exact fun σ H' I => fin_ok (W := (K, mg, (⟨io, []⟩ : IOs))) rfl hv (toW hfc) (I.flat fun _ => Rep.non)
    · rename_i x1 s1 e
      rw [e]
      exact fun v σ H' I => fin_ok (W := (K, mg, (⟨io, []⟩ : IOs))) rfl hv (toW hfc) I
    · rename_i C pl s1 e
      rw [e]
      split at hfc
      · rename_i ios e2
        rintro cls dd σ H' ⟨ℓ', Ca, I, h1, h2, h3⟩
        exact (toW hfc) ℓ' cls dd H' Ca (I.post (W := (K, mg, (⟨io, []⟩ : IOs))) rfl e2 hv) h1 h2 h3
      · exact hfc.elim
    · exact hfc.elim
/-- a def computes fnF of its body -/
theorem fn_def {x qual : Str} {st : Stmt} {f : Addr} {fd : FuncData} {N ps : List Str} {k : Nat} {io : List Nat} {bf : SF} (F : Fun K x qual st f fd) (S : FnScope N ps (defScope st))
    (hb : ∀ (cdv : Value) (A : Around) (outer : List Env) (s : Shared) (H : Hp) (E : XK), Room k (A.deeper (envOfC qual (defScope st) s.heap.objs.size f cdv)) → PSsd (cxOf (L2.CX P w) P w K mg base N qual (defScope st) f cdv A outer s H E) (fun cls dd _ H => E cls dd H, ⟨io, []⟩) (defBody st) bf) :
    FnOk P w K mg base (L2.CX P w) (k + 1) f fd ps (spD (K, mg, io00) io ps.length (fnF io N.length bf)) :=
  Fun.okX F S (fun vs H Q E h => h.1) fun cdv A outer s H vs Q E hr hsp => body_of (hb cdv A outer s H E hr) hsp
end

section
variable {W : Wd} {XW : WX} {ℓ ℓ' ℓ2 : Addr → Lab} {H H' H2 : Hp} {B : Ent} {s s' : DS} {sl : List (Option SV)} {F G : Temps} {σ σ' : L2.St} {v vx vy : V} {d : D} {x y z : DV} {t : Nat} {ds as bs : List D} {p : List Nat} {i j n : Nat} {m : Md}
/-! ### slots lent and taken back -/
theorem clrs_als : ∀ {vs : List Nat} {sl : List (Option SV)} {k : Nat} {p : List Nat}, (clrs sl vs)[k]? = some (some (.als j p)) → j ∉ vs
  | [], _, _, _, _ => List.not_mem_nil
  | i :: vs, sl, k, p, h => by
    have h1 := clrs_als (vs := vs) (sl := clr sl i) h
    have h2 := (clrs_keep (vs := vs) (sl := clr sl i) h).2
    obtain ⟨_, _, h3⟩ := clr_some h2
    exact fun m => (List.mem_cons.mp m).elim (fun e => h3 p (by rw [e])) h1
theorem clrs_dat : ∀ {vs : List Nat} {sl : List (Option SV)} {k n : Nat} {e : D}, k ∉ vs → sl[k]? = some (some (.dat n e)) → (clrs sl vs)[k]? = some (some (.dat n e))
  | [], _, _, _, _, _, h => h
  | i :: vs, sl, k, n, e, hk, h => clrs_dat (vs := vs) (sl := clr sl i) (fun z => hk (List.mem_cons_of_mem _ z)) (clr_dat (fun z => hk (by rw [z]; exact List.mem_cons_self)) h)
theorem owned_clrs : ∀ {vs : List Nat} {sl : List (Option SV)}, j ∉ vs → owned (clrs sl vs) j p = owned sl j p
  | [], _, _ => rfl
  | i :: vs, sl, h => (owned_clrs (vs := vs) (sl := clr sl i) fun z => h (List.mem_cons_of_mem _ z)).trans (owned_clr fun z => h (by rw [z]; exact List.mem_cons_self))
theorem PlR.swap {js : List Nat} (h : PlR H sl σ j p v d) (hj : j ∉ js) (hs : ∀ i x, sl[i]? = some (some x) → ∃ v, σ[i]? = some (some v) ∧ SlR W ℓ H sl σ i x v) (k : ∀ a q, ℓ a = .own (.slot j) q → H2 a = H a) : PlR H2 (DL.clrs sl js) σ j p v d := by
  obtain ⟨n, dj, vj, h1, h2, h3, h4, h5, h6⟩ := h
  refine ⟨n, dj, vj, clrs_dat hj h1, h2, h3, ?_, h5, h6⟩
  obtain ⟨v', e1, e2⟩ := hs j _ h1
  rw [h3] at e1; cases e1
  exact h4.frame e2 (Nat.le_of_lt h2) (by rw [h5]; rfl) fun a q _ _ e => k a q (by simpa using e)
theorem roots_cons {x : DV × V} {F : Temps} : j ∈ roots F → j ∈ roots (x :: F) := fun h => by
  unfold roots at h ⊢
  rw [List.filterMap_cons]
  split
  · exact h
  · exact List.mem_cons_of_mem _ h
theorem SIw.swap (I : SIw W ℓ H B s F σ) (js : List Nat) (hj : ∀ j ∈ js, j ∉ roots F)
    (k : ∀ a, (ℓ a = .fz ∨ ℓ a = .bw ∨ (∃ i q, i ∉ js ∧ ℓ a = .own (.slot i) q) ∨ ∃ t q, t < F.length ∧ ℓ a = .own (.tmp t) q) → H2 a = H a ∧ ℓ2 a = ℓ a)
    (lab : ∀ a, ℓ2 a ≠ .no → H2 a ≠ none) (bw : ∀ a, ℓ2 a = .bw → ℓ a = .bw) (keep : ∀ a, H a ≠ none → H2 a ≠ none) : SIw W ℓ2 H2 B { s with sl := DL.clrs s.sl js } F σ where
  len := by
    have : ∀ (vs : List Nat) (sl : List (Option SV)), (DL.clrs sl vs).length = sl.length := by
      intro vs
      induction vs with
      | nil => intro sl; rfl
      | cons i vs ih => intro sl; exact (ih (DL.clr sl i)).trans clr_len
    show (DL.clrs s.sl js).length = _
    rw [this]; exact I.len
  lab := lab
  prot := fun a c => by
    obtain ⟨k1, k2⟩ := I.prot a c
    obtain ⟨k3, k4⟩ := k a (by rw [k2]; rcases c with c | c; exact .inl c; exact .inr (.inl c))
    exact ⟨k3.trans k1, k4.trans k2⟩
  bw := fun a c => I.bw a (bw a c)
  keep := fun a c => keep a (I.keep a c)
  ios := I.ios
  lks := I.lks
  slots := fun i z e => by
    have e : (DL.clrs s.sl js)[i]? = some (some z) := e
    obtain ⟨hi, e0⟩ := clrs_keep e
    obtain ⟨v, e1, e2⟩ := I.slots i z e0
    refine ⟨v, e1, ?_⟩
    cases z with
    | dat n d =>
      refine Rep.frame (show Rep W ℓ H (.own (.slot i) [] n) v d from e2) fun a c => k a ?_
      rcases c with c | ⟨c, _⟩ | ⟨q, c⟩
      · exact .inl c
      · cases c
      · exact .inr (.inr (.inl ⟨i, q, hi, by simpa using c⟩))
    | brw d =>
      refine Rep.frame (show Rep W ℓ H .bw v d from e2) fun a c => k a ?_
      rcases c with c | ⟨_, c⟩ | c
      · exact .inl c
      · exact .inr (.inl c)
      · exact c.elim
    | als j p =>
      obtain ⟨d, e2⟩ := e2
      have hj := clrs_als e
      exact ⟨d, e2.swap hj I.slots fun a q c => (k a (.inr (.inr (.inl ⟨j, q, hj, c⟩)))).1⟩
  temps := by
    have go : ∀ {G : Temps}, TmRs W ℓ H s.sl σ G → (∀ j ∈ js, j ∉ roots G) → G.length ≤ F.length → TmRs W ℓ2 H2 (DL.clrs s.sl js) σ G := by
      intro G
      induction G with
      | nil => exact fun _ _ _ => trivial
      | cons g G ih =>
        obtain ⟨x, v⟩ := g
        intro h hr hl
        have hl' : G.length + 1 ≤ F.length := hl
        refine ⟨?_, ih h.2 (fun j hj m => hr j hj (roots_cons m)) (by omega)⟩
        have h := h.1
        cases x with
        | dat n d =>
          refine Rep.frame (show Rep W ℓ H (.own (.tmp G.length) [] n) v d from h) fun a c => k a ?_
          rcases c with c | ⟨c, _⟩ | ⟨q, c⟩
          · exact .inl c
          · cases c
          · exact .inr (.inr (.inr ⟨G.length, q, by omega, by simpa using c⟩))
        | brw d =>
          refine Rep.frame (show Rep W ℓ H .bw v d from h) fun a c => k a ?_
          rcases c with c | ⟨_, c⟩ | c
          · exact .inl c
          · exact .inr (.inl c)
          · exact c.elim
        | plc j p d =>
          have hj : j ∉ js := fun m => hr j m (by unfold roots; rw [List.filterMap_cons]; exact List.mem_cons_self)
          have T : if owned s.sl j p = true then PlR H s.sl σ j p v d else Rep W ℓ H .fz v d := h
          show if owned (DL.clrs s.sl js) j p = true then PlR H2 (DL.clrs s.sl js) σ j p v d else Rep W ℓ2 H2 .fz v d
          rw [owned_clrs hj]
          by_cases o : owned s.sl j p = true
          · rw [if_pos o] at T ⊢
            exact T.swap hj I.slots fun a q c => (k a (.inr (.inr (.inl ⟨j, q, hj, c⟩)))).1
          · rw [if_neg o] at T ⊢
            exact T.fz fun a c => by obtain ⟨k1, k2⟩ := k a (.inl c); exact ⟨k1, k2.trans c⟩
    exact go I.temps hj (Nat.le_refl _)
theorem SIw.fill (I : SIw W ℓ H B s F σ) (hn : ∀ x, s.sl[j]? ≠ some (some x)) (hr : j ∉ roots F) (hv : σ[j]? = some (some v)) (r : Rep W ℓ H (.own (.slot j) [] n) v d) : SIw W ℓ H B { s with sl := s.sl.set j (some (.dat n d)) } F σ := by
  have hjl : j < s.sl.length := by rw [I.len]; exact (List.getElem?_eq_some_iff.mp hv).1
  have ne : ∀ {i : Nat} {z : SV}, s.sl[i]? = some (some z) → i ≠ j := fun e q => hn _ (by rw [← q]; exact e)
  have get : ∀ {i : Nat}, i ≠ j → (s.sl.set j (some (.dat n d)))[i]? = s.sl[i]? := fun h => List.getElem?_set_ne (Ne.symm h)
  have plr : ∀ {i p v d'}, PlR H s.sl σ i p v d' → PlR H (s.sl.set j (some (.dat n d))) σ i p v d' := fun ⟨n, dj, vj, h1, h2⟩ => ⟨n, dj, vj, (get (ne h1)).trans h1, h2⟩
  refine { I with len := by rw [List.length_set]; exact I.len, slots := fun i z e => ?_, temps := ?_ }
  · have e : (s.sl.set j (some (.dat n d)))[i]? = some (some z) := e
    by_cases hi : i = j
    · subst hi
      rw [List.getElem?_set, if_pos rfl, if_pos hjl] at e
      cases e
      exact ⟨v, hv, r⟩
    · rw [get hi] at e
      obtain ⟨v', e1, e2⟩ := I.slots i z e
      refine ⟨v', e1, ?_⟩
      cases z with
      | dat => exact e2
      | brw => exact e2
      | als j' p => obtain ⟨d', e2⟩ := e2; exact ⟨d', plr e2⟩
  · have go : ∀ {G : Temps}, TmRs W ℓ H s.sl σ G → j ∉ roots G → TmRs W ℓ H (s.sl.set j (some (.dat n d))) σ G := by
      intro G
      induction G with
      | nil => exact fun _ _ => trivial
      | cons g G ih =>
        obtain ⟨x, u⟩ := g
        intro h hr
        refine ⟨?_, ih h.2 fun m => hr (roots_cons m)⟩
        have h := h.1
        cases x with
        | dat => exact h
        | brw => exact h
        | plc i p d' =>
          have hi : i ≠ j := fun q => hr (by unfold roots; rw [List.filterMap_cons, ← q]; exact List.mem_cons_self)
          have T : if owned s.sl i p = true then PlR H s.sl σ i p u d' else Rep W ℓ H .fz u d' := h
          show if owned (s.sl.set j (some (.dat n d))) i p = true then PlR H (s.sl.set j (some (.dat n d))) σ i p u d' else Rep W ℓ H .fz u d'
          have eo : owned (s.sl.set j (some (.dat n d))) i p = owned s.sl i p := by unfold owned; rw [get hi]
          rw [eo]
          by_cases o : owned s.sl i p = true
          · rw [if_pos o] at T ⊢; exact plr T
          · rw [if_neg o] at T ⊢; exact T
    exact go I.temps hr

/-! ### arguments -/
/-- how an argument is handed on: for good (or given away), lent for reading, lent for writing -/
inductive CM | gv | bw | io deriving DecidableEq
def cArg (s : DS) (c : CM) (x : DV) : Option SV := match c, x with
  | .gv, .dat n d => some (.dat n d)
  | .bw, x => some (if x.d.flat = true then .dat 0 x.d else .brw x.d)
  | .io, .plc j [] _ => match s.sl[j]? with
    | some (some (.dat (n + 1) d)) => some (.dat (n + 1) d)
    | _ => none
  | _, _ => none
def cArgs (s : DS) : List CM → List DV → Option (List SV)
  | [], [] => some []
  | c :: cs, x :: xs => match cArg s c x with
    | some a => (cArgs s cs xs).map (a :: ·)
    | none => none
  | _, _ => none
def ioPairs : Nat → List CM → List DV → List (Nat × Nat)
  | i, .io :: cs, .plc j _ _ :: xs => (i, j) :: ioPairs (i + 1) cs xs
  | i, _ :: cs, _ :: xs => ioPairs (i + 1) cs xs
  | _, _, _ => []
def okIo (ps : List (Nat × Nat)) (lk : List Nat) : Bool := ps.all fun p => lk.count p.2 == 1
def fillS (sl : List (Option SV)) : List (Nat × Nat) → List (Nat × D) → List (Option SV)
  | (_, j) :: ps, (n, d) :: r => (fillS sl ps r).set j (some (.dat n d))
  | _, _ => sl
def backS (ps : List (Nat × Nat)) (ios : List (Nat × D)) (xs : List DV) (s : DS) : DS := ⟨fillS (clrs s.sl (ps.map (·.2))) ps ios, s.lk.drop (xs.filterMap DV.root?).length⟩
theorem cArgs_at : ∀ {cs : List CM} {xs : List DV} {as : List SV}, cArgs s cs xs = some as → as.length = xs.length ∧ cs.length = xs.length ∧ ∀ (i : Nat) (c : CM) (x : DV) (a : SV), cs[i]? = some c → xs[i]? = some x → as[i]? = some a → cArg s c x = some a
  | [], [], as, h => by cases h; exact ⟨rfl, rfl, fun i c x a h => by simp at h⟩
  | c :: cs, x :: xs, as, h => by
    unfold cArgs at h
    split at h
    · rename_i a e
      obtain ⟨l, h1, rfl⟩ := Option.map_eq_some_iff.mp h
      obtain ⟨h2, h3, h4⟩ := cArgs_at h1
      refine ⟨by simp [h2], by simp [h3], fun i c' x' a' a1 a2 a3 => ?_⟩
      cases i with
      | zero => simp at a1 a2 a3; subst a1; subst a2; subst a3; exact e
      | succ i => exact h4 i c' x' a' (by simpa using a1) (by simpa using a2) (by simpa using a3)
    · cases h
  | [], _ :: _, _, h => by cases h
  | _ :: _, [], _, h => by cases h
theorem ioPairs_mem : ∀ {cs : List CM} {xs : List DV} {k i j : Nat}, (i, j) ∈ ioPairs k cs xs ↔ k ≤ i ∧ cs[i - k]? = some .io ∧ ∃ p d, xs[i - k]? = some (.plc j p d)
  | [], _, k, i, j => by simp [ioPairs]
  | c :: cs, [], k, i, j => by cases c <;> simp [ioPairs]
  | c :: cs, x :: xs, k, i, j => by
    have ih := @ioPairs_mem cs xs (k + 1) i j
    have shift : (k + 1 ≤ i ∧ cs[i - (k + 1)]? = some .io ∧ ∃ p d, xs[i - (k + 1)]? = some (.plc j p d)) ↔ (k + 1 ≤ i ∧ (c :: cs)[i - k]? = some .io ∧ ∃ p d, (x :: xs)[i - k]? = some (.plc j p d)) := by
      constructor
      · rintro ⟨h1, h2, h3⟩
        have e : i - k = (i - (k + 1)) + 1 := by omega
        rw [e]
        exact ⟨h1, by simpa using h2, by simpa using h3⟩
      · rintro ⟨h1, h2, h3⟩
        have e : i - k = (i - (k + 1)) + 1 := by omega
        rw [e] at h2 h3
        exact ⟨h1, by simpa using h2, by simpa using h3⟩
    have other : ¬ (c = .io ∧ ∃ j p d, x = .plc j p d) → ioPairs k (c :: cs) (x :: xs) = ioPairs (k + 1) cs xs := by
      intro h
      cases c <;> cases x <;> first | exact absurd ⟨rfl, _, _, _, rfl⟩ h | rfl | simp [ioPairs]
    by_cases h : c = .io ∧ ∃ j p d, x = .plc j p d
    · obtain ⟨rfl, j', p', d', rfl⟩ := h
      show (i, j) ∈ (k, j') :: ioPairs (k + 1) cs xs ↔ _
      rw [List.mem_cons, ih, shift]
      constructor
      · rintro (e | ⟨h1, h2, h3⟩)
        · cases e; exact ⟨Nat.le_refl _, by simp, p', d', by simp⟩
        · exact ⟨by omega, h2, h3⟩
      · rintro ⟨h1, h2, p, d, h3⟩
        by_cases e : i = k
        · subst e
          simp at h3
          exact .inl (by rw [h3.1])
        · exact .inr ⟨by omega, h2, p, d, h3⟩
    · rw [other h, ih, shift]
      constructor
      · rintro ⟨h1, h2, h3⟩; exact ⟨by omega, h2, h3⟩
      · rintro ⟨h1, h2, p, d, h3⟩
        refine ⟨?_, h2, p, d, h3⟩
        by_cases e : i = k
        · subst e
          simp at h2 h3
          exact absurd ⟨h2, _, _, _, h3⟩ h
        · omega
end
end DL

set_option Elab.async false
set_option linter.all false
set_option maxRecDepth 100000
/-! D20: calls of defs -/
namespace DL
open PySem PySem.Spec PyProof.Rows L2
section
variable {W : Wd} {XW : WX} {ℓ ℓ' ℓ2 : Addr → Lab} {H H' H2 : Hp} {B : Ent} {s s' : DS} {sl : List (Option SV)} {F G : Temps} {σ σ' : L2.St} {v vx vy : V} {d : D} {x y z : DV} {t : Nat} {ds as bs : List D} {p : List Nat} {i j n : Nat} {m : Md}
def iOf (ps : List (Nat × Nat)) (j : Nat) : Option Nat := (ps.find? fun p => p.2 == j).map (·.1)
def jOf (ps : List (Nat × Nat)) (i : Nat) : Option Nat := (ps.find? fun p => p.1 == i).map (·.2)
theorem iOf_mem {ps : List (Nat × Nat)} (h : iOf ps j = some i) : (i, j) ∈ ps := by
  obtain ⟨⟨a, b⟩, h1, h2⟩ := Option.map_eq_some_iff.mp h
  have h3 := List.find?_some h1
  have h3 : b = j := by simpa using h3
  have h2 : a = i := h2
  subst h2; subst h3
  exact List.mem_of_find?_eq_some h1
theorem iOf_none {ps : List (Nat × Nat)} (h : iOf ps j = none) : j ∉ ps.map (·.2) := by
  intro m
  obtain ⟨p, h1, h2⟩ := List.mem_map.mp m
  have h3 := List.find?_eq_none.mp (Option.map_eq_none_iff.mp h) p h1
  exact h3 (by simpa using h2)
theorem jOf_mem {ps : List (Nat × Nat)} (h : jOf ps i = some j) : (i, j) ∈ ps := by
  obtain ⟨⟨a, b⟩, h1, h2⟩ := Option.map_eq_some_iff.mp h
  have h3 := List.find?_some h1
  have h3 : a = i := by simpa using h3
  have h2 : b = j := h2
  subst h2; subst h3
  exact List.mem_of_find?_eq_some h1
theorem jOf_some {ps : List (Nat × Nat)} (h : (i, j) ∈ ps) : ∃ j', jOf ps i = some j' := by
  cases e : jOf ps i with
  | some j' => exact ⟨j', rfl⟩
  | none =>
    have h3 := List.find?_eq_none.mp (Option.map_eq_none_iff.mp e) _ h
    exact absurd (by simp) h3
theorem iOf_some {ps : List (Nat × Nat)} (h : (i, j) ∈ ps) : ∃ i', iOf ps j = some i' := by
  cases e : iOf ps j with
  | some j' => exact ⟨j', rfl⟩
  | none => exact absurd (List.mem_map.mpr ⟨_, h, rfl⟩) (iOf_none e)
/-- the callee's labels -/
def labIn (ℓ : Addr → Lab) (cs : List CM) (ps : List (Nat × Nat)) (t0 : Nat) : Addr → Lab := fun a => match ℓ a with
  | .own (.tmp t) q => if t0 ≤ t ∧ cs[t - t0]? = some .gv then .own (.slot (t - t0)) q else .bw
  | .own (.slot j) q => match iOf ps j with
    | some i => .own (.slot i) q
    | none => .bw
  | l => l
def labOut (ℓ : Addr → Lab) (cs : List CM) (ps : List (Nat × Nat)) (t0 : Nat) (ℓ' : Addr → Lab) : Addr → Lab := fun a => match labIn ℓ cs ps t0 a with
  | .fz => ℓ a
  | .bw => ℓ a
  | _ => match ℓ' a with
    | .fz => .fz
    | .own (.slot i) q => (match jOf ps i with
      | some j => .own (.slot j) q
      | none => .no)
    | .own (.tmp 0) q => .own (.tmp t0) q
    | _ => .no
section
variable {cs : List CM} {ps : List (Nat × Nat)} {t0 : Nat} {a : Addr}
theorem labIn_no : labIn ℓ cs ps t0 a = .no ↔ ℓ a = .no := by
  unfold labIn
  cases e : ℓ a with
  | own r q =>
    cases r with
    | slot k => 
      simp only []
      cases iOf ps k <;> exact Iff.intro (fun z => by cases z) (fun z => by cases z)
    | tmp k =>
      simp only []
      split <;> exact Iff.intro (fun z => by cases z) (fun z => by cases z)
  | _ => exact Iff.rfl
theorem labIn_fz : labIn ℓ cs ps t0 a = .fz ↔ ℓ a = .fz := by
  unfold labIn
  cases e : ℓ a with
  | own r q =>
    cases r with
    | slot k => 
      simp only []
      cases iOf ps k <;> exact Iff.intro (fun z => by cases z) (fun z => by cases z)
    | tmp k =>
      simp only []
      split <;> exact Iff.intro (fun z => by cases z) (fun z => by cases z)
  | _ => exact Iff.rfl
theorem labIn_bw (h : ℓ a = .bw) : labIn ℓ cs ps t0 a = .bw := by unfold labIn; rw [h]
theorem labIn_slot {q : List Nat} (h : ℓ a = .own (.slot j) q) (hj : j ∉ ps.map (·.2)) : labIn ℓ cs ps t0 a = .bw := by
  unfold labIn
  rw [h]
  simp only []
  cases e : iOf ps j with
  | none => rfl
  | some i => exact absurd (List.mem_map.mpr ⟨_, iOf_mem e, rfl⟩) hj
theorem labIn_io {q : List Nat} (h : ℓ a = .own (.slot j) q) (hj : iOf ps j = some i) : labIn ℓ cs ps t0 a = .own (.slot i) q := by
  unfold labIn
  rw [h]
  simp only [hj]
theorem labIn_lt {q : List Nat} (h : ℓ a = .own (.tmp t) q) (ht : t < t0) : labIn ℓ cs ps t0 a = .bw := by
  unfold labIn
  rw [h]
  exact if_neg fun z => absurd z.1 (by omega)
theorem labIn_gv {q : List Nat} (h : ℓ a = .own (.tmp (t0 + i)) q) (hc : cs[i]? = some .gv) : labIn ℓ cs ps t0 a = .own (.slot i) q := by
  unfold labIn
  rw [h]
  have e : t0 + i - t0 = i := by omega
  show (if t0 ≤ t0 + i ∧ cs[t0 + i - t0]? = some .gv then Lab.own (.slot (t0 + i - t0)) q else .bw) = _
  rw [e, if_pos ⟨by omega, hc⟩]
theorem labIn_ng {q : List Nat} (h : ℓ a = .own (.tmp (t0 + i)) q) (hc : cs[i]? ≠ some .gv) : labIn ℓ cs ps t0 a = .bw := by
  unfold labIn
  rw [h]
  have e : t0 + i - t0 = i := by omega
  show (if t0 ≤ t0 + i ∧ cs[t0 + i - t0]? = some .gv then Lab.own (.slot (t0 + i - t0)) q else .bw) = _
  rw [e, if_neg fun z => hc z.2]
theorem labOut_keep (h : labIn ℓ cs ps t0 a = .fz ∨ labIn ℓ cs ps t0 a = .bw) : labOut ℓ cs ps t0 ℓ' a = ℓ a := by
  unfold labOut
  rcases h with h | h <;> rw [h]
theorem labOut_new (h : ¬ (labIn ℓ cs ps t0 a = .fz ∨ labIn ℓ cs ps t0 a = .bw)) : labOut ℓ cs ps t0 ℓ' a = match ℓ' a with
    | .fz => .fz
    | .own (.slot i) q => (match jOf ps i with
      | some j => .own (.slot j) q
      | none => .no)
    | .own (.tmp 0) q => .own (.tmp t0) q
    | _ => .no := by
  unfold labOut
  cases e : labIn ℓ cs ps t0 a with
  | fz => exact absurd (.inl e) h
  | bw => exact absurd (.inr e) h
  | _ => rfl
theorem labOut_bw (h : labOut ℓ cs ps t0 ℓ' a = .bw) : ℓ a = .bw := by
  by_cases c : labIn ℓ cs ps t0 a = .fz ∨ labIn ℓ cs ps t0 a = .bw
  · rw [← labOut_keep (ℓ' := ℓ') c]; exact h
  · rw [labOut_new c] at h
    split at h
    · cases h
    · split at h <;> cases h
    · cases h
    · cases h
end
/-- the arguments on the stack -/
theorem TmRs.under : ∀ {G : Temps}, TmRs W ℓ H sl σ (G ++ F) → TmRs W ℓ H sl σ F
  | [], h => h
  | _ :: G, h => TmRs.under (G := G) h.2
theorem TmRs.arg : ∀ {xs : List (DV × V)} {i : Nat} {x : DV} {v : V}, TmRs W ℓ H sl σ (xs.reverse ++ F) → xs[i]? = some (x, v) → TmR W ℓ H sl σ (F.length + i) x v := by
  intro xs
  induction xs generalizing F with
  | nil => intro i x v _ h; simp at h
  | cons y ys ih =>
    intro i x v h e
    have h : TmRs W ℓ H sl σ (ys.reverse ++ (y :: F)) := by simpa using h
    cases i with
    | zero =>
      simp at e
      subst e
      exact (TmRs.under (G := ys.reverse) h).1
    | succ i =>
      have := ih (F := y :: F) h (by simpa using e)
      have e2 : (y :: F).length + i = F.length + (i + 1) := by simp; omega
      rw [e2] at this
      exact this
theorem roots_zip : ∀ {xs : List DV} {vs : List V}, vs.length = xs.length → roots (xs.zip vs) = xs.filterMap DV.root?
  | [], vs, _ => rfl
  | x :: xs, [], h => by cases h
  | x :: xs, v :: vs, h => by
    unfold roots
    rw [List.zip_cons_cons, List.filterMap_cons, List.filterMap_cons]
    have ih := roots_zip (xs := xs) (vs := vs) (by simpa using h)
    unfold roots at ih
    rw [ih]
theorem roots_rev {G : Temps} : roots G.reverse = (roots G).reverse := by unfold roots; rw [List.filterMap_reverse]
theorem SIw.dropN (I : SIw W ℓ H B s (G ++ F) σ) : SIw W ℓ H B { s with lk := roots F } F σ := ⟨I.len, I.lab, I.prot, I.bw, I.keep, I.ios, rfl, I.slots, TmRs.under I.temps⟩
theorem count_two {l : List Nat} {i k : Nat} {xs : List DV} (hik : i ≠ k) (h1 : ∃ p d, xs[i]? = some (.plc j p d)) (h2 : ∃ p d, xs[k]? = some (.plc j p d)) : 2 ≤ (xs.filterMap DV.root?).count j := by
  have key : ∀ {xs : List DV} {i k : Nat}, i < k → (∃ p d, xs[i]? = some (.plc j p d)) → (∃ p d, xs[k]? = some (.plc j p d)) → 2 ≤ (xs.filterMap DV.root?).count j := by
    intro xs
    induction xs with
    | nil => intro i k _ ⟨_, _, h⟩; simp at h
    | cons x xs ih =>
      intro i k hik h1 h2
      obtain ⟨k', rfl⟩ : ∃ k', k = k' + 1 := ⟨k - 1, by omega⟩
      have h2 : ∃ p d, xs[k']? = some (.plc j p d) := by simpa using h2
      cases i with
      | zero =>
        obtain ⟨p, d, h1⟩ := h1
        simp at h1
        subst h1
        obtain ⟨p2, d2, h2⟩ := h2
        have m : j ∈ xs.filterMap DV.root? := List.mem_filterMap.mpr ⟨_, List.mem_of_getElem? h2, rfl⟩
        have : 0 < (xs.filterMap DV.root?).count j := List.count_pos_iff.mpr m
        show 2 ≤ ((DV.plc j p d :: xs).filterMap DV.root?).count j
        rw [List.filterMap_cons]
        show 2 ≤ (j :: xs.filterMap DV.root?).count j
        rw [List.count_cons_self]
        omega
      | succ i =>
        have h1 : ∃ p d, xs[i]? = some (.plc j p d) := by simpa using h1
        have := ih (by omega : i < k') h1 h2
        rw [List.filterMap_cons]
        split
        · exact this
        · rw [List.count_cons]; omega
  rcases Nat.lt_or_gt_of_ne hik with l | l
  · exact key l h1 h2
  · exact key l h2 h1

theorem fillS_get : ∀ {ps : List (Nat × Nat)} {ios : List (Nat × D)} {sl : List (Option SV)} {k : Nat}, k ∉ ps.map (·.2) → (fillS sl ps ios)[k]? = sl[k]?
  | [], _, _, _, _ => by unfold fillS; rfl
  | (i, j) :: ps, [], _, _, _ => by unfold fillS; rfl
  | (i, j) :: ps, (n, d) :: r, sl, k, h => by
    unfold fillS
    rw [List.getElem?_set_ne (fun z => h (by rw [← z]; simp))]
    exact fillS_get fun m => h (by simp at m ⊢; exact .inr m)
theorem SIw.fillN {lk : List Nat} : ∀ {ps : List (Nat × Nat)} {ios : List (Nat × D)} {sl : List (Option SV)}, SIw W ℓ H B ⟨sl, lk⟩ F σ → (ps.map (·.2)).Nodup → (∀ j ∈ ps.map (·.2), j ∉ roots F ∧ ∀ x, sl[j]? ≠ some (some x)) →
    (∀ (k i j n : Nat) (d : D), ps[k]? = some (i, j) → ios[k]? = some (n, d) → ∃ v, σ[j]? = some (some v) ∧ Rep W ℓ H (.own (.slot j) [] n) v d) → SIw W ℓ H B ⟨fillS sl ps ios, lk⟩ F σ
  | [], _, sl, I, _, _, _ => by unfold fillS; exact I
  | (i, j) :: ps, [], sl, I, _, _, _ => by unfold fillS; exact I
  | (i, j) :: ps, (n, d) :: r, sl, I, hn, hj, h => by
    have hn' := List.nodup_cons.mp hn
    have J := SIw.fillN (ps := ps) (ios := r) I hn'.2 (fun j' m => hj j' (List.mem_cons_of_mem _ m)) fun k i j n d a b => h (k + 1) i j n d (by simpa using a) (by simpa using b)
    obtain ⟨v, e1, e2⟩ := h 0 i j n d (by simp) (by simp)
    obtain ⟨h1, h2⟩ := hj j List.mem_cons_self
    unfold fillS
    exact J.fill (by show ∀ x, (fillS sl ps r)[j]? ≠ some (some x); rw [fillS_get hn'.1]; exact h2) h1 e1 e2

/-- THE CALL -/
theorem call_ok {f : FD} {io : List Nat} {cs : List CM} {xs : List DV} {vs : List V} {ar : List SV} {Q : VK} {E : XK} (I : SIw W ℓ H B s ((xs.zip vs).reverse ++ F) σ) (hl : vs.length = xs.length) (ha : cArgs s cs xs = some ar)
    (hio : (ioPairs 0 cs xs).map (·.1) = io) (hok : okIo (ioPairs 0 cs xs) s.lk = true)
    (hq : match f ar with
      | .no => False
      | .ok n d ios => ∀ v H', SI W B (backS (ioPairs 0 cs xs) ios xs s) ((.dat n d, v) :: F) σ H' → Q v H'
      | .ex C pl ios => ∀ cls dd H', SIx W B (backS (ioPairs 0 cs xs) ios xs s) F σ H' C pl cls dd → E cls dd H') : spD (W.1, W.2.1, io00) io vs.length f vs H Q E := by
  obtain ⟨hal, hcl, hat⟩ := cArgs_at ha
  generalize hps : ioPairs 0 cs xs = ps at *
  have memP : ∀ {i j}, (i, j) ∈ ps ↔ cs[i]? = some .io ∧ ∃ p d, xs[i]? = some (.plc j p d) := fun {i j} => by rw [← hps, ioPairs_mem]; simp
  have lkE : s.lk = (xs.filterMap DV.root?).reverse ++ roots F := by rw [I.lks, roots_app, roots_rev, roots_zip hl]
  have cnt : ∀ {i j}, (i, j) ∈ ps → (xs.filterMap DV.root?).count j + (roots F).count j = 1 := fun {i j} m => by
    have z := List.all_eq_true.mp hok _ m
    have z : s.lk.count j = 1 := by simpa using z
    rw [lkE, List.count_append, List.count_reverse] at z
    exact z
  have uniq : ∀ {i k j}, (i, j) ∈ ps → (∃ p d, xs[k]? = some (.plc j p d)) → k = i := fun {i k j} m h => by
    have c := cnt m
    obtain ⟨_, h1⟩ := memP.mp m
    by_cases e : k = i
    · exact e
    · have := count_two (l := []) e h h1
      omega
  have notF : ∀ {i j}, (i, j) ∈ ps → j ∉ roots F := fun {i j} m hr => by
    have c := cnt m
    obtain ⟨_, p, d, h1⟩ := memP.mp m
    have m1 : j ∈ xs.filterMap DV.root? := List.mem_filterMap.mpr ⟨_, List.mem_of_getElem? h1, rfl⟩
    have := List.count_pos_iff.mpr m1
    have := List.count_pos_iff.mpr hr
    omega
  have jU : ∀ {i j j'}, (i, j) ∈ ps → (i, j') ∈ ps → j = j' := fun {i j j'} a b => by
    obtain ⟨_, p, d, h1⟩ := memP.mp a
    obtain ⟨_, p', d', h2⟩ := memP.mp b
    rw [h1] at h2; cases h2; rfl
  have iOfE : ∀ {i j}, (i, j) ∈ ps → iOf ps j = some i := fun {i j} m => by
    obtain ⟨i', e⟩ := iOf_some m
    have := uniq m (memP.mp (iOf_mem e)).2
    rw [e, this]
  have jOfE : ∀ {i j}, (i, j) ∈ ps → jOf ps i = some j := fun {i j} m => by
    obtain ⟨j', e⟩ := jOf_some m
    rw [e, jU (jOf_mem e) m]
  -- each argument
  have arg : ∀ {i x v}, xs[i]? = some x → vs[i]? = some v → TmR W ℓ H s.sl σ (F.length + i) x v := fun {i x v} h1 h2 => TmRs.arg I.temps (by rw [List.getElem?_zip_eq_some]; exact ⟨h1, h2⟩)
  have ioV : ∀ {i j}, (i, j) ∈ ps → ∃ n d v, ar[i]? = some (.dat (n + 1) d) ∧ s.sl[j]? = some (some (.dat (n + 1) d)) ∧ vs[i]? = some v ∧ σ[j]? = some (some v) ∧ Rep W ℓ H (.own (.slot j) [] (n + 1)) v d := fun {i j} m => by
    obtain ⟨h1, p, d0, h2⟩ := memP.mp m
    have hi : i < xs.length := (List.getElem?_eq_some_iff.mp h2).1
    have ea : ar[i]? = some (ar[i]'(by omega)) := List.getElem?_eq_getElem _
    have ev : vs[i]? = some (vs[i]'(by omega)) := List.getElem?_eq_getElem _
    have c := hat i _ _ _ h1 h2 ea
    unfold cArg at c
    cases p with
    | cons => cases c
    | nil =>
      simp only [] at c
      split at c
      · rename_i n d e
        injection c with c
        refine ⟨n, d, _, by rw [ea, c], e, ev, ?_⟩
        have T := arg h2 ev
        have T : if owned s.sl j [] = true then PlR H s.sl σ j [] _ d0 else Rep W ℓ H .fz _ d0 := T
        rw [if_pos (owned_iff.mpr ⟨_, _, e, (show ([] : List Nat).length < n + 1 from Nat.succ_pos n)⟩)] at T
        obtain ⟨n', dj, vj, k1, k2, k3, k4, k5, k6⟩ := T
        rw [e] at k1; cases k1
        generalize hw : vs[i]'(by omega) = w at k4 ⊢
        cases k4
        obtain ⟨v', e1, e2⟩ := I.slots j _ e
        rw [k3] at e1; cases e1
        exact ⟨k3, e2⟩
      · cases c
  refine ⟨rfl, labIn ℓ cs ps F.length, ar, by omega, fun a h => I.lab a fun z => h (labIn_no.mpr z), fun i v a h1 h2 => ?_, ?_⟩
  · -- what an argument stands for
    have hi : i < xs.length := by have := (List.getElem?_eq_some_iff.mp h1).1; omega
    have ex : xs[i]? = some (xs[i]'hi) := List.getElem?_eq_getElem _
    have ec : cs[i]? = some (cs[i]'(by omega)) := List.getElem?_eq_getElem _
    have T := arg ex h1
    have c := hat i _ _ _ ec ex h2
    generalize hcm : cs[i]'(by omega) = cm at c ec
    generalize hxx : xs[i]'hi = x at c ex T
    cases cm with
    | gv =>
      cases x with
      | dat n d =>
        cases c
        have T : Rep W ℓ H (.own (.tmp (F.length + i)) [] n) v d := T
        have := T.mv (r' := .slot i) (p' := []) (ℓ' := labIn ℓ cs ps F.length) (H' := H) (fun a z => ⟨rfl, labIn_fz.mpr z⟩) fun a q z => ⟨rfl, labIn_gv z ec⟩
        exact Rep.chW (W := W) (W' := (W.1, W.2.1, io00)) this rfl rfl
      | brw => cases c
      | plc => cases c
    | bw =>
      have c : some (if x.d.flat = true then SV.dat 0 x.d else .brw x.d) = some a := c
      injection c with c
      have any : ∃ m, Rep W ℓ H m v x.d ∧ ∀ b, m.cov (ℓ b) → labIn ℓ cs ps F.length b = .fz ∨ labIn ℓ cs ps F.length b = .bw := by
        cases x with
        | dat n d =>
          refine ⟨.own (.tmp (F.length + i)) [] n, T, fun b hb => ?_⟩
          rcases hb with hb | ⟨hb, _⟩ | ⟨q, hb⟩
          · exact .inl (labIn_fz.mpr hb)
          · cases hb
          · exact .inr (labIn_ng (by simpa using hb) (by rw [ec]; exact fun z => nomatch z))
        | brw d =>
          refine ⟨.bw, T, fun b hb => ?_⟩
          rcases hb with hb | ⟨_, hb⟩ | hb
          · exact .inl (labIn_fz.mpr hb)
          · exact .inr (labIn_bw hb)
          · exact hb.elim
        | plc j p d =>
          have T : if owned s.sl j p = true then PlR H s.sl σ j p v d else Rep W ℓ H .fz v d := T
          by_cases o : owned s.sl j p = true
          · rw [if_pos o] at T
            obtain ⟨n', dj, vj, k1, k2, k3, k4, k5, k6⟩ := T
            obtain ⟨v', e1, e2⟩ := I.slots j _ k1
            rw [k3] at e1; cases e1
            refine ⟨_, k4.rep e2 (Nat.le_of_lt k2) k5, fun b hb => ?_⟩
            have nj : j ∉ ps.map (·.2) := fun z => by
              obtain ⟨⟨i', j'⟩, m, ej⟩ := List.mem_map.mp z
              have ej : j' = j := ej
              subst ej
              have e := uniq m ⟨p, d, ex⟩
              subst e
              obtain ⟨h, _⟩ := memP.mp m
              rw [ec] at h; cases h
            rcases hb with hb | ⟨hb, _⟩ | hb
            · exact .inl (labIn_fz.mpr hb)
            · cases hq2 : n' - p.length <;> rw [hq2] at hb <;> cases hb
            · have : ∃ q, ℓ b = .own (.slot j) q := by
                cases hq2 : n' - p.length <;> rw [hq2] at hb
                all_goals (obtain ⟨q, hb⟩ := hb; exact ⟨_, hb⟩)
              obtain ⟨q, hb⟩ := this
              exact .inr (labIn_slot hb nj)
          · rw [if_neg o] at T
            refine ⟨.fz, T, fun b hb => ?_⟩
            rcases hb with hb | ⟨hb, _⟩ | hb
            · exact .inl (labIn_fz.mpr hb)
            · cases hb
            · exact hb.elim
      obtain ⟨m, r, k⟩ := any
      by_cases fl : x.d.flat = true
      · rw [if_pos fl] at c
        subst c
        exact Rep.chW (W := W) (W' := (W.1, W.2.1, io00)) (r.flat fl) rfl rfl
      · rw [if_neg fl] at c
        subst c
        exact Rep.chW (W := W) (W' := (W.1, W.2.1, io00)) (r.lend fun b hb => ⟨rfl, k b hb⟩) rfl rfl
    | io =>
      cases x with
      | dat => cases c
      | brw => cases c
      | plc j p d0 =>
        have m : (i, j) ∈ ps := memP.mpr ⟨ec, p, d0, ex⟩
        obtain ⟨n, d, v', a1, a2, a3, a4, r⟩ := ioV m
        rw [h1] at a3; cases a3
        rw [h2] at a1; cases a1
        have := r.mv (r' := .slot i) (p' := []) (ℓ' := labIn ℓ cs ps F.length) (H' := H) (fun a z => ⟨rfl, labIn_fz.mpr z⟩) fun a q z => ⟨rfl, labIn_io z (iOfE m)⟩
        exact Rep.chW (W := W) (W' := (W.1, W.2.1, io00)) this rfl rfl
  · -- behind the call
    have back : ∀ {ℓ' H' ios}, Post (W.1, W.2.1, io00) (labIn ℓ cs ps F.length) H ℓ' H' vs io ios → SIw W (labOut ℓ cs ps F.length ℓ') H' B (backS ps ios xs s) F σ ∧
        (∀ a, ℓ' a = .fz → labOut ℓ cs ps F.length ℓ' a = .fz) ∧ (∀ a q, ℓ' a = .own (.tmp 0) q → labOut ℓ cs ps F.length ℓ' a = .own (.tmp F.length) q) := by
      intro ℓ' H' ios P
      have fzO : ∀ a, ℓ' a = .fz → labOut ℓ cs ps F.length ℓ' a = .fz := fun a h => by
        by_cases c : labIn ℓ cs ps F.length a = .fz ∨ labIn ℓ cs ps F.length a = .bw
        · rw [labOut_keep c]
          rcases c with c | c
          · exact labIn_fz.mp c
          · have := (P.prot a (.inr c)).2
            rw [h, c] at this; cases this
        · rw [labOut_new c, h]
      have notP : ∀ {a r q}, ℓ' a = .own r q → ¬ (labIn ℓ cs ps F.length a = .fz ∨ labIn ℓ cs ps F.length a = .bw) := fun {a r q} h c => by
        have := (P.prot a c).2
        rw [h] at this
        rcases c with c | c <;> (rw [c] at this; cases this)
      refine ⟨?_, fzO, fun a q h => by rw [labOut_new (notP h), h]; rfl⟩
      have jsF : ∀ j ∈ ps.map (·.2), j ∉ roots F := fun j hj => by
        obtain ⟨⟨i, j'⟩, m, e⟩ := List.mem_map.mp hj
        have e : j' = j := e
        subst e
        exact notF m
      have nd : (ps.map (·.2)).Nodup := by
        unfold List.Nodup
        rw [List.pairwise_iff_getElem]
        intro a b ha' hb hab e
        have hb' : b < ps.length := by simpa using hb
        have eb : ps[b]? = some (ps[b]) := List.getElem?_eq_getElem _
        have ea : ps[a]? = some (ps[a]'(by omega)) := List.getElem?_eq_getElem _
        have e : (ps[a]'(by omega)).2 = ps[b].2 := by simpa using e
        have ma : ((ps[a]'(by omega)).1, (ps[a]'(by omega)).2) ∈ ps := List.getElem_mem _
        have mb : (ps[b].1, ps[b].2) ∈ ps := List.getElem_mem _
        have e1 : (ps[a]'(by omega)).1 = ps[b].1 := by
          rw [← e] at mb
          exact uniq mb (memP.mp ma).2
        have srt : ∀ {cs : List CM} {xs : List DV} {k a b : Nat} {p q : Nat × Nat}, a < b → (ioPairs k cs xs)[a]? = some p → (ioPairs k cs xs)[b]? = some q → p.1 < q.1 := by
          intro cs
          induction cs with
          | nil => intro xs k a b p q _ h; simp [ioPairs] at h
          | cons c cs ih =>
            intro xs k a b p q hab h1 h2
            cases xs with
            | nil => cases c <;> simp [ioPairs] at h1
            | cons x xs =>
              have other : ∀ {l}, ioPairs k (c :: cs) (x :: xs) = l → l = ioPairs (k + 1) cs xs → p.1 < q.1 := fun {l} e1 e2 => by
                rw [e1, e2] at h1 h2
                exact ih hab h1 h2
              cases c with
              | gv => exact other rfl rfl
              | bw => exact other rfl rfl
              | io =>
                cases x with
                | dat => exact other rfl rfl
                | brw => exact other rfl rfl
                | plc j p' d =>
                  have h1 : ((k, j) :: ioPairs (k + 1) cs xs)[a]? = some p := h1
                  have h2 : ((k, j) :: ioPairs (k + 1) cs xs)[b]? = some q := h2
                  cases b with
                  | zero => omega
                  | succ b =>
                    have h2 : (ioPairs (k + 1) cs xs)[b]? = some q := by simpa using h2
                    cases a with
                    | zero =>
                      simp at h1
                      rw [← h1]
                      have m : (q.1, q.2) ∈ ioPairs (k + 1) cs xs := List.mem_of_getElem? h2
                      exact (ioPairs_mem.mp m).1
                    | succ a => exact ih (a := a) (b := b) (by omega) (by simpa using h1) h2
        have := srt hab (by rw [hps]; exact ea) (by rw [hps]; exact eb)
        omega
      have J := (I.dropN).swap (H2 := H') (ℓ2 := labOut ℓ cs ps F.length ℓ') (ps.map (·.2)) jsF (fun a c => ?_) (fun a c => ?_) (fun a c => labOut_bw c) P.keep
      · have lkD : s.lk.drop (xs.filterMap DV.root?).length = roots F := by
          rw [lkE]
          rw [List.drop_append_of_le_length (by simp)]
          rw [List.drop_of_length_le (by simp)]
          rfl
        unfold backS
        rw [lkD]
        refine SIw.fillN J nd (fun j hj => ⟨jsF j hj, fun x e => (clrs_keep e).1 hj⟩) fun k i j n d a1 a2 => ?_
        have m : (i, j) ∈ ps := List.mem_of_getElem? a1
        obtain ⟨_, _, v, _, _, b3, b4, _⟩ := ioV m
        refine ⟨v, b4, ?_⟩
        have hk : io[k]? = some i := by rw [← hio, List.getElem?_map, a1]; rfl
        have r := P.io k i n d v hk a2 b3
        have r := Rep.chW (W := (W.1, W.2.1, io00)) (W' := W) r rfl rfl
        exact r.mv (fun a z => ⟨rfl, fzO a z⟩) fun a q z => ⟨rfl, by rw [labOut_new (notP z), z]; simp only [jOfE m]⟩
      · have c' : labIn ℓ cs ps F.length a = .fz ∨ labIn ℓ cs ps F.length a = .bw := by
          rcases c with c | c | ⟨i, q, hi, c⟩ | ⟨t, q, ht, c⟩
          · exact .inl (labIn_fz.mpr c)
          · exact .inr (labIn_bw c)
          · exact .inr (labIn_slot c hi)
          · exact .inr (labIn_lt c ht)
        exact ⟨(P.prot a c').1, labOut_keep c'⟩
      · by_cases c' : labIn ℓ cs ps F.length a = .fz ∨ labIn ℓ cs ps F.length a = .bw
        · rw [labOut_keep c'] at c
          exact P.keep a (I.lab a c)
        · refine P.lab a fun z => c ?_
          rw [labOut_new c', z]
    cases e : f ar with
    | no => rw [e] at hq; exact hq
    | ok n d ios =>
      rw [e] at hq
      intro ℓ' v H' P r
      obtain ⟨J, k1, k2⟩ := back P
      refine hq v H' ⟨_, J.push (x := .dat n d) ?_ rfl⟩
      have r := Rep.chW (W := (W.1, W.2.1, io00)) (W' := W) r rfl rfl
      exact Rep.mv (r' := .tmp F.length) (p' := []) r (fun a z => ⟨rfl, k1 a z⟩) fun a q z => ⟨rfl, k2 a _ z⟩
    | ex C pl ios =>
      rw [e] at hq
      intro ℓ' cls dd H' Ca P h1 h2 h3
      obtain ⟨J, k1, k2⟩ := back P
      refine hq cls dd H' ⟨_, Ca, J, h1, h2, ?_⟩
      have h3 := PlOk.chW (W := (W.1, W.2.1, io00)) (W' := W) h3 rfl rfl
      cases pl with
      | nil => exact h3
      | cons p pl =>
        obtain ⟨a, fs, b1, b2, b3, b4, b5⟩ := h3
        exact ⟨a, fs, b1, k1 a b2, b3, b4, fun k n v n' d a1 a2 => (b5 k n v n' d a1 a2).fz fun a z => ⟨rfl, k1 a z⟩⟩
end
end DL

set_option Elab.async false
set_option linter.all false
set_option maxRecDepth 100000
/-! D21: calls of defs as expressions: positional, with defaults, with keywords, of methods -/
namespace DL
open PySem PySem.Spec PyProof.Rows L2
def callG (f : FD) (io : List Nat) (cs : List CM) (r : AR) : ER := match r with
  | .ok xs s => match cArgs s cs xs with
    | some ar => if ((ioPairs 0 cs xs).map (·.1) == io && okIo (ioPairs 0 cs xs) s.lk) = true then (match f ar with
      | .ok n d ios => .ok (.dat n d) (backS (ioPairs 0 cs xs) ios xs s)
      | .ex C pl ios => .ex C pl (backS (ioPairs 0 cs xs) ios xs s)
      | .no => .no) else .no
    | none => .no
  | .ex C pl s => .ex C pl s
  | .no => .no
section
variable {W : Wd} {XW : WX} {ℓ : Addr → Lab} {H : Hp} {B : Ent} {s s1 : DS} {F : Temps} {σ : L2.St}
theorem callG_ok {f : FD} {io : List Nat} {cs : List CM} {xs : List DV} {vs : List V} {Q : VK} (I : SI W B s ((xs.zip vs).reverse ++ F) σ H) (hl : vs.length = xs.length) (h : EC W XW B F σ Q (callG f io cs (.ok xs s))) : spD (W.1, W.2.1, io00) io vs.length f vs H Q (WE XW σ) := by
  obtain ⟨ℓ, I⟩ := I
  unfold callG at h
  simp only [] at h
  cases ea : cArgs s cs xs with
  | none => simp only [ea] at h; exact h.elim
  | some ar =>
    simp only [ea] at h
    by_cases c : ((ioPairs 0 cs xs).map (·.1) == io && okIo (ioPairs 0 cs xs) s.lk) = true
    · rw [if_pos c] at h
      simp only [Bool.and_eq_true] at c
      have c1 : (ioPairs 0 cs xs).map (·.1) = io := by simpa using c.1
      refine call_ok (B := B) (F := F) (σ := σ) I hl ea c1 c.2 ?_
      cases e : f ar with
      | no => simp only [e] at h; exact h
      | ok n d ios => simp only [e] at h; exact h
      | ex C pl ios => simp only [e] at h; exact h
    · rw [if_neg c] at h; exact h.elim
/-- constants behind the written arguments -/
def withD (ds : List D) (r : AR) : AR := match r with
  | .ok xs s => .ok (xs ++ ds.map (.dat 0)) s
  | .ex C pl s => .ex C pl s
  | .no => .no
def Flats (dvs : List V) (ds : List D) : Prop := dvs.length = ds.length ∧ ∀ (W : Wd) (ℓ : Addr → Lab) (H : Hp) (k : Nat) (v : V) (d : D), dvs[k]? = some v → ds[k]? = some d → Rep W ℓ H .fz v d
theorem flats_nil : Flats [] [] := ⟨rfl, fun _ _ _ k v d h => by simp at h⟩
theorem flats_cons {v : V} {d : D} {vs : List V} {ds : List D} (h : ∀ W ℓ H, Rep W ℓ H .fz v d) (r : Flats vs ds) : Flats (v :: vs) (d :: ds) := by
  refine ⟨by simp [r.1], fun W ℓ H k w e a b => ?_⟩
  cases k with
  | zero => simp at a b; subst a; subst b; exact h W ℓ H
  | succ k => exact r.2 W ℓ H k w e (by simpa using a) (by simpa using b)
theorem SIw.flatsD {dvs : List V} {ds : List D} (I : SIw W ℓ H B s F σ) (h : Flats dvs ds) : SIw W ℓ H B s (((ds.map (DV.dat 0)).zip dvs).reverse ++ F) σ := by
  have key : ∀ {dvs : List V} {ds : List D} {F : Temps}, dvs.length = ds.length → (∀ (k : Nat) (v : V) (d : D), dvs[k]? = some v → ds[k]? = some d → Rep W ℓ H .fz v d) → SIw W ℓ H B s F σ → SIw W ℓ H B s (((ds.map (DV.dat 0)).zip dvs).reverse ++ F) σ := by
    intro dvs
    induction dvs with
    | nil => intro ds F hl _ I; cases ds with
      | nil => exact I
      | cons => cases hl
    | cons v vs ih =>
      intro ds F hl hr I
      cases ds with
      | nil => cases hl
      | cons d ds =>
        have J : SIw W ℓ H B s ((.dat 0 d, v) :: F) σ := I.push (Rep.own0.mpr (hr 0 v d (by simp) (by simp))) rfl
        have := ih (ds := ds) (F := (.dat 0 d, v) :: F) (by simpa using hl) (fun k v d a b => hr (k + 1) v d (by simpa using a) (by simpa using b)) J
        simpa using this
  exact key h.1 (fun k v d a b => h.2 W ℓ H k v d a b) I
/-- one list of arguments behind another -/
def apA (f g : DS → AR) (s : DS) : AR := match f s with
  | .ok xs s1 => match g s1 with
    | .ok ys s2 => .ok (xs ++ ys) s2
    | .ex C pl s2 => .ex C pl { s2 with lk := s2.lk.drop (xs.filterMap DV.root?).length }
    | .no => .no
  | r => r
theorem dropX {xs : List DV} {vs : List V} {C : Str} {pl : List (Str × D)} {cls : Value} {dd : Option Addr} (hl : vs.length = xs.length) (I : SIx W B s ((xs.zip vs).reverse ++ F) σ H C pl cls dd) : SIx W B { s with lk := s.lk.drop (xs.filterMap DV.root?).length } F σ H C pl cls dd := by
  obtain ⟨ℓ, Ca, I, h⟩ := I
  have e : s.lk.drop (xs.filterMap DV.root?).length = roots F := by
    rw [I.lks, roots_app, roots_rev, roots_zip hl, List.drop_append_of_le_length (by simp), List.drop_of_length_le (by simp)]
    rfl
  rw [e]
  exact ⟨ℓ, Ca, I.dropN, h⟩
end
section
variable {X : Cx} {XW : WXI} {k : Nat} {f C : Addr} {fd : FuncData} {ps : List Str} {x m : Str} {p pos apos : Pos} {e o : Expr} {es : List Expr} {fn : FD} {io : List Nat} {cs : List CM} {fs : List EF} {dvs : List V} {ds : List D} {dus : List Value}
abbrev CallOk (X : Cx) (k : Nat) (f : Addr) (fd : FuncData) (ps : List Str) (io : List Nat) (fn : FD) : Prop := FnOk X.prog X.w X.K X.mg X.base (L2.CX X.prog X.w) k f fd ps (spD (X.K, X.mg, io00) io ps.length fn)
def eCallF (fn : FD) (io : List Nat) (cs : List CM) (ds : List D) (fs : List EF) : EF := fun s => callG fn io cs (withD ds (evA fs s))
theorem tCallSD_ {np : Nat} {σ : L2.St} {H : Hp} {Q : VK} {W : Wd} (hnp : fs.length + ds.length = np) (hd : Flats dvs ds) (h : tD W XW.1 (eCallF fn io cs ds fs) σ H Q) : tCallSD (spD (W.1, W.2.1, io00) io np fn) dvs (WE XW.1) (tDA W XW.1 (evA fs)) σ H Q := by
  obtain ⟨B, s, F, I, h⟩ := h
  refine ⟨B, s, F, I, ?_⟩
  unfold eCallF at h
  cases e : evA fs s with
  | no => rw [e] at h; exact h
  | ex C pl s1 => rw [e] at h; exact h
  | ok xs s1 =>
    rw [e] at h
    intro vs H1 hl ⟨ℓ, I1⟩
    have hx := evA_len e
    have J := I1.flatsD hd
    have e2 : ((ds.map (DV.dat 0)).zip dvs).reverse ++ ((xs.zip vs).reverse ++ F) = ((xs ++ ds.map (DV.dat 0)).zip (vs ++ dvs)).reverse ++ F := by
      rw [List.zip_append hl.symm, List.reverse_append, List.append_assoc]
    rw [e2] at J
    have z := callG_ok (XW := XW.1) (f := fn) (io := io) (cs := cs) (xs := xs ++ ds.map (DV.dat 0)) (vs := vs ++ dvs) ⟨ℓ, J⟩ (by simp [hl, hd.1]) h
    have en : (vs ++ dvs).length = np := by rw [List.length_append, hl, hx, hd.1]; exact hnp
    rw [en] at z
    exact z
/-- x(e, ..), the constants ds filling up -/
theorem pd_call (F : CallOk X k f fd ps io fn) (hr : Room k X.A) (tk : Takes X XW.1) (hg : Gl X x) (hm : X.mg x = some (.ref f)) (hk : PySem.W.keepIn X.K (.ref f) = true) (hb : Binds X.K fd ps dus) (hdv : Vals dvs dus) (hd : Flats dvs ds) (ha : PAd X XW (e :: es) (evA fs)) (hn : fs.length + ds.length = ps.length)
    (hdb : (x == ("__debug__" : Str)) = false := by decide) (he : starEach (e :: es) X.env = (false, eval e X.env) :: starEach es X.env := by rfl) (hpl : (backTo pos (starEach es X.env)).any (·.1) = false := by rfl) : PEd X XW (.Call (.Name x p) (e :: es) [] pos) (eCallF fn io cs ds fs) :=
  ⟨PE.imp (pe_callSD F hr hg hm hk hb hdv (passAt tk) ha.p hdb he hpl) fun _ _ _ h => tCallSD_ hn hd h⟩
/-- o.m(e, ..) : o the first argument -/
def isObj (C m : Str) : D → Bool
  | .obj C' fs => decide (C' = C) && !(fs.map (·.1)).contains m
  | _ => false
def eMethF (C m : Str) (fn : FD) (io : List Nat) (cs : List CM) (ds : List D) (fo : EF) (fs : List EF) : EF := fun s => match fo s with
  | .ok x s1 => if isObj C m x.d = true then callG fn io cs (withD ds (match evA fs s1 with
      | .ok xs s2 => .ok (x :: xs) s2
      | .ex C pl s2 => .ex C pl (unl x s2)
      | .no => .no)) else .no
  | r => r
theorem lookup_none {α : Type} {l : List (Str × α)} {m : Str} (h : (l.map (·.1)).contains m = false) : l.lookup m = none := by
  cases e : l.lookup m with
  | none => rfl
  | some v =>
    have : (m, v) ∈ l := PySem.mem_of_lookup e
    have : m ∈ l.map (·.1) := List.mem_map.mpr ⟨_, this, rfl⟩
    rw [List.contains_iff_mem.mpr this] at h; cases h
def tMethS (C : Addr) (m : Str) (sp : Sp) (dvs : List V) (E : L2.St → XK) (ta : TE) (t : TA) : TE := fun σ H Q => ta σ H fun x H1 => ∃ a dx fs, x = .ref a ∧ H1 a = some (.ins C dx fs) ∧ fs.lookup m = none ∧ t σ H1 fun vs H2 => sp (x :: (vs ++ dvs)) H2 Q (E σ)
theorem pe_methS {CX : CXT} {sp : Sp} {E : L2.St → XK} {ta : TE} {t : TA} {pl : Sem Bool} (ho : PE X o ta) (c : Cls X.K C) (hm : Meth X.K C m f) (F : FnOk X.prog X.w X.K X.mg X.base CX k f fd ps sp) (hr : Room k X.A) (hb : Binds X.K fd ps dus) (hdv : Vals dvs dus) (hx : ∀ σ, PassesAt CX X σ (E σ)) (ha : PA X (e :: es) t)
    (h1 : starEach (e :: es) X.env = (false, eval e X.env) :: starEach es X.env) (h2 : (backTo pos (starEach es X.env)).any (·.1) = false)
    (ht : eval (.Call (.Attribute o m apos) (e :: es) [] pos) X.env = (do
      let ov ← eval o X.env
      standAt apos.atName
      let (g, fst) ← holding [ov] (getMethod ov m pl)
      callWith pos g fst (backTo pos (starEach (e :: es) X.env)) (backToKw pos (keywordEach [] X.env)))) : PE X (.Call (.Attribute o m apos) (e :: es) [] pos) (tMethS C m sp dvs E ta t) := by
  constructor
  intro pins s σ H Q J h
  refine PySem.W.methodCall_KW (pl := pl) (thn (ho.run pins s σ H _ J h) ?_) ht
  rintro u s1 ⟨y, H1, J1, ry, a, dx, gs, rfl, ea, l, q⟩
  cases ry
  refine getmeth_ok J1 ea c hm l ?_
  refine PySem.W.callWith_K (first := [.ref a]) (h₀ := X.base) J.ok.mod.kin hm.kp (thn (ha.run pos pins s1 σ H1 _ J1 q) ?_) h1 h2
  rintro us s2 ⟨vs, H2, J2, r, q2⟩
  exact ⟨J2.kIn, run_fnSD (us := .ref a :: us) (vs := .ref a :: vs) F hr hb hdv (hx σ) J2 (.cons rfl r) q2⟩
theorem pe_methS0 {CX : CXT} {sp : Sp} {E : L2.St → XK} {ta : TE} {pl : Sem Bool} (ho : PE X o ta) (c : Cls X.K C) (hm : Meth X.K C m f) (F : FnOk X.prog X.w X.K X.mg X.base CX k f fd ps sp) (hr : Room k X.A) (hb : Binds X.K fd ps dus) (hdv : Vals dvs dus) (hx : ∀ σ, PassesAt CX X σ (E σ))
    (ht : eval (.Call (.Attribute o m apos) [] [] pos) X.env = (do
      let ov ← eval o X.env
      standAt apos.atName
      let (g, fst) ← holding [ov] (getMethod ov m pl)
      callWith pos g fst (backTo pos (starEach [] X.env)) (backToKw pos (keywordEach [] X.env)))) : PE X (.Call (.Attribute o m apos) [] [] pos) (tMethS C m sp dvs E ta tNil) := by
  constructor
  intro pins s σ H Q J h
  refine PySem.W.methodCall_KW (pl := pl) (thn (ho.run pins s σ H _ J h) ?_) ht
  rintro u s1 ⟨y, H1, J1, ry, a, dx, gs, rfl, ea, l, q⟩
  cases ry
  refine getmeth_ok J1 ea c hm l ?_
  exact PySem.W.callWith_K0 (first := [.ref a]) J1.kIn hm.kp (run_fnSD (us := [.ref a]) (vs := [.ref a]) F hr hb hdv (hx σ) J1 (.cons rfl .nil) q)
theorem isObj_ins {W : Wd} {ℓ : Addr → Lab} {H : Hp} {md : Md} {v : V} {d : D} {Cn : Str} (r : Rep W ℓ H md v d) (h : isObj Cn m d = true) : ∃ a Ca dx fs, v = .ref a ∧ W.2.1 Cn = some (.ref Ca) ∧ H a = some (.ins Ca dx fs) ∧ fs.lookup m = none := by
  cases r with
  | obj h0 h1 h2 h3 =>
    unfold isObj at h
    simp only [Bool.and_eq_true, decide_eq_true_eq, Bool.not_eq_true'] at h
    obtain ⟨rfl, hc⟩ := h
    exact ⟨_, _, _, _, rfl, h0, h1.ins, lookup_none (by rw [h2]; exact hc)⟩
  | _ => cases h
theorem tMethF_ {np : Nat} {σ : L2.St} {H : Hp} {Q : VK} {W : Wd} {Cn : Str} {fo : EF} (hC : W.2.1 Cn = some (.ref C)) (hnp : 1 + fs.length + ds.length = np) (hd : Flats dvs ds) (h : tD W XW.1 (eMethF Cn m fn io cs ds fo fs) σ H Q) :
    tMethS C m (spD (W.1, W.2.1, io00) io np fn) dvs (WE XW.1) (tD W XW.1 fo) (tDA W XW.1 (evA fs)) σ H Q := by
  obtain ⟨B, s, F, I, h⟩ := h
  refine ⟨B, s, F, I, ?_⟩
  unfold eMethF at h
  cases e0 : fo s with
  | no => simp only [e0] at h; exact h
  | ex C pl s1 => simp only [e0] at h; exact h
  | ok x s1 =>
    simp only [e0] at h
    intro vx H0 I0
    by_cases c : isObj Cn m x.d = true
    · rw [if_pos c] at h
      obtain ⟨ℓ0, I0'⟩ := id I0
      obtain ⟨md, r⟩ := I0'.tmp
      obtain ⟨a, Ca, dx, gs, rfl, h1, h2, h3⟩ := isObj_ins r c
      have eC : Ca = C := by rw [hC] at h1; cases h1; rfl
      subst eC
      refine ⟨a, dx, gs, rfl, h2, h3, B, s1, _, I0, ?_⟩
      cases e : evA fs s1 with
      | no => simp only [e] at h; exact h
      | ex C pl s2 => simp only [e] at h; exact fun cls dd H' I' => h cls dd H' I'.drop
      | ok xs s2 =>
        simp only [e] at h
        intro vs H1 hl ⟨ℓ, I1⟩
        have hx := evA_len e
        have J := I1.flatsD hd
        have e2 : ((ds.map (DV.dat 0)).zip dvs).reverse ++ ((xs.zip vs).reverse ++ (x, V.ref a) :: F) = ((x :: xs ++ ds.map (DV.dat 0)).zip (V.ref a :: (vs ++ dvs))).reverse ++ F := by
          rw [List.cons_append, List.zip_cons_cons, List.zip_append hl.symm, List.reverse_cons, List.reverse_append]
          simp
        rw [e2] at J
        have z := callG_ok (XW := XW.1) (f := fn) (io := io) (cs := cs) (xs := x :: xs ++ ds.map (DV.dat 0)) (vs := V.ref a :: (vs ++ dvs)) ⟨ℓ, J⟩ (by simp [hl, hd.1]) h
        have en : (V.ref a :: (vs ++ dvs)).length = np := by rw [List.length_cons, List.length_append, hl, hx, hd.1]; omega
        rw [en] at z
        exact z
    · rw [if_neg c] at h; exact h.elim
theorem pd_meth {Cn : Str} {fo : EF} {pl : Sem Bool} (ho : PEd X XW o fo) (hC : X.mg Cn = some (.ref C)) (c : Cls X.K C) (hm : Meth X.K C m f) (F : CallOk X k f fd ps io fn) (hr : Room k X.A) (tk : Takes X XW.1) (hb : Binds X.K fd ps dus) (hdv : Vals dvs dus) (hd : Flats dvs ds) (ha : PAd X XW (e :: es) (evA fs)) (hn : 1 + fs.length + ds.length = ps.length)
    (h1 : starEach (e :: es) X.env = (false, eval e X.env) :: starEach es X.env := by rfl) (h2 : (backTo pos (starEach es X.env)).any (·.1) = false := by rfl)
    (ht : eval (.Call (.Attribute o m apos) (e :: es) [] pos) X.env = (do
      let ov ← eval o X.env
      standAt apos.atName
      let (g, fst) ← holding [ov] (getMethod ov m pl)
      callWith pos g fst (backTo pos (starEach (e :: es) X.env)) (backToKw pos (keywordEach [] X.env))) := by rfl) : PEd X XW (.Call (.Attribute o m apos) (e :: es) [] pos) (eMethF Cn m fn io cs ds fo fs) :=
  ⟨PE.imp (pe_methS ho.p c hm F hr hb hdv (passAt tk) ha.p h1 h2 ht) fun _ _ _ h => tMethF_ hC hn hd h⟩
theorem pd_meth0 {Cn : Str} {fo : EF} {pl : Sem Bool} (ho : PEd X XW o fo) (hC : X.mg Cn = some (.ref C)) (c : Cls X.K C) (hm : Meth X.K C m f) (F : CallOk X k f fd ps io fn) (hr : Room k X.A) (tk : Takes X XW.1) (hb : Binds X.K fd ps dus) (hdv : Vals dvs dus) (hd : Flats dvs ds) (hn : 1 + ds.length = ps.length)
    (ht : eval (.Call (.Attribute o m apos) [] [] pos) X.env = (do
      let ov ← eval o X.env
      standAt apos.atName
      let (g, fst) ← holding [ov] (getMethod ov m pl)
      callWith pos g fst (backTo pos (starEach [] X.env)) (backToKw pos (keywordEach [] X.env))) := by rfl) : PEd X XW (.Call (.Attribute o m apos) [] [] pos) (eMethF Cn m fn io cs ds fo []) :=
  ⟨PE.imp (pe_methS0 ho.p c hm F hr hb hdv (passAt tk) ht) fun σ H Q h => by
    obtain ⟨B, s, F', I, q⟩ := tMethF_ (C := C) hC (by simpa using hn) hd h
    refine ⟨B, s, F', I, ?_⟩
    cases e0 : fo s with
    | no => rw [e0] at q; exact q
    | ex C pl s1 => rw [e0] at q; exact q
    | ok x s1 =>
      rw [e0] at q
      intro v H1 I1
      obtain ⟨a, dx, gs, ev, h2, h3, B2, s2, F2, I2, q2⟩ := q v H1 I1
      exact ⟨a, dx, gs, ev, h2, h3, q2 [] H1 rfl I2⟩⟩
end
end DL

set_option Elab.async false
set_option linter.all false
set_option maxRecDepth 100000
/-! D22: keywords; attributes -/
namespace DL
open PySem PySem.Spec PyProof.Rows L2
section
variable {X : Cx} {XW : WXI} {k : Nat} {f C : Addr} {fd : FuncData} {ps ks : List Str} {x m : Str} {p pos apos kpos : Pos} {e o : Expr} {es : List Expr} {kws : List Keyword} {fn : FD} {io : List Nat} {cs : List CM} {fs gs : List EF} {dvs : List V} {ds : List D} {dus : List Value} {nm : Option Str}
/-! ### keywords, in the parameters' order -/
structure PKd (X : Cx) (XW : WXI) (kws : List Keyword) (f : DS → AR) : Prop where
  p : PK X kws (tDA (Wx X XW) XW.1 f)
theorem tCons_ {W : Wd} {f : EF} {fs : List EF} {σ : L2.St} {H : Hp} {Q : List V → Hp → Prop} (h : tDA W XW.1 (evA (f :: fs)) σ H Q) : tCons (tD W XW.1 f) (tDA W XW.1 (evA fs)) σ H Q := by
  obtain ⟨B, s, F, I, h⟩ := h
  refine ⟨B, s, F, I, ?_⟩
  unfold evA at h
  cases e1 : f s with
  | no => simp only [e1] at h; exact h
  | ex C pl s1 => simp only [e1] at h; exact h
  | ok x s1 =>
    simp only [e1] at h
    intro v H1 I1
    refine ⟨B, s1, (x, v) :: F, I1, ?_⟩
    cases e2 : evA fs s1 with
    | no => simp only [e2] at h; exact h
    | ex C pl s2 => simp only [e2] at h; exact fun cls dd H2 I2 => h cls dd H2 I2.drop
    | ok xs s2 =>
      simp only [e2] at h
      intro vs H2 hl I2
      exact h (v :: vs) H2 (by simp [hl]) (by simpa using I2)
theorem PK.imp {t t' : TA} (h : PK X kws t) (k : ∀ σ H Q, t' σ H Q → t σ H Q) : PK X kws t' := ⟨fun pos pins s σ H Q I q => h.run pos pins s σ H Q I (k σ H Q q)⟩
theorem pkd_nil : PKd X XW [] (evA []) := ⟨PK.imp pk_nil fun σ H Q h => by obtain ⟨B, s, F, I, h⟩ := h; exact h [] H rfl I⟩
theorem pkd_cons {g : EF} (ha : PEd X XW e g) (hr : PKd X XW kws (evA gs)) : PKd X XW (⟨nm, e, kpos⟩ :: kws) (evA (g :: gs)) := ⟨PK.imp (pk_cons ha.p hr.p) fun _ _ _ h => tCons_ h⟩
structure KwB (K : PySem.W.Frag) (fd : FuncData) (ps : List Str) (n : Nat) (ks : List Str) (dus : List Value) : Prop where
  to : ∀ (s : Shared) (us ws : List Value), K.In s.heap → us.length = n → ws.length = ks.length → BindsTo s fd ⟨us, ks.zip ws⟩ (ps.zip (us ++ ws ++ dus))
def tCallKS (sp : Sp) (n m : Nat) (dvs : List V) (E : L2.St → XK) (t tk : TA) : TE := fun σ H Q => t σ H fun vs H1 => tk σ H1 fun zs H2 => vs.length = n ∧ zs.length = m ∧ sp (vs ++ zs ++ dvs) H2 Q (E σ)
theorem pe_callKS {CX : CXT} {sp : Sp} {E : L2.St → XK} {n : Nat} {t tk : TA} (F : FnOk X.prog X.w X.K X.mg X.base CX k f fd ps sp) (hr : Room k X.A) (hg : Gl X x) (hm : X.mg x = some (.ref f)) (hk : PySem.W.keepIn X.K (.ref f) = true) (hb : KwB X.K fd ps n ks dus) (hdv : Vals dvs dus) (hx : ∀ σ, PassesAt CX X σ (E σ))
    (ha : PA X (e :: es) t) (hkw : PK X kws tk) (hall : (backToKw pos (keywordEach kws X.env)).all (·.1.isSome) = true) (hks : (backToKw pos (keywordEach kws X.env)).filterMap (·.1) = ks)
    (hdb : (x == ("__debug__" : Str)) = false) (he : starEach (e :: es) X.env = (false, eval e X.env) :: starEach es X.env)
    (hpl : ((backTo pos (starEach (e :: es) X.env)).any (·.1) || (backToKw pos (keywordEach kws X.env)).any (·.1.isNone)) = false) : PE X (.Call (.Name x p) (e :: es) kws pos) (tCallKS sp n ks.length dvs E t tk) := by
  constructor
  intro pins s σ H Q J h
  refine wpAny_Call_Name_kw (ld_glob J hg hm ?_ hdb)
  refine PySem.W.callWith_KW (h₀ := X.base) J.ok.mod.kin hk hall (thn (ha.run pos pins s σ H _ J h) ?_) hpl he
  rintro us s1 ⟨vs, H1, J1, r, q⟩
  refine thn (hkw.run pos pins s1 σ H1 _ J1 q) ?_
  rintro ws s2 ⟨zs, H2, J2, rz, l1, l2, q2⟩
  refine ⟨J2.kIn, ?_⟩
  rw [hks]
  have r2 : Vals (vs ++ zs ++ dvs) (us ++ ws ++ dus) := (r.append rz).append hdv
  refine wpAny_call (codeAny_mono (F.run X.A X.stack s2 H2 ⟨us, ks.zip ws⟩ (us ++ ws ++ dus) _ Q (E σ) hr J2.env0 (hb.to s2 us ws J2.kIn (r.length.symm.trans l1) (rz.length.symm.trans l2)) r2 q2) ?_)
  intro res s' hq
  cases res with
  | error er => exact hx σ pins H2 s2 er s' J2 hq
  | ok fl => cases fl with
    | ret u => exact J2.after hq
    | _ => exact hq.elim
def eCallK (fn : FD) (io : List Nat) (cs : List CM) (ds : List D) (fs gs : List EF) : EF := fun s => callG fn io cs (withD ds (evA (fs ++ gs) s))
theorem evA_cons {f : EF} {fs : List EF} {s : DS} : evA (f :: fs) s = match f s with
    | .ok x s1 => match evA fs s1 with
      | .ok xs s2 => .ok (x :: xs) s2
      | .ex C pl s2 => .ex C pl (unl x s2)
      | .no => .no
    | .ex C pl s1 => .ex C pl s1
    | .no => .no := rfl
theorem evA_app : ∀ {fs gs : List EF} {s : DS}, evA (fs ++ gs) s = apA (evA fs) (evA gs) s
  | [], gs, s => by
    show evA gs s = match evA gs s with
      | .ok ys s2 => AR.ok ([] ++ ys) s2
      | .ex C pl s2 => .ex C pl { s2 with lk := s2.lk.drop (([] : List DV).filterMap DV.root?).length }
      | .no => .no
    cases e : evA gs s <;> simp
  | f :: fs, gs, s => by
    have ih := fun s => @evA_app fs gs s
    show evA (f :: (fs ++ gs)) s = match evA (f :: fs) s with
      | .ok xs s1 => match evA gs s1 with
        | .ok ys s2 => .ok (xs ++ ys) s2
        | .ex C pl s2 => .ex C pl { s2 with lk := s2.lk.drop (xs.filterMap DV.root?).length }
        | .no => .no
      | r => r
    rw [evA_cons, evA_cons]
    cases e : f s with
    | no => rfl
    | ex => rfl
    | ok x s1 =>
      simp only [ih]
      unfold apA
      cases e2 : evA fs s1 with
      | no => rfl
      | ex => rfl
      | ok xs s2 =>
        simp only []
        cases e3 : evA gs s2 with
        | no => rfl
        | ok ys s3 => rfl
        | ex C pl s3 =>
          simp only []
          cases x with
          | dat => rfl
          | brw => rfl
          | plc j p d =>
            show AR.ex C pl { s3 with lk := (s3.lk.drop (xs.filterMap DV.root?).length).tail } = AR.ex C pl { s3 with lk := s3.lk.drop ((DV.plc j p d :: xs).filterMap DV.root?).length }
            rw [List.filterMap_cons]
            show _ = AR.ex C pl { s3 with lk := s3.lk.drop (j :: xs.filterMap DV.root?).length }
            rw [List.tail_drop]
            rfl
theorem tCallK_ {np : Nat} {σ : L2.St} {H : Hp} {Q : VK} {W : Wd} (hnp : fs.length + gs.length + ds.length = np) (hd : Flats dvs ds) (h : tD W XW.1 (eCallK fn io cs ds fs gs) σ H Q) : tCallKS (spD (W.1, W.2.1, io00) io np fn) fs.length gs.length dvs (WE XW.1) (tDA W XW.1 (evA fs)) (tDA W XW.1 (evA gs)) σ H Q := by
  obtain ⟨B, s, F, I, h⟩ := h
  refine ⟨B, s, F, I, ?_⟩
  unfold eCallK at h
  rw [evA_app] at h
  unfold apA at h
  cases e : evA fs s with
  | no => simp only [e] at h; exact h
  | ex C pl s1 => simp only [e] at h; exact h
  | ok xs s1 =>
    simp only [e] at h
    intro vs H1 hl I1
    have hx := evA_len e
    refine ⟨B, s1, _, I1, ?_⟩
    cases e1 : evA gs s1 with
    | no => simp only [e1] at h; exact h
    | ex C pl s2 => simp only [e1] at h; exact fun cls dd H2 I2 => h cls dd H2 (dropX hl I2)
    | ok ys s2 =>
      simp only [e1] at h
      intro zs H2 hl2 ⟨ℓ, I2⟩
      have hy := evA_len e1
      refine ⟨hl.trans hx, hl2.trans hy, ?_⟩
      have J := I2.flatsD hd
      have e2 : ((ds.map (DV.dat 0)).zip dvs).reverse ++ ((ys.zip zs).reverse ++ ((xs.zip vs).reverse ++ F)) = ((xs ++ ys ++ ds.map (DV.dat 0)).zip (vs ++ zs ++ dvs)).reverse ++ F := by
        rw [List.zip_append (by simp [hl, hl2]), List.zip_append hl.symm]
        simp
      rw [e2] at J
      have z := callG_ok (XW := XW.1) (f := fn) (io := io) (cs := cs) (xs := xs ++ ys ++ ds.map (DV.dat 0)) (vs := vs ++ zs ++ dvs) ⟨ℓ, J⟩ (by simp [hl, hl2, hd.1]) h
      have en : (vs ++ zs ++ dvs).length = np := by simp [hl, hl2, hx, hy, hd.1]; omega
      rw [en] at z
      exact z
/-- x(e, .., k = v, ..) -/
theorem pd_callK (F : CallOk X k f fd ps io fn) (hr : Room k X.A) (tk : Takes X XW.1) (hg : Gl X x) (hm : X.mg x = some (.ref f)) (hk : PySem.W.keepIn X.K (.ref f) = true) (hb : KwB X.K fd ps fs.length ks dus) (hdv : Vals dvs dus) (hd : Flats dvs ds) (ha : PAd X XW (e :: es) (evA fs)) (hkw : PKd X XW kws (evA gs)) (hn : fs.length + gs.length + ds.length = ps.length) (hgk : gs.length = ks.length)
    (hall : (backToKw pos (keywordEach kws X.env)).all (·.1.isSome) = true := by rfl) (hks : (backToKw pos (keywordEach kws X.env)).filterMap (·.1) = ks := by rfl)
    (hdb : (x == ("__debug__" : Str)) = false := by decide) (he : starEach (e :: es) X.env = (false, eval e X.env) :: starEach es X.env := by rfl)
    (hpl : ((backTo pos (starEach (e :: es) X.env)).any (·.1) || (backToKw pos (keywordEach kws X.env)).any (·.1.isNone)) = false := by rfl) : PEd X XW (.Call (.Name x p) (e :: es) kws pos) (eCallK fn io cs ds fs gs) :=
  ⟨PE.imp (pe_callKS F hr hg hm hk hb hdv (passAt tk) ha.p hkw.p hall hks hdb he hpl) fun _ _ _ h => by rw [← hgk]; exact tCallK_ hn hd h⟩
end

/-! ### attributes -/
def fieldK (f : Str) : List (Str × D) → Option (Nat × D)
  | [] => none
  | (g, d) :: r => if g = f then some (0, d) else (fieldK f r).map fun q => (q.1 + 1, q.2)
def objFs : D → Option (Str × List (Str × D))
  | .obj C fs => some (C, fs)
  | _ => none
/-- e.f, e an instance of one of the classes Cs -/
def gFld (Cs : List Str) (f : Str) (x : DV) (s : DS) : Option (DV × DS) := match objFs x.d with
  | some (C, fs) => if Cs.contains C = true then (match fieldK f fs with
    | some (k, c) => some (dsub x k c s)
    | none => none) else none
  | none => none
section
variable {W : Wd} {XW : WX} {ℓ ℓ' : Addr → Lab} {H H' : Hp} {B : Ent} {s s' : DS} {F : Temps} {σ : L2.St} {v vx : V} {d : D} {x : DV} {p : List Nat} {i j n : Nat}
theorem fieldK_some {f : Str} : ∀ {fs : List (Str × D)} {k : Nat} {c : D}, fieldK f fs = some (k, c) → fs[k]? = some (f, c) ∧ ∀ {vfs : List (Str × V)}, vfs.map (·.1) = fs.map (·.1) → ∃ v, vfs[k]? = some (f, v) ∧ vfs.lookup f = some v
  | [], _, _, h => by cases h
  | (g, d) :: r, k, c, h => by
    unfold fieldK at h
    by_cases e : g = f
    · rw [if_pos e] at h
      cases h
      subst e
      refine ⟨by simp, fun {vfs} hv => ?_⟩
      cases vfs with
      | nil => cases hv
      | cons w ws =>
        simp at hv
        obtain ⟨n, w⟩ := w
        obtain ⟨rfl, _⟩ := hv
        exact ⟨w, by simp, by simp [List.lookup]⟩
    · rw [if_neg e] at h
      obtain ⟨⟨k', c'⟩, h1, h2⟩ := Option.map_eq_some_iff.mp h
      cases h2
      obtain ⟨h3, h4⟩ := fieldK_some h1
      refine ⟨by simpa using h3, fun {vfs} hv => ?_⟩
      cases vfs with
      | nil => cases hv
      | cons w ws =>
        simp only [List.map_cons, List.cons.injEq] at hv
        obtain ⟨v, h5, h6⟩ := h4 hv.2
        refine ⟨v, by simpa using h5, ?_⟩
        obtain ⟨nn, w⟩ := w
        have e2 : nn = g := hv.1
        have hb : (f == nn) = false := by rw [e2]; exact beq_eq_false_iff_ne.mpr (Ne.symm e)
        simp only [List.lookup, hb]
        exact h6
theorem objFs_iff {C : Str} {fs : List (Str × D)} (h : objFs d = some (C, fs)) : d = .obj C fs := by
  cases d with
  | obj => cases h; rfl
  | _ => cases h
/-- an instance's parts -/
theorem SIw.subO {C : Str} {fs : List (Str × D)} (I : SIw W ℓ H B s ((x, v) :: F) σ) (h : x.d = .obj C fs) : ∃ a Ca dx vfs, v = .ref a ∧ W.2.1 C = some (.ref Ca) ∧ H a = some (.ins Ca dx vfs) ∧ vfs.map (·.1) = fs.map (·.1) ∧
    ∀ (k : Nat) (f : Str) (v' : V) (f' : Str) (c : D), vfs[k]? = some (f, v') → fs[k]? = some (f', c) → SI W B (dsub x k c s).2 (((dsub x k c s).1, v') :: F) σ H := by
  cases x with
  | dat n d =>
    subst h
    have J := I.downT (n' := 0) (Nat.zero_le _)
    have r := Rep.own0.mp (show Rep W _ H (.own (.tmp F.length) [] 0) v _ from J.temps.1)
    cases r with
    | obj y0 y1 y2 y3 => exact ⟨_, _, _, _, rfl, y0, y1.ins, y2, fun k f v' f' c a1 a2 => ⟨_, J.drop.push (Rep.own0.mpr (y3 k f v' f' c a1 a2)) rfl⟩⟩
  | brw d =>
    subst h
    have r : Rep W ℓ H .bw v (.obj C fs) := I.temps.1
    cases r with
    | obj y0 y1 y2 y3 =>
      refine ⟨_, _, _, _, rfl, y0, y1.ins, y2, fun k f v' f' c a1 a2 => ?_⟩
      have r := y3 k f v' f' c a1 a2
      unfold dsub
      by_cases fl : c.flat = true
      · simp only [if_pos fl]; exact ⟨_, I.drop.push (Rep.own0.mpr (r.flat fl)) rfl⟩
      · simp only [if_neg fl]; exact ⟨_, I.drop.push r rfl⟩
  | plc j p d =>
    subst h
    have t : if owned s.sl j p = true then PlR H s.sl σ j p v (.obj C fs) else Rep W ℓ H .fz v (.obj C fs) := I.temps.1
    by_cases o : owned s.sl j p = true
    · rw [if_pos o] at t
      obtain ⟨n, dj, vj, h1, h2, h3, h4, h5, h6⟩ := t
      obtain ⟨v', e1, e2⟩ := I.slots j _ h1
      rw [h3] at e1; cases e1
      have e2 : Rep W ℓ H (.own (.slot j) [] n) vj dj := e2
      have r := h4.rep e2 (Nat.le_of_lt h2) h5
      obtain ⟨n2, hn2⟩ : ∃ n2, n - p.length = n2 + 1 := ⟨n - p.length - 1, by omega⟩
      rw [hn2] at r
      cases r with
      | obj y0 y1 y2 y3 =>
        refine ⟨_, _, _, _, rfl, y0, y1.ins, y2, fun k f v' f' c a1 a2 => ?_⟩
        have r := y3 k f v' f' c a1 a2
        have r : Rep W ℓ H (.own (.slot j) ([] ++ p ++ [k]) n2) v' c := r
        unfold dsub
        by_cases q : (owned s.sl j (p ++ [k]) = true && c.cont = true) = true
        · simp only [if_pos q]
          simp only [Bool.and_eq_true, decide_eq_true_eq] at q
          refine ⟨ℓ, ⟨I.len, I.lab, I.prot, I.bw, I.keep, I.ios, I.lks, I.slots, ?_, I.temps.2⟩⟩
          show if owned s.sl j (p ++ [k]) = true then PlR H s.sl σ j (p ++ [k]) v' c else _
          rw [if_pos q.1]
          obtain ⟨n3, dj3, e3, h7⟩ := owned_iff.mp q.1
          rw [h1] at e3; cases e3
          refine ⟨n, dj, vj, h1, h7, h3, h4.app (.ins (NA.own y1).2 a1 .nil), ?_, q.2⟩
          rw [getAt_app h5]; simp [getAt, D.at?, a2]
        · simp only [if_neg q]
          refine ⟨ℓ, I.drop.push (x := .dat 0 c) ?_ rfl⟩
          show Rep W ℓ H (.own (.tmp F.length) [] 0) v' c
          simp only [Bool.and_eq_true, decide_eq_true_eq, not_and] at q
          by_cases o2 : owned s.sl j (p ++ [k]) = true
          · exact Rep.own0.mpr (rep_nc r (q o2))
          · have : n2 = 0 := by
              cases n2 with
              | zero => rfl
              | succ z => exact absurd (owned_iff.mpr ⟨n, dj, h1, by simp; omega⟩) o2
            subst this
            exact Rep.own0.mpr (Rep.own0.mp r)
    · rw [if_neg o] at t
      cases t with
      | obj y0 y1 y2 y3 =>
        refine ⟨_, _, _, _, rfl, y0, y1.ins, y2, fun k f v' f' c a1 a2 => ?_⟩
        have r := y3 k f v' f' c a1 a2
        have o2 : ¬ (owned s.sl j (p ++ [k]) = true && c.cont = true) = true := by
          intro z
          simp only [Bool.and_eq_true, decide_eq_true_eq] at z
          obtain ⟨n3, dj3, e3, h7⟩ := owned_iff.mp z.1
          exact o (owned_iff.mpr ⟨n3, dj3, e3, by simp at h7; omega⟩)
        unfold dsub
        simp only [if_neg o2]
        exact ⟨ℓ, I.drop.push (Rep.own0.mpr r) rfl⟩
end
section
variable {X : Cx} {XW : WXI} {e : Expr} {f : Str} {pos : Pos} {fe : EF} {Cs : List Str}
/-- the classes' instances have f for their own -/
def FldOk (K : PySem.W.Frag) (mg : Str → Option Value) (Cs : List Str) (f : Str) : Prop := ∀ C ∈ Cs, ∀ Ca, mg C = some (.ref Ca) → Cls K Ca ∧ NoAttr K Ca f
theorem pd_fld (he : PEd X XW e fe) (hc : FldOk X.K X.mg Cs f) (hb : attributeBase e f X.env (eval e X.env) = eval e X.env := by rfl) : PEd X XW (.Attribute e f pos) (eUn (gFld Cs f) fe) := by
  refine ⟨PE.imp (pe_fld he.p hb) fun σ H Q h => ?_⟩
  obtain ⟨B, s, F, I, h⟩ := h
  refine ⟨B, s, F, I, ?_⟩
  unfold eUn at h
  cases e0 : fe s with
  | no => rw [e0] at h; exact h
  | ex C pl s1 => rw [e0] at h; exact h
  | ok x s1 =>
    simp only [e0] at h
    intro v H1 ⟨ℓ, I1⟩
    unfold gFld at h
    cases e1 : objFs x.d with
    | none => simp only [e1] at h; exact h.elim
    | some q =>
      obtain ⟨C, fs⟩ := q
      simp only [e1] at h
      by_cases c : Cs.contains C = true
      · simp only [if_pos c] at h
        cases e2 : fieldK f fs with
        | none => simp only [e2] at h; exact h.elim
        | some q =>
          obtain ⟨k, dk⟩ := q
          simp only [e2] at h
          obtain ⟨a, Ca, dx, vfs, rfl, h1, h2, h3, h4⟩ := I1.subO (objFs_iff e1)
          obtain ⟨k1, k2⟩ := fieldK_some e2
          obtain ⟨w, k3, k4⟩ := k2 h3
          obtain ⟨c1, c2⟩ := hc C (by simpa using c) Ca h1
          exact ⟨a, Ca, dx, vfs, w, rfl, h2, c1, c2, k4, h _ _ (h4 k f w f dk k3 k1)⟩
      · simp only [if_neg c] at h; exact h.elim
end
end DL

set_option Elab.async false
set_option linter.all false
set_option maxRecDepth 100000
/-! D23: attributes set -/
namespace DL
open PySem PySem.Spec PyProof.Rows L2
def putFD (f : Str) (e : D) : List (Str × D) → List (Str × D)
  | [] => [(f, e)]
  | (g, x) :: r => if g = f then (g, e) :: r else (g, x) :: putFD f e r
def flatF (fs : List (Str × D)) : Bool := fs.all fun q => q.2.flat
def wrO (j : Nat) (p : List Nat) (C : Str) (fs : List (Str × D)) (f : Str) (e : D) (s : DS) : Option DS :=
  let s1 : DS := if (flatF fs && e.flat) = true then s else { s with sl := downS s.sl j (p.length + 1) }
  match s1.sl[j]? with
  | some (some (.dat n dj)) => if p.length < n then some { s1 with sl := wrS s1.sl j p (.dat n (setAt dj p (.obj C (putFD f e fs)))) } else none
  | _ => none
section
variable {W : Wd} {XW : WX} {ℓ ℓ' : Addr → Lab} {H H' : Hp} {B : Ent} {s s' : DS} {F : Temps} {σ : L2.St} {v vx : V} {d e : D} {x : DV} {p : List Nat} {i j n : Nat}
theorem putF_keys {f : Str} {w : V} {e : D} : ∀ {vfs : List (Str × V)} {fs : List (Str × D)}, vfs.map (·.1) = fs.map (·.1) → (putF f w vfs).map (·.1) = (putFD f e fs).map (·.1)
  | [], [], _ => rfl
  | (g, x) :: r, (g', y) :: r', h => by
    simp only [List.map_cons, List.cons.injEq] at h
    obtain ⟨rfl, h⟩ := h
    show (if g = f then (g, w) :: r else (g, x) :: putF f w r).map (·.1) = (if g = f then (g, e) :: r' else (g, y) :: putFD f e r').map (·.1)
    by_cases c : g = f
    · rw [if_pos c, if_pos c]; simp [h]
    · rw [if_neg c, if_neg c]; simp [putF_keys (f := f) (w := w) (e := e) h]
  | [], _ :: _, h => by cases h
  | _ :: _, [], h => by cases h
theorem putF_at {f : Str} {w : V} {e : D} : ∀ {vfs : List (Str × V)} {fs : List (Str × D)} {k : Nat} {n n' : Str} {v : V} {d : D}, vfs.map (·.1) = fs.map (·.1) → (putF f w vfs)[k]? = some (n, v) → (putFD f e fs)[k]? = some (n', d) → (v = w ∧ d = e) ∨ (vfs[k]? = some (n, v) ∧ fs[k]? = some (n', d))
  | [], [], k, n, n', v, d, _, h1, h2 => by
    have h1 : [(f, w)][k]? = some (n, v) := h1
    have h2 : [(f, e)][k]? = some (n', d) := h2
    cases k with
    | zero => simp at h1 h2; exact .inl ⟨h1.2.symm, h2.2.symm⟩
    | succ k => simp at h1
  | (g, x) :: r, (g', y) :: r', k, n, n', v, d, h, h1, h2 => by
    simp only [List.map_cons, List.cons.injEq] at h
    obtain ⟨rfl, h⟩ := h
    have h1 : (if g = f then (g, w) :: r else (g, x) :: putF f w r)[k]? = some (n, v) := h1
    have h2 : (if g = f then (g, e) :: r' else (g, y) :: putFD f e r')[k]? = some (n', d) := h2
    by_cases c : g = f
    · rw [if_pos c] at h1 h2
      cases k with
      | zero => simp at h1 h2; exact .inl ⟨h1.2.symm, h2.2.symm⟩
      | succ k => exact .inr ⟨by simpa using h1, by simpa using h2⟩
    · rw [if_neg c] at h1 h2
      cases k with
      | zero => exact .inr ⟨by simpa using h1, by simpa using h2⟩
      | succ k =>
        rcases putF_at (f := f) (w := w) (e := e) h (by simpa using h1) (by simpa using h2) with z | ⟨z1, z2⟩
        · exact .inl z
        · exact .inr ⟨by simpa using z1, by simpa using z2⟩
  | [], _ :: _, _, _, _, _, _, h, _, _ => by cases h
  | _ :: _, [], _, _, _, _, _, h, _, _ => by cases h
theorem SIw.putO {a Ca dx : Addr} {vfs : List (Str × V)} {C f : Str} {fs : List (Str × D)} {w : V} (I : SIw W ℓ H B s F σ) (P : PlR H s.sl σ j p (.ref a) (.obj C fs)) (ha : H a = some (.ins Ca dx vfs)) (hr : j ∉ roots F) (re : Rep W ℓ H .fz w e) (hw : wrO j p C fs f e s = some s') :
    SI W B s' F σ (upd H a (.ins Ca dx (putF f w vfs))) := by
  unfold wrO at hw
  obtain ⟨n, dj, vj, h1, h2, h3, h4, h5, h6⟩ := id P
  have core : ∀ {ℓ1 : Addr → Lab} {s1 : DS}, SIw W ℓ1 H B s1 F σ → PlR H s1.sl σ j p (.ref a) (.obj C fs) → Rep W ℓ1 H .fz w e → (match s1.sl[j]? with
      | some (some (.dat n dj)) => if p.length < n then some { s1 with sl := wrS s1.sl j p (.dat n (setAt dj p (.obj C (putFD f e fs)))) } else none
      | _ => none) = some s' → (∀ n dj, s1.sl[j]? = some (some (.dat n dj)) → (flatF fs && e.flat) = true ∨ n = p.length + 1) → SI W B s' F σ (upd H a (.ins Ca dx (putF f w vfs))) := by
    intro ℓ1 s1 J P re hw hn
    obtain ⟨n, dj, vj, k1, k2, k3, k4, k5, k6⟩ := id P
    have hf := hn n dj k1
    obtain ⟨v0, e1, e2⟩ := J.slots j _ k1
    rw [k3] at e1; cases e1
    have r := k4.rep e2 (Nat.le_of_lt k2) k5
    obtain ⟨n2, hn2⟩ : ∃ n2, n - p.length = n2 + 1 := ⟨n - p.length - 1, by omega⟩
    rw [hn2] at r
    cases r with
    | obj y0 y1 y2 y3 =>
      obtain ⟨la, ha'⟩ := NA.own y1
      rw [ha] at ha'; cases ha'
      have la : ℓ1 a = .own (.slot j) p := by simpa using la
      have fzU : ∀ {v d}, Rep W ℓ1 H .fz v d → Rep W ℓ1 (upd H a (.ins Ca dx (putF f w vfs))) .fz v d := fun r => r.fz fun b c => ⟨upd_ne fun z => (by rw [z, la] at c; cases c), c⟩
      simp only [k1, if_pos k2] at hw
      cases hw
      refine ⟨ℓ1, J.write k1 k3 k4 k2 k5 k6 hr (fun _ _ => rfl) (fun _ z => z) (fun _ z => z) rfl ?_⟩
      rw [hn2]
      refine Rep.obj y0 (.inl ⟨la, upd_same⟩) (putF_keys y2) fun k nm v' nm' c a1 a2 => ?_
      show Rep W ℓ1 _ (.own (.slot j) (p ++ [k]) n2) v' c
      rcases putF_at y2 a1 a2 with ⟨rfl, rfl⟩ | ⟨b1, b2⟩
      · rcases hf with hf | hf
        · simp only [Bool.and_eq_true] at hf
          exact re.flat hf.2
        · have e0 : n2 = 0 := by omega
          subst e0
          exact Rep.own0.mpr (fzU re)
      · have r := y3 k nm v' nm' c b1 b2
        have r : Rep W ℓ1 H (.own (.slot j) ([] ++ p ++ [k]) n2) v' c := r
        rcases hf with hf | hf
        · simp only [Bool.and_eq_true] at hf
          exact r.flat (List.all_eq_true.mp hf.1 _ (List.mem_of_getElem? b2))
        · have e0 : n2 = 0 := by omega
          subst e0
          exact Rep.own0.mpr (fzU (Rep.own0.mp r))
  by_cases c : (flatF fs && e.flat) = true
  · simp only [if_pos c] at hw
    exact core I P re hw fun _ _ _ => .inl c
  · simp only [if_neg c] at hw
    have J := I.downS (n' := p.length + 1) h1
    have e0 := downS_self (n' := p.length + 1) h1
    have P' : PlR H (DL.downS s.sl j (p.length + 1)) σ j p (.ref a) (.obj C fs) := ⟨_, _, vj, e0, by omega, h3, h4, h5, h6⟩
    exact core J P' (re.fz fun b z => ⟨rfl, labDown_fz z⟩) hw fun n' dj' e' => .inr (by
      have e' : (DL.downS s.sl j (p.length + 1))[j]? = some (some (.dat n' dj')) := e'
      rw [e0] at e'; cases e'; omega)
/-- o.f = value -/
def sSetF (Cs : List Str) (f : Str) (fv fo : EF) : SF := fun s => match fv s with
  | .ok (.dat 0 e) s1 => match fo s1 with
    | .ok (.plc j p (.obj C fs)) s2 => if (owned s2.sl j p && !s2.lk.tail.contains j && Cs.contains C && decide (fs.length < 1000)) = true then (match wrO j p C fs f e { s2 with lk := s2.lk.tail } with
      | some s3 => .nx s3
      | none => .no) else .no
    | .ok _ _ => .no
    | .ex C pl s2 => .ex C pl s2
    | .no => .no
  | .ok _ _ => .no
  | .ex C pl s1 => .ex C pl s1
  | .no => .no
end
section
variable {X : Cx} {XW : WXI} {o value : Expr} {f : Str} {pos pos' : Pos} {fo fv : EF} {Cs : List Str}
theorem psd_setF (ho : PEd X XW o fo) (hv : PEd X XW value fv) (hc : FldOk X.K X.mg Cs f) (hs : swapsWith value (some (.Attribute o f pos')) pos.line X.env = pure false := by rfl) : PSd X XW (.Assign [.Attribute o f pos'] value pos) (sSetF Cs f fv fo) := by
  refine ⟨PS.imp (ps_fld ho.p hv.p hs) fun D σ H h => ?_⟩
  obtain ⟨B, s, F, I, h⟩ := h
  refine ⟨B, s, F, I, ?_⟩
  unfold sSetF at h
  cases e0 : fv s with
  | no => simp only [e0] at h; exact h
  | ex C pl s1 => simp only [e0] at h; exact fun cls dd H' => h cls dd σ H'
  | ok y s1 =>
    cases y with
    | brw => simp only [e0] at h; exact h.elim
    | plc => simp only [e0] at h; exact h.elim
    | dat ny e =>
      cases ny with
      | succ => simp only [e0] at h; exact h.elim
      | zero =>
        simp only [e0] at h
        intro w H1 I1
        refine ⟨B, s1, _, I1, ?_⟩
        cases e1 : fo s1 with
        | no => simp only [e1] at h; exact h
        | ex C pl s2 => simp only [e1] at h; exact fun cls dd H' I' => h cls dd σ H' I'.drop
        | ok x s2 =>
          cases x with
          | dat => simp only [e1] at h; exact h.elim
          | brw => simp only [e1] at h; exact h.elim
          | plc j p d =>
            cases d with
            | obj C fs =>
              simp only [e1] at h
              by_cases c : (owned s2.sl j p && !s2.lk.tail.contains j && Cs.contains C && decide (fs.length < 1000)) = true
              · rw [if_pos c] at h
                simp only [Bool.and_eq_true, Bool.not_eq_true', decide_eq_true_eq] at c
                obtain ⟨⟨⟨c1, c2⟩, c3⟩, c4⟩ := c
                cases e2 : wrO j p C fs f e { s2 with lk := s2.lk.tail } with
                | none => simp only [e2] at h; exact h.elim
                | some s3 =>
                  simp only [e2] at h
                  intro vx H2 ⟨ℓ, I2⟩
                  obtain ⟨a, Ca, dx, vfs, rfl, h1, h2, h3, _⟩ := I2.subO rfl
                  have T : if owned s2.sl j p = true then PlR H2 s2.sl σ j p (.ref a) (.obj C fs) else Rep (Wx X XW) ℓ H2 .fz (.ref a) (.obj C fs) := I2.temps.1
                  rw [if_pos c1] at T
                  have J := I2.drop
                  have hr : j ∉ roots ((DV.dat 0 e, w) :: F) := not_mem_lk J c2
                  obtain ⟨k1, k2⟩ := hc C (by simpa using c3) Ca h1
                  have hl : vfs.length = fs.length := by have := congrArg List.length h3; simpa using this
                  refine ⟨a, Ca, dx, vfs, rfl, h2, k1, k2, by omega, ?_⟩
                  have I3 := SIw.putO J T h2 hr (Rep.own0.mp J.temps.1) e2
                  exact h σ _ I3.drop
              · rw [if_neg c] at h; exact h.elim
            | _ => simp only [e1] at h; exact h.elim
end
end DL

set_option Elab.async false
set_option linter.all false
set_option maxRecDepth 100000
/-! D24: instances made -/
namespace DL
open PySem PySem.Spec PyProof.Rows L2
section
variable {W : Wd} {XW : WX} {ℓ ℓ' : Addr → Lab} {H H' : Hp} {B : Ent} {s s' : DS} {sl : List (Option SV)} {F G : Temps} {σ σ' : L2.St} {v vx : V} {d e : D} {x : DV} {p : List Nat} {i j n : Nat}
theorem PlR.ext {w : Option V} (h : PlR H sl σ j p v d) : PlR H (sl ++ [none]) (σ ++ [w]) j p v d := by
  obtain ⟨n, dj, vj, h1, h2, h3, h4⟩ := h
  exact ⟨n, dj, vj, by rw [List.getElem?_append_left (List.getElem?_eq_some_iff.mp h1).1]; exact h1, h2, by rw [List.getElem?_append_left (List.getElem?_eq_some_iff.mp h3).1]; exact h3, h4⟩
theorem owned_ext : owned (sl ++ [none]) j p = owned sl j p := by
  by_cases h : j < sl.length
  · unfold owned
    rw [List.getElem?_append_left h]
  · unfold owned
    rw [List.getElem?_append_right (Nat.not_lt.mp h), List.getElem?_eq_none (Nat.not_lt.mp h)]
    cases j - sl.length with
    | zero => rfl
    | succ => rfl
theorem TmRs.ext {w : Option V} : ∀ {F : Temps}, TmRs W ℓ H sl σ F → TmRs (W.1, W.2.1, io00) ℓ H (sl ++ [none]) (σ ++ [w]) F
  | [], _ => trivial
  | (x, v) :: F, h => by
    refine ⟨?_, TmRs.ext h.2⟩
    have h := h.1
    cases x with
    | dat n d => exact Rep.chW (W := W) h rfl rfl
    | brw d => exact Rep.chW (W := W) h rfl rfl
    | plc j p d =>
      have T : if owned sl j p = true then PlR H sl σ j p v d else Rep W ℓ H .fz v d := h
      show if owned (sl ++ [none]) j p = true then PlR H (sl ++ [none]) (σ ++ [w]) j p v d else Rep (W.1, W.2.1, io00) ℓ H .fz v d
      rw [owned_ext]
      by_cases o : owned sl j p = true
      · rw [if_pos o] at T ⊢; exact T.ext
      · rw [if_neg o] at T ⊢; exact Rep.chW (W := W) T rfl rfl
theorem SIw.ext {w : Option V} (I : SIw W ℓ H B s F σ) : SIw (W.1, W.2.1, io00) ℓ H B { s with sl := s.sl ++ [none] } F (σ ++ [w]) where
  len := by show (s.sl ++ [none]).length = _; simp [I.len]
  lab := I.lab
  prot := I.prot
  bw := I.bw
  keep := I.keep
  ios := fun k h => absurd (show k ∈ ([] : List Nat) from h) List.not_mem_nil
  lks := I.lks
  slots := fun i z e => by
    have e : (s.sl ++ [none])[i]? = some (some z) := e
    have hi : i < s.sl.length := by
      rw [List.getElem?_append] at e
      split at e
      · assumption
      · cases q : i - s.sl.length with
        | zero => rw [q] at e; cases e
        | succ m => rw [q] at e; cases e
    rw [List.getElem?_append_left hi] at e
    obtain ⟨v, e1, e2⟩ := I.slots i z e
    refine ⟨v, by rw [List.getElem?_append_left (by rw [← I.len]; exact hi)]; exact e1, ?_⟩
    cases z with
    | dat n d => exact Rep.chW (W := W) e2 rfl rfl
    | brw d => exact Rep.chW (W := W) e2 rfl rfl
    | als j p => obtain ⟨d, e2⟩ := e2; exact ⟨d, e2.ext⟩
  temps := I.temps.ext
/-- the last slot becomes a temp -/
def labLast (ℓ : Addr → Lab) (N t0 : Nat) : Addr → Lab := fun a => match ℓ a with
  | .own (.slot k) q => if k = N then .own (.tmp t0) q else .own (.slot k) q
  | .own (.tmp t) q => if t < t0 then .own (.tmp t) q else .no
  | l => l
theorem labLast_fb {N t0 : Nat} {a : Addr} {l : Lab} (hl : l = .fz ∨ l = .bw) : labLast ℓ N t0 a = l ↔ ℓ a = l := by
  unfold labLast
  cases e : ℓ a with
  | own r q =>
    cases r with
    | slot k =>
      simp only []
      split <;> (rcases hl with rfl | rfl <;> exact Iff.intro (fun z => by cases z) (fun z => by cases z))
    | tmp k =>
      simp only []
      split <;> (rcases hl with rfl | rfl <;> exact Iff.intro (fun z => by cases z) (fun z => by cases z))
  | _ => exact Iff.rfl
theorem labLast_slot {N t0 k : Nat} {a : Addr} {q : List Nat} (h : ℓ a = .own (.slot k) q) (hk : k ≠ N) : labLast ℓ N t0 a = ℓ a := by
  unfold labLast
  rw [h]
  exact if_neg hk
theorem labLast_tmp {N t0 t : Nat} {a : Addr} {q : List Nat} (h : ℓ a = .own (.tmp t) q) (ht : t < t0) : labLast ℓ N t0 a = ℓ a := by
  unfold labLast
  rw [h]
  exact if_pos ht
def lastS (s : DS) (N : Nat) : DS := ⟨(clr s.sl N).take N, s.lk⟩
theorem last_get {N : Nat} {k : Nat} {z : SV} (h : ((clr sl N).take N)[k]? = some (some z)) : k < N ∧ sl[k]? = some (some z) ∧ ∀ p, z ≠ .als N p := by
  rw [List.getElem?_take] at h
  split at h
  · obtain ⟨h1, h2, h3⟩ := clr_some h
    exact ⟨by assumption, h2, h3⟩
  · cases h
theorem last_dat {N k : Nat} (hk : k < N) (h : sl[k]? = some (some (.dat n d))) : ((clr sl N).take N)[k]? = some (some (.dat n d)) := by
  rw [List.getElem?_take, if_pos hk]
  exact clr_dat (Nat.ne_of_lt hk) h
theorem owned_last {N : Nat} (hl : sl.length = N + 1) (hj : j ≠ N) : owned ((clr sl N).take N) j p = owned sl j p := by
  have : ∀ n e, ((clr sl N).take N)[j]? = some (some (.dat n e)) ↔ sl[j]? = some (some (.dat n e)) := fun n e => ⟨fun z => (last_get z).2.1, fun z => last_dat (by have := (List.getElem?_eq_some_iff.mp z).1; omega) z⟩
  cases o : owned sl j p with
  | true =>
    obtain ⟨n, dj, e, hp⟩ := owned_iff.mp o
    exact owned_iff.mpr ⟨n, dj, (this n dj).mpr e, hp⟩
  | false =>
    cases o2 : owned ((clr sl N).take N) j p with
    | false => rfl
    | true =>
      obtain ⟨n, dj, e, hp⟩ := owned_iff.mp o2
      rw [owned_iff.mpr ⟨n, dj, (this n dj).mp e, hp⟩] at o; cases o
theorem SIw.last {w : Option V} (I : SIw (W.1, W.2.1, io00) ℓ H B s F (σ ++ [w])) (hF : σ.length ∉ roots F) (hio : ∀ k ∈ W.2.2, σ[k]? = io0 W.2.2 B.s0 k) : SIw W (labLast ℓ σ.length F.length) H B (lastS s σ.length) F σ := by
  have hl : s.sl.length = σ.length + 1 := by rw [I.len]; simp
  have plr : ∀ {j p v d}, j ≠ σ.length → PlR H s.sl (σ ++ [w]) j p v d → PlR H ((DL.clr s.sl σ.length).take σ.length) σ j p v d := by
    rintro j p v d hj ⟨n, dj, vj, h1, h2, h3, h4⟩
    have hj' : j < σ.length := by have := (List.getElem?_eq_some_iff.mp h1).1; omega
    rw [List.getElem?_append_left hj'] at h3
    exact ⟨n, dj, vj, last_dat hj' h1, h2, h3, h4⟩
  have fzL : ∀ {v d}, Rep (W.1, W.2.1, io00) ℓ H .fz v d → Rep W (labLast ℓ σ.length F.length) H .fz v d := fun r => Rep.chW (W := (W.1, W.2.1, io00)) (r.fz fun a c => ⟨rfl, (labLast_fb (.inl rfl)).mpr c⟩) rfl rfl
  have bwL : ∀ {v d}, Rep (W.1, W.2.1, io00) ℓ H .bw v d → Rep W (labLast ℓ σ.length F.length) H .bw v d := fun r => Rep.chW (W := (W.1, W.2.1, io00)) (r.frame fun a c => by
    rcases c with c | ⟨_, c⟩ | c
    · exact ⟨rfl, ((labLast_fb (.inl rfl)).mpr c).trans c.symm⟩
    · exact ⟨rfl, ((labLast_fb (.inr rfl)).mpr c).trans c.symm⟩
    · exact c.elim) rfl rfl
  refine ⟨?_, fun a c => I.lab a fun z => c ?_, fun a c => ?_, fun a c => I.bw a ((labLast_fb (.inr rfl)).mp c), I.keep, hio, I.lks, fun i z e => ?_, ?_⟩
  · show ((DL.clr s.sl σ.length).take σ.length).length = _
    rw [List.length_take, clr_len]; omega
  · unfold labLast; rw [z]
  · obtain ⟨k1, k2⟩ := I.prot a c
    refine ⟨k1, ?_⟩
    rw [← k2] at c ⊢
    rcases c with c | c
    · rw [c]; exact (labLast_fb (.inl rfl)).mpr c
    · rw [c]; exact (labLast_fb (.inr rfl)).mpr c
  · obtain ⟨hi, e0, hna⟩ := last_get (show ((DL.clr s.sl σ.length).take σ.length)[i]? = some (some z) from e)
    obtain ⟨v, e1, e2⟩ := I.slots i z e0
    rw [List.getElem?_append_left hi] at e1
    refine ⟨v, e1, ?_⟩
    cases z with
    | dat n d =>
      refine Rep.chW (W := (W.1, W.2.1, io00)) (Rep.frame (show Rep (W.1, W.2.1, io00) ℓ H (.own (.slot i) [] n) v d from e2) fun a c => ⟨rfl, ?_⟩) rfl rfl
      rcases c with c | ⟨c, _⟩ | ⟨q, c⟩
      · exact ((labLast_fb (.inl rfl)).mpr c).trans c.symm
      · cases c
      · exact labLast_slot c (Nat.ne_of_lt hi)
    | brw d => exact bwL e2
    | als j p => obtain ⟨d, e2⟩ := e2; exact ⟨d, plr (fun q => hna p (by rw [q])) e2⟩
  · have go : ∀ {G : Temps}, TmRs (W.1, W.2.1, io00) ℓ H s.sl (σ ++ [w]) G → σ.length ∉ roots G → G.length ≤ F.length → TmRs W (labLast ℓ σ.length F.length) H ((DL.clr s.sl σ.length).take σ.length) σ G := by
      intro G
      induction G with
      | nil => exact fun _ _ _ => trivial
      | cons g G ih =>
        obtain ⟨x, v⟩ := g
        intro h hr hlen
        have hlen' : G.length + 1 ≤ F.length := hlen
        refine ⟨?_, ih h.2 (fun m => hr (roots_cons m)) (by omega)⟩
        have h := h.1
        cases x with
        | dat n d =>
          refine Rep.chW (W := (W.1, W.2.1, io00)) (Rep.frame (show Rep (W.1, W.2.1, io00) ℓ H (.own (.tmp G.length) [] n) v d from h) fun a c => ⟨rfl, ?_⟩) rfl rfl
          rcases c with c | ⟨c, _⟩ | ⟨q, c⟩
          · exact ((labLast_fb (.inl rfl)).mpr c).trans c.symm
          · cases c
          · exact labLast_tmp c (by omega)
        | brw d => exact bwL h
        | plc j p d =>
          have hj : j ≠ σ.length := fun q => hr (by unfold roots; rw [List.filterMap_cons, ← q]; exact List.mem_cons_self)
          have T : if owned s.sl j p = true then PlR H s.sl (σ ++ [w]) j p v d else Rep (W.1, W.2.1, io00) ℓ H .fz v d := h
          show if owned ((DL.clr s.sl σ.length).take σ.length) j p = true then PlR H ((DL.clr s.sl σ.length).take σ.length) σ j p v d else Rep W _ H .fz v d
          rw [owned_last hl hj]
          by_cases o : owned s.sl j p = true
          · rw [if_pos o] at T ⊢; exact plr hj T
          · rw [if_neg o] at T ⊢; exact fzL T
    exact go I.temps hF (Nat.le_refl _)

def eMake (Cn : Str) (fn : FD) (io : List Nat) (cs : List CM) (ds : List D) (fs : List EF) : EF := fun s => match evA fs s with
  | .ok xs s1 => if (xs.all isPlain && !s1.lk.contains s1.sl.length) = true then (match callG fn io cs (withD ds (.ok (.plc s1.sl.length [] (.obj Cn []) :: xs) ⟨s1.sl ++ [some (.dat 1000 (.obj Cn []))], s1.lk.take (xs.filterMap DV.root?).length ++ s1.sl.length :: s1.lk.drop (xs.filterMap DV.root?).length⟩)) with
    | .ok (.dat _ .non) s2 => if s2.lk.contains s1.sl.length = true then .no else (match s2.sl[s1.sl.length]? with
      | some (some (.dat n d)) => .ok (.dat n d) (lastS s2 s1.sl.length)
      | _ => .no)
    | .ex C pl s2 => if s2.lk.contains s1.sl.length = true then .no else .ex C pl (lastS s2 s1.sl.length)
    | _ => .no) else .no
  | .ex C pl s1 => .ex C pl s1
  | .no => .no
def tMakeS (C : Addr) (sp : Sp) (dvs : List V) (E : L2.St → XK) (t : TA) : TE := fun σ H Q => t σ H fun vs H1 => ∀ x dx, H1 x = none → H1 dx = none → dx ≠ x →
  sp (.ref x :: (vs ++ dvs)) (upd (upd H1 dx (.own x)) x (.ins C dx [])) (fun v H2 => v = .non ∧ Q (.ref x) H2) (E σ)
theorem tMake_ {Cn : Str} {C : Addr} {fn : FD} {io : List Nat} {cs : List CM} {ds : List D} {dvs : List V} {fs : List EF} {np : Nat} {Q : VK} (hC : W.2.1 Cn = some (.ref C)) (hnp : 1 + fs.length + ds.length = np) (hd : Flats dvs ds) (h : tD W XW (eMake Cn fn io cs ds fs) σ H Q) :
    tMakeS C (spD (W.1, W.2.1, io00) io np fn) dvs (WE XW) (tDA W XW (evA fs)) σ H Q := by
  obtain ⟨B, s, F, I, h⟩ := h
  refine ⟨B, s, F, I, ?_⟩
  unfold eMake at h
  cases e0 : evA fs s with
  | no => simp only [e0] at h; exact h
  | ex C pl s1 => simp only [e0] at h; exact h
  | ok xs s1 =>
    simp only [e0] at h
    intro vs H1 hl ⟨ℓ, I1⟩ a da hna hnd hne
    have hx := evA_len e0
    by_cases c : (xs.all isPlain && !s1.lk.contains s1.sl.length) = true
    · rw [if_pos c] at h
      simp only [Bool.and_eq_true, Bool.not_eq_true'] at c
      obtain ⟨c, cN⟩ := c
      have hN : s1.sl.length = σ.length := I1.len
      have hG : Plain (xs.zip vs).reverse := fun q m => by
        have := (List.of_mem_zip (List.mem_reverse.mp m)).1
        exact List.all_eq_true.mp c _ this
      have nr : s1.sl.length ∉ roots ((xs.zip vs).reverse ++ F) := not_mem_lk I1 cN
      have nF : s1.sl.length ∉ roots F := fun z => nr (by rw [roots_app]; exact List.mem_append_right _ z)
      -- the new instance in a slot of its own
      have J1 := I1.ext (w := some (.ref a))
      have J2 := J1.alloc (o := .own a) (l := .no) hnd (by simp)
      have hna2 : upd H1 da (.own a) a = none := by rw [upd_ne (Ne.symm hne)]; exact hna
      have J3 := J2.alloc (o := .ins C da []) (l := .own (.slot s1.sl.length) []) hna2 (by simp)
      have lkE : s1.lk = (xs.filterMap DV.root?).reverse ++ roots F := by rw [I1.lks, roots_app, roots_rev, roots_zip hl]
      have J4 := J3.fill (j := s1.sl.length) (n := 1000) (d := .obj Cn []) (v := .ref a) (fun x e => by
        have e : (s1.sl ++ [none])[s1.sl.length]? = some (some x) := e
        rw [List.getElem?_append_right (Nat.le_refl _)] at e
        simp at e) nr (by rw [hN, List.getElem?_append_right (Nat.le_refl _)]; simp) (by
        refine Rep.obj (vfs := []) (fs := []) hC (.inl ⟨labUpd_same, upd_same⟩) rfl fun k nm v nm' c a1 => by simp at a1)
      have eset : (s1.sl ++ [none]).set s1.sl.length (some (SV.dat 1000 (.obj Cn []))) = s1.sl ++ [some (.dat 1000 (.obj Cn []))] := by
        rw [List.set_append_right _ _ (Nat.le_refl _)]; simp
      have J4 : SIw (W.1, W.2.1, io00) (labUpd (labUpd ℓ da Lab.no) a (Lab.own (Root.slot s1.sl.length) [])) (upd (upd H1 da (.own a)) a (.ins C da [])) B ⟨s1.sl ++ [some (.dat 1000 (.obj Cn []))], s1.lk⟩ ((xs.zip vs).reverse ++ F) (σ ++ [some (.ref a)]) := by
        rw [← eset]; exact J4
      have gN : (s1.sl ++ [some (SV.dat 1000 (.obj Cn []))])[s1.sl.length]? = some (some (.dat 1000 (.obj Cn []))) := by
        rw [List.getElem?_append_right (Nat.le_refl _)]; simp
      -- and as the first argument
      have lkI : s1.lk.take (xs.filterMap DV.root?).length ++ s1.sl.length :: s1.lk.drop (xs.filterMap DV.root?).length = roots ((xs.zip vs).reverse ++ (DV.plc s1.sl.length [] (.obj Cn []), V.ref a) :: F) := by
        rw [lkE, roots_app, roots_rev, roots_zip hl, List.take_append_of_le_length (by simp), List.drop_append_of_le_length (by simp), List.take_of_length_le (by simp), List.drop_of_length_le (by simp)]
        rfl
      have J5 : SIw (W.1, W.2.1, io00) (labUpd (labUpd ℓ da Lab.no) a (Lab.own (Root.slot s1.sl.length) [])) (upd (upd H1 da (.own a)) a (.ins C da [])) B ⟨s1.sl ++ [some (.dat 1000 (.obj Cn []))], s1.lk.take (xs.filterMap DV.root?).length ++ s1.sl.length :: s1.lk.drop (xs.filterMap DV.root?).length⟩ ((xs.zip vs).reverse ++ (DV.plc s1.sl.length [] (.obj Cn []), V.ref a) :: F) (σ ++ [some (.ref a)]) := by
        refine { J4 with lks := lkI, temps := TmRs.insert hG J4.temps ?_ }
        show if owned (s1.sl ++ [some (.dat 1000 (.obj Cn []))]) s1.sl.length [] = true then PlR _ _ _ s1.sl.length [] (.ref a) (.obj Cn []) else _
        rw [if_pos (owned_iff.mpr ⟨_, _, gN, (show ([] : List Nat).length < 1000 from by decide)⟩)]
        exact ⟨1000, .obj Cn [], .ref a, gN, by simp, by rw [hN, List.getElem?_append_right (Nat.le_refl _)]; simp, .nil, rfl, rfl⟩
      have J6 := J5.flatsD hd
      have e2 : ((ds.map (DV.dat 0)).zip dvs).reverse ++ ((xs.zip vs).reverse ++ (DV.plc s1.sl.length [] (.obj Cn []), V.ref a) :: F) = ((DV.plc s1.sl.length [] (.obj Cn []) :: xs ++ ds.map (DV.dat 0)).zip (V.ref a :: (vs ++ dvs))).reverse ++ F := by
        rw [List.cons_append, List.zip_cons_cons, List.zip_append hl.symm, List.reverse_cons, List.reverse_append]
        simp
      rw [e2] at J6
      have en : (V.ref a :: (vs ++ dvs)).length = np := by rw [List.length_cons, List.length_append, hl, hx, hd.1]; omega
      have hio : ∀ k ∈ W.2.2, σ[k]? = io0 W.2.2 B.s0 k := I1.ios
      have fin : ∀ {s2 : DS} {H2 : Hp} {ℓ2 : Addr → Lab}, s2.lk.contains s1.sl.length = false → SIw (W.1, W.2.1, io00) ℓ2 H2 B s2 F (σ ++ [some (.ref a)]) → SIw W (labLast ℓ2 σ.length F.length) H2 B (lastS s2 s1.sl.length) F σ := fun {s2 H2 ℓ2} cc K => by
        have := K.last (by rw [← hN]; exact not_mem_lk K cc) hio
        rw [hN]; exact this
      have z := callG_ok (W := (W.1, W.2.1, io00)) (XW := fun cls dd _ H => XW cls dd σ H) (f := fn) (io := io) (cs := cs) (xs := DV.plc s1.sl.length [] (.obj Cn []) :: xs ++ ds.map (DV.dat 0)) (vs := V.ref a :: (vs ++ dvs)) (Q := fun v H2 => v = .non ∧ Q (.ref a) H2) ⟨_, J6⟩ (by simp [hl, hd.1]) ?_
      · rw [en] at z
        exact z
      · change EC W XW B F σ Q (match callG fn io cs (.ok (DV.plc s1.sl.length [] (.obj Cn []) :: xs ++ ds.map (DV.dat 0)) ⟨s1.sl ++ [some (.dat 1000 (.obj Cn []))], s1.lk.take (xs.filterMap DV.root?).length ++ s1.sl.length :: s1.lk.drop (xs.filterMap DV.root?).length⟩) with
          | .ok (.dat _ .non) s2 => if s2.lk.contains s1.sl.length = true then .no else (match s2.sl[s1.sl.length]? with
            | some (some (.dat n d)) => .ok (.dat n d) (lastS s2 s1.sl.length)
            | _ => .no)
          | .ex C pl s2 => if s2.lk.contains s1.sl.length = true then .no else .ex C pl (lastS s2 s1.sl.length)
          | _ => .no) at h
        generalize callG fn io cs (.ok (DV.plc s1.sl.length [] (.obj Cn []) :: xs ++ ds.map (DV.dat 0)) ⟨s1.sl ++ [some (.dat 1000 (.obj Cn []))], s1.lk.take (xs.filterMap DV.root?).length ++ s1.sl.length :: s1.lk.drop (xs.filterMap DV.root?).length⟩) = r at h ⊢
        cases r with
        | no => exact h
        | ex C pl s2 =>
          simp only [] at h
          by_cases cc : s2.lk.contains s1.sl.length = true
          · rw [if_pos cc] at h; exact h.elim
          · rw [if_neg cc] at h
            rintro cls dd H2 ⟨ℓ2, Ca, K, k1, k2, k3⟩
            have cc : s2.lk.contains s1.sl.length = false := by simpa using cc
            refine h cls dd H2 ⟨_, Ca, fin cc K, k1, k2, ?_⟩
            have k3 := PlOk.chW (W := (W.1, W.2.1, io00)) (W' := W) k3 rfl rfl
            cases pl with
            | nil => exact k3
            | cons p pl =>
              obtain ⟨b, gs, b1, b2, b3, b4, b5⟩ := k3
              exact ⟨b, gs, b1, (labLast_fb (.inl rfl)).mpr b2, b3, b4, fun k n v n' d a1 a2 => (b5 k n v n' d a1 a2).fz fun u z => ⟨rfl, (labLast_fb (.inl rfl)).mpr z⟩⟩
        | ok x s2 =>
          cases x with
          | brw => exact h.elim
          | plc => exact h.elim
          | dat n d =>
            cases d with
            | non =>
              simp only [] at h
              by_cases cc : s2.lk.contains s1.sl.length = true
              · rw [if_pos cc] at h; exact h.elim
              · rw [if_neg cc] at h
                have cc : s2.lk.contains s1.sl.length = false := by simpa using cc
                cases eN : s2.sl[s1.sl.length]? with
                | none => simp only [eN] at h; exact h.elim
                | some q =>
                  cases q with
                  | none => simp only [eN] at h; exact h.elim
                  | some q =>
                    cases q with
                    | brw => simp only [eN] at h; exact h.elim
                    | als => simp only [eN] at h; exact h.elim
                    | dat n' d' =>
                      simp only [eN] at h
                      intro v H2 ⟨ℓ2, K⟩
                      refine ⟨non_of K.temps.1, h _ H2 ⟨_, (fin cc K.drop).push (x := .dat n' d') ?_ rfl⟩⟩
                      obtain ⟨w, e1, e3⟩ := K.slots _ _ eN
                      rw [hN, List.getElem?_append_right (Nat.le_refl _)] at e1
                      simp at e1
                      subst e1
                      have e3 : Rep (W.1, W.2.1, io00) ℓ2 H2 (.own (.slot s1.sl.length) [] n') (.ref a) d' := e3
                      refine Rep.chW (W := (W.1, W.2.1, io00)) (Rep.mv (r' := .tmp F.length) (p' := []) e3 (fun u z => ⟨rfl, (labLast_fb (.inl rfl)).mpr z⟩) fun u q z => ⟨rfl, ?_⟩) rfl rfl
                      unfold labLast
                      rw [z, hN]
                      exact if_pos rfl
            | _ => exact h.elim
    · rw [if_neg c] at h; exact h.elim
end
section
variable {X : Cx} {XW : WXI} {k : Nat} {f C : Addr} {fd : FuncData} {ps : List Str} {x Cn : Str} {p pos : Pos} {e : Expr} {es : List Expr} {fn : FD} {io : List Nat} {cs : List CM} {fs : List EF} {dvs : List V} {ds : List D} {dus : List Value}
theorem pe_makeS {CX : CXT} {sp : Sp} {E : L2.St → XK} {t : TA} (M : Mk X.K C f) (F : FnOk X.prog X.w X.K X.mg X.base CX k f fd ps sp) (hr : Room (k + 1) X.A) (hg : Gl X x) (hm : X.mg x = some (.ref C)) (hb : Binds X.K fd ps dus) (hdv : Vals dvs dus) (hx : ∀ σ, PassesAt CX X σ (E σ))
    (ha : PA X (e :: es) t) (hdb : (x == ("__debug__" : Str)) = false) (he : starEach (e :: es) X.env = (false, eval e X.env) :: starEach es X.env) (hpl : (backTo pos (starEach es X.env)).any (·.1) = false) : PE X (.Call (.Name x p) (e :: es) [] pos) (tMakeS C sp dvs E t) := by
  constructor
  intro pins s σ H Q J h
  refine wpAny_Call_Name_kw (ld_glob J hg hm ?_ hdb)
  refine PySem.W.callWith_K (h₀ := X.base) J.ok.mod.kin M.kp (thn (ha.run pos pins s σ H _ J h) ?_) he hpl
  rintro us s1 ⟨vs, H1, J1, r, h1⟩
  refine ⟨J1.kIn, ?_⟩
  have q1 := h1 (s1.heap.objs.size + 1) s1.heap.objs.size (J1.hok.fresh (Nat.le_succ _)) (J1.hok.fresh (Nat.le_refl _)) (Nat.ne_of_lt (Nat.lt_succ_self _))
  have J2 := Inv.made (C := C) J1
  have r2 : Vals (V.ref (s1.heap.objs.size + 1) :: (vs ++ dvs)) (Value.ref (s1.heap.objs.size + 1) :: (us ++ dus)) := .cons rfl (r.append hdv)
  have ln : (Value.ref (s1.heap.objs.size + 1) :: us ++ dus).length = ps.length := r2.length.symm.trans (F.len _ _ _ _ q1)
  refine wpAny_call (make_map (f := f) J1.kIn M.makes M.init (beq_iff_eq.mp M.fn) (codeAny_mono (F.run _ X.stack _ _ ⟨Value.ref (s1.heap.objs.size + 1) :: us, []⟩ (Value.ref (s1.heap.objs.size + 1) :: (us ++ dus)) _ _ (E σ) (hr.make C us []) (J2.env0.make C us []) (hb _ (Value.ref (s1.heap.objs.size + 1) :: us) J2.kIn ln) r2 q1) ?_))
  intro res s' hq
  cases res with
  | error er => exact hx σ pins _ _ er s' J2 hq
  | ok fl => cases fl with
    | ret u =>
      obtain ⟨w, H', J3, rv, rfl, q3⟩ := J2.after hq
      exact ⟨rv, V.ref (s1.heap.objs.size + 1), H', J3, rfl, q3⟩
    | _ => exact hq.elim
/-- C(e, ..) -/
theorem pd_make (hC : X.mg Cn = some (.ref C)) (M : Mk X.K C f) (F : CallOk X k f fd ps io fn) (hr : Room (k + 1) X.A) (tk : Takes X XW.1) (hg : Gl X x) (hm : X.mg x = some (.ref C)) (hb : Binds X.K fd ps dus) (hdv : Vals dvs dus) (hd : Flats dvs ds) (ha : PAd X XW (e :: es) (evA fs)) (hn : 1 + fs.length + ds.length = ps.length)
    (hdb : (x == ("__debug__" : Str)) = false := by decide) (he : starEach (e :: es) X.env = (false, eval e X.env) :: starEach es X.env := by rfl) (hpl : (backTo pos (starEach es X.env)).any (·.1) = false := by rfl) : PEd X XW (.Call (.Name x p) (e :: es) [] pos) (eMake Cn fn io cs ds fs) :=
  ⟨PE.imp (pe_makeS M F hr hg hm hb hdv (passAt tk) ha.p hdb he hpl) fun _ _ _ h => tMake_ hC hn hd h⟩
end
end DL

set_option Elab.async false
set_option linter.all false
set_option maxRecDepth 100000
/-! D25: try with any clauses -/
namespace DL
open PySem PySem.Spec PyProof.Rows L2
abbrev Cl := Value × Option Nat × (Addr → Value → Option Addr → TS)
/-- the ends behind a clause that names the error -/
def endsN (i : Nat) (E : Ends) : Ends := { nx := fun σ H => E.nx (σ.set i none) H, rt := E.rt, bk := fun σ H => E.bk (σ.set i none) H, ct := fun σ H => E.ct (σ.set i none) H }
def wAll (K : PySem.W.Frag) (Wo : WX) (E : Ends) : List Cl → WX
  | [] => Wo
  | (c, none, ts) :: r => fun cls dd σ H => ∃ b, PySem.W.exmOne K cls c = some b ∧ (b = true → ∀ a, H a = none → ts a cls dd E σ H) ∧ (b = false → wAll K Wo E r cls dd σ H)
  | (c, some i, ts) :: r => fun cls dd σ H => ∃ b, PySem.W.exmOne K cls c = some b ∧ (b = true → ∀ a, H a = none → ts a cls dd (endsN i E) (σ.set i (some (.ref a))) H) ∧ (b = false → wAll K Wo E r cls dd σ H)
inductive ClsOk (X : Cx) : List ExceptHandler → List Cl → Prop
  | nil : ClsOk X [] []
  | plain {x : Str} {c : Value} {ts : Addr → Value → Option Addr → TS} {b₀ : Stmt} {su : List Stmt} {np p' : Pos} {hds : List ExceptHandler} {l : List Cl} (hc : Names X x c)
      (hsu : ∀ (a : Addr) (oe : Obj) (cls : Value) (dd : Option Addr) (pn : List (Addr × Obj)), Zc cls dd oe → (∃ vs, oe.data = .fields vs) → PSs (X.suite a ((a, oe) :: pn)) (b₀ :: su) (ts a cls dd)) (r : ClsOk X hds l) :
      ClsOk X (.ExceptHandler (some (.Name x np)) none (b₀ :: su) p' :: hds) ((c, none, ts) :: l)
  | named {x n : Str} {i : Nat} {c : Value} {ts : Addr → Value → Option Addr → TS} {b₀ : Stmt} {su : List Stmt} {np p' : Pos} {hds : List ExceptHandler} {l : List Cl} (hc : Names X x c) (hi : X.N[i]? = some n) (hln : X.env.kindOf n = some .local)
      (hsu : ∀ (a : Addr) (oe : Obj) (cls : Value) (dd : Option Addr) (pn : List (Addr × Obj)), Zc cls dd oe → (∃ vs, oe.data = .fields vs) → PSs (X.suite a ((a, oe) :: pn)) (b₀ :: su) (ts a cls dd)) (r : ClsOk X hds l) :
      ClsOk X (.ExceptHandler (some (.Name x np)) (some n) (b₀ :: su) p' :: hds) ((c, some i, ts) :: l)
section
variable {X : Cx} {body : List Stmt} {h₀ : ExceptHandler} {hds : List ExceptHandler} {l : List Cl} {pos : Pos} {tb : WX → TS} {Wo : WX}
theorem ps_tryAll (hs : X.stack = X.env :: X.outer) (hf : X.env.frame = some X.env.locals) (hN : X.N.Nodup) (tk : Takes X Wo)
    (hb : ∀ (W : WX) (pn : List (Addr × Obj)) (xe : Value → Shared → Prop), Takes (X.tr pn xe) W → PassesOwn (model X.prog X.w) X.A X.env xe → PSs (X.tr pn xe) body (tb W))
    (hh : ClsOk X (h₀ :: hds) l) : PS X (.Try body (h₀ :: hds) [] [] pos) (fun E σ H => tb (wAll X.K Wo E l) E σ H) where
  run := by
    intro pins s σ H E J h
    have ok := J.ok
    have frm : X.A.frames = some (X.env :: X.outer) := ok.frames.trans (congrArg some hs)
    let back : Value → Shared → Prop := fun e t₁ => wpAny (model X.prog X.w) X.A (noteFrame e X.env) (fun _ t₂ => wpAny (model X.prog X.w) X.A (setFlight e none) (fun _ t₃ => wpAny (model X.prog X.w) X.A (handleBy e X.env (h₀ :: hds)) (SP X pins E) X.xe t₃) X.xe t₂) X.xe t₁
    refine wpAny_Try_except ?_
    refine wpAny_mono ((hb (wAll X.K Wo E l) (X.pn ++ pins) back ?_ PassesOwn.looking).run [] s σ H E (J.toTry _) h) ?_ (fun _ _ z => z)
    · rintro u s' ⟨a, B, sI, pq, σ', H', cls, dd, rfl, JI', nb, up, sky, na, os, ag, w⟩
      have JI : Inv X pins σ' H' sI := JI'.ofTry ok
      have sky2 : Sky B (X.env :: X.outer) a (Zc cls dd) X.env.locals s'.heap := hs ▸ sky
      show wpAny (model X.prog X.w) X.A (noteFrame (.ref a) X.env) _ _ _
      refine Sky.land Zc.steady frm hf sky2 fun h3 fl up3 => ?_
      have J3 : Inv X pins σ' H' { s' with heap := h3 } := JI.landed nb fl.1 (up.trans up3) os ag
      obtain ⟨o3, v3, g3, z3, d3⟩ := fl.there
      have out : a ∉ frs (X.env :: X.outer) := fun hm => by
        obtain ⟨_, o', e', hnf⟩ := (fl.2.2.1).mem hm
        rw [g3] at e'; cases e'
        exact hnf _ d3
      have aL : a ≠ X.env.locals := fun z => out (List.mem_filterMap.mpr ⟨X.env, List.mem_cons_self, by rw [hf, z]⟩)
      have aF : a ∉ X.fs := fun hm => by
        obtain ⟨e, he, q⟩ := List.mem_filterMap.mp hm
        exact out (List.mem_filterMap.mpr ⟨e, List.mem_cons_of_mem _ he, q⟩)
      have S3 := J3.suite g3 d3 na aL aF
      have LT : PySem.W.Looks (model X.prog X.w) h3 (typeOf (.ref a)) cls := fun A Q E s k q => wpAny_typeOf_ref (k _ _ g3) (by rw [z3.1]; exact q)
      have named : ∀ {x : Str} {c : Value} {np : Pos} {Q : Value → Shared → Prop} {Ex : Value → Shared → Prop}, Names X x c → Q c { s' with heap := h3 } → wpAny (model X.prog X.w) (X.A.mark (some (.ref a))) (eval (.Name x np) X.env) Q Ex { s' with heap := h3 } := by
        intro x c np Q Ex hc q
        obtain ⟨hg, hdbg, hm | ⟨hm, hv, hnn⟩⟩ := hc
        · exact ld_glob (X := X.suite a ((a, o3) :: (X.pn ++ pins))) S3 hg hm q hdbg
        · exact ld_blt (X := X.suite a ((a, o3) :: (X.pn ++ pins))) S3 hg hm hv q hnn hdbg
      have go : ∀ {hd2 : List ExceptHandler} {l2 : List Cl}, ClsOk X hd2 l2 → wAll X.K Wo E l2 cls dd σ' H' → wpAny (model X.prog X.w) X.A (handleBy (.ref a) X.env hd2) (SP X pins E) X.xe { s' with heap := h3 } := by
        intro hd2 l2 hk
        induction hk with
        | nil =>
          intro w
          refine wpAny_handleBy_nil ?_
          obtain ⟨_, _, _, o4, v4, T, _, _, g4, _, d4, n4, _⟩ := id fl
          unfold PySem.passOn
          refine wpAny_bind (wpAny_field g4 d4 n4 ?_)
          rw [if_neg (show ¬ ((Value.ref T == Value.none) = true) from by simp)]
          have last : wpAny (model X.prog X.w) X.A (setFlight (.ref a) X.env.frame) (fun _ t => wpAny (model X.prog X.w) X.A (throw (.ref a) : Sem Flow) (SP X pins E) X.xe t) X.xe { s' with heap := h3 } := by
            rw [hf]
            exact HandSPX.setFlight_upZ fl fun h4 hh4 up4 => wpAny_throw (tk _ _ ⟨a, B, sI, pins, σ', H', cls, dd, rfl, JI, nb, (up.trans up3).trans up4, .inr (.inr (by rw [hs]; exact hh4)), na, os, ag, w⟩)
          first
            | exact wpAny_bind (wpAny_pure (wpAny_bind last))
            | exact wpAny_bind last
        | @plain x c ts b₀ su np p' hd3 l3 hc hsu r ih =>
          rintro ⟨b, hb1, yes, no⟩
          have LM := PySem.W.exm_one (M := model X.prog X.w) (J3.kIn) LT hb1
          refine wpAny_handleBy_cons (codeAny_handlers_test (named hc (LM.here ?_))) (by intro q; cases q)
          cases b with
          | false => exact ih (no rfl)
          | true =>
            refine codeAny_handlers_suite (HandSPX.lands_againZ fl fun h4 fl4 up4 => ?_)
            have J4 : Inv X pins σ' H' { s' with heap := h4 } := JI.landed nb fl4.1 ((up.trans up3).trans up4) os ag
            obtain ⟨o4, v4, g4, z4, d4⟩ := fl4.there
            refine wpAny_mono ((hsu a o4 cls dd (X.pn ++ pins) z4 ⟨_, d4⟩).run [] _ _ H' _ (J4.suite g4 d4 na aL aF) (yes rfl a na)) ?_ (fun _ _ z => z.elim)
            intro f t hsp
            cases f with
            | ret u =>
              obtain ⟨v6, σ6, H6, S6, r6, q6⟩ := hsp
              exact ⟨_, _, _, S6.unsuite ok, r6, q6⟩
            | _ =>
              obtain ⟨σ6, H6, S6, q6⟩ := hsp
              exact ⟨_, _, S6.unsuite ok, q6⟩
        | @named x n i c ts b₀ su np p' hd3 l3 hc hi hln hsu r ih =>
          rintro ⟨b, hb1, yes, no⟩
          have LM := PySem.W.exm_one (M := model X.prog X.w) (J3.kIn) LT hb1
          refine wpAny_handleBy_cons (codeAny_handlers_test (named hc (LM.here ?_))) (by intro q; cases q)
          cases b with
          | false => exact ih (no rfl)
          | true =>
            refine codeAny_handlers_suite_as (HandSPX.lands_againZ fl fun h4 fl4 up4 => ?_)
            have J4 : Inv X pins σ' H' { s' with heap := h4 } := JI.landed nb fl4.1 ((up.trans up3).trans up4) os ag
            obtain ⟨o4, v4, g4, z4, d4⟩ := fl4.there
            refine store_ok (X := X.suite a ((a, o4) :: (X.pn ++ pins))) (v := .ref a) (J4.suite g4 d4 na aL aF) hN hi (.inl hln) rfl (fun t5 S5 => ?_) (.inr hln)
            refine wpAny_mono ((hsu a o4 cls dd (X.pn ++ pins) z4 ⟨_, d4⟩).run [] t5 _ H' _ S5 (yes rfl a na)) ?_ (fun _ _ z => z.elim)
            intro f t hsp
            have close : ∀ {σ6 : L2.St} {H6 : Hp} {Q : Shared → Prop}, Inv (X.suite a ((a, o4) :: (X.pn ++ pins))) [] σ6 H6 t → (∀ t7, Inv X pins (σ6.set i none) H6 t7 → Q t7) →
                wpAny (model X.prog X.w) X.A (do bindName X.env n .none; unbindBehindTheSuite X.env n p') (fun _ t7 => Q t7) X.xe t := fun {σ6 H6 Q} S6 hq => gone_ok (S6.unsuite ok) hN hi hln hq
            cases f with
            | ret u =>
              obtain ⟨v6, σ6, H6, S6, r6, q6⟩ := hsp
              exact close S6 fun t7 J7 => ⟨_, _, _, J7, r6, q6⟩
            | next =>
              obtain ⟨σ6, H6, S6, q6⟩ := hsp
              exact close S6 fun t7 J7 => ⟨_, _, J7, q6⟩
            | brk =>
              obtain ⟨σ6, H6, S6, q6⟩ := hsp
              exact close S6 fun t7 J7 => ⟨_, _, J7, q6⟩
            | cont =>
              obtain ⟨σ6, H6, S6, q6⟩ := hsp
              exact close S6 fun t7 J7 => ⟨_, _, J7, q6⟩
      exact go hh w
    · intro f s1 hsp
      cases f with
      | next =>
        obtain ⟨σ', H', J', q⟩ := hsp
        exact wpAny_execs_nil ⟨σ', H', J'.ofTry ok, q⟩
      | ret u =>
        obtain ⟨v, σ', H', J', r, q⟩ := hsp
        exact ⟨v, σ', H', J'.ofTry ok, r, q⟩
      | brk =>
        obtain ⟨σ', H', J', q⟩ := hsp
        exact ⟨σ', H', J'.ofTry ok, q⟩
      | cont =>
        obtain ⟨σ', H', J', q⟩ := hsp
        exact ⟨σ', H', J'.ofTry ok, q⟩
end
end DL

set_option Elab.async false
set_option linter.all false
set_option maxRecDepth 100000
/-! D26: isinstance, raise, try -/
namespace DL
open PySem PySem.Spec PyProof.Rows L2
theorem lookup_mem {α β : Type} [BEq α] [LawfulBEq α] : ∀ {l : List (α × β)} {n : α} {b : β}, l.lookup n = some b → (n, b) ∈ l
  | [], _, _, h => by cases h
  | (k, v) :: r, n, b, h => by
    rw [List.lookup_cons] at h
    cases e : n == k with
    | true => rw [e] at h; cases h; rw [eq_of_beq e]; exact List.mem_cons_self
    | false => rw [e] at h; exact List.mem_cons_of_mem _ (lookup_mem h)
/-! ### isinstance by a built-in class -/
def tyN : D → Option String
  | .non => some "NoneType"
  | .bl _ => some "bool"
  | .int _ => some "int"
  | .str _ => some "str"
  | .tup _ => some "tuple"
  | .lst _ => some "list"
  | .obj _ _ => none
def gIsi (ans : List (String × Bool)) (x : DV) (s : DS) : Option (DV × DS) := match tyN x.d with
  | some n => match ans.lookup n with
    | some b => some (.dat 0 (.bl b), unl x s)
    | none => none
  | none => none
def IsiOk (T : String) (ans : List (String × Bool)) : Prop := ∀ n b, (n, b) ∈ ans → kitB n T = some b
section
variable {W : Wd} {XW : WX} {ℓ : Addr → Lab} {H : Hp} {B : Ent} {s s' : DS} {F : Temps} {σ : L2.St} {v : V} {d : D} {x : DV} {i : Nat} {md : Md}
theorem rep_ty {n : String} (r : Rep W ℓ H md v d) (h : tyN d = some n) : TyX W.1 H v (.type n) := by
  cases r with
  | non => cases h; exact .base .non
  | bl b => cases h; exact .base (.bl b)
  | int b => cases h; exact .base (.int b)
  | str b => cases h; exact .base (.str b)
  | tup y1 =>
    cases h
    obtain ⟨f, _, y1⟩ := y1
    rcases y1 with ⟨_, y⟩ | ⟨_, y | ⟨_, ⟨_, z⟩, _⟩⟩
    · exact .fTuple y
    · obtain ⟨its, n, k1, k2, _⟩ := y
      exact .kTuple k1 k2
    · cases z
  | lst y1 =>
    cases h
    rcases y1 with ⟨_, y⟩ | ⟨_, y | ⟨_, _, f, y⟩⟩
    · exact .base (.lst y)
    · obtain ⟨o, its, n, k1, k2, _⟩ := y
      exact .kList k1 k2
    · exact .base (.frz y)
  | obj => cases h
end
section
variable {X : Cx} {XW : WXI} {e : Expr} {fe : EF} {x : Str} {p p2 pos : Pos} {T : String}
theorem pd_isi {ans : List (String × Bool)} (hk : IsiOk T ans) (he : PEd X XW e fe) (hg : Gl X "isinstance") (hm : X.mg "isinstance" = none) (hgx : Gl X x) (hmx : X.mg x = none) (hvx : bootBuiltins x = some (.type T)) (hnx : x ≠ "__name__" := by decide) (hdx : (x == ("__debug__" : Str)) = false := by decide)
    (hv : bootBuiltins "isinstance" = some (.builtin "isinstance") := by rfl) (h1 : starEach [e, .Name x p2] X.env = (false, eval e X.env) :: starEach [.Name x p2] X.env := by rfl) (h2 : (backTo pos (starEach [.Name x p2] X.env)).any (·.1) = false := by rfl)
    (h3 : starEach [.Name x p2] X.env = (false, eval (.Name x p2) X.env) :: starEach [] X.env := by rfl) : PEd X XW (.Call (.Name "isinstance" p) [e, .Name x p2] [] pos) (eUn (gIsi ans) fe) := by
  refine ⟨PE.imp (pe_callB call_isi hg hm hv (pa_cons he.p (pa_cons (pe_bltn (v := .ty T) hgx hmx hvx rfl hnx hdx) pa_nil h3) h1) (by decide) (by decide) h1 h2) fun σ H Q h => ?_⟩
  obtain ⟨B, s, F, I, h⟩ := h
  refine ⟨B, s, F, I, ?_⟩
  unfold eUn at h
  cases e0 : fe s with
  | no => rw [e0] at h; exact h
  | ex C pl s1 => rw [e0] at h; exact h
  | ok y s1 =>
    simp only [e0] at h
    intro v H1 ⟨ℓ, I1⟩
    obtain ⟨md, r⟩ := I1.tmp
    unfold gIsi at h
    cases e1 : tyN y.d with
    | none => simp only [e1] at h; exact h.elim
    | some n =>
      simp only [e1] at h
      cases e2 : ans.lookup n with
      | none => simp only [e2] at h; exact h.elim
      | some b =>
        simp only [e2] at h
        refine ⟨v, .ty T, .type n, .type T, b, rfl, .ty T, rep_ty r e1, kit_ty (hk n b (lookup_mem e2)), ?_⟩
        exact h _ _ ⟨ℓ, I1.drop.push (x := .dat 0 (.bl b)) (.bl b) rfl⟩
/-! ### raise -/
def sRaise (C : Str) : SF := fun s => .ex C [] s
theorem psd_raise {C : Addr} {m : Str} {j : Nat} {bmB : List Value} {Bn newId initId : String} {pos' : Pos} (hc : X.calm = true) (tk : Takes X XW.1) (F : ExcBaseFacts Bn newId initId bmB) (q : PySem.W.excIn X.K C bmB newId = true) (gC : X.mg x = some (.ref C)) (kC : PySem.W.keepIn X.K (.ref C) = true) (r : Raises X (.ref C)) (hg : Gl X x)
    (hdb : (x == ("__debug__" : Str)) = false := by decide) : PSd X XW (.Raise (some (.Call (.Name x p) [.Constant (.str m) j p2] [] pos)) none pos') (sRaise x) := by
  refine ⟨PS.imp (ps_raise hc tk (pmk_own F q gC kC r hg hdb)) fun D σ H h => ?_⟩
  obtain ⟨B, s, F, ⟨ℓ, I⟩, h⟩ := h
  exact h _ _ σ H ⟨ℓ, C, I, gC, rfl, rfl⟩
/-! ### try, where the body raises nothing -/
def sThru (f : SF) : SF := fun s => match f s with
  | .ex _ _ _ => .no
  | r => r
theorem psd_thru {body : List Stmt} {h₀ : ExceptHandler} {hs : List ExceptHandler} {f : SF} (hb : PSsd X.nox (XW0, XW.2) body f) : PSd X XW (.Try body (h₀ :: hs) [] [] pos) (sThru f) := by
  refine ⟨PS.imp (ps_try_thru0 hb.p) fun D σ H h => ?_⟩
  obtain ⟨B, s, F, I, h⟩ := h
  refine ⟨B, s, F, I, ?_⟩
  unfold sThru at h
  cases e : f s with
  | ex => rw [e] at h; exact h.elim
  | _ => rw [e] at h; exact h
end

/-! ### try -/
/-- a clause: does the raised class meet it; the name's slot; the suite, by the raised class -/
structure HD where
  m : Str → Option Bool
  at_ : Option Nat
  su : Str → SF
def outN (i : Nat) : SO → SO
  | .nx s => if s.lk.contains i = true then .no else .nx { s with sl := clr s.sl i }
  | .bk s => if s.lk.contains i = true then .no else .bk { s with sl := clr s.sl i }
  | .ct s => if s.lk.contains i = true then .no else .ct { s with sl := clr s.sl i }
  | .rt x s => .rt x s
  | _ => .no
def outP : SO → SO
  | .ex _ _ _ => .no
  | r => r
def hGo (C : Str) (pl : List (Str × D)) (s : DS) : List HD → SO
  | [] => .ex C pl s
  | h :: r => match h.m C with
    | none => .no
    | some false => hGo C pl s r
    | some true => match h.at_ with
      | none => outP (h.su C s)
      | some i => if (pl.isEmpty && !s.lk.contains i && decide (i < s.sl.length)) = true then outN i (h.su C { s with sl := clr s.sl i }) else .no
def sTry (f : SF) (hs : List HD) : SF := fun s => match f s with
  | .ex C pl s1 => hGo C pl s1 hs
  | r => r
def ioE (io : IOs) (i : Nat) (a : Addr) : IOs := ⟨i :: io.l, (i, a) :: io.fx⟩
section
variable {W : Wd} {XW : WX} {ℓ : Addr → Lab} {H : Hp} {B : Ent} {s s' : DS} {F : Temps} {σ : L2.St} {v : V} {d : D} {x : DV} {i : Nat} {En : Ends}
theorem SIw.chIO {io : IOs} {s0 : L2.St} (I : SIw W ℓ H B s F σ) (hio : ∀ k ∈ io, σ[k]? = io0 io s0 k) : SIw (W.1, W.2.1, io) ℓ H { B with s0 := s0 } s F σ where
  len := I.len
  lab := I.lab
  prot := I.prot
  bw := I.bw
  keep := I.keep
  ios := hio
  lks := I.lks
  slots := fun i z e => by
    obtain ⟨v, e1, e2⟩ := I.slots i z e
    refine ⟨v, e1, ?_⟩
    cases z with
    | dat n d => exact Rep.chW (W := W) e2 rfl rfl
    | brw d => exact Rep.chW (W := W) e2 rfl rfl
    | als j p => exact e2
  temps := by
    have go : ∀ {G : Temps}, TmRs W ℓ H s.sl σ G → TmRs (W.1, W.2.1, io) ℓ H s.sl σ G := by
      intro G
      induction G with
      | nil => exact fun _ => trivial
      | cons g G ih =>
        obtain ⟨x, v⟩ := g
        intro h
        refine ⟨?_, ih h.2⟩
        have h := h.1
        cases x with
        | dat n d => exact Rep.chW (W := W) h rfl rfl
        | brw d => exact Rep.chW (W := W) h rfl rfl
        | plc j p d =>
          have T : if owned s.sl j p = true then PlR H s.sl σ j p v d else Rep W ℓ H .fz v d := h
          show if owned s.sl j p = true then PlR H s.sl σ j p v d else Rep (W.1, W.2.1, io) ℓ H .fz v d
          by_cases o : owned s.sl j p = true
          · rw [if_pos o] at T ⊢; exact T
          · rw [if_neg o] at T ⊢; exact Rep.chW (W := W) T rfl rfl
    exact go I.temps
theorem clr_none : ∀ {sl : List (Option SV)} {i : Nat} {z : SV}, (clr sl i)[i]? ≠ some (some z) := fun h => (clr_some h).1 rfl
/-- into a suite that names the error -/
theorem SIw.into {a : Addr} (I : SIw W ℓ H B s F σ) (hr : i ∉ roots F) (hi : i < s.sl.length) (hio : i ∉ W.2.2) : SIw (W.1, W.2.1, ioE W.2.2 i a) ℓ H { B with s0 := σ.set i (some (.ref a)) } { s with sl := DL.clr s.sl i } F (σ.set i (some (.ref a))) := by
  have J := (I.clr hr).st (σ' := σ.set i (some (.ref a))) (by simp) (fun k x e => List.getElem?_set_ne fun z => (clr_some e).1 z.symm) (fun k hk => List.getElem?_set_ne fun z => hio (by rw [z]; exact hk))
  refine J.chIO fun k hk => ?_
  show _ = (match List.lookup k ((i, a) :: W.2.2.fx) with | some a => some (some (V.ref a)) | none => (σ.set i (some (.ref a)))[k]?)
  by_cases e : k = i
  · subst e
    have hl : k < σ.length := by rw [← I.len]; exact hi
    simp [List.lookup, hl]
  · have hb : (k == i) = false := beq_eq_false_iff_ne.mpr e
    simp only [List.lookup, hb]
    cases q : List.lookup k W.2.2.fx with
    | none => rfl
    | some b =>
      have hk' : k ∈ W.2.2 := by
        have hk : k ∈ i :: W.2.2.l := hk
        exact (List.mem_cons.mp hk).elim (fun z => absurd z e) id
      have z := I.ios k hk'
      unfold io0 at z
      rw [q] at z
      rw [List.getElem?_set_ne (Ne.symm e)]
      exact z
theorem io_back {a : Addr} {σ2 : L2.St} (I : SIw W ℓ H B s F σ) (hio : i ∉ W.2.2) (h : ∀ k ∈ ioE W.2.2 i a, σ2[k]? = io0 (ioE W.2.2 i a) (σ.set i (some (.ref a))) k) : ∀ k ∈ W.2.2, σ2[k]? = io0 W.2.2 B.s0 k := by
  intro k hk
  have e : k ≠ i := fun z => hio (by rw [← z]; exact hk)
  have hb : (k == i) = false := beq_eq_false_iff_ne.mpr e
  have z : σ2[k]? = (match List.lookup k ((i, a) :: W.2.2.fx) with | some a => some (some (V.ref a)) | none => (σ.set i (some (.ref a)))[k]?) := h k (show k ∈ i :: W.2.2.l from List.mem_cons_of_mem _ hk)
  simp only [List.lookup, hb] at z
  unfold io0
  cases q : List.lookup k W.2.2.fx with
  | some b => rw [q] at z; exact z
  | none =>
    rw [q] at z
    rw [List.getElem?_set_ne (Ne.symm e)] at z
    have z2 := I.ios k hk
    unfold io0 at z2
    rw [q] at z2
    exact z.trans z2
/-- each clause of the text with what it computes -/
inductive HRel (W : Wd) : List Cl → List HD → Prop
  | nil : HRel W [] []
  | plain {c : Value} {m : Str → Option Bool} {su : Str → SF} {ts : Addr → Value → Option Addr → TS} {l : List Cl} {hs : List HD} (hm : ∀ C b Ca, m C = some b → W.2.1 C = some (.ref Ca) → PySem.W.exmOne W.1 (.ref Ca) c = some b)
      (ht : ∀ a cls dd E σ H C, m C = some true → W.2.1 C = some cls → tDS W XW0 (su C) E σ H → ts a cls dd E σ H) (r : HRel W l hs) : HRel W ((c, none, ts) :: l) (⟨m, none, su⟩ :: hs)
  | named {c : Value} {i : Nat} {m : Str → Option Bool} {su : Str → SF} {ts : Addr → Value → Option Addr → TS} {l : List Cl} {hs : List HD} (hio : i ∉ W.2.2) (hm : ∀ C b Ca, m C = some b → W.2.1 C = some (.ref Ca) → PySem.W.exmOne W.1 (.ref Ca) c = some b)
      (ht : ∀ a cls E σ H C, m C = some true → W.2.1 C = some cls → tDS (W.1, W.2.1, ioE W.2.2 i a) XW0 (su C) E σ H → ts a cls none E σ H) (r : HRel W l hs) : HRel W ((c, some i, ts) :: l) (⟨m, some i, su⟩ :: hs)
theorem hGo_ok {l : List Cl} {hs : List HD} {C : Str} {pl : List (Str × D)} {cls : Value} {dd : Option Addr} (h : HRel W l hs) (I : SIx W B s F σ H C pl cls dd) : SC W XW B F En (hGo C pl s hs) → wAll W.1 XW En l cls dd σ H := by
  induction h with
  | nil => exact fun q => q cls dd σ H I
  | @plain c m su ts l hs hm ht r ih =>
    intro q
    obtain ⟨ℓ, Ca, J, h1, h2, h3⟩ := id I
    subst h2
    unfold hGo at q
    cases em : m C with
    | none => simp only [em] at q; exact q.elim
    | some b =>
      refine ⟨b, hm C b Ca em h1, fun hb a na => ?_, fun hb => ?_⟩
      · subst hb
        simp only [em] at q
        refine ht a _ dd En σ H C em h1 ⟨B, s, F, ⟨ℓ, J⟩, ?_⟩
        cases e : su C s with
        | ex => rw [e] at q; exact q.elim
        | no => rw [e] at q; exact q.elim
        | nx s1 => rw [e] at q; exact q
        | bk s1 => rw [e] at q; exact q
        | ct s1 => rw [e] at q; exact q
        | rt x s1 => rw [e] at q; exact q
      · subst hb
        simp only [em] at q
        exact ih q
  | @named c i m su ts l hs hio hm ht r ih =>
    intro q
    obtain ⟨ℓ, Ca, J, h1, h2, h3⟩ := id I
    subst h2
    unfold hGo at q
    cases em : m C with
    | none => simp only [em] at q; exact q.elim
    | some b =>
      refine ⟨b, hm C b Ca em h1, fun hb a na => ?_, fun hb => ?_⟩
      · subst hb
        simp only [em] at q
        by_cases c : (pl.isEmpty && !s.lk.contains i && decide (i < s.sl.length)) = true
        · rw [if_pos c] at q
          simp only [Bool.and_eq_true, Bool.not_eq_true', decide_eq_true_eq] at c
          obtain ⟨⟨c1, c2⟩, c3⟩ := c
          obtain rfl : pl = [] := by simpa using c1
          obtain rfl : dd = none := h3
          have hr := not_mem_lk J c2
          have K := J.into (a := a) hr c3 hio
          refine ht a _ (endsN i En) _ H C em h1 ⟨_, _, F, ⟨ℓ, K⟩, ?_⟩
          -- the way back
          have back : ∀ {ℓ2 H2 s2 G σ2}, SIw (W.1, W.2.1, ioE W.2.2 i a) ℓ2 H2 { B with s0 := σ.set i (some (.ref a)) } s2 G σ2 → SIw W ℓ2 H2 B s2 G σ2 := fun {ℓ2 H2 s2 G σ2} L => L.chIO (io := W.2.2) (s0 := B.s0) (io_back J hio L.ios)
          have fin : ∀ {H2 s2 σ2}, s2.lk.contains i = false → SI (W.1, W.2.1, ioE W.2.2 i a) { B with s0 := σ.set i (some (.ref a)) } s2 F σ2 H2 → SI W B { s2 with sl := clr s2.sl i } F (σ2.set i none) H2 := fun {H2 s2 σ2} cc ⟨ℓ2, L⟩ => by
            have L' := back L
            exact ⟨ℓ2, (L'.clr (not_mem_lk L' cc)).st (by simp) (fun k x e => List.getElem?_set_ne fun z => (clr_some e).1 z.symm) (fun k hk => List.getElem?_set_ne fun z => hio (by rw [z]; exact hk))⟩
          cases e : su C { s with sl := clr s.sl i } with
          | ex => rw [e] at q; exact q.elim
          | no => rw [e] at q; exact q.elim
          | rt x s1 => rw [e] at q; exact fun v σ2 H2 ⟨ℓ2, L⟩ => q v σ2 H2 ⟨ℓ2, back L⟩
          | nx s1 =>
            rw [e] at q
            unfold outN at q
            by_cases cc : s1.lk.contains i = true
            · simp only [if_pos cc] at q; exact q.elim
            · simp only [if_neg cc] at q
              exact fun σ2 H2 L => q _ H2 (fin (by simpa using cc) L)
          | bk s1 =>
            rw [e] at q
            unfold outN at q
            by_cases cc : s1.lk.contains i = true
            · simp only [if_pos cc] at q; exact q.elim
            · simp only [if_neg cc] at q
              exact fun σ2 H2 L => q _ H2 (fin (by simpa using cc) L)
          | ct s1 =>
            rw [e] at q
            unfold outN at q
            by_cases cc : s1.lk.contains i = true
            · simp only [if_pos cc] at q; exact q.elim
            · simp only [if_neg cc] at q
              exact fun σ2 H2 L => q _ H2 (fin (by simpa using cc) L)
        · rw [if_neg c] at q; exact q.elim
      · subst hb
        simp only [em] at q
        exact ih q
end
section
variable {X : Cx} {XW : WXI} {pos : Pos}
/-- the clauses, judged -/
inductive HJ (X : Cx) (XW : WXI) : List ExceptHandler → List HD → Prop
  | nil : HJ X XW [] []
  | plain {x : Str} {c : Value} {b₀ : Stmt} {suite : List Stmt} {np p' : Pos} {hds : List ExceptHandler} {hs : List HD} {m : Str → Option Bool} {su : Str → SF} (hc : Names X x c) (hm : ∀ C b Ca, m C = some b → X.mg C = some (.ref Ca) → PySem.W.exmOne X.K (.ref Ca) c = some b)
      (hsu : ∀ (a : Addr) (oe : Obj) (cls : Value) (dd : Option Addr) (pn : List (Addr × Obj)) (C : Str), m C = some true → X.mg C = some cls → Zc cls dd oe → (∃ vs, oe.data = .fields vs) → PSsd (X.suite a ((a, oe) :: pn)) (XW0, XW.2) (b₀ :: suite) (su C)) (r : HJ X XW hds hs) :
      HJ X XW (.ExceptHandler (some (.Name x np)) none (b₀ :: suite) p' :: hds) (⟨m, none, su⟩ :: hs)
  | named {x n : Str} {i : Nat} {c : Value} {b₀ : Stmt} {suite : List Stmt} {np p' : Pos} {hds : List ExceptHandler} {hs : List HD} {m : Str → Option Bool} {su : Str → SF} (hc : Names X x c) (hi : X.N[i]? = some n) (hln : X.env.kindOf n = some .local) (hio : i ∉ XW.2) (hm : ∀ C b Ca, m C = some b → X.mg C = some (.ref Ca) → PySem.W.exmOne X.K (.ref Ca) c = some b)
      (hsu : ∀ (a : Addr) (oe : Obj) (cls : Value) (pn : List (Addr × Obj)) (C : Str), m C = some true → X.mg C = some cls → Zc cls none oe → (∃ vs, oe.data = .fields vs) → PSsd (X.suite a ((a, oe) :: pn)) (XW0, ioE XW.2 i a) (b₀ :: suite) (su C)) (r : HJ X XW hds hs) :
      HJ X XW (.ExceptHandler (some (.Name x np)) (some n) (b₀ :: suite) p' :: hds) (⟨m, some i, su⟩ :: hs)
theorem HJ.both {hds : List ExceptHandler} {hs : List HD} (h : HJ X XW hds hs) : ∃ l, ClsOk X hds l ∧ HRel (Wx X XW) l hs := by
  induction h with
  | nil => exact ⟨[], .nil, .nil⟩
  | @plain x c b₀ suite np p' hds hs m su hc hm hsu r ih =>
    obtain ⟨l, h1, h2⟩ := ih
    refine ⟨(c, none, fun a cls dd E σ H => ∃ C, m C = some true ∧ X.mg C = some cls ∧ tDS (Wx X XW) XW0 (su C) E σ H) :: l, .plain hc (fun a oe cls dd pn hz hv => ⟨fun pins s σ H E I q => ?_⟩) h1, .plain hm (fun a cls dd E σ H C k1 k2 k3 => ⟨C, k1, k2, k3⟩) h2⟩
    obtain ⟨C, k1, k2, k3⟩ := q
    exact (hsu a oe cls dd pn C k1 k2 hz hv).p.run pins s σ H E I k3
  | @named x n i c b₀ suite np p' hds hs m su hc hi hln hio hm hsu r ih =>
    obtain ⟨l, h1, h2⟩ := ih
    refine ⟨(c, some i, fun a cls dd E σ H => dd = none ∧ ∃ C, m C = some true ∧ X.mg C = some cls ∧ tDS (X.K, X.mg, ioE XW.2 i a) XW0 (su C) E σ H) :: l, .named hc hi hln (fun a oe cls dd pn hz hv => ⟨fun pins s σ H E I q => ?_⟩) h1, .named hio hm (fun a cls E σ H C k1 k2 k3 => ⟨rfl, C, k1, k2, k3⟩) h2⟩
    obtain ⟨rfl, C, k1, k2, k3⟩ := q
    exact (hsu a oe cls pn C k1 k2 hz hv).p.run pins s σ H E I k3
theorem psd_try {body : List Stmt} {h₀ : ExceptHandler} {hds : List ExceptHandler} {f : SF} {hs : List HD} (hst : X.stack = X.env :: X.outer) (hf : X.env.frame = some X.env.locals) (hN : X.N.Nodup) (tk : Takes X XW.1)
    (hb : ∀ (W : WX) (pn : List (Addr × Obj)) (xe : Value → Shared → Prop), Takes (X.tr pn xe) W → PassesOwn (model X.prog X.w) X.A X.env xe → PSsd (X.tr pn xe) (W, XW.2) body f) (hh : HJ X XW (h₀ :: hds) hs) : PSd X XW (.Try body (h₀ :: hds) [] [] pos) (sTry f hs) := by
  obtain ⟨l, h1, h2⟩ := hh.both
  refine ⟨PS.imp (ps_tryAll (tb := fun W => tDS (Wx X XW) W f) hst hf hN tk (fun W pn xe t p => (hb W pn xe t p).p) h1) fun E σ H h => ?_⟩
  obtain ⟨B, s, F, I, h⟩ := h
  refine ⟨B, s, F, I, ?_⟩
  unfold sTry at h
  cases e : f s with
  | ex C pl s1 => rw [e] at h; exact fun cls dd σ H I' => hGo_ok h2 I' h
  | no => rw [e] at h; exact h
  | nx s1 => rw [e] at h; exact h
  | bk s1 => rw [e] at h; exact h
  | ct s1 => rw [e] at h; exact h
  | rt x s1 => rw [e] at h; exact h
/-- isinstance(e, C), e the caught error of the class at Dc -/
theorem pd_isE {a Dc : Addr} {oe : Obj} {pn : List (Addr × Obj)} {i : Nat} {n x : Str} {p p1 p2 : Pos} {cv : Value} {c : V} {b : Bool} {YW : WXI} (EC : ExcC X.K Dc) (hz : Zc (.ref Dc) none oe) (hf : ∃ vs, oe.data = .fields vs) (hi : i ∈ YW.2) (hl : YW.2.fx.lookup i = some a)
    (hk : PySem.W.kitOne X.K (.ref Dc) cv = some b) (hu : ∀ u, RelV c u → u = cv) (hg : Gl (X.suite a ((a, oe) :: pn)) "isinstance") (hm : X.mg "isinstance" = none) (hx : PE (X.suite a ((a, oe) :: pn)) (.Name x p2) (tC c)) (hN : X.N[i]? = some n) (hvis : Vis X.env.scope n)
    (hd : (n == ("__debug__" : Str)) = false := by decide) (hcd : (n == ("__classdict__" : Str)) = false := by decide) (hv : bootBuiltins "isinstance" = some (.builtin "isinstance") := by rfl)
    (h1 : starEach [.Name n p1, .Name x p2] X.env = (false, eval (.Name n p1) X.env) :: starEach [.Name x p2] X.env := by rfl) (h2 : (backTo pos (starEach [.Name x p2] X.env)).any (·.1) = false := by rfl) (h3 : starEach [.Name x p2] X.env = (false, eval (.Name x p2) X.env) :: starEach [] X.env := by rfl) :
    PEd (X.suite a ((a, oe) :: pn)) YW (.Call (.Name "isinstance" p) [.Name n p1, .Name x p2] [] pos) (eCon (.bl b)) := by
  refine ⟨PE.imp (pe_callB (call_isE EC hz hf) hg hm hv (pa_cons (pe_var (X := X.suite a ((a, oe) :: pn)) (pos := p1) hN hvis hd hcd) (pa_cons hx pa_nil h3) h1) (by decide) (by decide) h1 h2) fun σ H Q h => ?_⟩
  obtain ⟨B, s, F, ⟨ℓ, I⟩, h⟩ := h
  have e : σ[i]? = io0 YW.2 B.s0 i := I.ios i hi
  unfold io0 at e
  rw [hl] at e
  exact ⟨.ref a, e, c, cv, b, rfl, hu, hk, h _ _ ⟨ℓ, I.push (x := .dat 0 (.bl b)) (.bl b) rfl⟩⟩
end
end DL

set_option Elab.async false
set_option linter.all false
set_option maxRecDepth 100000
/-! D27: enumerate over lists and tuples -/
namespace PySem
open Sem (wp)
open AutoSeq1 (wpAny_loadPart')
set_option maxHeartbeats 1000000 in
theorem dl_enumerate1 {v : Value} {o : Obj} {G : Heap → Prop} (B : Begins v o G) :
    Meets (Builtin.«enumerate.__new__» ⟨[.type "enumerate", v], []⟩) (fun _ R s => G s.heap ∧
      R (.ok (.ret (.ref (s.heap.push o).objs.size))) { s with heap := (s.heap.push o).push { cls := .type "enumerate", data := .fields #[.none, .bool false, .ref s.heap.objs.size, rawInt 0, .none, .none] } }) :=
  .of_wp fun prog w A R s h => by
    obtain ⟨hp, g, d, tk, os⟩ := s
    obtain ⟨hB, h⟩ := h
    have hsub := sub_enumerate
    have begin_ : ∀ {A' : Around} {E : Value → Shared → Prop} {Q : Value → Shared → Prop}, Q (.ref hp.objs.size) ⟨hp.push o, g, d, tk, os⟩ → wpAny (model prog w) A' (pyIter v) Q E ⟨hp, g, d, tk, os⟩ := fun q => B.iter prog w _ _ ⟨hp, g, d, tk, os⟩ _ hB q
    wp_walk using begin_
    refine wpAny_stack_any fun st => wpAny_pure ?_
    split
    · rename_i c _ _ _ _ _
      cases (c == Value.type "enumerate") <;> (wp_walk using begin_; exact ⟨_, rfl, h⟩)
    · wp_walk using begin_
      exact ⟨_, rfl, h⟩
theorem dl_call_enumerate {prog : Program} {w : World} {A : Around} {E : Value → Shared → Prop} {s : Shared} {v : Value} {o : Obj} {G : Heap → Prop} {Q : Value → Shared → Prop} (B : Begins v o G) (hG : G s.heap)
    (k : ∀ h', IsEnum h' (s.heap.objs.size + 1) s.heap.objs.size 0 .none → h'.get? s.heap.objs.size = some o → (∀ b x, s.heap.get? b = some x → h'.get? b = some x) → Q (.ref (s.heap.objs.size + 1)) { s with heap := h' }) :
    wpAny (model prog w) A (call (.type "enumerate") [v]) Q E s := by
  refine callType_new F.called_enumerate (by decide) (F.typeCall_enumerate_1 _) (F.newCall_enumerate_1 _) (fun obj => F.args_object_init_2 obj _) F.entry_enumerate_new (dl_enumerate1 B) ⟨hG, ?_⟩
  have sz : (s.heap.push o).objs.size = s.heap.objs.size + 1 := Heap.size_push ..
  have he : ((s.heap.push o).push { cls := .type "enumerate", data := .fields #[.none, .bool false, .ref s.heap.objs.size, rawInt 0, .none, .none] }).get? (s.heap.objs.size + 1) = some { cls := .type "enumerate", data := .fields #[.none, .bool false, .ref s.heap.objs.size, rawInt 0, .none, .none] } := by
    rw [← sz]; exact Heap.get?_push_size _ rfl
  refine ⟨⟨_, by rw [sz]; exact he, rfl⟩, ?_⟩
  rw [sz]
  exact k _ he (Heap.get?_push_of_some _ (Heap.get?_push_size _ B.free)) fun b x e => Heap.get?_push_of_some _ (Heap.get?_push_of_some _ e)
end PySem
namespace DL
open PySem PySem.Spec PyProof.Rows L2
/-- the tuple at a, each item in a new pair -/
def IteT (K : PySem.W.Frag) (a : Addr) : It :=
  ⟨fun i H => ∃ (xs : List V) (x : V), SqT K H a xs ∧ xs[i]? = some x, fun i H v H' => ∃ T x, v = .ref T ∧ H T = none ∧ H' = upd H T (.tup [.int (i : Nat), x]) ∧ ∀ xs, SqT K H a xs → xs[i]? = some x, fun i H => ∃ xs : List V, SqT K H a xs ∧ xs.length ≤ i⟩
theorem turn_enumT {P : Program} {w : World} {K : PySem.W.Frag} {elts : List Expr} {kk : Nat} {tp : Pos} (a e it : Addr) (hai : a ≠ it) :
    Turn P w K (.Tuple elts kk tp) (IteT K a) [e, it] e (fun i h => (∃ old, IsEnum h e it ((i : Nat) : Int) old) ∧ h.IsTupleIter it a i ∧ e ≠ it ∧ a ≠ e) where
  mem := List.mem_cons_self
  obj := by
    rintro i h ⟨⟨old, he⟩, ⟨o, ho, hc, hd⟩, _⟩ b hb
    rcases List.mem_cons.mp hb with rfl | hb
    · exact ⟨_, he, fun v q => nomatch q⟩
    · rw [List.mem_singleton.mp hb]
      exact ⟨o, ho, fun v q => by rw [hd] at q; cases q⟩
  keep := fun i h h' ⟨⟨old, he⟩, hi, hne, hae⟩ k => ⟨⟨old, k e (by simp) _ he⟩, hi.at fun o q => k it (by simp) o q, hne, hae⟩
  item := by
    intro X hP hw hK hc i pins s σ H E J hf st hg
    subst hP hw hK
    obtain ⟨⟨old, he⟩, hit, hne, hae⟩ := st
    obtain ⟨xs, x, hq, hx⟩ := hg
    obtain ⟨its, rv, p, hz⟩ := J.tuple hq
    obtain ⟨u, hu, ru⟩ := rv.get hx
    have eL : e < s.heap.objs.size := Heap.lt_size he
    have iL : it < s.heap.objs.size := by obtain ⟨_, q, _⟩ := hit; exact Heap.lt_size q
    have hT : s.heap.IsTuple a its.toArray := p
    have hl : i < its.toArray.size := by have := (List.getElem?_eq_some_iff.mp hu).1; simpa using this
    have hd1 : X.A.in1.handled = none := J.ok.hd hc
    have D := Draws.tuple (prog := X.prog) (w := X.w) (A := X.A.in1) hd1 it a hai its.toArray
    have nef : e ∉ [it, a] := fun m => (List.mem_cons.mp m).elim hne fun m => hae (List.mem_singleton.mp m).symm
    refine wpAny_pyNext_enum_itemD D he ⟨hit, hT⟩ hl hne nef fun y h' tk hP ho hst hT' hsz hk => ?_
    have hP : its.toArray[i]? = some y := hP
    have ey : y = u := by
      have z : its.toArray[i]? = some u := by simpa using hu
      rw [hP] at z; cases z; rfl
    subst ey
    refine ⟨_, rfl, wpAny_letOwnedTupleGo_enum (s := { s with heap := h', toks := tk + 1 }) ho fun h2 he2 sb => ?_⟩
    have hT2 : h2.get? s.heap.objs.size = some { cls := .type "tuple", data := .seq #[.int i tk, y] } := (sb.2 _ (Nat.ne_of_gt eL)).trans hT'
    have new : ObjOk X.prog X.w (upd H s.heap.objs.size (.tup [.int (i : Nat), x])) h2 s.heap.objs.size (.tup [.int (i : Nat), x]) :=
      ⟨by show 2 ≤ sizeLine; decide, [.int i tk, y], .cons ⟨_, rfl⟩ (.cons ru .nil), ⟨_, hT2, rfl, _, rfl⟩⟩
    have J1 : Inv X pins σ (upd H s.heap.objs.size (.tup [.int (i : Nat), x])) { s with heap := h2, toks := tk + 1 } :=
      J.turnedNew (ch := [e, it]) (fun b ob hb q => (sb.2 b (fun z => hb (by simp [z]))).trans (hk b ob (fun z => hb (by simp [z])) (fun z => hb (by simp [z])) q)) hf (Nat.le_refl _) new
    refine ⟨.ref s.heap.objs.size, _, J1, rfl, ⟨_, x, rfl, J.hok.fresh (Nat.le_refl _), rfl, fun ys hy => by rw [J.tuple_inj hy hq]; exact hx⟩, ⟨⟨y, ?_⟩, hst.1.at fun o q => (sb.2 it (Ne.symm hne)).trans q, hne, hae⟩, fun b hb => ?_⟩
    · have e1 : ((i + 1 : Nat) : Int) = (i : Int) + 1 := by omega
      rw [e1]; exact he2
    · have hb' : b < s.heap.objs.size := by
        rcases List.mem_cons.mp hb with z | z
        · rw [z]; exact eL
        · rw [List.mem_singleton.mp z]; exact iL
      rw [upd_ne (Nat.ne_of_lt hb')]
      exact (hf b hb).1
  done := by
    intro X hP hw hK hc i pins s σ H E J hf st hg
    subst hP hw hK
    obtain ⟨⟨old, he⟩, hit, hne, hae⟩ := st
    obtain ⟨xs, hq, hx⟩ := hg
    obtain ⟨its, rv, p, hz⟩ := J.tuple hq
    obtain ⟨f0, f1, f2, f3, f4, f5⟩ := hf it (by simp)
    have hl := rv.length
    have hd1 : X.A.in1.handled = none := J.ok.hd hc
    have hT : s.heap.IsTuple a its.toArray := p
    have fin : ∀ h' : Heap, Heap.ExtBut it s.heap h' → (none : Option Value) = none ∧ Inv X pins σ H { s with heap := h' } := fun h' eb => ⟨rfl, J.turned (t' := s.toks) (fun b o hb q => eb b o hb q) f0 f1 f3 f4 f5⟩
    have T0 : s.TypeIs (.ref e) "enumerate" := ⟨_, he, rfl⟩
    unfold pyNext
    refine wpAny_bind (wpAny_attempt (wpAny_callSpecial?_slot (name := Str.ofString "__next__") T0 F.slot_enumerate_next (wpAny_call_entry F.slot_enumerate_next T0 F.entry_enumerate_next ?_ (F.args_enumerate_next_1 _))))
    show wpAny _ _ (field (.ref e) 2 >>= _) _ _ _
    refine wpAny_bind (wpAny_field he rfl (x := .ref it) rfl ?_)
    refine wpAny_bind (wpAny_nextOf_tuple_end hd1 hit hT (by simp; omega) fun h' x he' hx' => ?_)
    obtain ⟨o, ho, hc'⟩ := hx'
    exact wpAny_bind (wpAny_isInstance (T := "StopIteration") (b := true) ⟨o, ho, hc'⟩ isSubtype_stop (wpAny_pure (fin _ he')))
  self := fun A i s Q E st h => by
    obtain ⟨⟨_, he⟩, _⟩ := st
    exact wpAny_pyIter_enum he h
def iEnq (K : PySem.W.Frag) (te : TE) : TI := fun σ H R => te σ H fun v0 H1 => ∃ v, [v0] = [v] ∧ ∃ a, v = .ref a ∧ (((∃ xs, SqL K H1 a xs) ∧ R (Ite K a) H1) ∨ ((∃ xs, SqT K H1 a xs) ∧ R (IteT K a) H1))
theorem pi_enq {X : Cx} {e : Expr} {te : TE} {p pos tp : Pos} {elts : List Expr} {kk : Nat} (hg : Gl X "enumerate") (hm : X.mg "enumerate" = none) (he : PE X e te) (hs : starEach [e] X.env = [(false, eval e X.env)] := by rfl) : PI X (.Tuple elts kk tp) (.Call (.Name "enumerate" p) [e] [] pos) (iEnq X.K te) where
  run := by
    intro pins s σ H R J h
    have ha : PA X [e] (tCons te tNil) := pa_cons he pa_nil (by rw [hs]; rfl)
    refine Call_ (ld_blt J hg hm boot_enumerate (PyProof.Rows.callWith_type1 (thn (ha.run pos pins s σ H (fun vs H1 => ∃ v, vs = [v] ∧ ∃ a, v = .ref a ∧ (((∃ xs, SqL X.K H1 a xs) ∧ R (Ite X.K a) H1) ∨ ((∃ xs, SqT X.K H1 a xs) ∧ R (IteT X.K a) H1))) J ?_) ?_) hs rfl))
    · exact h
    · rintro us s1 ⟨vs, H1, J1, r1, v, rfl, a, rfl, q⟩
      cases r1 with
      | cons r rr =>
        cases rr
        cases r
        rcases q with ⟨⟨xs, hq⟩, q⟩ | ⟨⟨xs, hq⟩, q⟩
        · obtain ⟨its, rv, pl, hz⟩ := J1.list hq
          refine dl_call_enumerate (begins_list a its.toArray) pl.isList fun h' he hit hk => wpAny_pyIter_enum he ?_
          refine ⟨s1.heap.objs.size + 1, [s1.heap.objs.size + 1, s1.heap.objs.size], _, _, H1, rfl, J1.kept (t' := s1.toks) hk, turn_enum a (s1.heap.objs.size + 1) s1.heap.objs.size, ⟨⟨.none, he⟩, ⟨_, hit, rfl, rfl⟩, Nat.succ_ne_self _⟩, fun b hb => ?_, q⟩
          have le : s1.heap.objs.size ≤ b := by
            rcases List.mem_cons.mp hb with z | z
            · rw [z]; exact Nat.le_succ _
            · rw [List.mem_singleton.mp z]; exact Nat.le_refl _
          exact J1.fpOk le (J1.hok.fresh le)
        · obtain ⟨its, rv, pl, hz⟩ := J1.tuple hq
          have al : a < s1.heap.objs.size := by obtain ⟨o, ho, _⟩ := pl; exact Heap.lt_size ho
          refine dl_call_enumerate (begins_tuple a its.toArray) pl fun h' he hit hk => wpAny_pyIter_enum he ?_
          refine ⟨s1.heap.objs.size + 1, [s1.heap.objs.size + 1, s1.heap.objs.size], _, _, H1, rfl, J1.kept (t' := s1.toks) hk, turn_enumT a (s1.heap.objs.size + 1) s1.heap.objs.size (Nat.ne_of_lt al), ⟨⟨.none, he⟩, ⟨_, hit, rfl, rfl⟩, Nat.succ_ne_self _, Nat.ne_of_lt (Nat.lt_succ_of_lt al)⟩, fun b hb => ?_, q⟩
          have le : s1.heap.objs.size ≤ b := by
            rcases List.mem_cons.mp hb with z | z
            · rw [z]; exact Nat.le_succ _
            · rw [List.mem_singleton.mp z]; exact Nat.le_refl _
          exact J1.fpOk le (J1.hok.fresh le)
section
variable {W : Wd} {XW : WX} {B : Ent} {s : DS} {F : Temps} {σ : L2.St} {H : Hp}
def enItm (x : DV) (ds : List D) (k : Nat) (s : DS) : Option (IV × DS) := match ds[k]? with
  | some c => some (.many [.dat 0 (.int k), (dsub x k c (dupS x s)).1], (dsub x k c (dupS x s)).2)
  | none => none
theorem en_pair {y : DV} {u : V} {T : Addr} {i : Nat} {G : Temps} (J : SI W B s ((y, u) :: G) σ H) (hT : H T = none) : IVR W B s G σ (upd H T (.tup [.int (i : Nat), u])) (.ref T) (.many [.dat 0 (.int i), y]) := by
  obtain ⟨ℓ, J⟩ := J
  have J2 := J.alloc (o := .tup [.int (i : Nat), u]) (l := .no) hT (by simp)
  exact ⟨T, [.int (i : Nat), u], rfl, .inl (.inl upd_same), rfl, _, J2.push (x := .dat 0 (.int i)) (.int _) rfl⟩
theorem jok_enL {x : DV} {a : Addr} {ds : List D} (hx : isPlain x = true) (hd : x.d = .lst ds) : JOk W (Ite W.1 a) x (.ref a) ds.length (enItm x ds) := by
  intro i B s F σ H ⟨ℓ, I⟩
  obtain ⟨a', vs, ea, hq, hl, hk⟩ := (I.dup hx).subL hd
  cases ea
  refine ⟨fun h => ⟨vs, hq, by omega⟩, fun h => ⟨⟨vs, vs[i]'(by omega), hq, List.getElem?_eq_getElem _⟩, fun u H' y s1 hy hi => ?_⟩⟩
  obtain ⟨T, w, rfl, hT, rfl, hy⟩ := hy
  unfold enItm at hi
  split at hi
  · rename_i c e
    cases hi
    exact en_pair (hk i w c (hy vs hq) e) hT
  · cases hi
theorem jok_enT {x : DV} {a : Addr} {ds : List D} (hx : isPlain x = true) (hd : x.d = .tup ds) : JOk W (IteT W.1 a) x (.ref a) ds.length (enItm x ds) := by
  intro i B s F σ H ⟨ℓ, I⟩
  obtain ⟨a', vs, ea, hq, hl, hk⟩ := (I.dup hx).subT hd
  cases ea
  refine ⟨fun h => ⟨vs, hq, by omega⟩, fun h => ⟨⟨vs, vs[i]'(by omega), hq, List.getElem?_eq_getElem _⟩, fun u H' y s1 hy hi => ?_⟩⟩
  obtain ⟨T, w, rfl, hT, rfl, hy⟩ := hy
  unfold enItm at hi
  split at hi
  · rename_i c e
    cases hi
    exact en_pair (hk i w c (hy vs hq) e) hT
  · cases hi
def iEnum (f : EF) : IF := fun s => match f s with
  | .ok x s1 => match seqOf x.d with
    | some ds => .ok (plain x) ds.length (enItm (plain x) ds) s1
    | none => .no
  | .ex C pl s1 => .ex C pl s1
  | .no => .no
theorem tEnumI {f : EF} {R : It → Hp → Prop} (h : tDI W XW (iEnum f) σ H R) : iEnq W.1 (tD W XW f) σ H R := by
  obtain ⟨B, s, F, I, h⟩ := h
  refine ⟨B, s, F, I, ?_⟩
  unfold iEnum at h
  cases e : f s with
  | no => simp only [e] at h; exact h
  | ex C pl s1 => simp only [e] at h; exact h
  | ok x s1 =>
    simp only [e] at h
    intro v H1 ⟨ℓ, I1⟩
    cases ed : x.d with
    | lst ds =>
      simp only [ed, seqOf] at h
      obtain ⟨ℓ2, J2⟩ := I1.plain
      obtain ⟨a, vs, rfl, hq, _, _⟩ := J2.subL ((plain_d x).trans ed)
      exact ⟨_, rfl, a, rfl, .inl ⟨⟨vs, hq⟩, h _ _ _ ⟨ℓ2, J2⟩ (jok_enL (isPlain_plain x) ((plain_d x).trans ed))⟩⟩
    | tup ds =>
      simp only [ed, seqOf] at h
      obtain ⟨ℓ2, J2⟩ := I1.plain
      obtain ⟨a, vs, rfl, hq, _, _⟩ := J2.subT ((plain_d x).trans ed)
      exact ⟨_, rfl, a, rfl, .inr ⟨⟨vs, hq⟩, h _ _ _ ⟨ℓ2, J2⟩ (jok_enT (isPlain_plain x) ((plain_d x).trans ed))⟩⟩
    | _ => simp only [ed, seqOf] at h; exact h.elim
end
theorem pid_enum {X : Cx} {XW : WXI} {e : Expr} {f : EF} {p pos tp : Pos} {elts : List Expr} {kk : Nat} (hg : Gl X "enumerate") (hm : X.mg "enumerate" = none) (he : PEd X XW e f) (hs : starEach [e] X.env = [(false, eval e X.env)] := by rfl) : PId X XW (.Tuple elts kk tp) (.Call (.Name "enumerate" p) [e] [] pos) (iEnum f) :=
  ⟨PI.imp (pi_enq hg hm he.p hs) fun _ _ _ h => tEnumI h⟩
end DL

set_option Elab.async false
set_option linter.all false
set_option maxRecDepth 100000
/-! D28: list(range(..)), methods of lists and tuples, defs with a star parameter -/
namespace DL
open PySem PySem.Spec PyProof.Rows L2
/-! ### ranges made -/
def rgD (a b : Int) : List D := (List.range (b - a).toNat).map fun i => D.int (a + (i : Nat))
def rgO (a b : Int) : Bool := okR a && okR b && decide ((b - a).toNat ≤ 16777216)
def rgHO (tup : Bool) (f : Obj) (a b : Int) : HO := if tup = true then .frz f (.tup (rgV a b)) else .lst (rgV a b)
def rgR (tup : Bool) (a b : Int) (s : DS) : ER := if rgO a b = true then (if tup = true then .ok (.dat 0 (.tup (rgD a b))) s else .ok (.dat 1 (.lst (rgD a b))) s) else .no
def eRg1 (tup : Bool) (f : EF) : EF := fun s => match f s with
  | .ok (.dat 0 (.int j)) s1 => rgR tup 0 j s1
  | .ok _ _ => .no
  | r => r
def eRg2 (tup : Bool) (f g : EF) : EF := fun s => match f s with
  | .ok (.dat 0 (.int i)) s1 => (match g s1 with
    | .ok (.dat 0 (.int j)) s2 => rgR tup i j s2
    | .ok _ _ => .no
    | r => r)
  | .ok _ _ => .no
  | r => r
section
variable {W : Wd} {XW : WX} {B : Ent} {s s' : DS} {F : Temps} {σ : L2.St} {H : Hp} {ℓ : Addr → Lab}
theorem rgO_iff {a b : Int} (h : rgO a b = true) : RgOk a b := by
  unfold rgO at h
  simp only [Bool.and_eq_true, decide_eq_true_eq] at h
  obtain ⟨⟨h1, h2⟩, h3⟩ := h
  obtain ⟨k1, k2⟩ := okR_iff h1
  obtain ⟨k3, k4⟩ := okR_iff h2
  exact ⟨k1, k2, k3, k4, by omega⟩
theorem rg_rep {a b : Int} : (rgV a b).length = (rgD a b).length ∧ ∀ (k : Nat) (v : V) (d : D), (rgV a b)[k]? = some v → (rgD a b)[k]? = some d → Rep W ℓ H .fz v d := by
  refine ⟨by unfold rgV rgD; simp, fun k v d h1 h2 => ?_⟩
  unfold rgV at h1
  unfold rgD at h2
  rw [List.getElem?_map] at h1 h2
  obtain ⟨i, e1, rfl⟩ := Option.map_eq_some_iff.mp h1
  rw [e1] at h2
  cases h2
  exact .int _
theorem rgR_ok {tup : Bool} {a b : Int} {Q : VK} (I : SI W B s F σ H) (h : EC W XW B F σ Q (rgR tup a b s)) : RgOk a b ∧ ∀ q f0, H q = none → f0.dict = none → Q (.ref q) (upd H q (rgHO tup f0 a b)) := by
  unfold rgR at h
  by_cases c : rgO a b = true
  · rw [if_pos c] at h
    refine ⟨rgO_iff c, fun q f0 hq hf => ?_⟩
    obtain ⟨ℓ, I⟩ := I
    obtain ⟨k1, k2⟩ := rg_rep (W := W) (ℓ := ℓ) (H := H) (a := a) (b := b)
    cases tup with
    | true => exact h _ _ (I.newT hf hq k1 k2)
    | false => exact h _ _ (I.newL hq k1 k2)
  · rw [if_neg c] at h; exact h.elim
theorem tRg1_ {f : EF} {tup : Bool} {Q : VK} (h : tD W XW (eRg1 tup f) σ H Q) : tRg1 (tD W XW f) σ H fun a b H1 => RgOk a b ∧ ∀ q f0, H1 q = none → f0.dict = none → Q (.ref q) (upd H1 q (rgHO tup f0 a b)) := by
  obtain ⟨B, s, F, I, h⟩ := h
  refine ⟨B, s, F, I, ?_⟩
  unfold eRg1 at h
  cases e : f s with
  | no => rw [e] at h; exact h
  | ex C pl s1 => rw [e] at h; exact h
  | ok x s1 =>
    rw [e] at h
    intro v H1 ⟨ℓ, I1⟩
    split at h
    · rename_i j s2 e2
      cases e2
      exact ⟨j, int_of I1.temps.1, rgR_ok ⟨ℓ, I1.drop⟩ h⟩
    · exact h.elim
    · rename_i h1 h2
      exact absurd rfl (h2 x s1)
theorem tRg2_ {f g : EF} {tup : Bool} {Q : VK} (h : tD W XW (eRg2 tup f g) σ H Q) : tRg2 (tD W XW f) (tD W XW g) σ H fun a b H1 => RgOk a b ∧ ∀ q f0, H1 q = none → f0.dict = none → Q (.ref q) (upd H1 q (rgHO tup f0 a b)) := by
  obtain ⟨B, s, F, I, h⟩ := h
  refine ⟨B, s, F, I, ?_⟩
  unfold eRg2 at h
  cases e : f s with
  | no => rw [e] at h; exact h
  | ex C pl s1 => rw [e] at h; exact h
  | ok x s1 =>
    rw [e] at h
    intro v H1 ⟨ℓ, I1⟩
    split at h
    · rename_i i s2 e2
      cases e2
      have ev := int_of I1.temps.1
      refine ⟨B, s1, _, ⟨ℓ, I1⟩, ?_⟩
      cases e3 : g s1 with
      | no => rw [e3] at h; exact h
      | ex C pl s2 => rw [e3] at h; exact fun cls dd H' I' => h cls dd H' I'.drop
      | ok y s2 =>
        rw [e3] at h
        intro w H2 ⟨ℓ2, I2⟩
        split at h
        · rename_i j s3 e4
          cases e4
          exact ⟨i, j, ev, int_of I2.temps.1, rgR_ok ⟨ℓ2, I2.drop.drop⟩ h⟩
        · exact h.elim
        · rename_i h1 h2
          exact absurd rfl (h2 y s2)
    · exact h.elim
    · rename_i h1 h2
      exact absurd rfl (h2 x s1)
end
def tRgX (tup : Bool) (te : L2.St → Hp → (Int → Int → Hp → Prop) → Prop) : TE := fun σ H Q => te σ H fun a b H1 => RgOk a b ∧ ∀ q f0, H1 q = none → f0.dict = none → Q (.ref q) (upd H1 q (rgHO tup f0 a b))
theorem pe_rgX {X : Cx} {tup : Bool} {e : Expr} {te : L2.St → Hp → (Int → Int → Hp → Prop) → Prop} {nm : Str} {p pos : Pos} (hn : nm = if tup = true then "tuple" else "list") (hc : X.calm = true) (hg : Gl X nm) (hm : X.mg nm = none) (he : PRg X e te) (na : starEach [e] X.env = (false, eval e X.env) :: starEach [] X.env := by rfl) : PE X (.Call (.Name nm p) [e] [] pos) (tRgX tup te) where
  run := by
    intro pins s σ H Q J h
    cases tup with
    | false =>
      have hn : nm = "list" := hn
      subst hn
      refine Call_ (ld_blt J hg hm boot_list (PyProof.Rows.callWith_type1 (args_cons (thn (he pins s σ H _ J h) ?_) na) na))
      rintro x s1 ⟨r, a, b, t, u, v, H1, rfl, hr, J1, ok, q⟩
      refine args_nil ?_
      obtain ⟨b1, b2, b3, b4, b5⟩ := ok
      refine call_list_range (n := (b - a).toNat) (J1.ok.hd hc) hr (small_one b1 b2 b3 b4) (rangeSize_nat a b) b5 fun h' tk acc c' hk e' hi => ?_
      refine ⟨.ref s1.heap.objs.size, upd H1 s1.heap.objs.size (.lst (rgV a b)), J1.laid hk (Nat.le_refl _) (show ObjOk X.prog X.w _ _ _ (.lst (rgV a b)) from ⟨?_, acc.toList, c', vals_rg hi, ?_⟩), rfl, q _ default (J1.hok.fresh (Nat.le_refl _)) rfl⟩
      · have := rgV_length a b
        have := sizeLine_eq
        omega
      · rw [Array.toArray_toList]
        exact e'
    | true =>
      have hn : nm = "tuple" := hn
      subst hn
      refine Call_ (ld_blt J hg hm boot_tuple (PyProof.Rows.callWith_type1 (args_cons (thn (he pins s σ H _ J h) ?_) na) na))
      rintro x s1 ⟨r, a, b, t, u, v, H1, rfl, hr, J1, ok, q⟩
      refine args_nil ?_
      obtain ⟨b1, b2, b3, b4, b5⟩ := ok
      refine call_tuple_range (n := (b - a).toNat) (J1.ok.hd hc) hr (small_one b1 b2 b3 b4) (rangeSize_nat a b) b5 fun h' tk acc hk hi => ?_
      have J2 : Inv X pins σ H1 { s1 with heap := h', toks := tk } := J1.kept hk
      refine ⟨.ref h'.objs.size, upd H1 h'.objs.size (.frz { cls := .type "tuple", data := .seq acc } (.tup (rgV a b))), J2.laid (t' := tk) (fun c o e => Heap.get?_push_of_some _ e) (Nat.le_refl _) (show ObjOk X.prog X.w _ _ _ (.frz _ (.tup (rgV a b))) from ⟨Heap.get?_push_size _ rfl, ?_, acc.toList, vals_rg hi, ?_⟩), rfl, q _ _ (J2.hok.fresh (Nat.le_refl _)) rfl⟩
      · have := rgV_length a b
        have := sizeLine_eq
        omega
      · rw [Array.toArray_toList]
        exact IsTup.new _ _
section
variable {X : Cx} {XW : WXI} {a b : Expr} {f g : EF} {p p2 pos pos2 : Pos}
theorem prg1_ (hg : Gl X "range") (hm : X.mg "range" = none) (ha : PEd X XW a f) (na : starEach [a] X.env = (false, eval a X.env) :: starEach [] X.env := by rfl) : PRg X (.Call (.Name "range" p) [a] [] pos) (tRg1 (tD (Wx X XW) XW.1 f)) := prg_1 hg hm ha.p na
theorem pd_listRg1 (hc : X.calm = true) (hl : Gl X "list") (ml : X.mg "list" = none) (hg : Gl X "range") (hm : X.mg "range" = none) (ha : PEd X XW a f) (na : starEach [a] X.env = (false, eval a X.env) :: starEach [] X.env := by rfl)
    (nb : starEach [.Call (.Name "range" p) [a] [] pos] X.env = (false, eval (.Call (.Name "range" p) [a] [] pos) X.env) :: starEach [] X.env := by rfl) : PEd X XW (.Call (.Name "list" p2) [.Call (.Name "range" p) [a] [] pos] [] pos2) (eRg1 false f) :=
  ⟨PE.imp (pe_rgX (tup := false) rfl hc hl ml (prg_1 hg hm ha.p na) nb) fun _ _ _ h => tRg1_ h⟩
theorem pd_tupRg1 (hc : X.calm = true) (hl : Gl X "tuple") (ml : X.mg "tuple" = none) (hg : Gl X "range") (hm : X.mg "range" = none) (ha : PEd X XW a f) (na : starEach [a] X.env = (false, eval a X.env) :: starEach [] X.env := by rfl)
    (nb : starEach [.Call (.Name "range" p) [a] [] pos] X.env = (false, eval (.Call (.Name "range" p) [a] [] pos) X.env) :: starEach [] X.env := by rfl) : PEd X XW (.Call (.Name "tuple" p2) [.Call (.Name "range" p) [a] [] pos] [] pos2) (eRg1 true f) :=
  ⟨PE.imp (pe_rgX (tup := true) rfl hc hl ml (prg_1 hg hm ha.p na) nb) fun _ _ _ h => tRg1_ h⟩
theorem pd_listRg2 (hc : X.calm = true) (hl : Gl X "list") (ml : X.mg "list" = none) (hg : Gl X "range") (hm : X.mg "range" = none) (ha : PEd X XW a f) (hb : PEd X XW b g) (na : starEach [a, b] X.env = (false, eval a X.env) :: starEach [b] X.env := by rfl) (n1 : starEach [b] X.env = (false, eval b X.env) :: starEach [] X.env := by rfl)
    (hp : (backTo pos (starEach [b] X.env)).any (·.1) = false := by rfl) (nb : starEach [.Call (.Name "range" p) [a, b] [] pos] X.env = (false, eval (.Call (.Name "range" p) [a, b] [] pos) X.env) :: starEach [] X.env := by rfl) : PEd X XW (.Call (.Name "list" p2) [.Call (.Name "range" p) [a, b] [] pos] [] pos2) (eRg2 false f g) :=
  ⟨PE.imp (pe_rgX (tup := false) rfl hc hl ml (prg_2 hg hm ha.p hb.p na n1 hp) nb) fun _ _ _ h => tRg2_ h⟩
theorem pd_tupRg2 (hc : X.calm = true) (hl : Gl X "tuple") (ml : X.mg "tuple" = none) (hg : Gl X "range") (hm : X.mg "range" = none) (ha : PEd X XW a f) (hb : PEd X XW b g) (na : starEach [a, b] X.env = (false, eval a X.env) :: starEach [b] X.env := by rfl) (n1 : starEach [b] X.env = (false, eval b X.env) :: starEach [] X.env := by rfl)
    (hp : (backTo pos (starEach [b] X.env)).any (·.1) = false := by rfl) (nb : starEach [.Call (.Name "range" p) [a, b] [] pos] X.env = (false, eval (.Call (.Name "range" p) [a, b] [] pos) X.env) :: starEach [] X.env := by rfl) : PEd X XW (.Call (.Name "tuple" p2) [.Call (.Name "range" p) [a, b] [] pos] [] pos2) (eRg2 true f g) :=
  ⟨PE.imp (pe_rgX (tup := true) rfl hc hl ml (prg_2 hg hm ha.p hb.p na n1 hp) nb) fun _ _ _ h => tRg2_ h⟩
end

/-! ### methods of lists and of tuples -/

def eMethT (g : DV → List DV → DS → Option (DV × DS)) (f : EF) (fs : List EF) : EF := fun s => match f s with
  | .ok x s1 => if isTup x.d = true then (match evA fs s1 with
    | .ok ys s2 => match g x ys s2 with
      | some (z, s3) => .ok z s3
      | none => .no
    | .ex C pl s2 => .ex C pl (unl x s2)
    | .no => .no) else .no
  | r => r
section
variable {W : Wd} {XW : WXI} {B : Ent} {s s' : DS} {F : Temps} {σ : L2.St} {H : Hp} {ℓ : Addr → Lab}
theorem isTup_iff {d : D} (h : isTup d = true) : ∃ ds, d = .tup ds := by
  cases d with
  | tup ds => exact ⟨ds, rfl⟩
  | _ => cases h
def HasT (K : PySem.W.Frag) (x : V) (H : Hp) : Prop := ∃ p, x = .ref p ∧ ((∃ f vs, f.dict = none ∧ H p = some (.frz f (.tup vs))) ∨ ∃ o : Obj, K.lookup p = some o ∧ o.cls = .type "tuple" ∧ o.dict = none)
theorem rep_hasT {m : Md} {v : V} {ds : List D} {W : Wd} (r : Rep W ℓ H m v (.tup ds)) : HasT W.1 v H := by
  cases r with
  | tup y1 =>
    obtain ⟨f, hf, y1⟩ := y1
    refine ⟨_, rfl, ?_⟩
    rcases y1 with ⟨_, y⟩ | ⟨_, y | ⟨_, ⟨_, z⟩, _⟩⟩
    · exact .inl ⟨f, _, hf, y⟩
    · obtain ⟨its, n, k1, k2, _⟩ := y
      exact .inr ⟨f, k1, k2, hf⟩
    · cases z
def tBMX (K : PySem.W.Frag) (r : V → List V → Hp → VK → Prop) (to : TE) (t : TA) : TE := fun σ H Q => to σ H fun x H1 => HasT K x H1 ∧ t σ H1 fun xs H2 => r x xs H2 Q
theorem pe_bmX {X : Cx} {o e : Expr} {es : List Expr} {to : TE} {t : TA} {name : Str} {apos cpos : Pos} {id : String} {r : V → List V → Hp → VK → Prop} (slot : Slot "tuple" name id) (hty : typeOf (.builtin id) = pure (.type "method_descriptor")) (hm : MtR X id r) (ho : PE X o to) (ha : PA X (e :: es) t)
    (hbase : attributeBase o name X.env (eval o X.env) = eval o X.env)
    (hfew : ((backTo cpos (starEach (e :: es) X.env)).all (fun x => !x.1) && (backToKw cpos (keywordEach [] X.env)).all (fun x => x.1.isSome) && decide ((e :: es).length + ([] : List Keyword).length + (if ([] : List Keyword).isEmpty then 0 else 1) < 30)) = true)
    (hline : (apos.endLine == cpos.line) = true) (hs : starEach (e :: es) X.env = (false, eval e X.env) :: starEach es X.env) (hplain : (backTo cpos (starEach es X.env)).any (·.1) = false) : PE X (.Call (.Attribute o name apos) (e :: es) [] cpos) (tBMX X.K r to t) where
  run := by
    intro pins s σ H Q J h
    refine wpAny_Call_method_late hbase hfew hline rfl (thn (ho.run pins s σ H _ J h) ?_)
    rintro v s1 ⟨x, H1, J1, r1, ⟨p, rfl, hp⟩, q1⟩
    cases r1
    have both : s1.TypeIs (.ref p) "tuple" ∧ ∀ a, Value.ref p = .ref a → ∃ ob, s1.heap.get? a = some ob ∧ ob.dict = none := by
      rcases hp with ⟨f, vs, hf, hp⟩ | ⟨o, h1, h2, h3⟩
      · obtain ⟨g, _, its, _, o, h1, h2, _⟩ := (show ObjOk X.prog X.w H1 s1.heap p (.frz f (.tup vs)) from J1.hok p _ hp)
        rw [g] at h1; cases h1
        exact ⟨⟨f, g, h2⟩, fun a z => by cases z; exact ⟨f, g, hf⟩⟩
      · exact ⟨⟨o, J1.kIn _ _ h1, h2⟩, fun a z => by cases z; exact ⟨o, J1.kIn _ _ h1, h3⟩⟩
    refine ⟨"tuple", id, PySem.F.plainAttrs_tuple, slot, hty, both.1, both.2, ?_⟩
    have hA := ha.run cpos pins s1 σ H1 _ J1 q1
    rw [hs] at hA ⊢
    refine Calls.callWith_builtin (by show (false || (backTo cpos (starEach es X.env)).any (·.1)) = false; rw [hplain] <;> rfl) (Calls.evalArgs_plain (thn hA ?_))
    rintro us s2 ⟨vs, H2, J2, r2, q2⟩
    exact hm pins s2 σ H2 (.ref p) vs (.ref p) us Q J2 rfl r2 q2
theorem tMethT_ {r g} (hg : OpM W r g) {f : EF} {fs : List EF} {Q : VK} {W0 : W = W} (h : tD W XW.1 (eMethT g f fs) σ H Q) : tBMX W.1 r (tD W XW.1 f) (tDA W XW.1 (evA fs)) σ H Q := by
  obtain ⟨B, s, F, I, h⟩ := h
  refine ⟨B, s, F, I, ?_⟩
  unfold eMethT at h
  cases e : f s with
  | no => rw [e] at h; exact h
  | ex C pl s1 => rw [e] at h; exact h
  | ok x s1 =>
    simp only [e] at h
    intro vx H1 I1
    by_cases c : isTup x.d = true
    · rw [if_pos c] at h
      obtain ⟨ds, c⟩ := isTup_iff c
      obtain ⟨ℓ, J⟩ := id I1
      obtain ⟨m, r0⟩ := J.tmp
      rw [c] at r0
      refine ⟨rep_hasT r0, B, s1, (x, vx) :: F, I1, ?_⟩
      cases e2 : evA fs s1 with
      | no => simp only [e2] at h; exact h
      | ex C pl s2 => simp only [e2] at h; exact fun cls dd H2 I2 => h cls dd H2 I2.drop
      | ok ys s2 =>
        simp only [e2] at h
        intro vs H2 hl I2
        cases e3 : g x ys s2 with
        | none => simp only [e3] at h; exact h.elim
        | some z =>
          simp only [e3] at h
          exact hg _ _ _ _ _ _ _ _ _ _ _ hl I2 e3 Q h
    · rw [if_neg c] at h; exact h.elim
def rIdxT (K : PySem.W.Frag) : V → List V → Hp → VK → Prop := fun x xs H Q => ∃ (a : Addr) (ys : List V) (y : V) (j : Nat) (z : V), x = V.ref a ∧ xs = [y] ∧ SqT K H a ys ∧ flatV y = true ∧ ys.all flatV = true ∧ ys[j]? = some z ∧ eqV z y = true ∧ (∀ (m : Nat) (z' : V), m < j → ys[m]? = some z' → eqV z' y = false) ∧ Q (.int (j : Nat)) H
theorem mt_indexT {X : Cx} : MtR X "tuple.index" (rIdxT X.K) := by
  intro pins s σ H x xs v us Q J rx rxs h
  obtain ⟨a, ys, y, j, z, rfl, rfl, hs, fy, fys, hz, hzj, hno, q⟩ := h
  cases rx
  obtain ⟨uy, rfl, ry⟩ := vals1 rxs
  obtain ⟨its, rv, pl, hlen⟩ := J.tuple hs
  obtain ⟨⟨cls, dd, data, sl⟩, ho, hc, n, hd⟩ := pl
  simp only at hc hd
  subst hc hd
  have len := rv.length
  have here : ∀ (m : Nat) (hm : m < its.toArray.size) (z' : V), ys[m]? = some z' → eqU y its.toArray[m] = eqV z' y := fun m hm z' hz' => by
    obtain ⟨u, hu, ru⟩ := rv.get hz'
    obtain ⟨_, hme⟩ := List.getElem?_eq_some_iff.mp hu
    have e1 : its.toArray[m] = u := by simpa using hme
    rw [e1, eqU_of ru (flat_at fys hz')]
  have hj : j < its.toArray.size := by have := (List.getElem?_eq_some_iff.mp hz).1; simp; omega
  refine call_meets PySem.F.slot_tuple_index ⟨_, ho, rfl⟩ PySem.F.entry_tuple_index (PySem.F.args_tuple_index_2 _ _) (TI.tuple_indexAt a its.toArray n dd sl uy (eqU y) j hj ((here j hj z hz).trans hzj) fun m hm hmj => ?_) ⟨ho, fun u' hu' => mem_eqAt ry fy rv fys u' (by simpa using hu'), ⟨.int (j : Nat), H, J.tok _, ⟨_, rfl⟩, q⟩⟩
  have hmy : m < ys.length := by simp at hm; omega
  have hy' : ys[m]? = some ys[m] := List.getElem?_eq_getElem hmy
  exact (here m hm _ hy').trans (hno m _ hmj hy')
def gIndexT (x : DV) (ys : List DV) (s : DS) : Option (DV × DS) := match x.d, ys with
  | .tup ds, [y] => if (y.d.flat && ds.all D.flat) = true then (match idxF y.d ds with
    | some k => some (fin2 x y s (.int k))
    | none => none) else none
  | _, _ => none
theorem m_indexT {W : Wd} : OpM W (rIdxT W.1) gIndexT := by
  intro B s F σ H x vx ys vs z s' hl ⟨ℓ, I⟩ h Q k
  unfold gIndexT at h
  split at h
  · rename_i ds y e
    obtain ⟨vy, rfl⟩ := one_of hl rfl
    have I : SIw W ℓ H B s ((y, vy) :: (x, vx) :: F) σ := I
    obtain ⟨c, h⟩ : (y.d.flat && ds.all D.flat) = true ∧ _ := by
      split at h
      · exact ⟨‹_›, h⟩
      · cases h
    simp only [Bool.and_eq_true] at c
    split at h
    · rename_i k0 e1
      cases h
      obtain ⟨m, r⟩ := I.tmp
      obtain ⟨a, ws, rfl, h2, h4, h5⟩ := SIw.flats I I.temps.2.1 (by rw [e]; rfl)
      obtain ⟨z, q1, q2, q3⟩ := idxF_ok r c.1 h4 c.2 (h5 c.2) e1
      have hs : SqT W.1 H a ws := by
        rcases h2 with ⟨_, h2⟩ | ⟨h2, _⟩
        · rw [e] at h2; cases h2
        · exact h2
      exact ⟨a, ws, vy, k0, z, rfl, rfl, hs, flatV_ok r c.1, flats_all h4 c.2 (h5 c.2), q1, q2, q3, k _ _ (I.fin2 (.int _))⟩
    · cases h
  · cases h
end
section
variable {X : Cx} {XW : WXI} {o e : Expr} {es : List Expr} {fo : EF} {fs : List EF} {name : Str} {apos cpos : Pos} {id : String} {r : V → List V → Hp → VK → Prop} {g : DV → List DV → DS → Option (DV × DS)}
/-- a method of a list -/
theorem pd_bm (slot : Slot "list" name id) (hty : typeOf (.builtin id) = pure (.type "method_descriptor")) (hm : MtR X id r) (hg : OpM (Wx X XW) r g) (ho : PEd X XW o fo) (ha : PAd X XW (e :: es) (evA fs))
    (hbase : attributeBase o name X.env (eval o X.env) = eval o X.env := by rfl)
    (hfew : ((backTo cpos (starEach (e :: es) X.env)).all (fun x => !x.1) && (backToKw cpos (keywordEach [] X.env)).all (fun x => x.1.isSome) && decide ((e :: es).length + ([] : List Keyword).length + (if ([] : List Keyword).isEmpty then 0 else 1) < 30)) = true := by rfl)
    (hline : (apos.endLine == cpos.line) = true := by rfl) (hs : starEach (e :: es) X.env = (false, eval e X.env) :: starEach es X.env := by rfl) (hplain : (backTo cpos (starEach es X.env)).any (·.1) = false := by rfl) : PEd X XW (.Call (.Attribute o name apos) (e :: es) [] cpos) (eMeth g fo fs) :=
  ⟨PE.imp (pe_bm PySem.F.plainAttrs_list slot hty hm ho.p ha.p hbase hfew hline hs hplain) fun _ _ _ h => tMeth_ hg h⟩
/-- .. without arguments -/
theorem pd_bm0 (slot : Slot "list" name id) (hty : typeOf (.builtin id) = pure (.type "method_descriptor")) (hm : MtR X id r) (hg : OpM (Wx X XW) r g) (ho : PEd X XW o fo)
    (hbase : attributeBase o name X.env (eval o X.env) = eval o X.env := by rfl) (hline : (apos.endLine == cpos.line) = true := by rfl) : PEd X XW (.Call (.Attribute o name apos) [] [] cpos) (eMeth g fo []) := by
  refine ⟨PE.imp (pe_bm0 PySem.F.plainAttrs_list slot hty hm ho.p hbase hline) fun σ H Q h => ?_⟩
  obtain ⟨B, s, F, I, q⟩ := tMeth_ hg h
  refine ⟨B, s, F, I, ?_⟩
  cases e0 : fo s with
  | no => rw [e0] at q; exact q
  | ex C pl s1 => rw [e0] at q; exact q
  | ok x s1 =>
    rw [e0] at q
    intro v H1 I1
    obtain ⟨k1, B2, s2, F2, I2, q2⟩ := q v H1 I1
    exact ⟨k1, q2 [] H1 rfl I2⟩
/-- a method of a tuple -/
theorem pd_bmT (slot : Slot "tuple" name id) (hty : typeOf (.builtin id) = pure (.type "method_descriptor")) (hm : MtR X id r) (hg : OpM (Wx X XW) r g) (ho : PEd X XW o fo) (ha : PAd X XW (e :: es) (evA fs))
    (hbase : attributeBase o name X.env (eval o X.env) = eval o X.env := by rfl)
    (hfew : ((backTo cpos (starEach (e :: es) X.env)).all (fun x => !x.1) && (backToKw cpos (keywordEach [] X.env)).all (fun x => x.1.isSome) && decide ((e :: es).length + ([] : List Keyword).length + (if ([] : List Keyword).isEmpty then 0 else 1) < 30)) = true := by rfl)
    (hline : (apos.endLine == cpos.line) = true := by rfl) (hs : starEach (e :: es) X.env = (false, eval e X.env) :: starEach es X.env := by rfl) (hplain : (backTo cpos (starEach es X.env)).any (·.1) = false := by rfl) : PEd X XW (.Call (.Attribute o name apos) (e :: es) [] cpos) (eMethT g fo fs) :=
  ⟨PE.imp (pe_bmX slot hty hm ho.p ha.p hbase hfew hline hs hplain) fun _ _ _ h => tMethT_ (W0 := rfl) hg h⟩
end
end DL

set_option Elab.async false
set_option linter.all false
set_option maxRecDepth 100000
/-! D29: methods with a star parameter -/
namespace DL
open PySem PySem.Spec PyProof.Rows L2
def frzA : List SV → Option (List D)
  | [] => some []
  | .dat 0 d :: r => (frzA r).map (d :: ·)
  | _ => none
def fnStar (np : Nat) (f : FD) : FD := fun as => match frzA (as.drop np) with
  | some ds => if ds.length ≤ sizeLine then f (as.take np ++ [.dat 0 (.tup ds)]) else .no
  | none => .no
theorem frzA_at : ∀ {as : List SV} {ds : List D}, frzA as = some ds → as.length = ds.length ∧ ∀ (k : Nat) (a : SV) (d : D), as[k]? = some a → ds[k]? = some d → a = .dat 0 d
  | [], ds, h => by cases h; exact ⟨rfl, fun k a d h => by simp at h⟩
  | a :: r, ds, h => by
    cases a with
    | brw => cases h
    | als => cases h
    | dat n d =>
      cases n with
      | succ => cases h
      | zero =>
        obtain ⟨l, h1, rfl⟩ := Option.map_eq_some_iff.mp (show (frzA r).map (d :: ·) = some ds from h)
        obtain ⟨h2, h3⟩ := frzA_at h1
        refine ⟨by simp [h2], fun k a e a1 a2 => ?_⟩
        cases k with
        | zero => simp at a1 a2; rw [← a1, ← a2]
        | succ k => exact h3 k a e (by simpa using a1) (by simpa using a2)
section
variable {P : Program} {w : World} {K : PySem.W.Frag} {mg : Str → Option Value} {base : Heap}
theorem star_in {io : List Nat} {np n : Nat} {f : FD} {vs : List V} {H : Hp} {Q : VK} {E : XK} (hio : ∀ i ∈ io, i < np) (hn : np ≤ n) (h : spD (K, mg, io00) io n (fnStar np f) vs H Q E) :
    (vs.drop np).length ≤ sizeLine ∧ ∀ p (o : Obj), H p = none → o.dict = none → spD (K, mg, io00) io (np + 1) f (vs.take np ++ [.ref p]) (upd H p (.frz o (.tup (vs.drop np)))) Q E := by
  obtain ⟨hl, ℓ, as, hla, lab, har, hfc⟩ := h
  unfold fnStar at hfc
  cases e : frzA (as.drop np) with
  | none => simp only [e] at hfc; exact hfc.elim
  | some ds =>
    simp only [e] at hfc
    obtain ⟨k1, k2⟩ := frzA_at e
    by_cases c : ds.length ≤ sizeLine
    · rw [if_pos c] at hfc
      have ld : (vs.drop np).length = ds.length := by rw [← k1]; simp [hl, hla]
      refine ⟨by rw [ld]; exact c, fun p o hp ho => ?_⟩
      have lp : ℓ p = .no := by
        cases q : ℓ p with
        | no => rfl
        | _ => exact absurd hp (lab p (by rw [q]; exact fun z => nomatch z))
      have fresh : ∀ a, ℓ a ≠ .no → a ≠ p := fun a q z => q (by rw [z]; exact lp)
      have keepR : ∀ {m v d}, Rep (K, mg, io00) ℓ H m v d → Rep (K, mg, io00) (labUpd ℓ p .fz) (upd H p (.frz o (.tup (vs.drop np)))) m v d := fun {m v d} r => r.frame fun a q => by
        have ne : a ≠ p := fresh a (by
          rcases q with q | ⟨_, q⟩ | q
          · rw [q]; exact fun z => nomatch z
          · rw [q]; exact fun z => nomatch z
          · cases m with
            | fz => exact q.elim
            | bw => exact q.elim
            | own r p n => obtain ⟨x, q⟩ := q; rw [q]; exact fun z => nomatch z)
        exact ⟨upd_ne ne, labUpd_ne ne⟩
      have tl : (vs.take np).length = np := by simp; omega
      have ta : (as.take np).length = np := by simp; omega
      refine ⟨by simp [tl], labUpd ℓ p .fz, as.take np ++ [.dat 0 (.tup ds)], by simp [ta], fun a q => ?_, fun i v a a1 a2 => ?_, ?_⟩
      · by_cases z : a = p
        · rw [z, upd_same]; exact fun z => nomatch z
        · rw [upd_ne z]; rw [labUpd_ne z] at q; exact lab a q
      · by_cases hi : i < np
        · rw [List.getElem?_append_left (by omega), List.getElem?_take, if_pos hi] at a1 a2
          have r := har i v a a1 a2
          cases a with
          | dat n d => exact keepR r
          | brw d => exact keepR r
          | als => exact r
        · have hi2 : i = np := by
            have := (List.getElem?_eq_some_iff.mp a1).1
            simp [tl] at this
            omega
          subst hi2
          rw [List.getElem?_append_right (by omega)] at a1 a2
          simp only [tl, ta, Nat.sub_self] at a1 a2
          cases a1
          cases a2
          show Rep (K, mg, io00) _ _ (.own (.slot i) [] 0) (.ref p) (.tup ds)
          refine Rep.own0.mpr (Rep.tup ⟨o, ho, .inl ⟨labUpd_same, upd_same⟩⟩ ld fun k v d b1 b2 => ?_)
          have e1 : vs[i + k]? = some v := by rw [List.getElem?_drop] at b1; exact b1
          have hk : i + k < as.length := by have := (List.getElem?_eq_some_iff.mp e1).1; omega
          have e2 : as[i + k]? = some (as[i + k]'hk) := List.getElem?_eq_getElem _
          have e3 := k2 k _ d (by rw [List.getElem?_drop]; exact e2) b2
          have r := har (i + k) v _ e1 e2
          rw [e3] at r
          exact keepR (Rep.own0.mp (show Rep (K, mg, io00) ℓ H (.own (.slot (i + k)) [] 0) v d from r))
      · have back : ∀ {ℓ' H' ios}, Post (K, mg, io00) (labUpd ℓ p .fz) (upd H p (.frz o (.tup (vs.drop np)))) ℓ' H' (vs.take np ++ [.ref p]) io ios → Post (K, mg, io00) ℓ H ℓ' H' vs io ios := fun {ℓ' H' ios} q => by
          refine ⟨q.lab, fun a z => q.keep a ?_, fun a z => ?_, fun a z => ?_, q.len, fun k i n d v a b c => q.io k i n d v a b ?_⟩
          · have ne : a ≠ p := fun y => z (by rw [y]; exact hp)
            rw [upd_ne ne]; exact z
          · have ne : a ≠ p := fresh a (by rcases z with z | z <;> (rw [z]; exact fun z => nomatch z))
            have := q.prot a (by rw [labUpd_ne ne]; exact z)
            rw [upd_ne ne, labUpd_ne ne] at this
            exact this
          · have := q.bw a z
            by_cases ne : a = p
            · rw [ne, labUpd_same] at this; cases this
            · rw [labUpd_ne ne] at this; exact this
          · have hi : i < np := hio i (List.mem_of_getElem? a)
            rw [List.getElem?_append_left (by omega), List.getElem?_take, if_pos hi]
            exact c
        cases e9 : f (as.take np ++ [.dat 0 (.tup ds)]) with
        | no => rw [e9] at hfc; exact hfc
        | ok n d ios => rw [e9] at hfc; exact fun ℓ' v H' q r => hfc ℓ' v H' (back q) r
        | ex C pl ios => rw [e9] at hfc; exact fun ℓ' cls dd H' Ca q k1 k2 k3 => hfc ℓ' cls dd H' Ca (back q) k1 k2 k3
    · rw [if_neg c] at hfc; exact hfc.elim
/-- def f(a, .., *v) -/
theorem fn_defStar {x qual pv : Str} {st : Stmt} {f : Addr} {fd : FuncData} {N ps : List Str} {k n : Nat} {io : List Nat} {bf : SF} (F : Fun K x qual st f fd) (S : FnScope N (ps ++ [pv]) (defScope st)) (hio : ∀ i ∈ io, i < ps.length) (hn : ps.length ≤ n)
    (hbi : ∀ (kV doc pm : Value) (an : Option Addr) (cdv ct : Value) (us rest : List Value), us.length = ps.length → bindArgs (PySem.W.fnOf x qual (defArgs st) (defBody st) (defScope st) .none kV doc pm an cdv ct) ⟨us ++ rest, []⟩ = (newTuple rest >>= fun t => pure (ps.zip us ++ [(pv, t)])))
    (hb : ∀ (cdv : Value) (A : Around) (outer : List Env) (s : Shared) (H : Hp) (E : XK), Room k (A.deeper (envOfC qual (defScope st) s.heap.objs.size f cdv)) → PSsd (cxOf (L2.CX P w) P w K mg base N qual (defScope st) f cdv A outer s H E) (fun cls dd _ H => E cls dd H, ⟨io, []⟩) (defBody st) bf) :
    FnR P w K mg base (L2.CX P w) (k + 1) f (spD (K, mg, io00) io n (fnStar ps.length (fnF io N.length bf))) := by
  have main := F
  obtain ⟨oc, od, kV, doc, pm, an, cdv, ct, osl, rfl, lk, hcd⟩ := F.ex
  intro A outer s H us vs Q E hr e0 r hsp
  obtain ⟨hz, hq⟩ := star_in hio hn hsp
  have hvl : vs.length = n := hsp.1
  have ev : vs = vs.take ps.length ++ vs.drop ps.length := (List.take_append_drop _ _).symm
  rw [ev] at r
  obtain ⟨u1, u2, eu, r1, r2⟩ := StX.vals_split r
  subst eu
  have new : H s.heap.objs.size = none := e0.hok.fresh (Nat.le_refl _)
  have l1 : u1.length = ps.length := by rw [← r1.length]; simp; omega
  have l2 : u2.length ≤ sizeLine := by rw [← r2.length]; exact hz
  refine StX.run_bnd lk hcd S hr e0 (G := fun xs H2 => ∃ p o, H p = none ∧ o.dict = none ∧ xs = vs.take ps.length ++ [V.ref p] ∧ H2 = upd H p (.frz o (.tup (vs.drop ps.length)))) (fun A' Ex Q' h => ?_) fun s2 H2 xs ⟨p, o, hp, ho, ex, eH⟩ hr' => ?_
  · rw [hbi kV doc pm an cdv ct u1 u2 l1]
    refine wpAny_bind (wpAny_newTuple (wpAny_pure ?_) l2)
    have nw : ObjOk P w (upd H s.heap.objs.size (.frz { cls := .type "tuple", data := .seq u2.toArray } (.tup (vs.drop ps.length)))) (s.heap.push ({ cls := .type "tuple", data := .seq u2.toArray } : Obj)) s.heap.objs.size (.frz { cls := .type "tuple", data := .seq u2.toArray } (.tup (vs.drop ps.length))) :=
      ⟨Heap.get?_push_size _ rfl, hz, u2, r2, ⟨_, Heap.get?_push_size _ rfl, rfl, _, rfl⟩⟩
    have un := StX.un_laid (fs := frs outer) (s := s) (o := ({ cls := .type "tuple", data := .seq u2.toArray } : Obj)) (u := .frz { cls := .type "tuple", data := .seq u2.toArray } (.tup (vs.drop ps.length))) new
    have z := h _ _ (vs.take ps.length ++ [V.ref s.heap.objs.size]) (u1 ++ [Value.ref s.heap.objs.size]) (StX.env0_laid e0 nw) un rfl (fun e s' => StX.cxUp outer s H _ _ E e s' un (fun b o q => Heap.get?_push_of_some _ q) rfl) (r1.append (.cons rfl .nil)) (by simp; omega) ⟨_, _, new, rfl, rfl, rfl⟩
    rw [List.zip_append l1.symm] at z
    exact z
  · subst ex eH
    have sp2 := hq p o hp ho
    exact body_of (hb cdv A outer s2 _ E hr') sp2
end
end DL

set_option Elab.async false
set_option linter.all false
set_option maxRecDepth 100000
/-! D30: methods with a star parameter, called -/
namespace DL
open PySem PySem.Spec PyProof.Rows L2
section
variable {X : Cx} {XW : WXI} {k : Nat} {f C : Addr} {x m Cn : Str} {p pos apos : Pos} {e o : Expr} {es : List Expr} {fn : FD} {io : List Nat} {cs : List CM} {fs : List EF} {fo : EF}
theorem pe_methRS {CX : CXT} {sp : Sp} {E : L2.St → XK} {ta : TE} {t : TA} {pl : Sem Bool} (ho : PE X o ta) (c : Cls X.K C) (hm : Meth X.K C m f) (F : FnR X.prog X.w X.K X.mg X.base CX k f sp) (hr : Room k X.A) (hx : ∀ σ, PassesAt CX X σ (E σ)) (ha : PA X (e :: es) t)
    (h1 : starEach (e :: es) X.env = (false, eval e X.env) :: starEach es X.env) (h2 : (backTo pos (starEach es X.env)).any (·.1) = false)
    (ht : eval (.Call (.Attribute o m apos) (e :: es) [] pos) X.env = (do
      let ov ← eval o X.env
      standAt apos.atName
      let (g, fst) ← holding [ov] (getMethod ov m pl)
      callWith pos g fst (backTo pos (starEach (e :: es) X.env)) (backToKw pos (keywordEach [] X.env)))) : PE X (.Call (.Attribute o m apos) (e :: es) [] pos) (DL.tMethS C m sp [] E ta t) := by
  constructor
  intro pins s σ H Q J h
  refine PySem.W.methodCall_KW (pl := pl) (thn (ho.run pins s σ H _ J h) ?_) ht
  rintro u s1 ⟨y, H1, J1, ry, a, dx, gs, rfl, ea, l, q⟩
  cases ry
  refine getmeth_ok J1 ea c hm l ?_
  refine PySem.W.callWith_K (first := [.ref a]) (h₀ := X.base) J.ok.mod.kin hm.kp (thn (ha.run pos pins s1 σ H1 _ J1 q) ?_) h1 h2
  rintro us s2 ⟨vs, H2, J2, r, q2⟩
  rw [List.append_nil] at q2
  refine ⟨J2.kIn, wpAny_call (codeAny_mono (F X.A X.stack s2 H2 (.ref a :: us) (.ref a :: vs) Q (E σ) hr J2.env0 (.cons rfl r) q2) ?_)⟩
  intro res s' hq
  cases res with
  | error er => exact hx σ pins H2 s2 er s' J2 hq
  | ok fl => cases fl with
    | ret u => exact J2.after hq
    | _ => exact hq.elim
theorem pd_methStar {pl : Sem Bool} (ho : PEd X XW o fo) (hC : X.mg Cn = some (.ref C)) (c : Cls X.K C) (hm : Meth X.K C m f) (F : FnR X.prog X.w X.K X.mg X.base (L2.CX X.prog X.w) k f (spD (X.K, X.mg, io00) io (1 + fs.length) fn)) (hr : Room k X.A) (tk : Takes X XW.1) (ha : PAd X XW (e :: es) (evA fs))
    (h1 : starEach (e :: es) X.env = (false, eval e X.env) :: starEach es X.env := by rfl) (h2 : (backTo pos (starEach es X.env)).any (·.1) = false := by rfl)
    (ht : eval (.Call (.Attribute o m apos) (e :: es) [] pos) X.env = (do
      let ov ← eval o X.env
      standAt apos.atName
      let (g, fst) ← holding [ov] (getMethod ov m pl)
      callWith pos g fst (backTo pos (starEach (e :: es) X.env)) (backToKw pos (keywordEach [] X.env))) := by rfl) : PEd X XW (.Call (.Attribute o m apos) (e :: es) [] pos) (eMethF Cn m fn io cs [] fo fs) :=
  ⟨PE.imp (pe_methRS ho.p c hm F hr (passAt tk) ha.p h1 h2 ht) fun _ _ _ h => tMethF_ hC (by simp) flats_nil h⟩
end
end DL

set_option Elab.async false
set_option linter.all false
set_option maxRecDepth 100000
/-! D31: subscripts, truth of values -/
namespace DL
open PySem PySem.Spec PyProof.Rows L2
/-- a value's truth -/
def truD : D → Option Bool
  | .bl b => some b
  | .int i => some (i != 0)
  | .non => some false
  | .lst ds => some (!ds.isEmpty)
  | .tup ds => some (!ds.isEmpty)
  | _ => none
def tTru (f : EF) : TF := fun s => match f s with
  | .ok x s1 => match truD x.d with
    | some b => .ok b (unl x s1)
    | none => .no
  | .ex C pl s1 => .ex C pl s1
  | .no => .no
def eNotT (f : EF) : EF := fun s => match f s with
  | .ok x s1 => match truD x.d with
    | some b => .ok (.dat 0 (.bl (!b))) (unl x s1)
    | none => .no
  | r => r
section
variable {W : Wd} {B : Ent} {s : DS} {F : Temps} {σ : L2.St} {H : Hp} {ℓ : Addr → Lab}
theorem SIw.tru {x : DV} {v : V} {b : Bool} (I : SIw W ℓ H B s ((x, v) :: F) σ) (h : truD x.d = some b) : TruV W.1 v H b := by
  obtain ⟨m, r⟩ := I.tmp
  cases e : x.d with
  | non => rw [e] at r h; cases h; rw [non_of r]; exact rfl
  | bl c => rw [e] at r h; cases h; rw [bl_of r]; exact rfl
  | int i => rw [e] at r h; cases h; rw [int_of r]; exact rfl
  | str y => rw [e] at h; cases h
  | obj C fs => rw [e] at h; cases h
  | lst ds =>
    rw [e] at h; cases h
    obtain ⟨a, vs, rfl, h2, h3, _⟩ := I.subL e
    refine .inl ⟨vs, h2, ?_⟩
    cases vs <;> cases ds <;> first | rfl | cases h3
  | tup ds =>
    rw [e] at h; cases h
    obtain ⟨a, vs, rfl, h2, h3, _⟩ := I.subT e
    refine .inr (.inl ⟨vs, h2, ?_⟩)
    cases vs <;> cases ds <;> first | rfl | cases h3
end
section
variable {X : Cx} {XW : WXI} {a b : Expr} {fa fb : EF} {pos : Pos}
theorem pd_ix (ha : PEd X XW a fa) (hb : PEd X XW b fb) (hs : PlainIx b := by intro _ _; rfl) : PEd X XW (.Subscript a b pos) (eBin gIx fa fb) := ⟨PE.imp (pe_ix (IxR.or ix_list ix_tup) ha.p hb.p hs) fun _ _ _ h => tBin o_ix h⟩
theorem ptd_tru (ha : PEd X XW a fa) (he : ∀ whole, isTrue a X.env whole = (do let v ← whole; standAt a.pos; holding [v] (truthy v)) := by intro _; rfl) : PTd X XW a (tTru fa) := by
  refine ⟨PT.imp (pt_truth ha.p he) fun σ H Q h => ?_⟩
  obtain ⟨B, s, F, I, h⟩ := h
  refine ⟨B, s, F, I, ?_⟩
  unfold tTru at h
  cases e : fa s with
  | no => rw [e] at h; exact h
  | ex C pl s1 => rw [e] at h; exact h
  | ok x s1 =>
    simp only [e] at h
    intro v H1 ⟨ℓ, I1⟩
    cases e2 : truD x.d with
    | none => simp only [e2] at h; exact h.elim
    | some k =>
      simp only [e2] at h
      exact ⟨k, I1.tru e2, h H1 ⟨ℓ, I1.drop⟩⟩
theorem pd_notT (ha : PEd X XW a fa) : PEd X XW (.UnaryOp .Not a pos) (eNotT fa) := by
  refine ⟨PE.imp (pe_notT ha.p) fun σ H Q h => ?_⟩
  obtain ⟨B, s, F, I, h⟩ := h
  refine ⟨B, s, F, I, ?_⟩
  unfold eNotT at h
  cases e : fa s with
  | no => rw [e] at h; exact h
  | ex C pl s1 => rw [e] at h; exact h
  | ok x s1 =>
    simp only [e] at h
    intro v H1 ⟨ℓ, I1⟩
    cases e2 : truD x.d with
    | none => simp only [e2] at h; exact h.elim
    | some k =>
      simp only [e2] at h
      exact ⟨k, I1.tru e2, h _ _ ⟨ℓ, I1.drop.push (x := .dat 0 (.bl (!k))) (.bl _) rfl⟩⟩
end
end DL

set_option Elab.async false
set_option linter.all false
set_option maxRecDepth 100000
/-! D32: small words for the printed derivations -/
namespace DL
open PySem PySem.Spec PyProof.Rows L2
theorem room_hu {k : Nat} {A : Around} (r : Room k A) : A.units + 64 < cLine := by have := r.un; omega
theorem io_all {vs : List Nat} {x : IOs} (h : vs.all (fun i => !x.l.contains i) = true) : ∀ i ∈ vs, i ∉ x := fun i m => io_ni (by simpa using List.all_eq_true.mp h i m)
theorem ioE_mem {io : IOs} {i : Nat} {a : Addr} : i ∈ ioE io i a := show i ∈ i :: io.l from List.mem_cons_self
theorem ioE_fx {io : IOs} {i : Nat} {a : Addr} : (ioE io i a).fx.lookup i = some a := by show List.lookup i ((i, a) :: io.fx) = some a; simp [List.lookup]
abbrev Tbl := List (Str × Bool)
section
variable {K : PySem.W.Frag} {mg : Str → Option Value} {cv : Value}
theorem hm_nil : ∀ C b Ca, ([] : Tbl).lookup C = some b → mg C = some (.ref Ca) → PySem.W.exmOne K (.ref Ca) cv = some b := fun C b Ca h => by cases h
theorem hm_cons {C0 : Str} {b0 : Bool} {c0 : Addr} {r : Tbl} (g : mg C0 = some (.ref c0)) (e : PySem.W.exmOne K (.ref c0) cv = some b0) (k : ∀ C b Ca, r.lookup C = some b → mg C = some (.ref Ca) → PySem.W.exmOne K (.ref Ca) cv = some b) :
    ∀ C b Ca, ((C0, b0) :: r : Tbl).lookup C = some b → mg C = some (.ref Ca) → PySem.W.exmOne K (.ref Ca) cv = some b := by
  intro C b Ca h hm
  rw [List.lookup_cons] at h
  cases q : C == C0 with
  | true =>
    rw [q] at h
    cases h
    rw [eq_of_beq q, g] at hm
    cases hm
    exact e
  | false => rw [q] at h; exact k C b Ca h hm
end
theorem hone1 {C C0 : Str} {b : Bool} (h : ([(C0, b)] : Tbl).lookup C = some true) : C = C0 := by
  rw [List.lookup_cons] at h
  cases q : C == C0 with
  | true => exact eq_of_beq q
  | false => rw [q] at h; cases h
section
variable {P : Program} {w : World} {K : PySem.W.Frag} {mg : Str → Option Value} {base : Heap}
/-- .. of a def with defaults -/
theorem fn_defD {x qual : Str} {st : Stmt} {f : Addr} {fd : FuncData} {N ps : List Str} {k : Nat} {io : List Nat} {bf : SF} {dvs : List V} {kws : List (Str × V)} (F : FunD K x qual (defArgs st) (defBody st) (defScope st) dvs kws f fd) (S : FnScope N ps (defScope st))
    (hb : ∀ (cdv : Value) (A : Around) (outer : List Env) (s : Shared) (H : Hp) (E : XK), Room k (A.deeper (envOfC qual (defScope st) s.heap.objs.size f cdv)) → PSsd (cxOf (L2.CX P w) P w K mg base N qual (defScope st) f cdv A outer s H E) (fun cls dd _ H => E cls dd H, ⟨io, []⟩) (defBody st) bf) :
    FnOk P w K mg base (L2.CX P w) (k + 1) f fd ps (spD (K, mg, io00) io ps.length (fnF io N.length bf)) :=
  FunD.ok F S (fun vs H Q E h => h.1) fun cdv A outer s H vs Q E hr hsp => body_of (hb cdv A outer s H E hr) hsp
/-- a promise of nothing -/
theorem fn_none {f : Addr} {fd : FuncData} {ps : List Str} {k : Nat} {io : List Nat} : FnOk P w K mg base (L2.CX P w) k f fd ps (spD (K, mg, io00) io ps.length fun _ => .no) :=
  ⟨fun vs H Q E h => h.1, fun A outer s H args us vs Q E _ _ _ _ h => by obtain ⟨_, ℓ, as, _, _, _, h⟩ := h; exact h.elim⟩
end
end DL

set_option Elab.async false
set_option linter.all false
set_option maxRecDepth 100000
/-! D33: the law's own promise -/
namespace DL
open PySem PySem.Spec PyProof.Rows L2
def spLawD (K : PySem.W.Frag) : Sp := fun vs H Q _ => ∃ (a : Addr) (ns : List Int), vs = [.ref a] ∧ SqL K H a (ns.map V.int) ∧ ns.length ≤ 63 ∧ ∀ H', Q (.bl true) H'
theorem law_sp {K : PySem.W.Frag} {mg : Str → Option Value} {fD : FD} (pure : ∀ ns : List Int, ns.length ≤ 63 → ∃ n, fD [.brw (.lst (ns.map D.int))] = .ok n (.bl true) []) :
    ∀ vs H Q E, spLawD K vs H Q E → spD (K, mg, io00) [] 1 fD vs H Q E := by
  rintro vs H Q E ⟨a, ns, rfl, hS, hl, k⟩
  obtain ⟨n, hp⟩ := pure ns hl
  have kids : ∀ (ℓ : Addr → Lab) (k : Nat) (v : V) (d : D), (ns.map V.int)[k]? = some v → (ns.map D.int)[k]? = some d → Rep (K, mg, io00) ℓ H (Md.bw.sub k) v d := by
    intro ℓ k v d a1 a2
    rw [List.getElem?_map] at a1 a2
    obtain ⟨i, e1, rfl⟩ := Option.map_eq_some_iff.mp a1
    rw [e1] at a2
    cases a2
    exact .int i
  refine ⟨rfl, fun b => if H b = none then .no else if b = a then .bw else .no, [.brw (.lst (ns.map D.int))], rfl, fun b h e => h (if_pos e), fun i v x h1 h2 => ?_, ?_⟩
  · match i, h1, h2 with
    | 0, h1, h2 =>
      cases h1
      cases h2
      refine Rep.lst (vs := ns.map V.int) ?_ (by simp) (kids _)
      have lab : ∀ o, H a = some o → (if H a = none then Lab.no else if a = a then .bw else .no) = .bw := fun o e => by rw [if_neg (by rw [e]; exact fun z => nomatch z), if_pos rfl]
      rcases hS with (h | ⟨o, h⟩) | h
      · exact .inl ⟨.inr (lab _ h), h⟩
      · exact .inr ⟨rfl, .inr ⟨.inr (lab _ h), ⟨_, rfl⟩, o, h⟩⟩
      · exact .inr ⟨rfl, .inl h⟩
    | _ + 1, h1, _ => simp at h1
  · rw [hp]
    intro ℓ' v H' p r
    cases r
    exact k H'
end DL
namespace DL
open PySem PySem.Spec PyProof.Rows L2
section
variable {K : PySem.W.Frag} {mg : Str → Option Value} {f : Str}
theorem fld_nil : FldOk K mg [] f := fun C h => by cases h
theorem fld_cons {C : Str} {c : Addr} {r : List Str} (g : mg C = some (.ref c)) (cl : Cls K c) (n : NoAttr K c f) (k : FldOk K mg r f) : FldOk K mg (C :: r) f := by
  intro D h Ca hg
  rcases List.mem_cons.mp h with e | h
  · rw [e, g] at hg
    cases hg
    exact ⟨cl, n⟩
  · exact k D h Ca hg
end
theorem no_exc {P : Program} {w : World} (H : Hp) (s : Shared) (e : Value) (s' : Shared) : L2.CX P w [] H s (fun _ _ _ => False) e s' → False := fun h => by
  obtain ⟨_, _, _, _, _, _, _, _, _, _, _, _, z⟩ := h
  exact z
end DL
namespace DL
open PySem PySem.Spec PyProof.Rows L2
theorem kwB_of {K : PySem.W.Frag} {fd : FuncData} {ps ks : List Str} {m : Nat} {dus : List Value} {T : Addr} {o : Obj} {its : Array Value} {n : Nat} (lT : K.lookup T = some o) (oT : o.data = .seq its n)
    (h : ∀ us ws : List Value, us.length = m → ws.length = ks.length → ∃ k, bindArgs fd ⟨us, ks.zip ws⟩ = seqItems? (.ref T) >>= k ∧ k (some its) = pure (ps.zip (us ++ ws ++ dus))) : KwB K fd ps m ks dus := by
  refine ⟨fun s us ws X hu hw => BindsTo.of_looks fun M => ?_⟩
  obtain ⟨k, e1, e2⟩ := h us ws hu hw
  rw [e1]
  exact looks_items X lT oT (.of_pure e2)
end DL

set_option Elab.async false
set_option linter.all false
set_option maxRecDepth 100000
namespace K12
open PySem PySem.Spec PyProof.Rows L2 DL
def top (i : Nat) : Stmt := PySem.Challenge.pw_unlikemerges_k12_commutators_by_degrees.main.body.getD i (.Pass ⟨0, 0, 0, 0⟩)
abbrev s_is_renaming : Stmt := top 8
abbrev s_check_table : Stmt := top 9
abbrev s_Group_product : Stmt := inClass (top 15) 1
abbrev s_commutator_counts : Stmt := top 11
abbrev s_commutator_rows : Stmt := top 12
abbrev s_is_associative : Stmt := top 14
abbrev s_Group_init : Stmt := inClass (top 15) 0
abbrev s_law_numbers : Stmt := top 17
abbrev s_law_take : Stmt := top 18
abbrev s_law_shuffled : Stmt := top 19
abbrev s_law_group : Stmt := top 20
abbrev s_law_named : Stmt := top 21
abbrev s_law_power : Stmt := top 22
abbrev s_law_product : Stmt := top 23
abbrev s_law_alike : Stmt := top 24
abbrev s_law_anew : Stmt := top 25
abbrev s_law_drawn_kind : Stmt := top 26
abbrev s_law_degrees : Stmt := top 27
abbrev s_law_due_rows : Stmt := top 28
abbrev s_law_due_counts : Stmt := top 29
abbrev s_law_refused : Stmt := top 30
abbrev s_law_group_fits : Stmt := top 31
abbrev s_law : Stmt := top 32
def ans_int : List (String × Bool) := [("NoneType", false), ("bool", true), ("int", true), ("str", false), ("tuple", false), ("list", false)]
theorem isi_int : IsiOk "int" ans_int := by
  intro n b h
  unfold ans_int at h
  simp only [List.mem_cons, List.not_mem_nil, or_false, Prod.mk.injEq] at h
  rcases h with ⟨rfl, rfl⟩ | ⟨rfl, rfl⟩ | ⟨rfl, rfl⟩ | ⟨rfl, rfl⟩ | ⟨rfl, rfl⟩ | ⟨rfl, rfl⟩ <;> decide +kernel
def ans_bool : List (String × Bool) := [("NoneType", false), ("bool", true), ("int", false), ("str", false), ("tuple", false), ("list", false)]
theorem isi_bool : IsiOk "bool" ans_bool := by
  intro n b h
  unfold ans_bool at h
  simp only [List.mem_cons, List.not_mem_nil, or_false, Prod.mk.injEq] at h
  rcases h with ⟨rfl, rfl⟩ | ⟨rfl, rfl⟩ | ⟨rfl, rfl⟩ | ⟨rfl, rfl⟩ | ⟨rfl, rfl⟩ | ⟨rfl, rfl⟩ <;> decide +kernel
def ans_list : List (String × Bool) := [("NoneType", false), ("bool", false), ("int", false), ("str", false), ("tuple", false), ("list", true)]
theorem isi_list : IsiOk "list" ans_list := by
  intro n b h
  unfold ans_list at h
  simp only [List.mem_cons, List.not_mem_nil, or_false, Prod.mk.injEq] at h
  rcases h with ⟨rfl, rfl⟩ | ⟨rfl, rfl⟩ | ⟨rfl, rfl⟩ | ⟨rfl, rfl⟩ | ⟨rfl, rfl⟩ | ⟨rfl, rfl⟩ <;> decide +kernel
def ans_tuple : List (String × Bool) := [("NoneType", false), ("bool", false), ("int", false), ("str", false), ("tuple", true), ("list", false)]
theorem isi_tuple : IsiOk "tuple" ans_tuple := by
  intro n b h
  unfold ans_tuple at h
  simp only [List.mem_cons, List.not_mem_nil, or_false, Prod.mk.injEq] at h
  rcases h with ⟨rfl, rfl⟩ | ⟨rfl, rfl⟩ | ⟨rfl, rfl⟩ | ⟨rfl, rfl⟩ | ⟨rfl, rfl⟩ | ⟨rfl, rfl⟩ <;> decide +kernel
theorem sc_is_renaming : FnScope ["names", "order"] ["names", "order"] (defScope s_is_renaming) := ⟨rfl, rfl, rfl, by decide +kernel, rfl, by decide +kernel, by decide +kernel⟩
theorem sc_check_table : FnScope ["rows", "order", "row", "y"] ["rows"] (defScope s_check_table) := ⟨rfl, rfl, rfl, by decide +kernel, rfl, by decide +kernel, by decide +kernel⟩
theorem sc_Group_product : FnScope ["self", "things", "worth", "thing"] ["self", "things"] (defScope s_Group_product) := ⟨rfl, rfl, rfl, by decide +kernel, rfl, by decide +kernel, by decide +kernel⟩
theorem sc_commutator_counts : FnScope ["group", "counts", "a", "a_back", "b", "b_back"] ["group"] (defScope s_commutator_counts) := ⟨rfl, rfl, rfl, by decide +kernel, rfl, by decide +kernel, by decide +kernel⟩
theorem sc_commutator_rows : FnScope ["group", "number", "counts", "totals", "_", "fresh", "a", "total", "b", "count"] ["group", "number"] (defScope s_commutator_rows) := ⟨rfl, rfl, rfl, by decide +kernel, rfl, by decide +kernel, by decide +kernel⟩
theorem sc_is_associative : FnScope ["rows", "row", "b", "ab", "bc"] ["rows"] (defScope s_is_associative) := ⟨rfl, rfl, rfl, by decide +kernel, rfl, by decide +kernel, by decide +kernel⟩
theorem sc_Group_init : FnScope ["self", "rows", "table", "plain", "row", "a", "b"] ["self", "rows"] (defScope s_Group_init) := ⟨rfl, rfl, rfl, by decide +kernel, rfl, by decide +kernel, by decide +kernel⟩
theorem sc_law_numbers : FnScope ["script", "many", "mixed", "state", "k", "cell", "free", "rest"] ["script", "many"] (defScope s_law_numbers) := ⟨rfl, rfl, rfl, by decide +kernel, rfl, by decide +kernel, by decide +kernel⟩
theorem sc_law_take : FnScope ["numbers", "many"] ["numbers", "many"] (defScope s_law_take) := ⟨rfl, rfl, rfl, by decide +kernel, rfl, by decide +kernel, by decide +kernel⟩
theorem sc_law_shuffled : FnScope ["numbers", "many", "left", "found", "k"] ["numbers", "many"] (defScope s_law_shuffled) := ⟨rfl, rfl, rfl, by decide +kernel, rfl, by decide +kernel, by decide +kernel⟩
theorem sc_law_group : FnScope ["kind", "half", "rows", "a", "row", "b", "flip", "turn"] ["kind"] (defScope s_law_group) := ⟨rfl, rfl, rfl, by decide +kernel, rfl, by decide +kernel, by decide +kernel⟩
theorem sc_law_named : FnScope ["rows", "names", "found", "a", "row", "b"] ["rows", "names"] (defScope s_law_named) := ⟨rfl, rfl, rfl, by decide +kernel, rfl, by decide +kernel, by decide +kernel⟩
theorem sc_law_power : FnScope ["base", "many", "worth", "k"] ["base", "many"] (defScope s_law_power) := ⟨rfl, rfl, rfl, by decide +kernel, rfl, by decide +kernel, by decide +kernel⟩
theorem sc_law_product : FnScope ["rows", "things", "worth", "thing"] ["rows", "things"] (defScope s_law_product) := ⟨rfl, rfl, rfl, by decide +kernel, rfl, by decide +kernel, by decide +kernel⟩
theorem sc_law_alike : FnScope ["found", "due", "k"] ["found", "due"] (defScope s_law_alike) := ⟨rfl, rfl, rfl, by decide +kernel, rfl, by decide +kernel, by decide +kernel⟩
theorem sc_law_anew : FnScope ["numbers", "kind", "rows", "names", "name"] ["numbers", "kind"] (defScope s_law_anew) := ⟨rfl, rfl, rfl, by decide +kernel, rfl, by decide +kernel, by decide +kernel⟩
theorem sc_law_drawn_kind : FnScope ["numbers", "kind"] ["numbers"] (defScope s_law_drawn_kind) := ⟨rfl, rfl, rfl, by decide +kernel, rfl, by decide +kernel, by decide +kernel⟩
theorem sc_law_degrees : FnScope ["kind", "order", "k"] ["kind", "order"] (defScope s_law_degrees) := ⟨rfl, rfl, rfl, by decide +kernel, rfl, by decide +kernel, by decide +kernel⟩
theorem sc_law_due_rows : FnScope ["kind", "order", "pairs", "total", "degree"] ["kind", "order", "pairs"] (defScope s_law_due_rows) := ⟨rfl, rfl, rfl, by decide +kernel, rfl, by decide +kernel, by decide +kernel⟩
theorem sc_law_due_counts : FnScope ["rows", "counts", "a", "b", "at"] ["rows"] (defScope s_law_due_counts) := ⟨rfl, rfl, rfl, by decide +kernel, rfl, by decide +kernel, by decide +kernel⟩
theorem sc_law_refused : FnScope ["group", "pairs", "e", "apart"] ["group", "pairs"] (defScope s_law_refused) := ⟨rfl, rfl, rfl, by decide +kernel, rfl, by decide +kernel, by decide +kernel⟩
theorem sc_law_group_fits : FnScope ["group", "rows", "kind", "many", "order", "pairs", "due"] ["group", "rows", "kind", "many"] (defScope s_law_group_fits) := ⟨rfl, rfl, rfl, by decide +kernel, rfl, by decide +kernel, by decide +kernel⟩
theorem sc_law : FnScope ["script", "numbers", "kinds", "tables", "groups", "many", "k", "step", "due", "kind", "rows", "row"] ["script"] (defScope s_law) := ⟨rfl, rfl, rfl, by decide +kernel, rfl, by decide +kernel, by decide +kernel⟩
def b_is_renaming : SF := (sRet (eBin dEq (eCall gSorted [(eVar 0)]) (eRg1 false (eVar 1))))
def fD_is_renaming : FD := fnF [] 2 b_is_renaming
def b_check_table : SF := (sSeq (sAsg 1 (eCall gLen [(eVar 0)])) (sSeq (sIf (tOrF (tOf (eBin dLt (eVar 1) (eCon (.int 1)))) (tOf (eBin dGt (eVar 1) (eCon (.int 8))))) (sRaise "BadMerge") sSkip) (sSeq (sFor (iSeq (eVar 0)) (tName 2) (sIf (tNotF (tOf (eCallF fD_is_renaming [] [CM.bw, CM.bw] [] [(eVar 2), (eVar 1)]))) (sRaise "BadMerge") sSkip)) (sFor (iRng [(eVar 1)]) (tName 3) (sIf (tNotF (tOf (eCallF fD_is_renaming [] [CM.bw, CM.bw] [] [(eLc [2] (iSeq (eVar 0)) (tName 2) tTrue (eBin gIx (eVar 2) (eVar 3))), (eVar 1)]))) (sRaise "BadMerge") sSkip)))))
def fD_check_table : FD := fnF [] 4 b_check_table
def b_Group_product : SF := (sSeq (sAsg 2 (eCon (.int 0))) (sSeq (sFor (iSeq (eVar 1)) (tName 3) (sAsg 2 (eBin gIx (eBin gIx (eUn (gFld ["Group"] "rows") (eVar 0)) (eVar 2)) (eVar 3)))) (sRet (eVar 2))))
def fD_Group_product : FD := fnF [] 4 b_Group_product
def b_commutator_counts : SF := (sSeq (sAsg 1 (eBin gRep (eDisp false [(eCon (.int 0))]) (eUn (gFld ["Group"] "order") (eVar 0)))) (sSeq (sFor (iEnum (eUn (gFld ["Group"] "inverses") (eVar 0))) (tTup [(tName 2), (tName 3)]) (sFor (iEnum (eUn (gFld ["Group"] "inverses") (eVar 0))) (tTup [(tName 4), (tName 5)]) (sAugIx (fun i j => i + j) (eVar 1) (eMethF "Group" "product" (fnStar 1 fD_Group_product) [] [CM.bw, CM.gv, CM.gv, CM.gv, CM.gv] [] (eVar 0) [(eEsc (eVar 2)), (eEsc (eVar 4)), (eEsc (eVar 3)), (eEsc (eVar 5))]) (eCon (.int 1))))) (sRet (eCall gTuple [(eVar 1)]))))
def fD_commutator_counts : FD := fnF [] 6 b_commutator_counts
def b_commutator_rows : SF := (sSeq (sIf (tOf (eBin dLt (eVar 1) (eCon (.int 0)))) (sRaise "BadNumber") sSkip) (sSeq (sAsg 2 (eCallF fD_commutator_counts [] [CM.bw] [] [(eVar 0)])) (sSeq (sAsg 3 (eBin gCat (eDisp false [(eCon (.int 1))]) (eBin gRep (eDisp false [(eCon (.int 0))]) (eBin dSub (eUn (gFld ["Group"] "order") (eVar 0)) (eCon (.int 1)))))) (sSeq (sFor (iRng [(eVar 1)]) (tName 4) (sSeq (sAsg 5 (eBin gRep (eDisp false [(eCon (.int 0))]) (eUn (gFld ["Group"] "order") (eVar 0)))) (sSeq (sFor (iEnum (eVar 3)) (tTup [(tName 6), (tName 7)]) (sFor (iEnum (eVar 2)) (tTup [(tName 8), (tName 9)]) (sAugIx (fun i j => i + j) (eVar 5) (eBin gIx (eBin gIx (eUn (gFld ["Group"] "rows") (eVar 0)) (eVar 6)) (eVar 8)) (eEsc (eBin dMul (eVar 7) (eVar 9)))))) (sAsg 3 (eEsc (eVar 5)))))) (sRet (eBin gIx (eVar 3) (eCon (.int 0))))))))
def fD_commutator_rows : FD := fnF [] 10 b_commutator_rows
def b_is_associative : SF := (sSeq (sFor (iSeq (eVar 0)) (tName 1) (sFor (iEnum (eVar 1)) (tTup [(tName 2), (tName 3)]) (sIf (tOf (eBin dNe (eLc [4] (iSeq (eBin gIx (eVar 0) (eVar 2))) (tName 4) tTrue (eBin gIx (eVar 1) (eVar 4))) (eCall gList [(eBin gIx (eVar 0) (eVar 3))]))) (sRet (eCon (.bl false))) sSkip))) (sRet (eCon (.bl true))))
def fD_is_associative : FD := fnF [] 5 b_is_associative
def b_Group_init : SF := (sSeq (sAsg 2 (eCall gTuple [(eLc [4] (iSeq (eVar 1)) (tName 4) tTrue (eCall gTuple [(eVar 4)]))])) (sSeq (sThru (sExpr (eCallF fD_check_table [] [CM.bw] [] [(eVar 2)]))) (sSeq (sAsg 3 (eRg1 true (eCall gLen [(eVar 2)]))) (sSeq (sIf (tOrF (tOf (eBin dNe (eBin gIx (eVar 2) (eCon (.int 0))) (eVar 3))) (tOf (eBin dNe (eCall gTuple [(eLc [4] (iSeq (eVar 2)) (tName 4) tTrue (eBin gIx (eVar 4) (eCon (.int 0))))]) (eVar 3)))) (sRaise "BadGroup") sSkip) (sSeq (sIf (tNotF (tOf (eCallF fD_is_associative [] [CM.bw] [] [(eVar 2)]))) (sRaise "BadGroup") sSkip) (sSeq (sSetF ["Group"] "rows" (eEsc (eVar 2)) (eVar 0)) (sSeq (sSetF ["Group"] "order" (eEsc (eCall gLen [(eVar 2)])) (eVar 0)) (sSeq (sSetF ["Group"] "inverses" (eEsc (eCall gTuple [(eLc [4] (iSeq (eVar 2)) (tName 4) tTrue (eMethT gIndexT (eVar 4) [(eCon (.int 0))]))])) (eVar 0)) (sSetF ["Group"] "commutative" (eEsc (eNotT (eLc2 [5, 6] [6] (iSeq (eVar 3)) (tName 5) tTrue (iSeq (eVar 3)) (tName 6) (tOf (eBin dNe (eBin gIx (eBin gIx (eVar 2) (eVar 5)) (eVar 6)) (eBin gIx (eBin gIx (eVar 2) (eVar 6)) (eVar 5)))) (eVar 5)))) (eVar 0))))))))))
def fD_Group_init : FD := fnF [0] 7 b_Group_init
def b_law_numbers : SF := (sSeq (sAsg 2 (eDisp false [])) (sSeq (sAsg 3 (eBin dAdd (eCon (.int 1)) (eCall gLen [(eVar 0)]))) (sSeq (sFor (iRng [(eVar 1)]) (tName 4) (sSeq (sAsg 5 (eCon (.int 0))) (sSeq (sIf (tOf (eBin dGt (eCall gLen [(eVar 0)]) (eCon (.int 0)))) (sAsg 5 (eCall gInt1 [(eBin gIx (eVar 0) (eBin dMod (eCall gInt1 [(eVar 4)]) (eCall gLen [(eVar 0)])))])) sSkip) (sSeq (sAsg 3 (eBin dMod (eCall gInt1 [(eBin dAdd (eBin dAdd (eBin dAdd (eBin dMul (eVar 3) (eCon (.int 48271))) (eVar 5)) (eBin dMul (eCon (.int 7)) (eVar 4))) (eCon (.int 3)))]) (eCon (.int 2147483647)))) (sExpr (eMeth gAppend (eVar 2) [(eMv (eBin dDiv (eCall gInt1 [(eVar 3)]) (eCon (.int 8))))])))))) (sSeq (sAsg 6 (eDisp false [])) (sSeq (sFor (iSeq (eVar 0)) (tName 5) (sSeq (sAsg 7 (eCall gAbs [(eCall gInt1 [(eVar 5)])])) (sIf (tOf (eBin dGe (eVar 7) (eBin dPow (eCon (.int 10)) (eCon (.int 18))))) (sFor (iRng [(eCon (.int 60))]) (tName 4) (sIf (tOf (eBin dGt (eVar 7) (eCon (.int 0)))) (sSeq (sExpr (eMeth gAppend (eVar 6) [(eMv (eBin dMod (eCall gInt1 [(eVar 7)]) (eCon (.int 1000))))])) (sAsg 7 (eBin dDiv (eVar 7) (eCon (.int 1000))))) sSkip)) sSkip))) (sRet (eBin gCat (eVar 2) (eLc [4] (iRng [(eCall gLen [(eVar 6)])]) (tName 4) tTrue (eBin gIx (eVar 6) (eBin dSub (eBin dSub (eCall gLen [(eVar 6)]) (eCon (.int 1))) (eVar 4)))))))))))
def fD_law_numbers : FD := fnF [] 8 b_law_numbers
def b_law_take : SF := (sSeq (sIf (tOf (eBin dEq (eCall gLen [(eVar 0)]) (eCon (.int 0)))) (sRet (eCon (.int 0))) sSkip) (sRet (eBin dMod (eCall gInt1 [(eMeth gPop (eVar 0) [])]) (eVar 1))))
def fD_law_take : FD := fnF [0] 2 b_law_take
def b_law_shuffled : SF := (sSeq (sAsg 2 (eRg1 false (eVar 1))) (sSeq (sAsg 3 (eDisp false [])) (sSeq (sFor (iRng [(eVar 1)]) (tName 4) (sExpr (eMeth gAppend (eVar 3) [(eMv (eMeth gPopAt (eVar 2) [(eCallF fD_law_take [0] [CM.io, CM.bw] [] [(eVar 0), (eCall gLen [(eVar 2)])])]))]))) (sRet (eVar 3)))))
def fD_law_shuffled : FD := fnF [0] 5 b_law_shuffled
def b_law_group : SF := (sSeq (sIf (tOf (eBin dLt (eVar 0) (eCon (.int 8)))) (sRet (eLc [3] (iRng [(eBin dAdd (eVar 0) (eCon (.int 1)))]) (tName 3) tTrue (eLc [5] (iRng [(eBin dAdd (eVar 0) (eCon (.int 1)))]) (tName 5) tTrue (eBin dMod (eCall gInt1 [(eBin dAdd (eVar 3) (eVar 5))]) (eBin dAdd (eVar 0) (eCon (.int 1))))))) sSkip) (sSeq (sAsg 1 (eBin gIx (eDisp false [(eCon (.int 2)), (eCon (.int 3)), (eCon (.int 4)), (eCon (.int 4)), (eCon (.int 4)), (eCon (.int 4))]) (eBin dSub (eVar 0) (eCon (.int 8))))) (sSeq (sAsg 2 (eDisp false [])) (sSeq (sFor (iRng [(eBin dMul (eCon (.int 2)) (eVar 1))]) (tName 3) (sSeq (sAsg 4 (eDisp false [])) (sSeq (sFor (iRng [(eBin dMul (eCon (.int 2)) (eVar 1))]) (tName 5) (sSeq (sAsg 6 (eBin dAdd (eBin dDiv (eVar 3) (eVar 1)) (eBin dDiv (eVar 5) (eVar 1)))) (sSeq (sAsg 7 (eBin dAdd (eBin dMod (eCall gInt1 [(eVar 3)]) (eVar 1)) (eBin dMod (eCall gInt1 [(eVar 5)]) (eVar 1)))) (sSeq (sIf (tAndF (tOf (eBin (gIn false) (eVar 0) (eDisp true [(eCon (.int 9)), (eCon (.int 12)), (eCon (.int 13))]))) (tOf (eBin dEq (eBin dDiv (eVar 3) (eVar 1)) (eCon (.int 1))))) (sAsg 7 (eBin dSub (eBin dMod (eCall gInt1 [(eVar 3)]) (eVar 1)) (eBin dMod (eCall gInt1 [(eVar 5)]) (eVar 1)))) sSkip) (sSeq (sIf (tAndF (tOf (eBin dEq (eVar 0) (eCon (.int 13)))) (tOf (eBin dEq (eVar 6) (eCon (.int 2))))) (sAsg 7 (eBin dAdd (eVar 7) (eCon (.int 2)))) sSkip) (sSeq (sIf (tOf (eBin dEq (eVar 0) (eCon (.int 11)))) (sAsg 7 (eBin dAdd (eBin dMod (eCall gInt1 [(eBin dAdd (eVar 3) (eVar 5))]) (eCon (.int 2))) (eBin dMul (eCon (.int 2)) (eBin dMod (eCall gInt1 [(eBin dAdd (eBin dDiv (eVar 3) (eCon (.int 2))) (eBin dDiv (eVar 5) (eCon (.int 2))))]) (eCon (.int 2)))))) sSkip) (sExpr (eMeth gAppend (eVar 4) [(eMv (eBin dAdd (eBin dMod (eCall gInt1 [(eVar 7)]) (eVar 1)) (eBin dMul (eVar 1) (eBin dMod (eCall gInt1 [(eVar 6)]) (eCon (.int 2))))))])))))))) (sExpr (eMeth gAppend (eVar 2) [(eMv (eVar 4))]))))) (sRet (eVar 2))))))
def fD_law_group : FD := fnF [] 8 b_law_group
def b_law_named : SF := (sSeq (sAsg 2 (eLc [3] (iSeq (eVar 0)) (tName 3) tTrue (eLc [5] (iSeq (eVar 0)) (tName 5) tTrue (eCon (.int 0))))) (sSeq (sFor (iRng [(eCall gLen [(eVar 0)])]) (tName 3) (sSeq (sAsg 4 (eBin gIx (eVar 2) (eBin gIx (eVar 1) (eVar 3)))) (sFor (iRng [(eCall gLen [(eVar 0)])]) (tName 5) (sSetIx (eEsc (eBin gIx (eVar 1) (eBin gIx (eBin gIx (eVar 0) (eVar 3)) (eVar 5)))) (eVar 4) (eBin gIx (eVar 1) (eVar 5)))))) (sRet (eVar 2))))
def fD_law_named : FD := fnF [] 6 b_law_named
def b_law_power : SF := (sSeq (sAsg 2 (eCon (.int 1))) (sSeq (sFor (iRng [(eVar 1)]) (tName 3) (sAsg 2 (eBin dMul (eVar 2) (eVar 0)))) (sRet (eVar 2))))
def fD_law_power : FD := fnF [] 4 b_law_power
def b_law_product : SF := (sSeq (sAsg 2 (eCon (.int 0))) (sSeq (sFor (iSeq (eVar 1)) (tName 3) (sAsg 2 (eBin gIx (eBin gIx (eVar 0) (eVar 2)) (eVar 3)))) (sRet (eVar 2))))
def fD_law_product : FD := fnF [] 4 b_law_product
def b_law_alike (fD_law_alike : FD) : SF := (sSeq (sIf (tOf (eBin dIsN (eVar 1) (eCon .non))) (sRet (eBin dIsN (eVar 0) (eCon .non))) sSkip) (sSeq (sIf (tOf (eUn (gIsi ans_list) (eVar 1))) (sSeq (sIf (tOrF (tNotF (tOf (eUn (gIsi ans_tuple) (eVar 0)))) (tOf (eBin dNe (eCall gLen [(eVar 0)]) (eCall gLen [(eVar 1)])))) (sRet (eCon (.bl false))) sSkip) (sSeq (sFor (iRng [(eCall gLen [(eVar 1)])]) (tName 2) (sIf (tNotF (tOf (eCallF fD_law_alike [] [CM.bw, CM.bw] [] [(eBin gIx (eVar 0) (eVar 2)), (eBin gIx (eVar 1) (eVar 2))]))) (sRet (eCon (.bl false))) sSkip)) (sRet (eCon (.bl true))))) sSkip) (sRet (eAnd (eUn (gIsi ans_int) (eVar 0)) (eAnd (eNot (eUn (gIsi ans_bool) (eVar 0))) (eBin dEq (eVar 0) (eVar 1)))))))
def fD_law_alike : Nat → FD
  | 0 => fun _ => .no
  | n + 1 => fnF [] 3 (b_law_alike (fD_law_alike n))
def b_law_anew : SF := (sSeq (sAsg 2 (eCallF fD_law_group [] [CM.bw] [] [(eVar 1)])) (sSeq (sAsg 3 (eBin gCat (eDisp false [(eCon (.int 0))]) (eLc [4] (iSeq (eCallF fD_law_shuffled [0] [CM.io, CM.bw] [] [(eVar 0), (eBin dSub (eCall gLen [(eVar 2)]) (eCon (.int 1)))])) (tName 4) tTrue (eBin dAdd (eVar 4) (eCon (.int 1)))))) (sRet (eCallF fD_law_named [] [CM.bw, CM.bw] [] [(eVar 2), (eVar 3)]))))
def fD_law_anew : FD := fnF [0] 5 b_law_anew
def b_law_drawn_kind : SF := (sSeq (sAsg 1 (eCallF fD_law_take [0] [CM.io, CM.bw] [] [(eVar 0), (eCon (.int 14))])) (sSeq (sIf (tOf (eBin dEq (eCallF fD_law_take [0] [CM.io, CM.bw] [] [(eVar 0), (eCon (.int 2))]) (eCon (.int 1)))) (sAsg 1 (eBin gIx (eDisp false [(eCon (.int 9)), (eCon (.int 12)), (eCon (.int 13))]) (eBin dMod (eCall gInt1 [(eVar 1)]) (eCon (.int 3))))) sSkip) (sRet (eVar 1))))
def fD_law_drawn_kind : FD := fnF [0] 2 b_law_drawn_kind
def b_law_degrees : SF := (sSeq (sIf (tOf (eBin dEq (eVar 0) (eCon (.int 9)))) (sRet (eDisp false [(eCon (.int 1)), (eCon (.int 1)), (eCon (.int 2))])) sSkip) (sSeq (sIf (tOf (eBin (gIn false) (eVar 0) (eDisp true [(eCon (.int 12)), (eCon (.int 13))]))) (sRet (eDisp false [(eCon (.int 1)), (eCon (.int 1)), (eCon (.int 1)), (eCon (.int 1)), (eCon (.int 2))])) sSkip) (sRet (eLc [2] (iRng [(eVar 1)]) (tName 2) tTrue (eCon (.int 1))))))
def fD_law_degrees : FD := fnF [] 3 b_law_degrees
def b_law_due_rows : SF := (sSeq (sIf (tOf (eBin dEq (eVar 2) (eCon (.int 0)))) (sRet (eCon (.int 1))) sSkip) (sSeq (sAsg 3 (eCon (.int 0))) (sSeq (sFor (iSeq (eCallF fD_law_degrees [] [CM.bw, CM.bw] [] [(eVar 0), (eVar 1)])) (tName 4) (sAsg 3 (eBin dAdd (eVar 3) (eCallF fD_law_power [] [CM.bw, CM.bw] [] [(eBin dDiv (eVar 1) (eVar 4)), (eBin dSub (eBin dMul (eCon (.int 2)) (eVar 2)) (eCon (.int 2)))])))) (sRet (eBin dMul (eVar 1) (eVar 3))))))
def fD_law_due_rows : FD := fnF [] 5 b_law_due_rows
def b_law_due_counts : SF := (sSeq (sAsg 1 (eLc [2] (iSeq (eVar 0)) (tName 2) tTrue (eCon (.int 0)))) (sSeq (sFor (iRng [(eCall gLen [(eVar 0)])]) (tName 2) (sFor (iRng [(eCall gLen [(eVar 0)])]) (tName 3) (sSeq (sAsg 4 (eCallF fD_law_product [] [CM.bw, CM.bw] [] [(eVar 0), (eDisp false [(eEsc (eVar 2)), (eEsc (eVar 3)), (eEsc (eMeth gIndex (eBin gIx (eVar 0) (eVar 2)) [(eCon (.int 0))])), (eEsc (eMeth gIndex (eBin gIx (eVar 0) (eVar 3)) [(eCon (.int 0))]))])])) (sSetIx (eEsc (eBin dAdd (eBin gIx (eVar 1) (eVar 4)) (eCon (.int 1)))) (eVar 1) (eVar 4))))) (sRet (eVar 1))))
def fD_law_due_counts : FD := fnF [] 5 b_law_due_counts
def b_law_refused : SF := (sSeq (sTry (sExpr (eCallF fD_commutator_rows [] [CM.bw, CM.bw] [] [(eVar 0), (eVar 1)])) [⟨fun C => ([("BadNumber", true)] : Tbl).lookup C, some 2, (fun _ => (sSeq (sAsg 3 (eAnd (eNot (eCon (.bl false))) (eNot (eCon (.bl false))))) (sRet (eAnd (eCon (.bl true)) (eAnd (eCon (.bl true)) (eVar 3))))))⟩, ⟨fun C => ([("BadNumber", true)] : Tbl).lookup C, none, (fun _ => (sRet (eCon (.bl false))))⟩]) (sRet (eCon (.bl false))))
def fD_law_refused : FD := fnF [] 4 b_law_refused
def b_law_group_fits : SF := (sSeq (sAsg 4 (eCall gLen [(eVar 1)])) (sSeq (sIf (tNotF (tOf (eCallF (fD_law_alike 9) [] [CM.bw, CM.bw] [] [(eCallF fD_commutator_counts [] [CM.bw] [] [(eVar 0)]), (eCallF fD_law_due_counts [] [CM.bw] [] [(eVar 1)])]))) (sRet (eCon (.bl false))) sSkip) (sSeq (sFor (iSeq (eVar 3)) (tName 5) (sSeq (sAsg 6 (eCallF fD_law_due_rows [] [CM.bw, CM.bw, CM.bw] [] [(eVar 2), (eVar 4), (eVar 5)])) (sSeq (sIf (tNotF (tOf (eCallF (fD_law_alike 9) [] [CM.bw, CM.bw] [] [(eCallF fD_commutator_rows [] [CM.bw, CM.bw] [] [(eVar 0), (eVar 5)]), (eVar 6)]))) (sRet (eCon (.bl false))) sSkip) (sIf (tAndF (tOf (eBin dLt (eVar 5) (eCon (.int 7)))) (tNotF (tOf (eCallF (fD_law_alike 9) [] [CM.bw, CM.bw] [] [(eCallK fD_commutator_rows [] [CM.bw, CM.bw] [] [(eVar 0)] [(eVar 5)]), (eVar 6)])))) (sRet (eCon (.bl false))) sSkip)))) (sRet (eCallF (fD_law_alike 9) [] [CM.bw, CM.bw] [] [(eCallF fD_commutator_rows [] [CM.bw, CM.bw] [(.int 1)] [(eVar 0)]), (eCallF fD_law_due_rows [] [CM.bw, CM.bw, CM.bw] [] [(eVar 2), (eVar 4), (eCon (.int 1))])])))))
def fD_law_group_fits : FD := fnF [] 7 b_law_group_fits
def b_law : SF := (sSeq (sAsg 1 (eCallF fD_law_numbers [] [CM.bw, CM.bw] [] [(eVar 0), (eCon (.int 100))])) (sSeq (sAsg 2 (eLc [6] (iRng [(eCon (.int 2))]) (tName 6) tTrue (eCallF fD_law_drawn_kind [0] [CM.io] [] [(eVar 1)]))) (sSeq (sAsg 3 (eLc [9] (iSeq (eVar 2)) (tName 9) tTrue (eCallF fD_law_anew [0] [CM.io, CM.bw] [] [(eVar 1), (eVar 9)]))) (sSeq (sAsg 4 (eLc [10] (iSeq (eVar 3)) (tName 10) tTrue (eMake "Group" fD_Group_init [0] [CM.io, CM.gv] [] [(eEsc (eLc [11] (iSeq (eVar 10)) (tName 11) tTrue (eCall gList [(eVar 11)])))]))) (sSeq (sAsg 5 (eDisp false [(eCon (.int 0)), (eCon (.int 1)), (eCon (.int 2)), (eCon (.int 3)), (eCon (.int 4)), (eCon (.int 5)), (eCon (.int 6)), (eCon (.int 100)), (eEsc (eBin dAdd (eCon (.int 7)) (eCallF fD_law_take [0] [CM.io, CM.bw] [] [(eVar 1), (eCon (.int 93))])))])) (sSeq (sFor (iRng [(eCon (.int 2))]) (tName 6) (sSeq (sIf (tNotF (tTru (eCallF fD_law_group_fits [] [CM.bw, CM.bw, CM.bw, CM.bw] [] [(eBin gIx (eVar 4) (eVar 6)), (eBin gIx (eVar 3) (eVar 6)), (eBin gIx (eVar 2) (eVar 6)), (eVar 5)]))) (sRet (eCon (.bl false))) sSkip) (sFor (iRng [(eCon (.int 3))]) (tName 7) (sIf (tNotF (tTru (eCallF fD_law_refused [] [CM.bw, CM.bw] [] [(eBin gIx (eVar 4) (eVar 6)), (eBin dSub (eCon (.int 0)) (eBin gIx (eDisp false [(eCon (.int 1)), (eCon (.int 2)), (eEsc (eBin dAdd (eCon (.int 1)) (eCallF fD_law_take [0] [CM.io, CM.bw] [] [(eVar 1), (eCon (.int 100))])))]) (eVar 7)))]))) (sRet (eCon (.bl false))) sSkip)))) (sSeq (sAsg 8 (eCallF fD_law_due_counts [] [CM.bw] [] [(eBin gIx (eVar 3) (eCon (.int 0)))])) (sRet (eAnd (eCallF (fD_law_alike 9) [] [CM.bw, CM.bw] [] [(eCallF fD_commutator_counts [] [CM.bw] [] [(eBin gIx (eVar 4) (eCon (.int 0)))]), (eVar 8)]) (eCallF (fD_law_alike 9) [] [CM.bw, CM.bw] [] [(eCallF fD_commutator_rows [] [CM.bw, CM.bw] [] [(eBin gIx (eVar 4) (eCon (.int 0))), (eCon (.int 1))]), (eBin gIx (eVar 8) (eCon (.int 0)))]))))))))))
def fD_law : FD := fnF [] 12 b_law
structure Txt (K : PySem.W.Frag) (mg : Str → Option Value) (f_is_renaming f_check_table f_Group_product f_commutator_counts f_commutator_rows f_is_associative f_Group_init f_law_numbers f_law_take f_law_shuffled f_law_group f_law_named f_law_power f_law_product f_law_alike f_law_anew f_law_drawn_kind f_law_degrees f_law_due_rows f_law_due_counts f_law_refused f_law_group_fits f_law c_Fault c_BadMerge c_BadGroup c_BadNames c_BadNumber c_Group : Addr) : Prop where
  g_is_renaming : mg "is_renaming" = some (.ref f_is_renaming)
  k_is_renaming : PySem.W.keepIn K (.ref f_is_renaming) = true
  g_check_table : mg "check_table" = some (.ref f_check_table)
  k_check_table : PySem.W.keepIn K (.ref f_check_table) = true
  m_Group_product : Meth K c_Group "product" f_Group_product
  g_commutator_counts : mg "commutator_counts" = some (.ref f_commutator_counts)
  k_commutator_counts : PySem.W.keepIn K (.ref f_commutator_counts) = true
  g_commutator_rows : mg "commutator_rows" = some (.ref f_commutator_rows)
  k_commutator_rows : PySem.W.keepIn K (.ref f_commutator_rows) = true
  g_is_associative : mg "is_associative" = some (.ref f_is_associative)
  k_is_associative : PySem.W.keepIn K (.ref f_is_associative) = true
  g_law_numbers : mg "_law_numbers" = some (.ref f_law_numbers)
  k_law_numbers : PySem.W.keepIn K (.ref f_law_numbers) = true
  g_law_take : mg "_law_take" = some (.ref f_law_take)
  k_law_take : PySem.W.keepIn K (.ref f_law_take) = true
  g_law_shuffled : mg "_law_shuffled" = some (.ref f_law_shuffled)
  k_law_shuffled : PySem.W.keepIn K (.ref f_law_shuffled) = true
  g_law_group : mg "_law_group" = some (.ref f_law_group)
  k_law_group : PySem.W.keepIn K (.ref f_law_group) = true
  g_law_named : mg "_law_named" = some (.ref f_law_named)
  k_law_named : PySem.W.keepIn K (.ref f_law_named) = true
  g_law_power : mg "_law_power" = some (.ref f_law_power)
  k_law_power : PySem.W.keepIn K (.ref f_law_power) = true
  g_law_product : mg "_law_product" = some (.ref f_law_product)
  k_law_product : PySem.W.keepIn K (.ref f_law_product) = true
  g_law_alike : mg "_law_alike" = some (.ref f_law_alike)
  k_law_alike : PySem.W.keepIn K (.ref f_law_alike) = true
  g_law_anew : mg "_law_anew" = some (.ref f_law_anew)
  k_law_anew : PySem.W.keepIn K (.ref f_law_anew) = true
  g_law_drawn_kind : mg "_law_drawn_kind" = some (.ref f_law_drawn_kind)
  k_law_drawn_kind : PySem.W.keepIn K (.ref f_law_drawn_kind) = true
  g_law_degrees : mg "_law_degrees" = some (.ref f_law_degrees)
  k_law_degrees : PySem.W.keepIn K (.ref f_law_degrees) = true
  g_law_due_rows : mg "_law_due_rows" = some (.ref f_law_due_rows)
  k_law_due_rows : PySem.W.keepIn K (.ref f_law_due_rows) = true
  g_law_due_counts : mg "_law_due_counts" = some (.ref f_law_due_counts)
  k_law_due_counts : PySem.W.keepIn K (.ref f_law_due_counts) = true
  g_law_refused : mg "_law_refused" = some (.ref f_law_refused)
  k_law_refused : PySem.W.keepIn K (.ref f_law_refused) = true
  g_law_group_fits : mg "_law_group_fits" = some (.ref f_law_group_fits)
  k_law_group_fits : PySem.W.keepIn K (.ref f_law_group_fits) = true
  g_law : mg "law" = some (.ref f_law)
  k_law : PySem.W.keepIn K (.ref f_law) = true
  g_Fault : mg "Fault" = some (.ref c_Fault)
  g_BadMerge : mg "BadMerge" = some (.ref c_BadMerge)
  g_BadGroup : mg "BadGroup" = some (.ref c_BadGroup)
  g_BadNames : mg "BadNames" = some (.ref c_BadNames)
  g_BadNumber : mg "BadNumber" = some (.ref c_BadNumber)
  g_Group : mg "Group" = some (.ref c_Group)
  cl_Group : Cls K c_Group
  mk_Group : Mk K c_Group f_Group_init
  n_commutative : FldOk K mg ["Group"] "commutative"
  n_inverses : FldOk K mg ["Group"] "inverses"
  n_order : FldOk K mg ["Group"] "order"
  n_rows : FldOk K mg ["Group"] "rows"
  e_BadGroup : PySem.W.excIn K c_BadGroup [.type "ValueError", .type "Exception", .type "BaseException", .type "object"] "ValueError.__new__" = true
  kc_BadGroup : PySem.W.keepIn K (.ref c_BadGroup) = true
  s_BadGroup : PySem.W.subIn K (.ref c_BadGroup) (.type "BaseException") = some true
  ty_BadGroup : PySem.W.typeIn K (.ref c_BadGroup) = some (.type "type")
  e_BadMerge : PySem.W.excIn K c_BadMerge [.type "ValueError", .type "Exception", .type "BaseException", .type "object"] "ValueError.__new__" = true
  kc_BadMerge : PySem.W.keepIn K (.ref c_BadMerge) = true
  s_BadMerge : PySem.W.subIn K (.ref c_BadMerge) (.type "BaseException") = some true
  ty_BadMerge : PySem.W.typeIn K (.ref c_BadMerge) = some (.type "type")
  e_BadNumber : PySem.W.excIn K c_BadNumber [.type "ValueError", .type "Exception", .type "BaseException", .type "object"] "ValueError.__new__" = true
  kc_BadNumber : PySem.W.keepIn K (.ref c_BadNumber) = true
  s_BadNumber : PySem.W.subIn K (.ref c_BadNumber) (.type "BaseException") = some true
  ty_BadNumber : PySem.W.typeIn K (.ref c_BadNumber) = some (.type "type")
  x_BadNumber_BadNumber : PySem.W.exmOne K (.ref c_BadNumber) (.ref c_BadNumber) = some true
  x_BadNumber_Fault : PySem.W.exmOne K (.ref c_BadNumber) (.ref c_Fault) = some true
  x_BadNumber : ExcC K c_BadNumber
  i_BadNumber_BadGroup : PySem.W.kitOne K (.ref c_BadNumber) (.ref c_BadGroup) = some false
  i_BadNumber_BadNames : PySem.W.kitOne K (.ref c_BadNumber) (.ref c_BadNames) = some false
  i_BadNumber_Fault : PySem.W.kitOne K (.ref c_BadNumber) (.ref c_Fault) = some true
  i_BadNumber_ValueError : PySem.W.kitOne K (.ref c_BadNumber) (.type "ValueError") = some true
  b_ValueError : mg "ValueError" = none
  b_abs : mg "abs" = none
  b_bool : mg "bool" = none
  b_enumerate : mg "enumerate" = none
  b_int : mg "int" = none
  b_isinstance : mg "isinstance" = none
  b_len : mg "len" = none
  b_list : mg "list" = none
  b_range : mg "range" = none
  b_sorted : mg "sorted" = none
  b_tuple : mg "tuple" = none
  v_MOST_ORDER : ∃ t : Tok, mg "MOST_ORDER" = some (.int 8 t)
section
variable {P : Program} {w : World} {K : PySem.W.Frag} {mg : Str → Option Value} {base : Heap} {f_is_renaming f_check_table f_Group_product f_commutator_counts f_commutator_rows f_is_associative f_Group_init f_law_numbers f_law_take f_law_shuffled f_law_group f_law_named f_law_power f_law_product f_law_alike f_law_anew f_law_drawn_kind f_law_degrees f_law_due_rows f_law_due_counts f_law_refused f_law_group_fits f_law c_Fault c_BadMerge c_BadGroup c_BadNames c_BadNumber c_Group : Addr}
theorem ok_is_renaming {fd_is_renaming : FuncData} (F : Fun K "is_renaming" "is_renaming" s_is_renaming f_is_renaming fd_is_renaming) (T : Txt K mg f_is_renaming f_check_table f_Group_product f_commutator_counts f_commutator_rows f_is_associative f_Group_init f_law_numbers f_law_take f_law_shuffled f_law_group f_law_named f_law_power f_law_product f_law_alike f_law_anew f_law_drawn_kind f_law_degrees f_law_due_rows f_law_due_counts f_law_refused f_law_group_fits f_law c_Fault c_BadMerge c_BadGroup c_BadNames c_BadNumber c_Group) : FnOk P w K mg base (L2.CX P w) 1 f_is_renaming fd_is_renaming ["names", "order"] (spD (K, mg, io00) [] (["names", "order"] : List Str).length fD_is_renaming) := by
  exact fn_def (k := 0) F sc_is_renaming fun cdv A outer s H E hr => by exact (pssd_one (psd_ret (pd_cmp (op_eqD (room_hu hr)) o_eq (pd_callB cr_sortLT n_sorted (by rfl) T.b_sorted PyProof.Rows.boot_sorted (pad_cons (pd_var 0) pad_nil)) (pd_listRg1 (by rfl) (by rfl) T.b_list (by rfl) T.b_range (pd_var 1)) (nomark _))))
theorem ok_check_table {fd_check_table : FuncData} {fd_is_renaming : FuncData} (F : Fun K "check_table" "check_table" s_check_table f_check_table fd_check_table) (T : Txt K mg f_is_renaming f_check_table f_Group_product f_commutator_counts f_commutator_rows f_is_associative f_Group_init f_law_numbers f_law_take f_law_shuffled f_law_group f_law_named f_law_power f_law_product f_law_alike f_law_anew f_law_drawn_kind f_law_degrees f_law_due_rows f_law_due_counts f_law_refused f_law_group_fits f_law c_Fault c_BadMerge c_BadGroup c_BadNames c_BadNumber c_Group)
    (G_is_renaming : FnOk P w K mg base (L2.CX P w) 1 f_is_renaming fd_is_renaming ["names", "order"] (spD (K, mg, io00) [] (["names", "order"] : List Str).length fD_is_renaming))
    (B_is_renaming : Binds K fd_is_renaming ["names", "order"] []) : FnOk P w K mg base (L2.CX P w) 2 f_check_table fd_check_table ["rows"] (spD (K, mg, io00) [] (["rows"] : List Str).length fD_check_table) := by
  obtain ⟨t_MOST_ORDER, h_MOST_ORDER⟩ := T.v_MOST_ORDER
  exact fn_def (k := 1) F sc_check_table fun cdv A outer s H E hr => by exact (pssd_cons (psd_set (i := 1) sc_check_table.nd (by rfl) (by first | exact Or.inl rfl | exact Or.inr rfl) (io_ni (by rfl)) (pd_callB call_len_seq n_len (by rfl) T.b_len PySem.boot_len (pad_cons (pd_var 0) pad_nil))) (pssd_cons (psd_if (pwd_or (ptd_cmp op_lt o_lt (pd_var 1) pd_int (nomark _)) (pwd_or1 (ptd_cmp op_gt o_gt (pd_var 1) (pd_gint (by rfl) h_MOST_ORDER) (nomark _)))).pt (pssd_one (psd_raise (by rfl) (takes_of (by rfl) (by rfl) (by rfl) (by rfl)) PySem.F.excBase_ValueError T.e_BadMerge T.g_BadMerge T.kc_BadMerge (raises_own T.s_BadMerge T.ty_BadMerge) (by rfl))) pssd_nil) (pssd_cons (psd_for (passes_of (by rfl)) (by rfl) (pid_seq (pd_var 0)) (pgd_name sc_check_table.nd (by rfl) (by first | exact Or.inl rfl | exact Or.inr rfl) (io_ni (by rfl))) (pssd_one (psd_if (ptd_not (ptd_val (pd_call (cs := [CM.bw, CM.bw]) G_is_renaming (hr.mono (by first | decide | omega)) (takes_of (by rfl) (by rfl) (by rfl) (by rfl)) (by rfl) T.g_is_renaming T.k_is_renaming B_is_renaming .nil flats_nil (pad_cons (pd_var 2) (pad_cons (pd_var 1) pad_nil)) rfl))) (pssd_one (psd_raise (by rfl) (takes_of (by rfl) (by rfl) (by rfl) (by rfl)) PySem.F.excBase_ValueError T.e_BadMerge T.g_BadMerge T.kc_BadMerge (raises_own T.s_BadMerge T.ty_BadMerge) (by rfl))) pssd_nil))) (pssd_one (psd_for (passes_of (by rfl)) (by rfl) (pid_rng1 (by rfl) T.b_range (pad_cons (pd_var 1) pad_nil)) (pgd_name sc_check_table.nd (by rfl) (by first | exact Or.inl rfl | exact Or.inr rfl) (io_ni (by rfl))) (pssd_one (psd_if (ptd_not (ptd_val (pd_call (cs := [CM.bw, CM.bw]) G_is_renaming (hr.mono (by first | decide | omega)) (takes_of (by rfl) (by rfl) (by rfl) (by rfl)) (by rfl) T.g_is_renaming T.k_is_renaming B_is_renaming .nil flats_nil (pad_cons (pd_lc (by rfl) sc_check_table.nd (pid_seq (pd_var 0)) (blkOk_by (own := [("row", 2)]) (by rfl)) (fun _ _ _ _ _ => (pgd_name sc_check_table.nd (by rfl) (by first | exact Or.inl rfl | exact Or.inr rfl) (io_ni (by rfl)))) (fun _ _ _ _ _ => ptsd_nil) (fun _ _ _ _ _ => (pd_ix (pd_var 2) (pd_var 3))) (by decide) (io_all (by rfl))) (pad_cons (pd_var 1) pad_nil)) rfl))) (pssd_one (psd_raise (by rfl) (takes_of (by rfl) (by rfl) (by rfl) (by rfl)) PySem.F.excBase_ValueError T.e_BadMerge T.g_BadMerge T.kc_BadMerge (raises_own T.s_BadMerge T.ty_BadMerge) (by rfl))) pssd_nil)))))))
theorem ok_Group_product {fd_Group_product : FuncData} (F : Fun K "product" "Group.product" s_Group_product f_Group_product fd_Group_product) (T : Txt K mg f_is_renaming f_check_table f_Group_product f_commutator_counts f_commutator_rows f_is_associative f_Group_init f_law_numbers f_law_take f_law_shuffled f_law_group f_law_named f_law_power f_law_product f_law_alike f_law_anew f_law_drawn_kind f_law_degrees f_law_due_rows f_law_due_counts f_law_refused f_law_group_fits f_law c_Fault c_BadMerge c_BadGroup c_BadNames c_BadNumber c_Group) (n : Nat) (hn : 1 ≤ n) : FnR P w K mg base (L2.CX P w) 1 f_Group_product (spD (K, mg, io00) [] n (fnStar 1 fD_Group_product)) := by
  refine fn_defStar (ps := ["self"]) (k := 0) F sc_Group_product (by decide) hn (fun _ _ _ _ _ _ => ?_) fun cdv A outer s H E hr => ?_
  · intro us rest hl
    match us, hl with
    | [a0], _ => cases rest <;> rfl
  · exact (pssd_cons (psd_set (i := 2) sc_Group_product.nd (by rfl) (by first | exact Or.inl rfl | exact Or.inr rfl) (io_ni (by rfl)) pd_int) (pssd_cons (psd_for (passes_of (by rfl)) (by rfl) (pid_seq (pd_var 1)) (pgd_name sc_Group_product.nd (by rfl) (by first | exact Or.inl rfl | exact Or.inr rfl) (io_ni (by rfl))) (pssd_one (psd_set (i := 2) sc_Group_product.nd (by rfl) (by first | exact Or.inl rfl | exact Or.inr rfl) (io_ni (by rfl)) (pd_ix (pd_ix (pd_fld (pd_var 0) T.n_rows) (pd_var 2)) (pd_var 3))))) (pssd_one (psd_ret (pd_var 2)))))
theorem ok_commutator_counts {fd_commutator_counts : FuncData} (F : Fun K "commutator_counts" "commutator_counts" s_commutator_counts f_commutator_counts fd_commutator_counts) (T : Txt K mg f_is_renaming f_check_table f_Group_product f_commutator_counts f_commutator_rows f_is_associative f_Group_init f_law_numbers f_law_take f_law_shuffled f_law_group f_law_named f_law_power f_law_product f_law_alike f_law_anew f_law_drawn_kind f_law_degrees f_law_due_rows f_law_due_counts f_law_refused f_law_group_fits f_law c_Fault c_BadMerge c_BadGroup c_BadNames c_BadNumber c_Group)
    (G_Group_product_5 : FnR P w K mg base (L2.CX P w) 1 f_Group_product (spD (K, mg, io00) [] 5 (fnStar 1 fD_Group_product))) : FnOk P w K mg base (L2.CX P w) 2 f_commutator_counts fd_commutator_counts ["group"] (spD (K, mg, io00) [] (["group"] : List Str).length fD_commutator_counts) := by
  exact fn_def (k := 1) F sc_commutator_counts fun cdv A outer s H E hr => by exact (pssd_cons (psd_set (i := 1) sc_commutator_counts.nd (by rfl) (by first | exact Or.inl rfl | exact Or.inr rfl) (io_ni (by rfl)) (pd_op op_rep o_rep (pd_lst (pad_cons pd_int pad_nil)) (pd_fld (pd_var 0) T.n_order))) (pssd_cons (psd_for (passes_of (by rfl)) (by rfl) (pid_enum (by rfl) T.b_enumerate (pd_fld (pd_var 0) T.n_inverses)) (pgd_tup (by rfl) (pgsd_cons (pgd_name sc_commutator_counts.nd (by rfl) (by first | exact Or.inl rfl | exact Or.inr rfl) (io_ni (by rfl))) (pgsd_cons (pgd_name sc_commutator_counts.nd (by rfl) (by first | exact Or.inl rfl | exact Or.inr rfl) (io_ni (by rfl))) pgsd_nil))) (pssd_one (psd_for (passes_of (by rfl)) (by rfl) (pid_enum (by rfl) T.b_enumerate (pd_fld (pd_var 0) T.n_inverses)) (pgd_tup (by rfl) (pgsd_cons (pgd_name sc_commutator_counts.nd (by rfl) (by first | exact Or.inl rfl | exact Or.inr rfl) (io_ni (by rfl))) (pgsd_cons (pgd_name sc_commutator_counts.nd (by rfl) (by first | exact Or.inl rfl | exact Or.inr rfl) (io_ni (by rfl))) pgsd_nil))) (pssd_one (psd_augIx (pd_var 1) (pd_methStar (cs := [CM.bw, CM.gv, CM.gv, CM.gv, CM.gv]) (pd_var 0) T.g_Group T.cl_Group T.m_Group_product G_Group_product_5 (hr.mono (by first | decide | omega)) (takes_of (by rfl) (by rfl) (by rfl) (by rfl)) (pad_cons (pd_esc (pd_var 2)) (pad_cons (pd_esc (pd_var 4)) (pad_cons (pd_esc (pd_var 3)) (pad_cons (pd_esc (pd_var 5)) pad_nil))))) pd_int ip_add))))) (pssd_one (psd_ret (pd_callTy cr_tupleX n_tuple (by rfl) T.b_tuple PyProof.Rows.boot_tuple (pad_cons (pd_var 1) pad_nil))))))
theorem ok_commutator_rows {fd_commutator_rows : FuncData} {fd_commutator_counts : FuncData} (F : FunD K "commutator_rows" "commutator_rows" (defArgs s_commutator_rows) (defBody s_commutator_rows) (defScope s_commutator_rows) [(.int 1)] [] f_commutator_rows fd_commutator_rows) (T : Txt K mg f_is_renaming f_check_table f_Group_product f_commutator_counts f_commutator_rows f_is_associative f_Group_init f_law_numbers f_law_take f_law_shuffled f_law_group f_law_named f_law_power f_law_product f_law_alike f_law_anew f_law_drawn_kind f_law_degrees f_law_due_rows f_law_due_counts f_law_refused f_law_group_fits f_law c_Fault c_BadMerge c_BadGroup c_BadNames c_BadNumber c_Group)
    (G_commutator_counts : FnOk P w K mg base (L2.CX P w) 2 f_commutator_counts fd_commutator_counts ["group"] (spD (K, mg, io00) [] (["group"] : List Str).length fD_commutator_counts))
    (B_commutator_counts : Binds K fd_commutator_counts ["group"] []) : FnOk P w K mg base (L2.CX P w) 3 f_commutator_rows fd_commutator_rows ["group", "number"] (spD (K, mg, io00) [] (["group", "number"] : List Str).length fD_commutator_rows) := by
  exact fn_defD (k := 2) F sc_commutator_rows fun cdv A outer s H E hr => by exact (pssd_cons (psd_if (ptd_cmp op_lt o_lt (pd_var 1) pd_int (nomark _)) (pssd_one (psd_raise (by rfl) (takes_of (by rfl) (by rfl) (by rfl) (by rfl)) PySem.F.excBase_ValueError T.e_BadNumber T.g_BadNumber T.kc_BadNumber (raises_own T.s_BadNumber T.ty_BadNumber) (by rfl))) pssd_nil) (pssd_cons (psd_set (i := 2) sc_commutator_rows.nd (by rfl) (by first | exact Or.inl rfl | exact Or.inr rfl) (io_ni (by rfl)) (pd_call (cs := [CM.bw]) G_commutator_counts (hr.mono (by first | decide | omega)) (takes_of (by rfl) (by rfl) (by rfl) (by rfl)) (by rfl) T.g_commutator_counts T.k_commutator_counts B_commutator_counts .nil flats_nil (pad_cons (pd_var 0) pad_nil) rfl)) (pssd_cons (psd_set (i := 3) sc_commutator_rows.nd (by rfl) (by first | exact Or.inl rfl | exact Or.inr rfl) (io_ni (by rfl)) (pd_op op_cat o_cat (pd_lst (pad_cons pd_int pad_nil)) (pd_op op_rep o_rep (pd_lst (pad_cons pd_int pad_nil)) (pd_op op_sub o_sub (pd_fld (pd_var 0) T.n_order) pd_int)))) (pssd_cons (psd_for (passes_of (by rfl)) (by rfl) (pid_rng1 (by rfl) T.b_range (pad_cons (pd_var 1) pad_nil)) (pgd_name sc_commutator_rows.nd (by rfl) (by first | exact Or.inl rfl | exact Or.inr rfl) (io_ni (by rfl))) (pssd_cons (psd_set (i := 5) sc_commutator_rows.nd (by rfl) (by first | exact Or.inl rfl | exact Or.inr rfl) (io_ni (by rfl)) (pd_op op_rep o_rep (pd_lst (pad_cons pd_int pad_nil)) (pd_fld (pd_var 0) T.n_order))) (pssd_cons (psd_for (passes_of (by rfl)) (by rfl) (pid_enum (by rfl) T.b_enumerate (pd_var 3)) (pgd_tup (by rfl) (pgsd_cons (pgd_name sc_commutator_rows.nd (by rfl) (by first | exact Or.inl rfl | exact Or.inr rfl) (io_ni (by rfl))) (pgsd_cons (pgd_name sc_commutator_rows.nd (by rfl) (by first | exact Or.inl rfl | exact Or.inr rfl) (io_ni (by rfl))) pgsd_nil))) (pssd_one (psd_for (passes_of (by rfl)) (by rfl) (pid_enum (by rfl) T.b_enumerate (pd_var 2)) (pgd_tup (by rfl) (pgsd_cons (pgd_name sc_commutator_rows.nd (by rfl) (by first | exact Or.inl rfl | exact Or.inr rfl) (io_ni (by rfl))) (pgsd_cons (pgd_name sc_commutator_rows.nd (by rfl) (by first | exact Or.inl rfl | exact Or.inr rfl) (io_ni (by rfl))) pgsd_nil))) (pssd_one (psd_augIx (pd_var 5) (pd_ix (pd_ix (pd_fld (pd_var 0) T.n_rows) (pd_var 6)) (pd_var 8)) (pd_esc (pd_op op_mul o_mul (pd_var 7) (pd_var 9))) ip_add))))) (pssd_one (psd_set (i := 3) sc_commutator_rows.nd (by rfl) (by first | exact Or.inl rfl | exact Or.inr rfl) (io_ni (by rfl)) (pd_esc (pd_var 5))))))) (pssd_one (psd_ret (pd_ix (pd_var 3) pd_int)))))))
theorem ok_is_associative {fd_is_associative : FuncData} (F : Fun K "is_associative" "is_associative" s_is_associative f_is_associative fd_is_associative) (T : Txt K mg f_is_renaming f_check_table f_Group_product f_commutator_counts f_commutator_rows f_is_associative f_Group_init f_law_numbers f_law_take f_law_shuffled f_law_group f_law_named f_law_power f_law_product f_law_alike f_law_anew f_law_drawn_kind f_law_degrees f_law_due_rows f_law_due_counts f_law_refused f_law_group_fits f_law c_Fault c_BadMerge c_BadGroup c_BadNames c_BadNumber c_Group) : FnOk P w K mg base (L2.CX P w) 1 f_is_associative fd_is_associative ["rows"] (spD (K, mg, io00) [] (["rows"] : List Str).length fD_is_associative) := by
  exact fn_def (k := 0) F sc_is_associative fun cdv A outer s H E hr => by exact (pssd_cons (psd_for (passes_of (by rfl)) (by rfl) (pid_seq (pd_var 0)) (pgd_name sc_is_associative.nd (by rfl) (by first | exact Or.inl rfl | exact Or.inr rfl) (io_ni (by rfl))) (pssd_one (psd_for (passes_of (by rfl)) (by rfl) (pid_enum (by rfl) T.b_enumerate (pd_var 1)) (pgd_tup (by rfl) (pgsd_cons (pgd_name sc_is_associative.nd (by rfl) (by first | exact Or.inl rfl | exact Or.inr rfl) (io_ni (by rfl))) (pgsd_cons (pgd_name sc_is_associative.nd (by rfl) (by first | exact Or.inl rfl | exact Or.inr rfl) (io_ni (by rfl))) pgsd_nil))) (pssd_one (psd_if (ptd_cmp (op_neD (room_hu hr)) o_ne (pd_lc (by rfl) sc_is_associative.nd (pid_seq (pd_ix (pd_var 0) (pd_var 2))) (blkOk_by (own := [("bc", 4)]) (by rfl)) (fun _ _ _ _ _ => (pgd_name sc_is_associative.nd (by rfl) (by first | exact Or.inl rfl | exact Or.inr rfl) (io_ni (by rfl)))) (fun _ _ _ _ _ => ptsd_nil) (fun _ _ _ _ _ => (pd_ix (pd_var 1) (pd_var 4))) (by decide) (io_all (by rfl))) (pd_callTy call_list_of n_list (by rfl) T.b_list PyProof.Rows.boot_list (pad_cons (pd_ix (pd_var 0) (pd_var 3)) pad_nil)) (nomark _)) (pssd_one (psd_ret pd_bl)) pssd_nil))))) (pssd_one (psd_ret pd_bl)))
theorem ok_Group_init {fd_Group_init : FuncData} {fd_check_table : FuncData} {fd_is_associative : FuncData} (F : Fun K "__init__" "Group.__init__" s_Group_init f_Group_init fd_Group_init) (T : Txt K mg f_is_renaming f_check_table f_Group_product f_commutator_counts f_commutator_rows f_is_associative f_Group_init f_law_numbers f_law_take f_law_shuffled f_law_group f_law_named f_law_power f_law_product f_law_alike f_law_anew f_law_drawn_kind f_law_degrees f_law_due_rows f_law_due_counts f_law_refused f_law_group_fits f_law c_Fault c_BadMerge c_BadGroup c_BadNames c_BadNumber c_Group)
    (G_check_table : FnOk P w K mg base (L2.CX P w) 2 f_check_table fd_check_table ["rows"] (spD (K, mg, io00) [] (["rows"] : List Str).length fD_check_table))
    (B_check_table : Binds K fd_check_table ["rows"] [])
    (G_is_associative : FnOk P w K mg base (L2.CX P w) 1 f_is_associative fd_is_associative ["rows"] (spD (K, mg, io00) [] (["rows"] : List Str).length fD_is_associative))
    (B_is_associative : Binds K fd_is_associative ["rows"] []) : FnOk P w K mg base (L2.CX P w) 3 f_Group_init fd_Group_init ["self", "rows"] (spD (K, mg, io00) [0] (["self", "rows"] : List Str).length fD_Group_init) := by
  exact fn_def (k := 2) F sc_Group_init fun cdv A outer s H E hr => by exact (pssd_cons (psd_set (i := 2) sc_Group_init.nd (by rfl) (by first | exact Or.inl rfl | exact Or.inr rfl) (io_ni (by rfl)) (pd_callTy cr_tupleX n_tuple (by rfl) T.b_tuple PyProof.Rows.boot_tuple (pad_cons (pd_lc (by rfl) sc_Group_init.nd (pid_seq (pd_var 1)) (blkOk_by (own := [("row", 4)]) (by rfl)) (fun _ _ _ _ _ => (pgd_name sc_Group_init.nd (by rfl) (by first | exact Or.inl rfl | exact Or.inr rfl) (io_ni (by rfl)))) (fun _ _ _ _ _ => ptsd_nil) (fun _ _ _ _ _ => (pd_callTy cr_tupleX n_tuple (by rfl) T.b_tuple PyProof.Rows.boot_tuple (pad_cons (pd_var 4) pad_nil))) (by decide) (io_all (by rfl))) pad_nil))) (pssd_cons (psd_thru (pssd_one (psd_expr (pd_call (cs := [CM.bw]) G_check_table (hr.mono (by first | decide | omega)) takes0 (by rfl) T.g_check_table T.k_check_table B_check_table .nil flats_nil (pad_cons (pd_var 2) pad_nil) rfl)))) (pssd_cons (psd_set (i := 3) sc_Group_init.nd (by rfl) (by first | exact Or.inl rfl | exact Or.inr rfl) (io_ni (by rfl)) (pd_tupRg1 (by rfl) (by rfl) T.b_tuple (by rfl) T.b_range (pd_callB call_len_seq n_len (by rfl) T.b_len PySem.boot_len (pad_cons (pd_var 2) pad_nil)))) (pssd_cons (psd_if (pwd_or (ptd_cmp (op_neD (room_hu hr)) o_ne (pd_ix (pd_var 2) pd_int) (pd_var 3) (nomark _)) (pwd_or1 (ptd_cmp (op_neD (room_hu hr)) o_ne (pd_callTy cr_tupleX n_tuple (by rfl) T.b_tuple PyProof.Rows.boot_tuple (pad_cons (pd_lc (by rfl) sc_Group_init.nd (pid_seq (pd_var 2)) (blkOk_by (own := [("row", 4)]) (by rfl)) (fun _ _ _ _ _ => (pgd_name sc_Group_init.nd (by rfl) (by first | exact Or.inl rfl | exact Or.inr rfl) (io_ni (by rfl)))) (fun _ _ _ _ _ => ptsd_nil) (fun _ _ _ _ _ => (pd_ix (pd_var 4) pd_int)) (by decide) (io_all (by rfl))) pad_nil)) (pd_var 3) (nomark _)))).pt (pssd_one (psd_raise (by rfl) (takes_of (by rfl) (by rfl) (by rfl) (by rfl)) PySem.F.excBase_ValueError T.e_BadGroup T.g_BadGroup T.kc_BadGroup (raises_own T.s_BadGroup T.ty_BadGroup) (by rfl))) pssd_nil) (pssd_cons (psd_if (ptd_not (ptd_val (pd_call (cs := [CM.bw]) G_is_associative (hr.mono (by first | decide | omega)) (takes_of (by rfl) (by rfl) (by rfl) (by rfl)) (by rfl) T.g_is_associative T.k_is_associative B_is_associative .nil flats_nil (pad_cons (pd_var 2) pad_nil) rfl))) (pssd_one (psd_raise (by rfl) (takes_of (by rfl) (by rfl) (by rfl) (by rfl)) PySem.F.excBase_ValueError T.e_BadGroup T.g_BadGroup T.kc_BadGroup (raises_own T.s_BadGroup T.ty_BadGroup) (by rfl))) pssd_nil) (pssd_cons (psd_setF (pd_var 0) (pd_esc (pd_var 2)) T.n_rows) (pssd_cons (psd_setF (pd_var 0) (pd_esc (pd_callB call_len_seq n_len (by rfl) T.b_len PySem.boot_len (pad_cons (pd_var 2) pad_nil))) T.n_order) (pssd_cons (psd_setF (pd_var 0) (pd_esc (pd_callTy cr_tupleX n_tuple (by rfl) T.b_tuple PyProof.Rows.boot_tuple (pad_cons (pd_lc (by rfl) sc_Group_init.nd (pid_seq (pd_var 2)) (blkOk_by (own := [("row", 4)]) (by rfl)) (fun _ _ _ _ _ => (pgd_name sc_Group_init.nd (by rfl) (by first | exact Or.inl rfl | exact Or.inr rfl) (io_ni (by rfl)))) (fun _ _ _ _ _ => ptsd_nil) (fun _ _ _ _ _ => (pd_bmT PySem.F.slot_tuple_index PySem.F.type_tuple_index mt_indexT m_indexT (pd_var 4) (pad_cons pd_int pad_nil))) (by decide) (io_all (by rfl))) pad_nil))) T.n_inverses) (pssd_one (psd_setF (pd_var 0) (pd_esc (pd_notT (pd_lc2 (vs1 := [6]) (by rfl) sc_Group_init.nd (pid_seq (pd_var 3)) (blkOk_by (own := [("a", 5), ("b", 6)]) (by rfl)) (fun _ _ _ _ _ => (pgd_name sc_Group_init.nd (by rfl) (by first | exact Or.inl rfl | exact Or.inr rfl) (io_ni (by rfl)))) (fun _ _ _ _ _ => ptsd_nil) (fun _ _ _ _ _ => (pid_seq (pd_var 3))) (fun _ _ _ _ _ => (pgd_name sc_Group_init.nd (by rfl) (by first | exact Or.inl rfl | exact Or.inr rfl) (io_ni (by rfl)))) (fun _ _ _ _ _ => (ptsd_one (ptd_cmp (op_neD (room_hu hr)) o_ne (pd_ix (pd_ix (pd_var 2) (pd_var 5)) (pd_var 6)) (pd_ix (pd_ix (pd_var 2) (pd_var 6)) (pd_var 5)) (nomark _)))) (fun _ _ _ _ _ => (pd_var 5)) (by decide) (by decide) (by decide) (io_all (by rfl))))) T.n_commutative))))))))))
theorem ok_law_numbers {fd_law_numbers : FuncData} (F : Fun K "_law_numbers" "_law_numbers" s_law_numbers f_law_numbers fd_law_numbers) (T : Txt K mg f_is_renaming f_check_table f_Group_product f_commutator_counts f_commutator_rows f_is_associative f_Group_init f_law_numbers f_law_take f_law_shuffled f_law_group f_law_named f_law_power f_law_product f_law_alike f_law_anew f_law_drawn_kind f_law_degrees f_law_due_rows f_law_due_counts f_law_refused f_law_group_fits f_law c_Fault c_BadMerge c_BadGroup c_BadNames c_BadNumber c_Group) : FnOk P w K mg base (L2.CX P w) 1 f_law_numbers fd_law_numbers ["script", "many"] (spD (K, mg, io00) [] (["script", "many"] : List Str).length fD_law_numbers) := by
  exact fn_def (k := 0) F sc_law_numbers fun cdv A outer s H E hr => by exact (pssd_cons (psd_set (i := 2) sc_law_numbers.nd (by rfl) (by first | exact Or.inl rfl | exact Or.inr rfl) (io_ni (by rfl)) (pd_lst pad_nil)) (pssd_cons (psd_set (i := 3) sc_law_numbers.nd (by rfl) (by first | exact Or.inl rfl | exact Or.inr rfl) (io_ni (by rfl)) (pd_op op_add o_add pd_int (pd_callB call_len_seq n_len (by rfl) T.b_len PySem.boot_len (pad_cons (pd_var 0) pad_nil)))) (pssd_cons (psd_for (passes_of (by rfl)) (by rfl) (pid_rng1 (by rfl) T.b_range (pad_cons (pd_var 1) pad_nil)) (pgd_name sc_law_numbers.nd (by rfl) (by first | exact Or.inl rfl | exact Or.inr rfl) (io_ni (by rfl))) (pssd_cons (psd_set (i := 5) sc_law_numbers.nd (by rfl) (by first | exact Or.inl rfl | exact Or.inr rfl) (io_ni (by rfl)) pd_int) (pssd_cons (psd_if (ptd_cmp op_gt o_gt (pd_callB call_len_seq n_len (by rfl) T.b_len PySem.boot_len (pad_cons (pd_var 0) pad_nil)) pd_int (nomark _)) (pssd_one (psd_set (i := 5) sc_law_numbers.nd (by rfl) (by first | exact Or.inl rfl | exact Or.inr rfl) (io_ni (by rfl)) (pd_callTy call_int1 n_int (by rfl) T.b_int PyProof.Rows.boot_int (pad_cons (pd_ix (pd_var 0) (pd_op op_mod o_mod (pd_callTy call_int1 n_int (by rfl) T.b_int PyProof.Rows.boot_int (pad_cons (pd_var 4) pad_nil)) (pd_callB call_len_seq n_len (by rfl) T.b_len PySem.boot_len (pad_cons (pd_var 0) pad_nil)))) pad_nil)))) pssd_nil) (pssd_cons (psd_set (i := 3) sc_law_numbers.nd (by rfl) (by first | exact Or.inl rfl | exact Or.inr rfl) (io_ni (by rfl)) (pd_op op_mod o_mod (pd_callTy call_int1 n_int (by rfl) T.b_int PyProof.Rows.boot_int (pad_cons (pd_op op_add o_add (pd_op op_add o_add (pd_op op_add o_add (pd_op op_mul o_mul (pd_var 3) pd_int) (pd_var 5)) (pd_op op_mul o_mul pd_int (pd_var 4))) pd_int) pad_nil)) pd_int)) (pssd_one (psd_expr (pd_bm PySem.F.slot_list_append PySem.F.type_list_append mt_append m_append (pd_var 2) (pad_cons (pd_mv (pd_op op_fdiv o_div (pd_callTy call_int1 n_int (by rfl) T.b_int PyProof.Rows.boot_int (pad_cons (pd_var 3) pad_nil)) pd_int)) pad_nil)))))))) (pssd_cons (psd_set (i := 6) sc_law_numbers.nd (by rfl) (by first | exact Or.inl rfl | exact Or.inr rfl) (io_ni (by rfl)) (pd_lst pad_nil)) (pssd_cons (psd_for (passes_of (by rfl)) (by rfl) (pid_seq (pd_var 0)) (pgd_name sc_law_numbers.nd (by rfl) (by first | exact Or.inl rfl | exact Or.inr rfl) (io_ni (by rfl))) (pssd_cons (psd_set (i := 7) sc_law_numbers.nd (by rfl) (by first | exact Or.inl rfl | exact Or.inr rfl) (io_ni (by rfl)) (pd_callB call_abs n_abs (by rfl) T.b_abs (by decide +kernel) (pad_cons (pd_callTy call_int1 n_int (by rfl) T.b_int PyProof.Rows.boot_int (pad_cons (pd_var 5) pad_nil)) pad_nil))) (pssd_one (psd_if (ptd_cmp op_ge o_ge (pd_var 7) (pd_op op_pow o_pow pd_int pd_int) (nomark _)) (pssd_one (psd_for (passes_of (by rfl)) (by rfl) (pid_rng1 (by rfl) T.b_range (pad_cons pd_int pad_nil)) (pgd_name sc_law_numbers.nd (by rfl) (by first | exact Or.inl rfl | exact Or.inr rfl) (io_ni (by rfl))) (pssd_one (psd_if (ptd_cmp op_gt o_gt (pd_var 7) pd_int (nomark _)) (pssd_cons (psd_expr (pd_bm PySem.F.slot_list_append PySem.F.type_list_append mt_append m_append (pd_var 6) (pad_cons (pd_mv (pd_op op_mod o_mod (pd_callTy call_int1 n_int (by rfl) T.b_int PyProof.Rows.boot_int (pad_cons (pd_var 7) pad_nil)) pd_int)) pad_nil))) (pssd_one (psd_set (i := 7) sc_law_numbers.nd (by rfl) (by first | exact Or.inl rfl | exact Or.inr rfl) (io_ni (by rfl)) (pd_op op_fdiv o_div (pd_var 7) pd_int)))) pssd_nil)))) pssd_nil)))) (pssd_one (psd_ret (pd_op op_cat o_cat (pd_var 2) (pd_lc (by rfl) sc_law_numbers.nd (pid_rng1 (by rfl) T.b_range (pad_cons (pd_callB call_len_seq n_len (by rfl) T.b_len PySem.boot_len (pad_cons (pd_var 6) pad_nil)) pad_nil)) (blkOk_by (own := [("k", 4)]) (by rfl)) (fun _ _ _ _ _ => (pgd_name sc_law_numbers.nd (by rfl) (by first | exact Or.inl rfl | exact Or.inr rfl) (io_ni (by rfl)))) (fun _ _ _ _ _ => ptsd_nil) (fun _ _ _ _ _ => (pd_ix (pd_var 6) (pd_op op_sub o_sub (pd_op op_sub o_sub (pd_callB call_len_seq n_len (by rfl) T.b_len PySem.boot_len (pad_cons (pd_var 6) pad_nil)) pd_int) (pd_var 4)))) (by decide) (io_all (by rfl)))))))))))
theorem ok_law_take {fd_law_take : FuncData} (F : Fun K "_law_take" "_law_take" s_law_take f_law_take fd_law_take) (T : Txt K mg f_is_renaming f_check_table f_Group_product f_commutator_counts f_commutator_rows f_is_associative f_Group_init f_law_numbers f_law_take f_law_shuffled f_law_group f_law_named f_law_power f_law_product f_law_alike f_law_anew f_law_drawn_kind f_law_degrees f_law_due_rows f_law_due_counts f_law_refused f_law_group_fits f_law c_Fault c_BadMerge c_BadGroup c_BadNames c_BadNumber c_Group) : FnOk P w K mg base (L2.CX P w) 1 f_law_take fd_law_take ["numbers", "many"] (spD (K, mg, io00) [0] (["numbers", "many"] : List Str).length fD_law_take) := by
  exact fn_def (k := 0) F sc_law_take fun cdv A outer s H E hr => by exact (pssd_cons (psd_if (ptd_cmp (op_eqD (room_hu hr)) o_eq (pd_callB call_len_seq n_len (by rfl) T.b_len PySem.boot_len (pad_cons (pd_var 0) pad_nil)) pd_int (nomark _)) (pssd_one (psd_ret pd_int)) pssd_nil) (pssd_one (psd_ret (pd_op op_mod o_mod (pd_callTy call_int1 n_int (by rfl) T.b_int PyProof.Rows.boot_int (pad_cons (pd_bm0 PySem.F.slot_list_pop PySem.F.type_list_pop mt_pop m_pop (pd_var 0)) pad_nil)) (pd_var 1)))))
theorem ok_law_shuffled {fd_law_shuffled : FuncData} {fd_law_take : FuncData} (F : Fun K "_law_shuffled" "_law_shuffled" s_law_shuffled f_law_shuffled fd_law_shuffled) (T : Txt K mg f_is_renaming f_check_table f_Group_product f_commutator_counts f_commutator_rows f_is_associative f_Group_init f_law_numbers f_law_take f_law_shuffled f_law_group f_law_named f_law_power f_law_product f_law_alike f_law_anew f_law_drawn_kind f_law_degrees f_law_due_rows f_law_due_counts f_law_refused f_law_group_fits f_law c_Fault c_BadMerge c_BadGroup c_BadNames c_BadNumber c_Group)
    (G_law_take : FnOk P w K mg base (L2.CX P w) 1 f_law_take fd_law_take ["numbers", "many"] (spD (K, mg, io00) [0] (["numbers", "many"] : List Str).length fD_law_take))
    (B_law_take : Binds K fd_law_take ["numbers", "many"] []) : FnOk P w K mg base (L2.CX P w) 2 f_law_shuffled fd_law_shuffled ["numbers", "many"] (spD (K, mg, io00) [0] (["numbers", "many"] : List Str).length fD_law_shuffled) := by
  exact fn_def (k := 1) F sc_law_shuffled fun cdv A outer s H E hr => by exact (pssd_cons (psd_set (i := 2) sc_law_shuffled.nd (by rfl) (by first | exact Or.inl rfl | exact Or.inr rfl) (io_ni (by rfl)) (pd_listRg1 (by rfl) (by rfl) T.b_list (by rfl) T.b_range (pd_var 1))) (pssd_cons (psd_set (i := 3) sc_law_shuffled.nd (by rfl) (by first | exact Or.inl rfl | exact Or.inr rfl) (io_ni (by rfl)) (pd_lst pad_nil)) (pssd_cons (psd_for (passes_of (by rfl)) (by rfl) (pid_rng1 (by rfl) T.b_range (pad_cons (pd_var 1) pad_nil)) (pgd_name sc_law_shuffled.nd (by rfl) (by first | exact Or.inl rfl | exact Or.inr rfl) (io_ni (by rfl))) (pssd_one (psd_expr (pd_bm PySem.F.slot_list_append PySem.F.type_list_append mt_append m_append (pd_var 3) (pad_cons (pd_mv (pd_bm PySem.F.slot_list_pop PySem.F.type_list_pop mt_popAt m_popAt (pd_var 2) (pad_cons (pd_call (cs := [CM.io, CM.bw]) G_law_take (hr.mono (by first | decide | omega)) (takes_of (by rfl) (by rfl) (by rfl) (by rfl)) (by rfl) T.g_law_take T.k_law_take B_law_take .nil flats_nil (pad_cons (pd_var 0) (pad_cons (pd_callB call_len_seq n_len (by rfl) T.b_len PySem.boot_len (pad_cons (pd_var 2) pad_nil)) pad_nil)) rfl) pad_nil))) pad_nil))))) (pssd_one (psd_ret (pd_var 3))))))
theorem ok_law_group {fd_law_group : FuncData} (F : Fun K "_law_group" "_law_group" s_law_group f_law_group fd_law_group) (T : Txt K mg f_is_renaming f_check_table f_Group_product f_commutator_counts f_commutator_rows f_is_associative f_Group_init f_law_numbers f_law_take f_law_shuffled f_law_group f_law_named f_law_power f_law_product f_law_alike f_law_anew f_law_drawn_kind f_law_degrees f_law_due_rows f_law_due_counts f_law_refused f_law_group_fits f_law c_Fault c_BadMerge c_BadGroup c_BadNames c_BadNumber c_Group) : FnOk P w K mg base (L2.CX P w) 1 f_law_group fd_law_group ["kind"] (spD (K, mg, io00) [] (["kind"] : List Str).length fD_law_group) := by
  exact fn_def (k := 0) F sc_law_group fun cdv A outer s H E hr => by exact (pssd_cons (psd_if (ptd_cmp op_lt o_lt (pd_var 0) pd_int (nomark _)) (pssd_one (psd_ret (pd_lc (by rfl) sc_law_group.nd (pid_rng1 (by rfl) T.b_range (pad_cons (pd_op op_add o_add (pd_var 0) pd_int) pad_nil)) (blkOk_by (own := [("a", 3)]) (by rfl)) (fun _ _ _ _ _ => (pgd_name sc_law_group.nd (by rfl) (by first | exact Or.inl rfl | exact Or.inr rfl) (io_ni (by rfl)))) (fun _ _ _ _ _ => ptsd_nil) (fun _ _ _ _ _ => (pd_lc (by rfl) sc_law_group.nd (pid_rng1 (by rfl) T.b_range (pad_cons (pd_op op_add o_add (pd_var 0) pd_int) pad_nil)) (blkOk_by (own := [("b", 5)]) (by rfl)) (fun _ _ _ _ _ => (pgd_name sc_law_group.nd (by rfl) (by first | exact Or.inl rfl | exact Or.inr rfl) (io_ni (by rfl)))) (fun _ _ _ _ _ => ptsd_nil) (fun _ _ _ _ _ => (pd_op op_mod o_mod (pd_callTy call_int1 n_int (by rfl) T.b_int PyProof.Rows.boot_int (pad_cons (pd_op op_add o_add (pd_var 3) (pd_var 5)) pad_nil)) (pd_op op_add o_add (pd_var 0) pd_int))) (by decide) (io_all (by rfl)))) (by decide) (io_all (by rfl))))) pssd_nil) (pssd_cons (psd_set (i := 1) sc_law_group.nd (by rfl) (by first | exact Or.inl rfl | exact Or.inr rfl) (io_ni (by rfl)) (pd_ix (pd_lst (pad_cons pd_int (pad_cons pd_int (pad_cons pd_int (pad_cons pd_int (pad_cons pd_int (pad_cons pd_int pad_nil))))))) (pd_op op_sub o_sub (pd_var 0) pd_int))) (pssd_cons (psd_set (i := 2) sc_law_group.nd (by rfl) (by first | exact Or.inl rfl | exact Or.inr rfl) (io_ni (by rfl)) (pd_lst pad_nil)) (pssd_cons (psd_for (passes_of (by rfl)) (by rfl) (pid_rng1 (by rfl) T.b_range (pad_cons (pd_op op_mul o_mul pd_int (pd_var 1)) pad_nil)) (pgd_name sc_law_group.nd (by rfl) (by first | exact Or.inl rfl | exact Or.inr rfl) (io_ni (by rfl))) (pssd_cons (psd_set (i := 4) sc_law_group.nd (by rfl) (by first | exact Or.inl rfl | exact Or.inr rfl) (io_ni (by rfl)) (pd_lst pad_nil)) (pssd_cons (psd_for (passes_of (by rfl)) (by rfl) (pid_rng1 (by rfl) T.b_range (pad_cons (pd_op op_mul o_mul pd_int (pd_var 1)) pad_nil)) (pgd_name sc_law_group.nd (by rfl) (by first | exact Or.inl rfl | exact Or.inr rfl) (io_ni (by rfl))) (pssd_cons (psd_set (i := 6) sc_law_group.nd (by rfl) (by first | exact Or.inl rfl | exact Or.inr rfl) (io_ni (by rfl)) (pd_op op_add o_add (pd_op op_fdiv o_div (pd_var 3) (pd_var 1)) (pd_op op_fdiv o_div (pd_var 5) (pd_var 1)))) (pssd_cons (psd_set (i := 7) sc_law_group.nd (by rfl) (by first | exact Or.inl rfl | exact Or.inr rfl) (io_ni (by rfl)) (pd_op op_add o_add (pd_op op_mod o_mod (pd_callTy call_int1 n_int (by rfl) T.b_int PyProof.Rows.boot_int (pad_cons (pd_var 3) pad_nil)) (pd_var 1)) (pd_op op_mod o_mod (pd_callTy call_int1 n_int (by rfl) T.b_int PyProof.Rows.boot_int (pad_cons (pd_var 5) pad_nil)) (pd_var 1)))) (pssd_cons (psd_if (pwd_and (ptd_cmp op_in_seq (o_in false) (pd_var 0) (pd_tup (pad_cons pd_int (pad_cons pd_int (pad_cons pd_int pad_nil)))) rfl) (pwd_and1 (ptd_cmp (op_eqD (room_hu hr)) o_eq (pd_op op_fdiv o_div (pd_var 3) (pd_var 1)) pd_int (nomark _)))).pt (pssd_one (psd_set (i := 7) sc_law_group.nd (by rfl) (by first | exact Or.inl rfl | exact Or.inr rfl) (io_ni (by rfl)) (pd_op op_sub o_sub (pd_op op_mod o_mod (pd_callTy call_int1 n_int (by rfl) T.b_int PyProof.Rows.boot_int (pad_cons (pd_var 3) pad_nil)) (pd_var 1)) (pd_op op_mod o_mod (pd_callTy call_int1 n_int (by rfl) T.b_int PyProof.Rows.boot_int (pad_cons (pd_var 5) pad_nil)) (pd_var 1))))) pssd_nil) (pssd_cons (psd_if (pwd_and (ptd_cmp (op_eqD (room_hu hr)) o_eq (pd_var 0) pd_int (nomark _)) (pwd_and1 (ptd_cmp (op_eqD (room_hu hr)) o_eq (pd_var 6) pd_int (nomark _)))).pt (pssd_one (psd_set (i := 7) sc_law_group.nd (by rfl) (by first | exact Or.inl rfl | exact Or.inr rfl) (io_ni (by rfl)) (pd_op op_add o_add (pd_var 7) pd_int))) pssd_nil) (pssd_cons (psd_if (ptd_cmp (op_eqD (room_hu hr)) o_eq (pd_var 0) pd_int (nomark _)) (pssd_one (psd_set (i := 7) sc_law_group.nd (by rfl) (by first | exact Or.inl rfl | exact Or.inr rfl) (io_ni (by rfl)) (pd_op op_add o_add (pd_op op_mod o_mod (pd_callTy call_int1 n_int (by rfl) T.b_int PyProof.Rows.boot_int (pad_cons (pd_op op_add o_add (pd_var 3) (pd_var 5)) pad_nil)) pd_int) (pd_op op_mul o_mul pd_int (pd_op op_mod o_mod (pd_callTy call_int1 n_int (by rfl) T.b_int PyProof.Rows.boot_int (pad_cons (pd_op op_add o_add (pd_op op_fdiv o_div (pd_var 3) pd_int) (pd_op op_fdiv o_div (pd_var 5) pd_int)) pad_nil)) pd_int))))) pssd_nil) (pssd_one (psd_expr (pd_bm PySem.F.slot_list_append PySem.F.type_list_append mt_append m_append (pd_var 4) (pad_cons (pd_mv (pd_op op_add o_add (pd_op op_mod o_mod (pd_callTy call_int1 n_int (by rfl) T.b_int PyProof.Rows.boot_int (pad_cons (pd_var 7) pad_nil)) (pd_var 1)) (pd_op op_mul o_mul (pd_var 1) (pd_op op_mod o_mod (pd_callTy call_int1 n_int (by rfl) T.b_int PyProof.Rows.boot_int (pad_cons (pd_var 6) pad_nil)) pd_int)))) pad_nil)))))))))) (pssd_one (psd_expr (pd_bm PySem.F.slot_list_append PySem.F.type_list_append mt_append m_append (pd_var 2) (pad_cons (pd_mv (pd_var 4)) pad_nil))))))) (pssd_one (psd_ret (pd_var 2)))))))
theorem ok_law_named {fd_law_named : FuncData} (F : Fun K "_law_named" "_law_named" s_law_named f_law_named fd_law_named) (T : Txt K mg f_is_renaming f_check_table f_Group_product f_commutator_counts f_commutator_rows f_is_associative f_Group_init f_law_numbers f_law_take f_law_shuffled f_law_group f_law_named f_law_power f_law_product f_law_alike f_law_anew f_law_drawn_kind f_law_degrees f_law_due_rows f_law_due_counts f_law_refused f_law_group_fits f_law c_Fault c_BadMerge c_BadGroup c_BadNames c_BadNumber c_Group) : FnOk P w K mg base (L2.CX P w) 1 f_law_named fd_law_named ["rows", "names"] (spD (K, mg, io00) [] (["rows", "names"] : List Str).length fD_law_named) := by
  exact fn_def (k := 0) F sc_law_named fun cdv A outer s H E hr => by exact (pssd_cons (psd_setLc (by rfl) sc_law_named.nd (i := 2) (by rfl) (by rfl) (io_ni (by rfl)) (sw_true (by rfl) (by rfl) (by rfl) (by rfl)) (pid_seq (pd_var 0)) (blkOk_by (own := [("a", 3)]) (by rfl)) (fun _ _ _ _ _ => (pgd_name sc_law_named.nd (by rfl) (by first | exact Or.inl rfl | exact Or.inr rfl) (io_ni (by rfl)))) (fun _ _ _ _ _ => ptsd_nil) (fun _ _ _ _ _ => (pd_lc (by rfl) sc_law_named.nd (pid_seq (pd_var 0)) (blkOk_by (own := [("b", 5)]) (by rfl)) (fun _ _ _ _ _ => (pgd_name sc_law_named.nd (by rfl) (by first | exact Or.inl rfl | exact Or.inr rfl) (io_ni (by rfl)))) (fun _ _ _ _ _ => ptsd_nil) (fun _ _ _ _ _ => pd_int) (by decide) (io_all (by rfl)))) (by decide) (io_all (by rfl))) (pssd_cons (psd_for (passes_of (by rfl)) (by rfl) (pid_rng1 (by rfl) T.b_range (pad_cons (pd_callB call_len_seq n_len (by rfl) T.b_len PySem.boot_len (pad_cons (pd_var 0) pad_nil)) pad_nil)) (pgd_name sc_law_named.nd (by rfl) (by first | exact Or.inl rfl | exact Or.inr rfl) (io_ni (by rfl))) (pssd_cons (psd_set (i := 4) sc_law_named.nd (by rfl) (by first | exact Or.inl rfl | exact Or.inr rfl) (io_ni (by rfl)) (pd_ix (pd_var 2) (pd_ix (pd_var 1) (pd_var 3)))) (pssd_one (psd_for (passes_of (by rfl)) (by rfl) (pid_rng1 (by rfl) T.b_range (pad_cons (pd_callB call_len_seq n_len (by rfl) T.b_len PySem.boot_len (pad_cons (pd_var 0) pad_nil)) pad_nil)) (pgd_name sc_law_named.nd (by rfl) (by first | exact Or.inl rfl | exact Or.inr rfl) (io_ni (by rfl))) (pssd_one (psd_setIx (pd_esc (pd_ix (pd_var 1) (pd_ix (pd_ix (pd_var 0) (pd_var 3)) (pd_var 5)))) (pd_var 4) (pd_ix (pd_var 1) (pd_var 5)))))))) (pssd_one (psd_ret (pd_var 2)))))
theorem ok_law_power {fd_law_power : FuncData} (F : Fun K "_law_power" "_law_power" s_law_power f_law_power fd_law_power) (T : Txt K mg f_is_renaming f_check_table f_Group_product f_commutator_counts f_commutator_rows f_is_associative f_Group_init f_law_numbers f_law_take f_law_shuffled f_law_group f_law_named f_law_power f_law_product f_law_alike f_law_anew f_law_drawn_kind f_law_degrees f_law_due_rows f_law_due_counts f_law_refused f_law_group_fits f_law c_Fault c_BadMerge c_BadGroup c_BadNames c_BadNumber c_Group) : FnOk P w K mg base (L2.CX P w) 1 f_law_power fd_law_power ["base", "many"] (spD (K, mg, io00) [] (["base", "many"] : List Str).length fD_law_power) := by
  exact fn_def (k := 0) F sc_law_power fun cdv A outer s H E hr => by exact (pssd_cons (psd_set (i := 2) sc_law_power.nd (by rfl) (by first | exact Or.inl rfl | exact Or.inr rfl) (io_ni (by rfl)) pd_int) (pssd_cons (psd_for (passes_of (by rfl)) (by rfl) (pid_rng1 (by rfl) T.b_range (pad_cons (pd_var 1) pad_nil)) (pgd_name sc_law_power.nd (by rfl) (by first | exact Or.inl rfl | exact Or.inr rfl) (io_ni (by rfl))) (pssd_one (psd_set (i := 2) sc_law_power.nd (by rfl) (by first | exact Or.inl rfl | exact Or.inr rfl) (io_ni (by rfl)) (pd_op op_mul o_mul (pd_var 2) (pd_var 0))))) (pssd_one (psd_ret (pd_var 2)))))
theorem ok_law_product {fd_law_product : FuncData} (F : Fun K "_law_product" "_law_product" s_law_product f_law_product fd_law_product) (T : Txt K mg f_is_renaming f_check_table f_Group_product f_commutator_counts f_commutator_rows f_is_associative f_Group_init f_law_numbers f_law_take f_law_shuffled f_law_group f_law_named f_law_power f_law_product f_law_alike f_law_anew f_law_drawn_kind f_law_degrees f_law_due_rows f_law_due_counts f_law_refused f_law_group_fits f_law c_Fault c_BadMerge c_BadGroup c_BadNames c_BadNumber c_Group) : FnOk P w K mg base (L2.CX P w) 1 f_law_product fd_law_product ["rows", "things"] (spD (K, mg, io00) [] (["rows", "things"] : List Str).length fD_law_product) := by
  exact fn_def (k := 0) F sc_law_product fun cdv A outer s H E hr => by exact (pssd_cons (psd_set (i := 2) sc_law_product.nd (by rfl) (by first | exact Or.inl rfl | exact Or.inr rfl) (io_ni (by rfl)) pd_int) (pssd_cons (psd_for (passes_of (by rfl)) (by rfl) (pid_seq (pd_var 1)) (pgd_name sc_law_product.nd (by rfl) (by first | exact Or.inl rfl | exact Or.inr rfl) (io_ni (by rfl))) (pssd_one (psd_set (i := 2) sc_law_product.nd (by rfl) (by first | exact Or.inl rfl | exact Or.inr rfl) (io_ni (by rfl)) (pd_ix (pd_ix (pd_var 0) (pd_var 2)) (pd_var 3))))) (pssd_one (psd_ret (pd_var 2)))))
theorem ok_law_alike {fd_law_alike : FuncData} (F : Fun K "_law_alike" "_law_alike" s_law_alike f_law_alike fd_law_alike) (T : Txt K mg f_is_renaming f_check_table f_Group_product f_commutator_counts f_commutator_rows f_is_associative f_Group_init f_law_numbers f_law_take f_law_shuffled f_law_group f_law_named f_law_power f_law_product f_law_alike f_law_anew f_law_drawn_kind f_law_degrees f_law_due_rows f_law_due_counts f_law_refused f_law_group_fits f_law c_Fault c_BadMerge c_BadGroup c_BadNames c_BadNumber c_Group)
    (B_law_alike : Binds K fd_law_alike ["found", "due"] []) : ∀ n, FnOk P w K mg base (L2.CX P w) (n + 1) f_law_alike fd_law_alike ["found", "due"] (spD (K, mg, io00) [] (["found", "due"] : List Str).length (fD_law_alike n))
  | 0 => fn_none
  | n + 1 => by
    have G_law_alike := ok_law_alike F T B_law_alike n
    exact fn_def (k := n + 1) F sc_law_alike fun cdv A outer s H E hr => by exact (pssd_cons (psd_if (ptd_cmp op_isN o_isN (pd_var 1) pd_non (nomark _)) (pssd_one (psd_ret (pd_cmp op_isN o_isN (pd_var 0) pd_non (nomark _)))) pssd_nil) (pssd_cons (psd_if (ptd_val (pd_isi (T := "list") isi_list (pd_var 1) (by rfl) T.b_isinstance (by rfl) T.b_list PyProof.Rows.boot_list (hv := PyProof.Rows.boot_isinstance))) (pssd_cons (psd_if (pwd_or (ptd_not (ptd_val (pd_isi (T := "tuple") isi_tuple (pd_var 0) (by rfl) T.b_isinstance (by rfl) T.b_tuple PyProof.Rows.boot_tuple (hv := PyProof.Rows.boot_isinstance)))) (pwd_or1 (ptd_cmp (op_neD (room_hu hr)) o_ne (pd_callB call_len_seq n_len (by rfl) T.b_len PySem.boot_len (pad_cons (pd_var 0) pad_nil)) (pd_callB call_len_seq n_len (by rfl) T.b_len PySem.boot_len (pad_cons (pd_var 1) pad_nil)) (nomark _)))).pt (pssd_one (psd_ret pd_bl)) pssd_nil) (pssd_cons (psd_for (passes_of (by rfl)) (by rfl) (pid_rng1 (by rfl) T.b_range (pad_cons (pd_callB call_len_seq n_len (by rfl) T.b_len PySem.boot_len (pad_cons (pd_var 1) pad_nil)) pad_nil)) (pgd_name sc_law_alike.nd (by rfl) (by first | exact Or.inl rfl | exact Or.inr rfl) (io_ni (by rfl))) (pssd_one (psd_if (ptd_not (ptd_val (pd_call (cs := [CM.bw, CM.bw]) G_law_alike (hr.mono (by first | decide | omega)) (takes_of (by rfl) (by rfl) (by rfl) (by rfl)) (by rfl) T.g_law_alike T.k_law_alike B_law_alike .nil flats_nil (pad_cons (pd_ix (pd_var 0) (pd_var 2)) (pad_cons (pd_ix (pd_var 1) (pd_var 2)) pad_nil)) rfl))) (pssd_one (psd_ret pd_bl)) pssd_nil))) (pssd_one (psd_ret pd_bl)))) pssd_nil) (pssd_one (psd_ret (pd_and (pd_isi (T := "int") isi_int (pd_var 0) (by rfl) T.b_isinstance (by rfl) T.b_int PyProof.Rows.boot_int (hv := PyProof.Rows.boot_isinstance)) (pd_and (pd_not (pd_isi (T := "bool") isi_bool (pd_var 0) (by rfl) T.b_isinstance (by rfl) T.b_bool (by decide +kernel) (hv := PyProof.Rows.boot_isinstance))) (pd_one (pd_cmp (op_eqD (room_hu hr)) o_eq (pd_var 0) (pd_var 1) (nomark _)))))))))
theorem ok_law_anew {fd_law_anew : FuncData} {fd_law_group : FuncData} {fd_law_named : FuncData} {fd_law_shuffled : FuncData} (F : Fun K "_law_anew" "_law_anew" s_law_anew f_law_anew fd_law_anew) (T : Txt K mg f_is_renaming f_check_table f_Group_product f_commutator_counts f_commutator_rows f_is_associative f_Group_init f_law_numbers f_law_take f_law_shuffled f_law_group f_law_named f_law_power f_law_product f_law_alike f_law_anew f_law_drawn_kind f_law_degrees f_law_due_rows f_law_due_counts f_law_refused f_law_group_fits f_law c_Fault c_BadMerge c_BadGroup c_BadNames c_BadNumber c_Group)
    (G_law_group : FnOk P w K mg base (L2.CX P w) 1 f_law_group fd_law_group ["kind"] (spD (K, mg, io00) [] (["kind"] : List Str).length fD_law_group))
    (B_law_group : Binds K fd_law_group ["kind"] [])
    (G_law_named : FnOk P w K mg base (L2.CX P w) 1 f_law_named fd_law_named ["rows", "names"] (spD (K, mg, io00) [] (["rows", "names"] : List Str).length fD_law_named))
    (B_law_named : Binds K fd_law_named ["rows", "names"] [])
    (G_law_shuffled : FnOk P w K mg base (L2.CX P w) 2 f_law_shuffled fd_law_shuffled ["numbers", "many"] (spD (K, mg, io00) [0] (["numbers", "many"] : List Str).length fD_law_shuffled))
    (B_law_shuffled : Binds K fd_law_shuffled ["numbers", "many"] []) : FnOk P w K mg base (L2.CX P w) 3 f_law_anew fd_law_anew ["numbers", "kind"] (spD (K, mg, io00) [0] (["numbers", "kind"] : List Str).length fD_law_anew) := by
  exact fn_def (k := 2) F sc_law_anew fun cdv A outer s H E hr => by exact (pssd_cons (psd_set (i := 2) sc_law_anew.nd (by rfl) (by first | exact Or.inl rfl | exact Or.inr rfl) (io_ni (by rfl)) (pd_call (cs := [CM.bw]) G_law_group (hr.mono (by first | decide | omega)) (takes_of (by rfl) (by rfl) (by rfl) (by rfl)) (by rfl) T.g_law_group T.k_law_group B_law_group .nil flats_nil (pad_cons (pd_var 1) pad_nil) rfl)) (pssd_cons (psd_set (i := 3) sc_law_anew.nd (by rfl) (by first | exact Or.inl rfl | exact Or.inr rfl) (io_ni (by rfl)) (pd_op op_cat o_cat (pd_lst (pad_cons pd_int pad_nil)) (pd_lc (by rfl) sc_law_anew.nd (pid_seq (pd_call (cs := [CM.io, CM.bw]) G_law_shuffled (hr.mono (by first | decide | omega)) (takes_of (by rfl) (by rfl) (by rfl) (by rfl)) (by rfl) T.g_law_shuffled T.k_law_shuffled B_law_shuffled .nil flats_nil (pad_cons (pd_var 0) (pad_cons (pd_op op_sub o_sub (pd_callB call_len_seq n_len (by rfl) T.b_len PySem.boot_len (pad_cons (pd_var 2) pad_nil)) pd_int) pad_nil)) rfl)) (blkOk_by (own := [("name", 4)]) (by rfl)) (fun _ _ _ _ _ => (pgd_name sc_law_anew.nd (by rfl) (by first | exact Or.inl rfl | exact Or.inr rfl) (io_ni (by rfl)))) (fun _ _ _ _ _ => ptsd_nil) (fun _ _ _ _ _ => (pd_op op_add o_add (pd_var 4) pd_int)) (by decide) (io_all (by rfl))))) (pssd_one (psd_ret (pd_call (cs := [CM.bw, CM.bw]) G_law_named (hr.mono (by first | decide | omega)) (takes_of (by rfl) (by rfl) (by rfl) (by rfl)) (by rfl) T.g_law_named T.k_law_named B_law_named .nil flats_nil (pad_cons (pd_var 2) (pad_cons (pd_var 3) pad_nil)) rfl)))))
theorem ok_law_drawn_kind {fd_law_drawn_kind : FuncData} {fd_law_take : FuncData} (F : Fun K "_law_drawn_kind" "_law_drawn_kind" s_law_drawn_kind f_law_drawn_kind fd_law_drawn_kind) (T : Txt K mg f_is_renaming f_check_table f_Group_product f_commutator_counts f_commutator_rows f_is_associative f_Group_init f_law_numbers f_law_take f_law_shuffled f_law_group f_law_named f_law_power f_law_product f_law_alike f_law_anew f_law_drawn_kind f_law_degrees f_law_due_rows f_law_due_counts f_law_refused f_law_group_fits f_law c_Fault c_BadMerge c_BadGroup c_BadNames c_BadNumber c_Group)
    (G_law_take : FnOk P w K mg base (L2.CX P w) 1 f_law_take fd_law_take ["numbers", "many"] (spD (K, mg, io00) [0] (["numbers", "many"] : List Str).length fD_law_take))
    (B_law_take : Binds K fd_law_take ["numbers", "many"] []) : FnOk P w K mg base (L2.CX P w) 2 f_law_drawn_kind fd_law_drawn_kind ["numbers"] (spD (K, mg, io00) [0] (["numbers"] : List Str).length fD_law_drawn_kind) := by
  exact fn_def (k := 1) F sc_law_drawn_kind fun cdv A outer s H E hr => by exact (pssd_cons (psd_set (i := 1) sc_law_drawn_kind.nd (by rfl) (by first | exact Or.inl rfl | exact Or.inr rfl) (io_ni (by rfl)) (pd_call (cs := [CM.io, CM.bw]) G_law_take (hr.mono (by first | decide | omega)) (takes_of (by rfl) (by rfl) (by rfl) (by rfl)) (by rfl) T.g_law_take T.k_law_take B_law_take .nil flats_nil (pad_cons (pd_var 0) (pad_cons pd_int pad_nil)) rfl)) (pssd_cons (psd_if (ptd_cmp (op_eqD (room_hu hr)) o_eq (pd_call (cs := [CM.io, CM.bw]) G_law_take (hr.mono (by first | decide | omega)) (takes_of (by rfl) (by rfl) (by rfl) (by rfl)) (by rfl) T.g_law_take T.k_law_take B_law_take .nil flats_nil (pad_cons (pd_var 0) (pad_cons pd_int pad_nil)) rfl) pd_int (nomark _)) (pssd_one (psd_set (i := 1) sc_law_drawn_kind.nd (by rfl) (by first | exact Or.inl rfl | exact Or.inr rfl) (io_ni (by rfl)) (pd_ix (pd_lst (pad_cons pd_int (pad_cons pd_int (pad_cons pd_int pad_nil)))) (pd_op op_mod o_mod (pd_callTy call_int1 n_int (by rfl) T.b_int PyProof.Rows.boot_int (pad_cons (pd_var 1) pad_nil)) pd_int)))) pssd_nil) (pssd_one (psd_ret (pd_var 1)))))
theorem ok_law_degrees {fd_law_degrees : FuncData} (F : Fun K "_law_degrees" "_law_degrees" s_law_degrees f_law_degrees fd_law_degrees) (T : Txt K mg f_is_renaming f_check_table f_Group_product f_commutator_counts f_commutator_rows f_is_associative f_Group_init f_law_numbers f_law_take f_law_shuffled f_law_group f_law_named f_law_power f_law_product f_law_alike f_law_anew f_law_drawn_kind f_law_degrees f_law_due_rows f_law_due_counts f_law_refused f_law_group_fits f_law c_Fault c_BadMerge c_BadGroup c_BadNames c_BadNumber c_Group) : FnOk P w K mg base (L2.CX P w) 1 f_law_degrees fd_law_degrees ["kind", "order"] (spD (K, mg, io00) [] (["kind", "order"] : List Str).length fD_law_degrees) := by
  exact fn_def (k := 0) F sc_law_degrees fun cdv A outer s H E hr => by exact (pssd_cons (psd_if (ptd_cmp (op_eqD (room_hu hr)) o_eq (pd_var 0) pd_int (nomark _)) (pssd_one (psd_ret (pd_lst (pad_cons pd_int (pad_cons pd_int (pad_cons pd_int pad_nil)))))) pssd_nil) (pssd_cons (psd_if (ptd_cmp op_in_seq (o_in false) (pd_var 0) (pd_tup (pad_cons pd_int (pad_cons pd_int pad_nil))) rfl) (pssd_one (psd_ret (pd_lst (pad_cons pd_int (pad_cons pd_int (pad_cons pd_int (pad_cons pd_int (pad_cons pd_int pad_nil)))))))) pssd_nil) (pssd_one (psd_ret (pd_lc (by rfl) sc_law_degrees.nd (pid_rng1 (by rfl) T.b_range (pad_cons (pd_var 1) pad_nil)) (blkOk_by (own := [("k", 2)]) (by rfl)) (fun _ _ _ _ _ => (pgd_name sc_law_degrees.nd (by rfl) (by first | exact Or.inl rfl | exact Or.inr rfl) (io_ni (by rfl)))) (fun _ _ _ _ _ => ptsd_nil) (fun _ _ _ _ _ => pd_int) (by decide) (io_all (by rfl)))))))
theorem ok_law_due_rows {fd_law_due_rows : FuncData} {fd_law_degrees : FuncData} {fd_law_power : FuncData} (F : Fun K "_law_due_rows" "_law_due_rows" s_law_due_rows f_law_due_rows fd_law_due_rows) (T : Txt K mg f_is_renaming f_check_table f_Group_product f_commutator_counts f_commutator_rows f_is_associative f_Group_init f_law_numbers f_law_take f_law_shuffled f_law_group f_law_named f_law_power f_law_product f_law_alike f_law_anew f_law_drawn_kind f_law_degrees f_law_due_rows f_law_due_counts f_law_refused f_law_group_fits f_law c_Fault c_BadMerge c_BadGroup c_BadNames c_BadNumber c_Group)
    (G_law_degrees : FnOk P w K mg base (L2.CX P w) 1 f_law_degrees fd_law_degrees ["kind", "order"] (spD (K, mg, io00) [] (["kind", "order"] : List Str).length fD_law_degrees))
    (B_law_degrees : Binds K fd_law_degrees ["kind", "order"] [])
    (G_law_power : FnOk P w K mg base (L2.CX P w) 1 f_law_power fd_law_power ["base", "many"] (spD (K, mg, io00) [] (["base", "many"] : List Str).length fD_law_power))
    (B_law_power : Binds K fd_law_power ["base", "many"] []) : FnOk P w K mg base (L2.CX P w) 2 f_law_due_rows fd_law_due_rows ["kind", "order", "pairs"] (spD (K, mg, io00) [] (["kind", "order", "pairs"] : List Str).length fD_law_due_rows) := by
  exact fn_def (k := 1) F sc_law_due_rows fun cdv A outer s H E hr => by exact (pssd_cons (psd_if (ptd_cmp (op_eqD (room_hu hr)) o_eq (pd_var 2) pd_int (nomark _)) (pssd_one (psd_ret pd_int)) pssd_nil) (pssd_cons (psd_set (i := 3) sc_law_due_rows.nd (by rfl) (by first | exact Or.inl rfl | exact Or.inr rfl) (io_ni (by rfl)) pd_int) (pssd_cons (psd_for (passes_of (by rfl)) (by rfl) (pid_seq (pd_call (cs := [CM.bw, CM.bw]) G_law_degrees (hr.mono (by first | decide | omega)) (takes_of (by rfl) (by rfl) (by rfl) (by rfl)) (by rfl) T.g_law_degrees T.k_law_degrees B_law_degrees .nil flats_nil (pad_cons (pd_var 0) (pad_cons (pd_var 1) pad_nil)) rfl)) (pgd_name sc_law_due_rows.nd (by rfl) (by first | exact Or.inl rfl | exact Or.inr rfl) (io_ni (by rfl))) (pssd_one (psd_set (i := 3) sc_law_due_rows.nd (by rfl) (by first | exact Or.inl rfl | exact Or.inr rfl) (io_ni (by rfl)) (pd_op op_add o_add (pd_var 3) (pd_call (cs := [CM.bw, CM.bw]) G_law_power (hr.mono (by first | decide | omega)) (takes_of (by rfl) (by rfl) (by rfl) (by rfl)) (by rfl) T.g_law_power T.k_law_power B_law_power .nil flats_nil (pad_cons (pd_op op_fdiv o_div (pd_var 1) (pd_var 4)) (pad_cons (pd_op op_sub o_sub (pd_op op_mul o_mul pd_int (pd_var 2)) pd_int) pad_nil)) rfl))))) (pssd_one (psd_ret (pd_op op_mul o_mul (pd_var 1) (pd_var 3)))))))
theorem ok_law_due_counts {fd_law_due_counts : FuncData} {fd_law_product : FuncData} (F : Fun K "_law_due_counts" "_law_due_counts" s_law_due_counts f_law_due_counts fd_law_due_counts) (T : Txt K mg f_is_renaming f_check_table f_Group_product f_commutator_counts f_commutator_rows f_is_associative f_Group_init f_law_numbers f_law_take f_law_shuffled f_law_group f_law_named f_law_power f_law_product f_law_alike f_law_anew f_law_drawn_kind f_law_degrees f_law_due_rows f_law_due_counts f_law_refused f_law_group_fits f_law c_Fault c_BadMerge c_BadGroup c_BadNames c_BadNumber c_Group)
    (G_law_product : FnOk P w K mg base (L2.CX P w) 1 f_law_product fd_law_product ["rows", "things"] (spD (K, mg, io00) [] (["rows", "things"] : List Str).length fD_law_product))
    (B_law_product : Binds K fd_law_product ["rows", "things"] []) : FnOk P w K mg base (L2.CX P w) 2 f_law_due_counts fd_law_due_counts ["rows"] (spD (K, mg, io00) [] (["rows"] : List Str).length fD_law_due_counts) := by
  exact fn_def (k := 1) F sc_law_due_counts fun cdv A outer s H E hr => by exact (pssd_cons (psd_setLc (by rfl) sc_law_due_counts.nd (i := 1) (by rfl) (by rfl) (io_ni (by rfl)) (sw_true (by rfl) (by rfl) (by rfl) (by rfl)) (pid_seq (pd_var 0)) (blkOk_by (own := [("a", 2)]) (by rfl)) (fun _ _ _ _ _ => (pgd_name sc_law_due_counts.nd (by rfl) (by first | exact Or.inl rfl | exact Or.inr rfl) (io_ni (by rfl)))) (fun _ _ _ _ _ => ptsd_nil) (fun _ _ _ _ _ => pd_int) (by decide) (io_all (by rfl))) (pssd_cons (psd_for (passes_of (by rfl)) (by rfl) (pid_rng1 (by rfl) T.b_range (pad_cons (pd_callB call_len_seq n_len (by rfl) T.b_len PySem.boot_len (pad_cons (pd_var 0) pad_nil)) pad_nil)) (pgd_name sc_law_due_counts.nd (by rfl) (by first | exact Or.inl rfl | exact Or.inr rfl) (io_ni (by rfl))) (pssd_one (psd_for (passes_of (by rfl)) (by rfl) (pid_rng1 (by rfl) T.b_range (pad_cons (pd_callB call_len_seq n_len (by rfl) T.b_len PySem.boot_len (pad_cons (pd_var 0) pad_nil)) pad_nil)) (pgd_name sc_law_due_counts.nd (by rfl) (by first | exact Or.inl rfl | exact Or.inr rfl) (io_ni (by rfl))) (pssd_cons (psd_set (i := 4) sc_law_due_counts.nd (by rfl) (by first | exact Or.inl rfl | exact Or.inr rfl) (io_ni (by rfl)) (pd_call (cs := [CM.bw, CM.bw]) G_law_product (hr.mono (by first | decide | omega)) (takes_of (by rfl) (by rfl) (by rfl) (by rfl)) (by rfl) T.g_law_product T.k_law_product B_law_product .nil flats_nil (pad_cons (pd_var 0) (pad_cons (pd_lst (pad_cons (pd_esc (pd_var 2)) (pad_cons (pd_esc (pd_var 3)) (pad_cons (pd_esc (pd_bm PySem.F.slot_list_index PySem.F.type_list_index mt_index m_index (pd_ix (pd_var 0) (pd_var 2)) (pad_cons pd_int pad_nil))) (pad_cons (pd_esc (pd_bm PySem.F.slot_list_index PySem.F.type_list_index mt_index m_index (pd_ix (pd_var 0) (pd_var 3)) (pad_cons pd_int pad_nil))) pad_nil))))) pad_nil)) rfl)) (pssd_one (psd_setIx (pd_esc (pd_op op_add o_add (pd_ix (pd_var 1) (pd_var 4)) pd_int)) (pd_var 1) (pd_var 4))))))) (pssd_one (psd_ret (pd_var 1)))))
theorem ok_law_refused {fd_law_refused : FuncData} {fd_commutator_rows : FuncData} (F : Fun K "_law_refused" "_law_refused" s_law_refused f_law_refused fd_law_refused) (T : Txt K mg f_is_renaming f_check_table f_Group_product f_commutator_counts f_commutator_rows f_is_associative f_Group_init f_law_numbers f_law_take f_law_shuffled f_law_group f_law_named f_law_power f_law_product f_law_alike f_law_anew f_law_drawn_kind f_law_degrees f_law_due_rows f_law_due_counts f_law_refused f_law_group_fits f_law c_Fault c_BadMerge c_BadGroup c_BadNames c_BadNumber c_Group)
    (G_commutator_rows : FnOk P w K mg base (L2.CX P w) 3 f_commutator_rows fd_commutator_rows ["group", "number"] (spD (K, mg, io00) [] (["group", "number"] : List Str).length fD_commutator_rows))
    (B_commutator_rows : Binds K fd_commutator_rows ["group", "number"] []) : FnOk P w K mg base (L2.CX P w) 4 f_law_refused fd_law_refused ["group", "pairs"] (spD (K, mg, io00) [] (["group", "pairs"] : List Str).length fD_law_refused) := by
  exact fn_def (k := 3) F sc_law_refused fun cdv A outer s H E hr => by exact (pssd_cons (psd_try (by rfl) (by rfl) sc_law_refused.nd (takes_of (by rfl) (by rfl) (by rfl) (by rfl)) (fun W pn xe htk hpo => (pssd_one (psd_expr (pd_call (cs := [CM.bw, CM.bw]) G_commutator_rows (hr.mono (by first | decide | omega)) htk (by rfl) T.g_commutator_rows T.k_commutator_rows B_commutator_rows .nil flats_nil (pad_cons (pd_var 0) (pad_cons (pd_var 1) pad_nil)) rfl)))) (HJ.named ⟨by rfl, by decide, Or.inl T.g_BadNumber⟩ (by rfl) (by rfl) (io_ni (by rfl)) (hm_cons T.g_BadNumber T.x_BadNumber_BadNumber hm_nil) (fun a oe cls pn C e1 e2 hz hv => by have eC := hone1 e1; subst eC; cases (T.g_BadNumber.symm.trans e2); exact (pssd_cons (psd_set (i := 3) sc_law_refused.nd (by rfl) (by first | exact Or.inl rfl | exact Or.inr rfl) (io_ni (by rfl)) (pd_and (pd_not (pd_isE (i := 2) (c := .ref c_BadGroup) T.x_BadNumber hz hv ioE_mem ioE_fx T.i_BadNumber_BadGroup (fun u r => r) (by rfl) T.b_isinstance (pe_glob (v := .ref c_BadGroup) (by rfl) T.g_BadGroup rfl) (by rfl) (by first | exact Or.inl rfl | exact Or.inr (Or.inl rfl) | exact Or.inr (Or.inr rfl)))) (pd_one (pd_not (pd_isE (i := 2) (c := .ref c_BadNames) T.x_BadNumber hz hv ioE_mem ioE_fx T.i_BadNumber_BadNames (fun u r => r) (by rfl) T.b_isinstance (pe_glob (v := .ref c_BadNames) (by rfl) T.g_BadNames rfl) (by rfl) (by first | exact Or.inl rfl | exact Or.inr (Or.inl rfl) | exact Or.inr (Or.inr rfl))))))) (pssd_one (psd_ret (pd_and (pd_isE (i := 2) (c := .ref c_Fault) T.x_BadNumber hz hv ioE_mem ioE_fx T.i_BadNumber_Fault (fun u r => r) (by rfl) T.b_isinstance (pe_glob (v := .ref c_Fault) (by rfl) T.g_Fault rfl) (by rfl) (by first | exact Or.inl rfl | exact Or.inr (Or.inl rfl) | exact Or.inr (Or.inr rfl))) (pd_and (pd_isE (i := 2) (c := .ty "ValueError") T.x_BadNumber hz hv ioE_mem ioE_fx T.i_BadNumber_ValueError (fun u r => r) (by rfl) T.b_isinstance (pe_bltn (v := .ty "ValueError") (by rfl) T.b_ValueError (by decide +kernel) rfl) (by rfl) (by first | exact Or.inl rfl | exact Or.inr (Or.inl rfl) | exact Or.inr (Or.inr rfl))) (pd_one (pd_var 3)))))))) (HJ.plain ⟨by rfl, by decide, Or.inl T.g_Fault⟩ (hm_cons T.g_BadNumber T.x_BadNumber_Fault hm_nil) (fun a oe cls dd pn C e1 e2 hz hv => by have eC := hone1 e1; subst eC; cases (T.g_BadNumber.symm.trans e2); exact (pssd_one (psd_ret pd_bl))) HJ.nil))) (pssd_one (psd_ret pd_bl)))
theorem ok_law_group_fits {fd_law_group_fits : FuncData} {fd_commutator_counts : FuncData} {fd_commutator_rows : FuncData} {fd_law_alike : FuncData} {fd_law_due_counts : FuncData} {fd_law_due_rows : FuncData} (F : Fun K "_law_group_fits" "_law_group_fits" s_law_group_fits f_law_group_fits fd_law_group_fits) (T : Txt K mg f_is_renaming f_check_table f_Group_product f_commutator_counts f_commutator_rows f_is_associative f_Group_init f_law_numbers f_law_take f_law_shuffled f_law_group f_law_named f_law_power f_law_product f_law_alike f_law_anew f_law_drawn_kind f_law_degrees f_law_due_rows f_law_due_counts f_law_refused f_law_group_fits f_law c_Fault c_BadMerge c_BadGroup c_BadNames c_BadNumber c_Group)
    (G_law_alike : FnOk P w K mg base (L2.CX P w) 10 f_law_alike fd_law_alike ["found", "due"] (spD (K, mg, io00) [] (["found", "due"] : List Str).length (fD_law_alike 9)))
    (B_law_alike : Binds K fd_law_alike ["found", "due"] [])
    (G_law_due_counts : FnOk P w K mg base (L2.CX P w) 2 f_law_due_counts fd_law_due_counts ["rows"] (spD (K, mg, io00) [] (["rows"] : List Str).length fD_law_due_counts))
    (B_law_due_counts : Binds K fd_law_due_counts ["rows"] [])
    (G_law_due_rows : FnOk P w K mg base (L2.CX P w) 2 f_law_due_rows fd_law_due_rows ["kind", "order", "pairs"] (spD (K, mg, io00) [] (["kind", "order", "pairs"] : List Str).length fD_law_due_rows))
    (B_law_due_rows : Binds K fd_law_due_rows ["kind", "order", "pairs"] [])
    (G_commutator_counts : FnOk P w K mg base (L2.CX P w) 2 f_commutator_counts fd_commutator_counts ["group"] (spD (K, mg, io00) [] (["group"] : List Str).length fD_commutator_counts))
    (B_commutator_counts : Binds K fd_commutator_counts ["group"] [])
    (G_commutator_rows : FnOk P w K mg base (L2.CX P w) 3 f_commutator_rows fd_commutator_rows ["group", "number"] (spD (K, mg, io00) [] (["group", "number"] : List Str).length fD_commutator_rows))
    (B_commutator_rows : Binds K fd_commutator_rows ["group", "number"] [])
    {du1_commutator_rows : List Value} (V1_commutator_rows : Vals [(.int 1)] du1_commutator_rows) (B1_commutator_rows : Binds K fd_commutator_rows ["group", "number"] du1_commutator_rows)
    (W_commutator_rows_number : KwB K fd_commutator_rows ["group", "number"] 1 ["number"] []) : FnOk P w K mg base (L2.CX P w) 11 f_law_group_fits fd_law_group_fits ["group", "rows", "kind", "many"] (spD (K, mg, io00) [] (["group", "rows", "kind", "many"] : List Str).length fD_law_group_fits) := by
  exact fn_def (k := 10) F sc_law_group_fits fun cdv A outer s H E hr => by exact (pssd_cons (psd_set (i := 4) sc_law_group_fits.nd (by rfl) (by first | exact Or.inl rfl | exact Or.inr rfl) (io_ni (by rfl)) (pd_callB call_len_seq n_len (by rfl) T.b_len PySem.boot_len (pad_cons (pd_var 1) pad_nil))) (pssd_cons (psd_if (ptd_not (ptd_val (pd_call (cs := [CM.bw, CM.bw]) G_law_alike (hr.mono (by first | decide | omega)) (takes_of (by rfl) (by rfl) (by rfl) (by rfl)) (by rfl) T.g_law_alike T.k_law_alike B_law_alike .nil flats_nil (pad_cons (pd_call (cs := [CM.bw]) G_commutator_counts (hr.mono (by first | decide | omega)) (takes_of (by rfl) (by rfl) (by rfl) (by rfl)) (by rfl) T.g_commutator_counts T.k_commutator_counts B_commutator_counts .nil flats_nil (pad_cons (pd_var 0) pad_nil) rfl) (pad_cons (pd_call (cs := [CM.bw]) G_law_due_counts (hr.mono (by first | decide | omega)) (takes_of (by rfl) (by rfl) (by rfl) (by rfl)) (by rfl) T.g_law_due_counts T.k_law_due_counts B_law_due_counts .nil flats_nil (pad_cons (pd_var 1) pad_nil) rfl) pad_nil)) rfl))) (pssd_one (psd_ret pd_bl)) pssd_nil) (pssd_cons (psd_for (passes_of (by rfl)) (by rfl) (pid_seq (pd_var 3)) (pgd_name sc_law_group_fits.nd (by rfl) (by first | exact Or.inl rfl | exact Or.inr rfl) (io_ni (by rfl))) (pssd_cons (psd_set (i := 6) sc_law_group_fits.nd (by rfl) (by first | exact Or.inl rfl | exact Or.inr rfl) (io_ni (by rfl)) (pd_call (cs := [CM.bw, CM.bw, CM.bw]) G_law_due_rows (hr.mono (by first | decide | omega)) (takes_of (by rfl) (by rfl) (by rfl) (by rfl)) (by rfl) T.g_law_due_rows T.k_law_due_rows B_law_due_rows .nil flats_nil (pad_cons (pd_var 2) (pad_cons (pd_var 4) (pad_cons (pd_var 5) pad_nil))) rfl)) (pssd_cons (psd_if (ptd_not (ptd_val (pd_call (cs := [CM.bw, CM.bw]) G_law_alike (hr.mono (by first | decide | omega)) (takes_of (by rfl) (by rfl) (by rfl) (by rfl)) (by rfl) T.g_law_alike T.k_law_alike B_law_alike .nil flats_nil (pad_cons (pd_call (cs := [CM.bw, CM.bw]) G_commutator_rows (hr.mono (by first | decide | omega)) (takes_of (by rfl) (by rfl) (by rfl) (by rfl)) (by rfl) T.g_commutator_rows T.k_commutator_rows B_commutator_rows .nil flats_nil (pad_cons (pd_var 0) (pad_cons (pd_var 5) pad_nil)) rfl) (pad_cons (pd_var 6) pad_nil)) rfl))) (pssd_one (psd_ret pd_bl)) pssd_nil) (pssd_one (psd_if (pwd_and (ptd_cmp op_lt o_lt (pd_var 5) pd_int (nomark _)) (pwd_and1 (ptd_not (ptd_val (pd_call (cs := [CM.bw, CM.bw]) G_law_alike (hr.mono (by first | decide | omega)) (takes_of (by rfl) (by rfl) (by rfl) (by rfl)) (by rfl) T.g_law_alike T.k_law_alike B_law_alike .nil flats_nil (pad_cons (pd_callK (cs := [CM.bw, CM.bw]) G_commutator_rows (hr.mono (by first | decide | omega)) (takes_of (by rfl) (by rfl) (by rfl) (by rfl)) (by rfl) T.g_commutator_rows T.k_commutator_rows W_commutator_rows_number .nil flats_nil (pad_cons (pd_var 0) pad_nil) (pkd_cons (pd_var 5) pkd_nil) rfl rfl) (pad_cons (pd_var 6) pad_nil)) rfl))))).pt (pssd_one (psd_ret pd_bl)) pssd_nil))))) (pssd_one (psd_ret (pd_call (cs := [CM.bw, CM.bw]) G_law_alike (hr.mono (by first | decide | omega)) (takes_of (by rfl) (by rfl) (by rfl) (by rfl)) (by rfl) T.g_law_alike T.k_law_alike B_law_alike .nil flats_nil (pad_cons (pd_call (cs := [CM.bw, CM.bw]) G_commutator_rows (hr.mono (by first | decide | omega)) (takes_of (by rfl) (by rfl) (by rfl) (by rfl)) (by rfl) T.g_commutator_rows T.k_commutator_rows B1_commutator_rows V1_commutator_rows (flats_cons (fun _ _ _ => .int _) flats_nil) (pad_cons (pd_var 0) pad_nil) rfl) (pad_cons (pd_call (cs := [CM.bw, CM.bw, CM.bw]) G_law_due_rows (hr.mono (by first | decide | omega)) (takes_of (by rfl) (by rfl) (by rfl) (by rfl)) (by rfl) T.g_law_due_rows T.k_law_due_rows B_law_due_rows .nil flats_nil (pad_cons (pd_var 2) (pad_cons (pd_var 4) (pad_cons pd_int pad_nil))) rfl) pad_nil)) rfl))))))
theorem ok_law {fd_law : FuncData} {fd_Group_init : FuncData} {fd_commutator_counts : FuncData} {fd_commutator_rows : FuncData} {fd_law_alike : FuncData} {fd_law_anew : FuncData} {fd_law_drawn_kind : FuncData} {fd_law_due_counts : FuncData} {fd_law_group_fits : FuncData} {fd_law_numbers : FuncData} {fd_law_refused : FuncData} {fd_law_take : FuncData} (F : Fun K "law" "law" s_law f_law fd_law) (T : Txt K mg f_is_renaming f_check_table f_Group_product f_commutator_counts f_commutator_rows f_is_associative f_Group_init f_law_numbers f_law_take f_law_shuffled f_law_group f_law_named f_law_power f_law_product f_law_alike f_law_anew f_law_drawn_kind f_law_degrees f_law_due_rows f_law_due_counts f_law_refused f_law_group_fits f_law c_Fault c_BadMerge c_BadGroup c_BadNames c_BadNumber c_Group)
    (G_Group_init : FnOk P w K mg base (L2.CX P w) 3 f_Group_init fd_Group_init ["self", "rows"] (spD (K, mg, io00) [0] (["self", "rows"] : List Str).length fD_Group_init))
    (B_Group_init : Binds K fd_Group_init ["self", "rows"] [])
    (G_law_alike : FnOk P w K mg base (L2.CX P w) 10 f_law_alike fd_law_alike ["found", "due"] (spD (K, mg, io00) [] (["found", "due"] : List Str).length (fD_law_alike 9)))
    (B_law_alike : Binds K fd_law_alike ["found", "due"] [])
    (G_law_anew : FnOk P w K mg base (L2.CX P w) 3 f_law_anew fd_law_anew ["numbers", "kind"] (spD (K, mg, io00) [0] (["numbers", "kind"] : List Str).length fD_law_anew))
    (B_law_anew : Binds K fd_law_anew ["numbers", "kind"] [])
    (G_law_drawn_kind : FnOk P w K mg base (L2.CX P w) 2 f_law_drawn_kind fd_law_drawn_kind ["numbers"] (spD (K, mg, io00) [0] (["numbers"] : List Str).length fD_law_drawn_kind))
    (B_law_drawn_kind : Binds K fd_law_drawn_kind ["numbers"] [])
    (G_law_due_counts : FnOk P w K mg base (L2.CX P w) 2 f_law_due_counts fd_law_due_counts ["rows"] (spD (K, mg, io00) [] (["rows"] : List Str).length fD_law_due_counts))
    (B_law_due_counts : Binds K fd_law_due_counts ["rows"] [])
    (G_law_group_fits : FnOk P w K mg base (L2.CX P w) 11 f_law_group_fits fd_law_group_fits ["group", "rows", "kind", "many"] (spD (K, mg, io00) [] (["group", "rows", "kind", "many"] : List Str).length fD_law_group_fits))
    (B_law_group_fits : Binds K fd_law_group_fits ["group", "rows", "kind", "many"] [])
    (G_law_numbers : FnOk P w K mg base (L2.CX P w) 1 f_law_numbers fd_law_numbers ["script", "many"] (spD (K, mg, io00) [] (["script", "many"] : List Str).length fD_law_numbers))
    (B_law_numbers : Binds K fd_law_numbers ["script", "many"] [])
    (G_law_refused : FnOk P w K mg base (L2.CX P w) 4 f_law_refused fd_law_refused ["group", "pairs"] (spD (K, mg, io00) [] (["group", "pairs"] : List Str).length fD_law_refused))
    (B_law_refused : Binds K fd_law_refused ["group", "pairs"] [])
    (G_law_take : FnOk P w K mg base (L2.CX P w) 1 f_law_take fd_law_take ["numbers", "many"] (spD (K, mg, io00) [0] (["numbers", "many"] : List Str).length fD_law_take))
    (B_law_take : Binds K fd_law_take ["numbers", "many"] [])
    (G_commutator_counts : FnOk P w K mg base (L2.CX P w) 2 f_commutator_counts fd_commutator_counts ["group"] (spD (K, mg, io00) [] (["group"] : List Str).length fD_commutator_counts))
    (B_commutator_counts : Binds K fd_commutator_counts ["group"] [])
    (G_commutator_rows : FnOk P w K mg base (L2.CX P w) 3 f_commutator_rows fd_commutator_rows ["group", "number"] (spD (K, mg, io00) [] (["group", "number"] : List Str).length fD_commutator_rows))
    (B_commutator_rows : Binds K fd_commutator_rows ["group", "number"] []) : FnOk P w K mg base (L2.CX P w) 12 f_law fd_law ["script"] (spD (K, mg, io00) [] (["script"] : List Str).length fD_law) := by
  have M_Group := T.mk_Group
  exact fn_def (k := 11) F sc_law fun cdv A outer s H E hr => by exact (pssd_cons (psd_set (i := 1) sc_law.nd (by rfl) (by first | exact Or.inl rfl | exact Or.inr rfl) (io_ni (by rfl)) (pd_call (cs := [CM.bw, CM.bw]) G_law_numbers (hr.mono (by first | decide | omega)) (takes_of (by rfl) (by rfl) (by rfl) (by rfl)) (by rfl) T.g_law_numbers T.k_law_numbers B_law_numbers .nil flats_nil (pad_cons (pd_var 0) (pad_cons pd_int pad_nil)) rfl)) (pssd_cons (psd_setLc (by rfl) sc_law.nd (i := 2) (by rfl) (by rfl) (io_ni (by rfl)) (sw_true (by rfl) (by rfl) (by rfl) (by rfl)) (pid_rng1 (by rfl) T.b_range (pad_cons pd_int pad_nil)) (blkOk_by (own := [("k", 6)]) (by rfl)) (fun _ _ _ _ _ => (pgd_name sc_law.nd (by rfl) (by first | exact Or.inl rfl | exact Or.inr rfl) (io_ni (by rfl)))) (fun _ _ _ _ _ => ptsd_nil) (fun _ _ _ _ _ => (pd_call (cs := [CM.io]) G_law_drawn_kind (hr.mono (by first | decide | omega)) takes0 (by rfl) T.g_law_drawn_kind T.k_law_drawn_kind B_law_drawn_kind .nil flats_nil (pad_cons (pd_var 1) pad_nil) rfl)) (by decide) (io_all (by rfl))) (pssd_cons (psd_setLc (by rfl) sc_law.nd (i := 3) (by rfl) (by rfl) (io_ni (by rfl)) (sw_true (by rfl) (by rfl) (by rfl) (by rfl)) (pid_seq (pd_var 2)) (blkOk_by (own := [("kind", 9)]) (by rfl)) (fun _ _ _ _ _ => (pgd_name sc_law.nd (by rfl) (by first | exact Or.inl rfl | exact Or.inr rfl) (io_ni (by rfl)))) (fun _ _ _ _ _ => ptsd_nil) (fun _ _ _ _ _ => (pd_call (cs := [CM.io, CM.bw]) G_law_anew (hr.mono (by first | decide | omega)) takes0 (by rfl) T.g_law_anew T.k_law_anew B_law_anew .nil flats_nil (pad_cons (pd_var 1) (pad_cons (pd_var 9) pad_nil)) rfl)) (by decide) (io_all (by rfl))) (pssd_cons (psd_setLc (by rfl) sc_law.nd (i := 4) (by rfl) (by rfl) (io_ni (by rfl)) (sw_true (by rfl) (by rfl) (by rfl) (by rfl)) (pid_seq (pd_var 3)) (blkOk_by (own := [("rows", 10)]) (by rfl)) (fun _ _ _ _ _ => (pgd_name sc_law.nd (by rfl) (by first | exact Or.inl rfl | exact Or.inr rfl) (io_ni (by rfl)))) (fun _ _ _ _ _ => ptsd_nil) (fun _ _ _ _ _ => (pd_make (cs := [CM.io, CM.gv]) T.g_Group M_Group G_Group_init (hr.mono (by first | decide | omega)) takes0 (by rfl) T.g_Group B_Group_init .nil flats_nil (pad_cons (pd_esc (pd_lc (by rfl) sc_law.nd (pid_seq (pd_var 10)) (blkOk_by (own := [("row", 11)]) (by rfl)) (fun _ _ _ _ _ => (pgd_name sc_law.nd (by rfl) (by first | exact Or.inl rfl | exact Or.inr rfl) (io_ni (by rfl)))) (fun _ _ _ _ _ => ptsd_nil) (fun _ _ _ _ _ => (pd_callTy call_list_of n_list (by rfl) T.b_list PyProof.Rows.boot_list (pad_cons (pd_var 11) pad_nil))) (by decide) (io_all (by rfl)))) pad_nil) rfl)) (by decide) (io_all (by rfl))) (pssd_cons (psd_set (i := 5) sc_law.nd (by rfl) (by first | exact Or.inl rfl | exact Or.inr rfl) (io_ni (by rfl)) (pd_lst (pad_cons pd_int (pad_cons pd_int (pad_cons pd_int (pad_cons pd_int (pad_cons pd_int (pad_cons pd_int (pad_cons pd_int (pad_cons pd_int (pad_cons (pd_esc (pd_op op_add o_add pd_int (pd_call (cs := [CM.io, CM.bw]) G_law_take (hr.mono (by first | decide | omega)) (takes_of (by rfl) (by rfl) (by rfl) (by rfl)) (by rfl) T.g_law_take T.k_law_take B_law_take .nil flats_nil (pad_cons (pd_var 1) (pad_cons pd_int pad_nil)) rfl))) pad_nil))))))))))) (pssd_cons (psd_for (passes_of (by rfl)) (by rfl) (pid_rng1 (by rfl) T.b_range (pad_cons pd_int pad_nil)) (pgd_name sc_law.nd (by rfl) (by first | exact Or.inl rfl | exact Or.inr rfl) (io_ni (by rfl))) (pssd_cons (psd_if (ptd_not (ptd_tru (pd_call (cs := [CM.bw, CM.bw, CM.bw, CM.bw]) G_law_group_fits (hr.mono (by first | decide | omega)) (takes_of (by rfl) (by rfl) (by rfl) (by rfl)) (by rfl) T.g_law_group_fits T.k_law_group_fits B_law_group_fits .nil flats_nil (pad_cons (pd_ix (pd_var 4) (pd_var 6)) (pad_cons (pd_ix (pd_var 3) (pd_var 6)) (pad_cons (pd_ix (pd_var 2) (pd_var 6)) (pad_cons (pd_var 5) pad_nil)))) rfl))) (pssd_one (psd_ret pd_bl)) pssd_nil) (pssd_one (psd_for (passes_of (by rfl)) (by rfl) (pid_rng1 (by rfl) T.b_range (pad_cons pd_int pad_nil)) (pgd_name sc_law.nd (by rfl) (by first | exact Or.inl rfl | exact Or.inr rfl) (io_ni (by rfl))) (pssd_one (psd_if (ptd_not (ptd_tru (pd_call (cs := [CM.bw, CM.bw]) G_law_refused (hr.mono (by first | decide | omega)) (takes_of (by rfl) (by rfl) (by rfl) (by rfl)) (by rfl) T.g_law_refused T.k_law_refused B_law_refused .nil flats_nil (pad_cons (pd_ix (pd_var 4) (pd_var 6)) (pad_cons (pd_op op_sub o_sub pd_int (pd_ix (pd_lst (pad_cons pd_int (pad_cons pd_int (pad_cons (pd_esc (pd_op op_add o_add pd_int (pd_call (cs := [CM.io, CM.bw]) G_law_take (hr.mono (by first | decide | omega)) (takes_of (by rfl) (by rfl) (by rfl) (by rfl)) (by rfl) T.g_law_take T.k_law_take B_law_take .nil flats_nil (pad_cons (pd_var 1) (pad_cons pd_int pad_nil)) rfl))) pad_nil)))) (pd_var 7))) pad_nil)) rfl))) (pssd_one (psd_ret pd_bl)) pssd_nil)))))) (pssd_cons (psd_set (i := 8) sc_law.nd (by rfl) (by first | exact Or.inl rfl | exact Or.inr rfl) (io_ni (by rfl)) (pd_call (cs := [CM.bw]) G_law_due_counts (hr.mono (by first | decide | omega)) (takes_of (by rfl) (by rfl) (by rfl) (by rfl)) (by rfl) T.g_law_due_counts T.k_law_due_counts B_law_due_counts .nil flats_nil (pad_cons (pd_ix (pd_var 3) pd_int) pad_nil) rfl)) (pssd_one (psd_ret (pd_and (pd_call (cs := [CM.bw, CM.bw]) G_law_alike (hr.mono (by first | decide | omega)) (takes_of (by rfl) (by rfl) (by rfl) (by rfl)) (by rfl) T.g_law_alike T.k_law_alike B_law_alike .nil flats_nil (pad_cons (pd_call (cs := [CM.bw]) G_commutator_counts (hr.mono (by first | decide | omega)) (takes_of (by rfl) (by rfl) (by rfl) (by rfl)) (by rfl) T.g_commutator_counts T.k_commutator_counts B_commutator_counts .nil flats_nil (pad_cons (pd_ix (pd_var 4) pd_int) pad_nil) rfl) (pad_cons (pd_var 8) pad_nil)) rfl) (pd_one (pd_call (cs := [CM.bw, CM.bw]) G_law_alike (hr.mono (by first | decide | omega)) (takes_of (by rfl) (by rfl) (by rfl) (by rfl)) (by rfl) T.g_law_alike T.k_law_alike B_law_alike .nil flats_nil (pad_cons (pd_call (cs := [CM.bw, CM.bw]) G_commutator_rows (hr.mono (by first | decide | omega)) (takes_of (by rfl) (by rfl) (by rfl) (by rfl)) (by rfl) T.g_commutator_rows T.k_commutator_rows B_commutator_rows .nil flats_nil (pad_cons (pd_ix (pd_var 4) pd_int) (pad_cons pd_int pad_nil)) rfl) (pad_cons (pd_ix (pd_var 8) pd_int) pad_nil)) rfl))))))))))))
end
theorem all_mk {l : PySem.W.OpenLaw} {w : World} {K : PySem.W.Frag} {h : Heap} {mg : Str → Option Value} {fa f_is_renaming f_check_table f_Group_product f_commutator_counts f_commutator_rows f_is_associative f_Group_init f_law_numbers f_law_take f_law_shuffled f_law_group f_law_named f_law_power f_law_product f_law_alike f_law_anew f_law_drawn_kind f_law_degrees f_law_due_rows f_law_due_counts f_law_refused f_law_group_fits f_law c_Fault c_BadMerge c_BadGroup c_BadNames c_BadNumber c_Group : Addr} (X : K.In h) (G : h.Ns mainGlobals mg) (hfa : mg "law" = some (.ref fa))
    (pure : ∀ ns : List Int, ns.length ≤ 63 → ∃ n, fD_law [.brw (.lst (ns.map D.int))] = .ok n (.bl true) [])
    {od_is_renaming an_is_renaming : Option Addr} {sl_is_renaming : Array (Option Value)} {oc_is_renaming kV_is_renaming dc_is_renaming pm_is_renaming cd_is_renaming ct_is_renaming : Value}
    {od_check_table an_check_table : Option Addr} {sl_check_table : Array (Option Value)} {oc_check_table kV_check_table dc_check_table pm_check_table cd_check_table ct_check_table : Value}
    {od_Group_product an_Group_product : Option Addr} {sl_Group_product : Array (Option Value)} {oc_Group_product kV_Group_product dc_Group_product pm_Group_product cd_Group_product ct_Group_product : Value}
    {od_commutator_counts an_commutator_counts : Option Addr} {sl_commutator_counts : Array (Option Value)} {oc_commutator_counts kV_commutator_counts dc_commutator_counts pm_commutator_counts cd_commutator_counts ct_commutator_counts : Value}
    {od_commutator_rows an_commutator_rows : Option Addr} {sl_commutator_rows : Array (Option Value)} {oc_commutator_rows kV_commutator_rows dc_commutator_rows pm_commutator_rows cd_commutator_rows ct_commutator_rows : Value}
    {T_commutator_rows : Addr} {ocT_commutator_rows : Value} {odT_commutator_rows : Option Addr} {nT_commutator_rows : Nat} {slT_commutator_rows : Array (Option Value)} {tk0_commutator_rows : Tok}
    {od_is_associative an_is_associative : Option Addr} {sl_is_associative : Array (Option Value)} {oc_is_associative kV_is_associative dc_is_associative pm_is_associative cd_is_associative ct_is_associative : Value}
    {od_Group_init an_Group_init : Option Addr} {sl_Group_init : Array (Option Value)} {oc_Group_init kV_Group_init dc_Group_init pm_Group_init cd_Group_init ct_Group_init : Value}
    {od_law_numbers an_law_numbers : Option Addr} {sl_law_numbers : Array (Option Value)} {oc_law_numbers kV_law_numbers dc_law_numbers pm_law_numbers cd_law_numbers ct_law_numbers : Value}
    {od_law_take an_law_take : Option Addr} {sl_law_take : Array (Option Value)} {oc_law_take kV_law_take dc_law_take pm_law_take cd_law_take ct_law_take : Value}
    {od_law_shuffled an_law_shuffled : Option Addr} {sl_law_shuffled : Array (Option Value)} {oc_law_shuffled kV_law_shuffled dc_law_shuffled pm_law_shuffled cd_law_shuffled ct_law_shuffled : Value}
    {od_law_group an_law_group : Option Addr} {sl_law_group : Array (Option Value)} {oc_law_group kV_law_group dc_law_group pm_law_group cd_law_group ct_law_group : Value}
    {od_law_named an_law_named : Option Addr} {sl_law_named : Array (Option Value)} {oc_law_named kV_law_named dc_law_named pm_law_named cd_law_named ct_law_named : Value}
    {od_law_power an_law_power : Option Addr} {sl_law_power : Array (Option Value)} {oc_law_power kV_law_power dc_law_power pm_law_power cd_law_power ct_law_power : Value}
    {od_law_product an_law_product : Option Addr} {sl_law_product : Array (Option Value)} {oc_law_product kV_law_product dc_law_product pm_law_product cd_law_product ct_law_product : Value}
    {od_law_alike an_law_alike : Option Addr} {sl_law_alike : Array (Option Value)} {oc_law_alike kV_law_alike dc_law_alike pm_law_alike cd_law_alike ct_law_alike : Value}
    {od_law_anew an_law_anew : Option Addr} {sl_law_anew : Array (Option Value)} {oc_law_anew kV_law_anew dc_law_anew pm_law_anew cd_law_anew ct_law_anew : Value}
    {od_law_drawn_kind an_law_drawn_kind : Option Addr} {sl_law_drawn_kind : Array (Option Value)} {oc_law_drawn_kind kV_law_drawn_kind dc_law_drawn_kind pm_law_drawn_kind cd_law_drawn_kind ct_law_drawn_kind : Value}
    {od_law_degrees an_law_degrees : Option Addr} {sl_law_degrees : Array (Option Value)} {oc_law_degrees kV_law_degrees dc_law_degrees pm_law_degrees cd_law_degrees ct_law_degrees : Value}
    {od_law_due_rows an_law_due_rows : Option Addr} {sl_law_due_rows : Array (Option Value)} {oc_law_due_rows kV_law_due_rows dc_law_due_rows pm_law_due_rows cd_law_due_rows ct_law_due_rows : Value}
    {od_law_due_counts an_law_due_counts : Option Addr} {sl_law_due_counts : Array (Option Value)} {oc_law_due_counts kV_law_due_counts dc_law_due_counts pm_law_due_counts cd_law_due_counts ct_law_due_counts : Value}
    {od_law_refused an_law_refused : Option Addr} {sl_law_refused : Array (Option Value)} {oc_law_refused kV_law_refused dc_law_refused pm_law_refused cd_law_refused ct_law_refused : Value}
    {od_law_group_fits an_law_group_fits : Option Addr} {sl_law_group_fits : Array (Option Value)} {oc_law_group_fits kV_law_group_fits dc_law_group_fits pm_law_group_fits cd_law_group_fits ct_law_group_fits : Value}
    {od_law an_law : Option Addr} {sl_law : Array (Option Value)} {oc_law kV_law dc_law pm_law cd_law ct_law : Value}
    {tv_MOST_ORDER : Tok}
    (a_Fault : PySem.W.nsIn K mainGlobals "Fault" = some (some (.ref c_Fault)))
    (a_BadMerge : PySem.W.nsIn K mainGlobals "BadMerge" = some (some (.ref c_BadMerge)))
    (a_BadGroup : PySem.W.nsIn K mainGlobals "BadGroup" = some (some (.ref c_BadGroup)))
    (a_BadNames : PySem.W.nsIn K mainGlobals "BadNames" = some (some (.ref c_BadNames)))
    (a_BadNumber : PySem.W.nsIn K mainGlobals "BadNumber" = some (some (.ref c_BadNumber)))
    (a_Group : PySem.W.nsIn K mainGlobals "Group" = some (some (.ref c_Group)))
    (a_is_renaming : PySem.W.nsIn K mainGlobals "is_renaming" = some (some (.ref f_is_renaming)))
    (l_is_renaming : K.lookup f_is_renaming = some ⟨oc_is_renaming, od_is_renaming, .func (PySem.W.fnOf "is_renaming" "is_renaming" (defArgs s_is_renaming) (defBody s_is_renaming) (defScope s_is_renaming) .none kV_is_renaming dc_is_renaming pm_is_renaming an_is_renaming cd_is_renaming ct_is_renaming), sl_is_renaming⟩)
    (cd2_is_renaming : PySem.W.codeIn K cd_is_renaming "is_renaming" = true)
    (kp_is_renaming : PySem.W.keepIn K (.ref f_is_renaming) = true)
    (a_check_table : PySem.W.nsIn K mainGlobals "check_table" = some (some (.ref f_check_table)))
    (l_check_table : K.lookup f_check_table = some ⟨oc_check_table, od_check_table, .func (PySem.W.fnOf "check_table" "check_table" (defArgs s_check_table) (defBody s_check_table) (defScope s_check_table) .none kV_check_table dc_check_table pm_check_table an_check_table cd_check_table ct_check_table), sl_check_table⟩)
    (cd2_check_table : PySem.W.codeIn K cd_check_table "check_table" = true)
    (kp_check_table : PySem.W.keepIn K (.ref f_check_table) = true)
    (a_Group_product : PySem.W.findIn K (.ref c_Group) "product" = some (some (.ref f_Group_product)))
    (i_Group_product : PySem.W.isFn K (.ref f_Group_product) = true)
    (l_Group_product : K.lookup f_Group_product = some ⟨oc_Group_product, od_Group_product, .func (PySem.W.fnOf "product" "Group.product" (defArgs s_Group_product) (defBody s_Group_product) (defScope s_Group_product) .none kV_Group_product dc_Group_product pm_Group_product an_Group_product cd_Group_product ct_Group_product), sl_Group_product⟩)
    (cd2_Group_product : PySem.W.codeIn K cd_Group_product "Group.product" = true)
    (kp_Group_product : PySem.W.keepIn K (.ref f_Group_product) = true)
    (a_commutator_counts : PySem.W.nsIn K mainGlobals "commutator_counts" = some (some (.ref f_commutator_counts)))
    (l_commutator_counts : K.lookup f_commutator_counts = some ⟨oc_commutator_counts, od_commutator_counts, .func (PySem.W.fnOf "commutator_counts" "commutator_counts" (defArgs s_commutator_counts) (defBody s_commutator_counts) (defScope s_commutator_counts) .none kV_commutator_counts dc_commutator_counts pm_commutator_counts an_commutator_counts cd_commutator_counts ct_commutator_counts), sl_commutator_counts⟩)
    (cd2_commutator_counts : PySem.W.codeIn K cd_commutator_counts "commutator_counts" = true)
    (kp_commutator_counts : PySem.W.keepIn K (.ref f_commutator_counts) = true)
    (a_commutator_rows : PySem.W.nsIn K mainGlobals "commutator_rows" = some (some (.ref f_commutator_rows)))
    (l_commutator_rows : K.lookup f_commutator_rows = some ⟨oc_commutator_rows, od_commutator_rows, .func (PySem.W.fnOf "commutator_rows" "commutator_rows" (defArgs s_commutator_rows) (defBody s_commutator_rows) (defScope s_commutator_rows) (.ref T_commutator_rows) kV_commutator_rows dc_commutator_rows pm_commutator_rows an_commutator_rows cd_commutator_rows ct_commutator_rows), sl_commutator_rows⟩)
    (cd2_commutator_rows : PySem.W.codeIn K cd_commutator_rows "commutator_rows" = true)
    (kp_commutator_rows : PySem.W.keepIn K (.ref f_commutator_rows) = true)
    (lT_commutator_rows : K.lookup T_commutator_rows = some ⟨ocT_commutator_rows, odT_commutator_rows, .seq #[.int 1 tk0_commutator_rows] nT_commutator_rows, slT_commutator_rows⟩)
    (a_is_associative : PySem.W.nsIn K mainGlobals "is_associative" = some (some (.ref f_is_associative)))
    (l_is_associative : K.lookup f_is_associative = some ⟨oc_is_associative, od_is_associative, .func (PySem.W.fnOf "is_associative" "is_associative" (defArgs s_is_associative) (defBody s_is_associative) (defScope s_is_associative) .none kV_is_associative dc_is_associative pm_is_associative an_is_associative cd_is_associative ct_is_associative), sl_is_associative⟩)
    (cd2_is_associative : PySem.W.codeIn K cd_is_associative "is_associative" = true)
    (kp_is_associative : PySem.W.keepIn K (.ref f_is_associative) = true)
    (a_Group_init : PySem.W.findIn K (.ref c_Group) "__init__" = some (some (.ref f_Group_init)))
    (i_Group_init : PySem.W.isFn K (.ref f_Group_init) = true)
    (l_Group_init : K.lookup f_Group_init = some ⟨oc_Group_init, od_Group_init, .func (PySem.W.fnOf "__init__" "Group.__init__" (defArgs s_Group_init) (defBody s_Group_init) (defScope s_Group_init) .none kV_Group_init dc_Group_init pm_Group_init an_Group_init cd_Group_init ct_Group_init), sl_Group_init⟩)
    (cd2_Group_init : PySem.W.codeIn K cd_Group_init "Group.__init__" = true)
    (kp_Group_init : PySem.W.keepIn K (.ref f_Group_init) = true)
    (a_law_numbers : PySem.W.nsIn K mainGlobals "_law_numbers" = some (some (.ref f_law_numbers)))
    (l_law_numbers : K.lookup f_law_numbers = some ⟨oc_law_numbers, od_law_numbers, .func (PySem.W.fnOf "_law_numbers" "_law_numbers" (defArgs s_law_numbers) (defBody s_law_numbers) (defScope s_law_numbers) .none kV_law_numbers dc_law_numbers pm_law_numbers an_law_numbers cd_law_numbers ct_law_numbers), sl_law_numbers⟩)
    (cd2_law_numbers : PySem.W.codeIn K cd_law_numbers "_law_numbers" = true)
    (kp_law_numbers : PySem.W.keepIn K (.ref f_law_numbers) = true)
    (a_law_take : PySem.W.nsIn K mainGlobals "_law_take" = some (some (.ref f_law_take)))
    (l_law_take : K.lookup f_law_take = some ⟨oc_law_take, od_law_take, .func (PySem.W.fnOf "_law_take" "_law_take" (defArgs s_law_take) (defBody s_law_take) (defScope s_law_take) .none kV_law_take dc_law_take pm_law_take an_law_take cd_law_take ct_law_take), sl_law_take⟩)
    (cd2_law_take : PySem.W.codeIn K cd_law_take "_law_take" = true)
    (kp_law_take : PySem.W.keepIn K (.ref f_law_take) = true)
    (a_law_shuffled : PySem.W.nsIn K mainGlobals "_law_shuffled" = some (some (.ref f_law_shuffled)))
    (l_law_shuffled : K.lookup f_law_shuffled = some ⟨oc_law_shuffled, od_law_shuffled, .func (PySem.W.fnOf "_law_shuffled" "_law_shuffled" (defArgs s_law_shuffled) (defBody s_law_shuffled) (defScope s_law_shuffled) .none kV_law_shuffled dc_law_shuffled pm_law_shuffled an_law_shuffled cd_law_shuffled ct_law_shuffled), sl_law_shuffled⟩)
    (cd2_law_shuffled : PySem.W.codeIn K cd_law_shuffled "_law_shuffled" = true)
    (kp_law_shuffled : PySem.W.keepIn K (.ref f_law_shuffled) = true)
    (a_law_group : PySem.W.nsIn K mainGlobals "_law_group" = some (some (.ref f_law_group)))
    (l_law_group : K.lookup f_law_group = some ⟨oc_law_group, od_law_group, .func (PySem.W.fnOf "_law_group" "_law_group" (defArgs s_law_group) (defBody s_law_group) (defScope s_law_group) .none kV_law_group dc_law_group pm_law_group an_law_group cd_law_group ct_law_group), sl_law_group⟩)
    (cd2_law_group : PySem.W.codeIn K cd_law_group "_law_group" = true)
    (kp_law_group : PySem.W.keepIn K (.ref f_law_group) = true)
    (a_law_named : PySem.W.nsIn K mainGlobals "_law_named" = some (some (.ref f_law_named)))
    (l_law_named : K.lookup f_law_named = some ⟨oc_law_named, od_law_named, .func (PySem.W.fnOf "_law_named" "_law_named" (defArgs s_law_named) (defBody s_law_named) (defScope s_law_named) .none kV_law_named dc_law_named pm_law_named an_law_named cd_law_named ct_law_named), sl_law_named⟩)
    (cd2_law_named : PySem.W.codeIn K cd_law_named "_law_named" = true)
    (kp_law_named : PySem.W.keepIn K (.ref f_law_named) = true)
    (a_law_power : PySem.W.nsIn K mainGlobals "_law_power" = some (some (.ref f_law_power)))
    (l_law_power : K.lookup f_law_power = some ⟨oc_law_power, od_law_power, .func (PySem.W.fnOf "_law_power" "_law_power" (defArgs s_law_power) (defBody s_law_power) (defScope s_law_power) .none kV_law_power dc_law_power pm_law_power an_law_power cd_law_power ct_law_power), sl_law_power⟩)
    (cd2_law_power : PySem.W.codeIn K cd_law_power "_law_power" = true)
    (kp_law_power : PySem.W.keepIn K (.ref f_law_power) = true)
    (a_law_product : PySem.W.nsIn K mainGlobals "_law_product" = some (some (.ref f_law_product)))
    (l_law_product : K.lookup f_law_product = some ⟨oc_law_product, od_law_product, .func (PySem.W.fnOf "_law_product" "_law_product" (defArgs s_law_product) (defBody s_law_product) (defScope s_law_product) .none kV_law_product dc_law_product pm_law_product an_law_product cd_law_product ct_law_product), sl_law_product⟩)
    (cd2_law_product : PySem.W.codeIn K cd_law_product "_law_product" = true)
    (kp_law_product : PySem.W.keepIn K (.ref f_law_product) = true)
    (a_law_alike : PySem.W.nsIn K mainGlobals "_law_alike" = some (some (.ref f_law_alike)))
    (l_law_alike : K.lookup f_law_alike = some ⟨oc_law_alike, od_law_alike, .func (PySem.W.fnOf "_law_alike" "_law_alike" (defArgs s_law_alike) (defBody s_law_alike) (defScope s_law_alike) .none kV_law_alike dc_law_alike pm_law_alike an_law_alike cd_law_alike ct_law_alike), sl_law_alike⟩)
    (cd2_law_alike : PySem.W.codeIn K cd_law_alike "_law_alike" = true)
    (kp_law_alike : PySem.W.keepIn K (.ref f_law_alike) = true)
    (a_law_anew : PySem.W.nsIn K mainGlobals "_law_anew" = some (some (.ref f_law_anew)))
    (l_law_anew : K.lookup f_law_anew = some ⟨oc_law_anew, od_law_anew, .func (PySem.W.fnOf "_law_anew" "_law_anew" (defArgs s_law_anew) (defBody s_law_anew) (defScope s_law_anew) .none kV_law_anew dc_law_anew pm_law_anew an_law_anew cd_law_anew ct_law_anew), sl_law_anew⟩)
    (cd2_law_anew : PySem.W.codeIn K cd_law_anew "_law_anew" = true)
    (kp_law_anew : PySem.W.keepIn K (.ref f_law_anew) = true)
    (a_law_drawn_kind : PySem.W.nsIn K mainGlobals "_law_drawn_kind" = some (some (.ref f_law_drawn_kind)))
    (l_law_drawn_kind : K.lookup f_law_drawn_kind = some ⟨oc_law_drawn_kind, od_law_drawn_kind, .func (PySem.W.fnOf "_law_drawn_kind" "_law_drawn_kind" (defArgs s_law_drawn_kind) (defBody s_law_drawn_kind) (defScope s_law_drawn_kind) .none kV_law_drawn_kind dc_law_drawn_kind pm_law_drawn_kind an_law_drawn_kind cd_law_drawn_kind ct_law_drawn_kind), sl_law_drawn_kind⟩)
    (cd2_law_drawn_kind : PySem.W.codeIn K cd_law_drawn_kind "_law_drawn_kind" = true)
    (kp_law_drawn_kind : PySem.W.keepIn K (.ref f_law_drawn_kind) = true)
    (a_law_degrees : PySem.W.nsIn K mainGlobals "_law_degrees" = some (some (.ref f_law_degrees)))
    (l_law_degrees : K.lookup f_law_degrees = some ⟨oc_law_degrees, od_law_degrees, .func (PySem.W.fnOf "_law_degrees" "_law_degrees" (defArgs s_law_degrees) (defBody s_law_degrees) (defScope s_law_degrees) .none kV_law_degrees dc_law_degrees pm_law_degrees an_law_degrees cd_law_degrees ct_law_degrees), sl_law_degrees⟩)
    (cd2_law_degrees : PySem.W.codeIn K cd_law_degrees "_law_degrees" = true)
    (kp_law_degrees : PySem.W.keepIn K (.ref f_law_degrees) = true)
    (a_law_due_rows : PySem.W.nsIn K mainGlobals "_law_due_rows" = some (some (.ref f_law_due_rows)))
    (l_law_due_rows : K.lookup f_law_due_rows = some ⟨oc_law_due_rows, od_law_due_rows, .func (PySem.W.fnOf "_law_due_rows" "_law_due_rows" (defArgs s_law_due_rows) (defBody s_law_due_rows) (defScope s_law_due_rows) .none kV_law_due_rows dc_law_due_rows pm_law_due_rows an_law_due_rows cd_law_due_rows ct_law_due_rows), sl_law_due_rows⟩)
    (cd2_law_due_rows : PySem.W.codeIn K cd_law_due_rows "_law_due_rows" = true)
    (kp_law_due_rows : PySem.W.keepIn K (.ref f_law_due_rows) = true)
    (a_law_due_counts : PySem.W.nsIn K mainGlobals "_law_due_counts" = some (some (.ref f_law_due_counts)))
    (l_law_due_counts : K.lookup f_law_due_counts = some ⟨oc_law_due_counts, od_law_due_counts, .func (PySem.W.fnOf "_law_due_counts" "_law_due_counts" (defArgs s_law_due_counts) (defBody s_law_due_counts) (defScope s_law_due_counts) .none kV_law_due_counts dc_law_due_counts pm_law_due_counts an_law_due_counts cd_law_due_counts ct_law_due_counts), sl_law_due_counts⟩)
    (cd2_law_due_counts : PySem.W.codeIn K cd_law_due_counts "_law_due_counts" = true)
    (kp_law_due_counts : PySem.W.keepIn K (.ref f_law_due_counts) = true)
    (a_law_refused : PySem.W.nsIn K mainGlobals "_law_refused" = some (some (.ref f_law_refused)))
    (l_law_refused : K.lookup f_law_refused = some ⟨oc_law_refused, od_law_refused, .func (PySem.W.fnOf "_law_refused" "_law_refused" (defArgs s_law_refused) (defBody s_law_refused) (defScope s_law_refused) .none kV_law_refused dc_law_refused pm_law_refused an_law_refused cd_law_refused ct_law_refused), sl_law_refused⟩)
    (cd2_law_refused : PySem.W.codeIn K cd_law_refused "_law_refused" = true)
    (kp_law_refused : PySem.W.keepIn K (.ref f_law_refused) = true)
    (a_law_group_fits : PySem.W.nsIn K mainGlobals "_law_group_fits" = some (some (.ref f_law_group_fits)))
    (l_law_group_fits : K.lookup f_law_group_fits = some ⟨oc_law_group_fits, od_law_group_fits, .func (PySem.W.fnOf "_law_group_fits" "_law_group_fits" (defArgs s_law_group_fits) (defBody s_law_group_fits) (defScope s_law_group_fits) .none kV_law_group_fits dc_law_group_fits pm_law_group_fits an_law_group_fits cd_law_group_fits ct_law_group_fits), sl_law_group_fits⟩)
    (cd2_law_group_fits : PySem.W.codeIn K cd_law_group_fits "_law_group_fits" = true)
    (kp_law_group_fits : PySem.W.keepIn K (.ref f_law_group_fits) = true)
    (a_law : PySem.W.nsIn K mainGlobals "law" = some (some (.ref f_law)))
    (l_law : K.lookup f_law = some ⟨oc_law, od_law, .func (PySem.W.fnOf "law" "law" (defArgs s_law) (defBody s_law) (defScope s_law) .none kV_law dc_law pm_law an_law cd_law ct_law), sl_law⟩)
    (cd2_law : PySem.W.codeIn K cd_law "law" = true)
    (kp_law : PySem.W.keepIn K (.ref f_law) = true)
    (pg_Group : PySem.W.plainGet K c_Group Str.empty = true)
    (hd_Group : PySem.W.hasDictIn K c_Group = true)
    (po_Group : PySem.W.plainOver K c_Group = true)
    (sa_Group : PySem.W.findIn K (.ref c_Group) "__setattr__" = some (some (.builtin "object.__setattr__")))
    (mi_Group : PySem.W.makesIn K c_Group = true)
    (kc_Group : PySem.W.keepIn K (.ref c_Group) = true)
    (nf_Group_commutative : PySem.W.findIn K (.ref c_Group) "commutative" = some none)
    (nf_Group_inverses : PySem.W.findIn K (.ref c_Group) "inverses" = some none)
    (nf_Group_order : PySem.W.findIn K (.ref c_Group) "order" = some none)
    (nf_Group_rows : PySem.W.findIn K (.ref c_Group) "rows" = some none)
    (xe_BadGroup : PySem.W.excIn K c_BadGroup [.type "ValueError", .type "Exception", .type "BaseException", .type "object"] "ValueError.__new__" = true)
    (xk_BadGroup : PySem.W.keepIn K (.ref c_BadGroup) = true)
    (xs_BadGroup : PySem.W.subIn K (.ref c_BadGroup) (.type "BaseException") = some true)
    (xt_BadGroup : PySem.W.typeIn K (.ref c_BadGroup) = some (.type "type"))
    (xe_BadMerge : PySem.W.excIn K c_BadMerge [.type "ValueError", .type "Exception", .type "BaseException", .type "object"] "ValueError.__new__" = true)
    (xk_BadMerge : PySem.W.keepIn K (.ref c_BadMerge) = true)
    (xs_BadMerge : PySem.W.subIn K (.ref c_BadMerge) (.type "BaseException") = some true)
    (xt_BadMerge : PySem.W.typeIn K (.ref c_BadMerge) = some (.type "type"))
    (xe_BadNumber : PySem.W.excIn K c_BadNumber [.type "ValueError", .type "Exception", .type "BaseException", .type "object"] "ValueError.__new__" = true)
    (xk_BadNumber : PySem.W.keepIn K (.ref c_BadNumber) = true)
    (xs_BadNumber : PySem.W.subIn K (.ref c_BadNumber) (.type "BaseException") = some true)
    (xt_BadNumber : PySem.W.typeIn K (.ref c_BadNumber) = some (.type "type"))
    (xd_BadNumber : PySem.W.hasDictIn K c_BadNumber = true)
    (xx_BadNumber_BadNumber : PySem.W.subIn K (.ref c_BadNumber) (.ref c_BadNumber) = some true)
    (xs_Fault : PySem.W.subIn K (.ref c_Fault) (.type "BaseException") = some true)
    (xt_Fault : PySem.W.typeIn K (.ref c_Fault) = some (.type "type"))
    (xd_Fault : PySem.W.hasDictIn K c_Fault = true)
    (xx_BadNumber_Fault : PySem.W.subIn K (.ref c_BadNumber) (.ref c_Fault) = some true)
    (eg_BadNumber : PySem.W.findIn K (.ref c_BadNumber) "__getattribute__" = some (some (.builtin "BaseException.__getattribute__")))
    (ek_BadNumber : PySem.W.findIn K (.ref c_BadNumber) "__getattr__" = some none)
    (ea_BadNumber : PySem.W.findIn K (.ref c_BadNumber) "__class__" = some (some (.builtin "object.__class__")))
    (en : PySem.W.specialIn K (.builtin "object.__class__") "__get__" = some (some (.builtin "getset_descriptor.__get__")))
    (et : PySem.W.takesIn K (.builtin "object.__class__") = some true)
    (em_BadNumber : PySem.W.mroIn K c_BadNumber (.type "object") = some true)
    (ik_BadNumber_BadGroup : PySem.W.kitOne K (.ref c_BadNumber) (.ref c_BadGroup) = some false)
    (ik_BadNumber_BadNames : PySem.W.kitOne K (.ref c_BadNumber) (.ref c_BadNames) = some false)
    (ik_BadNumber_Fault : PySem.W.kitOne K (.ref c_BadNumber) (.ref c_Fault) = some true)
    (ik_BadNumber_ValueError : PySem.W.kitOne K (.ref c_BadNumber) (.type "ValueError") = some true)
    (zb_ValueError : PySem.W.nsIn K mainGlobals "ValueError" = some none)
    (zb_abs : PySem.W.nsIn K mainGlobals "abs" = some none)
    (zb_bool : PySem.W.nsIn K mainGlobals "bool" = some none)
    (zb_enumerate : PySem.W.nsIn K mainGlobals "enumerate" = some none)
    (zb_int : PySem.W.nsIn K mainGlobals "int" = some none)
    (zb_isinstance : PySem.W.nsIn K mainGlobals "isinstance" = some none)
    (zb_len : PySem.W.nsIn K mainGlobals "len" = some none)
    (zb_list : PySem.W.nsIn K mainGlobals "list" = some none)
    (zb_range : PySem.W.nsIn K mainGlobals "range" = some none)
    (zb_sorted : PySem.W.nsIn K mainGlobals "sorted" = some none)
    (zb_tuple : PySem.W.nsIn K mainGlobals "tuple" = some none)
    (zv_MOST_ORDER : PySem.W.nsIn K mainGlobals "MOST_ORDER" = some (some (.int 8 tv_MOST_ORDER)))
    : ∃ fd : FuncData, (∀ (s : Shared) (v : Value), BindsTo s fd ⟨[v], []⟩ [("script", v)]) ∧ ∀ base : Heap, K.In base → base.Ns mainGlobals mg → FnOk l.prog w K mg base (L2.CX l.prog w) 12 fa fd ["script"] (spLawD K) := by
  have e : f_law = fa := by
    have e := (PySem.W.mg_of X G a_law).symm.trans hfa
    injection e with e
    injection e
  subst e
  have T : Txt K mg f_is_renaming f_check_table f_Group_product f_commutator_counts f_commutator_rows f_is_associative f_Group_init f_law_numbers f_law_take f_law_shuffled f_law_group f_law_named f_law_power f_law_product f_law_alike f_law_anew f_law_drawn_kind f_law_degrees f_law_due_rows f_law_due_counts f_law_refused f_law_group_fits f_law c_Fault c_BadMerge c_BadGroup c_BadNames c_BadNumber c_Group := {
    g_is_renaming := PySem.W.mg_of X G a_is_renaming,
    k_is_renaming := kp_is_renaming,
    g_check_table := PySem.W.mg_of X G a_check_table,
    k_check_table := kp_check_table,
    m_Group_product := ⟨a_Group_product, i_Group_product, kp_Group_product⟩,
    g_commutator_counts := PySem.W.mg_of X G a_commutator_counts,
    k_commutator_counts := kp_commutator_counts,
    g_commutator_rows := PySem.W.mg_of X G a_commutator_rows,
    k_commutator_rows := kp_commutator_rows,
    g_is_associative := PySem.W.mg_of X G a_is_associative,
    k_is_associative := kp_is_associative,
    g_law_numbers := PySem.W.mg_of X G a_law_numbers,
    k_law_numbers := kp_law_numbers,
    g_law_take := PySem.W.mg_of X G a_law_take,
    k_law_take := kp_law_take,
    g_law_shuffled := PySem.W.mg_of X G a_law_shuffled,
    k_law_shuffled := kp_law_shuffled,
    g_law_group := PySem.W.mg_of X G a_law_group,
    k_law_group := kp_law_group,
    g_law_named := PySem.W.mg_of X G a_law_named,
    k_law_named := kp_law_named,
    g_law_power := PySem.W.mg_of X G a_law_power,
    k_law_power := kp_law_power,
    g_law_product := PySem.W.mg_of X G a_law_product,
    k_law_product := kp_law_product,
    g_law_alike := PySem.W.mg_of X G a_law_alike,
    k_law_alike := kp_law_alike,
    g_law_anew := PySem.W.mg_of X G a_law_anew,
    k_law_anew := kp_law_anew,
    g_law_drawn_kind := PySem.W.mg_of X G a_law_drawn_kind,
    k_law_drawn_kind := kp_law_drawn_kind,
    g_law_degrees := PySem.W.mg_of X G a_law_degrees,
    k_law_degrees := kp_law_degrees,
    g_law_due_rows := PySem.W.mg_of X G a_law_due_rows,
    k_law_due_rows := kp_law_due_rows,
    g_law_due_counts := PySem.W.mg_of X G a_law_due_counts,
    k_law_due_counts := kp_law_due_counts,
    g_law_refused := PySem.W.mg_of X G a_law_refused,
    k_law_refused := kp_law_refused,
    g_law_group_fits := PySem.W.mg_of X G a_law_group_fits,
    k_law_group_fits := kp_law_group_fits,
    g_law := PySem.W.mg_of X G a_law,
    k_law := kp_law,
    g_Fault := PySem.W.mg_of X G a_Fault,
    g_BadMerge := PySem.W.mg_of X G a_BadMerge,
    g_BadGroup := PySem.W.mg_of X G a_BadGroup,
    g_BadNames := PySem.W.mg_of X G a_BadNames,
    g_BadNumber := PySem.W.mg_of X G a_BadNumber,
    g_Group := PySem.W.mg_of X G a_Group,
    cl_Group := ⟨pg_Group, hd_Group, po_Group, sa_Group⟩,
    mk_Group := ⟨mi_Group, a_Group_init, i_Group_init, kc_Group⟩,
    n_commutative := (fld_cons (PySem.W.mg_of X G a_Group) ⟨pg_Group, hd_Group, po_Group, sa_Group⟩ nf_Group_commutative fld_nil),
    n_inverses := (fld_cons (PySem.W.mg_of X G a_Group) ⟨pg_Group, hd_Group, po_Group, sa_Group⟩ nf_Group_inverses fld_nil),
    n_order := (fld_cons (PySem.W.mg_of X G a_Group) ⟨pg_Group, hd_Group, po_Group, sa_Group⟩ nf_Group_order fld_nil),
    n_rows := (fld_cons (PySem.W.mg_of X G a_Group) ⟨pg_Group, hd_Group, po_Group, sa_Group⟩ nf_Group_rows fld_nil),
    e_BadGroup := xe_BadGroup,
    kc_BadGroup := xk_BadGroup,
    s_BadGroup := xs_BadGroup,
    ty_BadGroup := xt_BadGroup,
    e_BadMerge := xe_BadMerge,
    kc_BadMerge := xk_BadMerge,
    s_BadMerge := xs_BadMerge,
    ty_BadMerge := xt_BadMerge,
    e_BadNumber := xe_BadNumber,
    kc_BadNumber := xk_BadNumber,
    s_BadNumber := xs_BadNumber,
    ty_BadNumber := xt_BadNumber,
    x_BadNumber_BadNumber := PySem.W.exm_ref xs_BadNumber xd_BadNumber xt_BadNumber xx_BadNumber_BadNumber,
    x_BadNumber_Fault := PySem.W.exm_ref xs_Fault xd_Fault xt_Fault xx_BadNumber_Fault,
    x_BadNumber := ⟨eg_BadNumber, ek_BadNumber, xs_BadNumber, xd_BadNumber, ea_BadNumber, en, et, em_BadNumber⟩,
    i_BadNumber_BadGroup := ik_BadNumber_BadGroup,
    i_BadNumber_BadNames := ik_BadNumber_BadNames,
    i_BadNumber_Fault := ik_BadNumber_Fault,
    i_BadNumber_ValueError := ik_BadNumber_ValueError,
    b_ValueError := PySem.W.mg_none_of X G zb_ValueError,
    b_abs := PySem.W.mg_none_of X G zb_abs,
    b_bool := PySem.W.mg_none_of X G zb_bool,
    b_enumerate := PySem.W.mg_none_of X G zb_enumerate,
    b_int := PySem.W.mg_none_of X G zb_int,
    b_isinstance := PySem.W.mg_none_of X G zb_isinstance,
    b_len := PySem.W.mg_none_of X G zb_len,
    b_list := PySem.W.mg_none_of X G zb_list,
    b_range := PySem.W.mg_none_of X G zb_range,
    b_sorted := PySem.W.mg_none_of X G zb_sorted,
    b_tuple := PySem.W.mg_none_of X G zb_tuple,
    v_MOST_ORDER := ⟨_, PySem.W.mg_of X G zv_MOST_ORDER⟩ }
  have F_is_renaming := fun_mk (st := s_is_renaming) l_is_renaming cd2_is_renaming kp_is_renaming
  have B_is_renaming := F_is_renaming.binds (ps := ["names", "order"]) fun _ _ _ _ _ _ us hl => match us, hl with | [_, _], _ => rfl
  have F_check_table := fun_mk (st := s_check_table) l_check_table cd2_check_table kp_check_table
  have B_check_table := F_check_table.binds (ps := ["rows"]) fun _ _ _ _ _ _ us hl => match us, hl with | [_], _ => rfl
  have F_Group_product := fun_mk (st := s_Group_product) l_Group_product cd2_Group_product kp_Group_product
  have F_commutator_counts := fun_mk (st := s_commutator_counts) l_commutator_counts cd2_commutator_counts kp_commutator_counts
  have B_commutator_counts := F_commutator_counts.binds (ps := ["group"]) fun _ _ _ _ _ _ us hl => match us, hl with | [_], _ => rfl
  have F_commutator_rows : FunD K "commutator_rows" "commutator_rows" (defArgs s_commutator_rows) (defBody s_commutator_rows) (defScope s_commutator_rows) [(.int 1)] [] f_commutator_rows (PySem.W.fnOf "commutator_rows" "commutator_rows" (defArgs s_commutator_rows) (defBody s_commutator_rows) (defScope s_commutator_rows) (.ref T_commutator_rows) kV_commutator_rows dc_commutator_rows pm_commutator_rows an_commutator_rows cd_commutator_rows ct_commutator_rows) := ⟨⟨oc_commutator_rows, od_commutator_rows, .ref T_commutator_rows, kV_commutator_rows, dc_commutator_rows, pm_commutator_rows, an_commutator_rows, cd_commutator_rows, ct_commutator_rows, sl_commutator_rows, rfl, l_commutator_rows, cd2_commutator_rows, .inr ⟨by simp, T_commutator_rows, _, [.int 1 tk0_commutator_rows], nT_commutator_rows, rfl, lT_commutator_rows, rfl, (.cons ⟨_, rfl⟩ .nil)⟩, .inl rfl⟩, kp_commutator_rows⟩
  obtain ⟨du0_commutator_rows, V0_commutator_rows, B_commutator_rows⟩ := F_commutator_rows.binds1 (ps := ["group", "number"]) 2 1 (by simp) rfl (fun T kV doc pm an cdv ct us its hu hi => match us, hu, its, hi with | [_, _], _, [_], _ => ⟨_, rfl, rfl⟩)
  cases V0_commutator_rows
  obtain ⟨du1_commutator_rows, V1_commutator_rows, B1_commutator_rows⟩ := F_commutator_rows.binds1 (ps := ["group", "number"]) 1 0 (by simp) rfl (fun T kV doc pm an cdv ct us its hu hi => match us, hu, its, hi with | [_], _, [_], _ => ⟨_, rfl, rfl⟩)
  have W_commutator_rows_number : KwB K (PySem.W.fnOf "commutator_rows" "commutator_rows" (defArgs s_commutator_rows) (defBody s_commutator_rows) (defScope s_commutator_rows) (.ref T_commutator_rows) kV_commutator_rows dc_commutator_rows pm_commutator_rows an_commutator_rows cd_commutator_rows ct_commutator_rows) ["group", "number"] 1 ["number"] [] := kwB_of lT_commutator_rows rfl fun us ws hu hw => match us, hu, ws, hw with | [_], _, [_], _ => ⟨_, rfl, rfl⟩
  have F_is_associative := fun_mk (st := s_is_associative) l_is_associative cd2_is_associative kp_is_associative
  have B_is_associative := F_is_associative.binds (ps := ["rows"]) fun _ _ _ _ _ _ us hl => match us, hl with | [_], _ => rfl
  have F_Group_init := fun_mk (st := s_Group_init) l_Group_init cd2_Group_init kp_Group_init
  have B_Group_init := F_Group_init.binds (ps := ["self", "rows"]) fun _ _ _ _ _ _ us hl => match us, hl with | [_, _], _ => rfl
  have F_law_numbers := fun_mk (st := s_law_numbers) l_law_numbers cd2_law_numbers kp_law_numbers
  have B_law_numbers := F_law_numbers.binds (ps := ["script", "many"]) fun _ _ _ _ _ _ us hl => match us, hl with | [_, _], _ => rfl
  have F_law_take := fun_mk (st := s_law_take) l_law_take cd2_law_take kp_law_take
  have B_law_take := F_law_take.binds (ps := ["numbers", "many"]) fun _ _ _ _ _ _ us hl => match us, hl with | [_, _], _ => rfl
  have F_law_shuffled := fun_mk (st := s_law_shuffled) l_law_shuffled cd2_law_shuffled kp_law_shuffled
  have B_law_shuffled := F_law_shuffled.binds (ps := ["numbers", "many"]) fun _ _ _ _ _ _ us hl => match us, hl with | [_, _], _ => rfl
  have F_law_group := fun_mk (st := s_law_group) l_law_group cd2_law_group kp_law_group
  have B_law_group := F_law_group.binds (ps := ["kind"]) fun _ _ _ _ _ _ us hl => match us, hl with | [_], _ => rfl
  have F_law_named := fun_mk (st := s_law_named) l_law_named cd2_law_named kp_law_named
  have B_law_named := F_law_named.binds (ps := ["rows", "names"]) fun _ _ _ _ _ _ us hl => match us, hl with | [_, _], _ => rfl
  have F_law_power := fun_mk (st := s_law_power) l_law_power cd2_law_power kp_law_power
  have B_law_power := F_law_power.binds (ps := ["base", "many"]) fun _ _ _ _ _ _ us hl => match us, hl with | [_, _], _ => rfl
  have F_law_product := fun_mk (st := s_law_product) l_law_product cd2_law_product kp_law_product
  have B_law_product := F_law_product.binds (ps := ["rows", "things"]) fun _ _ _ _ _ _ us hl => match us, hl with | [_, _], _ => rfl
  have F_law_alike := fun_mk (st := s_law_alike) l_law_alike cd2_law_alike kp_law_alike
  have B_law_alike := F_law_alike.binds (ps := ["found", "due"]) fun _ _ _ _ _ _ us hl => match us, hl with | [_, _], _ => rfl
  have F_law_anew := fun_mk (st := s_law_anew) l_law_anew cd2_law_anew kp_law_anew
  have B_law_anew := F_law_anew.binds (ps := ["numbers", "kind"]) fun _ _ _ _ _ _ us hl => match us, hl with | [_, _], _ => rfl
  have F_law_drawn_kind := fun_mk (st := s_law_drawn_kind) l_law_drawn_kind cd2_law_drawn_kind kp_law_drawn_kind
  have B_law_drawn_kind := F_law_drawn_kind.binds (ps := ["numbers"]) fun _ _ _ _ _ _ us hl => match us, hl with | [_], _ => rfl
  have F_law_degrees := fun_mk (st := s_law_degrees) l_law_degrees cd2_law_degrees kp_law_degrees
  have B_law_degrees := F_law_degrees.binds (ps := ["kind", "order"]) fun _ _ _ _ _ _ us hl => match us, hl with | [_, _], _ => rfl
  have F_law_due_rows := fun_mk (st := s_law_due_rows) l_law_due_rows cd2_law_due_rows kp_law_due_rows
  have B_law_due_rows := F_law_due_rows.binds (ps := ["kind", "order", "pairs"]) fun _ _ _ _ _ _ us hl => match us, hl with | [_, _, _], _ => rfl
  have F_law_due_counts := fun_mk (st := s_law_due_counts) l_law_due_counts cd2_law_due_counts kp_law_due_counts
  have B_law_due_counts := F_law_due_counts.binds (ps := ["rows"]) fun _ _ _ _ _ _ us hl => match us, hl with | [_], _ => rfl
  have F_law_refused := fun_mk (st := s_law_refused) l_law_refused cd2_law_refused kp_law_refused
  have B_law_refused := F_law_refused.binds (ps := ["group", "pairs"]) fun _ _ _ _ _ _ us hl => match us, hl with | [_, _], _ => rfl
  have F_law_group_fits := fun_mk (st := s_law_group_fits) l_law_group_fits cd2_law_group_fits kp_law_group_fits
  have B_law_group_fits := F_law_group_fits.binds (ps := ["group", "rows", "kind", "many"]) fun _ _ _ _ _ _ us hl => match us, hl with | [_, _, _, _], _ => rfl
  have F_law := fun_mk (st := s_law) l_law cd2_law kp_law
  have B_law := F_law.binds (ps := ["script"]) fun _ _ _ _ _ _ us hl => match us, hl with | [_], _ => rfl
  refine ⟨PySem.W.fnOf "law" "law" (defArgs s_law) (defBody s_law) (defScope s_law) .none kV_law dc_law pm_law an_law cd_law ct_law, fun s v => .of_eq rfl, fun base _ _ => ?_⟩
  have G_is_renaming := ok_is_renaming (P := l.prog) (w := w) (base := base) F_is_renaming T 
  have G_check_table := ok_check_table (P := l.prog) (w := w) (base := base) F_check_table T G_is_renaming B_is_renaming
  have G_Group_product_5 := ok_Group_product (P := l.prog) (w := w) (base := base) F_Group_product T  5 (by decide)
  have G_commutator_counts := ok_commutator_counts (P := l.prog) (w := w) (base := base) F_commutator_counts T G_Group_product_5
  have G_commutator_rows := ok_commutator_rows (P := l.prog) (w := w) (base := base) F_commutator_rows T G_commutator_counts B_commutator_counts
  have G_is_associative := ok_is_associative (P := l.prog) (w := w) (base := base) F_is_associative T 
  have G_Group_init := ok_Group_init (P := l.prog) (w := w) (base := base) F_Group_init T G_check_table B_check_table G_is_associative B_is_associative
  have G_law_numbers := ok_law_numbers (P := l.prog) (w := w) (base := base) F_law_numbers T 
  have G_law_take := ok_law_take (P := l.prog) (w := w) (base := base) F_law_take T 
  have G_law_shuffled := ok_law_shuffled (P := l.prog) (w := w) (base := base) F_law_shuffled T G_law_take B_law_take
  have G_law_group := ok_law_group (P := l.prog) (w := w) (base := base) F_law_group T 
  have G_law_named := ok_law_named (P := l.prog) (w := w) (base := base) F_law_named T 
  have G_law_power := ok_law_power (P := l.prog) (w := w) (base := base) F_law_power T 
  have G_law_product := ok_law_product (P := l.prog) (w := w) (base := base) F_law_product T 
  have G_law_alike := ok_law_alike (P := l.prog) (w := w) (base := base) F_law_alike T B_law_alike 9
  have G_law_anew := ok_law_anew (P := l.prog) (w := w) (base := base) F_law_anew T G_law_group B_law_group G_law_named B_law_named G_law_shuffled B_law_shuffled
  have G_law_drawn_kind := ok_law_drawn_kind (P := l.prog) (w := w) (base := base) F_law_drawn_kind T G_law_take B_law_take
  have G_law_degrees := ok_law_degrees (P := l.prog) (w := w) (base := base) F_law_degrees T 
  have G_law_due_rows := ok_law_due_rows (P := l.prog) (w := w) (base := base) F_law_due_rows T G_law_degrees B_law_degrees G_law_power B_law_power
  have G_law_due_counts := ok_law_due_counts (P := l.prog) (w := w) (base := base) F_law_due_counts T G_law_product B_law_product
  have G_law_refused := ok_law_refused (P := l.prog) (w := w) (base := base) F_law_refused T G_commutator_rows B_commutator_rows
  have G_law_group_fits := ok_law_group_fits (P := l.prog) (w := w) (base := base) F_law_group_fits T G_law_alike B_law_alike G_law_due_counts B_law_due_counts G_law_due_rows B_law_due_rows G_commutator_counts B_commutator_counts G_commutator_rows B_commutator_rows V1_commutator_rows B1_commutator_rows W_commutator_rows_number
  exact (ok_law (P := l.prog) (w := w) (base := base) F_law T G_Group_init B_Group_init G_law_alike B_law_alike G_law_anew B_law_anew G_law_drawn_kind B_law_drawn_kind G_law_due_counts B_law_due_counts G_law_group_fits B_law_group_fits G_law_numbers B_law_numbers G_law_refused B_law_refused G_law_take B_law_take G_commutator_counts B_commutator_counts G_commutator_rows B_commutator_rows).imp (law_sp pure)
end K12

set_option Elab.async false
set_option linter.all false
set_option maxRecDepth 10000
/-! P1: words for the plain laws -/
namespace DL
open PySem L2
theorem seq_nx {f g : SF} {s s1 : DS} (h : f s = .nx s1) : sSeq f g s = g s1 := by unfold sSeq; rw [h]
theorem seq_rt {f g : SF} {s s1 : DS} {x : DV} (h : f s = .rt x s1) : sSeq f g s = .rt x s1 := by unfold sSeq; rw [h]
theorem seq_ex {f g : SF} {s s1 : DS} {C : Str} {pl : List (Str × D)} (h : f s = .ex C pl s1) : sSeq f g s = .ex C pl s1 := by unfold sSeq; rw [h]
theorem if_t {t : TF} {f g : SF} {s s1 : DS} (h : t s = .ok true s1) : sIf t f g s = f s1 := by unfold sIf; rw [h]
theorem if_f {t : TF} {f g : SF} {s s1 : DS} (h : t s = .ok false s1) : sIf t f g s = g s1 := by unfold sIf; rw [h]
/-- name = e, an expression whose worth is no place -/
theorem asg_d {f : EF} {s s1 : DS} {i n : Nat} {d : D} (h : f s = .ok (.dat n d) s1) (c : (decide (i < s1.sl.length) && !s1.lk.contains i) = true) : sAsg i f s = .nx ⟨putS s1.sl i (.dat n d), s1.lk⟩ := by
  unfold sAsg
  rw [h]
  show (if (decide (i < s1.sl.length) && !s1.lk.contains i) = true then _ else _) = _
  rw [if_pos c]; rfl
theorem ret_e {f : EF} {s s1 : DS} {x : DV} (h : f s = .ok x s1) : sRet f s = .rt x s1 := by unfold sRet; rw [h]
theorem bin_e {g : DV → DV → DS → Option (DV × DS)} {a b : EF} {s s1 s2 s3 : DS} {x y z : DV} (h : a s = .ok x s1) (h2 : b s1 = .ok y s2) (h3 : g x y s2 = some (z, s3)) : eBin g a b s = .ok z s3 := by
  unfold eBin; rw [h]; simp only []; rw [h2]; simp only []; rw [h3]
/-- a loop by an invariant -/
theorem forGo_inv {itm : Nat → DS → Option (IV × DS)} {tgt : GF} {body : SF} {x : DV} (I : Nat → DS → Prop) : ∀ (m i : Nat) (s : DS), I i s →
    (∀ j s, i ≤ j → j < i + m → I j s → ∃ y s1 s2 s3, itm j s = some (y, s1) ∧ tgt y s1 = some s2 ∧ (body s2 = .nx s3 ∨ body s2 = .ct s3) ∧ I (j + 1) s3) → ∃ s', forGo itm tgt body x m i s = .nx (unl x s') ∧ I (i + m) s'
  | 0, i, s, h, _ => ⟨s, rfl, h⟩
  | m + 1, i, s, h, k => by
    obtain ⟨y, s1, s2, s3, h1, h2, h3, h4⟩ := k i s (Nat.le_refl _) (by omega) h
    obtain ⟨s', h5, h6⟩ := forGo_inv I m (i + 1) s3 h4 fun j s a b => k j s (by omega) (by omega)
    refine ⟨s', ?_, by rw [show i + (m + 1) = i + 1 + m by omega]; exact h6⟩
    unfold forGo
    simp only [h1, h2]
    rcases h3 with h3 | h3 <;> (simp only [h3]; exact h5)
/-- for name in range(m) -/
theorem for_rng {fs : List EF} {t : Nat} {body : SF} {s s0 : DS} {m : Nat} (I : Nat → DS → Prop) (h0 : evA fs s = .ok [.dat 0 (.int m)] s0) (hm : m < 4611686018427387904) (hI : I 0 s0)
    (hb : ∀ j s, j < m → I j s → (decide (t < s.sl.length) && !s.lk.contains t) = true ∧ ∃ s', (body ⟨putS s.sl t (.dat 0 (.int (j : Nat))), s.lk⟩ = .nx s' ∨ body ⟨putS s.sl t (.dat 0 (.int (j : Nat))), s.lk⟩ = .ct s') ∧ I (j + 1) s') :
    ∃ s', sFor (iRng fs) (tName t) body s = .nx s' ∧ I m s' := by
  obtain ⟨s', e, h⟩ := forGo_inv (itm := rgItm 0) (tgt := tName t) (body := body) (x := .dat 0 .non) I m 0 s0 hI (by
    intro j s _ b i
    obtain ⟨c, s', e, k⟩ := hb j s (by omega) i
    refine ⟨_, s, ⟨putS s.sl t (.dat 0 (.int (j : Nat))), s.lk⟩, s', rfl, ?_, e, k⟩
    show (if (decide (t < s.sl.length) && !s.lk.contains t) = true then some (DS.mk (putS s.sl t (.dat 0 (.int (0 + (j : Nat))))) s.lk) else none) = _
    rw [if_pos c, Int.zero_add])
  refine ⟨s', ?_, by rw [Nat.zero_add] at h; exact h⟩
  unfold sFor iRng
  rw [h0]
  have ok : okR (m : Int) = true := by
    unfold okR
    rw [Bool.and_eq_true, decide_eq_true_eq, decide_eq_true_eq]
    omega
  simp only [ok, if_true]
  exact e
theorem fn_rt {io : List Nat} {ns : Nat} {body : SF} {as : List SV} {x : DV} {s : DS} {sl : List (Option SV)} (hs : as.map some ++ List.replicate (ns - as.length) none = sl) (h : body ⟨sl, []⟩ = .rt x s) : fnF io ns body as = finF io x s := by
  subst hs; unfold fnF; rw [h]
theorem fn_e {io : List Nat} {ns : Nat} {body : SF} {as : List SV} {x : DV} {s : DS} {sl : List (Option SV)} {r : FO} (hs : as.map some ++ List.replicate (ns - as.length) none = sl) (h : body ⟨sl, []⟩ = .rt x s) (hr : finF io x s = r) : fnF io ns body as = r := (fn_rt hs h).trans hr
theorem fn_nx {io : List Nat} {ns : Nat} {body : SF} {as : List SV} {s : DS} {sl : List (Option SV)} (hs : as.map some ++ List.replicate (ns - as.length) none = sl) (h : body ⟨sl, []⟩ = .nx s) : fnF io ns body as = finF io (.dat 0 .non) s := by
  subst hs; unfold fnF; rw [h]
/-- an int slot, or none yet -/
def sI : Option Int → Option SV
  | some i => some (.dat 0 (.int i))
  | none => none
theorem kill_sI (i : Nat) (z : Option Int) : killX i (sI z) = sI z := by cases z <;> rfl
end DL

set_option Elab.async false
set_option linter.all false
set_option maxRecDepth 10000
/-! P2: lists of ints under the plain laws -/
namespace DL
open PySem L2
abbrev NL (xs : List Int) : D := .lst (xs.map D.int)
abbrev NT' (xs : List Int) : D := .tup (xs.map D.int)
theorem flat_ints (xs : List Int) : (xs.map D.int).all D.flat = true := by
  rw [List.all_eq_true]
  intro x hx
  obtain ⟨i, _, rfl⟩ := List.mem_map.mp hx
  rfl
theorem all_erase {ds : List D} (h : ds.all D.flat = true) (k : Nat) : (ds.eraseIdx k).all D.flat = true := by
  rw [List.all_eq_true] at h ⊢
  exact fun x hx => h x (List.mem_of_mem_eraseIdx hx)
theorem popK_ok {sl : List (Option SV)} {lk : List Nat} {j n k : Nat} {ds : List D} {c : D} (h : sl[j]? = some (some (.dat (n + 1) (.lst ds)))) (hk : ds[k]? = some c) (fl : ds.all D.flat = true) (hl : lk.contains j = false) :
    gPopK j [] ds k ⟨sl, j :: lk⟩ = some (.dat 0 c, ⟨wrS sl j [] (.dat (n + 1) (.lst (ds.eraseIdx k))), lk⟩) := by
  have o : owned sl j [] = true := by unfold owned; rw [h]; rfl
  have w : wrF j [] ds (ds.eraseIdx k) ⟨sl, lk⟩ = some ⟨wrS sl j [] (.dat (n + 1) (.lst (ds.eraseIdx k))), lk⟩ := by
    unfold wrF
    simp only [fl, all_erase fl k, Bool.and_self, if_true]
    rw [h]
    simp only [List.length_nil, Nat.zero_lt_succ, if_true]
    rfl
  unfold gPopK
  simp only [List.tail_cons, o, hl, Bool.not_false, Bool.and_self, if_true]
  rw [hk, w]
theorem deq_int (a b : Int) : deq (.int a) (.int b) = some (decide (a = b)) := by
  show some (PyData.eqv (.int a) (.int b)) = _
  simp only [PyData.eqv]
  exact congrArg some (by by_cases c : a = b <;> simp [c])
theorem eq_ok {a b : Int} {n m : Nat} {s : DS} : dEq (.dat n (.int a)) (.dat m (.int b)) s = some (.dat 0 (.bl (decide (a = b))), s) := by
  unfold dEq gEq
  simp only [DV.d, deq_int]
  rfl
theorem eq_b {a b : Int} {n m : Nat} {s : DS} {c : Bool} (h : decide (a = b) = c) : dEq (.dat n (.int a)) (.dat m (.int b)) s = some (.dat 0 (.bl c), s) := h ▸ eq_ok
theorem lt_ok {a b : Int} {n m : Nat} {s : DS} : dLt (.dat n (.int a)) (.dat m (.int b)) s = some (.dat 0 (.bl (decide (a < b))), s) := rfl
theorem lt_b {a b : Int} {n m : Nat} {s : DS} {c : Bool} (h : decide (a < b) = c) : dLt (.dat n (.int a)) (.dat m (.int b)) s = some (.dat 0 (.bl c), s) := h ▸ lt_ok
theorem gt_ok {a b : Int} {n m : Nat} {s : DS} : dGt (.dat n (.int a)) (.dat m (.int b)) s = some (.dat 0 (.bl (decide (b < a))), s) := rfl
theorem ge_ok {a b : Int} {n m : Nat} {s : DS} : dGe (.dat n (.int a)) (.dat m (.int b)) s = some (.dat 0 (.bl (decide (b ≤ a))), s) := rfl
theorem gt_b {a b : Int} {n m : Nat} {s : DS} {c : Bool} (h : decide (b < a) = c) : dGt (.dat n (.int a)) (.dat m (.int b)) s = some (.dat 0 (.bl c), s) := h ▸ gt_ok
theorem ge_b {a b : Int} {n m : Nat} {s : DS} {c : Bool} (h : decide (b ≤ a) = c) : dGe (.dat n (.int a)) (.dat m (.int b)) s = some (.dat 0 (.bl c), s) := h ▸ ge_ok
theorem mul_ok {i j : Int} {n m : Nat} {s : DS} (h : -18446744073709551616 < j ∧ j < 18446744073709551616) : dMul (.dat n (.int i)) (.dat m (.int j)) s = some (.dat 0 (.int (i * j)), s) := by
  unfold dMul gInt
  have c : (-(2 ^ 64) < i ∧ i < 2 ^ 64) ∨ (-(2 ^ 64) < j ∧ j < 2 ^ 64) := .inr (by simpa using h)
  simp only [DV.d, if_pos c]
  rfl
theorem mod_ok {i j : Int} {n m : Nat} {s : DS} (h : 0 < j) : dMod (.dat n (.int i)) (.dat m (.int j)) s = some (.dat 0 (.int (i % j)), s) := by
  unfold dMod gInt
  simp only [DV.d, if_pos h]
  rfl
theorem div_ok {i j : Int} {n m : Nat} {s : DS} (h : 0 < j ∧ j < 1073741824) : dDiv (.dat n (.int i)) (.dat m (.int j)) s = some (.dat 0 (.int (i / j)), s) := by
  unfold dDiv gInt
  simp only [DV.d, if_pos h]
  rfl
theorem tof_e {f : EF} {s s1 : DS} {n : Nat} {b : Bool} (h : f s = .ok (.dat n (.bl b)) s1) : tOf f s = .ok b s1 := by unfold tOf; rw [h]
theorem eva_nil (s : DS) : evA [] s = .ok [] s := rfl
theorem eva_c {f : EF} {fs : List EF} {s s1 s2 : DS} {x : DV} {xs : List DV} (h : f s = .ok x s1) (h2 : evA fs s1 = .ok xs s2) : evA (f :: fs) s = .ok (x :: xs) s2 := by
  unfold evA; rw [h]; simp only []; rw [h2]
theorem call_e {g : List DV → DS → Option (DV × DS)} {fs : List EF} {s s1 s2 : DS} {xs : List DV} {z : DV} (h : evA fs s = .ok xs s1) (h2 : g xs s1 = some (z, s2)) : eCall g fs s = .ok z s2 := by
  unfold eCall; rw [h]; simp only []; rw [h2]
theorem meth_e {g : DV → List DV → DS → Option (DV × DS)} {f : EF} {fs : List EF} {s s1 s2 s3 : DS} {x z : DV} {ys : List DV} (h : f s = .ok x s1) (hl : isLst x.d = true) (h2 : evA fs s1 = .ok ys s2) (h3 : g x ys s2 = some (z, s3)) : eMeth g f fs s = .ok z s3 := by
  unfold eMeth; rw [h]; simp only [hl, if_true]; rw [h2]; simp only []; rw [h3]
theorem len_plc {j : Nat} {p : List Nat} {ds : List D} {sl : List (Option SV)} {lk : List Nat} {a : Nat} : gLen [.plc j p (.lst ds)] ⟨sl, a :: lk⟩ = some (.dat 0 (.int ds.length), ⟨sl, lk⟩) := rfl
end DL

set_option Elab.async false
set_option linter.all false
set_option maxRecDepth 10000
/-! P3: calls, appends, pops under the plain laws -/
namespace DL
open PySem L2
theorem callF_e {fn : FD} {io : List Nat} {cs : List CM} {ds : List D} {fs : List EF} {s s1 s2 : DS} {xs : List DV} {ar : List SV} {n : Nat} {d : D} {ios : List (Nat × D)} (h : evA fs s = .ok xs s1) (ha : cArgs s1 cs (xs ++ ds.map (.dat 0)) = some ar) (hg : ((ioPairs 0 cs (xs ++ ds.map (.dat 0))).map (·.1) == io && okIo (ioPairs 0 cs (xs ++ ds.map (.dat 0))) s1.lk) = true) (hf : fn ar = .ok n d ios) (hb : backS (ioPairs 0 cs (xs ++ ds.map (.dat 0))) ios (xs ++ ds.map (.dat 0)) s1 = s2) :
    eCallF fn io cs ds fs s = .ok (.dat n d) s2 := by
  unfold eCallF callG withD
  rw [h]
  simp only []
  rw [ha]
  simp only [hg, if_true]
  rw [hf]
  simp only []
  rw [hb]
theorem ixN_nat {n k : Nat} (h : k < n) : ixN n (k : Int) = some k := by
  unfold ixN
  simp [h]
theorem popAt_ok {sl : List (Option SV)} {lk : List Nat} {j n k : Nat} {ds : List D} {c : D} (h : sl[j]? = some (some (.dat (n + 1) (.lst ds)))) (hk : ds[k]? = some c) (k62 : k < 4611686018427387904) (fl : ds.all D.flat = true) (hl : lk.contains j = false) :
    gPopAt (.plc j [] (.lst ds)) [.dat 0 (.int k)] ⟨sl, j :: lk⟩ = some (.dat 0 c, ⟨wrS sl j [] (.dat (n + 1) (.lst (ds.eraseIdx k))), lk⟩) := by
  have e : -(2 ^ 63) ≤ (k : Int) ∧ (k : Int) < 2 ^ 63 := by omega
  have hlt : k < ds.length := (List.getElem?_eq_some_iff.mp hk).1
  unfold gPopAt
  simp only [if_pos e, ixN_nat hlt]
  exact popK_ok h hk fl hl
theorem append_ok {sl : List (Option SV)} {lk : List Nat} {j n m : Nat} {ds : List D} {e : D} (h : sl[j]? = some (some (.dat (n + 1) (.lst ds)))) (fe : e.flat = true) (hs : ds.length < sizeLine) (hl : lk.contains j = false) :
    gAppend (.plc j [] (.lst ds)) [.dat m e] ⟨sl, j :: lk⟩ = some (.dat 0 .non, ⟨wrS sl j [] (.dat (n + 1) (.lst (ds ++ [e]))), lk⟩) := by
  have o : owned sl j [] = true := by unfold owned; rw [h]; rfl
  unfold gAppend
  simp only [fe, if_true, List.tail_cons, o, hl, decide_eq_true hs, Bool.not_false, Bool.and_self]
  rw [h]
  rfl
theorem expr_e {f : EF} {s s1 : DS} {x : DV} (h : f s = .ok x s1) : sExpr f s = .nx (unl x s1) := by unfold sExpr; rw [h]
theorem mv_e {f : EF} {s s1 : DS} {n : Nat} {d : D} (h : f s = .ok (.dat n d) s1) : eMv f s = .ok (.dat n d) s1 := by unfold eMv; rw [h]
def upto (m : Nat) : List Int := (List.range m).map fun i => ((i : Nat) : Int)
theorem upto_len (m : Nat) : (upto m).length = m := by simp [upto]
theorem rgD_upto (m : Nat) : rgD 0 m = (upto m).map D.int := by
  unfold rgD upto
  rw [List.map_map, show ((m : Int) - 0).toNat = m by omega]
  exact List.map_congr_left fun i _ => by simp
theorem rg_e {f : EF} {s s1 : DS} {m : Nat} (h : f s = .ok (.dat 0 (.int m)) s1) (hm : m ≤ 16777216) : eRg1 false f s = .ok (.dat 1 (NL (upto m))) s1 := by
  unfold eRg1
  rw [h]
  simp only []
  unfold rgR rgO
  have o1 : okR 0 = true := rfl
  have o2 : okR (m : Int) = true := by unfold okR; rw [Bool.and_eq_true, decide_eq_true_eq, decide_eq_true_eq]; omega
  have o3 : decide (((m : Int) - 0).toNat ≤ 16777216) = true := decide_eq_true (by omega)
  simp only [o1, o2, o3, Bool.and_self, if_true]
  rw [rgD_upto]
  rfl
theorem rgT_e {f : EF} {s s1 : DS} {m : Nat} (h : f s = .ok (.dat 0 (.int m)) s1) (hm : m ≤ 16777216) : eRg1 true f s = .ok (.dat 0 (NT' (upto m))) s1 := by
  unfold eRg1
  rw [h]
  simp only []
  unfold rgR rgO
  have o1 : okR 0 = true := rfl
  have o2 : okR (m : Int) = true := by unfold okR; rw [Bool.and_eq_true, decide_eq_true_eq, decide_eq_true_eq]; omega
  have o3 : decide (((m : Int) - 0).toNat ≤ 16777216) = true := decide_eq_true (by omega)
  simp only [o1, o2, o3, Bool.and_self, if_true]
  rw [rgD_upto]
theorem eraseIdx_mapD {α β : Type} (f : α → β) : ∀ (l : List α) (k : Nat), (l.map f).eraseIdx k = (l.eraseIdx k).map f
  | [], _ => rfl
  | _ :: _, 0 => rfl
  | a :: l, k + 1 => by
    show f a :: (l.map f).eraseIdx k = f a :: (l.eraseIdx k).map f
    rw [eraseIdx_mapD f l k]
theorem cons_erase_perm {α : Type} : ∀ {l : List α} {k : Nat} (h : k < l.length), (l[k] :: l.eraseIdx k).Perm l
  | a :: l, 0, _ => List.Perm.refl _
  | a :: l, k + 1, h => by
    show (l[k]'(by simpa using h) :: a :: l.eraseIdx k).Perm (a :: l)
    exact (List.Perm.swap _ _ _).trans (List.Perm.cons _ (cons_erase_perm (by simpa using h)))
end DL

set_option Elab.async false
set_option linter.all false
set_option maxRecDepth 10000
/-! P4: loops over what is there, comprehensions -/
namespace DL
open PySem L2
theorem for_it {it : IF} {tgt : GF} {body : SF} {s s0 : DS} {x : DV} {n : Nat} {itm : Nat → DS → Option (IV × DS)} (I : Nat → DS → Prop) (h : it s = .ok x n itm s0) (hI : I 0 s0)
    (hb : ∀ j s, j < n → I j s → ∃ y s1 s2 s3, itm j s = some (y, s1) ∧ tgt y s1 = some s2 ∧ (body s2 = .nx s3 ∨ body s2 = .ct s3) ∧ I (j + 1) s3) : ∃ s', sFor it tgt body s = .nx (unl x s') ∧ I n s' := by
  obtain ⟨s', e, k⟩ := forGo_inv (x := x) I n 0 s0 hI fun j s _ b i => hb j s (by omega) i
  refine ⟨s', ?_, by rw [Nat.zero_add] at k; exact k⟩
  unfold sFor
  rw [h]
  exact e
theorem name_d {t n : Nat} {d : D} {s : DS} (c : (decide (t < s.sl.length) && !s.lk.contains t) = true) : tName t (.one (.dat n d)) s = some ⟨putS s.sl t (.dat n d), s.lk⟩ := by
  show (if (decide (t < s.sl.length) && !s.lk.contains t) = true then some (DS.mk (putS s.sl t (.dat n d)) s.lk) else none) = _
  rw [if_pos c]
theorem name_b {t : Nat} {d : D} {s : DS} (c : (decide (t < s.sl.length) && !s.lk.contains t) = true) : tName t (.one (.brw d)) s = some ⟨putS s.sl t (.brw d), s.lk⟩ := by
  show (if (decide (t < s.sl.length) && !s.lk.contains t) = true then some (DS.mk (putS s.sl t (.brw d)) s.lk) else none) = _
  rw [if_pos c]
/-- a part of a lent list: an int -/
theorem sq_brw {e : D} {ds : List D} {k : Nat} {i : Int} {s : DS} (h : ds[k]? = some (.int i)) : sqItm (.brw e) ds k s = some (.one (.dat 0 (.int i)), s) := by
  unfold sqItm
  rw [h]
  rfl
theorem sq_brwc {e c : D} {ds : List D} {k : Nat} {s : DS} (h : ds[k]? = some c) (hf : c.flat = false) : sqItm (.brw e) ds k s = some (.one (.brw c), s) := by
  unfold sqItm
  rw [h]
  simp only [dsub, dupS, hf]
  rfl
theorem sq_dat {e c : D} {ds : List D} {k n : Nat} {s : DS} (h : ds[k]? = some c) : sqItm (.dat n e) ds k s = some (.one (.dat 0 c), s) := by
  unfold sqItm
  rw [h]
  rfl
theorem ints_get {xs : List Int} {k : Nat} (h : k < xs.length) : (xs.map D.int)[k]? = some (D.int xs[k]) := by simp [h]
theorem lcGo_inv {vs : List Nat} {itm : Nat → DS → Option (IV × DS)} {tgt : GF} {f : EF} {x : DV} (I : Nat → Nat → List D → DS → Prop) : ∀ (m i k : Nat) (ds : List D) (s : DS), I i k ds s →
    (∀ j k ds s, i ≤ j → j < i + m → I j k ds s → ∃ y s1 s2 n d s4 s5, itm j s = some (y, s1) ∧ tgt y s1 = some s2 ∧ eMv f s2 = .ok (.dat n d) s4 ∧ ds.length < sizeLine ∧ blkS vs s4 = some s5 ∧ I (j + 1) (accK k n d) (ds ++ [d]) s5) →
    ∃ k' ds' s', lcGo vs itm tgt tTrue f x m i k ds s = .ok (.dat k' (.lst ds')) (unl x s') ∧ I (i + m) k' ds' s'
  | 0, i, k, ds, s, h, _ => ⟨k, ds, s, rfl, h⟩
  | m + 1, i, k, ds, s, h, q => by
    obtain ⟨y, s1, s2, n, d, s4, s5, h1, h2, h3, h4, h5, h6⟩ := q i k ds s (Nat.le_refl _) (by omega) h
    obtain ⟨k', ds', s', h7, h8⟩ := lcGo_inv (x := x) I m (i + 1) _ _ s5 h6 fun j k ds s a b => q j k ds s (by omega) (by omega)
    refine ⟨k', ds', s', ?_, by rw [show i + (m + 1) = i + 1 + m by omega]; exact h8⟩
    unfold lcGo
    simp only [h1, h2, tTrue, h3, h4, if_true, h5]
    exact h7
theorem lc_it {vs : List Nat} {it : IF} {tgt : GF} {f : EF} {s s0 s2 : DS} {x : DV} {n : Nat} {itm : Nat → DS → Option (IV × DS)} (I : Nat → Nat → List D → DS → Prop) (h : it s = .ok x n itm s0) (hx : isPlain x = true) (hb : blkS vs s0 = some s2) (hI : I 0 1000 [] s2)
    (q : ∀ j k ds s, j < n → I j k ds s → ∃ y s1 s2 n d s4 s5, itm j s = some (y, s1) ∧ tgt y s1 = some s2 ∧ eMv f s2 = .ok (.dat n d) s4 ∧ ds.length < sizeLine ∧ blkS vs s4 = some s5 ∧ I (j + 1) (accK k n d) (ds ++ [d]) s5) :
    ∃ k' ds' s', eLc vs it tgt tTrue f s = .ok (.dat k' (.lst ds')) (unl x s') ∧ I n k' ds' s' := by
  obtain ⟨k', ds', s', e, k⟩ := lcGo_inv (x := x) (f := f) (tgt := tgt) I n 0 1000 [] s2 hI fun j k ds s _ b i => q j k ds s (by omega) i
  refine ⟨k', ds', s', ?_, by rw [Nat.zero_add] at k; exact k⟩
  unfold eLc
  rw [h]
  simp only [hx, if_true, hb]
  exact e
theorem rng_e {fs : List EF} {s s1 : DS} {m : Nat} (h : evA fs s = .ok [.dat 0 (.int m)] s1) (hm : m < 4611686018427387904) : iRng fs s = .ok (.dat 0 .non) m (rgItm 0) s1 := by
  unfold iRng
  rw [h]
  have ok : okR (m : Int) = true := by
    unfold okR
    rw [Bool.and_eq_true, decide_eq_true_eq, decide_eq_true_eq]
    omega
  simp only [ok, if_true]
  rfl
theorem rg_i {j : Nat} {s : DS} : rgItm 0 j s = some (.one (.dat 0 (.int (j : Nat))), s) := by
  unfold rgItm; rw [Int.zero_add]
/-- a comprehension whose parts are worked out from a state that stays -/
theorem lc_pure {vs : List Nat} {it : IF} {tgt : GF} {f : EF} {s s0 s2 : DS} {x : DV} {n : Nat} {itm : Nat → DS → Option (IV × DS)} (g : Nat → D) (h : it s = .ok x n itm s0) (hx : isPlain x = true) (hb : blkS vs s0 = some s2) (hn : n ≤ sizeLine)
    (q : ∀ j, j < n → (g j).flat = true ∧ ∃ y s1 s3 k s4, itm j s2 = some (y, s1) ∧ tgt y s1 = some s3 ∧ eMv f s3 = .ok (.dat k (g j)) s4 ∧ blkS vs s4 = some s2) :
    eLc vs it tgt tTrue f s = .ok (.dat 1000 (.lst ((List.range n).map g))) (unl x s2) := by
  obtain ⟨k', ds', s', e, rfl, rfl, rfl⟩ := lc_it (f := f) (tgt := tgt) (fun j k ds s => k = 1000 ∧ ds = (List.range j).map g ∧ s = s2) h hx hb ⟨rfl, rfl, rfl⟩ (by
    rintro j k ds s hj ⟨rfl, rfl, rfl⟩
    obtain ⟨hf, y, s1, s3, k, s4, h1, h2, h3, h4⟩ := q j hj
    refine ⟨y, s1, s3, k, g j, s4, s, h1, h2, h3, by simp; omega, h4, ?_, ?_, rfl⟩
    · unfold accK; rw [if_pos hf]
    · rw [List.range_succ, List.map_append]; rfl)
  exact e
theorem modN {a b n m : Nat} {s : DS} (h : 0 < b) : dMod (.dat n (.int a)) (.dat m (.int b)) s = some (.dat 0 (.int ((a % b : Nat) : Int)), s) := mod_ok (by omega)
theorem ix_brw {e : D} {ds : List D} {k n : Nat} {c : D} {s : DS} (he : items? e = some ds) (h : ds[k]? = some c) : gIx (.brw e) (.dat n (.int k)) s = some ((if c.flat = true then .dat 0 c else .brw c), s) := by
  have hl : k < ds.length := (List.getElem?_eq_some_iff.mp h).1
  unfold gIx
  simp only [DV.d, he, ixN_nat hl, h]
  rfl
theorem ix_dat {e : D} {ds : List D} {k n m : Nat} {c : D} {s : DS} (he : items? e = some ds) (h : ds[k]? = some c) : gIx (.dat m e) (.dat n (.int k)) s = some (.dat 0 c, s) := by
  have hl : k < ds.length := (List.getElem?_eq_some_iff.mp h).1
  unfold gIx
  simp only [DV.d, he, ixN_nat hl, h]
  rfl
theorem ix_plc {ds : List D} {k n j a : Nat} {p : List Nat} {c : D} {sl : List (Option SV)} {lk : List Nat} (hc : c.cont = false) (h : ds[k]? = some c) : gIx (.plc j p (.lst ds)) (.dat n (.int k)) ⟨sl, a :: lk⟩ = some (.dat 0 c, ⟨sl, lk⟩) := by
  have hl : k < ds.length := (List.getElem?_eq_some_iff.mp h).1
  unfold gIx
  simp only [DV.d, items?, ixN_nat hl, h]
  have e : dsub (.plc j p (.lst ds)) k c (unl (.dat n (.int k)) ⟨sl, a :: lk⟩) = (.dat 0 c, ⟨sl, lk⟩) := by
    show (if _ then _ else _) = _
    rw [if_neg (by rw [hc]; simp)]
    rfl
  rw [e]
theorem len_brw {e : D} {ds : List D} {s : DS} (he : items? e = some ds) : gLen [.brw e] s = some (.dat 0 (.int ds.length), s) := by
  unfold gLen
  simp only [DV.d, he]
  rfl
theorem len_dat {e : D} {ds : List D} {s : DS} {n : Nat} (he : items? e = some ds) : gLen [.dat n e] s = some (.dat 0 (.int ds.length), s) := by
  unfold gLen
  simp only [DV.d, he]
  rfl
theorem subN {a b n m : Nat} {s : DS} (h : b ≤ a) : dSub (.dat n (.int a)) (.dat m (.int b)) s = some (.dat 0 (.int ((a - b : Nat) : Int)), s) := by
  rw [Int.ofNat_sub h]; rfl
theorem cat_ok {n m : Nat} {as bs : List D} {s : DS} {fa : as.all D.flat = true} {fb : bs.all D.flat = true} (h : as.length + bs.length ≤ sizeLine) : gCat (.dat n (.lst as)) (.dat m (.lst bs)) s = some (.dat 1 (.lst (as ++ bs)), s) := by
  unfold gCat dnk kOk
  simp only [DV.d, fa, fb, if_true, Bool.true_or, Bool.and_self, decide_eq_true h]
  rfl
theorem cat_plc {j a m : Nat} {p : List Nat} {as bs : List D} {sl : List (Option SV)} {lk : List Nat} (fa : as.all D.flat = true) (fb : bs.all D.flat = true) (h : as.length + bs.length ≤ sizeLine) : gCat (.plc j p (.lst as)) (.dat m (.lst bs)) ⟨sl, a :: lk⟩ = some (.dat 1 (.lst (as ++ bs)), ⟨sl, lk⟩) := by
  unfold gCat dnk kOk
  simp only [DV.d, fa, fb, if_true, Bool.true_or, Bool.and_self, decide_eq_true h, lim]
  rfl
end DL

set_option Elab.async false
set_option linter.all false
set_option maxRecDepth 10000
/-! P5: setting items -/
namespace DL
open PySem L2
theorem set_rng {α : Type} (F : Nat → α) (m k : Nat) (v : α) : ((List.range m).map F).set k v = (List.range m).map fun a => if a = k then v else F a := by
  apply List.ext_getElem?
  intro i
  rw [List.getElem?_set]
  by_cases h : i < m
  · by_cases e : k = i
    · subst e; simp [h]
    · rw [if_neg e]; simp [h, Ne.symm e]
  · by_cases e : k = i
    · subst e; simp [h]
    · rw [if_neg e]; simp [h]
theorem rng_get {α : Type} (F : Nat → α) {m k : Nat} (h : k < m) : ((List.range m).map F)[k]? = some (F k) := by simp [h]
theorem all_set {ds : List D} {e : D} (h : ds.all D.flat = true) (he : e.flat = true) (k : Nat) : (ds.set k e).all D.flat = true := by
  rw [List.all_eq_true] at h ⊢
  intro x hx
  rcases List.mem_or_eq_of_mem_set hx with hx | hx
  · exact h x hx
  · rw [hx]; exact he
theorem set_ok {sl : List (Option SV)} {lk p : List Nat} {j n k : Nat} {ds : List D} {dj e : D} (h : sl[j]? = some (some (.dat n dj))) (hp : p.length < n) (hk : k < ds.length) (fl : ds.all D.flat = true) (fe : e.flat = true) (hl : lk.contains j = false) :
    gSet (.plc j p (.lst ds)) (.dat 0 (.int k)) e ⟨sl, j :: lk⟩ = some ⟨wrS sl j p (.dat n (setAt dj p (.lst (ds.set k e)))), lk⟩ := by
  have o : owned sl j p = true := by unfold owned; rw [h]; exact decide_eq_true hp
  have w : wrF j p ds (ds.set k e) ⟨sl, lk⟩ = some ⟨wrS sl j p (.dat n (setAt dj p (.lst (ds.set k e)))), lk⟩ := by
    unfold wrF
    simp only [fl, all_set fl fe k, Bool.and_self, if_true]
    rw [h]
    simp only [hp, if_true]
  unfold gSet
  simp only [List.tail_cons, o, hl, Bool.not_false, Bool.and_self, if_true, ixN_nat hk]
  exact w
theorem asg_p {f : EF} {s s1 : DS} {i j : Nat} {p : List Nat} {d : D} (h : f s = .ok (.plc j p d) s1) (o : owned s1.sl j p = true) (ne : j ≠ i) (c : (decide (i < s1.sl.length) && !s1.lk.tail.contains i) = true) : sAsg i f s = .nx ⟨putS s1.sl i (.als j p), s1.lk.tail⟩ := by
  unfold sAsg
  rw [h]
  have e : DL.stored (.plc j p d) i s1.sl = some (.als j p) := by unfold DL.stored; simp only [o, if_true, if_neg ne]
  simp only [e]
  show (if (decide (i < s1.sl.length) && !s1.lk.tail.contains i) = true then _ else _) = _
  rw [if_pos c]; rfl
theorem setix_e {fe fx fi : EF} {s s1 s2 s3 s4 : DS} {e : D} {x y : DV} (h : fe s = .ok (.dat 0 e) s1) (h1 : fx s1 = .ok x s2) (h2 : fi s2 = .ok y s3) (h3 : gSet x y e s3 = some s4) : sSetIx fe fx fi s = .nx s4 := by
  unfold sSetIx; rw [h]; simp only []; rw [h1]; simp only []; rw [h2]; simp only []; rw [h3]
theorem augix_e {f : Int → Int → Int} {fx fi fe : EF} {s s1 s2 s3 s4 : DS} {x : DV} {ds : List D} {k n : Nat} {a b : Int} (h : fx s = .ok x s1) (hx : x.d = .lst ds) (h1 : fi s1 = .ok (.dat n (.int k)) s2) (hk : ds[k]? = some (.int a)) (h2 : fe s2 = .ok (.dat 0 (.int b)) s3) (h3 : gSet x (.dat n (.int k)) (.int (f a b)) s3 = some s4) : sAugIx f fx fi fe s = .nx s4 := by
  have hl : k < ds.length := (List.getElem?_eq_some_iff.mp hk).1
  unfold sAugIx; rw [h]; simp only []; rw [h1]
  have e : (DV.dat n (D.int k)).d = D.int k := rfl
  simp only [hx, e, ixN_nat hl, hk, h2, h3]
theorem esc_d {f : EF} {s s1 : DS} {n : Nat} {d : D} (h : f s = .ok (.dat n d) s1) : eEsc f s = .ok (.dat 0 d) s1 := by unfold eEsc; rw [h]; rfl
/-- names as a list, a table with rows as lists / tuples -/
def NS (m : Nat) (σ : Nat → Nat) : List D := (List.range m).map fun a => .int (σ a : Nat)
def RLs (m : Nat) (t : Nat → Nat → Nat) : List D := (List.range m).map fun a => .lst (NS m (t a))
def RTs (m : Nat) (t : Nat → Nat → Nat) : List D := (List.range m).map fun a => .tup (NS m (t a))
theorem ns_len (m : Nat) (σ : Nat → Nat) : (NS m σ).length = m := by simp [NS]
theorem rls_len (m : Nat) (t : Nat → Nat → Nat) : (RLs m t).length = m := by simp [RLs]
theorem rts_len (m : Nat) (t : Nat → Nat → Nat) : (RTs m t).length = m := by simp [RTs]
theorem ns_get {m a : Nat} {σ : Nat → Nat} (h : a < m) : (NS m σ)[a]? = some (.int (σ a : Nat)) := rng_get _ h
theorem rls_get {m a : Nat} {t : Nat → Nat → Nat} (h : a < m) : (RLs m t)[a]? = some (.lst (NS m (t a))) := rng_get _ h
theorem rts_get {m a : Nat} {t : Nat → Nat → Nat} (h : a < m) : (RTs m t)[a]? = some (.tup (NS m (t a))) := rng_get _ h
theorem ns_flat (m : Nat) (σ : Nat → Nat) : (NS m σ).all D.flat = true := by simp [NS, D.flat]
theorem ns_set (m : Nat) (σ : Nat → Nat) (k v : Nat) : (NS m σ).set k (.int (v : Nat)) = NS m fun b => if b = k then v else σ b := by
  unfold NS
  rw [set_rng]
  exact List.map_congr_left fun a _ => by by_cases h : a = k <;> simp [h]
theorem rls_setAt (m : Nat) (t : Nat → Nat → Nat) (r : Nat) (hr : r < m) (g : Nat → Nat) : setAt (.lst (RLs m t)) [r] (.lst (NS m g)) = .lst (RLs m fun a => if a = r then g else t a) := by
  have e : D.at? (.lst (RLs m t)) r = some (.lst (NS m (t r))) := rls_get hr
  unfold setAt
  rw [e]
  show D.lst ((RLs m t).set r (setAt _ [] _)) = _
  unfold setAt RLs
  rw [set_rng]
  exact congrArg D.lst (List.map_congr_left fun a _ => by by_cases h : a = r <;> simp [h])
end DL

set_option Elab.async false
set_option linter.all false
set_option maxRecDepth 10000
/-! P6: equal lists of ints, sorting a table's row -/
namespace DL
open PySem L2
theorem py_ints (n : Nat) : ∀ xs : List Int, (xs.map D.int).mapM (py n) = some (xs.map PyData.int)
  | [] => rfl
  | x :: xs => by
    rw [List.map_cons, List.mapM_cons, py_ints n xs]
    cases n <;> rfl
theorem eqvAll_ints : ∀ xs ys : List Int, PyData.eqvAll (xs.map PyData.int) (ys.map PyData.int) = decide (xs = ys)
  | [], [] => by simp only [List.map_nil, PyData.eqvAll, decide_true]
  | [], _ :: _ => by simp [PyData.eqvAll]
  | _ :: _, [] => by simp [PyData.eqvAll]
  | x :: xs, y :: ys => by
    rw [List.map_cons, List.map_cons, PyData.eqvAll, eqvAll_ints xs ys]
    simp only [PyData.eqv]
    by_cases h : x = y <;> by_cases h2 : xs = ys <;> simp [h, h2]
theorem py_lst (xs : List Int) : py 60 (.lst (xs.map D.int)) = some (.list (xs.map PyData.int)) := by
  unfold py
  rw [py_ints]; rfl
theorem py_tup (xs : List Int) : py 60 (.tup (xs.map D.int)) = some (.tuple (xs.map PyData.int)) := by
  unfold py
  rw [py_ints]; rfl
theorem deq_lst (xs ys : List Int) : deq (.lst (xs.map D.int)) (.lst (ys.map D.int)) = some (decide (xs = ys)) := by
  unfold deq
  rw [py_lst, py_lst]
  show some (PyData.eqv (.list _) (.list _)) = _
  simp only [PyData.eqv, eqvAll_ints]
theorem deq_tup (xs ys : List Int) : deq (.tup (xs.map D.int)) (.tup (ys.map D.int)) = some (decide (xs = ys)) := by
  unfold deq
  rw [py_tup, py_tup]
  show some (PyData.eqv (.tuple _) (.tuple _)) = _
  simp only [PyData.eqv, eqvAll_ints]
theorem eq_same {x y : DV} {s : DS} (h : deq x.d y.d = some true) : dEq x y s = some (.dat 0 (.bl true), unl x (unl y s)) := by
  unfold dEq gEq
  rw [h]; rfl
theorem ne_same {x y : DV} {s : DS} (h : deq x.d y.d = some true) : dNe x y s = some (.dat 0 (.bl false), unl x (unl y s)) := by
  unfold dNe gEq
  rw [h]; rfl
/-! a list without repetition of numbers below m -/
theorem pigeon : ∀ (m : Nat) (l : List Nat), l.Nodup → (∀ x ∈ l, x < m) → l.length ≤ m
  | 0, l, _, h => by
    cases l with
    | nil => exact Nat.le_refl _
    | cons a l => exact absurd (h a List.mem_cons_self) (Nat.not_lt_zero _)
  | m + 1, l, nd, h => by
    by_cases c : m ∈ l
    · have h1 := pigeon m (l.erase m) (nd.erase m) fun x hx => by
        have h2 := h x (List.mem_of_mem_erase hx)
        have h3 : x ≠ m := ((List.Nodup.mem_erase_iff nd).mp hx).1
        omega
      rw [List.length_erase_of_mem c] at h1
      omega
    · have h1 := pigeon m l nd fun x hx => by
        have h2 := h x hx
        have h3 : x ≠ m := fun e => c (e ▸ hx)
        omega
      omega
theorem perm_rng : ∀ (m : Nat) (l : List Nat), l.Nodup → (∀ x ∈ l, x < m) → l.length = m → l.Perm (List.range m)
  | 0, l, _, _, hl => by rw [List.eq_nil_of_length_eq_zero hl]; exact .refl _
  | m + 1, l, nd, h, hl => by
    have c : m ∈ l := by
      refine Classical.byContradiction fun c => ?_
      have h1 := pigeon m l nd fun x hx => by
        have h2 := h x hx
        have h3 : x ≠ m := fun e => c (e ▸ hx)
        omega
      omega
    have h1 := perm_rng m (l.erase m) (nd.erase m) (fun x hx => by
        have h2 := h x (List.mem_of_mem_erase hx)
        have h3 : x ≠ m := ((List.Nodup.mem_erase_iff nd).mp hx).1
        omega) (by rw [List.length_erase_of_mem c]; omega)
    rw [List.range_succ]
    exact (List.perm_cons_erase c).trans ((h1.cons m).trans (List.perm_append_singleton m _).symm)
theorem row_perm {m : Nat} {g : Nat → Nat} (hlt : ∀ a, a < m → g a < m) (inj : ∀ a b, a < m → b < m → g a = g b → a = b) : ((List.range m).map g).Perm (List.range m) := by
  refine perm_rng m _ ?_ ?_ (by simp)
  · refine List.pairwise_map.mpr ?_
    refine List.Pairwise.imp_of_mem (R := fun a b => a ≠ b) (fun {a b} ha hb q e => q (inj a b (List.mem_range.mp ha) (List.mem_range.mp hb) e)) List.nodup_range
  · intro x hx
    obtain ⟨a, ha, rfl⟩ := List.mem_map.mp hx
    exact hlt a (List.mem_range.mp ha)
/-- .. so every number is met -/
theorem row_onto {m : Nat} {g : Nat → Nat} (hlt : ∀ a, a < m → g a < m) (inj : ∀ a b, a < m → b < m → g a = g b → a = b) (c : Nat) (hc : c < m) : ∃ a, a < m ∧ g a = c := by
  obtain ⟨a, ha, e⟩ := List.mem_map.mp ((row_perm hlt inj).mem_iff.mpr (List.mem_range.mpr hc))
  exact ⟨a, List.mem_range.mp ha, e⟩
theorem sorted_unique : ∀ {l r : List Int}, l.Perm r → l.Pairwise (· ≤ ·) → r.Pairwise (· ≤ ·) → l = r
  | [], r, p, _, _ => p.nil_eq
  | a :: l, [], p, _, _ => by have := p.length_eq; cases this
  | a :: l, b :: r, p, hl, hr => by
    obtain ⟨h1, h2⟩ := List.pairwise_cons.mp hl
    obtain ⟨h3, h4⟩ := List.pairwise_cons.mp hr
    have e : a = b := by
      have i1 : a ≤ b := by
        rcases List.mem_cons.mp (p.mem_iff.mpr (List.mem_cons_self (a := b) (l := r))) with q | q
        · omega
        · exact h1 b q
      have i2 : b ≤ a := by
        rcases List.mem_cons.mp (p.mem_iff.mp (List.mem_cons_self (a := a) (l := l))) with q | q
        · omega
        · exact h3 a q
      omega
    subst e
    rw [sorted_unique (p.cons_inv) h2 h4]
end DL

set_option Elab.async false
set_option linter.all false
set_option maxRecDepth 10000
/-! P7: comprehensions of two clauses -/
namespace DL
open PySem L2
theorem lcIn_inv {vs : List Nat} {itm : Nat → DS → Option (IV × DS)} {tgt : GF} {tt : TF} {f : EF} {x : DV} (I : Nat → List D → DS → Prop) : ∀ (m i k : Nat) (ds : List D) (s : DS), I i ds s →
    (∀ j ds s, i ≤ j → j < i + m → I j ds s → ∃ y s1 s2 b s3, itm j s = some (y, s1) ∧ tgt y s1 = some s2 ∧ tt s2 = .ok b s3 ∧ (b = false → ∃ s5, blkS vs s3 = some s5 ∧ I (j + 1) ds s5) ∧ (b = true → ∃ n d s4 s5, eMv f s3 = .ok (.dat n d) s4 ∧ ds.length < sizeLine ∧ blkS vs s4 = some s5 ∧ I (j + 1) (ds ++ [d]) s5)) →
    ∃ k' ds' s', lcIn vs itm tgt tt f x m i k ds s = some (k', ds', unl x s') ∧ I (i + m) ds' s'
  | 0, i, k, ds, s, h, _ => ⟨k, ds, s, rfl, h⟩
  | m + 1, i, k, ds, s, h, q => by
    obtain ⟨y, s1, s2, b, s3, h1, h2, h3, h4, h5⟩ := q i ds s (Nat.le_refl _) (by omega) h
    cases b with
    | false =>
      obtain ⟨s5, g1, g2⟩ := h4 rfl
      obtain ⟨k', ds', s', h7, h8⟩ := lcIn_inv (x := x) I m (i + 1) k ds s5 g2 fun j ds s a b => q j ds s (by omega) (by omega)
      refine ⟨k', ds', s', ?_, by rw [show i + (m + 1) = i + 1 + m by omega]; exact h8⟩
      unfold lcIn
      simp only [h1, h2, h3, g1]
      exact h7
    | true =>
      obtain ⟨n, d, s4, s5, g1, g2, g3, g4⟩ := h5 rfl
      obtain ⟨k', ds', s', h7, h8⟩ := lcIn_inv (x := x) I m (i + 1) (accK k n d) (ds ++ [d]) s5 g4 fun j ds s a b => q j ds s (by omega) (by omega)
      refine ⟨k', ds', s', ?_, by rw [show i + (m + 1) = i + 1 + m by omega]; exact h8⟩
      unfold lcIn
      simp only [h1, h2, h3, g1, g2, if_true, g3]
      exact h7
theorem lc2Go_inv {vs vs1 : List Nat} {itm : Nat → DS → Option (IV × DS)} {tgt : GF} {it1 : IF} {tgt1 : GF} {tt1 : TF} {f : EF} {x : DV} (I : Nat → List D → DS → Prop) : ∀ (m i k : Nat) (ds : List D) (s : DS), I i ds s →
    (∀ j k ds s, i ≤ j → j < i + m → I j ds s → ∃ y s1 s2 x1 n1 itm1 s4 s5 k2 ds2 s6 s7, itm j s = some (y, s1) ∧ tgt y s1 = some s2 ∧ it1 s2 = .ok x1 n1 itm1 s4 ∧ isPlain x1 = true ∧ blkS vs1 s4 = some s5 ∧ lcIn vs1 itm1 tgt1 tt1 f x1 n1 0 k ds s5 = some (k2, ds2, s6) ∧ blkS vs s6 = some s7 ∧ I (j + 1) ds2 s7) →
    ∃ k' ds' s', lc2Go vs vs1 itm tgt tTrue it1 tgt1 tt1 f x m i k ds s = .ok (.dat k' (.lst ds')) (unl x s') ∧ I (i + m) ds' s'
  | 0, i, k, ds, s, h, _ => ⟨k, ds, s, rfl, h⟩
  | m + 1, i, k, ds, s, h, q => by
    obtain ⟨y, s1, s2, x1, n1, itm1, s4, s5, k2, ds2, s6, s7, h1, h2, h3, h4, h5, h6, h7, h8⟩ := q i k ds s (Nat.le_refl _) (by omega) h
    obtain ⟨k', ds', s', g7, g8⟩ := lc2Go_inv (x := x) I m (i + 1) k2 ds2 s7 h8 fun j k ds s a b => q j k ds s (by omega) (by omega)
    refine ⟨k', ds', s', ?_, by rw [show i + (m + 1) = i + 1 + m by omega]; exact g8⟩
    unfold lc2Go
    simp only [h1, h2, tTrue, h3, h4, if_true, h5, h6, h7]
    exact g7
end DL

set_option Elab.async false
set_option linter.all false
set_option maxRecDepth 10000
namespace K12
open DL PySem L2
theorem power_ok {b m : Nat} (hb : b < 1000) (hm : m < 1000) : fD_law_power [.dat 0 (.int b), .dat 0 (.int m)] = .ok 0 (.int ((b ^ m : Nat) : Int)) [] := by
  obtain ⟨s', e, z, rfl⟩ := for_rng (fs := [eVar 1]) (t := 3) (body := sAsg 2 (eBin dMul (eVar 2) (eVar 0))) (s := ⟨[some (.dat 0 (.int b)), some (.dat 0 (.int m)), some (.dat 0 (.int 1)), none], []⟩) (m := m)
    (fun i s => ∃ z, s = ⟨[some (.dat 0 (.int b)), some (.dat 0 (.int m)), some (.dat 0 (.int ((b ^ i : Nat) : Int))), sI z], []⟩) rfl (by omega) ⟨none, rfl⟩ (by
    rintro j s hj ⟨z, rfl⟩
    refine ⟨rfl, ⟨[some (.dat 0 (.int b)), some (.dat 0 (.int m)), some (.dat 0 (.int ((b ^ (j + 1) : Nat) : Int))), sI (some j)], []⟩, .inl ?_, some j, rfl⟩
    refine Eq.trans (asg_d (bin_e rfl rfl (mul_ok (by omega))) rfl) ?_
    rw [Nat.pow_succ, Int.natCast_mul]
    rfl)
  exact fn_e rfl (Eq.trans (seq_nx (s1 := ⟨[some (.dat 0 (.int b)), some (.dat 0 (.int m)), some (.dat 0 (.int 1)), none], []⟩) rfl) (Eq.trans (seq_nx e) (ret_e rfl))) rfl
end K12

set_option Elab.async false
set_option linter.all false
set_option maxRecDepth 10000
namespace K12
open DL PySem L2
theorem take_nil {n m : Nat} : fD_law_take [.dat (n + 1) (NL []), .dat 0 (.int m)] = .ok 0 (.int 0) [(n + 1, NL [])] := rfl
theorem take_cons {n m : Nat} {ys : List Int} {y : Int} (hm : 0 < m) : fD_law_take [.dat (n + 1) (NL (ys ++ [y])), .dat 0 (.int m)] = .ok 0 (.int (y % m)) [(n + 1, NL ys)] := by
  have e1 : (List.map D.int (ys ++ [y])).length = ys.length + 1 := by simp
  have e2 : ((ys ++ [y]).map D.int)[((ys ++ [y]).map D.int).length - 1]? = some (D.int y) := by simp
  have e3 : ((ys ++ [y]).map D.int).eraseIdx (((ys ++ [y]).map D.int).length - 1) = ys.map D.int := by
    rw [e1, List.map_append]
    simp [List.eraseIdx_append_of_length_le]
  have p := popK_ok (sl := [some (.dat (n + 1) (NL (ys ++ [y]))), some (.dat 0 (.int m))]) (lk := []) (j := 0) rfl e2 (flat_ints _) rfl
  refine fn_e rfl (Eq.trans (seq_nx (s1 := ⟨[some (.dat (n + 1) (NL (ys ++ [y]))), some (.dat 0 (.int m))], []⟩) (if_f (tof_e (bin_e (call_e (eva_c rfl (eva_nil _)) len_plc) rfl (eq_b ?_))))) (ret_e (bin_e (call_e (eva_c (meth_e rfl rfl (eva_nil _) p) (eva_nil _)) rfl) rfl (mod_ok (by omega))))) ?_
  · rw [e1]; exact decide_eq_false (by omega)
  · rw [e3]; rfl
end K12

set_option Elab.async false
set_option linter.all false
set_option maxRecDepth 10000
namespace K12
open DL PySem L2
theorem take_ok {n m : Nat} (hm : 0 < m) (xs : List Int) : ∃ (v : Nat) (ys : List Int), fD_law_take [.dat (n + 1) (NL xs), .dat 0 (.int m)] = .ok 0 (.int v) [(n + 1, NL ys)] ∧ v < m := by
  rcases List.eq_nil_or_concat xs with rfl | ⟨ys, y, rfl⟩
  · exact ⟨0, [], take_nil, hm⟩
  · have h1 := Int.emod_nonneg y (show (m : Int) ≠ 0 by omega)
    have h2 := Int.emod_lt_of_pos y (show 0 < (m : Int) by omega)
    refine ⟨(y % m).toNat, ys, ?_, by omega⟩
    rw [List.concat_eq_append, take_cons hm, Int.toNat_of_nonneg h1]
theorem shuffled_ok {n m : Nat} (hm : m < 1000) (xs : List Int) : ∃ (k : Nat) (σ ys : List Int), fD_law_shuffled [.dat (n + 1) (NL xs), .dat 0 (.int m)] = .ok k (NL σ) [(n + 1, NL ys)] ∧ σ.Perm (upto m) := by
  obtain ⟨s', e, xs', left, found, z, rfl, h1, h2⟩ := for_rng (fs := [eVar 1]) (t := 4) (body := sExpr (eMeth gAppend (eVar 3) [(eMv (eMeth gPopAt (eVar 2) [(eCallF fD_law_take [0] [CM.io, CM.bw] [] [(eVar 0), (eCall gLen [(eVar 2)])])]))]))
    (s := ⟨[some (.dat (n + 1) (NL xs)), some (.dat 0 (.int m)), some (.dat 1 (NL (upto m))), some (.dat 1 (NL [])), none], []⟩) (m := m)
    (fun i s => ∃ xs left found z, s = ⟨[some (.dat (n + 1) (NL xs)), some (.dat 0 (.int m)), some (.dat 1 (NL left)), some (.dat 1 (NL found)), sI z], []⟩ ∧ left.length + i = m ∧ (found ++ left).Perm (upto m)) rfl (by omega) ⟨xs, upto m, [], none, rfl, by rw [upto_len]; rfl, by simp⟩ (by
    rintro j s hj ⟨xs, left, found, z, rfl, h1, h2⟩
    have hl : 0 < (left.map D.int).length := by rw [List.length_map]; omega
    obtain ⟨v, ys, e1, hv⟩ := take_ok (n := n) hl xs
    have hv' : v < left.length := by simpa using hv
    have hx : (left.map D.int)[v]? = some (D.int left[v]) := by simp [hv']
    have ff : found.length < sizeLine := by
      have := h2.length_eq
      rw [List.length_append, upto_len] at this
      show found.length < 2 ^ 24
      omega
    have fl : (List.map D.int found).length < sizeLine := by rw [List.length_map]; exact ff
    refine ⟨rfl, ⟨[some (.dat (n + 1) (NL ys)), some (.dat 0 (.int m)), some (.dat 1 (NL (left.eraseIdx v))), some (.dat 1 (NL (found ++ [left[v]]))), sI (some j)], []⟩, .inl ?_, ys, left.eraseIdx v, found ++ [left[v]], some j, rfl, ?_, ?_⟩
    · refine Eq.trans (expr_e (meth_e rfl rfl (eva_c (mv_e (meth_e rfl rfl (eva_c (callF_e (eva_c rfl (eva_c (call_e (eva_c rfl (eva_nil _)) len_plc) (eva_nil _))) rfl rfl e1 rfl) (eva_nil _)) (popAt_ok rfl hx (by omega) (flat_ints _) rfl))) (eva_nil _)) (append_ok rfl rfl fl rfl))) ?_
      show SO.nx (DS.mk _ _) = _
      rw [eraseIdx_mapD]
      simp only [NL, List.map_append]
      rfl
    · rw [List.length_eraseIdx, if_pos hv']; omega
    · refine List.Perm.trans ?_ h2
      rw [List.append_assoc]
      exact List.Perm.append_left _ (by
        rw [List.singleton_append]
        exact cons_erase_perm hv'))
  have h0 : left = [] := List.eq_nil_of_length_eq_zero (by omega)
  subst h0
  exact ⟨1, found, xs', fn_e rfl (Eq.trans (seq_nx (asg_d (rg_e rfl (by omega)) rfl)) (Eq.trans (seq_nx rfl) (Eq.trans (seq_nx e) (ret_e rfl)))) rfl, by simpa using h2⟩
end K12

set_option Elab.async false
set_option linter.all false
set_option maxRecDepth 10000
namespace K12
open DL PySem L2
abbrev n_cell : SF := sIf (tOf (eBin dGt (eCall gLen [(eVar 0)]) (eCon (.int 0)))) (sAsg 5 (eCall gInt1 [(eBin gIx (eVar 0) (eBin dMod (eCall gInt1 [(eVar 4)]) (eCall gLen [(eVar 0)])))])) sSkip
abbrev n_st (ns : List Int) (mixed : List Int) (st : Int) (z4 z5 : Option Int) (fr z7 : Option SV) : DS := ⟨[some (.brw (NL ns)), some (.dat 0 (.int 100)), some (.dat 1 (NL mixed)), some (.dat 0 (.int st)), sI z4, sI z5, fr, z7], []⟩
theorem cell_ok (ns mixed : List Int) (st : Int) (j : Nat) : ∃ c, n_cell (n_st ns mixed st (some j) (some 0) none none) = .nx (n_st ns mixed st (some j) (some c) none none) := by
  by_cases h : ns = []
  · subst h; exact ⟨0, rfl⟩
  · have hl : 0 < (ns.map D.int).length := by rw [List.length_map]; exact List.length_pos_iff.mpr h
    have hk : j % (ns.map D.int).length < ns.length := by
      have := Nat.mod_lt j hl
      rw [List.length_map] at this ⊢; exact this
    refine ⟨ns[j % (ns.map D.int).length], Eq.trans (if_t (tof_e (bin_e (call_e (eva_c rfl (eva_nil _)) (len_brw rfl)) rfl (gt_b ?_)))) (Eq.trans (asg_d (call_e (eva_c (bin_e rfl (bin_e rfl (call_e (eva_c rfl (eva_nil _)) (len_brw rfl)) (modN hl)) (ix_brw rfl (ints_get hk))) (eva_nil _)) rfl) rfl) rfl)⟩
    exact decide_eq_true (by omega)
end K12

set_option Elab.async false
set_option linter.all false
set_option maxRecDepth 10000
namespace K12
open DL PySem L2
abbrev n_body1 : SF := (sSeq (sAsg 5 (eCon (.int 0))) (sSeq n_cell (sSeq (sAsg 3 (eBin dMod (eCall gInt1 [(eBin dAdd (eBin dAdd (eBin dAdd (eBin dMul (eVar 3) (eCon (.int 48271))) (eVar 5)) (eBin dMul (eCon (.int 7)) (eVar 4))) (eCon (.int 3)))]) (eCon (.int 2147483647)))) (sExpr (eMeth gAppend (eVar 2) [(eMv (eBin dDiv (eCall gInt1 [(eVar 3)]) (eCon (.int 8))))])))))
theorem mul7 {j n m : Nat} {s : DS} (h : j < 1000) : dMul (.dat n (.int 7)) (.dat m (.int (j : Nat))) s = some (.dat 0 (.int (7 * (j : Int))), s) := mul_ok (by omega)
theorem n_loop1 (ns : List Int) : ∃ mixed st z4 z5, sFor (iRng [eVar 1]) (tName 4) n_body1 (n_st ns [] (1 + (ns.map D.int).length) none none none none) = .nx (n_st ns mixed st z4 z5 none none) ∧ mixed.length = 100 := by
  obtain ⟨s', e, mixed, st, z4, z5, rfl, h⟩ := for_rng (fs := [eVar 1]) (t := 4) (body := n_body1) (s := n_st ns [] (1 + (ns.map D.int).length) none none none none) (m := 100) (fun i s => ∃ mixed st z4 z5, s = n_st ns mixed st z4 z5 none none ∧ mixed.length = i) rfl (by omega) ⟨[], _, none, none, rfl, rfl⟩ (by
    rintro j s hj ⟨mixed, st, z4, z5, rfl, h⟩
    obtain ⟨c, ec⟩ := cell_ok ns mixed st j
    have fl : (List.map D.int mixed).length < sizeLine := by rw [List.length_map]; show mixed.length < 2 ^ 24; omega
    refine ⟨rfl, _, .inl (Eq.trans (seq_nx (s1 := n_st ns mixed st (some j) (some 0) none none) rfl) (Eq.trans (seq_nx ec) (Eq.trans (seq_nx (asg_d (bin_e (call_e (eva_c (bin_e (bin_e (bin_e (bin_e rfl rfl (mul_ok (by omega))) rfl rfl) (bin_e rfl rfl (mul7 (by omega))) rfl) rfl rfl) (eva_nil _)) rfl) rfl (mod_ok (by omega))) rfl)) (expr_e (meth_e rfl rfl (eva_c (mv_e (bin_e (call_e (eva_c rfl (eva_nil _)) rfl) rfl (div_ok (by omega)))) (eva_nil _)) (append_ok rfl rfl fl rfl)))))), mixed ++ [(st * 48271 + c + 7 * (j : Int) + 3) % 2147483647 / 8], (st * 48271 + c + 7 * (j : Int) + 3) % 2147483647, some j, some c, ?_, by rw [List.length_append, h]; rfl⟩
    simp only [n_st, NL, List.map_append]
    rfl)
  exact ⟨mixed, st, z4, z5, e, h⟩
abbrev n_st2 (ns mixed free : List Int) (st : Int) (z4 z5 z7 : Option Int) : DS := n_st ns mixed st z4 z5 (some (.dat 1 (NL free))) (sI z7)
abbrev n_body3 : SF := (sIf (tOf (eBin dGt (eVar 7) (eCon (.int 0)))) (sSeq (sExpr (eMeth gAppend (eVar 6) [(eMv (eBin dMod (eCall gInt1 [(eVar 7)]) (eCon (.int 1000))))])) (sAsg 7 (eBin dDiv (eVar 7) (eCon (.int 1000))))) sSkip)
theorem n_loop3 (ns mixed free : List Int) (st : Int) (z4 z5 : Option Int) (r : Int) (hf : free.length ≤ 10000) : ∃ free' y4 r', sFor (iRng [eCon (.int 60)]) (tName 4) n_body3 (n_st2 ns mixed free st z4 z5 (some r)) = .nx (n_st2 ns mixed free' st y4 z5 (some r')) ∧ free'.length ≤ free.length + 60 := by
  obtain ⟨s', e, free', z4, r', rfl, h⟩ := for_rng (fs := [eCon (.int 60)]) (t := 4) (body := n_body3) (s := n_st2 ns mixed free st z4 z5 (some r)) (m := 60) (fun i s => ∃ free' z4 r', s = n_st2 ns mixed free' st z4 z5 (some r') ∧ free'.length ≤ free.length + i) rfl (by omega) ⟨free, z4, r, rfl, by omega⟩ (by
    rintro j s hj ⟨free', z4, r, rfl, h⟩
    cases z5 <;> (
    refine ⟨rfl, ?_⟩
    by_cases c : 0 < r
    · have fl : (List.map D.int free').length < sizeLine := by rw [List.length_map]; show free'.length < 2 ^ 24; omega
      refine ⟨_, .inl (Eq.trans (if_t (tof_e (bin_e rfl rfl (gt_b (decide_eq_true c))))) (Eq.trans (seq_nx (expr_e (meth_e rfl rfl (eva_c (mv_e (bin_e (call_e (eva_c rfl (eva_nil _)) rfl) rfl (mod_ok (by omega)))) (eva_nil _)) (append_ok rfl rfl fl rfl)))) (asg_d (bin_e rfl rfl (div_ok (by omega))) rfl))), free' ++ [r % 1000], some j, r / 1000, ?_, by rw [List.length_append]; simp; omega⟩
      simp only [n_st2, n_st, NL, List.map_append]
      rfl
    · exact ⟨_, .inl (Eq.trans (if_f (tof_e (bin_e rfl rfl (gt_b (decide_eq_false c))))) rfl), free', some j, r, rfl, by omega⟩))
  exact ⟨free', z4, r', e, h⟩
end K12

set_option Elab.async false
set_option linter.all false
set_option maxRecDepth 10000
namespace K12
open DL PySem L2
abbrev n_body2 : SF := (sSeq (sAsg 7 (eCall gAbs [(eCall gInt1 [(eVar 5)])])) (sIf (tOf (eBin dGe (eVar 7) (eBin dPow (eCon (.int 10)) (eCon (.int 18))))) (sFor (iRng [(eCon (.int 60))]) (tName 4) n_body3) sSkip))
theorem n_loop2 (ns mixed : List Int) (st : Int) (z4 z5 : Option Int) (hn : ns.length ≤ 63) : ∃ free y4 y5 z7, sFor (iSeq (eVar 0)) (tName 5) n_body2 (n_st2 ns mixed [] st z4 z5 none) = .nx (n_st2 ns mixed free st y4 y5 z7) ∧ free.length ≤ 10000 := by
  obtain ⟨s', e, free, z4, z5, z7, rfl, h⟩ := for_it (it := iSeq (eVar 0)) (tgt := tName 5) (body := n_body2) (s := n_st2 ns mixed [] st z4 z5 none) (s0 := n_st2 ns mixed [] st z4 z5 none) (x := .brw (NL ns)) (n := (ns.map D.int).length) (itm := sqItm (.brw (NL ns)) (ns.map D.int)) (fun i s => ∃ free z4 z5 z7, s = n_st2 ns mixed free st z4 z5 z7 ∧ free.length ≤ 60 * i) rfl ⟨[], z4, z5, none, rfl, by simp⟩ (by
    rintro j s hj ⟨free, z4, z5, z7, rfl, h⟩
    rw [List.length_map] at hj
    have p7 : dPow (.dat 0 (.int 10)) (.dat 0 (.int 18)) = fun s => some (.dat 0 (.int 1000000000000000000), s) := rfl
    have go : ∃ free' z4' r', n_body2 (n_st2 ns mixed free st z4 (some ns[j]) z7) = .nx (n_st2 ns mixed free' st z4' (some ns[j]) (some r')) ∧ free'.length ≤ free.length + 60 := by
      generalize ns[j] = c
      have a1 : sAsg 7 (eCall gAbs [(eCall gInt1 [(eVar 5)])]) (n_st2 ns mixed free st z4 (some c) z7) = .nx (n_st2 ns mixed free st z4 (some c) (some (if c < 0 then -c else c))) := by cases z4 <;> rfl
      by_cases q : (1000000000000000000 : Int) ≤ (if c < 0 then -c else c)
      · obtain ⟨free', z4', r', e, h'⟩ := n_loop3 ns mixed free st z4 (some c) (if c < 0 then -c else c) (by omega)
        exact ⟨free', z4', r', Eq.trans (seq_nx a1) (Eq.trans (if_t (tof_e (bin_e rfl (bin_e rfl rfl (congrFun p7 _)) (ge_b (decide_eq_true q))))) e), h'⟩
      · exact ⟨free, z4, _, Eq.trans (seq_nx a1) (Eq.trans (if_f (tof_e (bin_e rfl (bin_e rfl rfl (congrFun p7 _)) (ge_b (decide_eq_false q))))) rfl), by omega⟩
    obtain ⟨free', z4', r', e, h'⟩ := go
    refine ⟨_, _, n_st2 ns mixed free st z4 (some ns[j]) z7, _, sq_brw (ints_get hj), Eq.trans (name_d rfl) (by cases z4 <;> cases z7 <;> rfl), .inl e, free', z4', some ns[j], some r', rfl, by omega⟩)
  rw [List.length_map] at h
  exact ⟨free, z4, z5, z7, e, by omega⟩
theorem n_lc (ns mixed free : List Int) (st : Int) (z4 z5 z7 : Option Int) (hf : free.length ≤ 10000) : ∃ xs : List Int, eLc [4] (iRng [(eCall gLen [(eVar 6)])]) (tName 4) tTrue (eBin gIx (eVar 6) (eBin dSub (eBin dSub (eCall gLen [(eVar 6)]) (eCon (.int 1))) (eVar 4))) ⟨(n_st2 ns mixed free st z4 z5 z7).sl, [2]⟩ = .ok (.dat 1000 (NL xs)) ⟨(n_st2 ns mixed free st none z5 z7).sl, [2]⟩ ∧ xs.length = free.length := by
  have L : (free.map D.int).length = free.length := List.length_map _
  refine ⟨(List.range (free.map D.int).length).map fun j => free.getD ((free.map D.int).length - 1 - j) 0, ?_, by simp⟩
  have key := lc_pure (vs := [4]) (it := iRng [(eCall gLen [(eVar 6)])]) (tgt := tName 4) (f := (eBin gIx (eVar 6) (eBin dSub (eBin dSub (eCall gLen [(eVar 6)]) (eCon (.int 1))) (eVar 4)))) (s := ⟨(n_st2 ns mixed free st z4 z5 z7).sl, [2]⟩) (s0 := ⟨(n_st2 ns mixed free st z4 z5 z7).sl, [2]⟩) (s2 := ⟨(n_st2 ns mixed free st none z5 z7).sl, [2]⟩)
    (fun j => D.int (free.getD ((free.map D.int).length - 1 - j) 0)) (rng_e (eva_c (call_e (eva_c rfl (eva_nil _)) len_plc) (eva_nil _)) (by omega)) rfl (by cases z5 <;> cases z7 <;> rfl) (by rw [L]; show free.length ≤ 2 ^ 24; omega) (by
      intro j hj
      have hj' : (free.map D.int).length - 1 - j < free.length := by omega
      have g : (free.map D.int)[(free.map D.int).length - 1 - j]? = some (D.int (free.getD ((free.map D.int).length - 1 - j) 0)) := by
        rw [ints_get hj', List.getD_eq_getElem?_getD, List.getElem?_eq_getElem hj']; rfl
      refine ⟨rfl, _, _, ⟨(n_st2 ns mixed free st (some j) z5 z7).sl, [2]⟩, _, _, rg_i, Eq.trans (name_d rfl) (by cases z5 <;> cases z7 <;> rfl), mv_e (bin_e rfl (bin_e (bin_e (call_e (eva_c rfl (eva_nil _)) len_plc) rfl (subN (b := 1) (by omega))) rfl (subN (by omega))) (ix_plc rfl g)), by cases z5 <;> cases z7 <;> rfl⟩)
  rw [key, NL, List.map_map]
  rfl
theorem numbers_ok (ns : List Int) (hn : ns.length ≤ 63) : ∃ xs : List Int, fD_law_numbers [.brw (NL ns), .dat 0 (.int 100)] = .ok 1 (NL xs) [] := by
  obtain ⟨mixed, st, z4, z5, e1, h1⟩ := n_loop1 ns
  obtain ⟨free, z4', z5', z7, e2, h2⟩ := n_loop2 ns mixed st z4 z5 hn
  obtain ⟨xs, e3, h3⟩ := n_lc ns mixed free st z4' z5' z7 h2
  refine ⟨mixed ++ xs, fn_e rfl (Eq.trans (seq_nx rfl) (Eq.trans (seq_nx (asg_d (bin_e rfl (call_e (eva_c rfl (eva_nil _)) (len_brw rfl)) rfl) rfl)) (Eq.trans (seq_nx e1) (Eq.trans (seq_nx (s1 := n_st2 ns mixed [] st z4 z5 none) (by cases z4 <;> cases z5 <;> rfl)) (Eq.trans (seq_nx e2) (ret_e (bin_e rfl e3 (cat_plc (flat_ints _) (flat_ints _) ?_)))))))) ?_⟩
  · rw [List.length_map, List.length_map]; show _ ≤ 2 ^ 24; omega
  · rw [NL, List.map_append]; rfl
end K12

set_option Elab.async false
set_option linter.all false
set_option maxRecDepth 10000
namespace K12
open DL PySem L2
/-- a table, its rows as lists / as tuples -/
def RL (m : Nat) (t : Nat → Nat → Nat) : D := .lst ((List.range m).map fun a => .lst ((List.range m).map fun b => .int (t a b : Nat)))
def RT (m : Nat) (t : Nat → Nat → Nat) : D := .tup ((List.range m).map fun a => .tup ((List.range m).map fun b => .int (t a b : Nat)))
def tabs : List (List (List Nat)) := (List.range 8).map (fun k => (List.range (k + 1)).map fun a => (List.range (k + 1)).map fun b => (a + b) % (k + 1)) ++ (List.range 6).map fun k =>
  let half := [2, 3, 4, 4, 4, 4].getD k 0
  (List.range (2 * half)).map fun a => (List.range (2 * half)).map fun b =>
    let flip := a / half + b / half
    let turn : Int := ((a % half + b % half : Nat) : Int)
    let turn : Int := if (k == 1 || k == 4 || k == 5) && a / half == 1 then ((a % half : Nat) : Int) - ((b % half : Nat) : Int) else turn
    let turn : Int := if k == 5 && flip == 2 then turn + 2 else turn
    let turn : Int := if k == 3 then (((a + b) % 2 + 2 * ((a / 2 + b / 2) % 2) : Nat) : Int) else turn
    (turn % (half : Int)).toNat + half * (flip % 2)
def tab (k a b : Nat) : Nat := ((tabs.getD k []).getD a []).getD b 0
def ord (k : Nat) : Nat := (tabs.getD k []).length
theorem group_ok : ∀ k, k < 14 → ∃ n, fD_law_group [.dat 0 (.int (k : Nat))] = .ok (n + 1) (RL (ord k) (tab k)) [] := by
  intro k hk
  match k, hk with
  | 0, _ => exact ⟨_, rfl⟩
  | 1, _ => exact ⟨_, rfl⟩
  | 2, _ => exact ⟨_, rfl⟩
  | 3, _ => exact ⟨_, rfl⟩
  | 4, _ => exact ⟨_, rfl⟩
  | 5, _ => exact ⟨_, rfl⟩
  | 6, _ => exact ⟨_, rfl⟩
  | 7, _ => exact ⟨_, rfl⟩
  | 8, _ => exact ⟨_, rfl⟩
  | 9, _ => exact ⟨_, rfl⟩
  | 10, _ => exact ⟨_, rfl⟩
  | 11, _ => exact ⟨_, rfl⟩
  | 12, _ => exact ⟨_, rfl⟩
  | 13, _ => exact ⟨_, rfl⟩
theorem kind_ok {n : Nat} (xs : List Int) : ∃ (k : Nat) (ys : List Int), fD_law_drawn_kind [.dat (n + 1) (NL xs)] = .ok 0 (.int k) [(n + 1, NL ys)] ∧ k < 14 := by
  obtain ⟨v, ys, e1, h1⟩ := take_ok (n := n) (show 0 < 14 by omega) xs
  obtain ⟨w, zs, e2, h2⟩ := take_ok (n := n) (show 0 < 2 by omega) ys
  have c1 := callF_e (fn := fD_law_take) (io := [0]) (cs := [CM.io, CM.bw]) (ds := []) (fs := [(eVar 0), (eCon (.int 14))]) (s := ⟨[some (.dat (n + 1) (NL xs)), none], []⟩) (s2 := ⟨[some (.dat (n + 1) (NL ys)), none], []⟩) (eva_c rfl (eva_c rfl (eva_nil _))) rfl rfl e1 rfl
  have c2 := callF_e (fn := fD_law_take) (io := [0]) (cs := [CM.io, CM.bw]) (ds := []) (fs := [(eVar 0), (eCon (.int 2))]) (s := ⟨[some (.dat (n + 1) (NL ys)), some (.dat 0 (.int v))], []⟩) (s2 := ⟨[some (.dat (n + 1) (NL zs)), some (.dat 0 (.int v))], []⟩) (eva_c rfl (eva_c rfl (eva_nil _))) rfl rfl e2 rfl
  by_cases q : (w : Int) = 1
  · have m3 : v % 3 < 3 := Nat.mod_lt _ (by omega)
    refine ⟨[9, 12, 13].getD (v % 3) 0, zs, fn_e rfl (Eq.trans (seq_nx (asg_d c1 rfl)) (Eq.trans (seq_nx (Eq.trans (if_t (tof_e (bin_e c2 rfl (eq_b (decide_eq_true q))))) (asg_d (bin_e rfl (bin_e (call_e (eva_c rfl (eva_nil _)) rfl) rfl (modN (b := 3) (by omega))) (ix_dat (ds := [.int 9, .int 12, .int 13]) (c := .int (([9, 12, 13].getD (v % 3) 0 : Nat) : Int)) rfl ?_)) rfl))) (ret_e rfl))) rfl, ?_⟩
    · match v % 3, m3 with
      | 0, _ => rfl
      | 1, _ => rfl
      | 2, _ => rfl
    · match v % 3, m3 with
      | 0, _ => decide
      | 1, _ => decide
      | 2, _ => decide
  · exact ⟨v, zs, fn_e rfl (Eq.trans (seq_nx (asg_d c1 rfl)) (Eq.trans (seq_nx (Eq.trans (if_f (tof_e (bin_e c2 rfl (eq_b (decide_eq_false q))))) rfl)) (ret_e rfl))) rfl, h1⟩
end K12

set_option Elab.async false
set_option linter.all false
set_option maxRecDepth 10000
namespace K12
open DL PySem L2
abbrev m_st (m : Nat) (t : Nat → Nat → Nat) (σ : Nat → Nat) (f : Nat → Nat → Nat) (z3 : Option Int) (w : Option SV) (z5 : Option Int) : DS := ⟨[some (.brw (.lst (RLs m t))), some (.brw (.lst (NS m σ))), some (.dat 1000 (.lst (RLs m f))), sI z3, w, sI z5], []⟩
abbrev m_in : SF := (sFor (iRng [(eCall gLen [(eVar 0)])]) (tName 5) (sSetIx (eEsc (eBin gIx (eVar 1) (eBin gIx (eBin gIx (eVar 0) (eVar 3)) (eVar 5)))) (eVar 4) (eBin gIx (eVar 1) (eVar 5))))
theorem m_inner {m : Nat} {t : Nat → Nat → Nat} {σ : Nat → Nat} {f : Nat → Nat → Nat} {a : Nat} {z5 : Option Int} (hm : m ≤ 1000) (ha : a < m) (ht : ∀ a b, a < m → b < m → t a b < m) (hσ : ∀ a, a < m → σ a < m) :
    ∃ g z5', m_in (m_st m t σ f (some a) (some (.als 2 [σ a])) z5) = .nx (m_st m t σ (fun x => if x = σ a then g else f x) (some a) (some (.als 2 [σ a])) z5') ∧ (∀ b, b < m → (∀ c, c < m → σ b = σ c → b = c) → g (σ b) = σ (t a b)) := by
  have hs := hσ a ha
  obtain ⟨s', e, g, z5', rfl, h⟩ := for_rng (fs := [(eCall gLen [(eVar 0)])]) (t := 5) (body := (sSetIx (eEsc (eBin gIx (eVar 1) (eBin gIx (eBin gIx (eVar 0) (eVar 3)) (eVar 5)))) (eVar 4) (eBin gIx (eVar 1) (eVar 5)))) (s := m_st m t σ f (some a) (some (.als 2 [σ a])) z5) (m := (RLs m t).length)
    (fun i s => ∃ g z5', s = m_st m t σ (fun x => if x = σ a then g else f x) (some a) (some (.als 2 [σ a])) z5' ∧ ∀ b, b < i → (∀ c, c < i → σ b = σ c → b = c) → g (σ b) = σ (t a b))
    (eva_c (call_e (eva_c rfl (eva_nil _)) (len_brw rfl)) (eva_nil _)) (by rw [rls_len]; omega) ⟨f (σ a), z5, by
      have : (fun x => if x = σ a then f (σ a) else f x) = f := funext fun x => by by_cases q : x = σ a <;> simp [q]
      rw [this], fun b hb => absurd hb (Nat.not_lt_zero _)⟩ (by
    rintro j s hj ⟨g, z5', rfl, h⟩
    rw [rls_len] at hj
    have gA : getAt (.lst (RLs m fun x => if x = σ a then g else f x)) [σ a] = some (.lst (NS m g)) := by
      show ((RLs m _)[σ a]?).bind _ = _
      rw [rls_get hs]
      simp only [if_true]
      rfl
    have hv4 : eVar 4 (m_st m t σ (fun x => if x = σ a then g else f x) (some a) (some (.als 2 [σ a])) (some j)) = .ok (.plc 2 [σ a] (.lst (NS m g))) ⟨(m_st m t σ (fun x => if x = σ a then g else f x) (some a) (some (.als 2 [σ a])) (some j)).sl, [2]⟩ := by
      unfold eVar
      show (match getAt (.lst (RLs m fun x => if x = σ a then g else f x)) [σ a] with | some d => _ | none => _) = _
      rw [gA]
      rfl
    refine ⟨rfl, m_st m t σ (fun x => if x = σ a then (fun b => if b = σ j then σ (t a j) else g b) else f x) (some a) (some (.als 2 [σ a])) (some j), .inl ?_, _, some j, rfl, ?_⟩
    · refine Eq.trans (setix_e (esc_d (bin_e rfl (bin_e (bin_e rfl rfl (ix_brw rfl (rls_get ha))) rfl (ix_brw rfl (ns_get hj))) (ix_brw rfl (ns_get (ht a j ha hj))))) hv4 (bin_e rfl rfl (ix_brw rfl (ns_get hj))) (set_ok (n := 1000) (dj := .lst (RLs m fun x => if x = σ a then g else f x)) rfl (by show 1 < 1000; omega) (by rw [ns_len]; exact hσ j hj) (ns_flat _ _) rfl rfl)) ?_
      rw [ns_set, rls_setAt _ _ _ hs]
      have : (fun x => if x = σ a then (fun b => if b = σ j then σ (t a j) else g b) else (fun x => if x = σ a then g else f x) x) = fun x => if x = σ a then (fun b => if b = σ j then σ (t a j) else g b) else f x := funext fun x => by by_cases q : x = σ a <;> simp [q]
      rw [this]
      have kb : killBX 2 [σ a] (some (.als 2 [σ a])) = some (.als 2 [σ a]) := if_neg (by rintro ⟨_, _, q⟩; exact Nat.lt_irrefl _ q)
      simp only [wrS, m_st, List.map_cons, List.map_nil, kb]
      rfl
    · intro b hb inj
      by_cases q : σ b = σ j
      · have := inj j (by omega) q
        subst this
        simp
      · have hb' : b < j := by
          rcases Nat.lt_or_ge b j with h1 | h1
          · exact h1
          · have : b = j := by omega
            subst this; exact absurd rfl q
        simp only [if_neg q]
        exact h b hb' fun c hc => inj c (by omega))
  rw [rls_len] at h
  exact ⟨g, z5', e, h⟩
abbrev m_out : SF := (sSeq (sAsg 4 (eBin gIx (eVar 2) (eBin gIx (eVar 1) (eVar 3)))) m_in)
theorem m_outer {m : Nat} {t : Nat → Nat → Nat} {σ : Nat → Nat} (hm : m ≤ 1000) (ht : ∀ a b, a < m → b < m → t a b < m) (hσ : ∀ a, a < m → σ a < m) (inj : ∀ a b, a < m → b < m → σ a = σ b → a = b) :
    ∃ f z3 w z5, sFor (iRng [(eCall gLen [(eVar 0)])]) (tName 3) m_out (m_st m t σ (fun _ _ => 0) none none none) = .nx (m_st m t σ f z3 w z5) ∧ ∀ a b, a < m → b < m → f (σ a) (σ b) = σ (t a b) := by
  obtain ⟨s', e, f, z3, w, z5, rfl, hw, h⟩ := for_rng (fs := [(eCall gLen [(eVar 0)])]) (t := 3) (body := m_out) (s := m_st m t σ (fun _ _ => 0) none none none) (m := (RLs m t).length)
    (fun i s => ∃ f z3 w z5, s = m_st m t σ f z3 w z5 ∧ (∀ y, killX 4 (killX 3 w) = y → True) ∧ ∀ a b, a < i → b < m → f (σ a) (σ b) = σ (t a b))
    (eva_c (call_e (eva_c rfl (eva_nil _)) (len_brw rfl)) (eva_nil _)) (by rw [rls_len]; omega) ⟨_, none, none, none, rfl, fun _ _ => trivial, fun b _ hb => absurd hb (Nat.not_lt_zero _)⟩ (by
    rintro a s ha ⟨f, z3, w, z5, rfl, _, h⟩
    rw [rls_len] at ha
    obtain ⟨g, z5', e1, h1⟩ := m_inner (m := m) (t := t) (σ := σ) (f := f) (a := a) (z5 := z5) hm ha ht hσ
    have hs := hσ a ha
    refine ⟨rfl, _, .inl (Eq.trans (seq_nx (s1 := m_st m t σ f (some a) (some (.als 2 [σ a])) z5) ?_) e1), _, some a, some (.als 2 [σ a]), z5', rfl, fun _ _ => trivial, ?_⟩
    · have ix : gIx (.plc 2 [] (.lst (RLs m f))) (.dat 0 (.int (σ a : Nat))) ⟨[some (.brw (.lst (RLs m t))), some (.brw (.lst (NS m σ))), some (.dat 1000 (.lst (RLs m f))), sI (some a), killX 3 w, sI z5], [2]⟩ = some (.plc 2 [σ a] (.lst (NS m (f (σ a)))), ⟨[some (.brw (.lst (RLs m t))), some (.brw (.lst (NS m σ))), some (.dat 1000 (.lst (RLs m f))), sI (some a), killX 3 w, sI z5], [2]⟩) := by
        have hl : σ a < (RLs m f).length := by rw [rls_len]; exact hs
        unfold gIx
        simp only [DV.d, items?, ixN_nat hl, rls_get hs]
        rfl
      cases z5 <;> exact Eq.trans (asg_p (bin_e rfl (bin_e rfl rfl (ix_brw rfl (ns_get ha))) ix) rfl (by omega) rfl) rfl
    · intro b c hb hc
      by_cases q : b = a
      · subst q
        simp only [if_true]
        exact h1 c hc fun d hd e => inj c d hc hd e
      · have : σ b ≠ σ a := fun e => q (inj b a (by omega) ha e)
        simp only [if_neg this]
        exact h b c (by omega) hc)
  rw [rls_len] at h
  exact ⟨f, z3, w, z5, e, h⟩
end K12

set_option Elab.async false
set_option linter.all false
set_option maxRecDepth 10000
namespace K12
open DL PySem L2
theorem zeros_ok {m : Nat} {t : Nat → Nat → Nat} {x1 : Option SV} {hm : m ≤ 1000} : eLc [3] (iSeq (eVar 0)) (tName 3) tTrue (eLc [5] (iSeq (eVar 0)) (tName 5) tTrue (eCon (.int 0))) ⟨[some (.brw (.lst (RLs m t))), some (.brw (.lst (NS m σ))), none, none, none, none], []⟩ = .ok (.dat 1000 (.lst (RLs m fun _ _ => 0))) ⟨[some (.brw (.lst (RLs m t))), some (.brw (.lst (NS m σ))), none, none, none, none], []⟩ := by
  have inn : ∀ c : Option SV, killX 5 c = c → eLc [5] (iSeq (eVar 0)) (tName 5) tTrue (eCon (.int 0)) ⟨[some (.brw (.lst (RLs m t))), some (.brw (.lst (NS m σ))), none, c, none, none], []⟩ = .ok (.dat 1000 (.lst (NS m fun _ => 0))) ⟨[some (.brw (.lst (RLs m t))), some (.brw (.lst (NS m σ))), none, c, none, none], []⟩ := by
    intro c hc
    have key := lc_pure (vs := [5]) (it := iSeq (eVar 0)) (tgt := tName 5) (f := eCon (.int 0)) (s := ⟨[some (.brw (.lst (RLs m t))), some (.brw (.lst (NS m σ))), none, c, none, none], []⟩) (s0 := ⟨[some (.brw (.lst (RLs m t))), some (.brw (.lst (NS m σ))), none, c, none, none], []⟩) (s2 := ⟨[some (.brw (.lst (RLs m t))), some (.brw (.lst (NS m σ))), none, c, none, none], []⟩)
      (n := (RLs m t).length) (x := .brw (.lst (RLs m t))) (itm := sqItm (.brw (.lst (RLs m t))) (RLs m t)) (fun _ => .int ((0 : Nat) : Int)) rfl rfl
      (by show some (DS.mk [_, _, _, killX 5 c, _, _] _) = _; rw [hc]; rfl) (by rw [rls_len]; show m ≤ 2 ^ 24; omega) (by
        intro j hj
        rw [rls_len] at hj
        refine ⟨rfl, _, _, ⟨[some (.brw (.lst (RLs m t))), some (.brw (.lst (NS m σ))), none, c, none, some (.brw (.lst (NS m (t j))))], []⟩, _, _, sq_brwc (rls_get hj) rfl, Eq.trans (name_b rfl) (by show some (DS.mk [_, _, _, killX 5 c, _, _] _) = _; rw [hc]; rfl), rfl, by show some (DS.mk [_, _, _, killX 5 c, _, _] _) = _; rw [hc]; rfl⟩)
    rw [rls_len] at key
    exact key
  obtain ⟨k', ds', s', e, rfl, rfl, rfl⟩ := lc_it (vs := [3]) (it := iSeq (eVar 0)) (tgt := tName 3) (f := eLc [5] (iSeq (eVar 0)) (tName 5) tTrue (eCon (.int 0))) (s := ⟨[some (.brw (.lst (RLs m t))), some (.brw (.lst (NS m σ))), none, none, none, none], []⟩) (s0 := ⟨[some (.brw (.lst (RLs m t))), some (.brw (.lst (NS m σ))), none, none, none, none], []⟩) (s2 := ⟨[some (.brw (.lst (RLs m t))), some (.brw (.lst (NS m σ))), none, none, none, none], []⟩)
    (n := (RLs m t).length) (x := .brw (.lst (RLs m t))) (itm := sqItm (.brw (.lst (RLs m t))) (RLs m t))
    (fun j k ds s => k = 1000 ∧ ds = (List.range j).map (fun _ => D.lst (NS m fun _ => 0)) ∧ s = ⟨[some (.brw (.lst (RLs m t))), some (.brw (.lst (NS m σ))), none, none, none, none], []⟩) rfl rfl rfl ⟨rfl, rfl, rfl⟩ (by
    rintro j k ds s hj ⟨rfl, rfl, rfl⟩
    rw [rls_len] at hj
    refine ⟨_, _, ⟨[some (.brw (.lst (RLs m t))), some (.brw (.lst (NS m σ))), none, some (.brw (.lst (NS m (t j)))), none, none], []⟩, 1000, .lst (NS m fun _ => 0), _, _, sq_brwc (rls_get hj) rfl, name_b rfl, mv_e (inn _ rfl), by rw [List.length_map, List.length_range]; show j < 2 ^ 24; omega, rfl, rfl, ?_, rfl⟩
    rw [List.range_succ, List.map_append]; rfl)
  rw [rls_len] at e
  exact e
theorem named_ok {m : Nat} {t : Nat → Nat → Nat} {σ : Nat → Nat} (hm : m ≤ 1000) (ht : ∀ a b, a < m → b < m → t a b < m) (hσ : ∀ a, a < m → σ a < m) (inj : ∀ a b, a < m → b < m → σ a = σ b → a = b) :
    ∃ f, fD_law_named [.brw (.lst (RLs m t)), .brw (.lst (NS m σ))] = .ok 1000 (.lst (RLs m f)) [] ∧ ∀ a b, a < m → b < m → f (σ a) (σ b) = σ (t a b) := by
  obtain ⟨f, z3, w, z5, e, h⟩ := m_outer hm ht hσ inj
  exact ⟨f, fn_e rfl (Eq.trans (seq_nx (asg_d (zeros_ok (x1 := none) (hm := hm)) rfl)) (Eq.trans (seq_nx e) (ret_e rfl))) rfl, h⟩
end K12

set_option Elab.async false
set_option linter.all false
set_option maxRecDepth 10000
namespace K12
open DL PySem L2
theorem perm_up {p : List Int} {k : Nat} (h : p.Perm (upto k)) : p.length = k ∧ (∀ a, a < k → 0 ≤ p.getD a 0 ∧ p.getD a 0 < k) ∧ ∀ a b, a < k → b < k → p.getD a 0 = p.getD b 0 → a = b := by
  have hl : p.length = k := h.length_eq.trans (upto_len k)
  have nd : p.Nodup := h.nodup_iff.mpr (List.Pairwise.map (R := fun a b => a ≠ b) _ (fun a b (q : a ≠ b) e => q (Int.ofNat.inj e)) List.nodup_range)
  refine ⟨hl, fun a ha => ?_, fun a b ha hb e => ?_⟩
  · have ha' : a < p.length := by omega
    rw [List.getD_eq_getElem?_getD, List.getElem?_eq_getElem ha']
    have mm : p[a] ∈ upto k := h.mem_iff.mp (List.getElem_mem ha')
    obtain ⟨i, hi, e⟩ := List.mem_map.mp mm
    have := List.mem_range.mp hi
    show 0 ≤ p[a] ∧ p[a] < k
    omega
  · have ha' : a < p.length := by omega
    have hb' : b < p.length := by omega
    rw [List.getD_eq_getElem?_getD, List.getElem?_eq_getElem ha', List.getD_eq_getElem?_getD, List.getElem?_eq_getElem hb'] at e
    exact (List.getElem_inj nd).mp e
def sg (p : List Int) : Nat → Nat
  | 0 => 0
  | a + 1 => (p.getD a 0).toNat + 1
theorem sg_ns {p : List Int} {k : Nat} (h : p.Perm (upto k)) : [D.int 0] ++ (List.range k).map (fun j => D.int (p.getD j 0 + 1)) = NS (k + 1) (sg p) := by
  unfold NS
  rw [List.range_succ_eq_map, List.map_cons, List.map_map]
  show D.int 0 :: _ = D.int 0 :: _
  refine congrArg _ (List.map_congr_left fun a ha => ?_)
  have := ((perm_up h).2.1 a (List.mem_range.mp ha)).1
  show D.int _ = D.int (((p.getD a 0).toNat + 1 : Nat) : Int)
  refine congrArg _ ?_
  omega
theorem sg_ok {p : List Int} {k : Nat} (h : p.Perm (upto k)) : (∀ a, a < k + 1 → sg p a < k + 1) ∧ (∀ a b, a < k + 1 → b < k + 1 → sg p a = sg p b → a = b) := by
  obtain ⟨hl, h1, h2⟩ := perm_up h
  constructor
  · intro a ha
    cases a with
    | zero => exact Nat.zero_lt_succ _
    | succ a => have := h1 a (by omega); show (p.getD a 0).toNat + 1 < k + 1; omega
  · intro a b ha hb e
    cases a with
    | zero => cases b with
      | zero => rfl
      | succ b => exact absurd e (by show ¬ 0 = _ + 1; omega)
    | succ a => cases b with
      | zero => exact absurd e (by show ¬ _ + 1 = 0; omega)
      | succ b =>
        have e : (p.getD a 0).toNat + 1 = (p.getD b 0).toNat + 1 := e
        have a1 := (h1 a (by omega)).1
        have b1 := (h1 b (by omega)).1
        have := h2 a b (by omega) (by omega) (by omega)
        omega
theorem tab_lt : ∀ k, k < 14 → 0 < ord k ∧ ord k ≤ 8 ∧ ∀ a, a < ord k → ∀ b, b < ord k → tab k a b < ord k := by decide
theorem anew_ok {n k : Nat} (hk : k < 14) (xs : List Int) : ∃ (f : Nat → Nat → Nat) (σ : Nat → Nat) (ys : List Int), fD_law_anew [.dat (n + 1) (NL xs), .dat 0 (.int k)] = .ok 1000 (.lst (RLs (ord k) f)) [(n + 1, NL ys)] ∧
    σ 0 = 0 ∧ (∀ a, a < ord k → σ a < ord k) ∧ (∀ a b, a < ord k → b < ord k → σ a = σ b → a = b) ∧ ∀ a b, a < ord k → b < ord k → f (σ a) (σ b) = σ (tab k a b) := by
  obtain ⟨n', eg⟩ := group_ok k hk
  obtain ⟨o1, o2, o3⟩ := tab_lt k hk
  generalize ord k = m at *
  obtain ⟨r, rfl⟩ : ∃ r, m = r + 1 := ⟨m - 1, by omega⟩
  obtain ⟨q, p, ys, es, hp⟩ := shuffled_ok (n := n) (m := r) (by omega) xs
  obtain ⟨s1, s2⟩ := sg_ok hp
  obtain ⟨f, en, hf⟩ := named_ok (m := r + 1) (t := tab k) (σ := sg p) (by omega) (fun a b ha hb => o3 a ha b hb) s1 s2
  have eg' : fD_law_group [.dat 0 (.int (k : Nat))] = .ok (n' + 1) (.lst (RLs (r + 1) (tab k))) [] := eg
  have pl := (perm_up hp).1
  have c1 := callF_e (fn := fD_law_group) (io := []) (cs := [CM.bw]) (ds := []) (fs := [(eVar 1)]) (s := ⟨[some (.dat (n + 1) (NL xs)), some (.dat 0 (.int k)), none, none, none], []⟩) (s2 := ⟨[some (.dat (n + 1) (NL xs)), some (.dat 0 (.int k)), none, none, none], []⟩) (eva_c rfl (eva_nil _)) rfl rfl eg' rfl
  have e0 : (RLs (r + 1) (tab k)).length - 1 = r := by rw [rls_len]; rfl
  have ea : evA [(eVar 0), (eBin dSub (eCall gLen [(eVar 2)]) (eCon (.int 1)))] ⟨[some (.dat (n + 1) (NL xs)), some (.dat 0 (.int k)), some (.dat (n' + 1) (.lst (RLs (r + 1) (tab k)))), none, none], []⟩ = .ok [.plc 0 [] (NL xs), .dat 0 (.int r)] ⟨[some (.dat (n + 1) (NL xs)), some (.dat 0 (.int k)), some (.dat (n' + 1) (.lst (RLs (r + 1) (tab k)))), none, none], [0]⟩ := by
    have := subN (a := (RLs (r + 1) (tab k)).length) (b := 1) (n := 0) (m := 0) (s := ⟨[some (.dat (n + 1) (NL xs)), some (.dat 0 (.int k)), some (.dat (n' + 1) (.lst (RLs (r + 1) (tab k)))), none, none], [0]⟩) (by rw [rls_len]; omega)
    rw [e0] at this
    exact eva_c rfl (eva_c (bin_e (call_e (eva_c rfl (eva_nil _)) len_plc) rfl this) (eva_nil _))
  have c2 := callF_e (fn := fD_law_shuffled) (io := [0]) (cs := [CM.io, CM.bw]) (ds := []) (s2 := ⟨[some (.dat (n + 1) (NL ys)), some (.dat 0 (.int k)), some (.dat (n' + 1) (.lst (RLs (r + 1) (tab k)))), none, none], []⟩) ea rfl rfl es rfl
  have lc := lc_pure (vs := [4]) (it := iSeq (eCallF fD_law_shuffled [0] [CM.io, CM.bw] [] [(eVar 0), (eBin dSub (eCall gLen [(eVar 2)]) (eCon (.int 1)))])) (tgt := tName 4) (f := eBin dAdd (eVar 4) (eCon (.int 1))) (s := ⟨[some (.dat (n + 1) (NL xs)), some (.dat 0 (.int k)), some (.dat (n' + 1) (.lst (RLs (r + 1) (tab k)))), none, none], []⟩)
    (s0 := ⟨[some (.dat (n + 1) (NL ys)), some (.dat 0 (.int k)), some (.dat (n' + 1) (.lst (RLs (r + 1) (tab k)))), none, none], []⟩) (s2 := ⟨[some (.dat (n + 1) (NL ys)), some (.dat 0 (.int k)), some (.dat (n' + 1) (.lst (RLs (r + 1) (tab k)))), none, none], []⟩)
    (x := .dat 0 (NL p)) (n := (p.map D.int).length) (itm := sqItm (.dat 0 (NL p)) (p.map D.int)) (fun j => .int (p.getD j 0 + 1)) (by unfold iSeq; rw [c2]; rfl) rfl rfl (by rw [List.length_map, pl]; show r ≤ 2 ^ 24; omega) (by
      intro j hj
      rw [List.length_map] at hj
      have g : (p.map D.int)[j]? = some (D.int (p.getD j 0)) := by
        rw [ints_get hj, List.getD_eq_getElem?_getD, List.getElem?_eq_getElem hj]; rfl
      exact ⟨rfl, _, _, ⟨[some (.dat (n + 1) (NL ys)), some (.dat 0 (.int k)), some (.dat (n' + 1) (.lst (RLs (r + 1) (tab k)))), none, some (.dat 0 (.int (p.getD j 0)))], []⟩, _, _, sq_dat g, name_d rfl, rfl, rfl⟩)
  rw [List.length_map, pl] at lc
  have cat : gCat (.dat 1 (.lst [D.int 0])) (.dat 1000 (.lst ((List.range r).map fun j => D.int (p.getD j 0 + 1)))) ⟨[some (.dat (n + 1) (NL ys)), some (.dat 0 (.int k)), some (.dat (n' + 1) (.lst (RLs (r + 1) (tab k)))), none, none], []⟩ = some (.dat 1 (.lst (NS (r + 1) (sg p))), ⟨[some (.dat (n + 1) (NL ys)), some (.dat 0 (.int k)), some (.dat (n' + 1) (.lst (RLs (r + 1) (tab k)))), none, none], []⟩) := by
    rw [← sg_ns hp]
    exact cat_ok (fa := rfl) (fb := by simp [D.flat]) (by simp; show 1 + r ≤ 2 ^ 24; omega)
  have c3 := callF_e (fn := fD_law_named) (io := []) (cs := [CM.bw, CM.bw]) (ds := []) (fs := [(eVar 2), (eVar 3)]) (s := ⟨[some (.dat (n + 1) (NL ys)), some (.dat 0 (.int k)), some (.dat (n' + 1) (.lst (RLs (r + 1) (tab k)))), some (.dat 1 (.lst (NS (r + 1) (sg p)))), none], []⟩) (s2 := ⟨[some (.dat (n + 1) (NL ys)), some (.dat 0 (.int k)), some (.dat (n' + 1) (.lst (RLs (r + 1) (tab k)))), some (.dat 1 (.lst (NS (r + 1) (sg p)))), none], []⟩) (eva_c rfl (eva_c rfl (eva_nil _))) rfl rfl en rfl
  exact ⟨f, sg p, ys, fn_e rfl (Eq.trans (seq_nx (asg_d c1 rfl)) (Eq.trans (seq_nx (asg_d (bin_e rfl lc cat) rfl)) (ret_e c3))) rfl, rfl, s1, s2, hf⟩
end K12

set_option Elab.async false
set_option linter.all false
set_option maxRecDepth 10000
namespace K12
open DL PySem L2
def rowI (m : Nat) (g : Nat → Nat) : List Int := (List.range m).map fun b => ((g b : Nat) : Int)
theorem ns_row (m : Nat) (g : Nat → Nat) : NS m g = (rowI m g).map D.int := by
  unfold NS rowI
  rw [List.map_map]; rfl
theorem sort_row {m : Nat} {g : Nat → Nat} (hlt : ∀ a, a < m → g a < m) (inj : ∀ a b, a < m → b < m → g a = g b → a = b) : sortI (rowI m g) = upto m := by
  refine sorted_unique ((sortI_perm _).trans ?_) (sortI_sorted _) ?_
  · have := (row_perm hlt inj).map (fun n : Nat => (n : Int))
    rw [List.map_map] at this
    exact this
  · exact List.pairwise_map.mpr (List.Pairwise.imp (fun {a b} (h : a < b) => by omega) List.pairwise_lt_range)
theorem asInts_ok : ∀ xs : List Int, (xs.map D.int).mapM asInt = some xs
  | [] => rfl
  | x :: xs => by rw [List.map_cons, List.mapM_cons, asInts_ok xs]; rfl
theorem renaming_ok {m : Nat} {g : Nat → Nat} {e : D} (hm : m ≤ 1000) (he : items? e = some (NS m g)) (hf : e.flat = false) (hc : e.cont = true ∨ True) (hlt : ∀ a, a < m → g a < m) (inj : ∀ a b, a < m → b < m → g a = g b → a = b) :
    fD_is_renaming [.brw e, .dat 0 (.int m)] = .ok 0 (.bl true) [] := by
  have v0 : eVar 0 ⟨[some (.brw e), some (.dat 0 (.int m))], []⟩ = .ok (.brw e) ⟨[some (.brw e), some (.dat 0 (.int m))], []⟩ := by
    unfold eVar
    show (if e.flat = true then _ else _) = _
    rw [hf]; rfl
  have s1 : gSorted [.brw e] ⟨[some (.brw e), some (.dat 0 (.int m))], []⟩ = some (.dat 1 (NL (upto m)), ⟨[some (.brw e), some (.dat 0 (.int m))], []⟩) := by
    unfold gSorted
    simp only [DV.d, he, ns_row, asInts_ok, sort_row hlt inj]
    rfl
  have hd : deq (NL (upto m)) (NL (upto m)) = some true := by rw [deq_lst]; simp
  exact fn_e rfl (ret_e (bin_e (call_e (eva_c v0 (eva_nil _)) s1) (rg_e rfl (by omega)) (eq_same hd))) rfl
/-- the laws that a table keeps -/
structure Gp (m : Nat) (f : Nat → Nat → Nat) : Prop where
  pos : 0 < m
  le : m ≤ 8
  lt : ∀ a b, a < m → b < m → f a b < m
  ul : ∀ b, b < m → f 0 b = b
  ur : ∀ a, a < m → f a 0 = a
  as : ∀ a b c, a < m → b < m → c < m → f (f a b) c = f a (f b c)
  rj : ∀ a b c, a < m → b < m → c < m → f a b = f a c → b = c
  cj : ∀ a b c, a < m → b < m → c < m → f b a = f c a → b = c
theorem tab_1 : ∀ k, k < 14 → ∀ b, b < ord k → tab k 0 b = b := by decide
theorem tab_2 : ∀ k, k < 14 → ∀ a, a < ord k → tab k a 0 = a := by decide
theorem tab_3 : ∀ k, k < 14 → ∀ a, a < ord k → ∀ b, b < ord k → ∀ c, c < ord k → tab k (tab k a b) c = tab k a (tab k b c) := by decide
theorem tab_4 : ∀ k, k < 14 → ∀ a, a < ord k → ∀ b, b < ord k → ∀ c, c < ord k → tab k a b = tab k a c → b = c := by decide
theorem tab_5 : ∀ k, k < 14 → ∀ a, a < ord k → ∀ b, b < ord k → ∀ c, c < ord k → tab k b a = tab k c a → b = c := by decide
theorem tab_gp {k : Nat} (hk : k < 14) : Gp (ord k) (tab k) := by
  obtain ⟨h1, h2, h3⟩ := tab_lt k hk
  exact ⟨h1, h2, fun a b x y => h3 a x b y, tab_1 k hk, tab_2 k hk, fun a b c x y z => tab_3 k hk a x b y c z, fun a b c x y z => tab_4 k hk a x b y c z, fun a b c x y z => tab_5 k hk a x b y c z⟩
theorem gp_move {m : Nat} {t f : Nat → Nat → Nat} {σ : Nat → Nat} (G : Gp m t) (s0 : σ 0 = 0) (hσ : ∀ a, a < m → σ a < m) (inj : ∀ a b, a < m → b < m → σ a = σ b → a = b) (hf : ∀ a b, a < m → b < m → f (σ a) (σ b) = σ (t a b)) : Gp m f := by
  have on := row_onto hσ inj
  refine ⟨G.pos, G.le, fun a b ha hb => ?_, fun b hb => ?_, fun a ha => ?_, fun a b c ha hb hc => ?_, fun a b c ha hb hc e => ?_, fun a b c ha hb hc e => ?_⟩
  · obtain ⟨a, qa, rfl⟩ := on a ha
    obtain ⟨b, qb, rfl⟩ := on b hb
    rw [hf a b qa qb]; exact hσ _ (G.lt a b qa qb)
  · obtain ⟨b, qb, rfl⟩ := on b hb
    have := hf 0 b G.pos qb
    rw [s0, G.ul b qb] at this; exact this
  · obtain ⟨a, qa, rfl⟩ := on a ha
    have := hf a 0 qa G.pos
    rw [s0, G.ur a qa] at this; exact this
  · obtain ⟨a, qa, rfl⟩ := on a ha
    obtain ⟨b, qb, rfl⟩ := on b hb
    obtain ⟨c, qc, rfl⟩ := on c hc
    rw [hf a b qa qb, hf b c qb qc, hf _ c (G.lt a b qa qb) qc, hf a _ qa (G.lt b c qb qc), G.as a b c qa qb qc]
  · obtain ⟨a, qa, rfl⟩ := on a ha
    obtain ⟨b, qb, rfl⟩ := on b hb
    obtain ⟨c, qc, rfl⟩ := on c hc
    rw [hf a b qa qb, hf a c qa qc] at e
    rw [G.rj a b c qa qb qc (inj _ _ (G.lt a b qa qb) (G.lt a c qa qc) e)]
  · obtain ⟨a, qa, rfl⟩ := on a ha
    obtain ⟨b, qb, rfl⟩ := on b hb
    obtain ⟨c, qc, rfl⟩ := on c hc
    rw [hf b a qb qa, hf c a qc qa] at e
    rw [G.cj a b c qa qb qc (inj _ _ (G.lt b a qb qa) (G.lt c a qc qa) e)]
end K12

set_option Elab.async false
set_option linter.all false
set_option maxRecDepth 10000
namespace K12
open DL PySem L2
theorem or_ff {a b : TF} {s s1 s2 : DS} (h : a s = .ok false s1) (h2 : b s1 = .ok false s2) : tOrF a b s = .ok false s2 := by unfold tOrF; rw [h]; exact h2
theorem not_t {a : TF} {s s1 : DS} (h : a s = .ok true s1) : tNotF a s = .ok false s1 := by unfold tNotF; rw [h]; rfl
abbrev c_st (m : Nat) (f : Nat → Nat → Nat) (w : Option SV) (z : Option Int) : DS := ⟨[some (.brw (.tup (RTs m f))), some (.dat 0 (.int m)), w, sI z], []⟩
abbrev c_loop1 : SF := (sFor (iSeq (eVar 0)) (tName 2) (sIf (tNotF (tOf (eCallF fD_is_renaming [] [CM.bw, CM.bw] [] [(eVar 2), (eVar 1)]))) (sRaise "BadMerge") sSkip))
abbrev c_loop2 : SF := (sFor (iRng [(eVar 1)]) (tName 3) (sIf (tNotF (tOf (eCallF fD_is_renaming [] [CM.bw, CM.bw] [] [(eLc [2] (iSeq (eVar 0)) (tName 2) tTrue (eBin gIx (eVar 2) (eVar 3))), (eVar 1)]))) (sRaise "BadMerge") sSkip))
def NoAl : Option SV → Prop
  | some (.als _ _) => False
  | _ => True
theorem kill_no {i : Nat} {w : Option SV} (h : NoAl w) : killX i w = w := by
  cases w with
  | none => rfl
  | some y => cases y with
    | dat => rfl
    | brw => rfl
    | als => exact h.elim
theorem c_loop1_ok {m : Nat} {f : Nat → Nat → Nat} (G : Gp m f) : ∃ w, NoAl w ∧ c_loop1 (c_st m f none none) = .nx (c_st m f w none) := by
  have hm := G.le
  obtain ⟨s', e, w, hw, rfl⟩ := for_it (it := iSeq (eVar 0)) (tgt := tName 2) (body := (sIf (tNotF (tOf (eCallF fD_is_renaming [] [CM.bw, CM.bw] [] [(eVar 2), (eVar 1)]))) (sRaise "BadMerge") sSkip)) (s := c_st m f none none) (s0 := c_st m f none none) (x := .brw (.tup (RTs m f))) (n := (RTs m f).length) (itm := sqItm (.brw (.tup (RTs m f))) (RTs m f))
    (fun _ s => ∃ w, NoAl w ∧ s = c_st m f w none) rfl ⟨none, trivial, rfl⟩ (by
    rintro j s hj ⟨w, hw, rfl⟩
    rw [rts_len] at hj
    have r := renaming_ok (m := m) (g := f j) (e := .tup (NS m (f j))) (by omega) rfl rfl (.inr trivial) (fun a ha => G.lt j a hj ha) (fun a b ha hb => G.rj j a b hj ha hb)
    have c1 := callF_e (fn := fD_is_renaming) (io := []) (cs := [CM.bw, CM.bw]) (ds := []) (fs := [(eVar 2), (eVar 1)]) (s := c_st m f (some (.brw (.tup (NS m (f j))))) none) (s2 := c_st m f (some (.brw (.tup (NS m (f j))))) none) (eva_c rfl (eva_c rfl (eva_nil _))) rfl rfl r rfl
    exact ⟨_, _, c_st m f (some (.brw (.tup (NS m (f j))))) none, _, sq_brwc (rts_get hj) rfl, name_b rfl, .inl (Eq.trans (if_f (not_t (tof_e c1))) rfl), some (.brw (.tup (NS m (f j)))), trivial, rfl⟩)
  exact ⟨w, hw, e⟩
theorem c_loop2_ok {m : Nat} {f : Nat → Nat → Nat} (G : Gp m f) {w : Option SV} (hw : NoAl w) : ∃ y z, c_loop2 (c_st m f w none) = .nx (c_st m f y z) := by
  have hm := G.le
  obtain ⟨s', e, w, z, hw, rfl⟩ := for_rng (fs := [(eVar 1)]) (t := 3) (body := (sIf (tNotF (tOf (eCallF fD_is_renaming [] [CM.bw, CM.bw] [] [(eLc [2] (iSeq (eVar 0)) (tName 2) tTrue (eBin gIx (eVar 2) (eVar 3))), (eVar 1)]))) (sRaise "BadMerge") sSkip)) (s := c_st m f w none) (m := m)
    (fun _ s => ∃ w z, NoAl w ∧ s = c_st m f w z) rfl (by omega) ⟨w, none, hw, rfl⟩ (by
    rintro j s hj ⟨w, z, hw, rfl⟩
    have lc := lc_pure (vs := [2]) (it := iSeq (eVar 0)) (tgt := tName 2) (f := eBin gIx (eVar 2) (eVar 3)) (s := c_st m f w (some j)) (s0 := c_st m f w (some j)) (s2 := c_st m f none (some j)) (x := .brw (.tup (RTs m f))) (n := (RTs m f).length) (itm := sqItm (.brw (.tup (RTs m f))) (RTs m f)) (fun a => .int (f a j : Nat)) rfl rfl rfl (by rw [rts_len]; show m ≤ 2 ^ 24; omega) (by
      intro a ha
      rw [rts_len] at ha
      exact ⟨rfl, _, _, c_st m f (some (.brw (.tup (NS m (f a))))) (some j), _, _, sq_brwc (rts_get ha) rfl, name_b rfl, mv_e (bin_e rfl rfl (ix_brw rfl (ns_get hj))), rfl⟩)
    rw [rts_len] at lc
    have r := renaming_ok (m := m) (g := fun a => f a j) (e := .lst (NS m fun a => f a j)) (by omega) rfl rfl (.inr trivial) (fun a ha => G.lt a j ha hj) (fun a b ha hb => G.cj j a b hj ha hb)
    have c1 := callF_e (fn := fD_is_renaming) (io := []) (cs := [CM.bw, CM.bw]) (ds := []) (fs := [(eLc [2] (iSeq (eVar 0)) (tName 2) tTrue (eBin gIx (eVar 2) (eVar 3))), (eVar 1)]) (s := c_st m f w (some j)) (s2 := c_st m f none (some j)) (eva_c lc (eva_c rfl (eva_nil _))) rfl rfl r rfl
    refine ⟨rfl, c_st m f none (some j), .inl ?_, none, some j, trivial, rfl⟩
    have e : DS.mk (putS (c_st m f w z).sl 3 (.dat 0 (.int (j : Nat)))) (c_st m f w z).lk = c_st m f w (some j) := by
      show DS.mk [_, _, killX 3 w, _] _ = _
      rw [kill_no hw]; rfl
    rw [e]
    exact Eq.trans (if_f (s1 := c_st m f none (some j)) (not_t (tof_e c1))) rfl)
  exact ⟨w, z, e⟩
theorem skip_e (s : DS) : sSkip s = .nx s := rfl
theorem check_ok {m : Nat} {f : Nat → Nat → Nat} (G : Gp m f) : fD_check_table [.brw (.tup (RTs m f))] = .ok 0 .non [] := by
  have h1 := G.pos
  have h2 := G.le
  obtain ⟨w, hw, e1⟩ := c_loop1_ok G
  obtain ⟨w2, z, e2⟩ := c_loop2_ok G hw
  have el : eCall gLen [(eVar 0)] ⟨[some (.brw (.tup (RTs m f))), none, none, none], []⟩ = .ok (.dat 0 (.int m)) ⟨[some (.brw (.tup (RTs m f))), none, none, none], []⟩ := by
    have := call_e (fs := [(eVar 0)]) (s := ⟨[some (.brw (.tup (RTs m f))), none, none, none], []⟩) (eva_c rfl (eva_nil _)) (len_brw (e := .tup (RTs m f)) rfl)
    rw [rts_len] at this
    exact this
  exact Eq.trans (fn_nx (s := c_st m f w2 z) rfl (Eq.trans (seq_nx (s1 := c_st m f none none) (asg_d el rfl)) (Eq.trans (seq_nx (s1 := c_st m f none none) (Eq.trans (if_f (s1 := c_st m f none none) (or_ff (tof_e (bin_e rfl rfl (lt_b (decide_eq_false (by omega))))) (tof_e (bin_e rfl rfl (gt_b (decide_eq_false (by omega))))))) rfl)) (Eq.trans (seq_nx e1) e2)))) rfl
end K12

set_option Elab.async false
set_option linter.all false
set_option maxRecDepth 10000
namespace K12
open DL PySem L2
theorem list_tup {ds : List D} {s : DS} (fl : ds.all D.flat = true) : gList [.brw (.tup ds)] s = some (.dat 1 (.lst ds), s) := by
  unfold gList dnk kOkT
  simp only [DV.d, items?, lim, isTup, fl, if_true, Bool.true_or]
  rfl
theorem seq_e {f : EF} {s s1 : DS} {x : DV} {ds : List D} (h : f s = .ok x s1) (hd : seqOf x.d = some ds) : iSeq f s = .ok (DL.plain x) ds.length (sqItm (DL.plain x) ds) s1 := by
  unfold iSeq; rw [h]; simp only [hd]
theorem en_brw {e : D} {ds : List D} {k : Nat} {i : Int} {s : DS} (h : ds[k]? = some (.int i)) : enItm (.brw e) ds k s = some (.many [.dat 0 (.int (k : Nat)), .dat 0 (.int i)], s) := by
  unfold enItm
  rw [h]
  rfl
abbrev a_st (m : Nat) (f : Nat → Nat → Nat) (w1 : Option SV) (z2 z3 z4 : Option Int) : DS := ⟨[some (.brw (.tup (RTs m f))), w1, sI z2, sI z3, sI z4], []⟩
abbrev a_in : SF := (sFor (iEnum (eVar 1)) (tTup [(tName 2), (tName 3)]) (sIf (tOf (eBin dNe (eLc [4] (iSeq (eBin gIx (eVar 0) (eVar 2))) (tName 4) tTrue (eBin gIx (eVar 1) (eVar 4))) (eCall gList [(eBin gIx (eVar 0) (eVar 3))]))) (sRet (eCon (.bl false))) sSkip))
theorem a_in_ok {m : Nat} {f : Nat → Nat → Nat} (G : Gp m f) {a : Nat} (ha : a < m) (z2 z3 : Option Int) : ∃ y2 y3, a_in (a_st m f (some (.brw (.tup (NS m (f a))))) z2 z3 none) = .nx (a_st m f (some (.brw (.tup (NS m (f a))))) y2 y3 none) := by
  have hm := G.le
  obtain ⟨s', e, y2, y3, rfl⟩ := for_it (it := iEnum (eVar 1)) (tgt := tTup [(tName 2), (tName 3)]) (body := (sIf (tOf (eBin dNe (eLc [4] (iSeq (eBin gIx (eVar 0) (eVar 2))) (tName 4) tTrue (eBin gIx (eVar 1) (eVar 4))) (eCall gList [(eBin gIx (eVar 0) (eVar 3))]))) (sRet (eCon (.bl false))) sSkip)) (s := a_st m f (some (.brw (.tup (NS m (f a))))) z2 z3 none) (s0 := a_st m f (some (.brw (.tup (NS m (f a))))) z2 z3 none) (x := .brw (.tup (NS m (f a)))) (n := (NS m (f a)).length) (itm := enItm (.brw (.tup (NS m (f a)))) (NS m (f a)))
    (fun _ s => ∃ z2 z3, s = a_st m f (some (.brw (.tup (NS m (f a))))) z2 z3 none) rfl ⟨z2, z3, rfl⟩ (by
    rintro b s hb ⟨z2, z3, rfl⟩
    rw [ns_len] at hb
    have hab := G.lt a b ha hb
    have lc := lc_pure (vs := [4]) (it := iSeq (eBin gIx (eVar 0) (eVar 2))) (tgt := tName 4) (f := eBin gIx (eVar 1) (eVar 4)) (s := a_st m f (some (.brw (.tup (NS m (f a))))) (some b) (some (f a b)) none) (s0 := a_st m f (some (.brw (.tup (NS m (f a))))) (some b) (some (f a b)) none) (s2 := a_st m f (some (.brw (.tup (NS m (f a))))) (some b) (some (f a b)) none) (x := .brw (.tup (NS m (f b)))) (n := (NS m (f b)).length) (itm := sqItm (.brw (.tup (NS m (f b)))) (NS m (f b))) (fun c => .int (f a (f b c) : Nat))
      (seq_e (x := .brw (.tup (NS m (f b)))) (ds := NS m (f b)) (bin_e rfl rfl (ix_brw rfl (rts_get hb))) rfl) rfl rfl (by rw [ns_len]; show m ≤ 2 ^ 24; omega) (by
      intro c hc
      rw [ns_len] at hc
      exact ⟨rfl, _, _, a_st m f (some (.brw (.tup (NS m (f a))))) (some b) (some (f a b)) (some (f b c)), _, _, sq_brw (ns_get hc), name_d rfl, mv_e (bin_e rfl rfl (ix_brw rfl (ns_get (G.lt b c hb hc)))), rfl⟩)
    rw [ns_len] at lc
    have er : NS m (f (f a b)) = NS m fun c => f a (f b c) := List.map_congr_left fun c hc => by rw [G.as a b c ha hb (List.mem_range.mp hc)]
    have hd : deq (.lst (NS m fun c => f a (f b c))) (.lst (NS m (f (f a b)))) = some true := by rw [er, ns_row, deq_lst]; simp
    have cl : eCall gList [(eBin gIx (eVar 0) (eVar 3))] (a_st m f (some (.brw (.tup (NS m (f a))))) (some b) (some (f a b)) none) = .ok (.dat 1 (.lst (NS m (f (f a b))))) (a_st m f (some (.brw (.tup (NS m (f a))))) (some b) (some (f a b)) none) := call_e (eva_c (bin_e rfl rfl (ix_brw rfl (rts_get hab))) (eva_nil _)) (list_tup (ns_flat _ _))
    refine ⟨_, _, a_st m f (some (.brw (.tup (NS m (f a))))) (some b) (some (f a b)) none, _, en_brw (ns_get hb), by cases z2 <;> cases z3 <;> rfl, .inl (Eq.trans (if_f (s1 := a_st m f (some (.brw (.tup (NS m (f a))))) (some b) (some (f a b)) none) (tof_e (bin_e lc cl (ne_same hd)))) rfl), some b, some (f a b), rfl⟩)
  exact ⟨y2, y3, e⟩
theorem assoc_ok {m : Nat} {f : Nat → Nat → Nat} (G : Gp m f) : fD_is_associative [.brw (.tup (RTs m f))] = .ok 0 (.bl true) [] := by
  obtain ⟨s', e, w, y2, y3, _, rfl⟩ := for_it (it := iSeq (eVar 0)) (tgt := tName 1) (body := a_in) (s := a_st m f none none none none) (s0 := a_st m f none none none none) (x := .brw (.tup (RTs m f))) (n := (RTs m f).length) (itm := sqItm (.brw (.tup (RTs m f))) (RTs m f))
    (fun _ s => ∃ w y2 y3, NoAl w ∧ s = a_st m f w y2 y3 none) rfl ⟨none, none, none, trivial, rfl⟩ (by
    rintro a s ha ⟨w, y2, y3, hw, rfl⟩
    rw [rts_len] at ha
    obtain ⟨x2, x3, e⟩ := a_in_ok G ha y2 y3
    exact ⟨_, _, a_st m f (some (.brw (.tup (NS m (f a))))) y2 y3 none, _, sq_brwc (rts_get ha) rfl, Eq.trans (name_b rfl) (by cases y2 <;> cases y3 <;> rfl), .inl e, some (.brw (.tup (NS m (f a)))), x2, x3, trivial, rfl⟩)
  exact fn_e rfl (Eq.trans (seq_nx e) (ret_e rfl)) rfl
end K12

set_option Elab.async false
set_option linter.all false
set_option maxRecDepth 10000
namespace K12
open DL PySem L2
/-- a Group instance -/
def GO (m : Nat) (f : Nat → Nat → Nat) (iv : Nat → Nat) (c : Bool) : D := .obj "Group" [("rows", .tup (RTs m f)), ("order", .int m), ("inverses", .tup (NS m iv)), ("commutative", .bl c)]
theorem fld_rows {m : Nat} {f : Nat → Nat → Nat} {iv : Nat → Nat} {c : Bool} {s : DS} : gFld ["Group"] "rows" (.brw (GO m f iv c)) s = some (.brw (.tup (RTs m f)), s) := rfl
theorem fld_order {m : Nat} {f : Nat → Nat → Nat} {iv : Nat → Nat} {c : Bool} {s : DS} : gFld ["Group"] "order" (.brw (GO m f iv c)) s = some (.dat 0 (.int m), s) := rfl
theorem fld_inv {m : Nat} {f : Nat → Nat → Nat} {iv : Nat → Nat} {c : Bool} {s : DS} : gFld ["Group"] "inverses" (.brw (GO m f iv c)) s = some (.brw (.tup (NS m iv)), s) := rfl
theorem un_e {g : DV → DS → Option (DV × DS)} {a : EF} {s s1 s2 : DS} {x z : DV} (h : a s = .ok x s1) (h2 : g x s1 = some (z, s2)) : eUn g a s = .ok z s2 := by
  unfold eUn; rw [h]; simp only []; rw [h2]
def prodN (f : Nat → Nat → Nat) (xs : List Nat) : Nat := xs.foldl f 0
theorem prod_lt {m : Nat} {f : Nat → Nat → Nat} (G : Gp m f) (xs : List Nat) (h : ∀ x ∈ xs, x < m) : prodN f xs < m := by
  have key : ∀ (xs : List Nat) (w : Nat), w < m → (∀ x ∈ xs, x < m) → xs.foldl f w < m := by
    intro xs
    induction xs with
    | nil => exact fun w hw _ => hw
    | cons x xs ih => exact fun w hw h => ih _ (G.lt w x hw (h x List.mem_cons_self)) fun y hy => h y (List.mem_cons_of_mem _ hy)
  exact key xs 0 G.pos h
theorem prod_take {f : Nat → Nat → Nat} {xs : List Nat} {i : Nat} (h : i < xs.length) : prodN f (xs.take (i + 1)) = f (prodN f (xs.take i)) xs[i] := by
  unfold prodN
  rw [List.take_succ_eq_append_getElem h, List.foldl_append]
  rfl
abbrev xD (xs : List Nat) : List D := xs.map fun x => D.int (x : Nat)
theorem gproduct_ok {m : Nat} {f : Nat → Nat → Nat} {iv : Nat → Nat} {c : Bool} (G : Gp m f) (xs : List Nat) (h : ∀ x ∈ xs, x < m) :
    fD_Group_product [.brw (GO m f iv c), .dat 0 (.tup (xD xs))] = .ok 0 (.int (prodN f xs : Nat)) [] := by
  obtain ⟨s', e, z, rfl⟩ := for_it (it := iSeq (eVar 1)) (tgt := tName 3) (body := sAsg 2 (eBin gIx (eBin gIx (eUn (gFld ["Group"] "rows") (eVar 0)) (eVar 2)) (eVar 3)))
    (s := ⟨[some (.brw (GO m f iv c)), some (.dat 0 (.tup (xD xs))), some (.dat 0 (.int (prodN f (xs.take 0) : Nat))), none], []⟩) (s0 := ⟨[some (.brw (GO m f iv c)), some (.dat 0 (.tup (xD xs))), some (.dat 0 (.int (prodN f (xs.take 0) : Nat))), none], []⟩) (x := .dat 0 (.tup (xD xs))) (n := (xD xs).length) (itm := sqItm (.dat 0 (.tup (xD xs))) (xD xs))
    (fun i s => ∃ z, s = ⟨[some (.brw (GO m f iv c)), some (.dat 0 (.tup (xD xs))), some (.dat 0 (.int (prodN f (xs.take i) : Nat))), sI z], []⟩) rfl ⟨none, rfl⟩ (by
    rintro j s hj ⟨z, rfl⟩
    have hj : j < xs.length := by simpa using hj
    have hw : prodN f (xs.take j) < m := prod_lt G _ fun x hx => h x (List.mem_of_mem_take hx)
    have hx : xs[j] < m := h _ (List.getElem_mem hj)
    have g : (xD xs)[j]? = some (D.int (xs[j] : Nat)) := by simp [hj]
    refine ⟨_, _, ⟨[some (.brw (GO m f iv c)), some (.dat 0 (.tup (xD xs))), some (.dat 0 (.int (prodN f (xs.take j) : Nat))), sI (some xs[j])], []⟩, ⟨[some (.brw (GO m f iv c)), some (.dat 0 (.tup (xD xs))), some (.dat 0 (.int (prodN f (xs.take (j + 1)) : Nat))), sI (some xs[j])], []⟩, sq_dat g, name_d rfl, .inl ?_, some xs[j], rfl⟩
    rw [prod_take hj]
    exact Eq.trans (asg_d (bin_e (bin_e (un_e rfl fld_rows) rfl (ix_brw rfl (rts_get hw))) rfl (ix_brw rfl (ns_get hx))) rfl) rfl)
  have el : (xD xs).length = xs.length := List.length_map _
  rw [el, List.take_length] at e
  exact fn_e rfl (Eq.trans (seq_nx (s1 := ⟨[some (.brw (GO m f iv c)), some (.dat 0 (.tup (xD xs))), some (.dat 0 (.int (prodN f (xs.take 0) : Nat))), none], []⟩) rfl) (Eq.trans (seq_nx e) (ret_e rfl))) rfl
theorem product_ok {m : Nat} {f : Nat → Nat → Nat} (G : Gp m f) (xs : List Nat) (h : ∀ x ∈ xs, x < m) :
    fD_law_product [.brw (.lst (RLs m f)), .brw (.lst (xD xs))] = .ok 0 (.int (prodN f xs : Nat)) [] := by
  obtain ⟨s', e, z, rfl⟩ := for_it (it := iSeq (eVar 1)) (tgt := tName 3) (body := sAsg 2 (eBin gIx (eBin gIx (eVar 0) (eVar 2)) (eVar 3)))
    (s := ⟨[some (.brw (.lst (RLs m f))), some (.brw (.lst (xD xs))), some (.dat 0 (.int (prodN f (xs.take 0) : Nat))), none], []⟩) (s0 := ⟨[some (.brw (.lst (RLs m f))), some (.brw (.lst (xD xs))), some (.dat 0 (.int (prodN f (xs.take 0) : Nat))), none], []⟩) (x := .brw (.lst (xD xs))) (n := (xD xs).length) (itm := sqItm (.brw (.lst (xD xs))) (xD xs))
    (fun i s => ∃ z, s = ⟨[some (.brw (.lst (RLs m f))), some (.brw (.lst (xD xs))), some (.dat 0 (.int (prodN f (xs.take i) : Nat))), sI z], []⟩) rfl ⟨none, rfl⟩ (by
    rintro j s hj ⟨z, rfl⟩
    have hj : j < xs.length := by simpa using hj
    have hw : prodN f (xs.take j) < m := prod_lt G _ fun x hx => h x (List.mem_of_mem_take hx)
    have hx : xs[j] < m := h _ (List.getElem_mem hj)
    have g : (xD xs)[j]? = some (D.int (xs[j] : Nat)) := by simp [hj]
    refine ⟨_, _, ⟨[some (.brw (.lst (RLs m f))), some (.brw (.lst (xD xs))), some (.dat 0 (.int (prodN f (xs.take j) : Nat))), sI (some xs[j])], []⟩, ⟨[some (.brw (.lst (RLs m f))), some (.brw (.lst (xD xs))), some (.dat 0 (.int (prodN f (xs.take (j + 1)) : Nat))), sI (some xs[j])], []⟩, sq_brw g, name_d rfl, .inl ?_, some xs[j], rfl⟩
    rw [prod_take hj]
    exact Eq.trans (asg_d (bin_e (bin_e rfl rfl (ix_brw rfl (rls_get hw))) rfl (ix_brw rfl (ns_get hx))) rfl) rfl)
  have el : (xD xs).length = xs.length := List.length_map _
  rw [el, List.take_length] at e
  exact fn_e rfl (Eq.trans (seq_nx (s1 := ⟨[some (.brw (.lst (RLs m f))), some (.brw (.lst (xD xs))), some (.dat 0 (.int (prodN f (xs.take 0) : Nat))), none], []⟩) rfl) (Eq.trans (seq_nx e) (ret_e rfl))) rfl
end K12

set_option Elab.async false
set_option linter.all false
set_option maxRecDepth 10000
namespace K12
open DL PySem L2
theorem degrees_ok : ∀ k, k < 14 → ∃ n, fD_law_degrees [.dat 0 (.int (k : Nat)), .dat 0 (.int (ord k : Nat))] = .ok n (.lst (xD (if k = 9 then [1, 1, 2] else if k = 12 ∨ k = 13 then [1, 1, 1, 1, 2] else List.replicate (ord k) 1))) [] := by
  intro k hk
  match k, hk with
  | 0, _ => exact ⟨_, rfl⟩
  | 1, _ => exact ⟨_, rfl⟩
  | 2, _ => exact ⟨_, rfl⟩
  | 3, _ => exact ⟨_, rfl⟩
  | 4, _ => exact ⟨_, rfl⟩
  | 5, _ => exact ⟨_, rfl⟩
  | 6, _ => exact ⟨_, rfl⟩
  | 7, _ => exact ⟨_, rfl⟩
  | 8, _ => exact ⟨_, rfl⟩
  | 9, _ => exact ⟨_, rfl⟩
  | 10, _ => exact ⟨_, rfl⟩
  | 11, _ => exact ⟨_, rfl⟩
  | 12, _ => exact ⟨_, rfl⟩
  | 13, _ => exact ⟨_, rfl⟩
theorem alike_int {a b : Int} : fD_law_alike 9 [.dat 0 (.int a), .dat 0 (.int b)] = .ok 0 (.bl (decide (a = b))) [] := by
  have e : dEq (.dat 0 (.int a)) (.dat 0 (.int b)) = fun s => some (.dat 0 (.bl (decide (a = b))), s) := funext fun s => eq_ok
  have h : b_law_alike (fD_law_alike 8) ⟨[some (.dat 0 (.int a)), some (.dat 0 (.int b)), none], []⟩ = .rt (.dat 0 (.bl (decide (a = b)))) ⟨[some (.dat 0 (.int a)), some (.dat 0 (.int b)), none], []⟩ := by
    refine Eq.trans (seq_nx (s1 := ⟨[some (.dat 0 (.int a)), some (.dat 0 (.int b)), none], []⟩) rfl) (Eq.trans (seq_nx (s1 := ⟨[some (.dat 0 (.int a)), some (.dat 0 (.int b)), none], []⟩) rfl) (ret_e ?_))
    have q : eBin dEq (eVar 0) (eVar 1) ⟨[some (.dat 0 (.int a)), some (.dat 0 (.int b)), none], []⟩ = .ok (.dat 0 (.bl (decide (a = b)))) ⟨[some (.dat 0 (.int a)), some (.dat 0 (.int b)), none], []⟩ := bin_e rfl rfl (congrFun e _)
    show (match (match eBin dEq (eVar 0) (eVar 1) ⟨[some (.dat 0 (.int a)), some (.dat 0 (.int b)), none], []⟩ with | r => r) with | r => r) = _
    exact q
  exact fn_e rfl h rfl
end K12

set_option Elab.async false
set_option linter.all false
set_option maxRecDepth 10000
namespace K12
open DL PySem L2
def degs (k : Nat) : List Nat := if k = 9 then [1, 1, 2] else if k = 12 ∨ k = 13 then [1, 1, 1, 1, 2] else List.replicate (ord k) 1
def sumP (m p : Nat) (ds : List Nat) : Nat := (ds.map fun d => (m / d) ^ (2 * p - 2)).foldl (· + ·) 0
def dueN (k p : Nat) : Nat := if p = 0 then 1 else ord k * sumP (ord k) p (degs k)
theorem degs_ok : ∀ k, k < 14 → ∀ d ∈ degs k, 0 < d ∧ d < 3 := by decide
theorem sumP_take {m p : Nat} {ds : List Nat} {i : Nat} (h : i < ds.length) : sumP m p (ds.take (i + 1)) = sumP m p (ds.take i) + (m / ds[i]) ^ (2 * p - 2) := by
  unfold sumP
  rw [List.take_succ_eq_append_getElem h, List.map_append, List.foldl_append]
  rfl
theorem due_ok {k p : Nat} (hk : k < 14) (hp : p ≤ 100) : fD_law_due_rows [.dat 0 (.int k), .dat 0 (.int (ord k : Nat)), .dat 0 (.int p)] = .ok 0 (.int (dueN k p : Nat)) [] := by
  obtain ⟨o1, o2, _⟩ := tab_lt k hk
  by_cases q : p = 0
  · subst q; exact fn_e rfl (Eq.trans (seq_rt (Eq.trans (if_t (tof_e (bin_e rfl rfl (eq_b (decide_eq_true rfl))))) (ret_e rfl))) rfl) rfl
  · obtain ⟨n, ed⟩ := degrees_ok k hk
    have ed : fD_law_degrees [.dat 0 (.int (k : Nat)), .dat 0 (.int (ord k : Nat))] = .ok n (.lst (xD (degs k))) [] := ed
    have hd := degs_ok k hk
    generalize hm : ord k = m at *
    have c1 := callF_e (fn := fD_law_degrees) (io := []) (cs := [CM.bw, CM.bw]) (ds := []) (fs := [(eVar 0), (eVar 1)]) (s := ⟨[some (.dat 0 (.int k)), some (.dat 0 (.int m)), some (.dat 0 (.int p)), some (.dat 0 (.int 0)), none], []⟩) (s2 := ⟨[some (.dat 0 (.int k)), some (.dat 0 (.int m)), some (.dat 0 (.int p)), some (.dat 0 (.int 0)), none], []⟩) (eva_c rfl (eva_c rfl (eva_nil _))) rfl rfl ed rfl
    obtain ⟨s', e, z, rfl⟩ := for_it (it := iSeq (eCallF fD_law_degrees [] [CM.bw, CM.bw] [] [(eVar 0), (eVar 1)])) (tgt := tName 4) (body := (sAsg 3 (eBin dAdd (eVar 3) (eCallF fD_law_power [] [CM.bw, CM.bw] [] [(eBin dDiv (eVar 1) (eVar 4)), (eBin dSub (eBin dMul (eCon (.int 2)) (eVar 2)) (eCon (.int 2)))])))) (x := .dat 0 (.lst (xD (degs k)))) (n := (xD (degs k)).length) (itm := sqItm (.dat 0 (.lst (xD (degs k)))) (xD (degs k)))
      (s := ⟨[some (.dat 0 (.int k)), some (.dat 0 (.int m)), some (.dat 0 (.int p)), some (.dat 0 (.int 0)), none], []⟩) (s0 := ⟨[some (.dat 0 (.int k)), some (.dat 0 (.int m)), some (.dat 0 (.int p)), some (.dat 0 (.int 0)), none], []⟩)
      (fun i s => ∃ z, s = ⟨[some (.dat 0 (.int k)), some (.dat 0 (.int m)), some (.dat 0 (.int p)), some (.dat 0 (.int (sumP m p ((degs k).take i) : Nat))), sI z], []⟩) (seq_e c1 rfl) ⟨none, rfl⟩ (by
      rintro j s hj ⟨z, rfl⟩
      have hj : j < (degs k).length := by simpa using hj
      obtain ⟨d1, d2⟩ := hd _ (List.getElem_mem hj)
      have g : (xD (degs k))[j]? = some (D.int ((degs k)[j] : Nat)) := by simp [hj]
      rw [sumP_take hj]
      generalize (degs k)[j] = d at *
      have pw := power_ok (b := m / d) (m := 2 * p - 2) (by have := Nat.div_le_self m d; omega) (by omega)
      have mu : dMul (.dat 0 (.int 2)) (.dat 0 (.int p)) ⟨[some (.dat 0 (.int k)), some (.dat 0 (.int m)), some (.dat 0 (.int p)), some (.dat 0 (.int (sumP m p ((degs k).take j) : Nat))), sI (some d)], []⟩ = some (.dat 0 (.int ((2 * p : Nat) : Int)), ⟨[some (.dat 0 (.int k)), some (.dat 0 (.int m)), some (.dat 0 (.int p)), some (.dat 0 (.int (sumP m p ((degs k).take j) : Nat))), sI (some d)], []⟩) := by
        rw [mul_ok (by omega)]; rfl
      have c2 := callF_e (fn := fD_law_power) (io := []) (cs := [CM.bw, CM.bw]) (ds := []) (fs := [(eBin dDiv (eVar 1) (eVar 4)), (eBin dSub (eBin dMul (eCon (.int 2)) (eVar 2)) (eCon (.int 2)))]) (s := ⟨[some (.dat 0 (.int k)), some (.dat 0 (.int m)), some (.dat 0 (.int p)), some (.dat 0 (.int (sumP m p ((degs k).take j) : Nat))), sI (some d)], []⟩) (s2 := ⟨[some (.dat 0 (.int k)), some (.dat 0 (.int m)), some (.dat 0 (.int p)), some (.dat 0 (.int (sumP m p ((degs k).take j) : Nat))), sI (some d)], []⟩) (eva_c (bin_e rfl rfl (div_ok (by omega))) (eva_c (bin_e (bin_e rfl rfl mu) rfl (subN (b := 2) (by omega))) (eva_nil _))) rfl rfl pw rfl
      exact ⟨_, _, ⟨[some (.dat 0 (.int k)), some (.dat 0 (.int m)), some (.dat 0 (.int p)), some (.dat 0 (.int (sumP m p ((degs k).take j) : Nat))), sI (some d)], []⟩, _, sq_dat g, name_d rfl, .inl (Eq.trans (asg_d (bin_e rfl c2 rfl) rfl) rfl), some d, rfl⟩)
    have el : (xD (degs k)).length = (degs k).length := List.length_map _
    rw [el, List.take_length] at e
    have hv : dueN k p = sumP m p (degs k) * m := by unfold dueN; rw [if_neg q, hm, Nat.mul_comm]
    have ml : dMul (.dat 0 (.int m)) (.dat 0 (.int (sumP m p (degs k) : Nat))) ⟨[some (.dat 0 (.int k)), some (.dat 0 (.int m)), some (.dat 0 (.int p)), some (.dat 0 (.int (sumP m p (degs k) : Nat))), sI z], []⟩ = some (.dat 0 (.int (dueN k p : Nat)), ⟨[some (.dat 0 (.int k)), some (.dat 0 (.int m)), some (.dat 0 (.int p)), some (.dat 0 (.int (sumP m p (degs k) : Nat))), sI z], []⟩) := by
      unfold dMul gInt
      have c : (-(2 ^ 64) < (m : Int) ∧ (m : Int) < 2 ^ 64) ∨ (-(2 ^ 64) < ((sumP m p (degs k) : Nat) : Int) ∧ ((sumP m p (degs k) : Nat) : Int) < 2 ^ 64) := .inl ⟨by omega, by omega⟩
      simp only [DV.d, if_pos c]
      rw [hv, Nat.mul_comm, Int.natCast_mul]
      rfl
    exact fn_e rfl (Eq.trans (seq_nx (s1 := ⟨[some (.dat 0 (.int k)), some (.dat 0 (.int m)), some (.dat 0 (.int p)), none, none], []⟩) (Eq.trans (if_f (tof_e (bin_e rfl rfl (eq_b (decide_eq_false (by omega)))))) rfl)) (Eq.trans (seq_nx rfl) (Eq.trans (seq_nx e) (ret_e (bin_e rfl rfl ml))))) rfl
end K12

set_option Elab.async false
set_option linter.all false
set_option maxRecDepth 10000
namespace K12
open DL PySem L2
theorem accK_pos {k n : Nat} {d : D} (h : 1 ≤ k) : 1 ≤ accK k n d := by
  unfold accK
  split
  · exact h
  · omega
/-- a comprehension of frozen parts from a state that stays -/
theorem lc_part {vs : List Nat} {it : IF} {tgt : GF} {f : EF} {s s0 s2 : DS} {x : DV} {n : Nat} {itm : Nat → DS → Option (IV × DS)} (g : Nat → D) (h : it s = .ok x n itm s0) (hx : isPlain x = true) (hb : blkS vs s0 = some s2) (hn : n ≤ sizeLine)
    (q : ∀ j, j < n → ∃ y s1 s3 k s4, itm j s2 = some (y, s1) ∧ tgt y s1 = some s3 ∧ eMv f s3 = .ok (.dat k (g j)) s4 ∧ blkS vs s4 = some s2) :
    ∃ k, 1 ≤ k ∧ eLc vs it tgt tTrue f s = .ok (.dat k (.lst ((List.range n).map g))) (unl x s2) := by
  obtain ⟨k', ds', s', e, hk, rfl, rfl⟩ := lc_it (f := f) (tgt := tgt) (fun j k ds s => 1 ≤ k ∧ ds = (List.range j).map g ∧ s = s2) h hx hb ⟨by omega, rfl, rfl⟩ (by
    rintro j k ds s hj ⟨hk, rfl, rfl⟩
    obtain ⟨y, s1, s3, k', s4, h1, h2, h3, h4⟩ := q j hj
    exact ⟨y, s1, s3, k', g j, s4, s, h1, h2, h3, by simp; omega, h4, accK_pos hk, by rw [List.range_succ, List.map_append]; rfl, rfl⟩)
  exact ⟨k', hk, e⟩
theorem tuple_dat {k : Nat} {ds : List D} {s : DS} : gTuple [.dat k (.lst ds)] s = some (.dat 0 (.tup ds), s) := by
  have h1 : dnk (lim (.dat k (.lst ds))) ds s = s := by unfold dnk lim; split <;> rfl
  have h2 : kOk (lim (.dat k (.lst ds))) s.sl ds = true := by
    unfold kOk lim
    simp only [Bool.or_eq_true]
    exact .inr (decide_eq_true (Nat.min_le_right _ _))
  unfold gTuple
  simp only [DV.d, items?, isTup, Bool.false_eq_true, if_false, h1, h2, if_true]
  rfl
abbrev i_st (o : D) (m : Nat) (f : Nat → Nat → Nat) (w2 w3 : Option SV) : DS := ⟨[some (.dat 1000 o), some (.dat 0 (.lst (RLs m f))), w2, w3, none, none, none], []⟩
theorem i_table {o : D} {m : Nat} {f : Nat → Nat → Nat} (hm : m ≤ 8) : eCall gTuple [eLc [4] (iSeq (eVar 1)) (tName 4) tTrue (eCall gTuple [(eVar 4)])] (i_st o m f none none) = .ok (.dat 0 (.tup (RTs m f))) (i_st o m f none none) := by
  obtain ⟨k, _, e⟩ := lc_part (vs := [4]) (it := iSeq (eVar 1)) (tgt := tName 4) (f := eCall gTuple [(eVar 4)]) (s := i_st o m f none none) (s0 := i_st o m f none none) (s2 := i_st o m f none none) (x := .dat 0 (.lst (RLs m f))) (n := (RLs m f).length) (itm := sqItm (.dat 0 (.lst (RLs m f))) (RLs m f)) (fun a => .tup (NS m (f a))) rfl rfl rfl (by rw [rls_len]; show m ≤ 2 ^ 24; omega) (by
    intro a ha
    rw [rls_len] at ha
    exact ⟨_, _, ⟨[some (.dat 1000 o), some (.dat 0 (.lst (RLs m f))), none, none, some (.dat 0 (.lst (NS m (f a)))), none, none], []⟩, 0, _, sq_dat (rls_get ha), name_d rfl, mv_e (call_e (eva_c rfl (eva_nil _)) tuple_dat), rfl⟩)
  rw [rls_len] at e
  exact call_e (eva_c e (eva_nil _)) tuple_dat
end K12

set_option Elab.async false
set_option linter.all false
set_option maxRecDepth 10000
namespace K12
open DL PySem L2
theorem gp_inv {m : Nat} {f : Nat → Nat → Nat} (G : Gp m f) (a : Nat) (ha : a < m) : ∃ b, b < m ∧ f a b = 0 := row_onto (fun b hb => G.lt a b ha hb) (fun b c hb hc => G.rj a b c ha hb hc) 0 G.pos
/-- the first b with a b = 0 -/
def inv (m : Nat) (f : Nat → Nat → Nat) (a : Nat) : Nat := ((List.range m).findIdx? fun b => f a b == 0).getD 0
theorem idx_row {m : Nat} {g : Nat → Nat} : idxF (.int 0) (NS m g) = (List.range m).findIdx? fun b => g b == 0 := by
  have key : ∀ l : List Nat, idxF (.int 0) (l.map fun a => D.int (g a : Nat)) = l.findIdx? fun b => g b == 0 := by
    intro l
    induction l with
    | nil => rfl
    | cons a l ih =>
      rw [List.map_cons, List.findIdx?_cons, idxF, ih]
      have : eqF (.int (g a : Nat)) (.int 0) = (g a == 0) := by
        show (((g a : Nat) : Int) == 0) = (g a == 0)
        generalize g a = n
        cases n <;> rfl
      rw [this]
  exact key _
theorem inv_ok {m : Nat} {f : Nat → Nat → Nat} (G : Gp m f) {a : Nat} (ha : a < m) : (List.range m).findIdx? (fun b => f a b == 0) = some (inv m f a) ∧ inv m f a < m ∧ f a (inv m f a) = 0 := by
  obtain ⟨b, hb, e⟩ := gp_inv G a ha
  cases h : (List.range m).findIdx? fun b => f a b == 0 with
  | none =>
    have := List.findIdx?_eq_none_iff.mp h b (List.mem_range.mpr hb)
    simp [e] at this
  | some i =>
    have h2 : inv m f a = i := by unfold inv; rw [h]; rfl
    obtain ⟨h3, h4, _⟩ := List.findIdx?_eq_some_iff_getElem.mp h
    rw [List.length_range] at h3
    rw [h2]
    exact ⟨rfl, h3, by simpa using h4⟩
end K12

set_option Elab.async false
set_option linter.all false
set_option maxRecDepth 10000
namespace K12
open DL PySem L2
theorem ns_id {m : Nat} {g : Nat → Nat} (h : ∀ b, b < m → g b = b) : NS m g = (upto m).map D.int := by
  unfold NS upto
  rw [List.map_map]
  exact List.map_congr_left fun b hb => by rw [h b (List.mem_range.mp hb)]; rfl
abbrev i_tb (o : D) (m : Nat) (f : Nat → Nat → Nat) : DS := i_st o m f (some (.dat 0 (.tup (RTs m f)))) (some (.dat 0 (NT' (upto m))))
theorem i_units {o : D} {m : Nat} {f : Nat → Nat → Nat} (G : Gp m f) : tOrF (tOf (eBin dNe (eBin gIx (eVar 2) (eCon (.int 0))) (eVar 3))) (tOf (eBin dNe (eCall gTuple [(eLc [4] (iSeq (eVar 2)) (tName 4) tTrue (eBin gIx (eVar 4) (eCon (.int 0))))]) (eVar 3))) (i_tb o m f) = .ok false (i_tb o m f) := by
  have hm := G.le
  have h1 : deq (.tup (NS m (f 0))) (NT' (upto m)) = some true := by rw [ns_id (G.ul), deq_tup]; simp
  have lc := lc_pure (vs := [4]) (it := iSeq (eVar 2)) (tgt := tName 4) (f := eBin gIx (eVar 4) (eCon (.int 0))) (s := i_tb o m f) (s0 := i_tb o m f) (s2 := i_tb o m f) (x := .dat 0 (.tup (RTs m f))) (n := (RTs m f).length) (itm := sqItm (.dat 0 (.tup (RTs m f))) (RTs m f)) (fun a => .int (f a 0 : Nat)) rfl rfl rfl (by rw [rts_len]; show m ≤ 2 ^ 24; omega) (by
    intro a ha
    rw [rts_len] at ha
    exact ⟨rfl, _, _, ⟨[some (.dat 1000 o), some (.dat 0 (.lst (RLs m f))), some (.dat 0 (.tup (RTs m f))), some (.dat 0 (NT' (upto m))), some (.dat 0 (.tup (NS m (f a)))), none, none], []⟩, _, _, sq_dat (rts_get ha), name_d rfl, mv_e (bin_e rfl rfl (ix_dat (k := 0) rfl (ns_get G.pos))), rfl⟩)
  rw [rts_len] at lc
  have h2 : deq (.tup (NS m fun a => f a 0)) (NT' (upto m)) = some true := by rw [ns_id (G.ur), deq_tup]; simp
  exact or_ff (s1 := i_tb o m f) (tof_e (bin_e (bin_e rfl rfl (ix_dat (k := 0) rfl (rts_get G.pos))) rfl (ne_same h1))) (tof_e (bin_e (call_e (eva_c lc (eva_nil _)) tuple_dat) rfl (ne_same h2)))
end K12

set_option Elab.async false
set_option linter.all false
set_option maxRecDepth 10000
namespace K12
open DL PySem L2
theorem index_dat {k : Nat} {ds : List D} {i : Nat} {s : DS} (fl : ds.all D.flat = true) (h : idxF (.int 0) ds = some i) : gIndexT (.dat k (.tup ds)) [.dat 0 (.int 0)] s = some (.dat 0 (.int i), s) := by
  unfold gIndexT
  have f0 : D.flat (.int 0) = true := rfl
  simp only [DV.d, fl, f0, Bool.and_self, if_true, h]
  rfl
abbrev i_tn (n : Nat) (o : D) (m : Nat) (f : Nat → Nat → Nat) : DS := ⟨[some (.dat n o), some (.dat 0 (.lst (RLs m f))), some (.dat 0 (.tup (RTs m f))), some (.dat 0 (NT' (upto m))), none, none, none], []⟩
theorem i_invs {n : Nat} {o : D} {m : Nat} {f : Nat → Nat → Nat} (G : Gp m f) : eEsc (eCall gTuple [(eLc [4] (iSeq (eVar 2)) (tName 4) tTrue (eMethT gIndexT (eVar 4) [(eCon (.int 0))]))]) (i_tn n o m f) = .ok (.dat 0 (.tup (NS m (inv m f)))) (i_tn n o m f) := by
  have hm := G.le
  have lc := lc_pure (vs := [4]) (it := iSeq (eVar 2)) (tgt := tName 4) (f := eMethT gIndexT (eVar 4) [(eCon (.int 0))]) (s := i_tn n o m f) (s0 := i_tn n o m f) (s2 := i_tn n o m f) (x := .dat 0 (.tup (RTs m f))) (n := (RTs m f).length) (itm := sqItm (.dat 0 (.tup (RTs m f))) (RTs m f)) (fun a => .int (inv m f a : Nat)) rfl rfl rfl (by rw [rts_len]; show m ≤ 2 ^ 24; omega) (by
    intro a ha
    rw [rts_len] at ha
    have ix := index_dat (k := 0) (s := ⟨[some (.dat n o), some (.dat 0 (.lst (RLs m f))), some (.dat 0 (.tup (RTs m f))), some (.dat 0 (NT' (upto m))), some (.dat 0 (.tup (NS m (f a)))), none, none], []⟩) (ns_flat m (f a)) (idx_row.trans (inv_ok G ha).1)
    have me : eMethT gIndexT (eVar 4) [(eCon (.int 0))] ⟨[some (.dat n o), some (.dat 0 (.lst (RLs m f))), some (.dat 0 (.tup (RTs m f))), some (.dat 0 (NT' (upto m))), some (.dat 0 (.tup (NS m (f a)))), none, none], []⟩ = .ok (.dat 0 (.int (inv m f a : Nat))) ⟨[some (.dat n o), some (.dat 0 (.lst (RLs m f))), some (.dat 0 (.tup (RTs m f))), some (.dat 0 (NT' (upto m))), some (.dat 0 (.tup (NS m (f a)))), none, none], []⟩ := by
      show (match gIndexT (.dat 0 (.tup (NS m (f a)))) [.dat 0 (.int 0)] _ with | some (z, s3) => ER.ok z s3 | none => ER.no) = _
      rw [ix]
    exact ⟨rfl, _, _, _, _, _, sq_dat (rts_get ha), name_d rfl, mv_e me, rfl⟩)
  rw [rts_len] at lc
  exact esc_d (call_e (eva_c lc (eva_nil _)) tuple_dat)
end K12

set_option Elab.async false
set_option linter.all false
set_option maxRecDepth 10000
namespace K12
open DL PySem L2
theorem ne_int {a b : Int} {n m : Nat} {s : DS} : dNe (.dat n (.int a)) (.dat m (.int b)) s = some (.dat 0 (.bl (!decide (a = b))), s) := by
  unfold dNe gEq
  simp only [DV.d, deq_int]
  rfl
abbrev j_st (n : Nat) (o : D) (m : Nat) (f : Nat → Nat → Nat) (z5 z6 : Option Int) : DS := ⟨[some (.dat n o), some (.dat 0 (.lst (RLs m f))), some (.dat 0 (.tup (RTs m f))), some (.dat 0 (NT' (upto m))), none, sI z5, sI z6], []⟩
abbrev j_test : TF := tOf (eBin dNe (eBin gIx (eBin gIx (eVar 2) (eVar 5)) (eVar 6)) (eBin gIx (eBin gIx (eVar 2) (eVar 6)) (eVar 5)))
abbrev j_lc : EF := eLc2 [5, 6] [6] (iSeq (eVar 3)) (tName 5) tTrue (iSeq (eVar 3)) (tName 6) j_test (eVar 5)
theorem up_get {m a : Nat} (h : a < m) : ((upto m).map D.int)[a]? = some (.int (a : Nat)) := by simp [upto, h]
theorem up_len {m : Nat} : ((upto m).map D.int).length = m := by simp [upto]
theorem j_in {n : Nat} {o : D} {m : Nat} {f : Nat → Nat → Nat} (hm : m ≤ 8) {a : Nat} (ha : a < m) (k : Nat) (ds : List D) (hd : ds.length ≤ 8 * a) :
    ∃ k' ds', lcIn [6] (sqItm (.dat 0 (NT' (upto m))) ((upto m).map D.int)) (tName 6) j_test (eVar 5) (.dat 0 (NT' (upto m))) m 0 k ds (j_st n o m f (some a) none) = some (k', ds', j_st n o m f (some a) none) ∧ ds'.length ≤ 8 * (a + 1) := by
  obtain ⟨k', ds', s', e, hl, rfl⟩ := lcIn_inv (vs := [6]) (itm := sqItm (.dat 0 (NT' (upto m))) ((upto m).map D.int)) (tgt := tName 6) (tt := j_test) (f := eVar 5) (x := .dat 0 (NT' (upto m)))
    (fun i ds s => ds.length ≤ 8 * a + i ∧ s = j_st n o m f (some a) none) m 0 k ds (j_st n o m f (some a) none) ⟨hd, rfl⟩ (by
    rintro b ds s _ hb ⟨hl, rfl⟩
    have hb : b < m := by omega
    refine ⟨_, _, j_st n o m f (some a) (some b), !decide (((f a b : Nat) : Int) = ((f b a : Nat) : Int)), j_st n o m f (some a) (some b), sq_dat (up_get hb), name_d rfl, tof_e (bin_e (bin_e (bin_e rfl rfl (ix_dat rfl (rts_get ha))) rfl (ix_dat rfl (ns_get hb))) (bin_e (bin_e rfl rfl (ix_dat rfl (rts_get hb))) rfl (ix_dat rfl (ns_get ha))) ne_int), fun _ => ⟨_, rfl, by omega, rfl⟩, fun _ => ⟨0, .int a, j_st n o m f (some a) (some b), j_st n o m f (some a) none, mv_e rfl, by show _ < 2 ^ 24; omega, rfl, by simp; omega, rfl⟩⟩)
  exact ⟨k', ds', e, by omega⟩
theorem j_ok {n : Nat} {o : D} {m : Nat} {f : Nat → Nat → Nat} (hm : m ≤ 8) : ∃ k ds, j_lc (j_st n o m f none none) = .ok (.dat k (.lst ds)) (j_st n o m f none none) := by
  obtain ⟨k', ds', s', e, _, rfl⟩ := lc2Go_inv (vs := [5, 6]) (vs1 := [6]) (itm := sqItm (.dat 0 (NT' (upto m))) ((upto m).map D.int)) (tgt := tName 5) (it1 := iSeq (eVar 3)) (tgt1 := tName 6) (tt1 := j_test) (f := eVar 5) (x := .dat 0 (NT' (upto m)))
    (fun i ds s => ds.length ≤ 8 * i ∧ s = j_st n o m f none none) m 0 1000 [] (j_st n o m f none none) ⟨Nat.le_refl _, rfl⟩ (by
    rintro a k ds s _ ha ⟨hl, rfl⟩
    have ha : a < m := by omega
    obtain ⟨k2, ds2, e2, h2⟩ := j_in (n := n) (o := o) (f := f) hm ha k ds hl
    have hl2 : ((upto m).map D.int).length = m := up_len
    refine ⟨_, _, j_st n o m f (some a) none, .dat 0 (NT' (upto m)), m, sqItm (.dat 0 (NT' (upto m))) ((upto m).map D.int), j_st n o m f (some a) none, j_st n o m f (some a) none, k2, ds2, j_st n o m f (some a) none, j_st n o m f none none, sq_dat (up_get ha), name_d rfl, ?_, rfl, rfl, e2, rfl, h2, rfl⟩
    have := seq_e (f := eVar 3) (s := j_st n o m f (some a) none) (s1 := j_st n o m f (some a) none) (x := .dat 0 (NT' (upto m))) (ds := (upto m).map D.int) rfl rfl
    rw [hl2] at this
    exact this)
  refine ⟨k', ds', ?_⟩
  have it := seq_e (f := eVar 3) (s := j_st n o m f none none) (s1 := j_st n o m f none none) (x := .dat 0 (NT' (upto m))) (ds := (upto m).map D.int) rfl rfl
  rw [up_len] at it
  show eLc2 [5, 6] [6] (iSeq (eVar 3)) (tName 5) tTrue (iSeq (eVar 3)) (tName 6) j_test (eVar 5) (j_st n o m f none none) = _
  unfold eLc2
  rw [it]
  exact e
end K12

set_option Elab.async false
set_option linter.all false
set_option maxRecDepth 10000
namespace K12
open DL PySem L2
/-! the counts of commutators as plain sums -/
def sumR : Nat → (Nat → Nat) → Nat
  | 0, _ => 0
  | n + 1, g => sumR n g + g n
theorem sumR_congr : ∀ {m : Nat} {g h : Nat → Nat}, (∀ a, a < m → g a = h a) → sumR m g = sumR m h
  | 0, _, _, _ => rfl
  | m + 1, g, h, e => by
    show sumR m g + g m = sumR m h + h m
    rw [sumR_congr fun a ha => e a (by omega), e m (by omega)]
theorem sumR_list : ∀ (m : Nat) (g : Nat → Nat), sumR m g = ((List.range m).map g).sum
  | 0, _ => rfl
  | m + 1, g => by
    show sumR m g + g m = _
    rw [List.range_succ, List.map_append, List.sum_append, sumR_list m g]
    simp
theorem sumR_perm {m : Nat} {σ : Nat → Nat} (g : Nat → Nat) (hlt : ∀ a, a < m → σ a < m) (inj : ∀ a b, a < m → b < m → σ a = σ b → a = b) : sumR m (fun a => g (σ a)) = sumR m g := by
  have p := (row_perm hlt inj).map g
  rw [List.map_map] at p
  rw [sumR_list, sumR_list]
  exact p.sum_nat
theorem sumR_zero : ∀ {m : Nat} {g : Nat → Nat}, (∀ a, a < m → g a = 0) → sumR m g = 0
  | 0, _, _ => rfl
  | m + 1, g, e => by
    show sumR m g + g m = 0
    rw [sumR_zero fun a ha => e a (by omega), e m (by omega)]
theorem sumR_one : ∀ {m : Nat} {g : Nat → Nat} {c : Nat}, c < m → (∀ a, a < m → a ≠ c → g a = 0) → sumR m g = g c
  | m + 1, g, c, hc, e => by
    show sumR m g + g m = g c
    by_cases q : c = m
    · subst q
      rw [sumR_zero fun a ha => e a (by omega) (by omega), Nat.zero_add]
    · rw [sumR_one (c := c) (by omega) fun a ha => e a (by omega), e m (by omega) (by omega), Nat.add_zero]
theorem sumR_const (v : Nat) : ∀ m : Nat, sumR m (fun _ => v) = m * v
  | 0 => by simp [sumR]
  | m + 1 => by
    show sumR m (fun _ => v) + v = _
    rw [sumR_const v m, Nat.succ_mul]
theorem sumR_mul (v : Nat) : ∀ (m : Nat) (g : Nat → Nat), sumR m (fun a => v * g a) = v * sumR m g
  | 0, _ => by simp [sumR]
  | m + 1, g => by
    show sumR m (fun a => v * g a) + v * g m = v * (sumR m g + g m)
    rw [sumR_mul v m g, Nat.mul_add]
def com (m : Nat) (f : Nat → Nat → Nat) (a b : Nat) : Nat := prodN f [a, b, inv m f a, inv m f b]
def cnt (m : Nat) (f : Nat → Nat → Nat) (c : Nat) : Nat := sumR m fun a => sumR m fun b => if com m f a b = c then 1 else 0
def TT (m : Nat) (f : Nat → Nat → Nat) : Nat → Nat → Nat
  | 0, c => if c = 0 then 1 else 0
  | n + 1, c => sumR m fun a => sumR m fun b => if f a b = c then TT m f n a * cnt m f b else 0
theorem com_lt {m : Nat} {f : Nat → Nat → Nat} (G : Gp m f) {a b : Nat} (ha : a < m) (hb : b < m) : com m f a b < m := prod_lt G _ fun x hx => by
  have h1 := (inv_ok G ha).2.1
  have h2 := (inv_ok G hb).2.1
  simp only [List.mem_cons, List.not_mem_nil, or_false] at hx
  rcases hx with rfl | rfl | rfl | rfl <;> assumption
section
variable {m : Nat} {t f : Nat → Nat → Nat} {σ : Nat → Nat}
theorem inv_move (G : Gp m t) (F : Gp m f) (s0 : σ 0 = 0) (hσ : ∀ a, a < m → σ a < m) (hf : ∀ a b, a < m → b < m → f (σ a) (σ b) = σ (t a b)) {a : Nat} (ha : a < m) : inv m f (σ a) = σ (inv m t a) := by
  obtain ⟨_, h1, h2⟩ := inv_ok G ha
  obtain ⟨_, h3, h4⟩ := inv_ok F (hσ a ha)
  refine F.rj (σ a) _ _ (hσ a ha) h3 (hσ _ h1) ?_
  rw [h4, hf a _ ha h1, h2, s0]
theorem com_move (G : Gp m t) (F : Gp m f) (s0 : σ 0 = 0) (hσ : ∀ a, a < m → σ a < m) (hf : ∀ a b, a < m → b < m → f (σ a) (σ b) = σ (t a b)) {a b : Nat} (ha : a < m) (hb : b < m) : com m f (σ a) (σ b) = σ (com m t a b) := by
  have h1 := (inv_ok G ha).2.1
  have h2 := (inv_ok G hb).2.1
  show f (f (f (f 0 (σ a)) (σ b)) (inv m f (σ a))) (inv m f (σ b)) = σ (t (t (t (t 0 a) b) (inv m t a)) (inv m t b))
  rw [inv_move G F s0 hσ hf ha, inv_move G F s0 hσ hf hb, F.ul _ (hσ a ha), G.ul a ha, hf a b ha hb, hf _ _ (G.lt a b ha hb) h1, hf _ _ (G.lt _ _ (G.lt a b ha hb) h1) h2]
theorem cnt_move (G : Gp m t) (F : Gp m f) (s0 : σ 0 = 0) (hσ : ∀ a, a < m → σ a < m) (inj : ∀ a b, a < m → b < m → σ a = σ b → a = b) (hf : ∀ a b, a < m → b < m → f (σ a) (σ b) = σ (t a b)) {c : Nat} (hc : c < m) : cnt m f (σ c) = cnt m t c := by
  unfold cnt
  rw [← sumR_perm (fun a => sumR m fun b => if com m f a b = σ c then 1 else 0) hσ inj]
  refine sumR_congr fun a ha => ?_
  rw [← sumR_perm (fun b => if com m f (σ a) b = σ c then 1 else 0) hσ inj]
  refine sumR_congr fun b hb => ?_
  rw [com_move G F s0 hσ hf ha hb]
  by_cases q : com m t a b = c
  · rw [if_pos q, if_pos (by rw [q])]
  · rw [if_neg q, if_neg fun e => q (inj _ _ (com_lt G ha hb) hc e)]
theorem TT_move (G : Gp m t) (F : Gp m f) (s0 : σ 0 = 0) (hσ : ∀ a, a < m → σ a < m) (inj : ∀ a b, a < m → b < m → σ a = σ b → a = b) (hf : ∀ a b, a < m → b < m → f (σ a) (σ b) = σ (t a b)) : ∀ (n : Nat) {c : Nat}, c < m → TT m f n (σ c) = TT m t n c
  | 0, c, hc => by
    show (if σ c = 0 then 1 else 0) = if c = 0 then 1 else 0
    by_cases q : c = 0
    · subst q; rw [s0]
    · rw [if_neg q, if_neg fun e => q (inj c 0 hc G.pos (by rw [e, s0]))]
  | n + 1, c, hc => by
    show sumR m (fun a => sumR m fun b => if f a b = σ c then TT m f n a * cnt m f b else 0) = sumR m fun a => sumR m fun b => if t a b = c then TT m t n a * cnt m t b else 0
    rw [← sumR_perm (fun a => sumR m fun b => if f a b = σ c then TT m f n a * cnt m f b else 0) hσ inj]
    refine sumR_congr fun a ha => ?_
    rw [← sumR_perm (fun b => if f (σ a) b = σ c then TT m f n (σ a) * cnt m f b else 0) hσ inj]
    refine sumR_congr fun b hb => ?_
    rw [TT_move G F s0 hσ inj hf n ha, cnt_move G F s0 hσ inj hf hb, hf a b ha hb]
    by_cases q : t a b = c
    · rw [if_pos q, if_pos (by rw [q])]
    · rw [if_neg q, if_neg fun e => q (inj _ _ (G.lt a b ha hb) hc e)]
theorem com_ab (G : Gp m t) (cm : ∀ a, a < m → ∀ b, b < m → t a b = t b a) {a b : Nat} (ha : a < m) (hb : b < m) : com m t a b = 0 := by
  obtain ⟨_, h1, h2⟩ := inv_ok G ha
  obtain ⟨_, h3, h4⟩ := inv_ok G hb
  show t (t (t (t 0 a) b) (inv m t a)) (inv m t b) = 0
  rw [G.ul a ha, cm a ha b hb, G.as b a _ hb ha h1, h2, G.ur b hb, h4]
theorem cnt_ab (G : Gp m t) (cm : ∀ a, a < m → ∀ b, b < m → t a b = t b a) {c : Nat} : cnt m t c = if c = 0 then m * m else 0 := by
  unfold cnt
  by_cases q : c = 0
  · subst q
    rw [if_pos rfl, ← sumR_const m m]
    refine sumR_congr fun a ha => ?_
    have h1 : sumR m (fun b => if com m t a b = 0 then 1 else 0) = sumR m fun _ => 1 := sumR_congr fun b hb => by rw [if_pos (com_ab G cm ha hb)]
    rw [h1, sumR_const]; omega
  · rw [if_neg q]
    exact sumR_zero fun a ha => sumR_zero fun b hb => by rw [com_ab G cm ha hb, if_neg fun e => q e.symm]
theorem TT_ab (G : Gp m t) (cm : ∀ a, a < m → ∀ b, b < m → t a b = t b a) : ∀ (n c : Nat), TT m t n c = if c = 0 then (m * m) ^ n else 0
  | 0, c => rfl
  | n + 1, c => by
    show (sumR m fun a => sumR m fun b => if t a b = c then TT m t n a * cnt m t b else 0) = _
    have h0 : t 0 0 = 0 := G.ul 0 G.pos
    rw [sumR_one (c := 0) G.pos, sumR_one (c := 0) G.pos, h0, TT_ab G cm n, cnt_ab G cm, if_pos rfl, if_pos rfl]
    · by_cases q : c = 0
      · subst q; rw [if_pos rfl, if_pos rfl, Nat.pow_succ]
      · rw [if_neg q, if_neg fun e => q e.symm]
    · intro b hb nb
      rw [cnt_ab G cm, if_neg nb, Nat.mul_zero]; split <;> rfl
    · intro a ha na
      refine sumR_zero fun b hb => ?_
      rw [TT_ab G cm n, if_neg na, Nat.zero_mul]; split <;> rfl
def coef (m : Nat) (t : Nat → Nat → Nat) (g : Nat → Nat) (a c : Nat) : Nat := sumR m fun b => if t a b = c then g b else 0
theorem TT_succ {g : Nat → Nat} (hg : ∀ b, b < m → cnt m t b = g b) (n c : Nat) : TT m t (n + 1) c = sumR m fun a => TT m t n a * coef m t g a c := by
  show (sumR m fun a => sumR m fun b => if t a b = c then TT m t n a * cnt m t b else 0) = _
  refine sumR_congr fun a ha => ?_
  unfold coef
  rw [← sumR_mul]
  refine sumR_congr fun b hb => ?_
  rw [hg b hb]
  split <;> simp
end
def g9 (b : Nat) : Nat := if b = 0 then 18 else if b < 3 then 9 else 0
theorem cnt9 : ∀ b, b < 6 → cnt 6 (tab 9) b = g9 b := by decide +kernel
theorem coef9 : ∀ a, a < 6 → ∀ c, c < 6 → coef 6 (tab 9) g9 a c = if a / 3 = c / 3 then (if a = c then 18 else 9) else 0 := by decide +kernel
def gq (b : Nat) : Nat := if b = 0 then 40 else if b = 2 then 24 else 0
theorem cnt12 : ∀ b, b < 8 → cnt 8 (tab 12) b = gq b := by decide +kernel
theorem cnt13 : ∀ b, b < 8 → cnt 8 (tab 13) b = gq b := by decide +kernel
end K12

set_option Elab.async false
set_option linter.all false
set_option maxRecDepth 10000
namespace K12
open DL PySem L2
theorem thru_nx {f : SF} {s s1 : DS} (h : f s = .nx s1) : sThru f s = .nx s1 := by unfold sThru; rw [h]
theorem setF_e {Cs : List Str} {nm : Str} {fv fo : EF} {s s1 : DS} {e : D} (h : fv s = .ok (.dat 0 e) s1) : sSetF Cs nm fv fo s = sSetF Cs nm (fun s => .ok (.dat 0 e) s) fo s1 := by unfold sSetF; rw [h]
theorem notT_e {f : EF} {s s1 : DS} {k : Nat} {ds : List D} (h : f s = .ok (.dat k (.lst ds)) s1) : ∃ c, eNotT f s = .ok (.dat 0 (.bl c)) s1 := by
  unfold eNotT; rw [h]; exact ⟨_, rfl⟩
abbrev o_1 (m : Nat) (f : Nat → Nat → Nat) : D := .obj "Group" [("rows", .tup (RTs m f))]
abbrev o_2 (m : Nat) (f : Nat → Nat → Nat) : D := .obj "Group" [("rows", .tup (RTs m f)), ("order", .int m)]
abbrev o_3 (m : Nat) (f : Nat → Nat → Nat) : D := .obj "Group" [("rows", .tup (RTs m f)), ("order", .int m), ("inverses", .tup (NS m (inv m f)))]
theorem init_ok {m : Nat} {f : Nat → Nat → Nat} (G : Gp m f) : ∃ c, fD_Group_init [.dat 1000 (.obj "Group" []), .dat 0 (.lst (RLs m f))] = .ok 0 .non [(1, GO m f (inv m f) c)] := by
  have hm := G.le
  obtain ⟨k, ds, ej⟩ := j_ok (n := 1) (o := o_3 m f) (f := f) hm
  obtain ⟨c, ec⟩ := notT_e ej
  refine ⟨c, ?_⟩
  have e1 : sAsg 2 (eCall gTuple [(eLc [4] (iSeq (eVar 1)) (tName 4) tTrue (eCall gTuple [(eVar 4)]))]) (i_st (.obj "Group" []) m f none none) = .nx (i_st (.obj "Group" []) m f (some (.dat 0 (.tup (RTs m f)))) none) := Eq.trans (asg_d (i_table hm) rfl) rfl
  have c2 := callF_e (fn := fD_check_table) (io := []) (cs := [CM.bw]) (ds := []) (fs := [(eVar 2)]) (s := i_st (.obj "Group" []) m f (some (.dat 0 (.tup (RTs m f)))) none) (s2 := i_st (.obj "Group" []) m f (some (.dat 0 (.tup (RTs m f)))) none) (eva_c rfl (eva_nil _)) rfl rfl (check_ok G) rfl
  have e2 : sThru (sExpr (eCallF fD_check_table [] [CM.bw] [] [(eVar 2)])) (i_st (.obj "Group" []) m f (some (.dat 0 (.tup (RTs m f)))) none) = .nx (i_st (.obj "Group" []) m f (some (.dat 0 (.tup (RTs m f)))) none) := thru_nx (Eq.trans (expr_e c2) rfl)
  have el : eCall gLen [(eVar 2)] (i_st (.obj "Group" []) m f (some (.dat 0 (.tup (RTs m f)))) none) = .ok (.dat 0 (.int m)) (i_st (.obj "Group" []) m f (some (.dat 0 (.tup (RTs m f)))) none) := by
    have := call_e (fs := [(eVar 2)]) (s := i_st (.obj "Group" []) m f (some (.dat 0 (.tup (RTs m f)))) none) (eva_c rfl (eva_nil _)) (len_dat (n := 0) (e := .tup (RTs m f)) rfl)
    rw [rts_len] at this
    exact this
  have e3 : sAsg 3 (eRg1 true (eCall gLen [(eVar 2)])) (i_st (.obj "Group" []) m f (some (.dat 0 (.tup (RTs m f)))) none) = .nx (i_tb (.obj "Group" []) m f) := Eq.trans (asg_d (rgT_e el (by omega)) rfl) rfl
  have c5 := callF_e (fn := fD_is_associative) (io := []) (cs := [CM.bw]) (ds := []) (fs := [(eVar 2)]) (s := i_tb (.obj "Group" []) m f) (s2 := i_tb (.obj "Group" []) m f) (eva_c rfl (eva_nil _)) rfl rfl (assoc_ok G) rfl
  have e6 : sSetF ["Group"] "rows" (eEsc (eVar 2)) (eVar 0) (i_tb (.obj "Group" []) m f) = .nx (i_tn 1 (o_1 m f) m f) := rfl
  have el7 : eCall gLen [(eVar 2)] (i_tn 1 (o_1 m f) m f) = .ok (.dat 0 (.int m)) (i_tn 1 (o_1 m f) m f) := by
    have := call_e (fs := [(eVar 2)]) (s := i_tn 1 (o_1 m f) m f) (eva_c rfl (eva_nil _)) (len_dat (n := 0) (e := .tup (RTs m f)) rfl)
    rw [rts_len] at this
    exact this
  have e7 : sSetF ["Group"] "order" (eEsc (eCall gLen [(eVar 2)])) (eVar 0) (i_tn 1 (o_1 m f) m f) = .nx (i_tn 1 (o_2 m f) m f) := Eq.trans (setF_e (esc_d el7)) rfl
  have e8 := Eq.trans (setF_e (Cs := ["Group"]) (nm := "inverses") (fo := eVar 0) (i_invs (n := 1) (o := o_2 m f) G)) (show _ = .nx (i_tn 1 (o_3 m f) m f) from rfl)
  have e9 : sSetF ["Group"] "commutative" (eEsc (eNotT j_lc)) (eVar 0) (i_tn 1 (o_3 m f) m f) = .nx (i_tn 1 (GO m f (inv m f) c) m f) := Eq.trans (setF_e (esc_d ec)) rfl
  exact Eq.trans (fn_nx (s := i_tn 1 (GO m f (inv m f) c) m f) rfl (Eq.trans (seq_nx e1) (Eq.trans (seq_nx e2) (Eq.trans (seq_nx e3) (Eq.trans (seq_nx (s1 := i_tb (.obj "Group" []) m f) (Eq.trans (if_f (i_units G)) rfl)) (Eq.trans (seq_nx (s1 := i_tb (.obj "Group" []) m f) (Eq.trans (if_f (not_t (tof_e c5))) rfl)) (Eq.trans (seq_nx e6) (Eq.trans (seq_nx e7) (Eq.trans (seq_nx e8) e9))))))))) rfl
end K12

set_option Elab.async false
set_option linter.all false
set_option maxRecDepth 10000
namespace K12
open DL PySem L2
/-! both histograms of commutators -/
theorem rep_zero {m : Nat} {s : DS} (hm : m ≤ 8) : gRep (.dat 1 (.lst [.int 0])) (.dat 0 (.int m)) s = some (.dat 1 (.lst (NS m fun _ => 0)), s) := by
  have e : (List.replicate (m : Int).toNat [D.int 0]).flatten = NS m fun _ => 0 := by
    unfold NS
    rw [Int.toNat_natCast]
    clear hm
    induction m with
    | zero => rfl
    | succ m ih => rw [List.replicate_succ', List.flatten_append, ih, List.range_succ, List.map_append]; rfl
  have c : (kOk (.dat 1 (.lst [.int 0])) (dnk (.dat 1 (.lst [.int 0])) [.int 0] s).sl [.int 0] && decide (-(2 ^ 63) ≤ (m : Int) ∧ (m : Int) < 2 ^ 63 ∧ [D.int 0].length * (m : Int).toNat ≤ sizeLine)) = true := by
    rw [Bool.and_eq_true]
    refine ⟨rfl, decide_eq_true ⟨by omega, by omega, ?_⟩⟩
    show 1 * (m : Int).toNat ≤ 2 ^ 24
    omega
  unfold gRep
  simp only [DV.d]
  rw [if_pos c, e]
  rfl
theorem methF_e {C m : Str} {fn : FD} {io : List Nat} {cs : List CM} {ds : List D} {fo : EF} {fs : List EF} {s s1 s2 s3 : DS} {x : DV} {xs : List DV} {ar : List SV} {n : Nat} {d : D} {ios : List (Nat × D)} (h0 : fo s = .ok x s1) (ho : isObj C m x.d = true) (h : evA fs s1 = .ok xs s2) (ha : cArgs s2 cs (x :: xs ++ ds.map (.dat 0)) = some ar) (hg : ((ioPairs 0 cs (x :: xs ++ ds.map (.dat 0))).map (·.1) == io && okIo (ioPairs 0 cs (x :: xs ++ ds.map (.dat 0))) s2.lk) = true) (hf : fn ar = .ok n d ios) (hb : backS (ioPairs 0 cs (x :: xs ++ ds.map (.dat 0))) ios (x :: xs ++ ds.map (.dat 0)) s2 = s3) :
    eMethF C m fn io cs ds fo fs s = .ok (.dat n d) s3 := by
  unfold eMethF
  rw [h0]
  simp only [ho, if_true]
  unfold callG withD
  rw [h]
  simp only []
  rw [ha]
  simp only [hg, if_true]
  rw [hf]
  simp only []
  rw [hb]
abbrev h_st (m : Nat) (f : Nat → Nat → Nat) (c : Bool) (h : Nat → Nat) (z2 z3 z4 z5 : Option Int) (lk : List Nat) : DS := ⟨[some (.brw (GO m f (inv m f) c)), some (.dat 1 (.lst (NS m h))), sI z2, sI z3, sI z4, sI z5], lk⟩
def hin (m : Nat) (f : Nat → Nat → Nat) (a j c : Nat) : Nat := sumR a (fun a => sumR m fun b => if com m f a b = c then 1 else 0) + sumR j fun b => if com m f a b = c then 1 else 0
theorem hin_next {m : Nat} {f : Nat → Nat → Nat} {a : Nat} : hin m f a m = hin m f (a + 1) 0 := rfl
theorem hin_set {m : Nat} {f : Nat → Nat → Nat} {a b : Nat} : (NS m (hin m f a b)).set (com m f a b) (.int ((hin m f a b (com m f a b) : Nat) + 1 : Int)) = NS m (hin m f a (b + 1)) := by
  rw [show (((hin m f a b (com m f a b) : Nat) : Int) + 1) = ((hin m f a b (com m f a b) + 1 : Nat) : Int) from rfl, ns_set]
  unfold NS
  refine List.map_congr_left fun c _ => ?_
  congr 2
  show (if c = com m f a b then hin m f a b (com m f a b) + 1 else hin m f a b c) = sumR a (fun a => sumR m fun b => if com m f a b = c then 1 else 0) + (sumR b (fun b => if com m f a b = c then 1 else 0) + if com m f a b = c then 1 else 0)
  by_cases q : c = com m f a b
  · subst q; rw [if_pos rfl, if_pos rfl]; unfold hin; omega
  · rw [if_neg q, if_neg (Ne.symm q)]; rfl
abbrev n_call : EF := (eMethF "Group" "product" (fnStar 1 fD_Group_product) [] [CM.bw, CM.gv, CM.gv, CM.gv, CM.gv] [] (eVar 0) [(eEsc (eVar 2)), (eEsc (eVar 4)), (eEsc (eVar 3)), (eEsc (eVar 5))])
abbrev n_inner : SF := (sFor (iEnum (eUn (gFld ["Group"] "inverses") (eVar 0))) (tTup [(tName 4), (tName 5)]) (sAugIx (fun i j => i + j) (eVar 1) n_call (eCon (.int 1))))
theorem n_call_ok {m : Nat} {f : Nat → Nat → Nat} {c : Bool} (G : Gp m f) {h : Nat → Nat} {a b : Nat} (ha : a < m) (hb : b < m) {lk : List Nat} : n_call (h_st m f c h (some a) (some (inv m f a)) (some b) (some (inv m f b)) lk) = .ok (.dat 0 (.int (com m f a b : Nat))) (h_st m f c h (some a) (some (inv m f a)) (some b) (some (inv m f b)) lk) := by
  have h1 := (inv_ok G ha).2.1
  have h2 := (inv_ok G hb).2.1
  have p := gproduct_ok (iv := inv m f) (c := c) G [a, b, inv m f a, inv m f b] (by
    intro x hx
    simp only [List.mem_cons, List.not_mem_nil, or_false] at hx
    rcases hx with rfl | rfl | rfl | rfl <;> assumption)
  have p2 : fnStar 1 fD_Group_product [.brw (GO m f (inv m f) c), .dat 0 (.int a), .dat 0 (.int b), .dat 0 (.int (inv m f a : Nat)), .dat 0 (.int (inv m f b : Nat))] = .ok 0 (.int (com m f a b : Nat)) [] := p
  exact methF_e (s1 := h_st m f c h (some a) (some (inv m f a)) (some b) (some (inv m f b)) lk) (s2 := h_st m f c h (some a) (some (inv m f a)) (some b) (some (inv m f b)) lk) rfl rfl (eva_c rfl (eva_c rfl (eva_c rfl (eva_c rfl (eva_nil _))))) rfl rfl p2 rfl
theorem n_inner_ok {m : Nat} {f : Nat → Nat → Nat} {c : Bool} (G : Gp m f) {a : Nat} (ha : a < m) (z4 z5 : Option Int) : ∃ y4 y5, n_inner (h_st m f c (hin m f a 0) (some a) (some (inv m f a)) z4 z5 []) = .nx (h_st m f c (hin m f (a + 1) 0) (some a) (some (inv m f a)) y4 y5 []) := by
  obtain ⟨s', e, y4, y5, rfl⟩ := for_it (it := iEnum (eUn (gFld ["Group"] "inverses") (eVar 0))) (tgt := tTup [(tName 4), (tName 5)]) (body := sAugIx (fun i j => i + j) (eVar 1) n_call (eCon (.int 1))) (s := h_st m f c (hin m f a 0) (some a) (some (inv m f a)) z4 z5 []) (s0 := h_st m f c (hin m f a 0) (some a) (some (inv m f a)) z4 z5 []) (x := .brw (.tup (NS m (inv m f)))) (n := (NS m (inv m f)).length) (itm := enItm (.brw (.tup (NS m (inv m f)))) (NS m (inv m f)))
    (fun b s => ∃ z4 z5, s = h_st m f c (hin m f a b) (some a) (some (inv m f a)) z4 z5 []) rfl ⟨z4, z5, rfl⟩ (by
    rintro b s hb ⟨z4, z5, rfl⟩
    rw [ns_len] at hb
    have hc := com_lt G ha hb
    have st := set_ok (sl := (h_st m f c (hin m f a b) (some a) (some (inv m f a)) (some b) (some (inv m f b)) []).sl) (lk := []) (p := []) (j := 1) (n := 1) (k := com m f a b) (ds := NS m (hin m f a b)) (dj := .lst (NS m (hin m f a b))) (e := .int ((hin m f a b (com m f a b) : Nat) + 1 : Int)) rfl (by decide) (by rw [ns_len]; exact hc) (ns_flat _ _) rfl rfl
    rw [hin_set] at st
    refine ⟨_, _, h_st m f c (hin m f a b) (some a) (some (inv m f a)) (some b) (some (inv m f b)) [], h_st m f c (hin m f a (b + 1)) (some a) (some (inv m f a)) (some b) (some (inv m f b)) [], en_brw (ns_get hb), by cases z4 <;> cases z5 <;> rfl, .inl ?_, some b, some (inv m f b), rfl⟩
    exact augix_e (s1 := h_st m f c (hin m f a b) (some a) (some (inv m f a)) (some b) (some (inv m f b)) [1]) (x := .plc 1 [] (.lst (NS m (hin m f a b)))) rfl rfl (n_call_ok G ha hb) (ns_get hc) rfl st)
  rw [ns_len, hin_next] at *
  exact ⟨y4, y5, e⟩
theorem tuple_plc {j n : Nat} {ds : List D} {sl : List (Option SV)} {lk : List Nat} (fl : ds.all D.flat = true) : gTuple [.plc j [] (.lst ds)] ⟨sl, j :: lk⟩ = some (.dat 0 (.tup ds), ⟨sl, lk⟩) := by
  unfold gTuple dnk kOk
  simp only [DV.d, items?, lim, isTup, fl, if_true, Bool.true_or, Bool.false_eq_true, if_false]
  rfl
theorem counts_ok {m : Nat} {f : Nat → Nat → Nat} {c : Bool} (G : Gp m f) : fD_commutator_counts [.brw (GO m f (inv m f) c)] = .ok 0 (.tup (NS m (cnt m f))) [] := by
  have hm := G.le
  obtain ⟨s', e, y2, y3, y4, y5, rfl⟩ := for_it (it := iEnum (eUn (gFld ["Group"] "inverses") (eVar 0))) (tgt := tTup [(tName 2), (tName 3)]) (body := n_inner) (s := h_st m f c (hin m f 0 0) none none none none []) (s0 := h_st m f c (hin m f 0 0) none none none none []) (x := .brw (.tup (NS m (inv m f)))) (n := (NS m (inv m f)).length) (itm := enItm (.brw (.tup (NS m (inv m f)))) (NS m (inv m f)))
    (fun a s => ∃ z2 z3 z4 z5, s = h_st m f c (hin m f a 0) z2 z3 z4 z5 []) rfl ⟨none, none, none, none, rfl⟩ (by
    rintro a s ha ⟨z2, z3, z4, z5, rfl⟩
    rw [ns_len] at ha
    obtain ⟨y4, y5, e⟩ := n_inner_ok (c := c) G ha z4 z5
    exact ⟨_, _, h_st m f c (hin m f a 0) (some a) (some (inv m f a)) z4 z5 [], _, en_brw (ns_get ha), by cases z2 <;> cases z3 <;> cases z4 <;> cases z5 <;> rfl, .inl e, some a, some (inv m f a), y4, y5, rfl⟩)
  have e0 : sAsg 1 (eBin gRep (eDisp false [(eCon (.int 0))]) (eUn (gFld ["Group"] "order") (eVar 0))) ⟨[some (.brw (GO m f (inv m f) c)), none, none, none, none, none], []⟩ = .nx (h_st m f c (hin m f 0 0) none none none none []) := Eq.trans (asg_d (bin_e rfl (un_e rfl fld_order) (rep_zero hm)) rfl) rfl
  have eh : hin m f m 0 = cnt m f := rfl
  rw [ns_len, eh] at e
  exact fn_e rfl (Eq.trans (seq_nx e0) (Eq.trans (seq_nx e) (ret_e (call_e (eva_c rfl (eva_nil _)) (tuple_plc (n := 1) (ns_flat _ _)))))) rfl
/-! the law's own -/
theorem index_brw {ds : List D} {i : Nat} {s : DS} (fl : ds.all D.flat = true) (h : idxF (.int 0) ds = some i) : gIndex (.brw (.lst ds)) [.dat 0 (.int 0)] s = some (.dat 0 (.int i), s) := by
  unfold gIndex
  have f0 : D.flat (.int 0) = true := rfl
  simp only [DV.d, fl, f0, Bool.and_self, if_true, h]
  rfl
abbrev u_st (m : Nat) (f : Nat → Nat → Nat) (n : Nat) (h : Nat → Nat) (z2 z3 z4 : Option Int) (lk : List Nat) : DS := ⟨[some (.brw (.lst (RLs m f))), some (.dat (n + 1) (.lst (NS m h))), sI z2, sI z3, sI z4], lk⟩
abbrev u_call : EF := (eCallF fD_law_product [] [CM.bw, CM.bw] [] [(eVar 0), (eDisp false [(eEsc (eVar 2)), (eEsc (eVar 3)), (eEsc (eMeth gIndex (eBin gIx (eVar 0) (eVar 2)) [(eCon (.int 0))])), (eEsc (eMeth gIndex (eBin gIx (eVar 0) (eVar 3)) [(eCon (.int 0))]))])])
abbrev u_body : SF := (sSeq (sAsg 4 u_call) (sSetIx (eEsc (eBin dAdd (eBin gIx (eVar 1) (eVar 4)) (eCon (.int 1)))) (eVar 1) (eVar 4)))
theorem u_call_ok {m : Nat} {f : Nat → Nat → Nat} (G : Gp m f) {n : Nat} {h : Nat → Nat} {a b : Nat} (ha : a < m) (hb : b < m) {z4 : Option Int} : u_call (u_st m f n h (some a) (some b) z4 []) = .ok (.dat 0 (.int (com m f a b : Nat))) (u_st m f n h (some a) (some b) z4 []) := by
  have h1 := inv_ok G ha
  have h2 := inv_ok G hb
  have p := product_ok G [a, b, inv m f a, inv m f b] (by
    intro x hx
    have := h1.2.1
    have := h2.2.1
    simp only [List.mem_cons, List.not_mem_nil, or_false] at hx
    rcases hx with rfl | rfl | rfl | rfl <;> assumption)
  have m1 : eMeth gIndex (eBin gIx (eVar 0) (eVar 2)) [(eCon (.int 0))] (u_st m f n h (some a) (some b) z4 []) = .ok (.dat 0 (.int (inv m f a : Nat))) (u_st m f n h (some a) (some b) z4 []) := meth_e (s1 := u_st m f n h (some a) (some b) z4 []) (x := .brw (.lst (NS m (f a)))) (bin_e rfl rfl (ix_brw rfl (rls_get ha))) rfl (eva_c rfl (eva_nil _)) (index_brw (ns_flat _ _) (idx_row.trans h1.1))
  have m2 : eMeth gIndex (eBin gIx (eVar 0) (eVar 3)) [(eCon (.int 0))] (u_st m f n h (some a) (some b) z4 []) = .ok (.dat 0 (.int (inv m f b : Nat))) (u_st m f n h (some a) (some b) z4 []) := meth_e (s1 := u_st m f n h (some a) (some b) z4 []) (x := .brw (.lst (NS m (f b)))) (bin_e rfl rfl (ix_brw rfl (rls_get hb))) rfl (eva_c rfl (eva_nil _)) (index_brw (ns_flat _ _) (idx_row.trans h2.1))
  have dd : eDisp false [(eEsc (eVar 2)), (eEsc (eVar 3)), (eEsc (eMeth gIndex (eBin gIx (eVar 0) (eVar 2)) [(eCon (.int 0))])), (eEsc (eMeth gIndex (eBin gIx (eVar 0) (eVar 3)) [(eCon (.int 0))]))] (u_st m f n h (some a) (some b) z4 []) = .ok (.dat 1 (.lst (xD [a, b, inv m f a, inv m f b]))) (u_st m f n h (some a) (some b) z4 []) := by
    have ea : evA [(eEsc (eVar 2)), (eEsc (eVar 3)), (eEsc (eMeth gIndex (eBin gIx (eVar 0) (eVar 2)) [(eCon (.int 0))])), (eEsc (eMeth gIndex (eBin gIx (eVar 0) (eVar 3)) [(eCon (.int 0))]))] (u_st m f n h (some a) (some b) z4 []) = .ok [.dat 0 (.int a), .dat 0 (.int b), .dat 0 (.int (inv m f a : Nat)), .dat 0 (.int (inv m f b : Nat))] (u_st m f n h (some a) (some b) z4 []) := eva_c rfl (eva_c rfl (eva_c (esc_d m1) (eva_c (esc_d m2) (eva_nil _))))
    unfold eDisp
    rw [ea]
    rfl
  exact callF_e (s1 := u_st m f n h (some a) (some b) z4 []) (eva_c rfl (eva_c dd (eva_nil _))) rfl rfl p rfl
theorem u_body_ok {m : Nat} {f : Nat → Nat → Nat} (G : Gp m f) {n : Nat} {a b : Nat} (ha : a < m) (hb : b < m) {z4 : Option Int} : u_body (u_st m f n (hin m f a b) (some a) (some b) z4 []) = .nx (u_st m f n (hin m f a (b + 1)) (some a) (some b) (some (com m f a b)) []) := by
  have hc := com_lt G ha hb
  have st := set_ok (sl := (u_st m f n (hin m f a b) (some a) (some b) (some (com m f a b)) []).sl) (lk := []) (p := []) (j := 1) (n := n + 1) (k := com m f a b) (ds := NS m (hin m f a b)) (dj := .lst (NS m (hin m f a b))) (e := .int ((hin m f a b (com m f a b) : Nat) + 1 : Int)) rfl (by simp) (by rw [ns_len]; exact hc) (ns_flat _ _) rfl rfl
  rw [hin_set] at st
  refine Eq.trans (seq_nx (s1 := u_st m f n (hin m f a b) (some a) (some b) (some (com m f a b)) []) (Eq.trans (asg_d (u_call_ok G ha hb) rfl) (by cases z4 <;> rfl))) ?_
  exact setix_e (e := .int ((hin m f a b (com m f a b) : Nat) + 1 : Int)) (esc_d (bin_e (s1 := u_st m f n (hin m f a b) (some a) (some b) (some (com m f a b)) []) (bin_e (s2 := u_st m f n (hin m f a b) (some a) (some b) (some (com m f a b)) [1]) rfl rfl (ix_plc rfl (ns_get hc))) rfl rfl)) rfl rfl st
theorem u_inner_ok {m : Nat} {f : Nat → Nat → Nat} (G : Gp m f) {n : Nat} {a : Nat} (ha : a < m) (z3 z4 : Option Int) : ∃ y3 y4, sFor (iRng [(eCall gLen [(eVar 0)])]) (tName 3) u_body (u_st m f n (hin m f a 0) (some a) z3 z4 []) = .nx (u_st m f n (hin m f (a + 1) 0) (some a) y3 y4 []) := by
  have hm := G.le
  have el : evA [(eCall gLen [(eVar 0)])] (u_st m f n (hin m f a 0) (some a) z3 z4 []) = .ok [.dat 0 (.int m)] (u_st m f n (hin m f a 0) (some a) z3 z4 []) := by
    have := call_e (fs := [(eVar 0)]) (s := u_st m f n (hin m f a 0) (some a) z3 z4 []) (eva_c rfl (eva_nil _)) (len_brw (e := .lst (RLs m f)) rfl)
    rw [rls_len] at this
    exact eva_c this (eva_nil _)
  obtain ⟨s', e, y3, y4, rfl⟩ := for_rng (t := 3) (body := u_body) (fun b s => ∃ z3 z4, s = u_st m f n (hin m f a b) (some a) z3 z4 []) el (by omega) ⟨z3, z4, rfl⟩ (by
    rintro b s hb ⟨z3, z4, rfl⟩
    refine ⟨rfl, u_st m f n (hin m f a (b + 1)) (some a) (some b) (some (com m f a b)) [], .inl ?_, some b, some (com m f a b), rfl⟩
    rw [show DS.mk (putS (u_st m f n (hin m f a b) (some a) z3 z4 []).sl 3 (.dat 0 (.int (b : Nat)))) (u_st m f n (hin m f a b) (some a) z3 z4 []).lk = u_st m f n (hin m f a b) (some a) (some b) z4 [] by cases z3 <;> cases z4 <;> rfl]
    exact u_body_ok G ha hb)
  exact ⟨y3, y4, e⟩
theorem due_counts_ok {m : Nat} {f : Nat → Nat → Nat} (G : Gp m f) : fD_law_due_counts [.brw (.lst (RLs m f))] = .ok 1000 (.lst (NS m (cnt m f))) [] := by
  have hm := G.le
  have lc := lc_pure (vs := [2]) (it := iSeq (eVar 0)) (tgt := tName 2) (f := eCon (.int 0)) (s := ⟨[some (.brw (.lst (RLs m f))), none, none, none, none], []⟩) (s0 := ⟨[some (.brw (.lst (RLs m f))), none, none, none, none], []⟩) (s2 := ⟨[some (.brw (.lst (RLs m f))), none, none, none, none], []⟩) (x := .brw (.lst (RLs m f))) (n := (RLs m f).length) (itm := sqItm (.brw (.lst (RLs m f))) (RLs m f)) (fun _ => .int 0) rfl rfl rfl (by rw [rls_len]; show m ≤ 2 ^ 24; omega) (by
    intro a ha
    rw [rls_len] at ha
    exact ⟨rfl, _, _, ⟨[some (.brw (.lst (RLs m f))), none, some (.brw (.lst (NS m (f a)))), none, none], []⟩, 0, _, sq_brwc (rls_get ha) rfl, name_b rfl, mv_e rfl, rfl⟩)
  rw [rls_len] at lc
  have e0 : sAsg 1 (eLc [2] (iSeq (eVar 0)) (tName 2) tTrue (eCon (.int 0))) ⟨[some (.brw (.lst (RLs m f))), none, none, none, none], []⟩ = .nx (u_st m f 999 (hin m f 0 0) none none none []) := Eq.trans (asg_d lc rfl) rfl
  have el : evA [(eCall gLen [(eVar 0)])] (u_st m f 999 (hin m f 0 0) none none none []) = .ok [.dat 0 (.int m)] (u_st m f 999 (hin m f 0 0) none none none []) := by
    have := call_e (fs := [(eVar 0)]) (s := u_st m f 999 (hin m f 0 0) none none none []) (eva_c rfl (eva_nil _)) (len_brw (e := .lst (RLs m f)) rfl)
    rw [rls_len] at this
    exact eva_c this (eva_nil _)
  obtain ⟨s', e, y2, y3, y4, rfl⟩ := for_rng (t := 2) (body := sFor (iRng [(eCall gLen [(eVar 0)])]) (tName 3) u_body) (fun a s => ∃ z2 z3 z4, s = u_st m f 999 (hin m f a 0) z2 z3 z4 []) el (by omega) ⟨none, none, none, rfl⟩ (by
    rintro a s ha ⟨z2, z3, z4, rfl⟩
    obtain ⟨y3, y4, e⟩ := u_inner_ok G (n := 999) ha z3 z4
    refine ⟨rfl, _, .inl ?_, some a, y3, y4, rfl⟩
    rw [show DS.mk (putS (u_st m f 999 (hin m f a 0) z2 z3 z4 []).sl 2 (.dat 0 (.int (a : Nat)))) (u_st m f 999 (hin m f a 0) z2 z3 z4 []).lk = u_st m f 999 (hin m f a 0) (some a) z3 z4 [] by cases z2 <;> cases z3 <;> cases z4 <;> rfl]
    exact e)
  have eh : hin m f m 0 = cnt m f := rfl
  rw [eh] at e
  exact fn_e rfl (Eq.trans (seq_nx e0) (Eq.trans (seq_nx e) (ret_e rfl))) rfl
end K12

set_option Elab.async false
set_option linter.all false
set_option maxRecDepth 10000
namespace K12
open DL PySem L2
/-! the totals at the base tables in closed form -/
theorem ab_all0 : ∀ k, k < 14 → (k = 9 ∨ k = 12 ∨ k = 13) ∨ ∀ a, a < ord k → ∀ b, b < ord k → tab k a b = tab k b a := by decide +kernel
theorem ab_all (k : Nat) (hk : k < 14) (h9 : k ≠ 9) (h12 : k ≠ 12) (h13 : k ≠ 13) : ∀ a, a < ord k → ∀ b, b < ord k → tab k a b = tab k b a := by
  rcases ab_all0 k hk with h | h
  · omega
  · exact h
theorem fold_rep (v : Nat) : ∀ (n z : Nat), (List.replicate n v).foldl (· + ·) z = z + n * v
  | 0, z => by simp
  | n + 1, z => by
    rw [List.replicate_succ, List.foldl_cons, fold_rep v n, Nat.succ_mul]; omega
theorem due_ab {k q : Nat} (h9 : k ≠ 9) (h12 : k ≠ 12) (h13 : k ≠ 13) : dueN k (q + 1) = (ord k * ord k) ^ (q + 1) := by
  have hd : degs k = List.replicate (ord k) 1 := by
    unfold degs
    rw [if_neg h9, if_neg (by omega)]
  unfold dueN sumP
  rw [if_neg (by omega), hd, List.map_replicate, fold_rep, Nat.div_one, Nat.zero_add, show 2 * (q + 1) - 2 = 2 * q by omega, Nat.pow_mul, show ord k ^ 2 = ord k * ord k by rw [Nat.pow_succ, Nat.pow_one], Nat.pow_succ, ← Nat.mul_assoc]
  exact Nat.mul_comm _ _
theorem due9 (q : Nat) : dueN 9 (q + 1) = 12 * 36 ^ q + 6 * 9 ^ q := by
  have h : dueN 9 (q + 1) = 6 * (0 + 6 ^ (2 * (q + 1) - 2) + 6 ^ (2 * (q + 1) - 2) + 3 ^ (2 * (q + 1) - 2)) := rfl
  rw [h, show 2 * (q + 1) - 2 = 2 * q by omega, Nat.pow_mul, Nat.pow_mul, show 6 ^ 2 = 36 from rfl, show 3 ^ 2 = 9 from rfl]
  omega
theorem dueQ {k : Nat} (h : k = 12 ∨ k = 13) (q : Nat) : dueN k (q + 1) = 32 * 64 ^ q + 8 * 16 ^ q := by
  have h : dueN k (q + 1) = 8 * (0 + 8 ^ (2 * (q + 1) - 2) + 8 ^ (2 * (q + 1) - 2) + 8 ^ (2 * (q + 1) - 2) + 8 ^ (2 * (q + 1) - 2) + 4 ^ (2 * (q + 1) - 2)) := by
    rcases h with rfl | rfl <;> rfl
  rw [h, show 2 * (q + 1) - 2 = 2 * q by omega, Nat.pow_mul, Nat.pow_mul, show 8 ^ 2 = 64 from rfl, show 4 ^ 2 = 16 from rfl]
  omega
theorem TT9_step (n : Nat) {c : Nat} (hc : c < 6) : TT 6 (tab 9) (n + 1) c = TT 6 (tab 9) n 0 * (if 0 / 3 = c / 3 then (if 0 = c then 18 else 9) else 0) + TT 6 (tab 9) n 1 * (if 1 / 3 = c / 3 then (if 1 = c then 18 else 9) else 0) + TT 6 (tab 9) n 2 * (if 2 / 3 = c / 3 then (if 2 = c then 18 else 9) else 0) + TT 6 (tab 9) n 3 * (if 3 / 3 = c / 3 then (if 3 = c then 18 else 9) else 0) + TT 6 (tab 9) n 4 * (if 4 / 3 = c / 3 then (if 4 = c then 18 else 9) else 0) + TT 6 (tab 9) n 5 * (if 5 / 3 = c / 3 then (if 5 = c then 18 else 9) else 0) := by
  rw [TT_succ cnt9]
  generalize TT 6 (tab 9) n = V
  show 0 + V 0 * _ + V 1 * _ + V 2 * _ + V 3 * _ + V 4 * _ + V 5 * _ = _
  rw [coef9 0 (by omega) c hc, coef9 1 (by omega) c hc, coef9 2 (by omega) c hc, coef9 3 (by omega) c hc, coef9 4 (by omega) c hc, coef9 5 (by omega) c hc, Nat.zero_add]
theorem TT9 : ∀ n, TT 6 (tab 9) (n + 1) 0 = 12 * 36 ^ n + 6 * 9 ^ n ∧ TT 6 (tab 9) (n + 1) 1 + 3 * 9 ^ n = 12 * 36 ^ n ∧ TT 6 (tab 9) (n + 1) 2 + 3 * 9 ^ n = 12 * 36 ^ n ∧ TT 6 (tab 9) (n + 1) 3 = 0 ∧ TT 6 (tab 9) (n + 1) 4 = 0 ∧ TT 6 (tab 9) (n + 1) 5 = 0
  | 0 => by
    have h0 := TT9_step 0 (c := 0) (by omega)
    have h1 := TT9_step 0 (c := 1) (by omega)
    have h2 := TT9_step 0 (c := 2) (by omega)
    have h3 := TT9_step 0 (c := 3) (by omega)
    have h4 := TT9_step 0 (c := 4) (by omega)
    have h5 := TT9_step 0 (c := 5) (by omega)
    simp [TT] at h0 h1 h2 h3 h4 h5
    have q0 : TT 6 (tab 9) (0 + 1) 0 = 18 := h0
    have q1 : TT 6 (tab 9) (0 + 1) 1 = 9 := h1
    have q2 : TT 6 (tab 9) (0 + 1) 2 = 9 := h2
    exact ⟨q0, by rw [q1], by rw [q2], h3, h4, h5⟩
  | n + 1 => by
    obtain ⟨i0, i1, i2, i3, i4, i5⟩ := TT9 n
    have h0 := TT9_step (n + 1) (c := 0) (by omega)
    have h1 := TT9_step (n + 1) (c := 1) (by omega)
    have h2 := TT9_step (n + 1) (c := 2) (by omega)
    have h3 := TT9_step (n + 1) (c := 3) (by omega)
    have h4 := TT9_step (n + 1) (c := 4) (by omega)
    have h5 := TT9_step (n + 1) (c := 5) (by omega)
    have p1 : 36 ^ (n + 1) = 36 * 36 ^ n := by rw [Nat.pow_succ, Nat.mul_comm]
    have p2 : 9 ^ (n + 1) = 9 * 9 ^ n := by rw [Nat.pow_succ, Nat.mul_comm]
    simp at h0 h1 h2 h3 h4 h5
    rw [p1, p2]
    generalize TT 6 (tab 9) (n + 1) = V at *
    generalize TT 6 (tab 9) (n + 1 + 1) = W at *
    generalize 36 ^ n = A at *
    generalize 9 ^ n = B at *
    omega
theorem TTq {t : Nat → Nat → Nat} (hc : ∀ b, b < 8 → cnt 8 t b = gq b) (c00 : coef 8 t gq 0 0 = 40) (c20 : coef 8 t gq 2 0 = 24) (c02 : coef 8 t gq 0 2 = 24) (c22 : coef 8 t gq 2 2 = 40) (cz : ∀ c, c < 8 → c ≠ 0 → c ≠ 2 → coef 8 t gq 0 c = 0 ∧ coef 8 t gq 2 c = 0) :
    ∀ n, (∀ c, c < 8 → c ≠ 0 → c ≠ 2 → TT 8 t n c = 0) ∧ TT 8 t (n + 1) 0 = 32 * 64 ^ n + 8 * 16 ^ n ∧ TT 8 t (n + 1) 2 + 8 * 16 ^ n = 32 * 64 ^ n := by
  have step : ∀ n, (∀ c, c < 8 → c ≠ 0 → c ≠ 2 → TT 8 t n c = 0) → (∀ c, c < 8 → c ≠ 0 → c ≠ 2 → TT 8 t (n + 1) c = 0) ∧ TT 8 t (n + 1) 0 = TT 8 t n 0 * 40 + TT 8 t n 2 * 24 ∧ TT 8 t (n + 1) 2 = TT 8 t n 0 * 24 + TT 8 t n 2 * 40 := by
    intro n hz
    have e : ∀ c, TT 8 t (n + 1) c = TT 8 t n 0 * coef 8 t gq 0 c + TT 8 t n 2 * coef 8 t gq 2 c := by
      intro c
      have z1 := hz 1 (by omega) (by omega) (by omega)
      have z3 := hz 3 (by omega) (by omega) (by omega)
      have z4 := hz 4 (by omega) (by omega) (by omega)
      have z5 := hz 5 (by omega) (by omega) (by omega)
      have z6 := hz 6 (by omega) (by omega) (by omega)
      have z7 := hz 7 (by omega) (by omega) (by omega)
      rw [TT_succ hc]
      generalize TT 8 t n = V at *
      show 0 + V 0 * _ + V 1 * _ + V 2 * _ + V 3 * _ + V 4 * _ + V 5 * _ + V 6 * _ + V 7 * _ = _
      rw [z1, z3, z4, z5, z6, z7]
      simp only [Nat.zero_mul, Nat.zero_add, Nat.add_zero]
    refine ⟨fun c h1 h2 h3 => ?_, ?_, ?_⟩
    · rw [e, (cz c h1 h2 h3).1, (cz c h1 h2 h3).2]; simp
    · rw [e, c00, c20]
    · rw [e, c02, c22]
  intro n
  induction n with
  | zero =>
    have z0 : ∀ c, c < 8 → c ≠ 0 → c ≠ 2 → TT 8 t 0 c = 0 := fun c _ h _ => if_neg h
    obtain ⟨_, s1, s2⟩ := step 0 z0
    refine ⟨z0, ?_, ?_⟩
    · rw [s1]; rfl
    · rw [s2]; rfl
  | succ n ih =>
    obtain ⟨hz, i0, i2⟩ := ih
    obtain ⟨hz1, _, _⟩ := step n hz
    obtain ⟨_, s1, s2⟩ := step (n + 1) hz1
    have p1 : 64 ^ (n + 1) = 64 * 64 ^ n := by rw [Nat.pow_succ, Nat.mul_comm]
    have p2 : 16 ^ (n + 1) = 16 * 16 ^ n := by rw [Nat.pow_succ, Nat.mul_comm]
    refine ⟨hz1, ?_, ?_⟩ <;> rw [p1, p2] <;> omega
theorem c12 : coef 8 (tab 12) gq 0 0 = 40 ∧ coef 8 (tab 12) gq 2 0 = 24 ∧ coef 8 (tab 12) gq 0 2 = 24 ∧ coef 8 (tab 12) gq 2 2 = 40 ∧ ∀ c, c < 8 → c ≠ 0 → c ≠ 2 → coef 8 (tab 12) gq 0 c = 0 ∧ coef 8 (tab 12) gq 2 c = 0 := by decide +kernel
theorem c13 : coef 8 (tab 13) gq 0 0 = 40 ∧ coef 8 (tab 13) gq 2 0 = 24 ∧ coef 8 (tab 13) gq 0 2 = 24 ∧ coef 8 (tab 13) gq 2 2 = 40 ∧ ∀ c, c < 8 → c ≠ 0 → c ≠ 2 → coef 8 (tab 13) gq 0 c = 0 ∧ coef 8 (tab 13) gq 2 c = 0 := by decide +kernel
theorem TT_due {k : Nat} (hk : k < 14) : ∀ p, TT (ord k) (tab k) p 0 = dueN k p
  | 0 => rfl
  | p + 1 => by
    by_cases h9 : k = 9
    · subst h9; rw [due9]; exact (TT9 p).1
    · by_cases h12 : k = 12
      · subst h12; rw [dueQ (.inl rfl)]; exact (TTq cnt12 c12.1 c12.2.1 c12.2.2.1 c12.2.2.2.1 c12.2.2.2.2 p).2.1
      · by_cases h13 : k = 13
        · subst h13; rw [dueQ (.inr rfl)]; exact (TTq cnt13 c13.1 c13.2.1 c13.2.2.1 c13.2.2.2.1 c13.2.2.2.2 p).2.1
        · rw [due_ab h9 h12 h13, TT_ab (tab_gp hk) (ab_all k hk h9 h12 h13), if_pos rfl]
end K12

set_option Elab.async false
set_option linter.all false
set_option maxRecDepth 10000
namespace K12
open DL PySem L2
/-! commutator_rows -/
theorem en_dat {e : D} {ds : List D} {k : Nat} {c : D} {s : DS} (h : ds[k]? = some c) : enItm (.dat 0 e) ds k s = some (.many [.dat 0 (.int (k : Nat)), .dat 0 c], s) := by
  unfold enItm
  rw [h]
  rfl
theorem en_plc {j : Nat} {ds : List D} {k : Nat} {i : Int} {sl : List (Option SV)} {lk : List Nat} (h : ds[k]? = some (.int i)) : enItm (.plc j [] (.lst ds)) ds k ⟨sl, lk⟩ = some (.many [.dat 0 (.int (k : Nat)), .dat 0 (.int i)], ⟨sl, lk⟩) := by
  unfold enItm
  rw [h]
  have e : dsub (.plc j [] (.lst ds)) k (.int i) (dupS (.plc j [] (.lst ds)) ⟨sl, lk⟩) = (.dat 0 (.int i), ⟨sl, lk⟩) := by
    show (if _ then _ else _) = _
    rw [if_neg (by simp [D.cont])]
    rfl
  simp only [e]
abbrev r_st (m : Nat) (f : Nat → Nat → Nat) (c : Bool) (p : Int) (w3 : Option SV) (z4 : Option Int) (w5 : Option SV) (z6 z7 z8 z9 : Option Int) (lk : List Nat) : DS := ⟨[some (.brw (GO m f (inv m f) c)), some (.dat 0 (.int p)), some (.dat 0 (.tup (NS m (cnt m f)))), w3, sI z4, w5, sI z6, sI z7, sI z8, sI z9], lk⟩
def hr (m : Nat) (f : Nat → Nat → Nat) (V : Nat → Nat) (a j c : Nat) : Nat := sumR a (fun a => sumR m fun b => if f a b = c then V a * cnt m f b else 0) + sumR j fun b => if f a b = c then V a * cnt m f b else 0
theorem hr_set {m : Nat} {f : Nat → Nat → Nat} {V : Nat → Nat} {a b : Nat} : (NS m (hr m f V a b)).set (f a b) (.int ((hr m f V a b (f a b) : Nat) + ((V a : Nat) : Int) * ((cnt m f b : Nat) : Int))) = NS m (hr m f V a (b + 1)) := by
  rw [show (((hr m f V a b (f a b) : Nat) : Int) + ((V a : Nat) : Int) * ((cnt m f b : Nat) : Int)) = ((hr m f V a b (f a b) + V a * cnt m f b : Nat) : Int) by simp, ns_set]
  unfold NS
  refine List.map_congr_left fun c _ => ?_
  congr 2
  show (if c = f a b then hr m f V a b (f a b) + V a * cnt m f b else hr m f V a b c) = sumR a (fun a => sumR m fun b => if f a b = c then V a * cnt m f b else 0) + (sumR b (fun b => if f a b = c then V a * cnt m f b else 0) + if f a b = c then V a * cnt m f b else 0)
  by_cases q : c = f a b
  · subst q; rw [if_pos rfl, if_pos rfl]; unfold hr; omega
  · rw [if_neg q, if_neg (Ne.symm q)]; rfl
theorem sumR_le {m v : Nat} : ∀ {n : Nat} {g : Nat → Nat}, (∀ a, a < n → g a ≤ v) → sumR n g ≤ n * v
  | 0, _, _ => by simp [sumR]
  | n + 1, g, h => by
    show sumR n g + g n ≤ _
    have := sumR_le (m := m) (v := v) (n := n) (g := g) fun a ha => h a (by omega)
    have := h n (by omega)
    rw [Nat.succ_mul]
    omega
theorem cnt_le {m : Nat} {f : Nat → Nat → Nat} {c : Nat} (hm : m ≤ 8) : cnt m f c ≤ 64 := by
  have h1 : cnt m f c ≤ m * m := sumR_le (m := m) fun a _ => by
    have := sumR_le (m := m) (v := 1) (n := m) (g := fun b => if com m f a b = c then 1 else 0) fun b _ => by split <;> omega
    omega
  have : m * m ≤ 8 * 8 := Nat.mul_le_mul hm hm
  omega
abbrev r_body : SF := (sAugIx (fun i j => i + j) (eVar 5) (eBin gIx (eBin gIx (eUn (gFld ["Group"] "rows") (eVar 0)) (eVar 6)) (eVar 8)) (eEsc (eBin dMul (eVar 7) (eVar 9))))
abbrev r_in : SF := (sFor (iEnum (eVar 2)) (tTup [(tName 8), (tName 9)]) r_body)
abbrev r_out : SF := (sFor (iEnum (eVar 3)) (tTup [(tName 6), (tName 7)]) r_in)
theorem r_body_ok {m : Nat} {f : Nat → Nat → Nat} {c : Bool} {p : Int} (G : Gp m f) {V : Nat → Nat} {w3 : Option SV} (hw : NoAl w3) {z4 : Option Int} {a b : Nat} (ha : a < m) (hb : b < m) {L : List Nat} (hL : L = [] ∨ L = [3]) :
    r_body (r_st m f c p w3 z4 (some (.dat 1 (.lst (NS m (hr m f V a b))))) (some a) (some (V a)) (some b) (some (cnt m f b)) L) = .nx (r_st m f c p w3 z4 (some (.dat 1 (.lst (NS m (hr m f V a (b + 1)))))) (some a) (some (V a)) (some b) (some (cnt m f b)) L) := by
  have hm := G.le
  have hc := G.lt a b ha hb
  have h64 := cnt_le (f := f) (c := b) hm
  have st := set_ok (sl := (r_st m f c p w3 z4 (some (.dat 1 (.lst (NS m (hr m f V a b))))) (some a) (some (V a)) (some b) (some (cnt m f b)) L).sl) (lk := L) (p := []) (j := 5) (n := 1) (k := f a b) (ds := NS m (hr m f V a b)) (dj := .lst (NS m (hr m f V a b))) (e := .int ((hr m f V a b (f a b) : Nat) + ((V a : Nat) : Int) * ((cnt m f b : Nat) : Int))) rfl (by decide) (by rw [ns_len]; exact hc) (ns_flat _ _) rfl (by rcases hL with rfl | rfl <;> rfl)
  rw [hr_set] at st
  have kk : killBX 5 [] w3 = w3 := by
    cases w3 with
    | none => rfl
    | some y => cases y with
      | dat => rfl
      | brw => rfl
      | als => exact hw.elim
  refine augix_e (s1 := r_st m f c p w3 z4 (some (.dat 1 (.lst (NS m (hr m f V a b))))) (some a) (some (V a)) (some b) (some (cnt m f b)) (5 :: L)) (x := .plc 5 [] (.lst (NS m (hr m f V a b)))) rfl rfl (bin_e (s2 := r_st m f c p w3 z4 (some (.dat 1 (.lst (NS m (hr m f V a b))))) (some a) (some (V a)) (some b) (some (cnt m f b)) (5 :: L)) (bin_e (un_e rfl fld_rows) rfl (ix_brw rfl (rts_get ha))) rfl (ix_brw rfl (ns_get hb))) (ns_get hc) (esc_d (bin_e rfl rfl (mul_ok (by omega)))) (Eq.trans st ?_)
  show some (DS.mk [_, _, _, killBX 5 [] w3, killBX 5 [] (sI z4), _, _, _, _, _] L) = _
  rw [kk]
  cases z4 <;> rfl
theorem r_in_ok {m : Nat} {f : Nat → Nat → Nat} {c : Bool} {p : Int} (G : Gp m f) {V : Nat → Nat} {w3 : Option SV} (hw : NoAl w3) {z4 : Option Int} {a : Nat} (ha : a < m) {L : List Nat} (hL : L = [] ∨ L = [3]) (z8 z9 : Option Int) :
    ∃ y8 y9, r_in (r_st m f c p w3 z4 (some (.dat 1 (.lst (NS m (hr m f V a 0))))) (some a) (some (V a)) z8 z9 L) = .nx (r_st m f c p w3 z4 (some (.dat 1 (.lst (NS m (hr m f V (a + 1) 0))))) (some a) (some (V a)) y8 y9 L) := by
  obtain ⟨s', e, y8, y9, rfl⟩ := for_it (it := iEnum (eVar 2)) (tgt := tTup [(tName 8), (tName 9)]) (body := r_body) (s := r_st m f c p w3 z4 (some (.dat 1 (.lst (NS m (hr m f V a 0))))) (some a) (some (V a)) z8 z9 L) (s0 := r_st m f c p w3 z4 (some (.dat 1 (.lst (NS m (hr m f V a 0))))) (some a) (some (V a)) z8 z9 L) (x := .dat 0 (.tup (NS m (cnt m f)))) (n := (NS m (cnt m f)).length) (itm := enItm (.dat 0 (.tup (NS m (cnt m f)))) (NS m (cnt m f)))
    (fun b s => ∃ z8 z9, s = r_st m f c p w3 z4 (some (.dat 1 (.lst (NS m (hr m f V a b))))) (some a) (some (V a)) z8 z9 L) rfl ⟨z8, z9, rfl⟩ (by
    rintro b s hb ⟨z8, z9, rfl⟩
    rw [ns_len] at hb
    refine ⟨_, _, r_st m f c p w3 z4 (some (.dat 1 (.lst (NS m (hr m f V a b))))) (some a) (some (V a)) (some b) (some (cnt m f b)) L, _, en_dat (ns_get hb), ?_, .inl (r_body_ok G hw ha hb hL), some b, some (cnt m f b), rfl⟩
    show tTup [(tName 8), (tName 9)] (.many [.dat 0 (.int (b : Nat)), .dat 0 (.int (cnt m f b : Nat))]) (r_st m f c p w3 z4 (some (.dat 1 (.lst (NS m (hr m f V a b))))) (some a) (some (V a)) z8 z9 L) = _
    rcases hL with rfl | rfl <;> cases w3 with
    | none => cases z4 <;> cases z8 <;> cases z9 <;> rfl
    | some y => cases y with
      | dat => cases z4 <;> cases z8 <;> cases z9 <;> rfl
      | brw => cases z4 <;> cases z8 <;> cases z9 <;> rfl
      | als => exact hw.elim)
  rw [ns_len] at e
  exact ⟨y8, y9, e⟩
/-- the totals are the list w3, owned at first and frozen later -/
theorem r_out_ok {m : Nat} {f : Nat → Nat → Nat} {c : Bool} {p : Int} (G : Gp m f) {V : Nat → Nat} {o : Nat} (ho : o < 2) {z4 : Option Int} (z6 z7 z8 z9 : Option Int) :
    ∃ y6 y7 y8 y9, r_out (r_st m f c p (some (.dat o (.lst (NS m V)))) z4 (some (.dat 1 (.lst (NS m (hr m f V 0 0))))) z6 z7 z8 z9 []) = .nx (r_st m f c p (some (.dat o (.lst (NS m V)))) z4 (some (.dat 1 (.lst (NS m (hr m f V m 0))))) y6 y7 y8 y9 []) := by
  match o, ho with
  | 0, _ =>
    obtain ⟨s', e, y6, y7, y8, y9, rfl⟩ := for_it (it := iEnum (eVar 3)) (tgt := tTup [(tName 6), (tName 7)]) (body := r_in) (s := r_st m f c p (some (.dat 0 (.lst (NS m V)))) z4 (some (.dat 1 (.lst (NS m (hr m f V 0 0))))) z6 z7 z8 z9 []) (s0 := r_st m f c p (some (.dat 0 (.lst (NS m V)))) z4 (some (.dat 1 (.lst (NS m (hr m f V 0 0))))) z6 z7 z8 z9 []) (x := .dat 0 (.lst (NS m V))) (n := (NS m V).length) (itm := enItm (.dat 0 (.lst (NS m V))) (NS m V))
      (fun a s => ∃ z6 z7 z8 z9, s = r_st m f c p (some (.dat 0 (.lst (NS m V)))) z4 (some (.dat 1 (.lst (NS m (hr m f V a 0))))) z6 z7 z8 z9 []) rfl ⟨z6, z7, z8, z9, rfl⟩ (by
      rintro a s ha ⟨z6, z7, z8, z9, rfl⟩
      rw [ns_len] at ha
      obtain ⟨y8, y9, e⟩ := r_in_ok (c := c) (p := p) (V := V) (w3 := some (.dat 0 (.lst (NS m V)))) G trivial (z4 := z4) ha (.inl rfl) z8 z9
      refine ⟨_, _, r_st m f c p (some (.dat 0 (.lst (NS m V)))) z4 (some (.dat 1 (.lst (NS m (hr m f V a 0))))) (some a) (some (V a)) z8 z9 [], _, en_dat (ns_get ha), ?_, .inl e, some a, some (V a), y8, y9, rfl⟩
      cases z4 <;> cases z6 <;> cases z7 <;> cases z8 <;> cases z9 <;> rfl)
    rw [ns_len] at e
    exact ⟨y6, y7, y8, y9, e⟩
  | 1, _ =>
    obtain ⟨s', e, y6, y7, y8, y9, rfl⟩ := for_it (it := iEnum (eVar 3)) (tgt := tTup [(tName 6), (tName 7)]) (body := r_in) (s := r_st m f c p (some (.dat 1 (.lst (NS m V)))) z4 (some (.dat 1 (.lst (NS m (hr m f V 0 0))))) z6 z7 z8 z9 []) (s0 := r_st m f c p (some (.dat 1 (.lst (NS m V)))) z4 (some (.dat 1 (.lst (NS m (hr m f V 0 0))))) z6 z7 z8 z9 [3]) (x := .plc 3 [] (.lst (NS m V))) (n := (NS m V).length) (itm := enItm (.plc 3 [] (.lst (NS m V))) (NS m V))
      (fun a s => ∃ z6 z7 z8 z9, s = r_st m f c p (some (.dat 1 (.lst (NS m V)))) z4 (some (.dat 1 (.lst (NS m (hr m f V a 0))))) z6 z7 z8 z9 [3]) rfl ⟨z6, z7, z8, z9, rfl⟩ (by
      rintro a s ha ⟨z6, z7, z8, z9, rfl⟩
      rw [ns_len] at ha
      obtain ⟨y8, y9, e⟩ := r_in_ok (c := c) (p := p) (V := V) (w3 := some (.dat 1 (.lst (NS m V)))) G trivial (z4 := z4) ha (.inr rfl) z8 z9
      refine ⟨_, _, r_st m f c p (some (.dat 1 (.lst (NS m V)))) z4 (some (.dat 1 (.lst (NS m (hr m f V a 0))))) (some a) (some (V a)) z8 z9 [3], _, en_plc (ns_get ha), ?_, .inl e, some a, some (V a), y8, y9, rfl⟩
      cases z4 <;> cases z6 <;> cases z7 <;> cases z8 <;> cases z9 <;> rfl)
    rw [ns_len] at e
    exact ⟨y6, y7, y8, y9, e⟩
theorem ns_one {m : Nat} (hm : 0 < m) : [D.int 1] ++ NS (m - 1) (fun _ => 0) = NS m (fun c => if c = 0 then 1 else 0) := by
  obtain ⟨n, rfl⟩ : ∃ n, m = n + 1 := ⟨m - 1, by omega⟩
  unfold NS
  rw [List.range_succ_eq_map, List.map_cons, List.map_map]
  show _ :: _ = _ :: _
  exact congrArg _ (List.map_congr_left fun a _ => rfl)
theorem r_ret {m : Nat} {f : Nat → Nat → Nat} {c : Bool} {p : Int} (G : Gp m f) {V : Nat → Nat} {o : Nat} (ho : o < 2) (z4 : Option Int) (w5 : Option SV) (z6 z7 z8 z9 : Option Int) :
    sRet (eBin gIx (eVar 3) (eCon (.int 0))) (r_st m f c p (some (.dat o (.lst (NS m V)))) z4 w5 z6 z7 z8 z9 []) = .rt (.dat 0 (.int (V 0 : Nat))) (r_st m f c p (some (.dat o (.lst (NS m V)))) z4 w5 z6 z7 z8 z9 []) := by
  match o, ho with
  | 0, _ => exact ret_e (bin_e (s1 := r_st m f c p (some (.dat 0 (.lst (NS m V)))) z4 w5 z6 z7 z8 z9 []) rfl rfl (ix_dat (k := 0) rfl (ns_get G.pos)))
  | 1, _ => exact ret_e (bin_e (s1 := r_st m f c p (some (.dat 1 (.lst (NS m V)))) z4 w5 z6 z7 z8 z9 [3]) rfl rfl (ix_plc (k := 0) rfl (ns_get G.pos)))
theorem rows_ok {m : Nat} {f : Nat → Nat → Nat} {c : Bool} (G : Gp m f) {p : Nat} (hp : p ≤ 100) : fD_commutator_rows [.brw (GO m f (inv m f) c), .dat 0 (.int p)] = .ok 0 (.int (TT m f p 0 : Nat)) [] := by
  have hm := G.le
  have c1 := callF_e (fn := fD_commutator_counts) (io := []) (cs := [CM.bw]) (ds := []) (fs := [(eVar 0)]) (s := ⟨[some (.brw (GO m f (inv m f) c)), some (.dat 0 (.int p)), none, none, none, none, none, none, none, none], []⟩) (s2 := ⟨[some (.brw (GO m f (inv m f) c)), some (.dat 0 (.int p)), none, none, none, none, none, none, none, none], []⟩) (eva_c rfl (eva_nil _)) rfl rfl (counts_ok G) rfl
  have e2 : sAsg 2 (eCallF fD_commutator_counts [] [CM.bw] [] [(eVar 0)]) ⟨[some (.brw (GO m f (inv m f) c)), some (.dat 0 (.int p)), none, none, none, none, none, none, none, none], []⟩ = .nx (r_st m f c p none none none none none none none []) := Eq.trans (asg_d c1 rfl) rfl
  have fz : ∀ n g, (NS n g).all D.flat = true := ns_flat
  have cat : gCat (.dat 1 (.lst [.int 1])) (.dat 1 (.lst (NS (m - 1) fun _ => 0))) (r_st m f c p none none none none none none none []) = some (.dat 1 (.lst (NS m (TT m f 0))), r_st m f c p none none none none none none none []) := by
    rw [cat_ok (fa := rfl) (fb := fz _ _) (by rw [ns_len]; show 1 + (m - 1) ≤ 2 ^ 24; omega), ns_one G.pos]; rfl
  have e3 : sAsg 3 (eBin gCat (eDisp false [(eCon (.int 1))]) (eBin gRep (eDisp false [(eCon (.int 0))]) (eBin dSub (eUn (gFld ["Group"] "order") (eVar 0)) (eCon (.int 1))))) (r_st m f c p none none none none none none none []) = .nx (r_st m f c p (some (.dat 1 (.lst (NS m (TT m f 0))))) none none none none none none []) :=
    Eq.trans (asg_d (bin_e rfl (bin_e rfl (bin_e (un_e rfl fld_order) rfl (subN (b := 1) G.pos)) (rep_zero (m := m - 1) (by omega))) cat) rfl) rfl
  obtain ⟨s', e, o, z4, w5, z6, z7, z8, z9, ho, hw, rfl⟩ := for_rng (fs := [(eVar 1)]) (t := 4) (m := p) (body := (sSeq (sAsg 5 (eBin gRep (eDisp false [(eCon (.int 0))]) (eUn (gFld ["Group"] "order") (eVar 0)))) (sSeq r_out (sAsg 3 (eEsc (eVar 5)))))) (s := r_st m f c p (some (.dat 1 (.lst (NS m (TT m f 0))))) none none none none none none [])
    (fun n s => ∃ o z4 w5 z6 z7 z8 z9, o < 2 ∧ NoAl w5 ∧ s = r_st m f c p (some (.dat o (.lst (NS m (TT m f n))))) z4 w5 z6 z7 z8 z9 []) rfl (by omega) ⟨1, none, none, none, none, none, none, by omega, trivial, rfl⟩ (by
    rintro n s hn ⟨o, z4, w5, z6, z7, z8, z9, ho, hw, rfl⟩
    obtain ⟨y6, y7, y8, y9, e⟩ := r_out_ok (c := c) (p := (p : Int)) (V := TT m f n) G ho (z4 := some n) z6 z7 z8 z9
    have q1 : DS.mk (putS (r_st m f c p (some (.dat o (.lst (NS m (TT m f n))))) z4 w5 z6 z7 z8 z9 []).sl 4 (.dat 0 (.int (n : Nat)))) (r_st m f c p (some (.dat o (.lst (NS m (TT m f n))))) z4 w5 z6 z7 z8 z9 []).lk = r_st m f c p (some (.dat o (.lst (NS m (TT m f n))))) (some n) w5 z6 z7 z8 z9 [] := by
      show DS.mk [_, _, _, _, _, killX 4 w5, _, _, _, _] _ = _
      rw [kill_no hw]
      cases z6 <;> cases z7 <;> cases z8 <;> cases z9 <;> rfl
    have q2 : sAsg 5 (eBin gRep (eDisp false [(eCon (.int 0))]) (eUn (gFld ["Group"] "order") (eVar 0))) (r_st m f c p (some (.dat o (.lst (NS m (TT m f n))))) (some n) w5 z6 z7 z8 z9 []) = .nx (r_st m f c p (some (.dat o (.lst (NS m (TT m f n))))) (some n) (some (.dat 1 (.lst (NS m (hr m f (TT m f n) 0 0))))) z6 z7 z8 z9 []) := by
      refine Eq.trans (asg_d (bin_e rfl (un_e rfl fld_order) (rep_zero hm)) rfl) ?_
      cases z6 <;> cases z7 <;> cases z8 <;> cases z9 <;> rfl
    have q3 : sAsg 3 (eEsc (eVar 5)) (r_st m f c p (some (.dat o (.lst (NS m (TT m f n))))) (some n) (some (.dat 1 (.lst (NS m (hr m f (TT m f n) m 0))))) y6 y7 y8 y9 []) = .nx (r_st m f c p (some (.dat 0 (.lst (NS m (TT m f (n + 1)))))) (some n) (some (.dat 0 (.lst (NS m (TT m f (n + 1)))))) y6 y7 y8 y9 []) := by
      cases y6 <;> cases y7 <;> cases y8 <;> cases y9 <;> rfl
    have q4 := Eq.trans (seq_nx (g := sSeq r_out (sAsg 3 (eEsc (eVar 5)))) q2) (Eq.trans (seq_nx e) q3)
    rw [← q1] at q4
    exact ⟨rfl, r_st m f c p (some (.dat 0 (.lst (NS m (TT m f (n + 1)))))) (some n) (some (.dat 0 (.lst (NS m (TT m f (n + 1)))))) y6 y7 y8 y9 [], .inl q4, 0, some n, some (.dat 0 (.lst (NS m (TT m f (n + 1))))), y6, y7, y8, y9, by omega, trivial, rfl⟩)
  have er := r_ret (c := c) (p := (p : Int)) (V := TT m f p) G ho z4 w5 z6 z7 z8 z9
  exact fn_e rfl (Eq.trans (seq_nx (s1 := ⟨[some (.brw (GO m f (inv m f) c)), some (.dat 0 (.int p)), none, none, none, none, none, none, none, none], []⟩) (Eq.trans (if_f (tof_e (bin_e rfl rfl (lt_b (decide_eq_false (by omega)))))) rfl)) (Eq.trans (seq_nx e2) (Eq.trans (seq_nx e3) (Eq.trans (seq_nx e) er)))) rfl
end K12

set_option Elab.async false
set_option linter.all false
set_option maxRecDepth 10000
namespace K12
open DL PySem L2
theorem fn_ex {io : List Nat} {ns : Nat} {body : SF} {as : List SV} {s : DS} {C : Str} {pl : List (Str × D)} {sl : List (Option SV)} {r : FO} (hs : as.map some ++ List.replicate (ns - as.length) none = sl) (h : body ⟨sl, []⟩ = .ex C pl s) (hr : (match iosF s.sl io with | some ios => FO.ex C pl ios | none => .no) = r) : fnF io ns body as = r := by
  subst hs; subst hr; unfold fnF; rw [h]; try rfl
theorem rows_neg {m : Nat} {f : Nat → Nat → Nat} {c : Bool} {p : Int} (hp : p < 0) : fD_commutator_rows [.brw (GO m f (inv m f) c), .dat 0 (.int p)] = .ex "BadNumber" [] [] := by
  exact fn_ex rfl (seq_ex (Eq.trans (if_t (s1 := ⟨[some (.brw (GO m f (inv m f) c)), some (.dat 0 (.int p)), none, none, none, none, none, none, none, none], []⟩) (tof_e (bin_e rfl rfl (lt_b (decide_eq_true hp))))) rfl)) rfl
theorem try_ex {f : SF} {hs : List HD} {s s1 : DS} {C : Str} {pl : List (Str × D)} (h : f s = .ex C pl s1) : sTry f hs s = hGo C pl s1 hs := by unfold sTry; rw [h]
theorem callF_ex {fn : FD} {cs : List CM} {fs : List EF} {s s1 : DS} {xs : List DV} {ar : List SV} {C : Str} {pl : List (Str × D)} (h : evA fs s = .ok xs s1) (ha : cArgs s1 cs (xs ++ ([] : List D).map (.dat 0)) = some ar) (hg : ((ioPairs 0 cs (xs ++ ([] : List D).map (.dat 0))).map (·.1) == [] && okIo (ioPairs 0 cs (xs ++ ([] : List D).map (.dat 0))) s1.lk) = true) (hf : fn ar = .ex C pl []) :
    eCallF fn [] cs [] fs s = .ex C pl (backS (ioPairs 0 cs (xs ++ ([] : List D).map (.dat 0))) [] (xs ++ ([] : List D).map (.dat 0)) s1) := by
  unfold eCallF callG withD
  rw [h]
  simp only []
  rw [ha]
  simp only [hg, if_true]
  rw [hf]
theorem expr_ex {f : EF} {s s1 : DS} {C : Str} {pl : List (Str × D)} (h : f s = .ex C pl s1) : sExpr f s = .ex C pl s1 := by unfold sExpr; rw [h]
theorem refused_ok {m : Nat} {f : Nat → Nat → Nat} {c : Bool} {p : Int} (hp : p < 0) : fD_law_refused [.brw (GO m f (inv m f) c), .dat 0 (.int p)] = .ok 0 (.bl true) [] := by
  have c1 := callF_ex (fn := fD_commutator_rows) (cs := [CM.bw, CM.bw]) (fs := [(eVar 0), (eVar 1)]) (s := ⟨[some (.brw (GO m f (inv m f) c)), some (.dat 0 (.int p)), none, none], []⟩) (eva_c rfl (eva_c rfl (eva_nil _))) rfl rfl (rows_neg (m := m) (f := f) (c := c) hp)
  exact fn_e (x := .dat 0 (.bl true)) rfl (seq_rt (Eq.trans (try_ex (expr_ex c1)) rfl)) rfl
theorem alike_i {a b : Int} {n : Nat} : fD_law_alike (n + 1) [.dat 0 (.int a), .dat 0 (.int b)] = .ok 0 (.bl (decide (a = b))) [] := by
  have e : dEq (.dat 0 (.int a)) (.dat 0 (.int b)) = fun s => some (.dat 0 (.bl (decide (a = b))), s) := funext fun s => eq_ok
  have h : b_law_alike (fD_law_alike n) ⟨[some (.dat 0 (.int a)), some (.dat 0 (.int b)), none], []⟩ = .rt (.dat 0 (.bl (decide (a = b)))) ⟨[some (.dat 0 (.int a)), some (.dat 0 (.int b)), none], []⟩ := by
    refine Eq.trans (seq_nx (s1 := ⟨[some (.dat 0 (.int a)), some (.dat 0 (.int b)), none], []⟩) rfl) (Eq.trans (seq_nx (s1 := ⟨[some (.dat 0 (.int a)), some (.dat 0 (.int b)), none], []⟩) rfl) (ret_e ?_))
    have q : eBin dEq (eVar 0) (eVar 1) ⟨[some (.dat 0 (.int a)), some (.dat 0 (.int b)), none], []⟩ = .ok (.dat 0 (.bl (decide (a = b)))) ⟨[some (.dat 0 (.int a)), some (.dat 0 (.int b)), none], []⟩ := bin_e rfl rfl (congrFun e _)
    show (match (match eBin dEq (eVar 0) (eVar 1) ⟨[some (.dat 0 (.int a)), some (.dat 0 (.int b)), none], []⟩ with | r => r) with | r => r) = _
    exact q
  exact fn_e rfl h rfl
abbrev k_st (m : Nat) (g : Nat → Nat) (z : Option Int) : DS := ⟨[some (.brw (.tup (NS m g))), some (.brw (.lst (NS m g))), sI z], []⟩
theorem alike_l {m : Nat} {g : Nat → Nat} {n : Nat} (hm : m ≤ 8) : fD_law_alike (n + 2) [.brw (.tup (NS m g)), .brw (.lst (NS m g))] = .ok 0 (.bl true) [] := by
  have e1 : eCall gLen [(eVar 0)] (k_st m g none) = .ok (.dat 0 (.int m)) (k_st m g none) := by
    have := call_e (fs := [(eVar 0)]) (s := k_st m g none) (eva_c rfl (eva_nil _)) (len_brw (e := .tup (NS m g)) rfl)
    rw [ns_len] at this
    exact this
  have e2 : eCall gLen [(eVar 1)] (k_st m g none) = .ok (.dat 0 (.int m)) (k_st m g none) := by
    have := call_e (fs := [(eVar 1)]) (s := k_st m g none) (eva_c rfl (eva_nil _)) (len_brw (e := .lst (NS m g)) rfl)
    rw [ns_len] at this
    exact this
  obtain ⟨s', e, z, rfl⟩ := for_rng (fs := [(eCall gLen [(eVar 1)])]) (t := 2) (body := (sIf (tNotF (tOf (eCallF (fD_law_alike (n + 1)) [] [CM.bw, CM.bw] [] [(eBin gIx (eVar 0) (eVar 2)), (eBin gIx (eVar 1) (eVar 2))]))) (sRet (eCon (.bl false))) sSkip)) (s := k_st m g none) (m := m) (fun _ s => ∃ z, s = k_st m g z) (eva_c e2 (eva_nil _)) (by omega) ⟨none, rfl⟩ (by
    rintro j s hj ⟨z, rfl⟩
    refine ⟨rfl, k_st m g (some j), .inl ?_, some j, rfl⟩
    have c1 := callF_e (fn := fD_law_alike (n + 1)) (io := []) (cs := [CM.bw, CM.bw]) (ds := []) (fs := [(eBin gIx (eVar 0) (eVar 2)), (eBin gIx (eVar 1) (eVar 2))]) (s := k_st m g (some j)) (s2 := k_st m g (some j)) (eva_c (bin_e rfl rfl (ix_brw rfl (ns_get hj))) (eva_c (bin_e rfl rfl (ix_brw rfl (ns_get hj))) (eva_nil _))) rfl rfl alike_i rfl
    rw [show decide (((g j : Nat) : Int) = ((g j : Nat) : Int)) = true from decide_eq_true rfl] at c1
    exact Eq.trans (if_f (s1 := k_st m g (some j)) (not_t (tof_e c1))) rfl)
  have h : b_law_alike (fD_law_alike (n + 1)) (k_st m g none) = .rt (.dat 0 (.bl true)) (k_st m g z) := by
    refine Eq.trans (seq_nx (s1 := k_st m g none) rfl) (seq_rt (Eq.trans (if_t (s1 := k_st m g none) rfl) (Eq.trans (seq_nx (s1 := k_st m g none) ?_) (Eq.trans (seq_nx e) (ret_e rfl)))))
    exact Eq.trans (if_f (s1 := k_st m g none) (or_ff (s1 := k_st m g none) (not_t rfl) (tof_e (bin_e e1 e2 (Eq.trans ne_int (by rw [decide_eq_true rfl]; rfl)))))) rfl
  exact fn_e rfl h rfl
theorem callK_e {fn : FD} {io : List Nat} {cs : List CM} {ds : List D} {fs gs : List EF} {s s1 s2 : DS} {xs : List DV} {ar : List SV} {n : Nat} {d : D} {ios : List (Nat × D)} (h : evA (fs ++ gs) s = .ok xs s1) (ha : cArgs s1 cs (xs ++ ds.map (.dat 0)) = some ar) (hg : ((ioPairs 0 cs (xs ++ ds.map (.dat 0))).map (·.1) == io && okIo (ioPairs 0 cs (xs ++ ds.map (.dat 0))) s1.lk) = true) (hf : fn ar = .ok n d ios) (hb : backS (ioPairs 0 cs (xs ++ ds.map (.dat 0))) ios (xs ++ ds.map (.dat 0)) s1 = s2) :
    eCallK fn io cs ds fs gs s = .ok (.dat n d) s2 := by
  unfold eCallK callG withD
  rw [h]
  simp only []
  rw [ha]
  simp only [hg, if_true]
  rw [hf]
  simp only []
  rw [hb]
theorem and_f {a b : TF} {s s1 : DS} (h : a s = .ok false s1) : tAndF a b s = .ok false s1 := by unfold tAndF; rw [h]
theorem and_t {a b : TF} {s s1 s2 : DS} {c : Bool} (h : a s = .ok true s1) (h2 : b s1 = .ok c s2) : tAndF a b s = .ok c s2 := by unfold tAndF; rw [h]; exact h2
abbrev f_st (m : Nat) (f : Nat → Nat → Nat) (c : Bool) (k : Nat) (ps : List Nat) (z5 z6 : Option Int) : DS := ⟨[some (.brw (GO m f (inv m f) c)), some (.brw (.lst (RLs m f))), some (.dat 0 (.int k)), some (.brw (.lst (xD ps))), some (.dat 0 (.int m)), sI z5, sI z6], []⟩
theorem fits_ok {k : Nat} {f : Nat → Nat → Nat} {c : Bool} (hk : k < 14) (G : Gp (ord k) f) (hT : ∀ p, p ≤ 100 → TT (ord k) f p 0 = dueN k p) {ps : List Nat} (hps : ∀ p ∈ ps, p ≤ 100) :
    fD_law_group_fits [.brw (GO (ord k) f (inv (ord k) f) c), .brw (.lst (RLs (ord k) f)), .dat 0 (.int k), .brw (.lst (xD ps))] = .ok 0 (.bl true) [] := by
  have hm := G.le
  have dc := due_counts_ok G
  have due : ∀ p : Nat, p ≤ 100 → fD_law_due_rows [.dat 0 (.int k), .dat 0 (.int (ord k : Nat)), .dat 0 (.int p)] = .ok 0 (.int (dueN k p : Nat)) [] := fun p hp => due_ok hk hp
  have rows : ∀ p : Nat, p ≤ 100 → fD_commutator_rows [.brw (GO (ord k) f (inv (ord k) f) c), .dat 0 (.int p)] = .ok 0 (.int (dueN k p : Nat)) [] := fun p hp => by rw [← hT p hp]; exact rows_ok G hp
  have al : ∀ p : Nat, fD_law_alike 9 [.dat 0 (.int (dueN k p : Nat)), .dat 0 (.int (dueN k p : Nat))] = .ok 0 (.bl true) [] := fun p => by
    rw [alike_i, decide_eq_true rfl]
  generalize ord k = m at *
  have e0 : eCall gLen [(eVar 1)] ⟨[some (.brw (GO m f (inv m f) c)), some (.brw (.lst (RLs m f))), some (.dat 0 (.int k)), some (.brw (.lst (xD ps))), none, none, none], []⟩ = .ok (.dat 0 (.int m)) ⟨[some (.brw (GO m f (inv m f) c)), some (.brw (.lst (RLs m f))), some (.dat 0 (.int k)), some (.brw (.lst (xD ps))), none, none, none], []⟩ := by
    have := call_e (fs := [(eVar 1)]) (s := ⟨[some (.brw (GO m f (inv m f) c)), some (.brw (.lst (RLs m f))), some (.dat 0 (.int k)), some (.brw (.lst (xD ps))), none, none, none], []⟩) (eva_c rfl (eva_nil _)) (len_brw (e := .lst (RLs m f)) rfl)
    rw [rls_len] at this
    exact this
  have c1 := callF_e (fn := fD_commutator_counts) (io := []) (cs := [CM.bw]) (ds := []) (fs := [(eVar 0)]) (s := f_st m f c k ps none none) (s2 := f_st m f c k ps none none) (eva_c rfl (eva_nil _)) rfl rfl (counts_ok G) rfl
  have c2 := callF_e (fn := fD_law_due_counts) (io := []) (cs := [CM.bw]) (ds := []) (fs := [(eVar 1)]) (s := f_st m f c k ps none none) (s2 := f_st m f c k ps none none) (eva_c rfl (eva_nil _)) rfl rfl dc rfl
  have c3 := callF_e (fn := fD_law_alike 9) (io := []) (cs := [CM.bw, CM.bw]) (ds := []) (s := f_st m f c k ps none none) (s2 := f_st m f c k ps none none) (eva_c c1 (eva_c c2 (eva_nil _))) rfl rfl (alike_l (n := 7) (g := cnt m f) hm) rfl
  have e1 : sIf (tNotF (tOf (eCallF (fD_law_alike 9) [] [CM.bw, CM.bw] [] [(eCallF fD_commutator_counts [] [CM.bw] [] [(eVar 0)]), (eCallF fD_law_due_counts [] [CM.bw] [] [(eVar 1)])]))) (sRet (eCon (.bl false))) sSkip (f_st m f c k ps none none) = .nx (f_st m f c k ps none none) := Eq.trans (if_f (not_t (tof_e c3))) rfl
  obtain ⟨s', e, z5, z6, rfl⟩ := for_it (it := iSeq (eVar 3)) (tgt := tName 5) (body := (sSeq (sAsg 6 (eCallF fD_law_due_rows [] [CM.bw, CM.bw, CM.bw] [] [(eVar 2), (eVar 4), (eVar 5)])) (sSeq (sIf (tNotF (tOf (eCallF (fD_law_alike 9) [] [CM.bw, CM.bw] [] [(eCallF fD_commutator_rows [] [CM.bw, CM.bw] [] [(eVar 0), (eVar 5)]), (eVar 6)]))) (sRet (eCon (.bl false))) sSkip) (sIf (tAndF (tOf (eBin dLt (eVar 5) (eCon (.int 7)))) (tNotF (tOf (eCallF (fD_law_alike 9) [] [CM.bw, CM.bw] [] [(eCallK fD_commutator_rows [] [CM.bw, CM.bw] [] [(eVar 0)] [(eVar 5)]), (eVar 6)])))) (sRet (eCon (.bl false))) sSkip)))) (s := f_st m f c k ps none none) (s0 := f_st m f c k ps none none) (x := .brw (.lst (xD ps))) (n := (xD ps).length) (itm := sqItm (.brw (.lst (xD ps))) (xD ps))
    (fun _ s => ∃ z5 z6, s = f_st m f c k ps z5 z6) rfl ⟨none, none, rfl⟩ (by
    rintro j s hj ⟨z5, z6, rfl⟩
    have hj : j < ps.length := by simpa using hj
    have g : (xD ps)[j]? = some (D.int (ps[j] : Nat)) := by simp [hj]
    have hp := hps _ (List.getElem_mem hj)
    generalize ps[j] = p at g hp
    refine ⟨_, _, f_st m f c k ps (some p) z6, f_st m f c k ps (some p) (some (dueN k p)), sq_brw g, Eq.trans (name_d rfl) (by cases z6 <;> rfl), .inl ?_, some p, some (dueN k p), rfl⟩
    have d1 := callF_e (fn := fD_law_due_rows) (io := []) (cs := [CM.bw, CM.bw, CM.bw]) (ds := []) (fs := [(eVar 2), (eVar 4), (eVar 5)]) (s := f_st m f c k ps (some p) z6) (s2 := f_st m f c k ps (some p) z6) (eva_c rfl (eva_c rfl (eva_c rfl (eva_nil _)))) rfl rfl (due p hp) rfl
    have d2 := callF_e (fn := fD_commutator_rows) (io := []) (cs := [CM.bw, CM.bw]) (ds := []) (fs := [(eVar 0), (eVar 5)]) (s := f_st m f c k ps (some p) (some (dueN k p))) (s2 := f_st m f c k ps (some p) (some (dueN k p))) (eva_c rfl (eva_c rfl (eva_nil _))) rfl rfl (rows p hp) rfl
    have d3 := callF_e (fn := fD_law_alike 9) (io := []) (cs := [CM.bw, CM.bw]) (ds := []) (fs := [(eCallF fD_commutator_rows [] [CM.bw, CM.bw] [] [(eVar 0), (eVar 5)]), (eVar 6)]) (s := f_st m f c k ps (some p) (some (dueN k p))) (s2 := f_st m f c k ps (some p) (some (dueN k p))) (eva_c d2 (eva_c rfl (eva_nil _))) rfl rfl (al p) rfl
    have d4 := callK_e (fn := fD_commutator_rows) (io := []) (cs := [CM.bw, CM.bw]) (ds := []) (fs := [(eVar 0)]) (gs := [(eVar 5)]) (s := f_st m f c k ps (some p) (some (dueN k p))) (s2 := f_st m f c k ps (some p) (some (dueN k p))) (eva_c rfl (eva_c rfl (eva_nil _))) rfl rfl (rows p hp) rfl
    have d5 := callF_e (fn := fD_law_alike 9) (io := []) (cs := [CM.bw, CM.bw]) (ds := []) (fs := [(eCallK fD_commutator_rows [] [CM.bw, CM.bw] [] [(eVar 0)] [(eVar 5)]), (eVar 6)]) (s := f_st m f c k ps (some p) (some (dueN k p))) (s2 := f_st m f c k ps (some p) (some (dueN k p))) (eva_c d4 (eva_c rfl (eva_nil _))) rfl rfl (al p) rfl
    refine Eq.trans (seq_nx (s1 := f_st m f c k ps (some p) (some (dueN k p))) (Eq.trans (asg_d d1 rfl) (by cases z6 <;> rfl))) (Eq.trans (seq_nx (s1 := f_st m f c k ps (some p) (some (dueN k p))) (Eq.trans (if_f (not_t (tof_e d3))) rfl)) ?_)
    by_cases q : p < 7
    · exact Eq.trans (if_f (s1 := f_st m f c k ps (some p) (some (dueN k p))) (and_t (s1 := f_st m f c k ps (some p) (some (dueN k p))) (tof_e (bin_e rfl rfl (lt_b (decide_eq_true (by omega))))) (not_t (tof_e d5)))) rfl
    · exact Eq.trans (if_f (s1 := f_st m f c k ps (some p) (some (dueN k p))) (and_f (tof_e (bin_e rfl rfl (lt_b (decide_eq_false (by omega))))))) rfl)
  have r1 := callF_e (fn := fD_commutator_rows) (io := []) (cs := [CM.bw, CM.bw]) (ds := [(.int 1)]) (fs := [(eVar 0)]) (s := f_st m f c k ps z5 z6) (s2 := f_st m f c k ps z5 z6) (eva_c rfl (eva_nil _)) rfl rfl (rows 1 (by omega)) rfl
  have r2 := callF_e (fn := fD_law_due_rows) (io := []) (cs := [CM.bw, CM.bw, CM.bw]) (ds := []) (fs := [(eVar 2), (eVar 4), (eCon (.int 1))]) (s := f_st m f c k ps z5 z6) (s2 := f_st m f c k ps z5 z6) (eva_c rfl (eva_c rfl (eva_c rfl (eva_nil _)))) rfl rfl (due 1 (by omega)) rfl
  have r3 := callF_e (fn := fD_law_alike 9) (io := []) (cs := [CM.bw, CM.bw]) (ds := []) (s := f_st m f c k ps z5 z6) (s2 := f_st m f c k ps z5 z6) (eva_c r1 (eva_c r2 (eva_nil _))) rfl rfl (al 1) rfl
  exact fn_e rfl (Eq.trans (seq_nx (s1 := f_st m f c k ps none none) (Eq.trans (asg_d e0 rfl) rfl)) (Eq.trans (seq_nx e1) (Eq.trans (seq_nx e) (ret_e r3)))) rfl
end K12

set_option Elab.async false
set_option linter.all false
set_option maxRecDepth 10000
namespace K12
open DL PySem L2
theorem lc_two {vs : List Nat} {it : IF} {tgt : GF} {f : EF} {s s0 s2 a1 b1 c1 e1 a2 b2 c2 e2 : DS} {x : DV} {itm : Nat → DS → Option (IV × DS)} {y1 y2 : IV} {n1 n2 : Nat} {d1 d2 : D} (h : it s = .ok x 2 itm s0) (hx : isPlain x = true) (hb : blkS vs s0 = some s2)
    (p1 : itm 0 s2 = some (y1, a1)) (p2 : tgt y1 a1 = some b1) (p3 : eMv f b1 = .ok (.dat n1 d1) c1) (p4 : blkS vs c1 = some e1)
    (q1 : itm 1 e1 = some (y2, a2)) (q2 : tgt y2 a2 = some b2) (q3 : eMv f b2 = .ok (.dat n2 d2) c2) (q4 : blkS vs c2 = some e2) :
    eLc vs it tgt tTrue f s = .ok (.dat (accK (accK 1000 n1 d1) n2 d2) (.lst [d1, d2])) (unl x e2) := by
  unfold eLc
  rw [h]
  simp only [hx, if_true, hb]
  have t1 : ([] : List D).length < sizeLine := by show 0 < 2 ^ 24; omega
  have t2 : ([] ++ [d1] : List D).length < sizeLine := by show 1 < 2 ^ 24; omega
  unfold lcGo
  simp only [p1, p2, tTrue, p3, if_pos t1, p4]
  unfold lcGo
  simp only [q1, q2, tTrue, q3, if_pos t2, q4]
  rfl
abbrev w_st (ns xs : List Int) (w2 w3 w4 w5 : Option SV) (z6 z7 : Option Int) (w9 w10 : Option SV) (lk : List Nat) : DS := ⟨[some (.brw (NL ns)), some (.dat 1 (NL xs)), w2, w3, w4, w5, sI z6, sI z7, none, w9, w10, none], lk⟩
theorem kinds_ok (ns xs : List Int) : ∃ (k1 k2 : Nat) (ys : List Int), eLc [6] (iRng [(eCon (.int 2))]) (tName 6) tTrue (eCallF fD_law_drawn_kind [0] [CM.io] [] [(eVar 1)]) (w_st ns xs none none none none none none none none []) = .ok (.dat 1000 (.lst [.int k1, .int k2])) (w_st ns ys none none none none none none none none []) ∧ k1 < 14 ∧ k2 < 14 := by
  obtain ⟨k1, ys, h1, l1⟩ := kind_ok (n := 0) xs
  obtain ⟨k2, zs, h2, l2⟩ := kind_ok (n := 0) ys
  have c1 := callF_e (fn := fD_law_drawn_kind) (io := [0]) (cs := [CM.io]) (ds := []) (fs := [(eVar 1)]) (s := w_st ns xs none none none none (some 0) none none none []) (s2 := w_st ns ys none none none none (some 0) none none none []) (eva_c rfl (eva_nil _)) rfl rfl h1 rfl
  have c2 := callF_e (fn := fD_law_drawn_kind) (io := [0]) (cs := [CM.io]) (ds := []) (fs := [(eVar 1)]) (s := w_st ns ys none none none none (some 1) none none none []) (s2 := w_st ns zs none none none none (some 1) none none none []) (eva_c rfl (eva_nil _)) rfl rfl h2 rfl
  exact ⟨k1, k2, zs, lc_two (s0 := w_st ns xs none none none none none none none none []) (s2 := w_st ns xs none none none none none none none none []) (b1 := w_st ns xs none none none none (some 0) none none none []) (e1 := w_st ns ys none none none none none none none none []) (b2 := w_st ns ys none none none none (some 1) none none none []) (e2 := w_st ns zs none none none none none none none none []) rfl rfl rfl rg_i (name_d rfl) (mv_e c1) rfl rg_i (name_d rfl) (mv_e c2) rfl, l1, l2⟩
/-- what is known of a drawn table -/
structure Tb (k : Nat) (f : Nat → Nat → Nat) : Prop where
  hk : k < 14
  G : Gp (ord k) f
  T : ∀ p, p ≤ 100 → TT (ord k) f p 0 = dueN k p
theorem anew_tb {n k : Nat} (hk : k < 14) (xs : List Int) : ∃ (f : Nat → Nat → Nat) (ys : List Int), fD_law_anew [.dat (n + 1) (NL xs), .dat 0 (.int k)] = .ok 1000 (.lst (RLs (ord k) f)) [(n + 1, NL ys)] ∧ Tb k f := by
  obtain ⟨f, σ, ys, e, s0, s1, s2, s3⟩ := anew_ok (n := n) hk xs
  have G := tab_gp hk
  have F := gp_move G s0 s1 s2 s3
  refine ⟨f, ys, e, hk, F, fun p _ => ?_⟩
  have := TT_move G F s0 s1 s2 s3 p G.pos
  rw [s0] at this
  rw [this, TT_due hk]
abbrev KD (k1 k2 : Nat) : SV := .dat 1000 (.lst [.int k1, .int k2])
abbrev TD (k1 k2 : Nat) (f1 f2 : Nat → Nat → Nat) : D := .lst [.lst (RLs (ord k1) f1), .lst (RLs (ord k2) f2)]
theorem tables_ok (ns xs : List Int) {k1 k2 : Nat} (h1 : k1 < 14) (h2 : k2 < 14) : ∃ (f1 f2 : Nat → Nat → Nat) (ys : List Int), eLc [9] (iSeq (eVar 2)) (tName 9) tTrue (eCallF fD_law_anew [0] [CM.io, CM.bw] [] [(eVar 1), (eVar 9)]) (w_st ns xs (some (KD k1 k2)) none none none none none none none []) = .ok (.dat 1000 (TD k1 k2 f1 f2)) (w_st ns ys (some (KD k1 k2)) none none none none none none none []) ∧ Tb k1 f1 ∧ Tb k2 f2 := by
  obtain ⟨f1, ys, e1, t1⟩ := anew_tb (n := 0) h1 xs
  obtain ⟨f2, zs, e2, t2⟩ := anew_tb (n := 0) h2 ys
  have c1 := callF_e (fn := fD_law_anew) (io := [0]) (cs := [CM.io, CM.bw]) (ds := []) (fs := [(eVar 1), (eVar 9)]) (s := w_st ns xs (some (KD k1 k2)) none none none none none (some (.dat 0 (.int k1))) none [2]) (s2 := w_st ns ys (some (KD k1 k2)) none none none none none (some (.dat 0 (.int k1))) none [2]) (eva_c rfl (eva_c rfl (eva_nil _))) rfl rfl e1 rfl
  have c2 := callF_e (fn := fD_law_anew) (io := [0]) (cs := [CM.io, CM.bw]) (ds := []) (fs := [(eVar 1), (eVar 9)]) (s := w_st ns ys (some (KD k1 k2)) none none none none none (some (.dat 0 (.int k2))) none [2]) (s2 := w_st ns zs (some (KD k1 k2)) none none none none none (some (.dat 0 (.int k2))) none [2]) (eva_c rfl (eva_c rfl (eva_nil _))) rfl rfl e2 rfl
  exact ⟨f1, f2, zs, lc_two (it := iSeq (eVar 2)) (itm := sqItm (.plc 2 [] (.lst [.int k1, .int k2])) [.int k1, .int k2]) (s := w_st ns xs (some (KD k1 k2)) none none none none none none none []) (x := .plc 2 [] (.lst [.int k1, .int k2])) (s0 := w_st ns xs (some (KD k1 k2)) none none none none none none none [2]) (s2 := w_st ns xs (some (KD k1 k2)) none none none none none none none [2]) (b1 := w_st ns xs (some (KD k1 k2)) none none none none none (some (.dat 0 (.int k1))) none [2]) (e1 := w_st ns ys (some (KD k1 k2)) none none none none none none none [2]) (b2 := w_st ns ys (some (KD k1 k2)) none none none none none (some (.dat 0 (.int k2))) none [2]) (e2 := w_st ns zs (some (KD k1 k2)) none none none none none none none [2]) rfl rfl rfl rfl rfl (mv_e c1) rfl rfl rfl (mv_e c2) rfl, t1, t2⟩
theorem list_plc {j : Nat} {p : List Nat} {ds : List D} {sl : List (Option SV)} {lk : List Nat} (fl : ds.all D.flat = true) : gList [.plc j p (.lst ds)] ⟨sl, j :: lk⟩ = some (.dat 1 (.lst ds), ⟨sl, lk⟩) := by
  unfold gList dnk kOk
  simp only [DV.d, items?, lim, isTup, fl, if_true, Bool.true_or, Bool.false_eq_true, if_false]
  rfl
/-- a copy of a table, row by row, to be handed over -/
theorem copy_ok {ns xs : List Int} {k1 k2 : Nat} {f1 f2 : Nat → Nat → Nat} {i m : Nat} {f : Nat → Nat → Nat} (hm : m ≤ 8) (hi : getAt (TD k1 k2 f1 f2) [i] = some (.lst (RLs m f))) :
    eEsc (eLc [11] (iSeq (eVar 10)) (tName 11) tTrue (eCall gList [(eVar 11)])) (w_st ns xs (some (KD k1 k2)) (some (.dat 1000 (TD k1 k2 f1 f2))) none none none none none (some (.als 3 [i])) [3]) = .ok (.dat 0 (.lst (RLs m f))) (w_st ns xs (some (KD k1 k2)) (some (.dat 1000 (TD k1 k2 f1 f2))) none none none none none (some (.als 3 [i])) [3]) := by
  have e10 : eVar 10 (w_st ns xs (some (KD k1 k2)) (some (.dat 1000 (TD k1 k2 f1 f2))) none none none none none (some (.als 3 [i])) [3]) = .ok (.plc 3 [i] (.lst (RLs m f))) (w_st ns xs (some (KD k1 k2)) (some (.dat 1000 (TD k1 k2 f1 f2))) none none none none none (some (.als 3 [i])) [3, 3]) := by
    unfold eVar
    show (match getAt (TD k1 k2 f1 f2) [i] with | some d => _ | none => _) = _
    rw [hi]
    rfl
  obtain ⟨k, _, e⟩ := lc_part (vs := [11]) (it := iSeq (eVar 10)) (tgt := tName 11) (f := eCall gList [(eVar 11)]) (s := w_st ns xs (some (KD k1 k2)) (some (.dat 1000 (TD k1 k2 f1 f2))) none none none none none (some (.als 3 [i])) [3]) (s0 := w_st ns xs (some (KD k1 k2)) (some (.dat 1000 (TD k1 k2 f1 f2))) none none none none none (some (.als 3 [i])) [3, 3]) (s2 := w_st ns xs (some (KD k1 k2)) (some (.dat 1000 (TD k1 k2 f1 f2))) none none none none none (some (.als 3 [i])) [3, 3]) (x := .plc 3 [i] (.lst (RLs m f))) (n := (RLs m f).length) (itm := sqItm (.plc 3 [i] (.lst (RLs m f))) (RLs m f)) (fun a => .lst (NS m (f a))) (seq_e e10 rfl) rfl rfl (by rw [rls_len]; show m ≤ 2 ^ 24; omega) (by
    intro a ha
    rw [rls_len] at ha
    have gA : getAt (TD k1 k2 f1 f2) [i, a] = some (.lst (NS m (f a))) := by
      have := getAt_app (q := [a]) hi
      refine Eq.trans this ?_
      show ((RLs m f)[a]?).bind _ = _
      rw [rls_get ha]; rfl
    have i1 : sqItm (.plc 3 [i] (.lst (RLs m f))) (RLs m f) a (w_st ns xs (some (KD k1 k2)) (some (.dat 1000 (TD k1 k2 f1 f2))) none none none none none (some (.als 3 [i])) [3, 3]) = some (.one (.plc 3 [i, a] (.lst (NS m (f a)))), w_st ns xs (some (KD k1 k2)) (some (.dat 1000 (TD k1 k2 f1 f2))) none none none none none (some (.als 3 [i])) [3, 3, 3]) := by
      unfold sqItm
      rw [rls_get ha]
      rfl
    have e11 : eVar 11 ⟨[some (.brw (NL ns)), some (.dat 1 (NL xs)), some (KD k1 k2), some (.dat 1000 (TD k1 k2 f1 f2)), none, none, none, none, none, none, some (.als 3 [i]), some (.als 3 [i, a])], [3, 3]⟩ = .ok (.plc 3 [i, a] (.lst (NS m (f a)))) ⟨[some (.brw (NL ns)), some (.dat 1 (NL xs)), some (KD k1 k2), some (.dat 1000 (TD k1 k2 f1 f2)), none, none, none, none, none, none, some (.als 3 [i]), some (.als 3 [i, a])], [3, 3, 3]⟩ := by
      unfold eVar
      show (match getAt (TD k1 k2 f1 f2) [i, a] with | some d => _ | none => _) = _
      rw [gA]
      rfl
    exact ⟨_, _, ⟨[some (.brw (NL ns)), some (.dat 1 (NL xs)), some (KD k1 k2), some (.dat 1000 (TD k1 k2 f1 f2)), none, none, none, none, none, none, some (.als 3 [i]), some (.als 3 [i, a])], [3, 3]⟩, 1, ⟨[some (.brw (NL ns)), some (.dat 1 (NL xs)), some (KD k1 k2), some (.dat 1000 (TD k1 k2 f1 f2)), none, none, none, none, none, none, some (.als 3 [i]), some (.als 3 [i, a])], [3, 3]⟩, i1, rfl, mv_e (call_e (eva_c e11 (eva_nil _)) (list_plc (ns_flat _ _))), rfl⟩)
  rw [rls_len] at e
  exact esc_d e
end K12

set_option Elab.async false
set_option linter.all false
set_option maxRecDepth 10000
namespace K12
open DL PySem L2
theorem callG_e {fn : FD} {io : List Nat} {cs : List CM} {s s2 : DS} {xs : List DV} {ar : List SV} {n : Nat} {d : D} {ios : List (Nat × D)} (ha : cArgs s cs xs = some ar) (hg : ((ioPairs 0 cs xs).map (·.1) == io && okIo (ioPairs 0 cs xs) s.lk) = true) (hf : fn ar = .ok n d ios) (hb : backS (ioPairs 0 cs xs) ios xs s = s2) : callG fn io cs (.ok xs s) = .ok (.dat n d) s2 := by
  unfold callG
  simp only []
  rw [ha]
  simp only [hg, if_true]
  rw [hf]
  simp only []
  rw [hb]
theorem make_e {Cn : Str} {fn : FD} {io : List Nat} {cs : List CM} {fs : List EF} {s s1 s2 s3 : DS} {xs : List DV} {m n : Nat} {d : D} (h : evA fs s = .ok xs s1) (c : (xs.all isPlain && !s1.lk.contains s1.sl.length) = true)
    (hc : callG fn io cs (.ok (.plc s1.sl.length [] (.obj Cn []) :: xs ++ ([] : List D).map (.dat 0)) ⟨s1.sl ++ [some (.dat 1000 (.obj Cn []))], s1.lk.take (xs.filterMap DV.root?).length ++ s1.sl.length :: s1.lk.drop (xs.filterMap DV.root?).length⟩) = .ok (.dat m .non) s2)
    (h2 : s2.lk.contains s1.sl.length = false) (h3 : s2.sl[s1.sl.length]? = some (some (.dat n d))) (h4 : lastS s2 s1.sl.length = s3) : eMake Cn fn io cs [] fs s = .ok (.dat n d) s3 := by
  unfold eMake
  rw [h]
  simp only [c, if_true]
  unfold withD
  rw [hc]
  simp only [h2, h3, h4]
  rfl
abbrev GD (k1 k2 : Nat) (f1 f2 : Nat → Nat → Nat) (c1 c2 : Bool) : D := .lst [GO (ord k1) f1 (inv (ord k1) f1) c1, GO (ord k2) f2 (inv (ord k2) f2) c2]
theorem group_ok1 {ns xs : List Int} {k1 k2 : Nat} {f1 f2 : Nat → Nat → Nat} {i m : Nat} {f : Nat → Nat → Nat} (G : Gp m f) (hi : getAt (TD k1 k2 f1 f2) [i] = some (.lst (RLs m f))) :
    ∃ c, eMake "Group" fD_Group_init [0] [CM.io, CM.gv] [] [(eEsc (eLc [11] (iSeq (eVar 10)) (tName 11) tTrue (eCall gList [(eVar 11)])))] (w_st ns xs (some (KD k1 k2)) (some (.dat 1000 (TD k1 k2 f1 f2))) none none none none none (some (.als 3 [i])) [3]) = .ok (.dat 1 (GO m f (inv m f) c)) (w_st ns xs (some (KD k1 k2)) (some (.dat 1000 (TD k1 k2 f1 f2))) none none none none none (some (.als 3 [i])) [3]) := by
  obtain ⟨c, e⟩ := init_ok G
  exact ⟨c, make_e (eva_c (copy_ok G.le hi) (eva_nil _)) rfl (callG_e (s2 := ⟨[some (.brw (NL ns)), some (.dat 1 (NL xs)), some (KD k1 k2), some (.dat 1000 (TD k1 k2 f1 f2)), none, none, none, none, none, none, some (.als 3 [i]), none, some (.dat 1 (GO m f (inv m f) c))], [3]⟩) rfl rfl e rfl) rfl rfl rfl⟩
theorem groups_ok {ns xs : List Int} {k1 k2 : Nat} {f1 f2 : Nat → Nat → Nat} (t1 : Tb k1 f1) (t2 : Tb k2 f2) :
    ∃ c1 c2, eLc [10] (iSeq (eVar 3)) (tName 10) tTrue (eMake "Group" fD_Group_init [0] [CM.io, CM.gv] [] [(eEsc (eLc [11] (iSeq (eVar 10)) (tName 11) tTrue (eCall gList [(eVar 11)])))]) (w_st ns xs (some (KD k1 k2)) (some (.dat 1000 (TD k1 k2 f1 f2))) none none none none none none []) = .ok (.dat 2 (GD k1 k2 f1 f2 c1 c2)) (w_st ns xs (some (KD k1 k2)) (some (.dat 1000 (TD k1 k2 f1 f2))) none none none none none none []) := by
  obtain ⟨c1, e1⟩ := group_ok1 (ns := ns) (xs := xs) (k1 := k1) (k2 := k2) (f1 := f1) (f2 := f2) (i := 0) t1.G rfl
  obtain ⟨c2, e2⟩ := group_ok1 (ns := ns) (xs := xs) (k1 := k1) (k2 := k2) (f1 := f1) (f2 := f2) (i := 1) t2.G rfl
  exact ⟨c1, c2, lc_two (it := iSeq (eVar 3)) (x := .plc 3 [] (TD k1 k2 f1 f2)) (itm := sqItm (.plc 3 [] (TD k1 k2 f1 f2)) [.lst (RLs (ord k1) f1), .lst (RLs (ord k2) f2)]) (s := w_st ns xs (some (KD k1 k2)) (some (.dat 1000 (TD k1 k2 f1 f2))) none none none none none none []) (s0 := w_st ns xs (some (KD k1 k2)) (some (.dat 1000 (TD k1 k2 f1 f2))) none none none none none none [3]) (s2 := w_st ns xs (some (KD k1 k2)) (some (.dat 1000 (TD k1 k2 f1 f2))) none none none none none none [3]) (b1 := w_st ns xs (some (KD k1 k2)) (some (.dat 1000 (TD k1 k2 f1 f2))) none none none none none (some (.als 3 [0])) [3]) (e1 := w_st ns xs (some (KD k1 k2)) (some (.dat 1000 (TD k1 k2 f1 f2))) none none none none none none [3]) (b2 := w_st ns xs (some (KD k1 k2)) (some (.dat 1000 (TD k1 k2 f1 f2))) none none none none none (some (.als 3 [1])) [3]) (e2 := w_st ns xs (some (KD k1 k2)) (some (.dat 1000 (TD k1 k2 f1 f2))) none none none none none none [3]) rfl rfl rfl rfl rfl (mv_e e1) rfl rfl rfl (mv_e e2) rfl⟩
end K12

set_option Elab.async false
set_option linter.all false
set_option maxRecDepth 10000
namespace K12
open DL PySem L2
abbrev v_st (ns xs : List Int) (k1 k2 : Nat) (f1 f2 : Nat → Nat → Nat) (c1 c2 : Bool) (ps : List Nat) (z6 z7 : Option Int) (lk : List Nat) : DS := ⟨[some (.brw (NL ns)), some (.dat 1 (NL xs)), some (KD k1 k2), some (.dat 1000 (TD k1 k2 f1 f2)), some (.dat 2 (GD k1 k2 f1 f2 c1 c2)), some (.dat 1 (.lst (xD ps))), sI z6, sI z7, none, none, none, none], lk⟩
theorem tru_e {f : EF} {s s1 : DS} {n : Nat} {b : Bool} (h : f s = .ok (.dat n (.bl b)) s1) : tTru f s = .ok b s1 := by unfold tTru; rw [h]; rfl
theorem and_v {a b : EF} {s s1 : DS} {n : Nat} (h : a s = .ok (.dat n (.bl true)) s1) : eAnd a b s = b s1 := by unfold eAnd; rw [h]
abbrev v_fit : SF := (sIf (tNotF (tTru (eCallF fD_law_group_fits [] [CM.bw, CM.bw, CM.bw, CM.bw] [] [(eBin gIx (eVar 4) (eVar 6)), (eBin gIx (eVar 3) (eVar 6)), (eBin gIx (eVar 2) (eVar 6)), (eVar 5)]))) (sRet (eCon (.bl false))) sSkip)
abbrev v_ref : SF := (sIf (tNotF (tTru (eCallF fD_law_refused [] [CM.bw, CM.bw] [] [(eBin gIx (eVar 4) (eVar 6)), (eBin dSub (eCon (.int 0)) (eBin gIx (eDisp false [(eCon (.int 1)), (eCon (.int 2)), (eEsc (eBin dAdd (eCon (.int 1)) (eCallF fD_law_take [0] [CM.io, CM.bw] [] [(eVar 1), (eCon (.int 100))])))]) (eVar 7)))]))) (sRet (eCon (.bl false))) sSkip)
section
variable {ns xs : List Int} {k1 k2 : Nat} {f1 f2 : Nat → Nat → Nat} {c1 c2 : Bool} {ps : List Nat}
theorem v_fit_ok (t1 : Tb k1 f1) (t2 : Tb k2 f2) (hps : ∀ p ∈ ps, p ≤ 100) {j : Nat} (hj : j < 2) (z7 : Option Int) : v_fit (v_st ns xs k1 k2 f1 f2 c1 c2 ps (some j) z7 []) = .nx (v_st ns xs k1 k2 f1 f2 c1 c2 ps (some j) z7 []) := by
  match j, hj with
  | 0, _ =>
    have c := callF_e (fn := fD_law_group_fits) (io := []) (cs := [CM.bw, CM.bw, CM.bw, CM.bw]) (ds := []) (fs := [(eBin gIx (eVar 4) (eVar 6)), (eBin gIx (eVar 3) (eVar 6)), (eBin gIx (eVar 2) (eVar 6)), (eVar 5)]) (s := v_st ns xs k1 k2 f1 f2 c1 c2 ps (some (0 : Nat)) z7 []) (s2 := v_st ns xs k1 k2 f1 f2 c1 c2 ps (some (0 : Nat)) z7 []) (xs := [.plc 4 [0] (GO (ord k1) f1 (inv (ord k1) f1) c1), .plc 3 [0] (.lst (RLs (ord k1) f1)), .dat 0 (.int k1), .plc 5 [] (.lst (xD ps))]) rfl rfl rfl (fits_ok (c := c1) t1.hk t1.G t1.T hps) rfl
    exact Eq.trans (if_f (not_t (tru_e c))) rfl
  | 1, _ =>
    have c := callF_e (fn := fD_law_group_fits) (io := []) (cs := [CM.bw, CM.bw, CM.bw, CM.bw]) (ds := []) (fs := [(eBin gIx (eVar 4) (eVar 6)), (eBin gIx (eVar 3) (eVar 6)), (eBin gIx (eVar 2) (eVar 6)), (eVar 5)]) (s := v_st ns xs k1 k2 f1 f2 c1 c2 ps (some (1 : Nat)) z7 []) (s2 := v_st ns xs k1 k2 f1 f2 c1 c2 ps (some (1 : Nat)) z7 []) (xs := [.plc 4 [1] (GO (ord k2) f2 (inv (ord k2) f2) c2), .plc 3 [1] (.lst (RLs (ord k2) f2)), .dat 0 (.int k2), .plc 5 [] (.lst (xD ps))]) rfl rfl rfl (fits_ok (c := c2) t2.hk t2.G t2.T hps) rfl
    exact Eq.trans (if_f (not_t (tru_e c))) rfl
/-- the group at place j, lent -/
theorem v_at {j i : Nat} (hj : j < 2) {lk : List Nat} : ∃ m f c, eBin gIx (eVar 4) (eVar 6) (v_st ns xs k1 k2 f1 f2 c1 c2 ps (some j) (some i) lk) = .ok (.plc 4 [j] (GO m f (inv m f) c)) (v_st ns xs k1 k2 f1 f2 c1 c2 ps (some j) (some i) (4 :: lk)) := by
  match j, hj with
  | 0, _ => exact ⟨ord k1, f1, c1, rfl⟩
  | 1, _ => exact ⟨ord k2, f2, c2, rfl⟩
theorem v_ref_ok {j i : Nat} (hj : j < 2) (hi : i < 3) : ∃ ys, v_ref (v_st ns xs k1 k2 f1 f2 c1 c2 ps (some j) (some i) []) = .nx (v_st ns ys k1 k2 f1 f2 c1 c2 ps (some j) (some i) []) := by
  obtain ⟨v, ys, et, hv⟩ := take_ok (n := 0) (show 0 < 100 by omega) xs
  obtain ⟨m, f, c, e4⟩ := v_at (ns := ns) (xs := xs) (k1 := k1) (k2 := k2) (f1 := f1) (f2 := f2) (c1 := c1) (c2 := c2) (ps := ps) (i := i) hj (lk := [])
  have ct := callF_e (fn := fD_law_take) (io := [0]) (cs := [CM.io, CM.bw]) (ds := []) (fs := [(eVar 1), (eCon (.int 100))]) (s := v_st ns xs k1 k2 f1 f2 c1 c2 ps (some j) (some i) [4]) (s2 := v_st ns ys k1 k2 f1 f2 c1 c2 ps (some j) (some i) [4]) (eva_c rfl (eva_c rfl (eva_nil _))) rfl rfl et rfl
  have ed : eDisp false [(eCon (.int 1)), (eCon (.int 2)), (eEsc (eBin dAdd (eCon (.int 1)) (eCallF fD_law_take [0] [CM.io, CM.bw] [] [(eVar 1), (eCon (.int 100))])))] (v_st ns xs k1 k2 f1 f2 c1 c2 ps (some j) (some i) [4]) = .ok (.dat 1 (.lst [.int (1 : Nat), .int (2 : Nat), .int ((1 + v : Nat) : Int)])) (v_st ns ys k1 k2 f1 f2 c1 c2 ps (some j) (some i) [4]) := by
    have ea : evA [(eCon (.int 1)), (eCon (.int 2)), (eEsc (eBin dAdd (eCon (.int 1)) (eCallF fD_law_take [0] [CM.io, CM.bw] [] [(eVar 1), (eCon (.int 100))])))] (v_st ns xs k1 k2 f1 f2 c1 c2 ps (some j) (some i) [4]) = .ok [.dat 0 (.int (1 : Nat)), .dat 0 (.int (2 : Nat)), .dat 0 (.int ((1 + v : Nat) : Int))] (v_st ns ys k1 k2 f1 f2 c1 c2 ps (some j) (some i) [4]) := eva_c rfl (eva_c rfl (eva_c (esc_d (bin_e rfl ct (by rw [Int.natCast_add]; rfl))) (eva_nil _)))
    unfold eDisp
    rw [ea]
    rfl
  obtain ⟨w, hw, eg⟩ : ∃ w : Nat, 1 ≤ w ∧ [D.int (1 : Nat), .int (2 : Nat), .int ((1 + v : Nat) : Int)][i]? = some (.int (w : Int)) := by
    match i, hi with
    | 0, _ => exact ⟨1, by omega, rfl⟩
    | 1, _ => exact ⟨2, by omega, rfl⟩
    | 2, _ => exact ⟨1 + v, by omega, rfl⟩
  have es : eBin dSub (eCon (.int 0)) (eBin gIx (eDisp false [(eCon (.int 1)), (eCon (.int 2)), (eEsc (eBin dAdd (eCon (.int 1)) (eCallF fD_law_take [0] [CM.io, CM.bw] [] [(eVar 1), (eCon (.int 100))])))]) (eVar 7)) (v_st ns xs k1 k2 f1 f2 c1 c2 ps (some j) (some i) [4]) = .ok (.dat 0 (.int (0 - (w : Int)))) (v_st ns ys k1 k2 f1 f2 c1 c2 ps (some j) (some i) [4]) := bin_e rfl (bin_e ed rfl (ix_dat rfl eg)) rfl
  have cr := callF_e (s1 := v_st ns ys k1 k2 f1 f2 c1 c2 ps (some j) (some i) [4]) (fn := fD_law_refused) (io := []) (cs := [CM.bw, CM.bw]) (ds := []) (s := v_st ns xs k1 k2 f1 f2 c1 c2 ps (some j) (some i) []) (s2 := v_st ns ys k1 k2 f1 f2 c1 c2 ps (some j) (some i) []) (xs := [.plc 4 [j] (GO m f (inv m f) c), .dat 0 (.int (0 - (w : Int)))]) (eva_c e4 (eva_c es (eva_nil _))) rfl rfl (refused_ok (p := 0 - (w : Int)) (by omega)) rfl
  exact ⟨ys, Eq.trans (if_f (not_t (tru_e cr))) rfl⟩
theorem v_loop (t1 : Tb k1 f1) (t2 : Tb k2 f2) (hps : ∀ p ∈ ps, p ≤ 100) : ∃ ys z6 z7, sFor (iRng [(eCon (.int 2))]) (tName 6) (sSeq v_fit (sFor (iRng [(eCon (.int 3))]) (tName 7) v_ref)) (v_st ns xs k1 k2 f1 f2 c1 c2 ps none none []) = .nx (v_st ns ys k1 k2 f1 f2 c1 c2 ps z6 z7 []) := by
  obtain ⟨s', e, ys, z6, z7, rfl⟩ := for_rng (fs := [(eCon (.int 2))]) (t := 6) (m := 2) (body := sSeq v_fit (sFor (iRng [(eCon (.int 3))]) (tName 7) v_ref)) (s := v_st ns xs k1 k2 f1 f2 c1 c2 ps none none []) (fun _ s => ∃ ys z6 z7, s = v_st ns ys k1 k2 f1 f2 c1 c2 ps z6 z7 []) rfl (by omega) ⟨xs, none, none, rfl⟩ (by
    rintro j s hj ⟨ys, z6, z7, rfl⟩
    obtain ⟨s2, e2, zs, y7, rfl⟩ := for_rng (fs := [(eCon (.int 3))]) (t := 7) (m := 3) (body := v_ref) (s := v_st ns ys k1 k2 f1 f2 c1 c2 ps (some j) z7 []) (fun _ s => ∃ zs y7, s = v_st ns zs k1 k2 f1 f2 c1 c2 ps (some j) y7 []) rfl (by omega) ⟨ys, z7, rfl⟩ (by
      rintro i s hi ⟨zs, y7, rfl⟩
      obtain ⟨us, e⟩ := v_ref_ok (ns := ns) (xs := zs) (k1 := k1) (k2 := k2) (f1 := f1) (f2 := f2) (c1 := c1) (c2 := c2) (ps := ps) hj hi
      refine ⟨rfl, _, .inl ?_, us, some i, rfl⟩
      rw [show DS.mk (putS (v_st ns zs k1 k2 f1 f2 c1 c2 ps (some j) y7 []).sl 7 (.dat 0 (.int (i : Nat)))) (v_st ns zs k1 k2 f1 f2 c1 c2 ps (some j) y7 []).lk = v_st ns zs k1 k2 f1 f2 c1 c2 ps (some j) (some i) [] by cases y7 <;> rfl]
      exact e)
    refine ⟨rfl, _, .inl ?_, zs, some j, y7, rfl⟩
    rw [show DS.mk (putS (v_st ns ys k1 k2 f1 f2 c1 c2 ps z6 z7 []).sl 6 (.dat 0 (.int (j : Nat)))) (v_st ns ys k1 k2 f1 f2 c1 c2 ps z6 z7 []).lk = v_st ns ys k1 k2 f1 f2 c1 c2 ps (some j) z7 [] by cases z6 <;> cases z7 <;> rfl]
    exact Eq.trans (seq_nx (v_fit_ok t1 t2 hps hj z7)) e2)
  exact ⟨ys, z6, z7, e⟩
end
theorem TT_one {m : Nat} {f : Nat → Nat → Nat} (G : Gp m f) : TT m f 1 0 = cnt m f 0 := by
  show (sumR m fun a => sumR m fun b => if f a b = 0 then TT m f 0 a * cnt m f b else 0) = _
  rw [sumR_one (c := 0) G.pos, sumR_one (c := 0) G.pos, G.ul 0 G.pos, if_pos rfl]
  · show 1 * _ = _
    rw [Nat.one_mul]
  · intro b hb nb
    rw [G.ul b hb, if_neg nb]
  · intro a ha na
    refine sumR_zero fun b _ => ?_
    show (if f a b = 0 then (if a = 0 then 1 else 0) * cnt m f b else 0) = 0
    rw [if_neg na, Nat.zero_mul]
    split <;> rfl
abbrev v_end (ns xs : List Int) (k1 k2 : Nat) (f1 f2 : Nat → Nat → Nat) (c1 c2 : Bool) (ps : List Nat) (z6 z7 : Option Int) (lk : List Nat) : DS := ⟨[some (.brw (NL ns)), some (.dat 1 (NL xs)), some (KD k1 k2), some (.dat 1000 (TD k1 k2 f1 f2)), some (.dat 2 (GD k1 k2 f1 f2 c1 c2)), some (.dat 1 (.lst (xD ps))), sI z6, sI z7, some (.dat 1000 (.lst (NS (ord k1) (cnt (ord k1) f1)))), none, none, none], lk⟩
theorem v_last {ns xs : List Int} {k1 k2 : Nat} {f1 f2 : Nat → Nat → Nat} {c1 c2 : Bool} {ps : List Nat} (t1 : Tb k1 f1) (z6 z7 : Option Int) :
    sSeq (sAsg 8 (eCallF fD_law_due_counts [] [CM.bw] [] [(eBin gIx (eVar 3) (eCon (.int 0)))])) (sRet (eAnd (eCallF (fD_law_alike 9) [] [CM.bw, CM.bw] [] [(eCallF fD_commutator_counts [] [CM.bw] [] [(eBin gIx (eVar 4) (eCon (.int 0)))]), (eVar 8)]) (eCallF (fD_law_alike 9) [] [CM.bw, CM.bw] [] [(eCallF fD_commutator_rows [] [CM.bw, CM.bw] [] [(eBin gIx (eVar 4) (eCon (.int 0))), (eCon (.int 1))]), (eBin gIx (eVar 8) (eCon (.int 0)))]))) (v_st ns xs k1 k2 f1 f2 c1 c2 ps z6 z7 []) = .rt (.dat 0 (.bl true)) (v_end ns xs k1 k2 f1 f2 c1 c2 ps z6 z7 []) := by
  have G := t1.G
  have d1 := callF_e (fn := fD_law_due_counts) (io := []) (cs := [CM.bw]) (ds := []) (fs := [(eBin gIx (eVar 3) (eCon (.int 0)))]) (s := v_st ns xs k1 k2 f1 f2 c1 c2 ps z6 z7 []) (s2 := v_st ns xs k1 k2 f1 f2 c1 c2 ps z6 z7 []) (xs := [.plc 3 [0] (.lst (RLs (ord k1) f1))]) rfl rfl rfl (due_counts_ok G) rfl
  have d2 := callF_e (fn := fD_commutator_counts) (io := []) (cs := [CM.bw]) (ds := []) (fs := [(eBin gIx (eVar 4) (eCon (.int 0)))]) (s := v_end ns xs k1 k2 f1 f2 c1 c2 ps z6 z7 []) (s2 := v_end ns xs k1 k2 f1 f2 c1 c2 ps z6 z7 []) (xs := [.plc 4 [0] (GO (ord k1) f1 (inv (ord k1) f1) c1)]) rfl rfl rfl (counts_ok G) rfl
  have d3 := callF_e (fn := fD_law_alike 9) (io := []) (cs := [CM.bw, CM.bw]) (ds := []) (s := v_end ns xs k1 k2 f1 f2 c1 c2 ps z6 z7 []) (s2 := v_end ns xs k1 k2 f1 f2 c1 c2 ps z6 z7 []) (eva_c d2 (eva_c (f := eVar 8) rfl (eva_nil _))) rfl rfl (alike_l (n := 7) G.le) rfl
  have d4 := callF_e (fn := fD_commutator_rows) (io := []) (cs := [CM.bw, CM.bw]) (ds := []) (fs := [(eBin gIx (eVar 4) (eCon (.int 0))), (eCon (.int 1))]) (s := v_end ns xs k1 k2 f1 f2 c1 c2 ps z6 z7 []) (s2 := v_end ns xs k1 k2 f1 f2 c1 c2 ps z6 z7 []) (xs := [.plc 4 [0] (GO (ord k1) f1 (inv (ord k1) f1) c1), .dat 0 (.int (1 : Nat))]) rfl rfl rfl (rows_ok G (by omega)) rfl
  have d5 : eBin gIx (eVar 8) (eCon (.int 0)) (v_end ns xs k1 k2 f1 f2 c1 c2 ps z6 z7 []) = .ok (.dat 0 (.int (cnt (ord k1) f1 0 : Nat))) (v_end ns xs k1 k2 f1 f2 c1 c2 ps z6 z7 []) := bin_e (s1 := v_end ns xs k1 k2 f1 f2 c1 c2 ps z6 z7 [8]) (x := .plc 8 [] (.lst (NS (ord k1) (cnt (ord k1) f1)))) rfl rfl (ix_plc (k := 0) rfl (ns_get G.pos))
  have al : fD_law_alike 9 [.dat 0 (.int (TT (ord k1) f1 1 0 : Nat)), .dat 0 (.int (cnt (ord k1) f1 0 : Nat))] = .ok 0 (.bl true) [] := by
    rw [alike_i, TT_one G, decide_eq_true rfl]
  have d6 := callF_e (fn := fD_law_alike 9) (io := []) (cs := [CM.bw, CM.bw]) (ds := []) (s := v_end ns xs k1 k2 f1 f2 c1 c2 ps z6 z7 []) (s2 := v_end ns xs k1 k2 f1 f2 c1 c2 ps z6 z7 []) (eva_c d4 (eva_c d5 (eva_nil _))) rfl rfl al rfl
  refine Eq.trans (seq_nx (s1 := v_end ns xs k1 k2 f1 f2 c1 c2 ps z6 z7 []) (Eq.trans (asg_d d1 rfl) (by cases z6 <;> cases z7 <;> rfl))) (ret_e (Eq.trans (and_v d3) d6))
theorem many_ok {ns xs : List Int} {k1 k2 : Nat} {f1 f2 : Nat → Nat → Nat} {c1 c2 : Bool} : ∃ (v : Nat) (ys : List Int), v < 93 ∧ sAsg 5 (eDisp false [(eCon (.int 0)), (eCon (.int 1)), (eCon (.int 2)), (eCon (.int 3)), (eCon (.int 4)), (eCon (.int 5)), (eCon (.int 6)), (eCon (.int 100)), (eEsc (eBin dAdd (eCon (.int 7)) (eCallF fD_law_take [0] [CM.io, CM.bw] [] [(eVar 1), (eCon (.int 93))])))]) (w_st ns xs (some (KD k1 k2)) (some (.dat 1000 (TD k1 k2 f1 f2))) (some (.dat 2 (GD k1 k2 f1 f2 c1 c2))) none none none none none []) = .nx (v_st ns ys k1 k2 f1 f2 c1 c2 [0, 1, 2, 3, 4, 5, 6, 100, 7 + v] none none []) := by
  obtain ⟨v, ys, et, hv⟩ := take_ok (n := 0) (show 0 < 93 by omega) xs
  refine ⟨v, ys, hv, ?_⟩
  have ct := callF_e (fn := fD_law_take) (io := [0]) (cs := [CM.io, CM.bw]) (ds := []) (fs := [(eVar 1), (eCon (.int 93))]) (s := w_st ns xs (some (KD k1 k2)) (some (.dat 1000 (TD k1 k2 f1 f2))) (some (.dat 2 (GD k1 k2 f1 f2 c1 c2))) none none none none none []) (s2 := w_st ns ys (some (KD k1 k2)) (some (.dat 1000 (TD k1 k2 f1 f2))) (some (.dat 2 (GD k1 k2 f1 f2 c1 c2))) none none none none none []) (eva_c rfl (eva_c rfl (eva_nil _))) rfl rfl et rfl
  have ea : evA [(eCon (.int 0)), (eCon (.int 1)), (eCon (.int 2)), (eCon (.int 3)), (eCon (.int 4)), (eCon (.int 5)), (eCon (.int 6)), (eCon (.int 100)), (eEsc (eBin dAdd (eCon (.int 7)) (eCallF fD_law_take [0] [CM.io, CM.bw] [] [(eVar 1), (eCon (.int 93))])))] (w_st ns xs (some (KD k1 k2)) (some (.dat 1000 (TD k1 k2 f1 f2))) (some (.dat 2 (GD k1 k2 f1 f2 c1 c2))) none none none none none []) = .ok [.dat 0 (.int (0 : Nat)), .dat 0 (.int (1 : Nat)), .dat 0 (.int (2 : Nat)), .dat 0 (.int (3 : Nat)), .dat 0 (.int (4 : Nat)), .dat 0 (.int (5 : Nat)), .dat 0 (.int (6 : Nat)), .dat 0 (.int (100 : Nat)), .dat 0 (.int ((7 + v : Nat) : Int))] (w_st ns ys (some (KD k1 k2)) (some (.dat 1000 (TD k1 k2 f1 f2))) (some (.dat 2 (GD k1 k2 f1 f2 c1 c2))) none none none none none []) :=
    eva_c rfl (eva_c rfl (eva_c rfl (eva_c rfl (eva_c rfl (eva_c rfl (eva_c rfl (eva_c rfl (eva_c (esc_d (bin_e rfl ct (by rw [Int.natCast_add]; rfl))) (eva_nil _)))))))))
  have ed : eDisp false [(eCon (.int 0)), (eCon (.int 1)), (eCon (.int 2)), (eCon (.int 3)), (eCon (.int 4)), (eCon (.int 5)), (eCon (.int 6)), (eCon (.int 100)), (eEsc (eBin dAdd (eCon (.int 7)) (eCallF fD_law_take [0] [CM.io, CM.bw] [] [(eVar 1), (eCon (.int 93))])))] (w_st ns xs (some (KD k1 k2)) (some (.dat 1000 (TD k1 k2 f1 f2))) (some (.dat 2 (GD k1 k2 f1 f2 c1 c2))) none none none none none []) = .ok (.dat 1 (.lst (xD [0, 1, 2, 3, 4, 5, 6, 100, 7 + v]))) (w_st ns ys (some (KD k1 k2)) (some (.dat 1000 (TD k1 k2 f1 f2))) (some (.dat 2 (GD k1 k2 f1 f2 c1 c2))) none none none none none []) := by
    unfold eDisp
    rw [ea]
    rfl
  exact Eq.trans (asg_d ed rfl) rfl
theorem pure_law (ns : List Int) (hn : ns.length ≤ 63) : ∃ n, fD_law [.brw (.lst (ns.map D.int))] = .ok n (.bl true) [] := by
  obtain ⟨xs, e1⟩ := numbers_ok ns hn
  have a1 := callF_e (fn := fD_law_numbers) (io := []) (cs := [CM.bw, CM.bw]) (ds := []) (fs := [(eVar 0), (eCon (.int 100))]) (s := ⟨[some (.brw (NL ns)), none, none, none, none, none, none, none, none, none, none, none], []⟩) (s2 := ⟨[some (.brw (NL ns)), none, none, none, none, none, none, none, none, none, none, none], []⟩) (eva_c rfl (eva_c rfl (eva_nil _))) rfl rfl e1 rfl
  obtain ⟨k1, k2, ys, e2, l1, l2⟩ := kinds_ok ns xs
  obtain ⟨f1, f2, zs, e3, t1, t2⟩ := tables_ok ns ys l1 l2
  obtain ⟨c1, c2, e4⟩ := groups_ok (ns := ns) (xs := zs) t1 t2
  obtain ⟨v, us, hv, e5⟩ := many_ok (ns := ns) (xs := zs) (k1 := k1) (k2 := k2) (f1 := f1) (f2 := f2) (c1 := c1) (c2 := c2)
  have hps : ∀ p ∈ [0, 1, 2, 3, 4, 5, 6, 100, 7 + v], p ≤ 100 := by
    intro p hp
    simp only [List.mem_cons, List.not_mem_nil, or_false] at hp
    omega
  obtain ⟨ws, z6, z7, e6⟩ := v_loop (ns := ns) (xs := us) (c1 := c1) (c2 := c2) t1 t2 hps
  exact ⟨0, fn_e rfl (Eq.trans (seq_nx (s1 := w_st ns xs none none none none none none none none []) (Eq.trans (asg_d a1 rfl) rfl)) (Eq.trans (seq_nx (s1 := w_st ns ys (some (KD k1 k2)) none none none none none none none []) (Eq.trans (asg_d e2 rfl) rfl)) (Eq.trans (seq_nx (s1 := w_st ns zs (some (KD k1 k2)) (some (.dat 1000 (TD k1 k2 f1 f2))) none none none none none none []) (Eq.trans (asg_d e3 rfl) rfl)) (Eq.trans (seq_nx (s1 := w_st ns zs (some (KD k1 k2)) (some (.dat 1000 (TD k1 k2 f1 f2))) (some (.dat 2 (GD k1 k2 f1 f2 c1 c2))) none none none none none []) (Eq.trans (asg_d e4 rfl) rfl)) (Eq.trans (seq_nx e5) (Eq.trans (seq_nx e6) (v_last t1 z6 z7))))))) rfl⟩
end K12

set_option Elab.async false
set_option linter.all false
set_option maxRecDepth 100000
namespace K12
open PySem PySem.Spec PyProof.Rows L2 DL
theorem walk {l : PySem.W.OpenLaw} {q : Program} {loose : List Str} {XP : (Str → Option Value) → Heap → Prop} {YP : World → Heap → Prop} {d : DefRec} {K : Params → PySem.W.Frag} (hn : l.most = some 63) (hdf : d.params.defaults = [])
    (hY : ∀ (w : World) (h : Heap), YP w h → (K w.params).In h)
    (F : ∀ (w : World) (mg : Str → Option Value) (fa : Addr) (h : Heap), (K w.params).In h → h.Ns mainGlobals mg → mg d.name = some (.ref fa) →
      ∃ fd : FuncData, (∀ (s : Shared) (u : Value), BindsTo s fd ⟨[u], []⟩ [("script", u)]) ∧ ∀ base : Heap, (K w.params).In base → base.Ns mainGlobals mg → FnOk l.prog w (K w.params) mg base (L2.CX l.prog w) 12 fa fd ["script"] (spLawD (K w.params))) :
    PySem.W.WalkO q loose XP YP l.row.toRowW d [] (fun f vs => PySem.call f vs) :=
  L2.walk_of (n := 63) (k := 12) (x := "script") (CX := fun w => L2.CX l.prog w) (sp := fun w => spLawD (K w.params)) hn (by decide) hdf ⟨rfl, by decide, by decide⟩ hY F (fun _ _ a ns hl _ hS => ⟨a, ns, rfl, hS, hl, fun _ => rfl⟩) fun w H s e s' => no_exc H s e s'
end K12
open PySem PySem.W PyProof.Rows
set_option maxRecDepth 100000 in
set_option maxHeartbeats 0 in
theorem PySem.Challenge.cw_unlikemerges_k12_commutators_by_degrees_holds : PySem.Challenge.rw_unlikemerges_k12_commutators_by_degrees.Holds := by
  w_on; o_law; k_head; (case hw => w_witness2)
  k_fill
  refine K12.walk (l := PySem.Challenge.rw_unlikemerges_k12_commutators_by_degrees) rfl rfl (fun w h Y => PySem.W.kIn_of Y) ?F
  case F =>
    intro w mg fa h KX G hmg
    refine' K12.all_mk KX G hmg K12.pure_law ?a_Fault ?a_BadMerge ?a_BadGroup ?a_BadNames ?a_BadNumber ?a_Group ?a_is_renaming ?l_is_renaming ?cd2_is_renaming ?kp_is_renaming ?a_check_table ?l_check_table ?cd2_check_table ?kp_check_table ?a_Group_product ?i_Group_product ?l_Group_product ?cd2_Group_product ?kp_Group_product ?a_commutator_counts ?l_commutator_counts ?cd2_commutator_counts ?kp_commutator_counts ?a_commutator_rows ?l_commutator_rows ?cd2_commutator_rows ?kp_commutator_rows ?lT_commutator_rows ?a_is_associative ?l_is_associative ?cd2_is_associative ?kp_is_associative ?a_Group_init ?i_Group_init ?l_Group_init ?cd2_Group_init ?kp_Group_init ?a_law_numbers ?l_law_numbers ?cd2_law_numbers ?kp_law_numbers ?a_law_take ?l_law_take ?cd2_law_take ?kp_law_take ?a_law_shuffled ?l_law_shuffled ?cd2_law_shuffled ?kp_law_shuffled ?a_law_group ?l_law_group ?cd2_law_group ?kp_law_group ?a_law_named ?l_law_named ?cd2_law_named ?kp_law_named ?a_law_power ?l_law_power ?cd2_law_power ?kp_law_power ?a_law_product ?l_law_product ?cd2_law_product ?kp_law_product ?a_law_alike ?l_law_alike ?cd2_law_alike ?kp_law_alike ?a_law_anew ?l_law_anew ?cd2_law_anew ?kp_law_anew ?a_law_drawn_kind ?l_law_drawn_kind ?cd2_law_drawn_kind ?kp_law_drawn_kind ?a_law_degrees ?l_law_degrees ?cd2_law_degrees ?kp_law_degrees ?a_law_due_rows ?l_law_due_rows ?cd2_law_due_rows ?kp_law_due_rows ?a_law_due_counts ?l_law_due_counts ?cd2_law_due_counts ?kp_law_due_counts ?a_law_refused ?l_law_refused ?cd2_law_refused ?kp_law_refused ?a_law_group_fits ?l_law_group_fits ?cd2_law_group_fits ?kp_law_group_fits ?a_law ?l_law ?cd2_law ?kp_law ?pg_Group ?hd_Group ?po_Group ?sa_Group ?mi_Group ?kc_Group ?nf_Group_commutative ?nf_Group_inverses ?nf_Group_order ?nf_Group_rows ?xe_BadGroup ?xk_BadGroup ?xs_BadGroup ?xt_BadGroup ?xe_BadMerge ?xk_BadMerge ?xs_BadMerge ?xt_BadMerge ?xe_BadNumber ?xk_BadNumber ?xs_BadNumber ?xt_BadNumber ?xd_BadNumber ?xx_BadNumber_BadNumber ?xs_Fault ?xt_Fault ?xd_Fault ?xx_BadNumber_Fault ?eg_BadNumber ?ek_BadNumber ?ea_BadNumber ?en ?et ?em_BadNumber ?ik_BadNumber_BadGroup ?ik_BadNumber_BadNames ?ik_BadNumber_Fault ?ik_BadNumber_ValueError ?zb_ValueError ?zb_abs ?zb_bool ?zb_enumerate ?zb_int ?zb_isinstance ?zb_len ?zb_list ?zb_range ?zb_sorted ?zb_tuple ?zv_MOST_ORDER
    (case a_Fault => k_is)
    (case a_BadMerge => k_is)
    (case a_BadGroup => k_is)
    (case a_BadNames => k_is)
    (case a_BadNumber => k_is)
    (case a_Group => k_is)
    (case a_is_renaming => k_is)
    (case l_is_renaming => k_is)
    (case cd2_is_renaming => k_is)
    (case kp_is_renaming => k_is)
    (case a_check_table => k_is)
    (case l_check_table => k_is)
    (case cd2_check_table => k_is)
    (case kp_check_table => k_is)
    (case a_Group_product => k_is)
    (case i_Group_product => k_is)
    (case l_Group_product => k_is)
    (case cd2_Group_product => k_is)
    (case kp_Group_product => k_is)
    (case a_commutator_counts => k_is)
    (case l_commutator_counts => k_is)
    (case cd2_commutator_counts => k_is)
    (case kp_commutator_counts => k_is)
    (case a_commutator_rows => k_is)
    (case l_commutator_rows => k_is)
    (case cd2_commutator_rows => k_is)
    (case kp_commutator_rows => k_is)
    (case lT_commutator_rows => k_is)
    (case a_is_associative => k_is)
    (case l_is_associative => k_is)
    (case cd2_is_associative => k_is)
    (case kp_is_associative => k_is)
    (case a_Group_init => k_is)
    (case i_Group_init => k_is)
    (case l_Group_init => k_is)
    (case cd2_Group_init => k_is)
    (case kp_Group_init => k_is)
    (case a_law_numbers => k_is)
    (case l_law_numbers => k_is)
    (case cd2_law_numbers => k_is)
    (case kp_law_numbers => k_is)
    (case a_law_take => k_is)
    (case l_law_take => k_is)
    (case cd2_law_take => k_is)
    (case kp_law_take => k_is)
    (case a_law_shuffled => k_is)
    (case l_law_shuffled => k_is)
    (case cd2_law_shuffled => k_is)
    (case kp_law_shuffled => k_is)
    (case a_law_group => k_is)
    (case l_law_group => k_is)
    (case cd2_law_group => k_is)
    (case kp_law_group => k_is)
    (case a_law_named => k_is)
    (case l_law_named => k_is)
    (case cd2_law_named => k_is)
    (case kp_law_named => k_is)
    (case a_law_power => k_is)
    (case l_law_power => k_is)
    (case cd2_law_power => k_is)
    (case kp_law_power => k_is)
    (case a_law_product => k_is)
    (case l_law_product => k_is)
    (case cd2_law_product => k_is)
    (case kp_law_product => k_is)
    (case a_law_alike => k_is)
    (case l_law_alike => k_is)
    (case cd2_law_alike => k_is)
    (case kp_law_alike => k_is)
    (case a_law_anew => k_is)
    (case l_law_anew => k_is)
    (case cd2_law_anew => k_is)
    (case kp_law_anew => k_is)
    (case a_law_drawn_kind => k_is)
    (case l_law_drawn_kind => k_is)
    (case cd2_law_drawn_kind => k_is)
    (case kp_law_drawn_kind => k_is)
    (case a_law_degrees => k_is)
    (case l_law_degrees => k_is)
    (case cd2_law_degrees => k_is)
    (case kp_law_degrees => k_is)
    (case a_law_due_rows => k_is)
    (case l_law_due_rows => k_is)
    (case cd2_law_due_rows => k_is)
    (case kp_law_due_rows => k_is)
    (case a_law_due_counts => k_is)
    (case l_law_due_counts => k_is)
    (case cd2_law_due_counts => k_is)
    (case kp_law_due_counts => k_is)
    (case a_law_refused => k_is)
    (case l_law_refused => k_is)
    (case cd2_law_refused => k_is)
    (case kp_law_refused => k_is)
    (case a_law_group_fits => k_is)
    (case l_law_group_fits => k_is)
    (case cd2_law_group_fits => k_is)
    (case kp_law_group_fits => k_is)
    (case a_law => k_is)
    (case l_law => k_is)
    (case cd2_law => k_is)
    (case kp_law => k_is)
    (case pg_Group => k_is)
    (case hd_Group => k_is)
    (case po_Group => k_is)
    (case sa_Group => k_is)
    (case mi_Group => k_is)
    (case kc_Group => k_is)
    (case nf_Group_commutative => k_is)
    (case nf_Group_inverses => k_is)
    (case nf_Group_order => k_is)
    (case nf_Group_rows => k_is)
    (case xe_BadGroup => k_exc)
    (case xk_BadGroup => k_is)
    (case xs_BadGroup => k_is)
    (case xt_BadGroup => k_is)
    (case xe_BadMerge => k_exc)
    (case xk_BadMerge => k_is)
    (case xs_BadMerge => k_is)
    (case xt_BadMerge => k_is)
    (case xe_BadNumber => k_exc)
    (case xk_BadNumber => k_is)
    (case xs_BadNumber => k_is)
    (case xt_BadNumber => k_is)
    (case xd_BadNumber => k_is)
    (case xx_BadNumber_BadNumber => first | rfl | k_is)
    (case xs_Fault => k_is)
    (case xt_Fault => k_is)
    (case xd_Fault => k_is)
    (case xx_BadNumber_Fault => first | rfl | k_is)
    (case eg_BadNumber => k_is)
    (case ek_BadNumber => k_is)
    (case ea_BadNumber => k_is)
    (case en => first | rfl | k_is)
    (case et => first | rfl | k_is)
    (case em_BadNumber => k_is)
    (case ik_BadNumber_BadGroup => first | rfl | k_is)
    (case ik_BadNumber_BadNames => first | rfl | k_is)
    (case ik_BadNumber_Fault => first | rfl | k_is)
    (case ik_BadNumber_ValueError => first | rfl | k_is)
    (case zb_ValueError => k_is)
    (case zb_abs => k_is)
    (case zb_bool => k_is)
    (case zb_enumerate => k_is)
    (case zb_int => k_is)
    (case zb_isinstance => k_is)
    (case zb_len => k_is)
    (case zb_list => k_is)
    (case zb_range => k_is)
    (case zb_sorted => k_is)
    (case zb_tuple => k_is)
    (case zv_MOST_ORDER => k_is)
