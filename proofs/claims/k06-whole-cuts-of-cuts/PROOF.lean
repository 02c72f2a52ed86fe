import PyProof.Rows.All
import Wide.All
import OpenK.AllK
import Wide.FinOn
import HandS.ForMost
import HandS.ForExc
import HandS.TupAny
import HandS.EndBits
import HandS.HeadEnd
import HandS.ExcOwn
import HandS.Deep
import HandS.IsInst
import HandS.Style
import HandS.SortInts
import HandS.Conv
import KE.KDictZip
import HandS.ListItems
import HandS.HeadHook2
import HandS.SetFor
import KE.KSortTupUse
import KE.GoesMore
import HandS.DictTup
import HandS.Rev
import HandS.NoneIn
import HandS.TupLe
import HandS.Replace
import HandS.Zip
import HandS.More
import PyProof.DictUpdate
import KE.SortData
import KE.DataMinMax
import KE.DataCmp
import PyProof.ReprRoads
import HandS.Wide
import PyProof.ListStr
import PyProof.StrOps2
import KE.KDictPairs
import KE.DataFind
import KE.GoesEnum
import PyProof.Rows.StrRev
import HandS.ExcValue
import HandS.Head0
import HandS.Head1
import HandS.Head2
import PySem.Challenge.RW_commonweb_k06_whole_cuts_of_cuts
set_option Elab.async false
set_option linter.all false
set_option maxRecDepth 100000
namespace L3
open PySem PySem.Spec L2
open PyProof.Rows hiding St
/-- a dict's key -/
inductive KD where
  | non | int (i : Int) | str (x : Str) | tup (ks : List KD)
/-- how a dict stands: for good, owned, owned while it is walked -/
inductive Md where
  | fr | ow | lk
/-- its keys: ints and texts, or tuples of these -/
inductive Kd where
  | k | t
/-- data: a tree. m: owned (it may be changed, nobody else has it), else it stands for good -/
inductive D where
  | non | bl (b : Bool) | int (i : Int) | str (x : Str)
  | tup (xs : List D) | lst (m : Bool) (xs : List D) | dic (m : Md) (t : Kd) (kvs : List (KD × D)) | ins (C : Str) (fs : List (Str × D)) | scr (xs : List Int) | gone
mutual
def frz : D → D
  | .tup xs => .tup (frzs xs)
  | .lst _ xs => .lst false (frzs xs)
  | .dic .lk _ _ => .gone
  | .dic .fr t kvs => .dic .fr t (frzk kvs)
  | .dic .ow t kvs => .dic .fr t (frzk kvs)
  | .ins _ _ => .gone
  | .non => .non
  | .bl b => .bl b
  | .int i => .int i
  | .str x => .str x
  | .scr x => .scr x
  | .gone => .gone
def frzs : List D → List D
  | [] => []
  | x :: xs => frz x :: frzs xs
def frzk : List (KD × D) → List (KD × D)
  | [] => []
  | (k, x) :: xs => (k, frz x) :: frzk xs
end
mutual
def fz : D → Bool
  | .tup xs => fzs xs
  | .lst m xs => !m && fzs xs
  | .dic .fr _ kvs => fzk kvs
  | .dic _ _ _ => false
  | .ins _ _ => false
  | .non => true
  | .bl b => true
  | .int i => true
  | .str x => true
  | .scr x => true
  | .gone => true
def fzs : List D → Bool
  | [] => true
  | x :: xs => fz x && fzs xs
def fzk : List (KD × D) → Bool
  | [] => true
  | (_, x) :: xs => fz x && fzk xs
end
abbrev FP := Addr → Nat
def fp0 : FP := fun _ => 0
def fp1 (p : Addr) : FP := fun a => if a = p then 1 else 0
def fpA (A B : FP) : FP := fun a => A a + B a
def kdKey : KD → Option Key
  | .int i => some (.inl i)
  | .str x => some (.inr x)
  | _ => none
def keyKD : Key → KD
  | .inl i => .int i
  | .inr x => .str x
/-- a dict object that holds these -/
def DicO (t : Kd) (o : HO) (kvs : List (KD × V)) : Prop := (kvs.map (·.1)).Nodup ∧ match t with
  | .k => ∃ l : List (Key × V), o = .dK l ∧ kvs = l.map fun p => (keyKD p.1, p.2)
  | .t => ∃ l : List (List Key × V), o = .dT l ∧ kvs = l.map fun p => (KD.tup (p.1.map keyKD), p.2)
/-- the class that the module's name C holds -/
def ClsN (K : PySem.W.Frag) (C : Str) (c : Addr) : Prop := PySem.W.nsIn K mainGlobals C = some (some (.ref c))
mutual
def Rep (K : PySem.W.Frag) (F H : Hp) : D → V → FP → Prop
  | .non, v, A => v = .non ∧ A = fp0
  | .bl b, v, A => v = .bl b ∧ A = fp0
  | .int i, v, A => v = .int i ∧ A = fp0
  | .str x, v, A => v = .str x ∧ A = fp0
  | .tup xs, v, A => ∃ p vs, v = .ref p ∧ F p = some (.tup vs) ∧ Reps K F H xs vs A
  | .lst false xs, v, A => ∃ p vs, v = .ref p ∧ F p = some (.lst vs) ∧ Reps K F H xs vs A
  | .lst true xs, v, A => ∃ p vs B, v = .ref p ∧ H p = some (.lst vs) ∧ Reps K F H xs vs B ∧ A = fpA B (fp1 p)
  | .dic .fr t kvs, v, A => ∃ p o vs, v = .ref p ∧ Rd F p o ∧ DicO t o vs ∧ Repk K F H kvs vs A
  | .dic .lk t kvs, v, A => ∃ p od o vs B, v = .ref p ∧ H p = some (.frz od o) ∧ DicO t o vs ∧ Repk K F H kvs vs B ∧ A = fpA B (fp1 p)
  | .dic .ow t kvs, v, A => ∃ p o vs B, v = .ref p ∧ H p = some o ∧ DicO t o vs ∧ Repk K F H kvs vs B ∧ A = fpA B (fp1 p)
  | .ins C fs, v, A => ∃ c p dx vs B, ClsN K C c ∧ v = .ref p ∧ H p = some (.ins c dx vs) ∧ H dx = some (.own p) ∧ dx ≠ p ∧ Repf K F H fs vs B ∧ A = fpA B (fpA (fp1 p) (fp1 dx))
  | .scr xs, v, A => ∃ p, v = .ref p ∧ SqL K F p (xs.map V.int) ∧ A = fp0
  | .gone, v, A => A = fp0
def Reps (K : PySem.W.Frag) (F H : Hp) : List D → List V → FP → Prop
  | [], vs, A => vs = [] ∧ A = fp0
  | x :: xs, vs, A => ∃ v vr B C, vs = v :: vr ∧ Rep K F H x v B ∧ Reps K F H xs vr C ∧ A = fpA B C
def Repk (K : PySem.W.Frag) (F H : Hp) : List (KD × D) → List (KD × V) → FP → Prop
  | [], vs, A => vs = [] ∧ A = fp0
  | (k, x) :: xs, vs, A => ∃ v vr B C, vs = (k, v) :: vr ∧ Rep K F H x v B ∧ Repk K F H xs vr C ∧ A = fpA B C
def Repf (K : PySem.W.Frag) (F H : Hp) : List (Str × D) → List (Str × V) → FP → Prop
  | [], vs, A => vs = [] ∧ A = fp0
  | (k, x) :: xs, vs, A => ∃ v vr B C, vs = (k, v) :: vr ∧ Rep K F H x v B ∧ Repf K F H xs vr C ∧ A = fpA B C
end
theorem fpA_ne {A B : FP} {a : Addr} : fpA A B a ≠ 0 ↔ A a ≠ 0 ∨ B a ≠ 0 := by
  unfold fpA; omega
theorem fpA_l {A B : FP} {a : Addr} (h : A a ≠ 0) : fpA A B a ≠ 0 := by unfold fpA; omega
theorem fpA_r {A B : FP} {a : Addr} (h : B a ≠ 0) : fpA A B a ≠ 0 := by unfold fpA; omega
theorem fpA_0l {A : FP} : fpA fp0 A = A := by funext a; simp [fpA, fp0]
theorem fpA_0r {A : FP} : fpA A fp0 = A := by funext a; simp [fpA, fp0]
theorem fpA_comm {A B : FP} : fpA A B = fpA B A := by funext a; simp [fpA]; omega
theorem fpA_assoc {A B C : FP} : fpA (fpA A B) C = fpA A (fpA B C) := by funext a; simp [fpA]; omega
theorem fp1_self (p : Addr) : fp1 p p ≠ 0 := by simp [fp1]
theorem fp1_ne {p a : Addr} : fp1 p a ≠ 0 ↔ a = p := by unfold fp1; split <;> simp_all
def NoTup : HO → Prop
  | .tup _ => False
  | _ => True
theorem DicO.noTup {t : Kd} {o : HO} {kvs} (h : DicO t o kvs) : NoTup o := by
  cases t <;> obtain ⟨_, l, rfl, _⟩ := h <;> trivial
theorem rd_same {F F' : Hp} {p : Addr} {o : HO} (s : Same F F') (h : Rd F p o) : Rd F' p o := by
  rcases h with h | ⟨u, h⟩
  · exact .inl (s _ _ h)
  · exact .inr ⟨u, s _ _ h⟩
theorem sqT_same {K : PySem.W.Frag} {H H' : Hp} {a : Addr} {xs : List V} (e : Same H H') (h : SqT K H a xs) : SqT K H' a xs := by
  rcases h with (h | ⟨o, h⟩) | h
  · exact .inl (.inl (e _ _ h))
  · exact .inl (.inr ⟨o, e _ _ h⟩)
  · exact .inr h
section
variable {K : PySem.W.Frag} {F F' H H' : Hp}
mutual
theorem rep_mono (s : Same F F') : ∀ (d : D) {v : V} {A : FP}, (∀ a, A a ≠ 0 → H' a = H a) → Rep K F H d v A → Rep K F' H' d v A
  | .non, _, _, _, r => r
  | .bl _, _, _, _, r => r
  | .int _, _, _, _, r => r
  | .str _, _, _, _, r => r
  | .gone, _, _, _, r => r
  | .tup xs, _, _, k, ⟨p, vs, e, h, r⟩ => ⟨p, vs, e, s _ _ h, reps_mono s xs k r⟩
  | .scr xs, _, _, k, ⟨p, e, h, z⟩ => ⟨p, e, s.seq h, z⟩
  | .lst false xs, _, _, k, ⟨p, vs, e, h, r⟩ => ⟨p, vs, e, s _ _ h, reps_mono s xs k r⟩
  | .lst true xs, _, _, k, ⟨p, vs, B, e, h, r, z⟩ => ⟨p, vs, B, e, by rw [k p (by rw [z]; exact fpA_r (fp1_self p))]; exact h, reps_mono s xs (fun a q => k a (by rw [z]; exact fpA_l q)) r, z⟩
  | .dic .fr t kvs, _, _, k, ⟨p, o, vs, e, h, g, r⟩ => ⟨p, o, vs, e, rd_same s h, g, repk_mono s kvs k r⟩
  | .dic .lk t kvs, _, _, k, ⟨p, od, o, vs, B, e, h, g, r, z⟩ => ⟨p, od, o, vs, B, e, by rw [k p (by rw [z]; exact fpA_r (fp1_self p))]; exact h, g, repk_mono s kvs (fun a q => k a (by rw [z]; exact fpA_l q)) r, z⟩
  | .dic .ow t kvs, _, _, k, ⟨p, o, vs, B, e, h, g, r, z⟩ => ⟨p, o, vs, B, e, by rw [k p (by rw [z]; exact fpA_r (fp1_self p))]; exact h, g, repk_mono s kvs (fun a q => k a (by rw [z]; exact fpA_l q)) r, z⟩
  | .ins C fs, _, _, k, ⟨c, p, dx, vs, B, hc, e, h, hd, ne, r, z⟩ => ⟨c, p, dx, vs, B, hc, e, by rw [k p (by rw [z]; exact fpA_r (fpA_l (fp1_self p)))]; exact h,
      by rw [k dx (by rw [z]; exact fpA_r (fpA_r (fp1_self dx)))]; exact hd, ne, repf_mono s fs (fun a q => k a (by rw [z]; exact fpA_l q)) r, z⟩
theorem reps_mono (s : Same F F') : ∀ (ds : List D) {vs : List V} {A : FP}, (∀ a, A a ≠ 0 → H' a = H a) → Reps K F H ds vs A → Reps K F' H' ds vs A
  | [], _, _, _, r => r
  | x :: xs, _, _, k, ⟨v, vr, B, C, e, r, q, z⟩ => ⟨v, vr, B, C, e, rep_mono s x (fun a q => k a (by rw [z]; exact fpA_l q)) r, reps_mono s xs (fun a q => k a (by rw [z]; exact fpA_r q)) q, z⟩
theorem repk_mono (s : Same F F') : ∀ (ds : List (KD × D)) {vs : List (KD × V)} {A : FP}, (∀ a, A a ≠ 0 → H' a = H a) → Repk K F H ds vs A → Repk K F' H' ds vs A
  | [], _, _, _, r => r
  | (_, x) :: xs, _, _, k, ⟨v, vr, B, C, e, r, q, z⟩ => ⟨v, vr, B, C, e, rep_mono s x (fun a q => k a (by rw [z]; exact fpA_l q)) r, repk_mono s xs (fun a q => k a (by rw [z]; exact fpA_r q)) q, z⟩
theorem repf_mono (s : Same F F') : ∀ (ds : List (Str × D)) {vs : List (Str × V)} {A : FP}, (∀ a, A a ≠ 0 → H' a = H a) → Repf K F H ds vs A → Repf K F' H' ds vs A
  | [], _, _, _, r => r
  | (_, x) :: xs, _, _, k, ⟨v, vr, B, C, e, r, q, z⟩ => ⟨v, vr, B, C, e, rep_mono s x (fun a q => k a (by rw [z]; exact fpA_l q)) r, repf_mono s xs (fun a q => k a (by rw [z]; exact fpA_r q)) q, z⟩
end
mutual
/-- frozen in place -/
theorem rep_frz (s : Same F F') : ∀ (d : D) {v : V} {A : FP}, (∀ a, A a ≠ 0 → F' a = H a) → Rep K F H d v A → Rep K F' H' (frz d) v fp0
  | .non, _, _, _, r => ⟨r.1, rfl⟩
  | .bl _, _, _, _, r => ⟨r.1, rfl⟩
  | .int _, _, _, _, r => ⟨r.1, rfl⟩
  | .str _, _, _, _, r => ⟨r.1, rfl⟩
  | .gone, _, _, _, r => rfl
  | .tup xs, _, _, k, ⟨p, vs, e, h, r⟩ => ⟨p, vs, e, s _ _ h, reps_frz s xs k r⟩
  | .scr xs, _, _, k, ⟨p, e, h, z⟩ => ⟨p, e, s.seq h, rfl⟩
  | .lst false xs, _, _, k, ⟨p, vs, e, h, r⟩ => ⟨p, vs, e, s _ _ h, reps_frz s xs k r⟩
  | .lst true xs, _, _, k, ⟨p, vs, B, e, h, r, z⟩ => ⟨p, vs, e, by rw [k p (by rw [z]; exact fpA_r (fp1_self p))]; exact h, reps_frz s xs (fun a q => k a (by rw [z]; exact fpA_l q)) r⟩
  | .dic .fr t kvs, _, _, k, ⟨p, o, vs, e, h, g, r⟩ => ⟨p, o, vs, e, rd_same s h, g, repk_frz s kvs k r⟩
  | .dic .lk t kvs, _, _, k, _ => rfl
  | .dic .ow t kvs, _, _, k, ⟨p, o, vs, B, e, h, g, r, z⟩ => ⟨p, o, vs, e, .inl (by rw [k p (by rw [z]; exact fpA_r (fp1_self p))]; exact h), g, repk_frz s kvs (fun a q => k a (by rw [z]; exact fpA_l q)) r⟩
  | .ins C fs, _, _, _, _ => rfl
theorem reps_frz (s : Same F F') : ∀ (ds : List D) {vs : List V} {A : FP}, (∀ a, A a ≠ 0 → F' a = H a) → Reps K F H ds vs A → Reps K F' H' (frzs ds) vs fp0
  | [], _, _, _, r => ⟨r.1, rfl⟩
  | x :: xs, _, _, k, ⟨v, vr, B, C, e, r, q, z⟩ => ⟨v, vr, fp0, fp0, e, rep_frz s x (fun a q => k a (by rw [z]; exact fpA_l q)) r, reps_frz s xs (fun a q => k a (by rw [z]; exact fpA_r q)) q, fpA_0l.symm⟩
theorem repk_frz (s : Same F F') : ∀ (ds : List (KD × D)) {vs : List (KD × V)} {A : FP}, (∀ a, A a ≠ 0 → F' a = H a) → Repk K F H ds vs A → Repk K F' H' (frzk ds) vs fp0
  | [], _, _, _, r => ⟨r.1, rfl⟩
  | (_, x) :: xs, _, _, k, ⟨v, vr, B, C, e, r, q, z⟩ => ⟨v, vr, fp0, fp0, e, rep_frz s x (fun a q => k a (by rw [z]; exact fpA_l q)) r, repk_frz s xs (fun a q => k a (by rw [z]; exact fpA_r q)) q, fpA_0l.symm⟩
end
mutual
theorem fz_rep : ∀ (d : D) {v : V} {A : FP}, fz d = true → Rep K F H d v A → A = fp0
  | .non, _, _, _, r => r.2
  | .bl _, _, _, _, r => r.2
  | .int _, _, _, _, r => r.2
  | .str _, _, _, _, r => r.2
  | .gone, _, _, _, r => r
  | .scr xs, _, _, _, ⟨p, e, h, z⟩ => z
  | .tup xs, _, _, h, ⟨p, vs, e, _, r⟩ => fzs_reps xs h r
  | .lst false xs, _, _, h, ⟨p, vs, e, _, r⟩ => fzs_reps xs (by simpa [fz] using h) r
  | .lst true xs, _, _, h, _ => by simp [fz] at h
  | .dic .fr t kvs, _, _, h, ⟨p, o, vs, e, _, g, r⟩ => fzk_repk kvs (by simpa [fz] using h) r
  | .dic .ow t kvs, _, _, h, _ => by simp [fz] at h
  | .dic .lk t kvs, _, _, h, _ => by simp [fz] at h
  | .ins C fs, _, _, h, _ => by simp [fz] at h
theorem fzs_reps : ∀ (ds : List D) {vs : List V} {A : FP}, fzs ds = true → Reps K F H ds vs A → A = fp0
  | [], _, _, _, r => r.2
  | x :: xs, _, _, h, ⟨v, vr, B, C, e, r, q, z⟩ => by
    simp only [fzs, Bool.and_eq_true] at h
    rw [z, fz_rep x h.1 r, fzs_reps xs h.2 q, fpA_0l]
theorem fzk_repk : ∀ (ds : List (KD × D)) {vs : List (KD × V)} {A : FP}, fzk ds = true → Repk K F H ds vs A → A = fp0
  | [], _, _, _, r => r.2
  | (_, x) :: xs, _, _, h, ⟨v, vr, B, C, e, r, q, z⟩ => by
    simp only [fzk, Bool.and_eq_true] at h
    rw [z, fz_rep x h.1 r, fzk_repk xs h.2 q, fpA_0l]
end
mutual
theorem rep_own : ∀ (d : D) {v : V} {A : FP}, Rep K F H d v A → ∀ a, A a ≠ 0 → ∃ o, H a = some o ∧ NoTup o
  | .non, _, _, r, a, n => by rw [r.2] at n; exact absurd rfl n
  | .bl _, _, _, r, a, n => by rw [r.2] at n; exact absurd rfl n
  | .int _, _, _, r, a, n => by rw [r.2] at n; exact absurd rfl n
  | .str _, _, _, r, a, n => by rw [r.2] at n; exact absurd rfl n
  | .gone, _, _, r, a, n => by rw [show _ = fp0 from r] at n; exact absurd rfl n
  | .scr xs, _, _, ⟨p, e, h, z⟩, a, n => by rw [z] at n; exact absurd rfl n
  | .tup xs, _, _, ⟨p, vs, e, _, r⟩, a, n => reps_own xs r a n
  | .lst false xs, _, _, ⟨p, vs, e, _, r⟩, a, n => reps_own xs r a n
  | .lst true xs, _, _, ⟨p, vs, B, e, h, r, z⟩, a, n => by
    rw [z, fpA_ne, fp1_ne] at n
    rcases n with n | rfl
    · exact reps_own xs r a n
    · exact ⟨_, h, trivial⟩
  | .dic .fr t kvs, _, _, ⟨p, o, vs, e, _, g, r⟩, a, n => repk_own kvs r a n
  | .dic .lk t kvs, _, _, ⟨p, od, o, vs, B, e, h, g, r, z⟩, a, n => by
    rw [z, fpA_ne, fp1_ne] at n
    rcases n with n | rfl
    · exact repk_own kvs r a n
    · exact ⟨_, h, trivial⟩
  | .dic .ow t kvs, _, _, ⟨p, o, vs, B, e, h, g, r, z⟩, a, n => by
    rw [z, fpA_ne, fp1_ne] at n
    rcases n with n | rfl
    · exact repk_own kvs r a n
    · exact ⟨_, h, g.noTup⟩
  | .ins C fs, _, _, ⟨c, p, dx, vs, B, hc, e, h, hd, ne, r, z⟩, a, n => by
    rw [z, fpA_ne, fpA_ne, fp1_ne, fp1_ne] at n
    rcases n with n | rfl | rfl
    · exact repf_own fs r a n
    · exact ⟨_, h, trivial⟩
    · exact ⟨_, hd, trivial⟩
theorem reps_own : ∀ (ds : List D) {vs : List V} {A : FP}, Reps K F H ds vs A → ∀ a, A a ≠ 0 → ∃ o, H a = some o ∧ NoTup o
  | [], _, _, r, a, n => by rw [r.2] at n; exact absurd rfl n
  | x :: xs, _, _, ⟨v, vr, B, C, e, r, q, z⟩, a, n => by
    rw [z, fpA_ne] at n
    rcases n with n | n
    · exact rep_own x r a n
    · exact reps_own xs q a n
theorem repk_own : ∀ (ds : List (KD × D)) {vs : List (KD × V)} {A : FP}, Repk K F H ds vs A → ∀ a, A a ≠ 0 → ∃ o, H a = some o ∧ NoTup o
  | [], _, _, r, a, n => by rw [r.2] at n; exact absurd rfl n
  | (_, x) :: xs, _, _, ⟨v, vr, B, C, e, r, q, z⟩, a, n => by
    rw [z, fpA_ne] at n
    rcases n with n | n
    · exact rep_own x r a n
    · exact repk_own xs q a n
theorem repf_own : ∀ (ds : List (Str × D)) {vs : List (Str × V)} {A : FP}, Repf K F H ds vs A → ∀ a, A a ≠ 0 → ∃ o, H a = some o ∧ NoTup o
  | [], _, _, r, a, n => by rw [r.2] at n; exact absurd rfl n
  | (_, x) :: xs, _, _, ⟨v, vr, B, C, e, r, q, z⟩, a, n => by
    rw [z, fpA_ne] at n
    rcases n with n | n
    · exact rep_own x r a n
    · exact repf_own xs q a n
end
end
mutual
theorem frz_fz : ∀ (d : D), fz d = true → frz d = d
  | .non, _ => rfl
  | .bl _, _ => rfl
  | .int _, _ => rfl
  | .str _, _ => rfl
  | .gone, _ => rfl
  | .tup xs, h => by rw [frz, frzs_fzs xs (by simpa [fz] using h)]
  | .lst m xs, h => by
    simp only [fz, Bool.and_eq_true, Bool.not_eq_true'] at h
    rw [frz, frzs_fzs xs h.2, h.1]
  | .scr _, _ => rfl
  | .dic .fr t kvs, h => by rw [frz, frzk_fzk kvs (by simpa [fz] using h)]
  | .dic .ow t kvs, h => by simp [fz] at h
  | .dic .lk t kvs, h => by simp [fz] at h
  | .ins C fs, h => by simp [fz] at h
theorem frzs_fzs : ∀ (ds : List D), fzs ds = true → frzs ds = ds
  | [], _ => rfl
  | x :: xs, h => by
    simp only [fzs, Bool.and_eq_true] at h
    rw [frzs, frz_fz x h.1, frzs_fzs xs h.2]
theorem frzk_fzk : ∀ (ds : List (KD × D)), fzk ds = true → frzk ds = ds
  | [], _ => rfl
  | (k, x) :: xs, h => by
    simp only [fzk, Bool.and_eq_true] at h
    rw [frzk, frz_fz x h.1, frzk_fzk xs h.2]
end
mutual
theorem fz_frz : ∀ (d : D), fz (frz d) = true
  | .non => rfl
  | .bl _ => rfl
  | .int _ => rfl
  | .str _ => rfl
  | .gone => rfl
  | .tup xs => by rw [frz, fz, fzs_frzs xs]
  | .lst m xs => by rw [frz, fz, fzs_frzs xs]; rfl
  | .scr _ => rfl
  | .dic .fr t kvs => by rw [frz, fz, fzk_frzk kvs]
  | .dic .ow t kvs => by rw [frz, fz, fzk_frzk kvs]
  | .dic .lk t kvs => rfl
  | .ins C fs => rfl
theorem fzs_frzs : ∀ (ds : List D), fzs (frzs ds) = true
  | [] => rfl
  | x :: xs => by rw [frzs, fzs, fz_frz x, fzs_frzs xs]; rfl
theorem fzk_frzk : ∀ (ds : List (KD × D)), fzk (frzk ds) = true
  | [] => rfl
  | (k, x) :: xs => by rw [frzk, fzk, fz_frz x, fzk_frzk xs]; rfl
end
end L3
namespace L3
open PySem PySem.Spec L2
open PyProof.Rows hiding St
/-- what the slots are known to hold -/
abbrev Env := List (Option D)
def SlR (K : PySem.W.Frag) (F H : Hp) : Env → St → FP → Prop
  | [], σ, A => σ = [] ∧ A = fp0
  | none :: ρ, σ, A => ∃ v σr, σ = v :: σr ∧ SlR K F H ρ σr A
  | some d :: ρ, σ, A => ∃ v σr B C, σ = some v :: σr ∧ Rep K F H d v B ∧ SlR K F H ρ σr C ∧ A = fpA B C
section
variable {K : PySem.W.Frag} {F F' H H' : Hp}
theorem slr_len : ∀ {ρ : Env} {σ : St} {A : FP}, SlR K F H ρ σ A → σ.length = ρ.length
  | [], _, _, ⟨e, _⟩ => by rw [e]; rfl
  | none :: ρ, _, _, ⟨v, σr, e, r⟩ => by rw [e, List.length_cons, List.length_cons, slr_len r]
  | some d :: ρ, _, _, ⟨v, σr, B, C, e, _, r, _⟩ => by rw [e, List.length_cons, List.length_cons, slr_len r]
theorem slr_mono (s : Same F F') : ∀ {ρ : Env} {σ : St} {A : FP}, (∀ a, A a ≠ 0 → H' a = H a) → SlR K F H ρ σ A → SlR K F' H' ρ σ A
  | [], _, _, _, r => r
  | none :: ρ, _, _, k, ⟨v, σr, e, r⟩ => ⟨v, σr, e, slr_mono s k r⟩
  | some d :: ρ, _, _, k, ⟨v, σr, B, C, e, r, q, z⟩ => ⟨v, σr, B, C, e, rep_mono s d (fun a q => k a (by rw [z]; exact fpA_l q)) r, slr_mono s (fun a q => k a (by rw [z]; exact fpA_r q)) q, z⟩
theorem slr_own : ∀ {ρ : Env} {σ : St} {A : FP}, SlR K F H ρ σ A → ∀ a, A a ≠ 0 → ∃ o, H a = some o ∧ NoTup o
  | [], _, _, r, a, n => by rw [r.2] at n; exact absurd rfl n
  | none :: ρ, _, _, ⟨v, σr, e, r⟩, a, n => slr_own r a n
  | some d :: ρ, _, _, ⟨v, σr, B, C, e, r, q, z⟩, a, n => by
    rw [z, fpA_ne] at n
    rcases n with n | n
    · exact rep_own d r a n
    · exact slr_own q a n
/-- one slot apart from the others -/
theorem slr_at : ∀ {ρ : Env} {σ : St} {A : FP} {i : Nat} {d : D}, SlR K F H ρ σ A → ρ[i]? = some (some d) → ∃ v B C, σ[i]? = some (some v) ∧ Rep K F H d v B ∧ A = fpA B C ∧
    ∀ F' H' d' v' B', Same F F' → (∀ a, C a ≠ 0 → H' a = H a) → Rep K F' H' d' v' B' → SlR K F' H' (ρ.set i (some d')) (σ.set i (some v')) (fpA B' C)
  | none :: ρ, _, _, 0, d, ⟨v, σr, e, r⟩, h => by simp at h
  | some d0 :: ρ, _, _, 0, d, ⟨v, σr, B, C, e, r, q, z⟩, h => by
    have e1 : d0 = d := by simpa using h
    subst e1 e
    exact ⟨v, B, C, rfl, r, z, fun F' H' d' v' B' s k r' => ⟨v', σr, B', C, rfl, r', slr_mono s k q, rfl⟩⟩
  | none :: ρ, _, _, i + 1, d, ⟨v, σr, e, r⟩, h => by
    subst e
    obtain ⟨v1, B, C, h1, h2, h3, h4⟩ := slr_at (i := i) (d := d) r (by simpa using h)
    exact ⟨v1, B, C, by simpa using h1, h2, h3, fun F' H' d' v' B' s k r' => ⟨v, _, rfl, h4 F' H' d' v' B' s k r'⟩⟩
  | some d0 :: ρ, _, _, i + 1, d, ⟨v, σr, B0, C0, e, r, q, z⟩, h => by
    subst e
    obtain ⟨v1, B, C, h1, h2, h3, h4⟩ := slr_at (i := i) (d := d) q (by simpa using h)
    refine ⟨v1, B, fpA B0 C, by simpa using h1, h2, by rw [z, h3, ← fpA_assoc, ← fpA_assoc, fpA_comm (A := B0)], fun F' H' d' v' B' s k r' => ?_⟩
    refine ⟨v, _, B0, _, rfl, rep_mono s d0 (fun a n => k a (fpA_l n)) r, h4 F' H' d' v' B' s (fun a n => k a (fpA_r n)) r', ?_⟩
    rw [← fpA_assoc, ← fpA_assoc, fpA_comm (A := B')]
/-- a slot is stored: what stood there is let go -/
theorem slr_set : ∀ {ρ : Env} {σ : St} {A : FP} (i : Nat), SlR K F H ρ σ A → i < ρ.length → ∃ C, (∀ a, C a ≤ A a) ∧
    (∀ F' H' d' v' B', Same F F' → (∀ a, C a ≠ 0 → H' a = H a) → Rep K F' H' d' v' B' → SlR K F' H' (ρ.set i (some d')) (σ.set i (some v')) (fpA B' C)) ∧ SlR K F H (ρ.set i none) σ C
  | none :: ρ, _, _, 0, ⟨v, σr, e, r⟩, h => by
    subst e
    exact ⟨_, fun _ => Nat.le_refl _, fun F' H' d' v' B' s k r' => ⟨v', σr, B', _, rfl, r', slr_mono s k r, rfl⟩, ⟨v, σr, rfl, r⟩⟩
  | some d0 :: ρ, _, _, 0, ⟨v, σr, B, C, e, r, q, z⟩, h => by
    subst e
    exact ⟨C, fun a => by rw [z]; unfold fpA; omega, fun F' H' d' v' B' s k r' => ⟨v', σr, B', C, rfl, r', slr_mono s k q, rfl⟩, ⟨_, σr, rfl, q⟩⟩
  | none :: ρ, _, _, i + 1, ⟨v, σr, e, r⟩, h => by
    subst e
    obtain ⟨C, h1, h2, h3⟩ := slr_set i r (by simpa using h)
    exact ⟨C, h1, fun F' H' d' v' B' s k r' => ⟨v, _, rfl, h2 F' H' d' v' B' s k r'⟩, ⟨v, _, rfl, h3⟩⟩
  | some d0 :: ρ, _, _, i + 1, ⟨v, σr, B0, C0, e, r, q, z⟩, h => by
    subst e
    obtain ⟨C, h1, h2, h3⟩ := slr_set i q (by simpa using h)
    refine ⟨fpA B0 C, fun a => by have := h1 a; rw [z]; unfold fpA; omega, fun F' H' d' v' B' s k r' => ⟨v, _, B0, _, rfl, rep_mono s d0 (fun a n => k a (fpA_l n)) r, h2 F' H' d' v' B' s (fun a n => k a (fpA_r n)) r', ?_⟩, ⟨v, _, B0, C, rfl, r, h3, rfl⟩⟩
    rw [← fpA_assoc, ← fpA_assoc, fpA_comm (A := B')]
theorem slr_get {ρ : Env} {σ : St} {A : FP} {i : Nat} {d : D} (r : SlR K F H ρ σ A) (h : ρ[i]? = some (some d)) : ∃ v B, σ[i]? = some (some v) ∧ Rep K F H d v B ∧ ∀ a, B a ≤ A a := by
  obtain ⟨v, B, C, h1, h2, h3, _⟩ := slr_at r h
  exact ⟨v, B, h1, h2, fun a => by rw [h3]; unfold fpA; omega⟩
end
/-! ### the world -/
structure Wd (F R H : Hp) : Prop where
  f : Same F H
  r : Same R H
  a : ∀ a o, R a = some o → F a = none ∧ NoTup o
def Sep (F R : Hp) (A : FP) : Prop := ∀ a, A a ≤ 1 ∧ (A a ≠ 0 → F a = none ∧ R a = none)
theorem Sep.mono {F R : Hp} {A B : FP} (s : Sep F R A) (h : ∀ a, B a ≤ A a) : Sep F R B := fun a => by
  obtain ⟨h1, h2⟩ := s a
  have := h a
  exact ⟨by omega, fun n => h2 (by omega)⟩
theorem same_updn {H : Hp} {p : Addr} {o : HO} (h : H p = none) : Same H (upd H p o) := fun b x e => by
  rw [upd_ne (ne_of_none e h)]
  exact e
theorem same_updm {F H : Hp} {p : Addr} {o : HO} (s : Same F H) : Same (upd F p o) (upd H p o) := fun b x e => by
  by_cases h : b = p
  · subst h; rw [upd_same] at e ⊢; exact e
  · rw [upd_ne h] at e ⊢; exact s _ _ e
section
variable {F R H : Hp}
/-- a new object that stands for good -/
theorem Wd.new (W : Wd F R H) {p : Addr} {o : HO} (h : H p = none) : Wd (upd F p o) R (upd H p o) := by
  refine ⟨same_updm W.f, fun b x e => same_updn h _ _ (W.r _ _ e), fun a x e => ?_⟩
  have n : a ≠ p := ne_of_none (W.r _ _ e) h
  rw [upd_ne n]
  exact W.a _ _ e
theorem Wd.free (W : Wd F R H) {p : Addr} (h : H p = none) : F p = none ∧ R p = none := ⟨W.f.free h, W.r.free h⟩
theorem Wd.newf (W : Wd F R H) {p : Addr} {o : HO} (h : H p = none) : Same F (upd F p o) := same_updn (W.free h).1
theorem Sep.new (W : Wd F R H) {p : Addr} {o : HO} {A : FP} (s : Sep F R A) (own : ∀ a, A a ≠ 0 → ∃ o, H a = some o ∧ NoTup o) (h : H p = none) : Sep (upd F p o) R A := fun a => by
  refine ⟨(s a).1, fun n => ?_⟩
  obtain ⟨x, e, _⟩ := own a n
  rw [upd_ne (ne_of_none e h)]
  exact (s a).2 n
/-- a new object of ours -/
theorem Wd.mine (W : Wd F R H) {p : Addr} {o : HO} (h : H p = none) : Wd F R (upd H p o) :=
  ⟨fun b x e => same_updn h _ _ (W.f _ _ e), fun b x e => same_updn h _ _ (W.r _ _ e), W.a⟩
theorem Sep.mine (W : Wd F R H) {p : Addr} {A : FP} (s : Sep F R A) (own : ∀ a, A a ≠ 0 → ∃ o, H a = some o ∧ NoTup o) (h : H p = none) : Sep F R (fpA A (fp1 p)) := fun a => by
  by_cases e : a = p
  · subst e
    have z : A a = 0 := Nat.eq_zero_of_not_pos fun n => by
      obtain ⟨x, e, _⟩ := own a (by omega)
      rw [h] at e; cases e
    refine ⟨by unfold fpA fp1; rw [z]; simp, fun _ => W.free h⟩
  · have q : fpA A (fp1 p) a = A a := by unfold fpA fp1; rw [if_neg e]; omega
    rw [q]; exact s a
/-- an object of ours is changed -/
theorem Wd.write (W : Wd F R H) {p : Addr} {o : HO} {A : FP} (s : Sep F R A) (h : A p ≠ 0) : Wd F R (upd H p o) := by
  obtain ⟨h1, h2⟩ := (s p).2 h
  refine ⟨fun b x e => ?_, fun b x e => ?_, W.a⟩
  · rw [upd_ne (ne_of_none e h1)]; exact W.f _ _ e
  · rw [upd_ne (ne_of_none e h2)]; exact W.r _ _ e
/-- what is held by the way belongs to the frame meanwhile -/
def hold (R H : Hp) (A : FP) : Hp := fun a => if A a = 0 then R a else H a
theorem hold_in {R H : Hp} {A : FP} {a : Addr} (h : A a ≠ 0) : hold R H A a = H a := by unfold hold; rw [if_neg h]
theorem hold_out {R H : Hp} {A : FP} {a : Addr} (h : A a = 0) : hold R H A a = R a := by unfold hold; rw [if_pos h]
theorem Wd.hold (W : Wd F R H) {A : FP} (s : Sep F R A) (own : ∀ a, A a ≠ 0 → ∃ o, H a = some o ∧ NoTup o) : Wd F (hold R H A) H := by
  refine ⟨W.f, fun a o e => ?_, fun a o e => ?_⟩
  · by_cases z : A a = 0
    · rw [hold_out z] at e; exact W.r _ _ e
    · rw [hold_in z] at e; exact e
  · by_cases z : A a = 0
    · rw [hold_out z] at e; exact W.a _ _ e
    · rw [hold_in z] at e
      obtain ⟨x, e1, e2⟩ := own a z
      rw [e] at e1; cases e1
      exact ⟨((s a).2 z).1, e2⟩
theorem hold_same (W : Wd F R H) {A : FP} (s : Sep F R A) : Same R (hold R H A) := fun a o e => by
  by_cases z : A a = 0
  · rw [hold_out z]; exact e
  · rw [hold_in z]; exact W.r _ _ e
theorem Sep.hold {A B : FP} (s : Sep F R (fpA A B)) : Sep F (hold R H A) B := fun a => by
  obtain ⟨h1, h2⟩ := s a
  unfold fpA at h1 h2
  refine ⟨by omega, fun n => ?_⟩
  have z : A a = 0 := by omega
  rw [hold_out z]
  exact h2 (by omega)
/-- .. and is ours again behind it -/
theorem hold_back {F' H' : Hp} {A B : FP} (W : Wd F R H) (s : Sep F R A) (own : ∀ a, A a ≠ 0 → ∃ o, H a = some o ∧ NoTup o) (W' : Wd F' (L3.hold R H A) H') (s' : Sep F' (L3.hold R H A) B) :
    Wd F' R H' ∧ Sep F' R (fpA A B) ∧ ∀ a, A a ≠ 0 → H' a = H a := by
  refine ⟨⟨W'.f, fun a o e => W'.r _ _ (hold_same W s _ _ e), fun a o e => W'.a _ _ (hold_same W s _ _ e)⟩, fun a => ?_, fun a n => ?_⟩
  · obtain ⟨h1, h2⟩ := s' a
    by_cases z : A a = 0
    · have q : fpA A B a = B a := by unfold fpA; omega
      rw [q]
      refine ⟨h1, fun n => ?_⟩
      have := h2 n
      rw [hold_out z] at this
      exact this
    · obtain ⟨x, e1, e2⟩ := own a z
      have hr : L3.hold R H A a = some x := by rw [hold_in z]; exact e1
      have bz : B a = 0 := Nat.eq_zero_of_not_pos fun n => by
        have := (h2 (by omega)).2
        rw [hr] at this; cases this
      have q : fpA A B a = A a := by unfold fpA; omega
      rw [q]
      exact ⟨(s a).1, fun _ => ⟨(W'.a _ _ hr).1, ((s a).2 z).2⟩⟩
  · obtain ⟨x, e1, e2⟩ := own a n
    have hr : L3.hold R H A a = some x := by rw [hold_in n]; exact e1
    rw [W'.r _ _ hr, e1]
/-- to freeze -/
def frzF (F H : Hp) (A : FP) : Hp := fun a => if A a = 0 then F a else H a
theorem frzF_in {A : FP} {a : Addr} (h : A a ≠ 0) : frzF F H A a = H a := by unfold frzF; rw [if_neg h]
theorem frzF_out {A : FP} {a : Addr} (h : A a = 0) : frzF F H A a = F a := by unfold frzF; rw [if_pos h]
theorem frzF_same {A : FP} (s : Sep F R A) : Same F (frzF F H A) := fun a o e => by
  by_cases z : A a = 0
  · rw [frzF_out z]; exact e
  · rw [((s a).2 z).1] at e; cases e
theorem Wd.frz (W : Wd F R H) {A : FP} (s : Sep F R A) : Wd (frzF F H A) R H := by
  refine ⟨fun a o e => ?_, W.r, fun a o e => ?_⟩
  · by_cases z : A a = 0
    · rw [frzF_out z] at e; exact W.f _ _ e
    · rw [frzF_in z] at e; exact e
  · have z : A a = 0 := Nat.eq_zero_of_not_pos fun n => by
      rw [((s a).2 (by omega)).2] at e; cases e
    rw [frzF_out z]
    exact W.a _ _ e
theorem Sep.frz {A B : FP} (s : Sep F R (fpA A B)) : Sep (frzF F H A) R B := fun a => by
  obtain ⟨h1, h2⟩ := s a
  unfold fpA at h1 h2
  refine ⟨by omega, fun n => ?_⟩
  have z : A a = 0 := by omega
  rw [frzF_out z]
  exact h2 (by omega)
end
end L3
namespace L3
open PySem PySem.Spec L2
open PyProof.Rows hiding St
mutual
def kdB : KD → KD → Bool
  | .non, .non => true
  | .int i, .int j => i == j
  | .str x, .str y => x == y
  | .tup xs, .tup ys => kdsB xs ys
  | _, _ => false
def kdsB : List KD → List KD → Bool
  | [], [] => true
  | x :: xs, y :: ys => kdB x y && kdsB xs ys
  | _, _ => false
end
mutual
theorem kdB_iff : ∀ a b : KD, kdB a b = true ↔ a = b
  | .non, b => by cases b <;> simp [kdB]
  | .int i, b => by cases b <;> simp [kdB]
  | .str x, b => by cases b <;> simp [kdB]
  | .tup xs, b => by
    cases b with
    | tup ys => simp [kdB, kdsB_iff xs ys]
    | _ => simp [kdB]
theorem kdsB_iff : ∀ a b : List KD, kdsB a b = true ↔ a = b
  | [], b => by cases b <;> simp [kdsB]
  | x :: xs, b => by
    cases b with
    | nil => simp [kdsB]
    | cons y ys => simp [kdsB, kdB_iff x y, kdsB_iff xs ys]
end
instance : DecidableEq KD := fun a b => if h : kdB a b = true then isTrue ((kdB_iff a b).mp h) else isFalse fun e => h ((kdB_iff a b).mpr e)
/-- what a dict holds at a key -/
def look {α : Type} : List (KD × α) → KD → Option α
  | [], _ => none
  | (k', x) :: r, k => if k' = k then some x else look r k
/-- .. behind a store -/
def kput {α : Type} : List (KD × α) → KD → α → List (KD × α)
  | [], k, y => [(k, y)]
  | (k', x) :: r, k, y => if k' = k then (k', y) :: r else (k', x) :: kput r k y
/-- .. behind a removal -/
def kdrop {α : Type} : List (KD × α) → KD → List (KD × α)
  | [], _ => []
  | (k', x) :: r, k => if k' = k then r else (k', x) :: kdrop r k
/-- a field, read and stored -/
def flook {α : Type} : List (Str × α) → Str → Option α
  | [], _ => none
  | (k', x) :: r, k => if k' = k then some x else flook r k
def fput {α : Type} : List (Str × α) → Str → α → List (Str × α)
  | [], k, y => [(k, y)]
  | (k', x) :: r, k, y => if k' = k then (k', y) :: r else (k', x) :: fput r k y
inductive Stp where
  | at (k : Nat) | fld (f : Str) | key (k : KD)
def getS : D → Stp → Option D
  | .tup xs, .at k => xs[k]?
  | .lst _ xs, .at k => xs[k]?
  | .dic _ _ kvs, .key k => look kvs k
  | .ins _ fs, .fld f => flook fs f
  | _, _ => none
def putS : D → Stp → D → D
  | .tup xs, .at k, d => .tup (xs.set k d)
  | .lst m xs, .at k, d => .lst m (xs.set k d)
  | .dic m t kvs, .key k, d => .dic m t (kput kvs k d)
  | .ins C fs, .fld f, d => .ins C (fput fs f d)
  | d, _, _ => d
def getP : D → List Stp → Option D
  | d, [] => some d
  | d, s :: st => match getS d s with
    | some d1 => getP d1 st
    | none => none
def putP : D → List Stp → D → D
  | _, [], d' => d'
  | d, s :: st, d' => match getS d s with
    | some d1 => putS d s (putP d1 st d')
    | none => d
/-- at a slot -/
def getE (ρ : Env) (i : Nat) (st : List Stp) : Option D := match ρ[i]? with
  | some (some d) => getP d st
  | _ => none
def putE (ρ : Env) (i : Nat) (st : List Stp) (d' : D) : Env := match ρ[i]? with
  | some (some d) => ρ.set i (some (putP d st d'))
  | _ => ρ
section
variable {K : PySem.W.Frag} {F F' H H' : Hp}
theorem reps_len : ∀ {ds : List D} {vs : List V} {A : FP}, Reps K F H ds vs A → vs.length = ds.length
  | [], _, _, ⟨e, _⟩ => by rw [e]; rfl
  | x :: xs, _, _, ⟨v, vr, B, C, e, _, r, _⟩ => by rw [e, List.length_cons, List.length_cons, reps_len r]
theorem reps_at : ∀ {ds : List D} {vs : List V} {A : FP} {i : Nat} {d : D}, Reps K F H ds vs A → ds[i]? = some d → ∃ v B C, vs[i]? = some v ∧ Rep K F H d v B ∧ A = fpA B C ∧
    ∀ F' H' d' v' B', Same F F' → (∀ a, C a ≠ 0 → H' a = H a) → Rep K F' H' d' v' B' → Reps K F' H' (ds.set i d') (vs.set i v') (fpA B' C)
  | [], _, _, i, d, _, h => by simp at h
  | d0 :: ds, _, _, 0, d, ⟨v, σr, B, C, e, r, q, z⟩, h => by
    have e1 : d0 = d := by simpa using h
    subst e1 e
    exact ⟨v, B, C, rfl, r, z, fun F' H' d' v' B' s k r' => ⟨v', σr, B', C, rfl, r', reps_mono s ds k q, rfl⟩⟩
  | d0 :: ds, _, _, i + 1, d, ⟨v, σr, B0, C0, e, r, q, z⟩, h => by
    subst e
    obtain ⟨v1, B, C, h1, h2, h3, h4⟩ := reps_at (i := i) (d := d) q (by simpa using h)
    refine ⟨v1, B, fpA B0 C, by simpa using h1, h2, by rw [z, h3, ← fpA_assoc, ← fpA_assoc, fpA_comm (A := B0)], fun F' H' d' v' B' s k r' => ?_⟩
    refine ⟨v, _, B0, _, rfl, rep_mono s d0 (fun a n => k a (fpA_l n)) r, h4 F' H' d' v' B' s (fun a n => k a (fpA_r n)) r', ?_⟩
    rw [← fpA_assoc, ← fpA_assoc, fpA_comm (A := B')]
theorem repf_at : ∀ {ds : List (Str × D)} {vs : List (Str × V)} {A : FP} {f : Str} {d : D}, Repf K F H ds vs A → flook ds f = some d → ∃ v B C, vs.lookup f = some v ∧ Rep K F H d v B ∧ A = fpA B C ∧
    ∀ F' H' d' v' B', Same F F' → (∀ a, C a ≠ 0 → H' a = H a) → Rep K F' H' d' v' B' → Repf K F' H' (fput ds f d') (fput vs f v') (fpA B' C)
  | [], _, _, f, d, _, h => by simp [flook] at h
  | (g, d0) :: ds, _, _, f, d, ⟨v, σr, B, C, e, r, q, z⟩, h => by
    subst e
    by_cases hg : g = f
    · subst hg
      simp only [flook, if_pos rfl, if_true] at h
      cases h
      refine ⟨v, B, C, by simp, r, z, fun F' H' d' v' B' s k r' => ?_⟩
      simp only [fput, if_true]
      exact ⟨v', σr, B', C, rfl, r', repf_mono s ds k q, rfl⟩
    · simp only [flook, if_neg hg] at h
      obtain ⟨v1, B1, C1, h1, h2, h3, h4⟩ := repf_at (f := f) (d := d) q h
      have hb : (f == g) = false := beq_eq_false_iff_ne.mpr (Ne.symm hg)
      refine ⟨v1, B1, fpA B C1, by rw [List.lookup_cons, hb]; exact h1, h2, by rw [z, h3, ← fpA_assoc, ← fpA_assoc, fpA_comm (A := B)], fun F' H' d' v' B' s k r' => ?_⟩
      simp only [fput, if_neg hg]
      refine ⟨v, _, B, _, rfl, rep_mono s d0 (fun a n => k a (fpA_l n)) r, h4 F' H' d' v' B' s (fun a n => k a (fpA_r n)) r', ?_⟩
      rw [← fpA_assoc, ← fpA_assoc, fpA_comm (A := B')]
theorem repk_at : ∀ {ds : List (KD × D)} {vs : List (KD × V)} {A : FP} {f : KD} {d : D}, Repk K F H ds vs A → look ds f = some d → ∃ v B C, look vs f = some v ∧ Rep K F H d v B ∧ A = fpA B C ∧
    ∀ F' H' d' v' B', Same F F' → (∀ a, C a ≠ 0 → H' a = H a) → Rep K F' H' d' v' B' → Repk K F' H' (kput ds f d') (kput vs f v') (fpA B' C)
  | [], _, _, f, d, _, h => by simp [look] at h
  | (g, d0) :: ds, _, _, f, d, ⟨v, σr, B, C, e, r, q, z⟩, h => by
    subst e
    by_cases hg : g = f
    · subst hg
      simp only [look, if_true] at h
      cases h
      refine ⟨v, B, C, by simp [look], r, z, fun F' H' d' v' B' s k r' => ?_⟩
      simp only [kput, if_true]
      exact ⟨v', σr, B', C, rfl, r', repk_mono s ds k q, rfl⟩
    · simp only [look, if_neg hg] at h
      obtain ⟨v1, B1, C1, h1, h2, h3, h4⟩ := repk_at (f := f) (d := d) q h
      refine ⟨v1, B1, fpA B C1, by simp only [look, if_neg hg]; exact h1, h2, by rw [z, h3, ← fpA_assoc, ← fpA_assoc, fpA_comm (A := B)], fun F' H' d' v' B' s k r' => ?_⟩
      simp only [kput, if_neg hg]
      refine ⟨v, _, B, _, rfl, rep_mono s d0 (fun a n => k a (fpA_l n)) r, h4 F' H' d' v' B' s (fun a n => k a (fpA_r n)) r', ?_⟩
      rw [← fpA_assoc, ← fpA_assoc, fpA_comm (A := B')]
theorem set_same {α : Type} {xs : List α} {i : Nat} {x : α} (h : xs[i]? = some x) : xs.set i x = xs := by
  apply List.ext_getElem?
  intro j
  by_cases e : i = j
  · subst e; rw [List.getElem?_set_self (by rw [List.getElem?_eq_some_iff] at h; exact h.1), h]
  · rw [List.getElem?_set_ne e]
theorem fput_same {α : Type} : ∀ {xs : List (Str × α)} {f : Str} {x : α}, xs.lookup f = some x → fput xs f x = xs
  | [], f, x, h => by simp at h
  | (g, y) :: r, f, x, h => by
    by_cases hg : g = f
    · subst hg
      simp at h
      subst h
      simp [fput]
    · have hb : (f == g) = false := beq_eq_false_iff_ne.mpr (Ne.symm hg)
      rw [List.lookup_cons, hb] at h
      simp only [fput, if_neg hg, fput_same h]
theorem kput_same {α : Type} : ∀ {xs : List (KD × α)} {f : KD} {x : α}, look xs f = some x → kput xs f x = xs
  | [], f, x, h => by simp [look] at h
  | (g, y) :: r, f, x, h => by
    by_cases hg : g = f
    · subst hg
      simp [look] at h
      subst h
      simp [kput]
    · simp only [look, if_neg hg] at h
      simp only [kput, if_neg hg, kput_same h]
/-- how a step is made on values -/
def AccS (K : PySem.W.Frag) (H : Hp) (v : V) (s : Stp) (v1 : V) : Prop := match s with
  | .at k => ∃ p vs, v = .ref p ∧ (H p = some (.lst vs) ∨ H p = some (.tup vs)) ∧ vs[k]? = some v1
  | .fld f => ∃ p c dx vs, v = .ref p ∧ H p = some (.ins c dx vs) ∧ vs.lookup f = some v1
  | .key k => ∃ p t o vs, v = .ref p ∧ Rd H p o ∧ DicO t o vs ∧ look vs k = some v1
/-- one step down: what is there, and how it goes back -/
theorem rep_step (sF : Same F H) {d d1 : D} {v : V} {A : FP} {s : Stp} (r : Rep K F H d v A) (h : getS d s = some d1) : ∃ v1 A1 A2, AccS K H v s v1 ∧ Rep K F H d1 v1 A1 ∧ A = fpA A1 A2 ∧
    ∀ F' H' d' A', Same F F' → (∀ a, A2 a ≠ 0 → H' a = H a) → Rep K F' H' d' v1 A' → Rep K F' H' (putS d s d') v (fpA A' A2) := by
  cases d with
  | tup xs =>
    cases s with
    | «at» k =>
      obtain ⟨p, vs, e, hq, rs⟩ := r
      obtain ⟨v1, B, C, h1, h2, h3, h4⟩ := reps_at rs (show xs[k]? = some d1 from h)
      refine ⟨v1, B, C, ⟨p, vs, e, .inr (sF _ _ hq), h1⟩, h2, h3, fun F' H' d' A' sm kp r' => ?_⟩
      have q := h4 F' H' d' v1 A' sm kp r'
      rw [set_same h1] at q
      exact ⟨p, vs, e, sm _ _ hq, q⟩
    | fld f => simp [getS] at h
    | key k => simp [getS] at h
  | lst m xs =>
    cases s with
    | «at» k =>
      cases m with
      | false =>
        obtain ⟨p, vs, e, hq, rs⟩ := r
        obtain ⟨v1, B, C, h1, h2, h3, h4⟩ := reps_at rs (show xs[k]? = some d1 from h)
        refine ⟨v1, B, C, ⟨p, vs, e, .inl (sF _ _ hq), h1⟩, h2, h3, fun F' H' d' A' sm kp r' => ?_⟩
        have q := h4 F' H' d' v1 A' sm kp r'
        rw [set_same h1] at q
        exact ⟨p, vs, e, sm _ _ hq, q⟩
      | true =>
        obtain ⟨p, vs, B0, e, hq, rs, z⟩ := r
        obtain ⟨v1, B, C, h1, h2, h3, h4⟩ := reps_at rs (show xs[k]? = some d1 from h)
        refine ⟨v1, B, fpA C (fp1 p), ⟨p, vs, e, .inl hq, h1⟩, h2, by rw [z, h3, fpA_assoc], fun F' H' d' A' sm kp r' => ?_⟩
        have q := h4 F' H' d' v1 A' sm (fun a n => kp a (fpA_l n)) r'
        rw [set_same h1] at q
        exact ⟨p, vs, _, e, by rw [kp p (fpA_r (fp1_self p))]; exact hq, q, by rw [fpA_assoc]⟩
    | fld f => simp [getS] at h
    | key k => simp [getS] at h
  | dic m t kvs =>
    cases s with
    | key k =>
      cases m with
      | fr =>
        obtain ⟨p, o, vs, e, hq, g, rs⟩ := r
        obtain ⟨v1, B, C, h1, h2, h3, h4⟩ := repk_at rs (show look kvs k = some d1 from h)
        refine ⟨v1, B, C, ⟨p, t, o, vs, e, rd_same sF hq, g, h1⟩, h2, h3, fun F' H' d' A' sm kp r' => ?_⟩
        have q := h4 F' H' d' v1 A' sm kp r'
        rw [kput_same h1] at q
        exact ⟨p, o, vs, e, rd_same sm hq, g, q⟩
      | lk =>
        obtain ⟨p, od, o, vs, B0, e, hq, g, rs, z⟩ := r
        obtain ⟨v1, B, C, h1, h2, h3, h4⟩ := repk_at rs (show look kvs k = some d1 from h)
        refine ⟨v1, B, fpA C (fp1 p), ⟨p, t, o, vs, e, .inr ⟨od, hq⟩, g, h1⟩, h2, by rw [z, h3, fpA_assoc], fun F' H' d' A' sm kp r' => ?_⟩
        have q := h4 F' H' d' v1 A' sm (fun a n => kp a (fpA_l n)) r'
        rw [kput_same h1] at q
        exact ⟨p, od, o, vs, _, e, by rw [kp p (fpA_r (fp1_self p))]; exact hq, g, q, by rw [fpA_assoc]⟩
      | ow =>
        obtain ⟨p, o, vs, B0, e, hq, g, rs, z⟩ := r
        obtain ⟨v1, B, C, h1, h2, h3, h4⟩ := repk_at rs (show look kvs k = some d1 from h)
        refine ⟨v1, B, fpA C (fp1 p), ⟨p, t, o, vs, e, .inl hq, g, h1⟩, h2, by rw [z, h3, fpA_assoc], fun F' H' d' A' sm kp r' => ?_⟩
        have q := h4 F' H' d' v1 A' sm (fun a n => kp a (fpA_l n)) r'
        rw [kput_same h1] at q
        exact ⟨p, o, vs, _, e, by rw [kp p (fpA_r (fp1_self p))]; exact hq, g, q, by rw [fpA_assoc]⟩
    | fld f => simp [getS] at h
    | «at» k => simp [getS] at h
  | ins C fs =>
    cases s with
    | fld f =>
      obtain ⟨c, p, dx, vs, B0, hc, e, hq, hd, ne, rs, z⟩ := r
      obtain ⟨v1, B, C', h1, h2, h3, h4⟩ := repf_at rs (show flook fs f = some d1 from h)
      refine ⟨v1, B, fpA C' (fpA (fp1 p) (fp1 dx)), ⟨p, _, dx, vs, e, hq, h1⟩, h2, by rw [z, h3, fpA_assoc], fun F' H' d' A' sm kp r' => ?_⟩
      have q := h4 F' H' d' v1 A' sm (fun a n => kp a (fpA_l n)) r'
      rw [fput_same h1] at q
      exact ⟨c, p, dx, vs, _, hc, e, by rw [kp p (fpA_r (fpA_l (fp1_self p)))]; exact hq, by rw [kp dx (fpA_r (fpA_r (fp1_self dx)))]; exact hd, ne, q, by rw [fpA_assoc]⟩
    | key f => simp [getS] at h
    | «at» k => simp [getS] at h
  | non => simp [getS] at h
  | bl _ => simp [getS] at h
  | int _ => simp [getS] at h
  | str _ => simp [getS] at h
  | scr _ => simp [getS] at h
  | gone => simp [getS] at h
/-- v1 stands at a path of a slot: what is there, the footprints, how it goes back -/
structure Loc (K : PySem.W.Frag) (F H : Hp) (ρ : Env) (σ : St) (B : FP) (i : Nat) (st : List Stp) (d1 : D) (v1 : V) (A1 A2 : FP) : Prop where
  get : getE ρ i st = some d1
  rep : Rep K F H d1 v1 A1
  fp : B = fpA A1 A2
  back : ∀ F' H' d' A', Same F F' → (∀ a, A2 a ≠ 0 → H' a = H a) → Rep K F' H' d' v1 A' → SlR K F' H' (putE ρ i st d') σ (fpA A' A2)
theorem loc_var {ρ : Env} {σ : St} {B : FP} {i : Nat} {d : D} (r : SlR K F H ρ σ B) (h : ρ[i]? = some (some d)) : ∃ v A1 A2, σ[i]? = some (some v) ∧ Loc K F H ρ σ B i [] d v A1 A2 := by
  obtain ⟨v, A1, A2, h1, h2, h3, h4⟩ := slr_at r h
  refine ⟨v, A1, A2, h1, ⟨by simp [getE, h, getP], h2, h3, fun F' H' d' A' s k r' => ?_⟩⟩
  have q := h4 F' H' d' v A' s k r'
  rw [set_same h1] at q
  simpa [putE, h, putP] using q
theorem getP_snoc : ∀ {st : List Stp} {d d1 : D} {s : Stp}, getP d st = some d1 → getP d (st ++ [s]) = getS d1 s
  | [], d, d1, s, h => by
    simp only [getP, Option.some.injEq] at h
    subst h
    simp only [List.nil_append, getP]
    split <;> simp_all
  | s0 :: st, d, d1, s, h => by
    simp only [getP, List.cons_append] at h ⊢
    split at h
    · rename_i d2 e
      exact getP_snoc h
    · cases h
theorem putP_snoc : ∀ {st : List Stp} {d d1 d2 : D} {s : Stp} {d' : D}, getP d st = some d1 → getS d1 s = some d2 → putP d (st ++ [s]) d' = putP d st (putS d1 s d')
  | [], d, d1, d2, s, d', h, h2 => by
    simp only [getP, Option.some.injEq] at h
    subst h
    simp [putP, h2]
  | s0 :: st, d, d1, d2, s, d', h, h2 => by
    simp only [getP, List.cons_append, putP] at h ⊢
    split at h
    · rename_i d3 e
      rw [putP_snoc h h2]
    · cases h
theorem loc_step (sF : Same F H) {ρ : Env} {σ : St} {B : FP} {i : Nat} {st : List Stp} {d1 d2 : D} {v1 : V} {A1 A2 : FP} {s : Stp} (L : Loc K F H ρ σ B i st d1 v1 A1 A2) (h : getS d1 s = some d2) :
    ∃ v2 A3 A4, AccS K H v1 s v2 ∧ Loc K F H ρ σ B i (st ++ [s]) d2 v2 A3 A4 := by
  obtain ⟨v2, A3, A4, a, r, z, bk⟩ := rep_step sF L.rep h
  refine ⟨v2, A3, fpA A4 A2, a, ⟨?_, r, by rw [L.fp, z, fpA_assoc], fun F' H' d' A' sm kp r' => ?_⟩⟩
  · have g := L.get
    unfold getE at g ⊢
    split at g
    · rename_i d0 e
      rw [getP_snoc g]; exact h
    · cases g
  · have q := L.back F' H' (putS d1 s d') _ sm (fun a n => kp a (fpA_r n)) (bk F' H' d' A' sm (fun a n => kp a (fpA_l n)) r')
    have g := L.get
    unfold getE at g
    unfold putE at q ⊢
    split at g
    · rename_i d0 e
      rw [putP_snoc g h]
      simp only [e] at q
      rw [← fpA_assoc]
      exact q
    · cases g
end
end L3
namespace L3
open PySem PySem.Spec L2
open PyProof.Rows hiding St
/-- where one stands: the context, what is wished of an exception (by slots), the slots that are never stored, what is wished of an exception of data -/
structure Cy where
  X : Cx
  W : WX
  T : List Nat
  ex : Value → Env → Prop
def AgT (T : List Nat) (σ σ' : St) : Prop := σ'.length = σ.length ∧ ∀ i ∈ T, σ'[i]? = σ[i]?
theorem AgT.refl {T : List Nat} {σ : St} : AgT T σ σ := ⟨rfl, fun _ _ => rfl⟩
theorem AgT.trans {T : List Nat} {σ σ1 σ2 : St} (a : AgT T σ σ1) (b : AgT T σ1 σ2) : AgT T σ σ2 := ⟨b.1.trans a.1, fun i h => (b.2 i h).trans (a.2 i h)⟩
/-- readings over data -/
abbrev DW := Env → (D → Env → Prop) → Prop
abbrev KW := Env → (D → Prop) → Prop
/-- the state over data -/
structure Sd (K : PySem.W.Frag) (F R H : Hp) (ρ : Env) (σ : St) (B : FP) : Prop where
  w : Wd F R H
  s : SlR K F H ρ σ B
  p : Sep F R B
section
variable (Y : Cy)
def StP (F R : Hp) (σ : St) (P : Env → Prop) : St → Hp → Prop := fun σ' H' => ∃ ρ' F' B, Same F F' ∧ Wd F' R H' ∧ SlR Y.X.K F' H' ρ' σ' B ∧ Sep F' R B ∧ AgT Y.T σ σ' ∧ P ρ'
def EvO (F R : Hp) (σ : St) (P : D → Env → Prop) : V → Hp → Prop := fun v H' => ∃ d ρ' F' A B, Same F F' ∧ Wd F' R H' ∧ Rep Y.X.K F' H' d v A ∧ SlR Y.X.K F' H' ρ' σ B ∧ Sep F' R (fpA A B) ∧ P d ρ'
def ExH (F R : Hp) (σ : St) : Prop := ∀ c dx σ' H', StP Y F R σ (Y.ex c) σ' H' → Y.W c dx σ' H'
/-- borrowed -/
def EvK (F R H : Hp) (B : FP) (P : D → Prop) : V → Hp → Prop := fun v H' => ∃ d F' A, Same F F' ∧ (∀ a, B a ≠ 0 → H' a = H a) ∧ Wd F' R H' ∧ Rep Y.X.K F' H' d v A ∧ (∀ a, A a ≤ B a) ∧ Sep F' R B ∧ P d
/-- fresh -/
def EvF (F R H : Hp) (B : FP) (P : D → Prop) : V → Hp → Prop := fun v H' => ∃ d F' A, Same F F' ∧ (∀ a, B a ≠ 0 → H' a = H a) ∧ Wd F' R H' ∧ Rep Y.X.K F' H' d v A ∧ Sep F' R (fpA A B) ∧ P d
def rdE (w : DW) : TE := fun σ H Q => ∃ F R ρ B P, Sd Y.X.K F R H ρ σ B ∧ w ρ P ∧ (∀ v H', EvO Y F R σ P v H' → Q v H') ∧ ExH Y F R σ
def rdK (w : KW) : TE := fun σ H Q => ∃ F R ρ B P, Sd Y.X.K F R H ρ σ B ∧ w ρ P ∧ (∀ v H', EvK Y F R H B P v H' → Q v H') ∧ ExH Y F R σ
def rdF (w : KW) : TE := fun σ H Q => ∃ F R ρ B P, Sd Y.X.K F R H ρ σ B ∧ w ρ P ∧ (∀ v H', EvF Y F R H B P v H' → Q v H') ∧ ExH Y F R σ
/-- a test: the state may change -/
def rdT (w : Env → (Bool → Env → Prop) → Prop) : TT := fun σ H Q => ∃ F R ρ B P, Sd Y.X.K F R H ρ σ B ∧ w ρ P ∧ (∀ b σ' H', σ' = σ → StP Y F R σ (P b) σ' H' → Q b H') ∧ ExH Y F R σ
end
structure DE (Y : Cy) (e : Expr) (w : DW) : Prop where
  run : PE Y.X e (rdE Y w)
structure DK (Y : Cy) (e : Expr) (w : KW) : Prop where
  run : PE Y.X e (rdK Y w)
structure DF (Y : Cy) (e : Expr) (w : KW) : Prop where
  run : PE Y.X e (rdF Y w)
abbrev TW := Env → (Bool → Env → Prop) → Prop
structure DT (Y : Cy) (e : Expr) (w : TW) : Prop where
  run : PT Y.X e (rdT Y w)
/-- a weaker reading -/
theorem PE.imp {X : Cx} {e : Expr} {t t' : TE} (h : PE X e t) (k : ∀ σ H Q, t' σ H Q → t σ H Q) : PE X e t' := ⟨fun pins s σ H Q I q => h.run pins s σ H Q I (k _ _ _ q)⟩
theorem PT.imp {X : Cx} {e : Expr} {t t' : TT} (h : PT X e t) (k : ∀ σ H Q, t' σ H Q → t σ H Q) : PT X e t' := ⟨fun pins s σ H Q I q => h.run pins s σ H Q I (k _ _ _ q)⟩
theorem PS.imp {X : Cx} {e : Stmt} {t t' : TS} (h : PS X e t) (k : ∀ D σ H, t' D σ H → t D σ H) : PS X e t' := ⟨fun pins s σ H D I q => h.run pins s σ H D I (k _ _ _ q)⟩
theorem PSs.imp {X : Cx} {e : List Stmt} {t t' : TS} (h : PSs X e t) (k : ∀ D σ H, t' D σ H → t D σ H) : PSs X e t' := ⟨fun pins s σ H D I q => h.run pins s σ H D I (k _ _ _ q)⟩
section
variable {Y : Cy} {F F' R R' H H' : Hp} {ρ : Env} {σ : St} {A B : FP}
theorem Sd.own (S : Sd Y.X.K F R H ρ σ B) : ∀ a, B a ≠ 0 → ∃ o, H a = some o ∧ NoTup o := slr_own S.s
/-- the state behind something that kept it -/
theorem Sd.keep (S : Sd Y.X.K F R H ρ σ B) (s : Same F F') (k : ∀ a, B a ≠ 0 → H' a = H a) (W : Wd F' R H') (p : Sep F' R B) : Sd Y.X.K F' R H' ρ σ B := ⟨W, slr_mono s k S.s, p⟩
theorem ExH.mono (e : ExH Y F R σ) (s : Same F F') (t : Same R R') (ht : ∀ F₂ H₂ B₂, Wd F₂ R' H₂ → Sep F₂ R' B₂ → Wd F₂ R H₂ ∧ Sep F₂ R B₂) : ExH Y F' R' σ := fun c dx σ' H' ⟨ρ', F₂, B₂, h1, h2, h3, h4, h5, h6⟩ =>
  let ⟨w, p⟩ := ht _ _ _ h2 h4
  e c dx σ' H' ⟨ρ', F₂, B₂, s.trans h1, w, h3, p, h5, h6⟩
theorem ExH.grow (e : ExH Y F R σ) (s : Same F F') : ExH Y F' R σ := e.mono s (Same.refl R) fun _ _ _ a b => ⟨a, b⟩
theorem ExH.hold (e : ExH Y F R σ) (s : Same F F') (W : Wd F' R H) (S : Sep F' R A) : ExH Y F' (hold R H A) σ := by
  refine e.mono s (hold_same W S) fun F₂ H₂ B₂ w p => ?_
  refine ⟨⟨w.f, fun a o e => w.r _ _ (hold_same W S _ _ e), fun a o e => w.a _ _ (hold_same W S _ _ e)⟩, fun a => ⟨(p a).1, fun n => ?_⟩⟩
  obtain ⟨h1, h2⟩ := (p a).2 n
  refine ⟨h1, ?_⟩
  cases q : R a with
  | none => rfl
  | some o => rw [hold_same W S _ _ q] at h2; cases h2
/-! ### masks -/
def mask : Env → Env
  | [] => []
  | none :: ρ => none :: mask ρ
  | some d :: ρ => (if fz d = true then some d else none) :: mask ρ
theorem slr_mask {K : PySem.W.Frag} : ∀ {ρ : Env} {σ : St} {B : FP}, SlR K F H ρ σ B → SlR K F H (mask ρ) σ fp0
  | [], _, _, r => ⟨r.1, rfl⟩
  | none :: ρ, _, _, ⟨v, σr, e, r⟩ => ⟨v, σr, e, slr_mask r⟩
  | some d :: ρ, _, _, ⟨v, σr, B, C, e, r, q, z⟩ => by
    unfold mask
    by_cases h : fz d = true
    · rw [if_pos h]
      have z0 := fz_rep d h r
      subst z0
      exact ⟨v, σr, fp0, fp0, e, r, slr_mask q, fpA_0l.symm⟩
    · rw [if_neg h]
      exact ⟨some v, σr, e, slr_mask q⟩
/-! ### from one judgement to another -/
theorem fp0_le : ∀ a, fp0 a ≤ B a := fun _ => Nat.zero_le _
theorem de_f {e : Expr} {w : KW} (h : DF Y e w) : DE Y e (fun ρ Q => w ρ fun d => Q d ρ) := ⟨PE.imp h.run fun σ H Q ⟨F, R, ρ, B, P, S, hw, hq, hx⟩ =>
  ⟨F, R, ρ, B, _, S, hw, fun v H' ⟨d, F', A, s, k, W, r, p, q⟩ => hq v H' ⟨d, ρ, F', A, B, s, W, r, slr_mono s k S.s, p, q⟩, hx⟩⟩
theorem de_k {e : Expr} {w : KW} (h : DK Y e w) : DE Y e (fun ρ Q => w ρ fun d => fz d = true ∧ Q d ρ) := ⟨PE.imp h.run fun σ H Q ⟨F, R, ρ, B, P, S, hw, hq, hx⟩ =>
  ⟨F, R, ρ, B, _, S, hw, fun v H' ⟨d, F', A, s, k, W, r, l, p, q⟩ => by
    have z := fz_rep d q.1 r
    subst z
    exact hq v H' ⟨d, ρ, F', fp0, B, s, W, r, slr_mono s k S.s, by rw [fpA_0l]; exact p, q.2⟩, hx⟩⟩
theorem df_k {e : Expr} {w : KW} (h : DK Y e w) : DF Y e (fun ρ Q => w ρ fun d => fz d = true ∧ Q d) := ⟨PE.imp h.run fun σ H Q ⟨F, R, ρ, B, P, S, hw, hq, hx⟩ =>
  ⟨F, R, ρ, B, _, S, hw, fun v H' ⟨d, F', A, s, k, W, r, l, p, q⟩ => by
    have z := fz_rep d q.1 r
    subst z
    exact hq v H' ⟨d, F', fp0, s, k, W, r, by rw [fpA_0l]; exact p, q.2⟩, hx⟩⟩
theorem dk_f {e : Expr} {w : KW} (h : DF Y e w) : DK Y e (fun ρ Q => w ρ fun d => Q (frz d)) := ⟨PE.imp h.run fun σ H Q ⟨F, R, ρ, B, P, S, hw, hq, hx⟩ =>
  ⟨F, R, ρ, B, _, S, hw, fun v H' ⟨d, F', A, s, k, W, r, p, q⟩ => by
    have pA : Sep F' R A := p.mono fun a => by unfold fpA; omega
    exact hq v H' ⟨frz d, frzF F' H' A, fp0, s.trans (frzF_same pA), k, W.frz pA, rep_frz (frzF_same pA) d (fun a n => frzF_in n) r, fp0_le, p.frz, q⟩, hx⟩⟩
theorem df_e {e : Expr} {w : DW} (h : DE Y e w) : DF Y e (fun ρ Q => w (mask ρ) fun d _ => Q d) := ⟨PE.imp h.run fun σ H Q ⟨F, R, ρ, B, P, S, hw, hq, hx⟩ => by
  refine ⟨F, hold R H B, mask ρ, fp0, _, ⟨S.w.hold S.p S.own, slr_mask S.s, fun a => ⟨Nat.zero_le _, fun n => absurd rfl n⟩⟩, hw, fun v H' ⟨d, ρ', F', A, B', s, W, r, sl, p, q⟩ => ?_, hx.hold (Same.refl F) S.w S.p⟩
  obtain ⟨W1, p1, k1⟩ := hold_back S.w S.p S.own W (p.mono fun a => show A a ≤ fpA A B' a by unfold fpA; omega)
  exact hq v H' ⟨d, F', A, s, k1, W1, r, by rw [fpA_comm]; exact p1, q⟩⟩
theorem dk_e {e : Expr} {w : DW} (h : DE Y e w) : DK Y e (fun ρ Q => w (mask ρ) fun d _ => Q (frz d)) := dk_f (df_e h)
/-! ### rows of two -/
/-- two that are borrowed -/
theorem k2 {wa wb : KW} {o : D → D → (D → Prop) → Prop} {σ : St} {H : Hp} {Q : VK} {r : R2} {Z : Hp → Hp → Hp → FP → (D → Prop) → V → Hp → Prop}
    (hz : ∀ {F F' R H H' : Hp} {B : FP} {P : D → Prop} {v : V} {H₂ : Hp}, Same F F' → (∀ a, B a ≠ 0 → H' a = H a) → Z F' R H' B P v H₂ → Z F R H B P v H₂)
    (hr : ∀ {F R H : Hp} {B A1 A2 : FP} {x y : V} {d1 d2 : D} {P : D → Prop} {Q : VK}, Wd F R H → (∀ a, B a ≠ 0 → ∃ o, H a = some o ∧ NoTup o) → Sep F R B → Rep Y.X.K F H d1 x A1 → Rep Y.X.K F H d2 y A2 → (∀ a, A1 a ≤ B a) → (∀ a, A2 a ≤ B a) →
      o d1 d2 P → (∀ v H', Z F R H B P v H' → Q v H') → r x y H Q)
    (h : ∃ F R ρ B P, Sd Y.X.K F R H ρ σ B ∧ (wa ρ fun d1 => wb ρ fun d2 => o d1 d2 P) ∧ (∀ v H', Z F R H B P v H' → Q v H') ∧ ExH Y F R σ) :
    rdK Y wa σ H fun x H1 => rdK Y wb σ H1 fun y H2 => r x y H2 Q := by
  obtain ⟨F, R, ρ, B, P, S, hw, hq, hx⟩ := h
  refine ⟨F, R, ρ, B, _, S, hw, fun x H1 ⟨d1, F1, A1, s1, k1, W1, r1, l1, p1, q1⟩ => ?_, hx⟩
  have S1 := S.keep s1 k1 W1 p1
  refine ⟨F1, R, ρ, B, _, S1, q1, fun y H2 ⟨d2, F2, A2, s2, k2, W2, r2, l2, p2, q2⟩ => ?_, hx.grow s1⟩
  have S2 := S1.keep s2 k2 W2 p2
  have r1' : Rep Y.X.K F2 H2 d1 x A1 := rep_mono s2 d1 (fun a n => k2 a (by have := l1 a; omega)) r1
  refine hr W2 S2.own p2 r1' r2 l1 l2 q2 fun v H' z => hq v H' (hz s1 k1 (hz s2 k2 z))
/-- two that are ours -/
theorem e2 {wa wb : DW} {σ : St} {H : Hp} {Q : VK} {r : R2} {o : D → D → (D → Prop) → Prop}
    (hr : ∀ {F R H : Hp} {B A1 A2 : FP} {x y : V} {d1 d2 : D} {P : D → Prop} {Q : VK}, Wd F R H → (∀ a, B a ≠ 0 → ∃ o, H a = some o ∧ NoTup o) → Sep F R (fpA A1 (fpA A2 B)) → Rep Y.X.K F H d1 x A1 → Rep Y.X.K F H d2 y A2 →
      o d1 d2 P → (∀ v H', (∃ d F' A, Same F F' ∧ (∀ a, B a ≠ 0 → H' a = H a) ∧ Wd F' R H' ∧ Rep Y.X.K F' H' d v A ∧ Sep F' R (fpA A B) ∧ P d) → Q v H') → r x y H Q)
    (h : rdE Y (fun ρ Q => wa ρ fun d1 ρ1 => wb ρ1 fun d2 ρ2 => o d1 d2 fun d => Q d ρ2) σ H Q) :
    rdE Y wa σ H fun x H1 => rdE Y wb σ H1 fun y H2 => r x y H2 Q := by
  obtain ⟨F, R, ρ, B, P, S, hw, hq, hx⟩ := h
  refine ⟨F, R, ρ, B, _, S, hw, fun x H1 ⟨d1, ρ1, F1, A1, B1, s1, W1, r1, sl1, p1, q1⟩ => ?_, hx⟩
  have own1 := rep_own d1 r1
  have pA1 : Sep F1 R A1 := p1.mono fun a => by unfold fpA; omega
  refine ⟨F1, hold R H1 A1, ρ1, B1, _, ⟨W1.hold pA1 own1, sl1, p1.hold⟩, q1, fun y H2 ⟨d2, ρ2, F2, A2, B2, s2, W2, r2, sl2, p2, q2⟩ => ?_, hx.hold s1 W1 pA1⟩
  obtain ⟨W3, p3, k3⟩ := hold_back W1 pA1 own1 W2 p2
  have r1' : Rep Y.X.K F2 H2 d1 x A1 := rep_mono s2 d1 k3 r1
  refine hr W3 (slr_own sl2) p3 r1' r2 q2 fun v H' ⟨d, F3, A, s3, k4, W4, r4, p4, q4⟩ => ?_
  exact hq v H' ⟨d, ρ2, F3, A, B2, s1.trans (s2.trans s3), W4, r4, slr_mono s3 k4 sl2, p4, q4⟩
end
end L3
namespace L3
open PySem PySem.Spec L2
open PyProof.Rows hiding St
def Own (H : Hp) (G : FP) : Prop := ∀ a, G a ≠ 0 → ∃ o, H a = some o ∧ NoTup o
def Keep (G : FP) (H H' : Hp) : Prop := ∀ a, G a ≠ 0 → H' a = H a
theorem Keep.refl {G : FP} {H : Hp} : Keep G H H := fun _ _ => rfl
theorem keep_new {G : FP} {H : Hp} {p : Addr} {o : HO} (ow : Own H G) (h : H p = none) : Keep G H (upd H p o) := fun a n => by
  obtain ⟨x, e, _⟩ := ow a n
  rw [upd_ne (ne_of_none e h)]
/-- an operator over data: a fresh value; one that is a part of what is handed in; one that is no object -/
def Op2F (K : PySem.W.Frag) (r : R2) (o : D → D → (D → Prop) → Prop) : Prop := ∀ {F R H : Hp} {G A1 A2 : FP} {x y : V} {d1 d2 : D} {P : D → Prop} {Q : VK}, Wd F R H → Own H G → Sep F R G → Rep K F H d1 x A1 → Rep K F H d2 y A2 →
  (∀ a, A1 a ≤ G a) → (∀ a, A2 a ≤ G a) → o d1 d2 P → (∀ v H', (∃ d F' A, Same F F' ∧ Keep G H H' ∧ Wd F' R H' ∧ Rep K F' H' d v A ∧ Sep F' R (fpA A G) ∧ P d) → Q v H') → r x y H Q
def Op2K (K : PySem.W.Frag) (r : R2) (o : D → D → (D → Prop) → Prop) : Prop := ∀ {F R H : Hp} {G A1 A2 : FP} {x y : V} {d1 d2 : D} {P : D → Prop} {Q : VK}, Wd F R H → Own H G → Sep F R G → Rep K F H d1 x A1 → Rep K F H d2 y A2 →
  (∀ a, A1 a ≤ G a) → (∀ a, A2 a ≤ G a) → o d1 d2 P → (∀ v H', (∃ d F' A, Same F F' ∧ Keep G H H' ∧ Wd F' R H' ∧ Rep K F' H' d v A ∧ (∀ a, A a ≤ A1 a ∨ A a ≤ A2 a) ∧ Sep F' R G ∧ P d) → Q v H') → r x y H Q
def Op2S (K : PySem.W.Frag) (r : R2) (o : D → D → (D → Prop) → Prop) : Prop := ∀ {F H : Hp} {A1 A2 : FP} {x y : V} {d1 d2 : D} {P : D → Prop} {Q : VK}, Same F H → Rep K F H d1 x A1 → Rep K F H d2 y A2 →
  o d1 d2 P → (∀ v, (∃ d, (∀ F' H', Rep K F' H' d v fp0) ∧ P d) → Q v H) → r x y H Q
theorem op2f_s {K r o} (h : Op2S K r o) : Op2F K r o := fun {F R H G A1 A2 x y d1 d2 P Q} W ow S r1 r2 l1 l2 w q =>
  h W.f r1 r2 w fun v ⟨d, rd, p⟩ => q v _ ⟨d, F, fp0, Same.refl F, .refl, W, rd _ _, by rw [fpA_0l]; exact S, p⟩
theorem op2k_s {K r o} (h : Op2S K r o) : Op2K K r o := fun {F R H G A1 A2 x y d1 d2 P Q} W ow S r1 r2 l1 l2 w q =>
  h W.f r1 r2 w fun v ⟨d, rd, p⟩ => q v _ ⟨d, F, fp0, Same.refl F, .refl, W, rd _ _, fun a => .inl (Nat.zero_le _), S, p⟩
section
variable {Y : Cy} {F F' R R' H H' : Hp} {ρ : Env} {σ : St} {A B : FP} {a b c e : Expr} {wa wb wc : KW} {ea eb ec : DW} {pos : Pos} {r r' : R2} {o o' : D → D → (D → Prop) → Prop}
/-! ### two operands -/
theorem ev2f (ha : Op2F Y.X.K r o) {σ : St} {H : Hp} {Q : VK} (h : rdF Y (fun ρ P => wa ρ fun d1 => wb ρ fun d2 => o d1 d2 P) σ H Q) : tOp r (rdK Y wa) (rdK Y wb) σ H Q :=
  k2 (Y := Y) (o := o) (Z := EvF Y) (fun {F F' R H H' B P v H₂} s k ⟨d, F₂, A, s2, k2, W, r, p, q⟩ => ⟨d, F₂, A, s.trans s2, fun a n => (k2 a n).trans (k a n), W, r, p, q⟩)
    (fun W ow S r1 r2 l1 l2 w q => ha W ow S r1 r2 l1 l2 w fun v H' z => q v H' z) h
theorem ev2k (ha : Op2K Y.X.K r o) {σ : St} {H : Hp} {Q : VK} (h : rdK Y (fun ρ P => wa ρ fun d1 => wb ρ fun d2 => o d1 d2 P) σ H Q) : tOp r (rdK Y wa) (rdK Y wb) σ H Q :=
  k2 (Y := Y) (o := o) (Z := EvK Y) (fun {F F' R H H' B P v H₂} s k ⟨d, F₂, A, s2, k2, W, r, l, p, q⟩ => ⟨d, F₂, A, s.trans s2, fun a n => (k2 a n).trans (k a n), W, r, l, p, q⟩)
    (fun {F R H B A1 A2 x y d1 d2 P Q} W ow S r1 r2 l1 l2 w q => ha W ow S r1 r2 l1 l2 w fun v H' ⟨d, F', A, s, k, W', rd, l, p, z⟩ => q v H' ⟨d, F', A, s, k, W', rd, fun a => by
      have h1 := l1 a; have h2 := l2 a; rcases l a with h | h <;> omega, p, z⟩) h
theorem own3 {H : Hp} {A1 A2 B : FP} (h1 : Own H A1) (h2 : Own H A2) (h3 : Own H B) : Own H (fpA A1 (fpA A2 B)) := fun a n => by
  rw [fpA_ne, fpA_ne] at n
  rcases n with n | n | n
  · exact h1 a n
  · exact h2 a n
  · exact h3 a n
theorem ev2e (ha : Op2F Y.X.K r o) {σ : St} {H : Hp} {Q : VK} (h : rdE Y (fun ρ Q => ea ρ fun d1 ρ1 => eb ρ1 fun d2 ρ2 => o d1 d2 fun d => Q d ρ2) σ H Q) : tOp r (rdE Y ea) (rdE Y eb) σ H Q :=
  e2 (Y := Y) (o := o) (fun {F R H B A1 A2 x y d1 d2 P Q} W ow S r1 r2 w q => ha (G := fpA A1 (fpA A2 B)) W (own3 (rep_own d1 r1) (rep_own d2 r2) ow) S r1 r2 (fun a => by unfold fpA; omega) (fun a => by unfold fpA; omega) w
    fun v H' ⟨d, F', A, s, k, W', rd, p, z⟩ => q v H' ⟨d, F', A, s, fun a n => k a (fpA_r (fpA_r n)), W', rd, p.mono fun a => by unfold fpA; omega, z⟩) h
theorem ev2ek (ha : Op2K Y.X.K r o) {σ : St} {H : Hp} {Q : VK} (h : rdE Y (fun ρ Q => ea ρ fun d1 ρ1 => eb ρ1 fun d2 ρ2 => o d1 d2 fun d => Q d ρ2) σ H Q) : tOp r (rdE Y ea) (rdE Y eb) σ H Q :=
  e2 (Y := Y) (o := o) (fun {F R H B A1 A2 x y d1 d2 P Q} W ow S r1 r2 w q => ha (G := fpA A1 (fpA A2 B)) W (own3 (rep_own d1 r1) (rep_own d2 r2) ow) S r1 r2 (fun a => by unfold fpA; omega) (fun a => by unfold fpA; omega) w
    fun v H' ⟨d, F', A, s, k, W', rd, l, p, z⟩ => q v H' ⟨d, F', A, s, fun a n => k a (fpA_r (fpA_r n)), W', rd, p.mono fun a => by
      have := l a; unfold fpA; rcases this with h | h <;> omega, z⟩) h
theorem f_bin {op : Operator} (ho : OpR Y.X (binaryOp op) r) (hk : Op2F Y.X.K r o) (ha : DK Y a wa) (hb : DK Y b wb) : DF Y (.BinOp a op b pos) (fun ρ P => wa ρ fun d1 => wb ρ fun d2 => o d1 d2 P) :=
  ⟨PE.imp (pe_op ho ha.run hb.run) fun σ H Q h => ev2f hk h⟩
theorem k_bin {op : Operator} (ho : OpR Y.X (binaryOp op) r) (hk : Op2S Y.X.K r o) (ha : DK Y a wa) (hb : DK Y b wb) : DK Y (.BinOp a op b pos) (fun ρ P => wa ρ fun d1 => wb ρ fun d2 => o d1 d2 P) :=
  ⟨PE.imp (pe_op ho ha.run hb.run) fun σ H Q h => ev2k (op2k_s hk) h⟩
theorem e_bin {op : Operator} (ho : OpR Y.X (binaryOp op) r) (hk : Op2F Y.X.K r o) (ha : DE Y a ea) (hb : DE Y b eb) : DE Y (.BinOp a op b pos) (fun ρ Q => ea ρ fun d1 ρ1 => eb ρ1 fun d2 ρ2 => o d1 d2 fun d => Q d ρ2) :=
  ⟨PE.imp (pe_op ho ha.run hb.run) fun σ H Q h => ev2e hk h⟩
theorem k_cmp {op : CmpOp} (ho : OpR Y.X (compareOp op) r) (hk : Op2S Y.X.K r o) (hm : behindInMarks op b = false) (ha : DK Y a wa) (hb : DK Y b wb) : DK Y (.Compare a [op] [b] pos) (fun ρ P => wa ρ fun d1 => wb ρ fun d2 => o d1 d2 P) :=
  ⟨PE.imp (pe_cmpR ho ha.run hb.run hm) fun σ H Q h => ev2k (op2k_s hk) h⟩
theorem e_cmp {op : CmpOp} (ho : OpR Y.X (compareOp op) r) (hk : Op2S Y.X.K r o) (hm : behindInMarks op b = false) (ha : DE Y a ea) (hb : DE Y b eb) : DE Y (.Compare a [op] [b] pos) (fun ρ Q => ea ρ fun d1 ρ1 => eb ρ1 fun d2 ρ2 => o d1 d2 fun d => Q d ρ2) :=
  ⟨PE.imp (pe_cmpR ho ha.run hb.run hm) fun σ H Q h => ev2e (op2f_s hk) h⟩
/-- o[i] -/
theorem k_ix (ho : IxR Y.X r) (hk : Op2K Y.X.K r o) (hs : PlainIx b) (ha : DK Y a wa) (hb : DK Y b wb) : DK Y (.Subscript a b pos) (fun ρ P => wa ρ fun d1 => wb ρ fun d2 => o d1 d2 P) :=
  ⟨PE.imp (pe_ix ho ha.run hb.run hs) fun σ H Q h => ev2k hk h⟩
theorem e_ix (ho : IxR Y.X r) (hk : Op2K Y.X.K r o) (hs : PlainIx b) (ha : DE Y a ea) (hb : DE Y b eb) : DE Y (.Subscript a b pos) (fun ρ Q => ea ρ fun d1 ρ1 => eb ρ1 fun d2 ρ2 => o d1 d2 fun d => Q d ρ2) :=
  ⟨PE.imp (pe_ix ho ha.run hb.run hs) fun σ H Q h => ev2ek hk h⟩
/-! ### names, constants -/
def gv (ρ : Env) (i : Nat) (P : D → Prop) : Prop := match ρ[i]? with
  | some (some d) => P d
  | _ => False
theorem gv_some {ρ : Env} {i : Nat} {P : D → Prop} (h : gv ρ i P) : ∃ d, ρ[i]? = some (some d) ∧ P d := by
  unfold gv at h
  split at h
  · rename_i d e; exact ⟨d, e, h⟩
  · exact h.elim
theorem k_var (i : Nat) {x : Str} {pos : Pos} (hN : Y.X.N[i]? = some x := by rfl) (hv : Vis Y.X.env.scope x := by first | exact Or.inl rfl | exact Or.inr (Or.inl rfl) | exact Or.inr (Or.inr rfl)) (hd : (x == ("__debug__" : Str)) = false := by decide)
    (hcd : (x == ("__classdict__" : Str)) = false := by decide) : DK Y (.Name x pos) (fun ρ P => gv ρ i P) := ⟨PE.imp (pe_var hN hv hd hcd) fun σ H Q ⟨F, R, ρ, B, P, S, hw, hq, hx⟩ => by
  obtain ⟨d, e, p⟩ := gv_some hw
  obtain ⟨v, A, h1, h2, h3⟩ := slr_get S.s e
  exact ⟨v, h1, hq v H ⟨d, F, A, Same.refl F, fun _ _ => rfl, S.w, h2, h3, S.p, p⟩⟩⟩
theorem k_c {e : Expr} {v : V} {d : D} (h : PE Y.X e (tC v)) (rd : ∀ F H, Rep Y.X.K F H d v fp0) : DK Y e (fun ρ P => P d) := ⟨PE.imp h fun σ H Q ⟨F, R, ρ, B, P, S, hw, hq, hx⟩ =>
  hq v H ⟨d, F, fp0, Same.refl F, fun _ _ => rfl, S.w, rd F H, fp0_le, S.p, hw⟩⟩
theorem k_int {i j pos} : DK Y (.Constant (.int i) j pos) (fun ρ P => P (.int i)) := k_c pe_int fun _ _ => ⟨rfl, rfl⟩
theorem k_bl {i j pos} : DK Y (.Constant (.bool i) j pos) (fun ρ P => P (.bl i)) := k_c pe_bl fun _ _ => ⟨rfl, rfl⟩
theorem k_non {j pos} : DK Y (.Constant .none j pos) (fun ρ P => P .non) := k_c pe_non fun _ _ => ⟨rfl, rfl⟩
theorem k_str {i j pos} : DK Y (.Constant (.str i) j pos) (fun ρ P => P (.str i)) := k_c pe_str fun _ _ => ⟨rfl, rfl⟩
theorem k_gstr {x : Str} {z : Str} {t : Tok} {pos : Pos} (hm : Y.X.mg x = some (.str z t)) (hg : Gl Y.X x := by rfl) (hd : (x == ("__debug__" : Str)) = false := by decide) : DK Y (.Name x pos) (fun ρ P => P (.str z)) := k_c (pe_glob hg hm (show RelV (.str z) _ from ⟨t, rfl⟩) hd) fun _ _ => ⟨rfl, rfl⟩
theorem k_gint {x : Str} {z : Int} {t : Tok} {pos : Pos} (hm : Y.X.mg x = some (.int z t)) (hg : Gl Y.X x := by rfl) (hd : (x == ("__debug__" : Str)) = false := by decide) : DK Y (.Name x pos) (fun ρ P => P (.int z)) := k_c (pe_glob hg hm (show RelV (.int z) _ from ⟨t, rfl⟩) hd) fun _ _ => ⟨rfl, rfl⟩
/-- a name that is frozen where it stands -/
theorem e_var (i : Nat) {x : Str} {pos : Pos} (hN : Y.X.N[i]? = some x := by rfl) (hv : Vis Y.X.env.scope x := by first | exact Or.inl rfl | exact Or.inr (Or.inl rfl) | exact Or.inr (Or.inr rfl)) (hd : (x == ("__debug__" : Str)) = false := by decide)
    (hcd : (x == ("__classdict__" : Str)) = false := by decide) : DE Y (.Name x pos) (fun ρ Q => gv ρ i fun d => Q (frz d) (ρ.set i (some (frz d)))) := ⟨PE.imp (pe_var hN hv hd hcd) fun σ H Q ⟨F, R, ρ, B, P, S, hw, hq, hx⟩ => by
  obtain ⟨d, e, p⟩ := gv_some hw
  obtain ⟨v, A, C, h1, h2, h3, h4⟩ := slr_at S.s e
  have p1 : Sep F R (fpA A C) := by rw [← h3]; exact S.p
  have pA : Sep F R A := p1.mono fun a => by unfold fpA; omega
  have rf : Rep Y.X.K (frzF F H A) H (frz d) v fp0 := rep_frz (frzF_same pA) d (fun a n => frzF_in n) h2
  have q := h4 (frzF F H A) H (frz d) v fp0 (frzF_same pA) (fun _ _ => rfl) rf
  rw [set_same h1, fpA_0l] at q
  exact ⟨v, h1, hq v H ⟨frz d, _, _, fp0, C, frzF_same pA, S.w.frz pA, rf, q, by rw [fpA_0l]; exact p1.frz, p⟩⟩⟩
/-- .. that is handed on, and not asked again -/
theorem e_mv (i : Nat) {x : Str} {pos : Pos} (hN : Y.X.N[i]? = some x := by rfl) (hv : Vis Y.X.env.scope x := by first | exact Or.inl rfl | exact Or.inr (Or.inl rfl) | exact Or.inr (Or.inr rfl)) (hd : (x == ("__debug__" : Str)) = false := by decide)
    (hcd : (x == ("__classdict__" : Str)) = false := by decide) : DE Y (.Name x pos) (fun ρ Q => gv ρ i fun d => Q d (ρ.set i (some .gone))) := ⟨PE.imp (pe_var hN hv hd hcd) fun σ H Q ⟨F, R, ρ, B, P, S, hw, hq, hx⟩ => by
  obtain ⟨d, e, p⟩ := gv_some hw
  obtain ⟨v, A, C, h1, h2, h3, h4⟩ := slr_at S.s e
  have p1 : Sep F R (fpA A C) := by rw [← h3]; exact S.p
  have q := h4 F H .gone v fp0 (Same.refl F) (fun _ _ => rfl) rfl
  rw [set_same h1, fpA_0l] at q
  exact ⟨v, h1, hq v H ⟨d, _, F, A, C, Same.refl F, S.w, h2, q, p1, p⟩⟩⟩
end
end L3
namespace L3
open PySem PySem.Spec L2
open PyProof.Rows hiding St
section
variable {K : PySem.W.Frag} {F F' H H' : Hp}
theorem rep_int {i : Int} : Rep K F H (.int i) (.int i) fp0 := ⟨rfl, rfl⟩
theorem rep_bl {i : Bool} : Rep K F H (.bl i) (.bl i) fp0 := ⟨rfl, rfl⟩
theorem rep_str {i : Str} : Rep K F H (.str i) (.str i) fp0 := ⟨rfl, rfl⟩
theorem rep_non : Rep K F H .non .non fp0 := ⟨rfl, rfl⟩
theorem reps_append : ∀ {xs ys : List D} {vs ws : List V} {A B : FP}, Reps K F H xs vs A → Reps K F H ys ws B → Reps K F H (xs ++ ys) (vs ++ ws) (fpA A B)
  | [], ys, _, _, _, _, ⟨e, z⟩, r => by subst e z; simpa [fpA_0l] using r
  | x :: xs, ys, _, _, _, _, ⟨v, vr, B, C, e, r, q, z⟩, r2 => by
    subst e z
    exact ⟨v, _, B, _, rfl, r, reps_append q r2, fpA_assoc⟩
theorem reps_take : ∀ {xs : List D} {vs : List V} {A : FP} (n : Nat), Reps K F H xs vs A → fzs xs = true → Reps K F H (xs.take n) (vs.take n) fp0
  | xs, vs, _, 0, _, _ => by simp only [List.take_zero]; exact ⟨rfl, rfl⟩
  | [], _, _, n + 1, ⟨e, z⟩, _ => by subst e; exact ⟨rfl, rfl⟩
  | x :: xs, _, _, n + 1, ⟨v, vr, B, C, e, r, q, z⟩, h => by
    subst e
    simp only [fzs, Bool.and_eq_true] at h
    have zB := fz_rep x h.1 r
    subst zB
    exact ⟨v, _, fp0, fp0, rfl, r, reps_take n q h.2, fpA_0l.symm⟩
theorem reps_drop : ∀ {xs : List D} {vs : List V} {A : FP} (n : Nat), Reps K F H xs vs A → fzs xs = true → Reps K F H (xs.drop n) (vs.drop n) fp0
  | xs, vs, _, 0, r, h => by rw [fzs_reps xs h r] at r; exact r
  | [], _, _, n + 1, ⟨e, z⟩, _ => by subst e; exact ⟨rfl, rfl⟩
  | x :: xs, _, _, n + 1, ⟨v, vr, B, C, e, r, q, z⟩, h => by
    subst e
    simp only [fzs, Bool.and_eq_true] at h
    exact reps_drop n q h.2
theorem fzs_append {xs ys : List D} : fzs (xs ++ ys) = (fzs xs && fzs ys) := by
  induction xs with
  | nil => rfl
  | cons x xs ih => simp [fzs, ih, Bool.and_assoc]
theorem fzs_take {xs : List D} (n : Nat) (h : fzs xs = true) : fzs (xs.take n) = true := by
  induction xs generalizing n with
  | nil => simp [fzs]
  | cons x xs ih =>
    cases n with
    | zero => rfl
    | succ n => simp only [fzs, Bool.and_eq_true, List.take_succ_cons] at h ⊢; exact ⟨h.1, ih n h.2⟩
theorem fzs_drop {xs : List D} (n : Nat) (h : fzs xs = true) : fzs (xs.drop n) = true := by
  induction xs generalizing n with
  | nil => simp [fzs]
  | cons x xs ih =>
    cases n with
    | zero => exact h
    | succ n => simp only [fzs, Bool.and_eq_true, List.drop_succ_cons] at h ⊢; exact ih n h.2
theorem fzs_get {xs : List D} {k : Nat} {d : D} (h : fzs xs = true) (e : xs[k]? = some d) : fz d = true := by
  induction xs generalizing k with
  | nil => simp at e
  | cons x xs ih =>
    simp only [fzs, Bool.and_eq_true] at h
    cases k with
    | zero => simp at e; rw [← e]; exact h.1
    | succ k => exact ih h.2 (by simpa using e)
theorem reps_get {xs : List D} {vs : List V} {A : FP} {k : Nat} {d : D} (r : Reps K F H xs vs A) (e : xs[k]? = some d) : ∃ v B, vs[k]? = some v ∧ Rep K F H d v B ∧ ∀ a, B a ≤ A a := by
  obtain ⟨v, B, C, h1, h2, h3, _⟩ := reps_at r e
  exact ⟨v, B, h1, h2, fun a => by rw [h3]; unfold fpA; omega⟩
theorem reps_atI {xs : List D} {vs : List V} {A : FP} {i : Int} {d : D} (r : Reps K F H xs vs A) (e : atI xs i = some d) : ∃ v B, atI vs i = some v ∧ Rep K F H d v B ∧ ∀ a, B a ≤ A a := by
  unfold atI at e ⊢
  rw [reps_len r]
  cases q : ixN xs.length i with
  | none => rw [q] at e; cases e
  | some j =>
    rw [q] at e
    exact reps_get r e
/-- a new list, a new tuple of ours -/
theorem new_lst {F R H : Hp} {G : FP} {p : Addr} {xs : List D} {vs : List V} (W : Wd F R H) (ow : Own H G) (S : Sep F R G) (h : H p = none) (r : Reps K F H xs vs fp0) (hf : fzs xs = true) :
    ∃ F' A, Same F F' ∧ Keep G H (upd H p (.lst vs)) ∧ Wd F' R (upd H p (.lst vs)) ∧ Rep K F' (upd H p (.lst vs)) (.lst true xs) (.ref p) A ∧ Sep F' R (fpA A G) := by
  refine ⟨F, fp1 p, Same.refl F, keep_new ow h, W.mine h, ⟨p, vs, fp0, rfl, upd_same, reps_mono (Same.refl F) xs (fun a n => absurd rfl n) r, fpA_0l.symm⟩, ?_⟩
  rw [fpA_comm]
  exact S.mine W ow h
theorem new_tup {F R H : Hp} {G : FP} {p : Addr} {xs : List D} {vs : List V} (W : Wd F R H) (ow : Own H G) (S : Sep F R G) (h : H p = none) (r : Reps K F H xs vs fp0) (hf : fzs xs = true) :
    ∃ F' A, Same F F' ∧ Keep G H (upd H p (.tup vs)) ∧ Wd F' R (upd H p (.tup vs)) ∧ Rep K F' (upd H p (.tup vs)) (.tup xs) (.ref p) A ∧ Sep F' R (fpA A G) := by
  refine ⟨upd F p (.tup vs), fp0, W.newf h, keep_new ow h, W.new h, ⟨p, vs, rfl, upd_same, reps_mono (W.newf h) xs (fun a n => absurd rfl n) r⟩, ?_⟩
  rw [fpA_0l]
  exact S.new W ow h
end
/-! ### + -/
def oAdd : D → D → (D → Prop) → Prop
  | .int i, .int j, P => P (.int (i + j))
  | .str x, .str y, P => x.length + y.length ≤ sizeLine ∧ P (.str (x ++ y))
  | .lst _ xs, .lst _ ys, P => fzs xs = true ∧ fzs ys = true ∧ xs.length + ys.length ≤ sizeLine ∧ P (.lst true (xs ++ ys))
  | .tup xs, .tup ys, P => fzs xs = true ∧ fzs ys = true ∧ xs.length + ys.length ≤ sizeLine ∧ P (.tup (xs ++ ys))
  | _, _, _ => False
def rAddI : R2 := rI0 fun i j => .int (i + j)
def rAddS : R2 := fun x y H Q => ∃ i j, x = .str i ∧ y = .str j ∧ i.length + j.length ≤ sizeLine ∧ Q (.str (i ++ j)) H
def rAddA (K : PySem.W.Frag) : R2 := fun x y H Q => rAddI x y H Q ∨ rAddS x y H Q ∨ rCat x y H Q ∨ rCatA K x y H Q
theorem opr_add {X : Cx} : OpR X (binaryOp .Add) (rAddA X.K) := OpR.or op_add (OpR.or op_add_str (OpR.or op_cat op_catA))
theorem lst_at {K : PySem.W.Frag} {F H : Hp} {m : Bool} {xs : List D} {v : V} {A : FP} (s : Same F H) (r : Rep K F H (.lst m xs) v A) : ∃ p vs, v = .ref p ∧ H p = some (.lst vs) ∧ ∃ B, Reps K F H xs vs B ∧ ∀ a, B a ≤ A a := by
  cases m with
  | false => obtain ⟨p, vs, e, h, q⟩ := r; exact ⟨p, vs, e, s _ _ h, A, q, fun _ => Nat.le_refl _⟩
  | true => obtain ⟨p, vs, B, e, h, q, z⟩ := r; exact ⟨p, vs, e, h, B, q, fun a => by rw [z]; unfold fpA; omega⟩
theorem op2_add {K : PySem.W.Frag} : Op2F K (rAddA K) oAdd := fun {F R H G A1 A2 x y d1 d2 P Q} W ow S r1 r2 l1 l2 w q => by
  cases d1 with
  | int i =>
    cases d2 with
    | int j =>
      obtain ⟨rfl, rfl⟩ := r1
      obtain ⟨rfl, rfl⟩ := r2
      exact .inl ⟨i, j, rfl, rfl, q _ _ ⟨.int (i + j), F, fp0, Same.refl F, .refl, W, rep_int, by rw [fpA_0l]; exact S, w⟩⟩
    | _ => exact w.elim
  | str i =>
    cases d2 with
    | str j =>
      obtain ⟨rfl, rfl⟩ := r1
      obtain ⟨rfl, rfl⟩ := r2
      exact .inr (.inl ⟨i, j, rfl, rfl, w.1, q _ _ ⟨.str (i ++ j), F, fp0, Same.refl F, .refl, W, rep_str, by rw [fpA_0l]; exact S, w.2⟩⟩)
    | _ => exact w.elim
  | lst m xs =>
    cases d2 with
    | lst m2 ys =>
      obtain ⟨h1, h2, h3, h4⟩ := w
      obtain ⟨p, vs, rfl, e1, B1, q1, _⟩ := lst_at W.f r1
      obtain ⟨p2, vs2, rfl, e2, B2, q2, _⟩ := lst_at W.f r2
      rw [fzs_reps xs h1 q1] at q1
      rw [fzs_reps ys h2 q2] at q2
      refine .inr (.inr (.inl ⟨p, p2, vs, vs2, rfl, rfl, e1, e2, by rw [reps_len q1, reps_len q2]; exact h3, fun n hn => ?_⟩))
      have rr := reps_append q1 q2
      rw [fpA_0l] at rr
      have hz : fzs (xs ++ ys) = true := by rw [fzs_append, h1, h2]; rfl
      obtain ⟨F', A, s, k, W', rd, p'⟩ := new_lst W ow S hn rr hz
      exact q _ _ ⟨_, F', A, s, k, W', rd, p', h4⟩
    | _ => exact w.elim
  | tup xs =>
    cases d2 with
    | tup ys =>
      obtain ⟨h1, h2, h3, h4⟩ := w
      obtain ⟨p, vs, rfl, e1, q1⟩ := r1
      obtain ⟨p2, vs2, rfl, e2, q2⟩ := r2
      rw [fzs_reps xs h1 q1] at q1
      rw [fzs_reps ys h2 q2] at q2
      refine .inr (.inr (.inr ⟨p, p2, vs, vs2, rfl, rfl, SqT.of (W.f _ _ e1), SqT.of (W.f _ _ e2), by rw [reps_len q1, reps_len q2]; exact h3, fun z => ?_, fun _ z => ?_, fun _ _ n hn => ?_⟩))
      · have zx : xs = [] := by
          have := reps_len q1
          rw [z] at this
          exact List.length_eq_zero_iff.mp this.symm
        subst zx
        exact q _ _ ⟨.tup ys, F, fp0, Same.refl F, .refl, W, ⟨p2, vs2, rfl, e2, q2⟩, by rw [fpA_0l]; exact S, h4⟩
      · have zx : ys = [] := by
          have := reps_len q2
          rw [z] at this
          exact List.length_eq_zero_iff.mp this.symm
        subst zx
        exact q _ _ ⟨.tup (xs ++ []), F, fp0, Same.refl F, .refl, W, by rw [List.append_nil]; exact ⟨p, vs, rfl, e1, q1⟩, by rw [fpA_0l]; exact S, h4⟩
      · have rr := reps_append q1 q2
        rw [fpA_0l] at rr
        have hz : fzs (xs ++ ys) = true := by rw [fzs_append, h1, h2]; rfl
        obtain ⟨F', A, s, k, W', rd, p'⟩ := new_tup W ow S hn rr hz
        exact q _ _ ⟨_, F', A, s, k, W', rd, p', h4⟩
    | _ => exact w.elim
  | _ => exact w.elim
end L3
namespace L3
open PySem PySem.Spec L2
open PyProof.Rows hiding St
/-! ### ints -/
def oI (C : Int → Int → Prop) (g : Int → Int → D) : D → D → (D → Prop) → Prop
  | .int i, .int j, P => C i j ∧ P (g i j)
  | _, _, _ => False
theorem op2_I {K : PySem.W.Frag} {C : Int → Int → Prop} {g : Int → Int → D} {gV : Int → Int → V} (hg : ∀ i j F H, Rep K F H (g i j) (gV i j) fp0) : Op2S K (rI C gV) (oI C g) := fun {F H A1 A2 x y d1 d2 P Q} s r1 r2 w q => by
  cases d1 with
  | int i =>
    cases d2 with
    | int j =>
      obtain ⟨rfl, rfl⟩ := r1
      obtain ⟨rfl, rfl⟩ := r2
      exact ⟨i, j, rfl, rfl, w.1, q _ ⟨g i j, hg i j, w.2⟩⟩
    | _ => exact w.elim
  | _ => exact w.elim
def oI0 (g : Int → Int → D) : D → D → (D → Prop) → Prop
  | .int i, .int j, P => P (g i j)
  | _, _, _ => False
theorem op2_I0 {K : PySem.W.Frag} {g : Int → Int → D} {gV : Int → Int → V} (hg : ∀ i j F H, Rep K F H (g i j) (gV i j) fp0) : Op2S K (rI0 gV) (oI0 g) := fun {F H A1 A2 x y d1 d2 P Q} s r1 r2 w q => by
  cases d1 with
  | int i =>
    cases d2 with
    | int j =>
      obtain ⟨rfl, rfl⟩ := r1
      obtain ⟨rfl, rfl⟩ := r2
      exact ⟨i, j, rfl, rfl, q _ ⟨g i j, hg i j, w⟩⟩
    | _ => exact w.elim
  | _ => exact w.elim
abbrev oSub := oI0 fun i j => .int (i - j)
abbrev oMul := oI CMul fun i j => .int (i * j)
abbrev oMod := oI (fun _ j => 0 < j) fun i j => .int (i % j)
abbrev oDiv := oI CDiv fun i j => .int (i / j)
abbrev oPow := oI CPow fun i j => .int (i ^ j.toNat)
abbrev oLtI := oI0 fun i j => .bl (decide (i < j))
abbrev oLeI := oI0 fun i j => .bl (decide (i ≤ j))
abbrev oGtI := oI0 fun i j => .bl (decide (j < i))
abbrev oGeI := oI0 fun i j => .bl (decide (j ≤ i))
theorem op2_sub {K} : Op2S K (rI0 fun i j => .int (i - j)) oSub := op2_I0 fun _ _ _ _ => rep_int
theorem op2_mul {K} : Op2S K (rI CMul fun i j => .int (i * j)) oMul := op2_I fun _ _ _ _ => rep_int
theorem op2_mod {K} : Op2S K (rI (fun _ j => 0 < j) fun i j => .int (i % j)) oMod := op2_I fun _ _ _ _ => rep_int
theorem op2_div {K} : Op2S K (rI CDiv fun i j => .int (i / j)) oDiv := op2_I fun _ _ _ _ => rep_int
theorem op2_pow {K} : Op2S K (rI CPow fun i j => .int (i ^ j.toNat)) oPow := op2_I fun _ _ _ _ => rep_int
theorem op2_ltI {K} : Op2S K (rI0 fun i j => .bl (decide (i < j))) oLtI := op2_I0 fun _ _ _ _ => rep_bl
theorem op2_leI {K} : Op2S K (rI0 fun i j => .bl (decide (i ≤ j))) oLeI := op2_I0 fun _ _ _ _ => rep_bl
theorem op2_gtI {K} : Op2S K (rI0 fun i j => .bl (decide (j < i))) oGtI := op2_I0 fun _ _ _ _ => rep_bl
theorem op2_geI {K} : Op2S K (rI0 fun i j => .bl (decide (j ≤ i))) oGeI := op2_I0 fun _ _ _ _ => rep_bl
/-! ### == -/
mutual
def toPy : D → PyData
  | .non => .none
  | .bl b => .bool b
  | .int i => .int i
  | .str x => .str x
  | .tup xs => .tuple (toPys xs)
  | .lst _ xs => .list (toPys xs)
  | .scr xs => .list (xs.map PyData.int)
  | .dic _ _ _ => .none
  | .ins _ _ => .none
  | .gone => .none
def toPys : List D → List PyData
  | [] => []
  | x :: xs => toPy x :: toPys xs
end
mutual
/-- data that == can be asked of: no dicts, no objects, at most n within one another -/
def pyOk : Nat → D → Bool
  | _, .non => true
  | _, .bl _ => true
  | _, .int _ => true
  | _, .str x => PySem.PyData.strOk x
  | n + 1, .tup xs => pyOks n xs
  | n + 1, .lst _ xs => pyOks n xs
  | _ + 1, .scr _ => true
  | _, _ => false
def pyOks : Nat → List D → Bool
  | _, [] => true
  | n, x :: xs => pyOk n x && pyOks n xs
end
section
variable {K : PySem.W.Frag} {F H : Hp}
theorem dp_ints : ∀ (xs : List Int), DpAll K H (xs.map V.int) (xs.map PyData.int)
  | [] => .nil
  | x :: xs => .cons (.int x) (dp_ints xs)
mutual
theorem rep_dp (s : Same F H) : ∀ (n : Nat) (d : D) {v : V} {A : FP}, pyOk n d = true → Rep K F H d v A → Dp K H v (toPy d)
  | _, .non, _, _, _, r => by rw [r.1]; exact .non
  | _, .bl b, _, _, _, r => by rw [r.1]; exact .bl b
  | _, .int b, _, _, _, r => by rw [r.1]; exact .int b
  | _, .str b, _, _, _, r => by rw [r.1]; exact .str b
  | 0, .tup xs, _, _, h, _ => by simp [pyOk] at h
  | n + 1, .tup xs, _, _, h, ⟨p, vs, e, hq, r⟩ => by
    subst e
    exact .tup (SqT.of (s _ _ hq)) (reps_dp s n xs (by simpa [pyOk] using h) r)
  | 0, .lst _ xs, _, _, h, _ => by simp [pyOk] at h
  | n + 1, .lst m xs, _, _, h, r => by
    obtain ⟨p, vs, e, hq, B, q, _⟩ := lst_at s r
    subst e
    exact .lst (SqL.of hq) (reps_dp s n xs (by simpa [pyOk] using h) q)
  | 0, .scr _, _, _, h, _ => by simp [pyOk] at h
  | n + 1, .scr xs, _, _, h, ⟨p, e, hq, z⟩ => by
    subst e
    exact .lst (s.seq hq) (dp_ints xs)
  | _, .dic _ _ _, _, _, h, _ => by simp [pyOk] at h
  | _, .ins _ _, _, _, h, _ => by simp [pyOk] at h
  | _, .gone, _, _, h, _ => by simp [pyOk] at h
theorem reps_dp (s : Same F H) : ∀ (n : Nat) (ds : List D) {vs : List V} {A : FP}, pyOks n ds = true → Reps K F H ds vs A → DpAll K H vs (toPys ds)
  | _, [], _, _, _, r => by rw [r.1]; exact .nil
  | n, x :: xs, _, _, h, ⟨v, vr, B, C, e, r, q, z⟩ => by
    subst e
    simp only [pyOks, Bool.and_eq_true] at h
    exact .cons (rep_dp s n x h.1 r) (reps_dp s n xs h.2 q)
end
theorem lay_ints : ∀ (xs : List Int), PyData.canLayAll0 (xs.map PyData.int) = true
  | [] => rfl
  | x :: xs => by simp [PyData.canLayAll0, PyData.canLay0, lay_ints xs]
theorem depth_ints : ∀ (xs : List Int), PyData.depthAll (xs.map PyData.int) = 0
  | [] => rfl
  | x :: xs => by simp [PyData.depthAll, PyData.depth, depth_ints xs]
mutual
theorem pyOk_lay : ∀ (n : Nat) (d : D), pyOk n d = true → (toPy d).canLay0 = true ∧ (toPy d).depth ≤ n
  | _, .non, _ => by simp [toPy, PyData.canLay0, PyData.depth]
  | _, .bl b, _ => by simp [toPy, PyData.canLay0, PyData.depth]
  | _, .int b, _ => by simp [toPy, PyData.canLay0, PyData.depth]
  | _, .str b, h => by
    simp only [pyOk] at h
    simp [toPy, PyData.canLay0, PyData.depth, h]
  | 0, .tup xs, h => by simp [pyOk] at h
  | n + 1, .tup xs, h => by
    have := pyOks_lay n xs (by simpa [pyOk] using h)
    simp only [toPy, PyData.canLay0, PyData.depth]
    exact ⟨this.1, by omega⟩
  | 0, .lst _ xs, h => by simp [pyOk] at h
  | n + 1, .lst m xs, h => by
    have := pyOks_lay n xs (by simpa [pyOk] using h)
    simp only [toPy, PyData.canLay0, PyData.depth]
    exact ⟨this.1, by omega⟩
  | 0, .scr _, h => by simp [pyOk] at h
  | n + 1, .scr xs, h => by
    simp only [toPy, PyData.canLay0, PyData.depth, lay_ints, depth_ints]
    exact ⟨trivial, by omega⟩
  | _, .dic _ _ _, h => by simp [pyOk] at h
  | _, .ins _ _, h => by simp [pyOk] at h
  | _, .gone, h => by simp [pyOk] at h
theorem pyOks_lay : ∀ (n : Nat) (ds : List D), pyOks n ds = true → PyData.canLayAll0 (toPys ds) = true ∧ PyData.depthAll (toPys ds) ≤ n
  | _, [], _ => by simp [toPys, PyData.canLayAll0, PyData.depthAll]
  | n, x :: xs, h => by
    simp only [pyOks, Bool.and_eq_true] at h
    have h1 := pyOk_lay n x h.1
    have h2 := pyOks_lay n xs h.2
    simp only [toPys, PyData.canLayAll0, PyData.depthAll, h1.1, h2.1, Bool.and_self, true_and]
    omega
end
theorem pyOk_shaped {d : D} (h : pyOk 64 d = true) : SeqAt.shaped (toPy d) = true := by
  have := pyOk_lay 64 d h
  unfold SeqAt.shaped
  rw [this.1, decide_eq_true this.2]; rfl
end
/-- d == e -/
def deq (d e : D) : Bool := PyData.eqv (toPy d) (toPy e)
def oEq : D → D → (D → Prop) → Prop := fun d e P => pyOk 64 d = true ∧ pyOk 64 e = true ∧ P (.bl (deq d e))
def oNe : D → D → (D → Prop) → Prop := fun d e P => pyOk 64 d = true ∧ pyOk 64 e = true ∧ P (.bl (!deq d e))
theorem op2_eq {K} : Op2S K (rEqD K) oEq := fun {F H A1 A2 x y d1 d2 P Q} s r1 r2 w q =>
  ⟨_, _, rep_dp s 64 d1 w.1 r1, rep_dp s 64 d2 w.2.1 r2, pyOk_shaped w.1, pyOk_shaped w.2.1, q _ ⟨.bl (deq d1 d2), fun _ _ => rep_bl, w.2.2⟩⟩
theorem op2_ne {K} : Op2S K (rNeD K) oNe := fun {F H A1 A2 x y d1 d2 P Q} s r1 r2 w q =>
  ⟨_, _, rep_dp s 64 d1 w.1 r1, rep_dp s 64 d2 w.2.1 r2, pyOk_shaped w.1, pyOk_shaped w.2.1, q _ ⟨.bl (!deq d1 d2), fun _ _ => rep_bl, w.2.2⟩⟩
/-! ### is None -/
def oIsN : D → D → (D → Prop) → Prop
  | .gone, _, _ => False
  | d, .non, P => P (.bl (match d with | .non => true | _ => false))
  | _, _, _ => False
def oNotN : D → D → (D → Prop) → Prop
  | .gone, _, _ => False
  | d, .non, P => P (.bl (match d with | .non => false | _ => true))
  | _, _, _ => False
theorem rep_isN {K : PySem.W.Frag} {F H : Hp} {v : V} {A : FP} : ∀ {d : D}, (d = .gone → False) → Rep K F H d v A → decide (v = .non) = (match d with | .non => true | _ => false)
  | .non, _, r => by rw [r.1]; rfl
  | .bl _, _, r => by rw [r.1]; rfl
  | .int _, _, r => by rw [r.1]; rfl
  | .str _, _, r => by rw [r.1]; rfl
  | .tup _, _, r => by obtain ⟨p, vs, e, _⟩ := r; rw [e]; rfl
  | .lst true _, _, r => by obtain ⟨p, vs, B, e, _⟩ := r; rw [e]; rfl
  | .lst false _, _, r => by obtain ⟨p, vs, e, _⟩ := r; rw [e]; rfl
  | .dic .fr _ _, _, r => by obtain ⟨p, o, vs, e, _⟩ := r; rw [e]; rfl
  | .dic .ow _ _, _, r => by obtain ⟨p, o, vs, B, e, _⟩ := r; rw [e]; rfl
  | .dic .lk _ _, _, r => by obtain ⟨p, od, o, vs, B, e, _⟩ := r; rw [e]; rfl
  | .ins _ _, _, r => by obtain ⟨c, p, dx, vs, B, hc, e, _⟩ := r; rw [e]; rfl
  | .scr _, _, r => by obtain ⟨p, e, _⟩ := r; rw [e]; rfl
  | .gone, h, _ => (h rfl).elim
theorem op2_isN {K} : Op2S K (fun x y H Q => y = .non ∧ Q (.bl (decide (x = .non))) H) oIsN := fun {F H A1 A2 x y d1 d2 P Q} s r1 r2 w q => by
  have h1 : d1 = .gone → False := by rintro rfl; cases d2 <;> exact w
  have h2 : d2 = .non := by cases d1 <;> cases d2 <;> first | rfl | exact w.elim
  subst h2
  refine ⟨r2.1, ?_⟩
  rw [rep_isN h1 r1]
  refine q _ ⟨.bl _, fun _ _ => rep_bl, ?_⟩
  cases d1 <;> first | exact w | exact (h1 rfl).elim
theorem op2_notN {K} : Op2S K (fun x y H Q => y = .non ∧ Q (.bl (!decide (x = .non))) H) oNotN := fun {F H A1 A2 x y d1 d2 P Q} s r1 r2 w q => by
  have h1 : d1 = .gone → False := by rintro rfl; cases d2 <;> exact w
  have h2 : d2 = .non := by cases d1 <;> cases d2 <;> first | rfl | exact w.elim
  subst h2
  refine ⟨r2.1, ?_⟩
  rw [rep_isN h1 r1]
  refine q _ ⟨.bl _, fun _ _ => rep_bl, ?_⟩
  cases d1 <;> first | exact w | exact (h1 rfl).elim
/-! ### o[i] -/
def mb {α : Type} (o : Option α) (P : α → Prop) : Prop := match o with
  | some d => P d
  | none => False
theorem mb_some {α : Type} {o : Option α} {P : α → Prop} (h : mb o P) : ∃ d, o = some d ∧ P d := by
  cases o with
  | some d => exact ⟨d, rfl, h⟩
  | none => exact h.elim
def oIx : D → D → (D → Prop) → Prop
  | .lst _ xs, .int i, P => mb (atI xs i) P
  | .tup xs, .int i, P => mb (atI xs i) P
  | .scr xs, .int i, P => mb (atI xs i) fun d => P (.int d)
  | .str x, .int i, P => x.length ≤ sizeLine ∧ mb (atI x.cps.toList i) fun c => P (.str ⟨#[c]⟩)
  | _, _, _ => False
theorem op2_ix {K} : Op2K K (rIx K) oIx := fun {F R H G A1 A2 x y d1 d2 P Q} W ow S r1 r2 l1 l2 w q => by
  cases d1 with
  | lst m xs =>
    cases d2 with
    | int i =>
      obtain ⟨rfl, rfl⟩ := r2
      obtain ⟨p, vs, rfl, e1, B1, q1, hl⟩ := lst_at W.f r1
      obtain ⟨d, hd, w⟩ := mb_some w
      obtain ⟨v, B, h1, h2, h3⟩ := reps_atI q1 hd
      exact .inl ⟨p, vs, i, v, rfl, rfl, SqL.of e1, h1, q _ _ ⟨d, F, B, Same.refl F, .refl, W, h2, fun a => .inl (Nat.le_trans (h3 a) (hl a)), S, w⟩⟩
    | _ => exact w.elim
  | tup xs =>
    cases d2 with
    | int i =>
      obtain ⟨rfl, rfl⟩ := r2
      obtain ⟨p, vs, rfl, e1, q1⟩ := r1
      obtain ⟨d, hd, w⟩ := mb_some w
      obtain ⟨v, B, h1, h2, h3⟩ := reps_atI q1 hd
      exact .inr (.inl ⟨p, vs, i, v, rfl, rfl, SqT.of (W.f _ _ e1), h1, q _ _ ⟨d, F, B, Same.refl F, .refl, W, h2, fun a => .inl (h3 a), S, w⟩⟩)
    | _ => exact w.elim
  | scr xs =>
    cases d2 with
    | int i =>
      obtain ⟨rfl, rfl⟩ := r2
      obtain ⟨p, rfl, e1, z⟩ := r1
      obtain ⟨d, hd, w⟩ := mb_some w
      · have h1 : atI (xs.map V.int) i = some (.int d) := by
          unfold atI at hd ⊢
          rw [List.length_map]
          cases q2 : ixN xs.length i with
          | none => rw [q2] at hd; cases hd
          | some j =>
            rw [q2] at hd
            have hd' : xs[j]? = some d := hd
            show (xs.map V.int)[j]? = some (.int d)
            rw [List.getElem?_map, hd']; rfl
        exact .inl ⟨p, _, i, _, rfl, rfl, W.f.seq e1, h1, q _ _ ⟨.int d, F, fp0, Same.refl F, .refl, W, rep_int, fun a => .inl (Nat.zero_le _), S, w⟩⟩
    | _ => exact w.elim
  | str z =>
    cases d2 with
    | int i =>
      obtain ⟨rfl, rfl⟩ := r2
      obtain ⟨rfl, rfl⟩ := r1
      obtain ⟨w1, w⟩ := w
      obtain ⟨c, hc, w⟩ := mb_some w
      exact .inr (.inr ⟨z, i, c, rfl, rfl, w1, hc, q _ _ ⟨.str ⟨#[c]⟩, F, fp0, Same.refl F, .refl, W, rep_str, fun a => .inl (Nat.zero_le _), S, w⟩⟩)
    | _ => exact w.elim
  | _ => cases d2 <;> exact w.elim
end L3
namespace L3
open PySem PySem.Spec L2
open PyProof.Rows hiding St
def bb (d : D) (k : Bool → Prop) : Prop := match d with
  | .bl c => k c
  | _ => False
theorem bb_some {d : D} {k : Bool → Prop} (h : bb d k) : ∃ c, d = .bl c ∧ k c := by
  cases d <;> first | exact ⟨_, rfl, h⟩ | exact h.elim
abbrev BW := Env → (Bool → Prop) → Prop
def EvB (F R H : Hp) (B : FP) (P : Bool → Prop) : Bool → Hp → Prop := fun b H' => ∃ F', Same F F' ∧ Keep B H H' ∧ Wd F' R H' ∧ Sep F' R B ∧ P b
def rdB (Y : Cy) (w : BW) : TT := fun σ H Q => ∃ F R ρ B P, Sd Y.X.K F R H ρ σ B ∧ w ρ P ∧ (∀ b H', EvB F R H B P b H' → Q b H') ∧ ExH Y F R σ
/-- a test that changes nothing -/
structure DB (Y : Cy) (e : Expr) (w : BW) : Prop where
  run : PT Y.X e (rdB Y w)
section
variable {Y : Cy} {F F' R R' H H' : Hp} {ρ : Env} {σ : St} {A B : FP} {a b c e : Expr} {rest : List Expr} {wa wb wc : KW} {ea eb ec : DW} {ba bc : BW} {ta tb tc : TW} {pos : Pos} {r r' : R2} {o o' : D → D → (D → Prop) → Prop}
theorem EvK.back {F F1 R H H1 : Hp} {B : FP} {P : D → Prop} {v : V} {H2 : Hp} (s : Same F F1) (k : ∀ a, B a ≠ 0 → H1 a = H a) : EvK Y F1 R H1 B P v H2 → EvK Y F R H B P v H2 :=
  fun ⟨d, F2, A, s2, k2, W, r, l, p, q⟩ => ⟨d, F2, A, s.trans s2, fun a n => (k2 a n).trans (k a n), W, r, l, p, q⟩
theorem EvB.back {F F1 R H H1 : Hp} {B : FP} {P : Bool → Prop} {v : Bool} {H2 : Hp} (s : Same F F1) (k : ∀ a, B a ≠ 0 → H1 a = H a) : EvB F1 R H1 B P v H2 → EvB F R H B P v H2 :=
  fun ⟨F2, s2, k2, W, p, q⟩ => ⟨F2, s.trans s2, fun a n => (k2 a n).trans (k a n), W, p, q⟩
/-! ### and, or, not as values -/
theorem k_one {op} (h : DK Y a wa) : DK Y (.BoolOp op [a] pos) wa := ⟨pe_one h.run⟩
theorem k_and (ha : DK Y a wa) (hb : DK Y (.BoolOp .And (b :: rest) pos) wb) : DK Y (.BoolOp .And (a :: b :: rest) pos) (fun ρ P => wa ρ fun d => bb d fun c => if c = true then wb ρ P else P (.bl false)) :=
  ⟨PE.imp (pe_and ha.run hb.run) fun σ H Q ⟨F, R, ρ, B, P, S, hw, hq, hx⟩ => ⟨F, R, ρ, B, _, S, hw, fun v H1 ⟨d, F1, A, s, k, W, r, l, p, q⟩ => by
    obtain ⟨c, rfl, q2⟩ := bb_some q
    refine ⟨c, r.1, ?_⟩
    cases c with
    | true =>
      rw [if_pos rfl] at q2 ⊢
      exact ⟨F1, R, ρ, B, P, S.keep s k W p, q2, fun v H2 z => hq v H2 (z.back s k), hx.grow s⟩
    | false =>
      rw [if_neg Bool.false_ne_true] at q2 ⊢
      exact hq _ _ ⟨.bl false, F1, fp0, s, k, W, rep_bl, fp0_le, p, q2⟩, hx⟩⟩
theorem k_or (ha : DK Y a wa) (hb : DK Y (.BoolOp .Or (b :: rest) pos) wb) : DK Y (.BoolOp .Or (a :: b :: rest) pos) (fun ρ P => wa ρ fun d => bb d fun c => if c = true then P (.bl true) else wb ρ P) :=
  ⟨PE.imp (pe_or ha.run hb.run) fun σ H Q ⟨F, R, ρ, B, P, S, hw, hq, hx⟩ => ⟨F, R, ρ, B, _, S, hw, fun v H1 ⟨d, F1, A, s, k, W, r, l, p, q⟩ => by
    obtain ⟨c, rfl, q2⟩ := bb_some q
    refine ⟨c, r.1, ?_⟩
    cases c with
    | true =>
      rw [if_pos rfl] at q2 ⊢
      exact hq _ _ ⟨.bl true, F1, fp0, s, k, W, rep_bl, fp0_le, p, q2⟩
    | false =>
      rw [if_neg Bool.false_ne_true] at q2 ⊢
      exact ⟨F1, R, ρ, B, P, S.keep s k W p, q2, fun v H2 z => hq v H2 (z.back s k), hx.grow s⟩, hx⟩⟩
theorem k_not (ha : DK Y a wa) : DK Y (.UnaryOp .Not a pos) (fun ρ P => wa ρ fun d => bb d fun c => P (.bl (!c))) :=
  ⟨PE.imp (pe_not ha.run) fun σ H Q ⟨F, R, ρ, B, P, S, hw, hq, hx⟩ => ⟨F, R, ρ, B, _, S, hw, fun v H1 ⟨d, F1, A, s, k, W, r, l, p, q⟩ => by
    obtain ⟨c, rfl, q2⟩ := bb_some q
    exact ⟨c, r.1, hq _ _ ⟨.bl (!c), F1, fp0, s, k, W, rep_bl, fp0_le, p, q2⟩⟩, hx⟩⟩
/-- -a -/
def oU (g : Int → Int) (d : D) (P : D → Prop) : Prop := match d with
  | .int i => P (.int (g i))
  | _ => False
theorem k_neg (ha : DK Y a wa) : DK Y (.UnaryOp .USub a pos) (fun ρ P => wa ρ fun d => oU (fun i => -i) d P) :=
  ⟨PE.imp (pe_un un_neg ha.run) fun σ H Q ⟨F, R, ρ, B, P, S, hw, hq, hx⟩ => ⟨F, R, ρ, B, _, S, hw, fun v H1 ⟨d, F1, A, s, k, W, r, l, p, q⟩ => by
    cases d with
    | int i => exact ⟨i, r.1, hq _ _ ⟨.int (-i), F1, fp0, s, k, W, rep_int, fp0_le, p, q⟩⟩
    | _ => exact q.elim, hx⟩⟩
/-! ### tests -/
theorem b_k (h : DK Y e wa) (he : ∀ whole, isTrue e Y.X.env whole = (do let v ← whole; standAt e.pos; holding [v] (truthy v)) := by intro _; rfl) : DB Y e (fun ρ P => wa ρ fun d => bb d P) :=
  ⟨PT.imp (pt_val h.run he) fun σ H Q ⟨F, R, ρ, B, P, S, hw, hq, hx⟩ => ⟨F, R, ρ, B, _, S, hw, fun v H1 ⟨d, F1, A, s, k, W, r, l, p, q⟩ => by
    obtain ⟨c, rfl, q2⟩ := bb_some q
    exact ⟨c, r.1, hq _ _ ⟨F1, s, k, W, p, q2⟩⟩, hx⟩⟩
theorem b_cmp {op : CmpOp} (ho : OpR Y.X (compareOp op) r) (hk : Op2S Y.X.K r o) (hm : behindInMarks op b = false) (ha : DK Y a wa) (hb : DK Y b wb) : DB Y (.Compare a [op] [b] pos) (fun ρ P => wa ρ fun d1 => wb ρ fun d2 => o d1 d2 fun d => bb d P) :=
  ⟨PT.imp (pt_cmpR ho ha.run hb.run hm) fun σ H Q ⟨F, R, ρ, B, P, S, hw, hq, hx⟩ => ev2k (Y := Y) (o := o) (op2k_s hk) ⟨F, R, ρ, B, fun d => bb d P, S, hw, fun v H1 ⟨d, F1, A, s, k, W, r, l, p, q⟩ => by
    obtain ⟨c, rfl, q2⟩ := bb_some q
    exact ⟨c, r.1, hq _ _ ⟨F1, s, k, W, p, q2⟩⟩, hx⟩⟩
theorem b_not (ha : DB Y a ba) : DB Y (.UnaryOp .Not a pos) (fun ρ P => ba ρ fun c => P (!c)) :=
  ⟨PT.imp (pt_not ha.run) fun σ H Q ⟨F, R, ρ, B, P, S, hw, hq, hx⟩ => ⟨F, R, ρ, B, _, S, hw, fun v H1 ⟨F1, s, k, W, p, q⟩ => hq _ _ ⟨F1, s, k, W, p, q⟩, hx⟩⟩
structure DBW (Y : Cy) (e : Expr) (w : BW) : Prop where
  run : PW Y.X e (rdB Y w)
theorem PW.imp {X : Cx} {e : Expr} {t t' : TT} (h : PW X e t) (k : ∀ σ H Q, t' σ H Q → t σ H Q) : PW X e t' := ⟨fun wh pins s σ H Q I q => h.run wh pins s σ H Q I (k _ _ _ q)⟩
theorem b_w (h : DBW Y e ba) : DB Y e ba := ⟨h.run.pt⟩
theorem b_and1 (h : DB Y a ba) : DBW Y (.BoolOp .And [a] pos) ba := ⟨pw_and1 h.run⟩
theorem b_or1 (h : DB Y a ba) : DBW Y (.BoolOp .Or [a] pos) ba := ⟨pw_or1 h.run⟩
theorem b_and (ha : DB Y a ba) (hb : DBW Y (.BoolOp .And (b :: rest) pos) bc) : DBW Y (.BoolOp .And (a :: b :: rest) pos) (fun ρ P => ba ρ fun c => if c = true then bc ρ P else P false) :=
  ⟨PW.imp (pw_and ha.run hb.run) fun σ H Q ⟨F, R, ρ, B, P, S, hw, hq, hx⟩ => ⟨F, R, ρ, B, _, S, hw, fun c H1 ⟨F1, s, k, W, p, q⟩ => by
    cases c with
    | true =>
      rw [if_pos rfl] at q ⊢
      exact ⟨F1, R, ρ, B, P, S.keep s k W p, q, fun v H2 z => hq v H2 (z.back s k), hx.grow s⟩
    | false =>
      rw [if_neg Bool.false_ne_true] at q ⊢
      exact hq _ _ ⟨F1, s, k, W, p, q⟩, hx⟩⟩
theorem b_or (ha : DB Y a ba) (hb : DBW Y (.BoolOp .Or (b :: rest) pos) bc) : DBW Y (.BoolOp .Or (a :: b :: rest) pos) (fun ρ P => ba ρ fun c => if c = true then P true else bc ρ P) :=
  ⟨PW.imp (pw_or ha.run hb.run) fun σ H Q ⟨F, R, ρ, B, P, S, hw, hq, hx⟩ => ⟨F, R, ρ, B, _, S, hw, fun c H1 ⟨F1, s, k, W, p, q⟩ => by
    cases c with
    | true =>
      rw [if_pos rfl] at q ⊢
      exact hq _ _ ⟨F1, s, k, W, p, q⟩
    | false =>
      rw [if_neg Bool.false_ne_true] at q ⊢
      exact ⟨F1, R, ρ, B, P, S.keep s k W p, q, fun v H2 z => hq v H2 (z.back s k), hx.grow s⟩, hx⟩⟩
/-- tests that may change something -/
theorem StP.of {P : Env → Prop} {F1 : Hp} {H1 : Hp} (S : Sd Y.X.K F R H ρ σ B) (s : Same F F1) (k : Keep B H H1) (W : Wd F1 R H1) (p : Sep F1 R B) (q : P ρ) : StP Y F R σ P σ H1 :=
  ⟨ρ, F1, B, s, W, slr_mono s k S.s, p, .refl, q⟩
theorem t_b (h : DB Y e ba) : DT Y e (fun ρ Q => ba ρ fun c => Q c ρ) :=
  ⟨PT.imp h.run fun σ H Q ⟨F, R, ρ, B, P, S, hw, hq, hx⟩ => ⟨F, R, ρ, B, _, S, hw, fun c H1 ⟨F1, s, k, W, p, q⟩ => hq c σ H1 rfl (StP.of S s k W p q), hx⟩⟩
theorem t_e (h : DE Y e ea) (he : ∀ whole, isTrue e Y.X.env whole = (do let v ← whole; standAt e.pos; holding [v] (truthy v)) := by intro _; rfl) : DT Y e (fun ρ Q => ea ρ fun d ρ1 => bb d fun c => Q c ρ1) :=
  ⟨PT.imp (pt_val h.run he) fun σ H Q ⟨F, R, ρ, B, P, S, hw, hq, hx⟩ => ⟨F, R, ρ, B, _, S, hw, fun v H1 ⟨d, ρ1, F1, A, B1, s, W, r, sl, p, q⟩ => by
    obtain ⟨c, rfl, q2⟩ := bb_some q
    exact ⟨c, r.1, hq c σ H1 rfl ⟨ρ1, F1, B1, s, W, sl, p.mono fun a => by unfold fpA; omega, .refl, q2⟩⟩, hx⟩⟩
theorem t_cmp {op : CmpOp} (ho : OpR Y.X (compareOp op) r) (hk : Op2S Y.X.K r o) (hm : behindInMarks op b = false) (ha : DE Y a ea) (hb : DE Y b eb) : DT Y (.Compare a [op] [b] pos) (fun ρ Q => ea ρ fun d1 ρ1 => eb ρ1 fun d2 ρ2 => o d1 d2 fun d => bb d fun c => Q c ρ2) :=
  ⟨PT.imp (pt_cmpR ho ha.run hb.run hm) fun σ H Q ⟨F, R, ρ, B, P, S, hw, hq, hx⟩ => ev2e (Y := Y) (o := o) (op2f_s hk) ⟨F, R, ρ, B, fun d ρ2 => bb d fun c => P c ρ2, S, hw, fun v H1 ⟨d, ρ1, F1, A, B1, s, W, r, sl, p, q⟩ => by
    obtain ⟨c, rfl, q2⟩ := bb_some q
    exact ⟨c, r.1, hq c σ H1 rfl ⟨ρ1, F1, B1, s, W, sl, p.mono fun a => by unfold fpA; omega, .refl, q2⟩⟩, hx⟩⟩
theorem t_not (ha : DT Y a ta) : DT Y (.UnaryOp .Not a pos) (fun ρ P => ta ρ fun c ρ1 => P (!c) ρ1) :=
  ⟨PT.imp (pt_not ha.run) fun σ H Q ⟨F, R, ρ, B, P, S, hw, hq, hx⟩ => ⟨F, R, ρ, B, _, S, hw, fun c σ' H1 e z => hq (!c) σ' H1 e z, hx⟩⟩
structure DTW (Y : Cy) (e : Expr) (w : TW) : Prop where
  run : PW Y.X e (rdT Y w)
theorem t_w (h : DTW Y e ta) : DT Y e ta := ⟨h.run.pt⟩
theorem t_and1 (h : DT Y a ta) : DTW Y (.BoolOp .And [a] pos) ta := ⟨pw_and1 h.run⟩
theorem t_or1 (h : DT Y a ta) : DTW Y (.BoolOp .Or [a] pos) ta := ⟨pw_or1 h.run⟩
theorem StP.back {P : Env → Prop} {F1 : Hp} {H1 σ'} (s : Same F F1) : StP Y F1 R σ P σ' H1 → StP Y F R σ P σ' H1 := fun ⟨ρ, F2, B, s2, W, sl, p, g, q⟩ => ⟨ρ, F2, B, s.trans s2, W, sl, p, g, q⟩
theorem t_and (ha : DT Y a ta) (hb : DTW Y (.BoolOp .And (b :: rest) pos) tb) : DTW Y (.BoolOp .And (a :: b :: rest) pos) (fun ρ P => ta ρ fun c ρ1 => if c = true then tb ρ1 P else P false ρ1) :=
  ⟨PW.imp (pw_and ha.run hb.run) fun σ H Q ⟨F, R, ρ, B, P, S, hw, hq, hx⟩ => ⟨F, R, ρ, B, _, S, hw, fun c σ' H1 e ⟨ρ1, F1, B1, s, W, sl, p, g, q⟩ => by
    subst e
    cases c with
    | true =>
      rw [if_pos rfl] at q ⊢
      exact ⟨F1, R, ρ1, B1, P, ⟨W, sl, p⟩, q, fun b σ2 H2 e z => hq b σ2 H2 e (z.back s), hx.grow s⟩
    | false =>
      rw [if_neg Bool.false_ne_true] at q ⊢
      exact hq _ _ _ rfl ⟨ρ1, F1, B1, s, W, sl, p, g, q⟩, hx⟩⟩
theorem t_or (ha : DT Y a ta) (hb : DTW Y (.BoolOp .Or (b :: rest) pos) tb) : DTW Y (.BoolOp .Or (a :: b :: rest) pos) (fun ρ P => ta ρ fun c ρ1 => if c = true then P true ρ1 else tb ρ1 P) :=
  ⟨PW.imp (pw_or ha.run hb.run) fun σ H Q ⟨F, R, ρ, B, P, S, hw, hq, hx⟩ => ⟨F, R, ρ, B, _, S, hw, fun c σ' H1 e ⟨ρ1, F1, B1, s, W, sl, p, g, q⟩ => by
    subst e
    cases c with
    | true =>
      rw [if_pos rfl] at q ⊢
      exact hq _ _ _ rfl ⟨ρ1, F1, B1, s, W, sl, p, g, q⟩
    | false =>
      rw [if_neg Bool.false_ne_true] at q ⊢
      exact ⟨F1, R, ρ1, B1, P, ⟨W, sl, p⟩, q, fun b σ2 H2 e z => hq b σ2 H2 e (z.back s), hx.grow s⟩, hx⟩⟩
/-- a if t else b -/
theorem k_if (hc : DB Y c ba) (ha : DK Y a wa) (hb : DK Y b wb) : DK Y (.IfExp c a b pos) (fun ρ P => ba ρ fun c => if c = true then wa ρ P else wb ρ P) :=
  ⟨PE.imp (pe_ifExp hc.run ha.run hb.run) fun σ H Q ⟨F, R, ρ, B, P, S, hw, hq, hx⟩ => ⟨F, R, ρ, B, _, S, hw, fun c H1 ⟨F1, s, k, W, p, q⟩ => by
    cases c with
    | true =>
      rw [if_pos rfl] at q ⊢
      exact ⟨F1, R, ρ, B, P, S.keep s k W p, q, fun v H2 z => hq v H2 (z.back s k), hx.grow s⟩
    | false =>
      rw [if_neg Bool.false_ne_true] at q ⊢
      exact ⟨F1, R, ρ, B, P, S.keep s k W p, q, fun v H2 z => hq v H2 (z.back s k), hx.grow s⟩, hx⟩⟩
theorem EvO.back {P : D → Env → Prop} {F1 : Hp} {v H1} (s : Same F F1) : EvO Y F1 R σ P v H1 → EvO Y F R σ P v H1 := fun ⟨d, ρ, F2, A, B, s2, W, r, sl, p, q⟩ => ⟨d, ρ, F2, A, B, s.trans s2, W, r, sl, p, q⟩
theorem e_if (hc : DT Y c ta) (ha : DE Y a ea) (hb : DE Y b eb) : DE Y (.IfExp c a b pos) (fun ρ P => ta ρ fun c ρ1 => if c = true then ea ρ1 P else eb ρ1 P) :=
  ⟨PE.imp (pe_ifExp hc.run ha.run hb.run) fun σ H Q ⟨F, R, ρ, B, P, S, hw, hq, hx⟩ => ⟨F, R, ρ, B, _, S, hw, fun c σ' H1 e ⟨ρ1, F1, B1, s, W, sl, p, g, q⟩ => by
    subst e
    cases c with
    | true =>
      rw [if_pos rfl] at q ⊢
      exact ⟨F1, R, ρ1, B1, P, ⟨W, sl, p⟩, q, fun v H2 z => hq v H2 (z.back s), hx.grow s⟩
    | false =>
      rw [if_neg Bool.false_ne_true] at q ⊢
      exact ⟨F1, R, ρ1, B1, P, ⟨W, sl, p⟩, q, fun v H2 z => hq v H2 (z.back s), hx.grow s⟩, hx⟩⟩
end
end L3
namespace L3
open PySem PySem.Spec L2
open PyProof.Rows hiding St
/-- borrowed values, one by one -/
def Bor (K : PySem.W.Frag) (F H : Hp) (G : FP) : List D → List V → Prop
  | [], vs => vs = []
  | d :: ds, vs => ∃ v vr, vs = v :: vr ∧ (∃ A, Rep K F H d v A ∧ ∀ a, A a ≤ G a) ∧ Bor K F H G ds vr
abbrev LW := Env → (List D → Prop) → Prop
abbrev LE := Env → (List D → Env → Prop) → Prop
def EvL (Y : Cy) (F R H : Hp) (B : FP) (P : List D → Prop) : List V → Hp → Prop := fun vs H' => ∃ ds F', Same F F' ∧ Keep B H H' ∧ Wd F' R H' ∧ Bor Y.X.K F' H' B ds vs ∧ Sep F' R B ∧ P ds
def EvA (Y : Cy) (F R : Hp) (σ : St) (P : List D → Env → Prop) : List V → Hp → Prop := fun vs H' => ∃ ds ρ' F' A B, Same F F' ∧ Wd F' R H' ∧ Reps Y.X.K F' H' ds vs A ∧ SlR Y.X.K F' H' ρ' σ B ∧ Sep F' R (fpA A B) ∧ P ds ρ'
def rdL (Y : Cy) (w : LW) : TA := fun σ H Q => ∃ F R ρ B P, Sd Y.X.K F R H ρ σ B ∧ w ρ P ∧ (∀ vs H', EvL Y F R H B P vs H' → Q vs H') ∧ ExH Y F R σ
def rdA (Y : Cy) (w : LE) : TA := fun σ H Q => ∃ F R ρ B P, Sd Y.X.K F R H ρ σ B ∧ w ρ P ∧ (∀ vs H', EvA Y F R σ P vs H' → Q vs H') ∧ ExH Y F R σ
structure DL (Y : Cy) (es : List Expr) (w : LW) : Prop where
  run : PA Y.X es (rdL Y w)
structure DA (Y : Cy) (es : List Expr) (w : LE) : Prop where
  run : PA Y.X es (rdA Y w)
theorem PA.imp {X : Cx} {e : List Expr} {t t' : TA} (h : PA X e t) (k : ∀ σ H Q, t' σ H Q → t σ H Q) : PA X e t' := ⟨fun pos pins s σ H Q I q => h.run pos pins s σ H Q I (k _ _ _ q)⟩
theorem bor_mono {K : PySem.W.Frag} {F F' H H' : Hp} {G : FP} (s : Same F F') (k : Keep G H H') : ∀ {ds : List D} {vs : List V}, Bor K F H G ds vs → Bor K F' H' G ds vs
  | [], _, r => r
  | d :: ds, _, ⟨v, vr, e, ⟨A, r, l⟩, q⟩ => ⟨v, vr, e, ⟨A, rep_mono s d (fun a n => k a (by have := l a; omega)) r, l⟩, bor_mono s k q⟩
theorem bor_of {K : PySem.W.Frag} {F H : Hp} {G : FP} : ∀ {ds : List D} {vs : List V} {A : FP}, Reps K F H ds vs A → (∀ a, A a ≤ G a) → Bor K F H G ds vs
  | [], _, _, r, _ => r.1
  | d :: ds, _, _, ⟨v, vr, B, C, e, r, q, z⟩, l => ⟨v, vr, e, ⟨B, r, fun a => by have := l a; rw [z] at this; unfold fpA at this; omega⟩, bor_of q fun a => by have := l a; rw [z] at this; unfold fpA at this; omega⟩
theorem bor_fzs {K : PySem.W.Frag} {F H : Hp} {G : FP} : ∀ {ds : List D} {vs : List V}, Bor K F H G ds vs → fzs ds = true → Reps K F H ds vs fp0
  | [], _, r, _ => ⟨r, rfl⟩
  | d :: ds, _, ⟨v, vr, e, ⟨A, r, l⟩, q⟩, h => by
    simp only [fzs, Bool.and_eq_true] at h
    rw [fz_rep d h.1 r] at r
    exact ⟨v, vr, fp0, fp0, e, r, bor_fzs q h.2, fpA_0l.symm⟩
section
variable {Y : Cy} {e : Expr} {es : List Expr} {w : KW} {wl : LW} {ew : DW} {el : LE} {pos : Pos}
theorem l_nil : DL Y [] (fun ρ P => P []) := ⟨PA.imp pa_nil fun σ H Q ⟨F, R, ρ, B, P, S, hw, hq, hx⟩ => hq [] H ⟨[], F, Same.refl F, .refl, S.w, rfl, S.p, hw⟩⟩
theorem l_cons (ha : DK Y e w) (hr : DL Y es wl) (hs : starEach (e :: es) Y.X.env = (false, eval e Y.X.env) :: starEach es Y.X.env := by rfl) : DL Y (e :: es) (fun ρ P => w ρ fun d => wl ρ fun ds => P (d :: ds)) :=
  ⟨PA.imp (pa_cons ha.run hr.run hs) fun σ H Q ⟨F, R, ρ, B, P, S, hw, hq, hx⟩ => ⟨F, R, ρ, B, _, S, hw, fun v H1 ⟨d, F1, A, s, k, W, r, l, p, q⟩ => ⟨F1, R, ρ, B, _, S.keep s k W p, q, fun vs H2 ⟨ds, F2, s2, k2, W2, b, p2, q2⟩ =>
    hq _ _ ⟨d :: ds, F2, s.trans s2, fun a n => (k2 a n).trans (k a n), W2, ⟨v, vs, rfl, ⟨A, rep_mono s2 d (fun a n => k2 a (by have := l a; omega)) r, l⟩, b⟩, p2, q2⟩, hx.grow s⟩, hx⟩⟩
theorem a_nil : DA Y [] (fun ρ P => P [] ρ) := ⟨PA.imp pa_nil fun σ H Q ⟨F, R, ρ, B, P, S, hw, hq, hx⟩ => hq [] H ⟨[], ρ, F, fp0, B, Same.refl F, S.w, ⟨rfl, rfl⟩, S.s, by rw [fpA_0l]; exact S.p, hw⟩⟩
theorem a_cons (ha : DE Y e ew) (hr : DA Y es el) (hs : starEach (e :: es) Y.X.env = (false, eval e Y.X.env) :: starEach es Y.X.env := by rfl) : DA Y (e :: es) (fun ρ P => ew ρ fun d ρ1 => el ρ1 fun ds ρ2 => P (d :: ds) ρ2) :=
  ⟨PA.imp (pa_cons ha.run hr.run hs) fun σ H Q ⟨F, R, ρ, B, P, S, hw, hq, hx⟩ => ⟨F, R, ρ, B, _, S, hw, fun v H1 ⟨d, ρ1, F1, A, B1, s, W, r, sl, p, q⟩ => by
    have own1 := rep_own d r
    have pA : Sep F1 R A := p.mono fun a => by unfold fpA; omega
    refine ⟨F1, hold R H1 A, ρ1, B1, _, ⟨W.hold pA own1, sl, p.hold⟩, q, fun vs H2 ⟨ds, ρ2, F2, A2, B2, s2, W2, r2, sl2, p2, q2⟩ => ?_, hx.hold s W pA⟩
    obtain ⟨W3, p3, k3⟩ := hold_back W pA own1 W2 p2
    exact hq _ _ ⟨d :: ds, ρ2, F2, fpA A A2, B2, s.trans s2, W3, ⟨v, vs, A, A2, rfl, rep_mono s2 d k3 r, r2, rfl⟩, sl2, by rw [fpA_assoc]; exact p3, q2⟩, hx⟩⟩
theorem a_l (h : DL Y es wl) : DA Y es (fun ρ P => wl ρ fun ds => fzs ds = true ∧ P ds ρ) := ⟨PA.imp h.run fun σ H Q ⟨F, R, ρ, B, P, S, hw, hq, hx⟩ => ⟨F, R, ρ, B, _, S, hw, fun vs H1 ⟨ds, F1, s, k, W, b, p, q⟩ =>
  hq _ _ ⟨ds, ρ, F1, fp0, B, s, W, bor_fzs b q.1, slr_mono s k S.s, by rw [fpA_0l]; exact p, q.2⟩, hx⟩⟩
/-! ### displays -/
theorem f_tup {k} (h : DL Y es wl) : DF Y (.Tuple es k pos) (fun ρ P => wl ρ fun ds => fzs ds = true ∧ ds.length ≤ sizeLine ∧ P (.tup ds)) :=
  ⟨PE.imp (pe_tup h.run) fun σ H Q ⟨F, R, ρ, B, P, S, hw, hq, hx⟩ => ⟨F, R, ρ, B, _, S, hw, fun vs H1 ⟨ds, F1, s, k, W, b, p, q⟩ => by
    have r := bor_fzs b q.1
    refine ⟨by rw [reps_len r]; exact q.2.1, fun n hn => ?_⟩
    obtain ⟨F2, A, s2, k2, W2, rd, p2⟩ := new_tup W (S.keep s k W p).own p hn r q.1
    exact hq _ _ ⟨.tup ds, F2, A, s.trans s2, fun a z => (k2 a z).trans (k a z), W2, rd, p2, q.2.2⟩, hx⟩⟩
theorem f_lst (h : DL Y es wl) : DF Y (.List es pos) (fun ρ P => wl ρ fun ds => fzs ds = true ∧ ds.length ≤ sizeLine ∧ P (.lst true ds)) :=
  ⟨PE.imp (pe_lst h.run) fun σ H Q ⟨F, R, ρ, B, P, S, hw, hq, hx⟩ => ⟨F, R, ρ, B, _, S, hw, fun vs H1 ⟨ds, F1, s, k, W, b, p, q⟩ => by
    have r := bor_fzs b q.1
    refine ⟨by rw [reps_len r]; exact q.2.1, fun n hn => ?_⟩
    obtain ⟨F2, A, s2, k2, W2, rd, p2⟩ := new_lst W (S.keep s k W p).own p hn r q.1
    exact hq _ _ ⟨.lst true ds, F2, A, s.trans s2, fun a z => (k2 a z).trans (k a z), W2, rd, p2, q.2.2⟩, hx⟩⟩
theorem e_tup {k} (h : DA Y es el) : DE Y (.Tuple es k pos) (fun ρ P => el ρ fun ds ρ1 => ds.length ≤ sizeLine ∧ P (.tup ds) ρ1) :=
  ⟨PE.imp (pe_tup h.run) fun σ H Q ⟨F, R, ρ, B, P, S, hw, hq, hx⟩ => ⟨F, R, ρ, B, _, S, hw, fun vs H1 ⟨ds, ρ1, F1, A, B1, s, W, r, sl, p, q⟩ => by
    refine ⟨by rw [reps_len r]; exact q.1, fun n hn => ?_⟩
    have own2 : Own H1 (fpA A B1) := fun a z => by
      rw [fpA_ne] at z
      rcases z with z | z
      · exact reps_own ds r a z
      · exact slr_own sl a z
    have k2 : Keep (fpA A B1) H1 (upd H1 n (.tup vs)) := keep_new own2 hn
    exact hq _ _ ⟨.tup ds, ρ1, upd F1 n (.tup vs), A, B1, s.trans (W.newf hn), W.new hn, ⟨n, vs, rfl, upd_same, reps_mono (W.newf hn) ds (fun a z => k2 a (fpA_l z)) r⟩,
      slr_mono (W.newf hn) (fun a z => k2 a (fpA_r z)) sl, p.new W own2 hn, q.2⟩, hx⟩⟩
theorem e_lst (h : DA Y es el) : DE Y (.List es pos) (fun ρ P => el ρ fun ds ρ1 => ds.length ≤ sizeLine ∧ P (.lst true ds) ρ1) :=
  ⟨PE.imp (pe_lst h.run) fun σ H Q ⟨F, R, ρ, B, P, S, hw, hq, hx⟩ => ⟨F, R, ρ, B, _, S, hw, fun vs H1 ⟨ds, ρ1, F1, A, B1, s, W, r, sl, p, q⟩ => by
    refine ⟨by rw [reps_len r]; exact q.1, fun n hn => ?_⟩
    have own2 : Own H1 (fpA A B1) := fun a z => by
      rw [fpA_ne] at z
      rcases z with z | z
      · exact reps_own ds r a z
      · exact slr_own sl a z
    have k2 : Keep (fpA A B1) H1 (upd H1 n (.lst vs)) := keep_new own2 hn
    have p2 := p.mine W own2 hn
    exact hq _ _ ⟨.lst true ds, ρ1, F1, fpA A (fp1 n), B1, s, W.mine hn, ⟨n, vs, A, rfl, upd_same, reps_mono (Same.refl F1) ds (fun a z => k2 a (fpA_l z)) r, rfl⟩,
      slr_mono (Same.refl F1) (fun a z => k2 a (fpA_r z)) sl, by rw [fpA_assoc, fpA_comm (A := fp1 n), ← fpA_assoc]; exact p2, q.2⟩, hx⟩⟩
end
/-! ### built-ins over lists of arguments -/
def OpNF (K : PySem.W.Frag) (r : List V → Hp → VK → Prop) (o : List D → (D → Prop) → Prop) : Prop := ∀ {F R H : Hp} {G : FP} {vs : List V} {ds : List D} {P : D → Prop} {Q : VK}, Wd F R H → Own H G → Sep F R G → Bor K F H G ds vs →
  o ds P → (∀ v H', (∃ d F' A, Same F F' ∧ Keep G H H' ∧ Wd F' R H' ∧ Rep K F' H' d v A ∧ Sep F' R (fpA A G) ∧ P d) → Q v H') → r vs H Q
def OpNS (K : PySem.W.Frag) (r : List V → Hp → VK → Prop) (o : List D → (D → Prop) → Prop) : Prop := ∀ {F H : Hp} {G : FP} {vs : List V} {ds : List D} {P : D → Prop} {Q : VK}, Same F H → Bor K F H G ds vs →
  o ds P → (∀ v, (∃ d, (∀ F' H', Rep K F' H' d v fp0) ∧ P d) → Q v H) → r vs H Q
theorem opnf_s {K r o} (h : OpNS K r o) : OpNF K r o := fun {F R H G vs ds P Q} W ow S b w q =>
  h W.f b w fun v ⟨d, rd, p⟩ => q v _ ⟨d, F, fp0, Same.refl F, .refl, W, rd _ _, by rw [fpA_0l]; exact S, p⟩
section
variable {Y : Cy} {e : Expr} {es : List Expr} {w : KW} {wl : LW} {ew : DW} {el : LE} {pos : Pos} {r : List V → Hp → VK → Prop} {o : List D → (D → Prop) → Prop}
theorem f_call (h : ∀ t, PA Y.X es t → PE Y.X e (fun σ H Q => t σ H fun vs H1 => r vs H1 Q)) (hk : OpNF Y.X.K r o) (ha : DL Y es wl) : DF Y e (fun ρ P => wl ρ fun ds => o ds P) :=
  ⟨PE.imp (h _ ha.run) fun σ H Q ⟨F, R, ρ, B, P, S, hw, hq, hx⟩ => ⟨F, R, ρ, B, _, S, hw, fun vs H1 ⟨ds, F1, s, k, W, b, p, q⟩ =>
    hk W (S.keep s k W p).own p b q fun v H2 ⟨d, F2, A, s2, k2, W2, rd, p2, z⟩ => hq v H2 ⟨d, F2, A, s.trans s2, fun a n => (k2 a n).trans (k a n), W2, rd, p2, z⟩, hx⟩⟩
theorem k_call (h : ∀ t, PA Y.X es t → PE Y.X e (fun σ H Q => t σ H fun vs H1 => r vs H1 Q)) (hk : OpNS Y.X.K r o) (ha : DL Y es wl) : DK Y e (fun ρ P => wl ρ fun ds => o ds P) :=
  ⟨PE.imp (h _ ha.run) fun σ H Q ⟨F, R, ρ, B, P, S, hw, hq, hx⟩ => ⟨F, R, ρ, B, _, S, hw, fun vs H1 ⟨ds, F1, s, k, W, b, p, q⟩ =>
    hk W.f b q fun v ⟨d, rd, z⟩ => hq v H1 ⟨d, F1, fp0, s, k, W, rd _ _, fp0_le, p, z⟩, hx⟩⟩
theorem e_call (h : ∀ t, PA Y.X es t → PE Y.X e (fun σ H Q => t σ H fun vs H1 => r vs H1 Q)) (hk : OpNF Y.X.K r o) (ha : DA Y es el) : DE Y e (fun ρ P => el ρ fun ds ρ1 => o ds fun d => P d ρ1) :=
  ⟨PE.imp (h _ ha.run) fun σ H Q ⟨F, R, ρ, B, P, S, hw, hq, hx⟩ => ⟨F, R, ρ, B, _, S, hw, fun vs H1 ⟨ds, ρ1, F1, A, B1, s, W, rr, sl, p, q⟩ => by
    have own2 : Own H1 (fpA A B1) := fun a z => by
      rw [fpA_ne] at z
      rcases z with z | z
      · exact reps_own ds rr a z
      · exact slr_own sl a z
    exact hk W own2 p (bor_of rr fun a => by unfold fpA; omega) q fun v H2 ⟨d, F2, A2, s2, k2, W2, rd, p2, z⟩ =>
      hq v H2 ⟨d, ρ1, F2, A2, B1, s.trans s2, W2, rd, slr_mono s2 (fun a n => k2 a (fpA_r n)) sl, p2.mono fun a => by unfold fpA; omega, z⟩, hx⟩⟩
end
end L3
namespace L3
open PySem PySem.Spec L2
open PyProof.Rows hiding St
/-- a class's field: it is read and stored plainly -/
def FldOk (K : PySem.W.Frag) (C f : Str) : Prop := ∀ c, ClsN K C c → Cls K c ∧ NoAttr K c f
/-- o.f of an object of one of the classes at Cs -/
def oFld (f : Str) (Cs : List Str) (d : D) (P : D → Prop) : Prop := match d with
  | .ins C fs => C ∈ Cs ∧ mb (flook fs f) P
  | _ => False
section
variable {Y : Cy} {e : Expr} {w : KW} {ew : DW} {pos : Pos} {f : Str} {Cs : List Str}
theorem k_fld (h : DK Y e w) (hC : ∀ C ∈ Cs, FldOk Y.X.K C f) (hb : attributeBase e f Y.X.env (eval e Y.X.env) = eval e Y.X.env := by rfl) : DK Y (.Attribute e f pos) (fun ρ P => w ρ fun d => oFld f Cs d P) :=
  ⟨PE.imp (pe_fld h.run hb) fun σ H Q ⟨F, R, ρ, B, P, S, hw, hq, hx⟩ => ⟨F, R, ρ, B, _, S, hw, fun v H1 ⟨d, F1, A, s, k, W, r, l, p, q⟩ => by
    cases d with
    | ins C fs =>
      obtain ⟨hm, q⟩ := q
      obtain ⟨d1, e1, q⟩ := mb_some q
      obtain ⟨c, a, dx, vs, B0, hc, ev, ha, hd, ne, rs, z⟩ := r
      obtain ⟨v1, B1, C1, h1, h2, h3, _⟩ := repf_at rs e1
      obtain ⟨g1, g2⟩ := hC C hm c hc
      exact ⟨a, c, dx, vs, v1, ev, ha, g1, g2, h1, hq _ _ ⟨d1, F1, B1, s, k, W, h2, fun b => by have := l b; rw [z, h3] at this; unfold fpA at this; omega, p, q⟩⟩
    | _ => exact q.elim, hx⟩⟩
theorem e_fld (h : DE Y e ew) (hC : ∀ C ∈ Cs, FldOk Y.X.K C f) (hb : attributeBase e f Y.X.env (eval e Y.X.env) = eval e Y.X.env := by rfl) : DE Y (.Attribute e f pos) (fun ρ P => ew ρ fun d ρ1 => oFld f Cs d fun d1 => P d1 ρ1) :=
  ⟨PE.imp (pe_fld h.run hb) fun σ H Q ⟨F, R, ρ, B, P, S, hw, hq, hx⟩ => ⟨F, R, ρ, B, _, S, hw, fun v H1 ⟨d, ρ1, F1, A, B1, s, W, r, sl, p, q⟩ => by
    cases d with
    | ins C fs =>
      obtain ⟨hm, q⟩ := q
      obtain ⟨d1, e1, q⟩ := mb_some q
      obtain ⟨c, a, dx, vs, B0, hc, ev, ha, hd, ne, rs, z⟩ := r
      obtain ⟨v1, B2, C1, h1, h2, h3, _⟩ := repf_at rs e1
      obtain ⟨g1, g2⟩ := hC C hm c hc
      exact ⟨a, c, dx, vs, v1, ev, ha, g1, g2, h1, hq _ _ ⟨d1, ρ1, F1, B2, B1, s, W, h2, sl, p.mono fun b => by rw [z, h3]; unfold fpA; omega, q⟩⟩
    | _ => exact q.elim, hx⟩⟩
end
/-! ### paths: a place within what a slot holds -/
abbrev PW' := Env → (List Stp → Prop) → Prop
def rdP (Y : Cy) (i : Nat) (w : PW') : TE := fun σ H Q => ∃ F R ρ B P, Sd Y.X.K F R H ρ σ B ∧ w ρ P ∧ (∀ v H', (∃ st d1 A1 A2 F', Same F F' ∧ Keep B H H' ∧ Wd F' R H' ∧ Sep F' R B ∧ Loc Y.X.K F' H' ρ σ B i st d1 v A1 A2 ∧ P st) → Q v H') ∧ ExH Y F R σ
structure DP (Y : Cy) (e : Expr) (i : Nat) (w : PW') : Prop where
  run : PE Y.X e (rdP Y i w)
section
variable {Y : Cy} {e a b : Expr} {w : KW} {pw : PW'} {ew : DW} {pos : Pos} {f : Str} {Cs : List Str} {i : Nat}
theorem p_var (i : Nat) {x : Str} {pos : Pos} (hN : Y.X.N[i]? = some x := by rfl) (hv : Vis Y.X.env.scope x := by first | exact Or.inl rfl | exact Or.inr (Or.inl rfl) | exact Or.inr (Or.inr rfl)) (hd : (x == ("__debug__" : Str)) = false := by decide)
    (hcd : (x == ("__classdict__" : Str)) = false := by decide) : DP Y (.Name x pos) i (fun ρ P => gv ρ i fun _ => P []) := ⟨PE.imp (pe_var hN hv hd hcd) fun σ H Q ⟨F, R, ρ, B, P, S, hw, hq, hx⟩ => by
  obtain ⟨d, e, p⟩ := gv_some hw
  obtain ⟨v, A1, A2, h1, L⟩ := loc_var S.s e
  exact ⟨v, h1, hq v H ⟨[], d, A1, A2, F, Same.refl F, .refl, S.w, S.p, L, p⟩⟩⟩
/-- the next step is there -/
def stpOk (ρ : Env) (i : Nat) (st : List Stp) (s : Stp) (P : D → D → Prop) : Prop := mb (getE ρ i st) fun d => mb (getS d s) fun d1 => P d d1
def isIns (Cs : List Str) : D → Prop
  | .ins C _ => C ∈ Cs
  | _ => False
theorem p_fld (h : DP Y e i pw) (hC : ∀ C ∈ Cs, FldOk Y.X.K C f) (hb : attributeBase e f Y.X.env (eval e Y.X.env) = eval e Y.X.env := by rfl) :
    DP Y (.Attribute e f pos) i (fun ρ P => pw ρ fun st => stpOk ρ i st (.fld f) fun d _ => isIns Cs d ∧ P (st ++ [.fld f])) :=
  ⟨PE.imp (pe_fld h.run hb) fun σ H Q ⟨F, R, ρ, B, P, S, hw, hq, hx⟩ => ⟨F, R, ρ, B, _, S, hw, fun v H1 ⟨st, d1, A1, A2, F1, s, k, W, p, L, q⟩ => by
    obtain ⟨d0, e0, q⟩ := mb_some q
    rw [L.get] at e0; cases e0
    obtain ⟨d2, e2, q1, q2⟩ := mb_some q
    obtain ⟨v2, A3, A4, acc, L2⟩ := loc_step W.f L e2
    cases d1 with
    | ins C fs =>
      obtain ⟨c, a, dx, vs, B0, hc, ev, ha, hd, ne, rs, z⟩ := L.rep
      obtain ⟨a', c', dx', vs', ev', ha', hl⟩ := acc
      subst ev
      cases ev'
      rw [ha] at ha'; cases ha'
      obtain ⟨g1, g2⟩ := hC C q1 c hc
      exact ⟨a, c, dx, vs, v2, rfl, ha, g1, g2, hl, hq _ _ ⟨_, d2, A3, A4, F1, s, k, W, p, L2, q2⟩⟩
    | _ => exact q1.elim, hx⟩⟩
/-- o[k] by a number -/
def isSeq : D → Prop
  | .lst _ _ => True
  | .tup _ => True
  | _ => False
def seqLen : D → Nat
  | .lst _ xs => xs.length
  | .tup xs => xs.length
  | _ => 0
def ixK (d : D) (j : D) (P : Nat → Prop) : Prop := match j with
  | .int i => isSeq d ∧ mb (ixN (seqLen d) i) P
  | _ => False
theorem rd_kP {w : KW} {i : Nat} {pw : PW'} {σ : St} {H : Hp} {Q : VK} {r : R2} {o : Env → List Stp → D → (List Stp → Prop) → Prop}
    (hr : ∀ {F R H : Hp} {ρ : Env} {B A1 A2 A : FP} {st : List Stp} {x y : V} {d1 d2 : D} {P : List Stp → Prop} {Q : VK}, Wd F R H → Sd Y.X.K F R H ρ σ B → Loc Y.X.K F H ρ σ B i st d1 x A1 A2 → Rep Y.X.K F H d2 y A → (∀ a, A a ≤ B a) →
      o ρ st d2 P → (∀ v, (∃ st' d A1 A2, Loc Y.X.K F H ρ σ B i st' d v A1 A2 ∧ P st') → Q v H) → r x y H Q)
    (h : rdP Y i (fun ρ P => pw ρ fun st => w ρ fun d => o ρ st d P) σ H Q) : rdP Y i pw σ H fun x H1 => rdK Y w σ H1 fun y H2 => r x y H2 Q := by
  obtain ⟨F, R, ρ, B, P, S, hw, hq, hx⟩ := h
  refine ⟨F, R, ρ, B, _, S, hw, fun x H1 ⟨st, d1, A1, A2, F1, s, k, W, p, L, q⟩ => ?_, hx⟩
  have S1 := S.keep s k W p
  refine ⟨F1, R, ρ, B, _, S1, q, fun y H2 ⟨d2, F2, A, s2, k2, W2, r2, l2, p2, q2⟩ => ?_, hx.grow s⟩
  have S2 := S1.keep s2 k2 W2 p2
  have kA1 : ∀ a, A1 a ≠ 0 → H2 a = H1 a := fun a n => k2 a (by rw [L.fp]; exact fpA_l n)
  have L2 : Loc Y.X.K F2 H2 ρ σ B i st d1 x A1 A2 := ⟨L.get, rep_mono s2 d1 kA1 L.rep, L.fp, fun F' H' d' A' sm kp r' => L.back F' H' d' A' (s2.trans sm) (fun a n => (kp a n).trans (k2 a (by rw [L.fp]; exact fpA_r n))) r'⟩
  exact hr W2 S2 L2 r2 l2 q2 fun v ⟨st', d, B1, B2, L', z⟩ => hq v H2 ⟨st', d, B1, B2, F2, s.trans s2, fun a n => (k2 a n).trans (k a n), W2, p2, L', z⟩
theorem ixN_lt {n : Nat} {i : Int} {j : Nat} (h : ixN n i = some j) : j < n := (ixN_seq h).2.1
theorem p_ix (ha : DP Y a i pw) (hb : DK Y b w) (hs : PlainIx b) : DP Y (.Subscript a b pos) i (fun ρ P => pw ρ fun st => w ρ fun d2 => mb (getE ρ i st) fun d => ixK d d2 fun k => P (st ++ [.at k])) :=
  ⟨PE.imp (pe_ix ix_seq ha.run hb.run hs) fun σ H Q h => rd_kP (Y := Y) (o := fun ρ st d2 P => mb (getE ρ i st) fun d => ixK d d2 fun k => P (st ++ [.at k])) (fun {F R H ρ B A1 A2 A st x y d1 d2 P Q} W S L r l o q => by
    obtain ⟨d0, e0, o⟩ := mb_some o
    rw [L.get] at e0; cases e0
    cases d2 with
    | int j =>
      obtain ⟨rfl, rfl⟩ := r
      obtain ⟨o1, o2⟩ := o
      obtain ⟨k, ek, o3⟩ := mb_some o2
      have hk : k < seqLen d1 := ixN_lt ek
      cases d1 with
      | lst m xs =>
        have e2 : getS (.lst m xs) (.at k) = some xs[k] := List.getElem?_eq_getElem hk
        obtain ⟨v2, A3, A4, acc, L2⟩ := loc_step W.f L e2
        obtain ⟨p, vs, rfl, e1, B1, q1, hl⟩ := lst_at W.f L.rep
        obtain ⟨p', vs', ev', hh, hv⟩ := acc
        cases ev'
        have hvs : vs[k]? = some v2 := by
          rcases hh with hh | hh
          · rw [e1] at hh; cases hh; exact hv
          · rw [e1] at hh; cases hh
        refine .inl ⟨p, vs, j, v2, rfl, rfl, SqL.of e1, ?_, q v2 ⟨_, _, A3, A4, L2, o3⟩⟩
        unfold atI
        rw [reps_len q1, show ixN xs.length j = some k from ek]
        exact hvs
      | tup xs =>
        have e2 : getS (.tup xs) (.at k) = some xs[k] := List.getElem?_eq_getElem hk
        obtain ⟨v2, A3, A4, acc, L2⟩ := loc_step W.f L e2
        obtain ⟨p, vs, rfl, e1, q1⟩ := L.rep
        obtain ⟨p', vs', ev', hh, hv⟩ := acc
        cases ev'
        have e1' := W.f _ _ e1
        have hvs : vs[k]? = some v2 := by
          rcases hh with hh | hh
          · rw [e1'] at hh; cases hh
          · rw [e1'] at hh; cases hh; exact hv
        refine .inr (.inl ⟨p, vs, j, v2, rfl, rfl, SqT.of e1', ?_, q v2 ⟨_, _, A3, A4, L2, o3⟩⟩)
        unfold atI
        rw [reps_len q1, show ixN xs.length j = some k from ek]
        exact hvs
      | _ => exact o1.elim
    | _ => exact o.elim) h⟩
theorem k_path (h : DP Y e i pw) : DK Y e (fun ρ P => pw ρ fun st => mb (getE ρ i st) P) :=
  ⟨PE.imp h.run fun σ H Q ⟨F, R, ρ, B, P, S, hw, hq, hx⟩ => ⟨F, R, ρ, B, _, S, hw, fun v H1 ⟨st, d1, A1, A2, F1, s, k, W, p, L, q⟩ => by
    obtain ⟨d0, e0, q⟩ := mb_some q
    rw [L.get] at e0; cases e0
    exact hq v H1 ⟨d1, F1, A1, s, k, W, L.rep, fun a => by rw [L.fp]; unfold fpA; omega, p, q⟩, hx⟩⟩
/-- what stands there is frozen where it stands -/
theorem e_path (h : DP Y e i pw) : DE Y e (fun ρ Q => pw ρ fun st => mb (getE ρ i st) fun d => Q (frz d) (putE ρ i st (frz d))) :=
  ⟨PE.imp h.run fun σ H Q ⟨F, R, ρ, B, P, S, hw, hq, hx⟩ => ⟨F, R, ρ, B, _, S, hw, fun v H1 ⟨st, d1, A1, A2, F1, s, k, W, p, L, q⟩ => by
    obtain ⟨d0, e0, q⟩ := mb_some q
    rw [L.get] at e0; cases e0
    have p1 : Sep F1 R (fpA A1 A2) := by rw [← L.fp]; exact p
    have pA : Sep F1 R A1 := p1.mono fun a => by unfold fpA; omega
    have rf : Rep Y.X.K (frzF F1 H1 A1) H1 (frz d1) v fp0 := rep_frz (frzF_same pA) d1 (fun a n => frzF_in n) L.rep
    have sl := L.back (frzF F1 H1 A1) H1 (frz d1) fp0 (frzF_same pA) (fun _ _ => rfl) rf
    rw [fpA_0l] at sl
    exact hq v H1 ⟨frz d1, _, _, fp0, A2, s.trans (frzF_same pA), W.frz pA, rf, sl, by rw [fpA_0l]; exact p1.frz, q⟩, hx⟩⟩
/-- .. is handed on, and gone there -/
theorem e_pmv (h : DP Y e i pw) : DE Y e (fun ρ Q => pw ρ fun st => mb (getE ρ i st) fun d => Q d (putE ρ i st .gone)) :=
  ⟨PE.imp h.run fun σ H Q ⟨F, R, ρ, B, P, S, hw, hq, hx⟩ => ⟨F, R, ρ, B, _, S, hw, fun v H1 ⟨st, d1, A1, A2, F1, s, k, W, p, L, q⟩ => by
    obtain ⟨d0, e0, q⟩ := mb_some q
    rw [L.get] at e0; cases e0
    have sl := L.back F1 H1 .gone fp0 (Same.refl F1) (fun _ _ => rfl) rfl
    rw [fpA_0l] at sl
    exact hq v H1 ⟨d1, _, F1, A1, A2, s, W, L.rep, sl, by rw [← L.fp]; exact p, q⟩, hx⟩⟩
end
end L3
namespace L3
open PySem PySem.Spec L2
open PyProof.Rows hiding St
/-! room that also tells that no printing is under way: what repr asks for. The promise of a def with it, and its calls -/
structure Room (k : Nat) (A : Around) : Prop where
  hd : A.handled = none
  dp : A.depth + 3 * k + 5 < recursionLimit
  un : A.units + 16 * k + 200 < cLine
  gd : A.guards = some []
theorem Room.old {k : Nat} {A : Around} (r : Room k A) : L2.Room k A := ⟨r.hd, r.dp, r.un⟩
theorem Room.of {k : Nat} {A : Around} (r : L2.Room k A) (g : A.guards = some []) : Room k A := ⟨r.hd, r.dp, r.un, g⟩
theorem Room.mono {j k : Nat} {A : Around} (r : Room k A) (h : j ≤ k) : Room j A := .of (r.old.mono h) r.gd
theorem Room.deeper {k : Nat} {A : Around} (r : Room (k + 1) A) (env : PySem.Env) : Room k (A.deeper env) := .of (r.old.deeper env) r.gd
theorem Room.make {k : Nat} {A : Around} (r : Room (k + 1) A) (C : Addr) (us : List Value) : Room k (A.under (.builtin "type.__call__" ⟨.ref C :: us, []⟩)) :=
  .of (r.old.make C us []) (by
    have h := r.gd
    first
    | exact h
    | simp [Around.under, Code.guards, Code.isGuard, pushGuards, h])
theorem Room.depth {k : Nat} {A : Around} (r : Room k A) : A.depth < recursionLimit := r.old.depth
theorem Room.units {k : Nat} {A : Around} (r : Room k A) : A.units + 64 < cLine := r.old.units
theorem hu_of {A : Around} {k : Nat} (hr : Room k A) : A.units + 1 < cLine := L2.hu_of hr.old
structure FnOk (P : Program) (w : World) (K : PySem.W.Frag) (mg : Str → Option Value) (base : Heap) (CX : CXT) (k : Nat) (f : Addr) (fd : FuncData) (ps : List Str) (sp : Sp) : Prop where
  len : ∀ vs H Q E, sp vs H Q E → vs.length = ps.length
  run : ∀ (A : Around) (outer : List PySem.Env) (s : Shared) (H : Hp) (args : Args) (us : List Value) (vs : List V) (Q : VK) (E : XK), Room k A → Env0 P w K mg base A outer s H → BindsTo s fd args (ps.zip us) → Vals vs us → sp vs H Q E →
    codeAny (model P w) A (.call (.ref f) args) (CR CX outer P w H s Q E) s
theorem FnOk.mono {P : Program} {w : World} {K : PySem.W.Frag} {mg : Str → Option Value} {base : Heap} {CX : CXT} {j k : Nat} {f : Addr} {fd : FuncData} {ps : List Str} {sp : Sp} (F : FnOk P w K mg base CX j f fd ps sp) (h : j ≤ k) : FnOk P w K mg base CX k f fd ps sp :=
  ⟨F.len, fun A outer s H args us vs Q E hr => F.run A outer s H args us vs Q E (hr.mono h)⟩
section
variable {P : Program} {w : World} {K : PySem.W.Frag} {mg : Str → Option Value} {base : Heap}
/-- a def by its body -/
theorem fun_ok {x qual : Str} {st : Stmt} {f : Addr} {fd : FuncData} {N ps : List Str} {k : Nat} {sp : Sp} (F : Fun K x qual st f fd) (S : FnScope N ps (defScope st)) (len : ∀ vs H Q E, sp vs H Q E → vs.length = ps.length)
    (hbody : ∀ (cdv : Value) (A : Around) (outer : List PySem.Env) (s : Shared) (H : Hp) (vs : List V) (Q : VK) (E : XK), Room k (A.deeper (envOfC qual (defScope st) s.heap.objs.size f cdv)) → sp vs H Q E →
      ∃ t, PSs (cxOf CX0 P w K mg base N qual (defScope st) f cdv A outer s H E).nox (defBody st) t ∧ t { nx := fun _ H' => Q .non H', rt := Q } (L2.start N vs) H) : FnOk P w K mg base CX0 (k + 1) f fd ps sp := by
  obtain ⟨oc, od, kV, doc, pm, an, cdv, ct, osl, rfl, lk, hcd⟩ := F.ex
  refine ⟨len, fun A outer s H args us vs Q E hr e0 hb r hsp => ?_⟩
  have kept : ∀ b o, base.get? b = some o → s.heap.get? b = some o := fun b o e => (e0.bs b o e).1
  have KX : K.In s.heap := e0.mod.kin.keeps kept
  have names : ∀ y ∈ ps.zip us, (defScope st).names.lookup y.1 = some .local ∨ ((defScope st).names.lookup y.1 = some .cell ∧ ((cellsFrom (s.heap.objs.size + 1) (defScope st).names []).lookup y.1).isSome = true) := fun y hy =>
    (S.par y.1 (List.of_mem_zip (show (y.1, y.2) ∈ ps.zip us from hy)).1).imp id fun q => ⟨q, PySem.W.cellsFrom_some _ _ _ (.inl q)⟩
  refine codeAny_call_function hr.depth (KX _ _ lk) rfl S.co S.gen rfl (PySem.W.codeRec_of KX hcd) (hb _ _ _ _ ?_)
  refine wpAny_newFunctionEnv_cells S.kind names fun env he s1 z => ?_
  subst he
  refine ⟨(e0.mod.nolimit.keeps kept).keeps z.toInCall.keep, codeAny_func ?_⟩
  obtain ⟨t, ht, hq⟩ := hbody cdv A outer s H vs Q E (hr.deeper _) hsp
  have I : Inv (cxOf CX0 P w K mg base N qual (defScope st) f cdv A outer s H E) [] (L2.start N vs) H s1 := inv_start S hr.hd e0 (len _ _ _ _ hsp) r z
  refine wpAny_mono (ht.nox.run [] s1 (L2.start N vs) H _ I hq) (fun fl s' hs => ?_) fun e s' hs => hs
  cases fl with
  | ret u => exact let ⟨v, σ', H', J, rv, q⟩ := hs; ⟨v, H', J.os, J.bare, J.base, J.hok, rv, q⟩
  | next => exact let ⟨σ', H', J, q⟩ := hs; ⟨V.non, H', J.os, J.bare, J.base, J.hok, rfl, q⟩
  | brk => exact let ⟨_, _, _, q⟩ := hs; q.elim
  | cont => exact let ⟨_, _, _, q⟩ := hs; q.elim
end
section
variable {X : Cx} {CX : CXT} {k : Nat} {f C : Addr} {fd : FuncData} {ps : List Str} {sp : Sp} {E : XK} {x m : Str} {p pos apos : Pos} {e o : Expr} {es : List Expr} {ta : TE} {t : TA}
theorem go_fn {pins : List (Addr × Obj)} {σ : L2.St} {H : Hp} {s : Shared} {Q : VK} {us : List Value} {vs : List V} (F : FnOk X.prog X.w X.K X.mg X.base CX0 k f fd ps sp) (hr : Room k X.A) (hb : Binds X.K fd ps [])
    (I : Inv X pins σ H s) (r : Vals vs us) (h : sp vs H Q E) : wpAny (model X.prog X.w) X.A (call (.ref f) us) (EP X pins σ Q) X.xe s := by
  have hl : (us ++ []).length = ps.length := by rw [List.append_nil, ← r.length]; exact F.len _ _ _ _ h
  have hbb := hb s us I.kIn hl
  rw [List.append_nil] at hbb
  refine wpAny_call (codeAny_mono (F.run X.A X.stack s H ⟨us, []⟩ us vs Q E hr I.env0 hbb r h) fun r s' hq => ?_)
  match r, hq with
  | .ok (.ret u), hq => exact I.after hq
theorem pe_call (F : FnOk X.prog X.w X.K X.mg X.base CX0 k f fd ps sp) (hr : Room k X.A) (hg : Gl X x) (hm : X.mg x = some (.ref f)) (hk : PySem.W.keepIn X.K (.ref f) = true) (hb : Binds X.K fd ps []) (ha : PA X (e :: es) t) (hdb : (x == ("__debug__" : Str)) = false := by decide)
    (he : starEach (e :: es) X.env = (false, eval e X.env) :: starEach es X.env := by rfl) (hpl : (backTo pos (starEach es X.env)).any (·.1) = false := by rfl) : PE X (.Call (.Name x p) (e :: es) [] pos) (fun σ H Q => t σ H fun vs H1 => sp vs H1 Q E) :=
  ⟨fun pins s σ H Q I h => wpAny_Call_Name_kw (ld_glob I hg hm (PySem.W.callWith_K (h₀ := X.base) I.ok.mod.kin hk (thn (ha.run pos pins s σ H _ I h) fun us s1 ⟨vs, H1, I1, r, q⟩ => ⟨I1.kIn, go_fn F hr hb I1 r q⟩) he hpl) hdb)⟩
theorem pe_call0 (F : FnOk X.prog X.w X.K X.mg X.base CX0 k f fd ps sp) (hr : Room k X.A) (hg : Gl X x) (hm : X.mg x = some (.ref f)) (hk : PySem.W.keepIn X.K (.ref f) = true) (hb : Binds X.K fd ps []) (hdb : (x == ("__debug__" : Str)) = false := by decide) :
    PE X (.Call (.Name x p) [] [] pos) (fun σ H Q => sp [] H Q E) :=
  ⟨fun pins s σ H Q I h => wpAny_Call_Name_kw (ld_glob I hg hm (PySem.W.callWith_K0 I.kIn hk (go_fn (us := []) F hr hb I .nil h)) hdb)⟩
theorem pe_meth {pl : Sem Bool} (he : PE X o ta) (c : Cls X.K C) (hm : Meth X.K C m f) (F : FnOk X.prog X.w X.K X.mg X.base CX0 k f fd ps sp) (hr : Room k X.A) (hb : Binds X.K fd ps []) (ha : PA X (e :: es) t)
    (hst : starEach (e :: es) X.env = (false, eval e X.env) :: starEach es X.env := by rfl) (hpl : (backTo pos (starEach es X.env)).any (·.1) = false := by rfl)
    (ht : eval (.Call (.Attribute o m apos) (e :: es) [] pos) X.env = (do
      let ov ← eval o X.env
      standAt apos.atName
      let (f, first) ← holding [ov] (getMethod ov m pl)
      callWith pos f first (backTo pos (starEach (e :: es) X.env)) (backToKw pos (keywordEach [] X.env))) := by rfl) :
    PE X (.Call (.Attribute o m apos) (e :: es) [] pos) (fun σ H Q => ta σ H fun x H1 => ∃ a dx fs, x = .ref a ∧ H1 a = some (.ins C dx fs) ∧ fs.lookup m = none ∧ t σ H1 fun vs H2 => sp (x :: vs) H2 Q E) :=
  ⟨fun pins s σ H Q I h => PySem.W.methodCall_KW (pl := pl) (thn (he.run pins s σ H _ I h) fun u s1 ⟨x, H1, I1, rx, a, dx, fs, ex, ea, l, q⟩ => by
    subst ex
    obtain rfl : u = Value.ref a := rx
    exact getmeth_ok I1 ea c hm l (PySem.W.callWith_K (first := [.ref a]) (h₀ := X.base) I.ok.mod.kin hm.kp (thn (ha.run pos pins s1 σ H1 _ I1 q) fun us s2 ⟨vs, H2, I2, r, q2⟩ => ⟨I2.kIn, go_fn (us := .ref a :: us) (vs := .ref a :: vs) F hr hb I2 (.cons rfl r) q2⟩) hst hpl)) ht⟩
theorem pe_meth0 {pl : Sem Bool} (he : PE X o ta) (c : Cls X.K C) (hm : Meth X.K C m f) (F : FnOk X.prog X.w X.K X.mg X.base CX0 k f fd ps sp) (hr : Room k X.A) (hb : Binds X.K fd ps [])
    (ht : eval (.Call (.Attribute o m apos) [] [] pos) X.env = (do
      let ov ← eval o X.env
      standAt apos.atName
      let (f, first) ← holding [ov] (getMethod ov m pl)
      callWith pos f first (backTo pos (starEach [] X.env)) (backToKw pos (keywordEach [] X.env))) := by rfl) :
    PE X (.Call (.Attribute o m apos) [] [] pos) (fun σ H Q => ta σ H fun x H1 => ∃ a dx fs, x = .ref a ∧ H1 a = some (.ins C dx fs) ∧ fs.lookup m = none ∧ sp [x] H1 Q E) :=
  ⟨fun pins s σ H Q I h => PySem.W.methodCall_KW (pl := pl) (thn (he.run pins s σ H _ I h) fun u s1 ⟨x, H1, I1, rx, a, dx, fs, ex, ea, l, q⟩ => by
    subst ex
    obtain rfl : u = Value.ref a := rx
    exact getmeth_ok I1 ea c hm l (PySem.W.callWith_K0 (first := [.ref a]) I1.kIn hm.kp (go_fn (us := [.ref a]) (vs := [.ref a]) F hr hb I1 (.cons rfl .nil) q))) ht⟩
theorem go_make {pins : List (Addr × Obj)} {σ : L2.St} {H : Hp} {s : Shared} {Q : VK} {us : List Value} {vs : List V} (M : Mk X.K C f) (F : FnOk X.prog X.w X.K X.mg X.base CX0 k f fd ps sp) (hr : Room (k + 1) X.A) (hb : Binds X.K fd ps []) (I : Inv X pins σ H s) (r : Vals vs us)
    (h : ∀ x dx, H x = none → H dx = none → dx ≠ x → sp (.ref x :: vs) (upd (upd H dx (.own x)) x (.ins C dx [])) (fun v H2 => v = .non ∧ Q (.ref x) H2) E) : wpAny (model X.prog X.w) X.A (call (.ref C) us) (EP X pins σ Q) X.xe s := by
  have hq := h (s.heap.objs.size + 1) s.heap.objs.size (I.hok.fresh (Nat.le_succ _)) (I.hok.fresh (Nat.le_refl _)) (Nat.ne_of_lt (Nat.lt_succ_self _))
  have I2 := Inv.made (C := C) I
  have r2 : Vals (V.ref (s.heap.objs.size + 1) :: vs) (Value.ref (s.heap.objs.size + 1) :: us) := .cons rfl r
  have hl : (Value.ref (s.heap.objs.size + 1) :: us ++ []).length = ps.length := by rw [List.append_nil, ← r2.length]; exact F.len _ _ _ _ hq
  have hbb := hb _ (Value.ref (s.heap.objs.size + 1) :: us) I2.kIn hl
  rw [List.append_nil] at hbb
  refine wpAny_call (make_map (f := f) I.kIn M.makes M.init (beq_iff_eq.mp M.fn) (codeAny_mono (F.run _ X.stack _ _ ⟨_, []⟩ _ _ _ E (hr.make C us) (I2.env0.make C us []) hbb r2 hq) fun r s' hq' => ?_))
  match r, hq' with
  | .ok (.ret u), hq' =>
    obtain ⟨v, H', I3, rv, ev, q3⟩ := I2.after hq'
    subst ev
    exact ⟨rv, ⟨V.ref (s.heap.objs.size + 1), H', I3, rfl, q3⟩⟩
theorem pe_make (M : Mk X.K C f) (F : FnOk X.prog X.w X.K X.mg X.base CX0 k f fd ps sp) (hr : Room (k + 1) X.A) (hg : Gl X x) (hm : X.mg x = some (.ref C)) (hb : Binds X.K fd ps []) (ha : PA X (e :: es) t) (hdb : (x == ("__debug__" : Str)) = false := by decide)
    (he : starEach (e :: es) X.env = (false, eval e X.env) :: starEach es X.env := by rfl) (hpl : (backTo pos (starEach es X.env)).any (·.1) = false := by rfl) :
    PE X (.Call (.Name x p) (e :: es) [] pos) (fun σ H Q => t σ H fun vs H1 => ∀ x dx, H1 x = none → H1 dx = none → dx ≠ x → sp (.ref x :: vs) (upd (upd H1 dx (.own x)) x (.ins C dx [])) (fun v H2 => v = .non ∧ Q (.ref x) H2) E) :=
  ⟨fun pins s σ H Q I h => wpAny_Call_Name_kw (ld_glob I hg hm (PySem.W.callWith_K (h₀ := X.base) I.ok.mod.kin M.kp (thn (ha.run pos pins s σ H _ I h) fun us s1 ⟨vs, H1, I1, r, q⟩ => ⟨I1.kIn, go_make M F hr hb I1 r q⟩) he hpl) hdb)⟩
theorem pe_make0 (M : Mk X.K C f) (F : FnOk X.prog X.w X.K X.mg X.base CX0 k f fd ps sp) (hr : Room (k + 1) X.A) (hg : Gl X x) (hm : X.mg x = some (.ref C)) (hb : Binds X.K fd ps []) (hdb : (x == ("__debug__" : Str)) = false := by decide) :
    PE X (.Call (.Name x p) [] [] pos) (fun σ H Q => ∀ x dx, H x = none → H dx = none → dx ≠ x → sp [.ref x] (upd (upd H dx (.own x)) x (.ins C dx [])) (fun v H2 => v = .non ∧ Q (.ref x) H2) E) :=
  ⟨fun pins s σ H Q I h => wpAny_Call_Name_kw (ld_glob I hg hm (PySem.W.callWith_K0 I.kIn M.kp (go_make (us := []) M F hr hb I .nil h)) hdb)⟩
end
end L3
namespace L3
open PySem PySem.Spec L2
open PyProof.Rows hiding St
/-- an argument: a value that is handed over, or what a slot holds, lent -/
inductive Arg where
  | val (d : D) | ref (i : Nat)
def ArgR (K : PySem.W.Frag) (F H : Hp) (σ : St) : List Arg → List V → FP → Prop
  | [], vs, A => vs = [] ∧ A = fp0
  | .val d :: as, vs, A => ∃ v vr B C, vs = v :: vr ∧ Rep K F H d v B ∧ ArgR K F H σ as vr C ∧ A = fpA B C
  | .ref i :: as, vs, A => ∃ v vr, vs = v :: vr ∧ σ[i]? = some (some v) ∧ ArgR K F H σ as vr A
theorem argr_mono {K : PySem.W.Frag} {F F' H H' : Hp} {σ : St} (s : Same F F') : ∀ {as : List Arg} {vs : List V} {A : FP}, (∀ a, A a ≠ 0 → H' a = H a) → ArgR K F H σ as vs A → ArgR K F' H' σ as vs A
  | [], _, _, _, r => r
  | .val d :: as, _, _, k, ⟨v, vr, B, C, e, r, q, z⟩ => ⟨v, vr, B, C, e, rep_mono s d (fun a n => k a (by rw [z]; exact fpA_l n)) r, argr_mono s (fun a n => k a (by rw [z]; exact fpA_r n)) q, z⟩
  | .ref i :: as, _, _, k, ⟨v, vr, e, h, q⟩ => ⟨v, vr, e, h, argr_mono s k q⟩
theorem argr_own {K : PySem.W.Frag} {F H : Hp} {σ : St} : ∀ {as : List Arg} {vs : List V} {A : FP}, ArgR K F H σ as vs A → ∀ a, A a ≠ 0 → ∃ o, H a = some o ∧ NoTup o
  | [], _, _, r, a, n => by rw [r.2] at n; exact absurd rfl n
  | .val d :: as, _, _, ⟨v, vr, B, C, e, r, q, z⟩, a, n => by
    rw [z, fpA_ne] at n
    rcases n with n | n
    · exact rep_own d r a n
    · exact argr_own q a n
  | .ref i :: as, _, _, ⟨v, vr, e, h, q⟩, a, n => argr_own q a n
/-- lent: the slots are empty meanwhile -/
def ftch : List Arg → Env → (List D → Env → Prop) → Prop
  | [], ρ, k => k [] ρ
  | .val d :: as, ρ, k => ftch as ρ fun ds ρ' => k (d :: ds) ρ'
  | .ref i :: as, ρ, k => gv ρ i fun d => ftch as (ρ.set i (some .gone)) fun ds ρ' => k (d :: ds) ρ'
/-- given back -/
def bck : List Arg → List D → Env → Env
  | .val _ :: as, _ :: ds, ρ => bck as ds ρ
  | .ref i :: as, d :: ds, ρ => (bck as ds ρ).set i (some d)
  | _, _, ρ => ρ
theorem ftch_ok {K : PySem.W.Frag} {F H : Hp} {σ : St} : ∀ {as : List Arg} {vs : List V} {A B : FP} {ρ : Env} {k : List D → Env → Prop}, ArgR K F H σ as vs A → SlR K F H ρ σ B → ftch as ρ k →
    ∃ ds ρ' A' B', Reps K F H ds vs A' ∧ SlR K F H ρ' σ B' ∧ fpA A B = fpA A' B' ∧ k ds ρ' ∧
      ∀ F₂ H₂ ds' C D' ρ'', Same F F₂ → Reps K F₂ H₂ ds' vs C → SlR K F₂ H₂ ρ' σ D' → ρ'' = bck as ds' ρ' → ∃ E, (∀ a, E a ≤ C a + D' a) ∧ SlR K F₂ H₂ ρ'' σ E
  | [], _, A, B, ρ, k, ⟨e, z⟩, sl, h => ⟨[], ρ, fp0, B, ⟨e, rfl⟩, sl, by rw [z], h, fun F₂ H₂ ds' C D' ρ'' _ _ sl2 e2 => ⟨D', fun a => by omega, by rw [e2]; simpa [bck] using sl2⟩⟩
  | .val d :: as, _, A, B, ρ, k, ⟨v, vr, A1, A2, e, r, q, z⟩, sl, h => by
    obtain ⟨ds, ρ', A', B', h1, h2, h3, h4, h5⟩ := ftch_ok q sl (show ftch as ρ (fun ds ρ' => k (d :: ds) ρ') from h)
    refine ⟨d :: ds, ρ', fpA A1 A', B', ⟨v, vr, A1, A', e, r, h1, rfl⟩, h2, by rw [z, fpA_assoc, h3, fpA_assoc], h4, fun F₂ H₂ ds' C D' ρ'' s r2 sl2 e2 => ?_⟩
    cases ds' with
    | nil => rw [e] at r2; exact absurd r2.1 (by simp)
    | cons d' ds' =>
      obtain ⟨v', vr', C1, C2, ev, r3, r4, z2⟩ := r2
      rw [e] at ev; cases ev
      obtain ⟨E, l, sl3⟩ := h5 F₂ H₂ ds' C2 D' ρ'' s r4 sl2 e2
      exact ⟨E, fun a => by have := l a; rw [z2]; unfold fpA; omega, sl3⟩
  | .ref i :: as, _, A, B, ρ, k, ⟨v, vr, e, hv, q⟩, sl, h => by
    obtain ⟨d, ed, h⟩ := gv_some h
    obtain ⟨v1, B1, B2, g1, g2, g3, g4⟩ := slr_at sl ed
    rw [hv] at g1; cases g1
    have sl1 := g4 F H .gone v fp0 (Same.refl F) (fun _ _ => rfl) rfl
    rw [set_same hv, fpA_0l] at sl1
    obtain ⟨ds, ρ', A', B', h1, h2, h3, h4, h5⟩ := ftch_ok q sl1 h
    refine ⟨d :: ds, ρ', fpA B1 A', B', ⟨v, vr, B1, A', e, g2, h1, rfl⟩, h2, by rw [g3, ← fpA_assoc, fpA_comm (A := A), fpA_assoc, h3, fpA_assoc], h4, fun F₂ H₂ ds' C D' ρ'' s r2 sl2 e2 => ?_⟩
    cases ds' with
    | nil => rw [e] at r2; exact absurd r2.1 (by simp)
    | cons d' ds' =>
      obtain ⟨v', vr', C1, C2, ev, r3, r4, z2⟩ := r2
      rw [e] at ev; cases ev
      obtain ⟨E, l, sl3⟩ := h5 F₂ H₂ ds' C2 D' _ s r4 sl2 rfl
      have hi : i < (bck as ds' ρ').length := by
        rw [← slr_len sl3]; exact (List.getElem?_eq_some_iff.mp hv).1
      obtain ⟨E2, l2, st, _⟩ := slr_set i sl3 hi
      have sl4 := st F₂ H₂ d' v C1 (Same.refl F₂) (fun _ _ => rfl) r3
      rw [set_same hv] at sl4
      exact ⟨fpA C1 E2, fun a => by have := l a; have := l2 a; rw [z2]; unfold fpA; omega, by rw [e2]; exact sl4⟩
/-! ### what a def promises, over data -/
abbrev DSp := List D → (D → List D → Prop) → (Value → List D → Prop) → Prop
def spV (K : PySem.W.Frag) (sp : DSp) : Sp := fun vs H Q E => ∃ F R ds A P EP, Wd F R H ∧ Reps K F H ds vs A ∧ Sep F R A ∧ sp ds P EP ∧
  (∀ v H', (∃ d ds' F' A' B', Same F F' ∧ Wd F' R H' ∧ Rep K F' H' d v A' ∧ Reps K F' H' ds' vs B' ∧ Sep F' R (fpA A' B') ∧ P d ds') → Q v H') ∧
  (∀ c dx H', (∃ ds' F' B', Same F F' ∧ Wd F' R H' ∧ Reps K F' H' ds' vs B' ∧ Sep F' R B' ∧ EP c ds') → E c dx H')
/-- a def that may be called here -/
structure Cal (X : Cx) (CX : CXT) (x : Str) (sp : DSp) : Prop where
  ex : ∃ (k : Nat) (f : Addr) (fd : FuncData) (ps : List Str), FnOk X.prog X.w X.K X.mg X.base CX k f fd ps (spV X.K sp) ∧ Room k X.A ∧ X.mg x = some (.ref f) ∧ PySem.W.keepIn X.K (.ref f) = true ∧ Binds X.K fd ps []
/-- the arguments of a call: handed over, or lent by a name -/
abbrev GW := Env → (List Arg → Env → Prop) → Prop
def rdG (Y : Cy) (w : GW) : TA := fun σ H Q => ∃ F R ρ B P, Sd Y.X.K F R H ρ σ B ∧ w ρ P ∧ (∀ vs H', (∃ as ρ' F' A B', Same F F' ∧ Wd F' R H' ∧ ArgR Y.X.K F' H' σ as vs A ∧ SlR Y.X.K F' H' ρ' σ B' ∧ Sep F' R (fpA A B') ∧ P as ρ') → Q vs H') ∧ ExH Y F R σ
structure DG (Y : Cy) (es : List Expr) (w : GW) : Prop where
  run : PA Y.X es (rdG Y w)
section
variable {Y : Cy} {e : Expr} {es : List Expr} {w : GW} {ew : DW} {pos p : Pos}
theorem g_nil : DG Y [] (fun ρ P => P [] ρ) := ⟨PA.imp pa_nil fun σ H Q ⟨F, R, ρ, B, P, S, hw, hq, hx⟩ => hq [] H ⟨[], ρ, F, fp0, B, Same.refl F, S.w, ⟨rfl, rfl⟩, S.s, by rw [fpA_0l]; exact S.p, hw⟩⟩
theorem g_val (ha : DE Y e ew) (hr : DG Y es w) (hs : starEach (e :: es) Y.X.env = (false, eval e Y.X.env) :: starEach es Y.X.env := by rfl) : DG Y (e :: es) (fun ρ P => ew ρ fun d ρ1 => w ρ1 fun as ρ2 => P (.val d :: as) ρ2) :=
  ⟨PA.imp (pa_cons ha.run hr.run hs) fun σ H Q ⟨F, R, ρ, B, P, S, hw, hq, hx⟩ => ⟨F, R, ρ, B, _, S, hw, fun v H1 ⟨d, ρ1, F1, A, B1, s, W, r, sl, p, q⟩ => by
    have own1 := rep_own d r
    have pA : Sep F1 R A := p.mono fun a => by unfold fpA; omega
    refine ⟨F1, hold R H1 A, ρ1, B1, _, ⟨W.hold pA own1, sl, p.hold⟩, q, fun vs H2 ⟨as, ρ2, F2, A2, B2, s2, W2, r2, sl2, p2, q2⟩ => ?_, hx.hold s W pA⟩
    obtain ⟨W3, p3, k3⟩ := hold_back W pA own1 W2 p2
    exact hq _ _ ⟨.val d :: as, ρ2, F2, fpA A A2, B2, s.trans s2, W3, ⟨v, vs, A, A2, rfl, rep_mono s2 d k3 r, r2, rfl⟩, sl2, by rw [fpA_assoc]; exact p3, q2⟩, hx⟩⟩
theorem g_ref (i : Nat) {x : Str} {pos : Pos} (hr : DG Y es w) (hN : Y.X.N[i]? = some x := by rfl) (hv : Vis Y.X.env.scope x := by first | exact Or.inl rfl | exact Or.inr (Or.inl rfl) | exact Or.inr (Or.inr rfl)) (hd : (x == ("__debug__" : Str)) = false := by decide)
    (hcd : (x == ("__classdict__" : Str)) = false := by decide) (hs : starEach (.Name x pos :: es) Y.X.env = (false, eval (.Name x pos) Y.X.env) :: starEach es Y.X.env := by rfl) : DG Y (.Name x pos :: es) (fun ρ P => gv ρ i fun _ => w ρ fun as ρ2 => P (.ref i :: as) ρ2) :=
  ⟨PA.imp (pa_cons (pe_var hN hv hd hcd) hr.run hs) fun σ H Q ⟨F, R, ρ, B, P, S, hw, hq, hx⟩ => by
    obtain ⟨d, e, hw⟩ := gv_some hw
    obtain ⟨v, A, h1, _⟩ := slr_get S.s e
    exact ⟨v, h1, F, R, ρ, B, _, S, hw, fun vs H2 ⟨as, ρ2, F2, A2, B2, s2, W2, r2, sl2, p2, q2⟩ => hq _ _ ⟨.ref i :: as, ρ2, F2, A2, B2, s2, W2, ⟨v, vs, rfl, h1, r2⟩, sl2, p2, q2⟩, hx⟩⟩
/-- the call over data -/
def cal (sp : DSp) (ex : Value → Env → Prop) (as : List Arg) (ρ : Env) (Q : D → Env → Prop) : Prop :=
  ftch as ρ fun ds ρ' => sp ds (fun d ds' => Q d (bck as ds' ρ')) (fun c ds' => ex c (bck as ds' ρ'))
theorem sep_sub {F R : Hp} {A A' B B' C : FP} (s : Sep F R (fpA A (fpA C B))) (h : ∀ a, B' a ≤ C a + B a) : Sep F R (fpA A B') := s.mono fun a => by have := h a; unfold fpA; omega
/-- the promise of a callee is enough -/
theorem cal_ok {σ : St} {F R H : Hp} {as : List Arg} {vs : List V} {A B : FP} {ρ : Env} {sp : DSp} {P : D → Env → Prop} {Q : VK} {ex : Value → Env → Prop} {E : XK} (W : Wd F R H) (r : ArgR Y.X.K F H σ as vs A) (sl : SlR Y.X.K F H ρ σ B) (p : Sep F R (fpA A B)) (h : cal sp ex as ρ P)
    (hq : ∀ v H', EvO Y F R σ P v H' → Q v H') (hx : ∀ c dx H', StP Y F R σ (ex c) σ H' → E c dx H') : spV Y.X.K sp vs H Q E := by
  obtain ⟨ds, ρ', A', B', h1, h2, h3, h4, h5⟩ := ftch_ok r sl h
  rw [h3] at p
  have own2 := slr_own h2
  have pB : Sep F R B' := p.mono fun a => by unfold fpA; omega
  have p' : Sep F R (fpA B' A') := by rw [fpA_comm]; exact p
  refine ⟨F, hold R H B', ds, A', _, _, W.hold pB own2, h1, p'.hold, h4, fun v H' ⟨d, ds', F', A2, B2, s, W', rd, rds, p2, q⟩ => ?_, fun c dx H' ⟨ds', F', B2, s, W', rds, p2, q⟩ => ?_⟩
  · obtain ⟨W3, p3, k3⟩ := hold_back W pB own2 W' p2
    obtain ⟨E, l, sl3⟩ := h5 F' H' ds' B2 B' _ s rds (slr_mono s k3 h2) rfl
    exact hq v H' ⟨d, _, F', A2, E, s, W3, rd, sl3, p3.mono fun a => by have := l a; unfold fpA; omega, q⟩
  · obtain ⟨W3, p3, k3⟩ := hold_back W pB own2 W' p2
    obtain ⟨E, l, sl3⟩ := h5 F' H' ds' B2 B' _ s rds (slr_mono s k3 h2) rfl
    exact hx c dx H' ⟨_, F', E, s, W3, sl3, p3.mono fun a => by have := l a; unfold fpA; omega, .refl, q⟩
/-- f(..), f raises nothing -/
theorem e_cal {x : Str} {sp : DSp} (C : Cal Y.X CX0 x sp) (ha : DG Y (e :: es) w) (hg : Gl Y.X x := by rfl) (hdb : (x == ("__debug__" : Str)) = false := by decide) (he : starEach (e :: es) Y.X.env = (false, eval e Y.X.env) :: starEach es Y.X.env := by rfl)
    (hpl : (backTo pos (starEach es Y.X.env)).any (·.1) = false := by rfl) : DE Y (.Call (.Name x p) (e :: es) [] pos) (fun ρ Q => w ρ fun as ρ1 => cal sp (fun _ _ => False) as ρ1 Q) := by
  obtain ⟨k, f, fd, ps, F, hr, hm, hk, hb⟩ := C.ex
  refine ⟨PE.imp (pe_call (E := E0) F hr hg hm hk hb ha.run hdb he hpl) fun σ H Q ⟨F, R, ρ, B, P, S, hw, hq, hx⟩ => ⟨F, R, ρ, B, _, S, hw, fun vs H1 ⟨as, ρ1, F1, A, B1, s, W, r, sl, p, q⟩ => ?_, hx⟩⟩
  show spV Y.X.K sp vs H1 Q E0
  exact cal_ok (E := E0) W r sl p q (fun v H' z => hq v H' (z.back s)) fun c dx H' ⟨_, _, _, _, _, _, _, _, z⟩ => z.elim
/-- f() -/
theorem e_cal0 {x : Str} {sp : DSp} (C : Cal Y.X CX0 x sp) (hg : Gl Y.X x := by rfl) (hdb : (x == ("__debug__" : Str)) = false := by decide) : DE Y (.Call (.Name x p) [] [] pos) (fun ρ Q => cal sp (fun _ _ => False) [] ρ Q) := by
  obtain ⟨k, f, fd, ps, F, hr, hm, hk, hb⟩ := C.ex
  refine ⟨PE.imp (pe_call0 (E := E0) F hr hg hm hk hb hdb) fun σ H Q ⟨F, R, ρ, B, P, S, hw, hq, hx⟩ => ?_⟩
  show spV Y.X.K sp [] H Q E0
  exact cal_ok (E := E0) S.w (show ArgR Y.X.K F H σ [] [] fp0 from ⟨rfl, rfl⟩) S.s (by rw [fpA_0l]; exact S.p) hw hq fun c dx H' ⟨_, _, _, _, _, _, _, _, z⟩ => z.elim
/-! ### methods: the receiver is lent -/
/-- a method of the class C -/
structure CalM (X : Cx) (CX : CXT) (C m : Str) (sp : DSp) : Prop where
  ex : ∃ (k : Nat) (c f : Addr) (fd : FuncData) (ps : List Str), ClsN X.K C c ∧ Cls X.K c ∧ Meth X.K c m f ∧ FnOk X.prog X.w X.K X.mg X.base CX k f fd ps (spV X.K sp) ∧ Room k X.A ∧ Binds X.K fd ps []
def isInsM (C m : Str) : D → Prop
  | .ins C' fs => C' = C ∧ flook fs m = none
  | _ => False
theorem repf_none {K : PySem.W.Frag} {F H : Hp} : ∀ {ds : List (Str × D)} {vs : List (Str × V)} {A : FP} {f : Str}, Repf K F H ds vs A → flook ds f = none → vs.lookup f = none
  | [], _, _, f, r, _ => by rw [r.1]; rfl
  | (g, d0) :: ds, _, _, f, ⟨v, σr, B, C, e, r, q, z⟩, h => by
    subst e
    by_cases hg : g = f
    · subst hg; simp [flook] at h
    · simp only [flook, if_neg hg] at h
      have hb : (f == g) = false := beq_eq_false_iff_ne.mpr (Ne.symm hg)
      rw [List.lookup_cons, hb]
      exact repf_none q h
theorem e_meth (i : Nat) {x m C : Str} {sp : DSp} {pl : Sem Bool} {apos : Pos} (M : CalM Y.X CX0 C m sp) (ha : DG Y (e :: es) w) (hN : Y.X.N[i]? = some x := by rfl) (hv : Vis Y.X.env.scope x := by first | exact Or.inl rfl | exact Or.inr (Or.inl rfl) | exact Or.inr (Or.inr rfl))
    (hd : (x == ("__debug__" : Str)) = false := by decide) (hcd : (x == ("__classdict__" : Str)) = false := by decide)
    (hst : starEach (e :: es) Y.X.env = (false, eval e Y.X.env) :: starEach es Y.X.env := by rfl) (hpl : (backTo pos (starEach es Y.X.env)).any (·.1) = false := by rfl)
    (ht : eval (.Call (.Attribute (.Name x p) m apos) (e :: es) [] pos) Y.X.env = (do
      let ov ← eval (.Name x p) Y.X.env
      standAt apos.atName
      let (f, first) ← holding [ov] (getMethod ov m pl)
      callWith pos f first (backTo pos (starEach (e :: es) Y.X.env)) (backToKw pos (keywordEach [] Y.X.env))) := by rfl) :
    DE Y (.Call (.Attribute (.Name x p) m apos) (e :: es) [] pos) (fun ρ Q => (gv ρ i fun d => isInsM C m d) ∧ w ρ fun as ρ1 => cal sp (fun _ _ => False) (.ref i :: as) ρ1 Q) := by
  obtain ⟨k, c, f, fd, ps, hc, hcl, hm, F, hr, hb⟩ := M.ex
  refine ⟨PE.imp (pe_meth (E := E0) (pe_var hN hv hd hcd) hcl hm F hr hb ha.run hst hpl ht) fun σ H Q ⟨F, R, ρ, B, P, S, ⟨h1, hw⟩, hq, hx⟩ => ?_⟩
  obtain ⟨d, e1, h1⟩ := gv_some h1
  obtain ⟨v, A0, g1, g2, _⟩ := slr_get S.s e1
  cases d with
  | ins C' fs =>
    obtain ⟨rfl, hn⟩ := h1
    obtain ⟨c', a, dx, vs0, B0, hc', ev, ha', hd', ne, rs, z⟩ := g2
    have ec : c' = c := by
      unfold ClsN at hc hc'
      rw [hc] at hc'
      simpa using hc'.symm
    subst ec ev
    refine ⟨_, g1, a, dx, vs0, rfl, ha', repf_none rs hn, F, R, ρ, B, _, S, hw, fun vs H1 ⟨as, ρ1, F1, A, B1, s, W, r, sl, p, q⟩ => ?_, hx⟩
    show spV Y.X.K sp (.ref a :: vs) H1 Q E0
    exact cal_ok (E := E0) W (show ArgR Y.X.K F1 H1 σ (.ref i :: as) (.ref a :: vs) A from ⟨_, vs, rfl, g1, r⟩) sl p q (fun v H' z => hq v H' (z.back s)) fun c dx H' ⟨_, _, _, _, _, _, _, _, z⟩ => z.elim
  | _ => exact h1.elim
end
end L3
namespace L3
open PySem PySem.Spec L2
open PyProof.Rows hiding St
/-- what is wanted behind a statement -/
structure En where
  nx : Env → Prop
  rt : D → Env → Prop
  bk : Env → Prop := fun _ => False
  ct : Env → Prop := fun _ => False
abbrev SW := En → Env → Prop
def RtP (Y : Cy) (F R : Hp) (σ : St) (P : D → Env → Prop) : V → Hp → Prop := fun v H' => ∃ d ρ' σ' F' A B, Same F F' ∧ Wd F' R H' ∧ Rep Y.X.K F' H' d v A ∧ SlR Y.X.K F' H' ρ' σ' B ∧ Sep F' R (fpA A B) ∧ AgT Y.T σ σ' ∧ P d ρ'
structure Goes (Y : Cy) (F R : Hp) (σ : St) (K : En) (Z : Ends) : Prop where
  nx : ∀ σ' H', StP Y F R σ K.nx σ' H' → Z.nx σ' H'
  rt : ∀ v H', RtP Y F R σ K.rt v H' → Z.rt v H'
  bk : ∀ σ' H', StP Y F R σ K.bk σ' H' → Z.bk σ' H'
  ct : ∀ σ' H', StP Y F R σ K.ct σ' H' → Z.ct σ' H'
  ex : ExH Y F R σ
def rdS (Y : Cy) (w : SW) : TS := fun Z σ H => ∃ F R ρ B K, Sd Y.X.K F R H ρ σ B ∧ w K ρ ∧ Goes Y F R σ K Z
structure DS (Y : Cy) (st : Stmt) (w : SW) : Prop where
  run : PS Y.X st (rdS Y w)
structure DSs (Y : Cy) (st : List Stmt) (w : SW) : Prop where
  run : PSs Y.X st (rdS Y w)
section
variable {Y : Cy} {F F1 R H H1 : Hp} {ρ : Env} {σ σ1 : St} {A B : FP} {K : En} {Z : Ends} {e c : Expr} {ew : DW} {tw : TW} {w u : SW} {st : Stmt} {rest a b : List Stmt} {pos pos' : Pos}
theorem StP.at {P : Env → Prop} {σ' H'} (s : Same F F1) (g : AgT Y.T σ σ1) : StP Y F1 R σ1 P σ' H' → StP Y F R σ P σ' H' := fun ⟨ρ, F2, B, s2, W, sl, p, g2, q⟩ => ⟨ρ, F2, B, s.trans s2, W, sl, p, g.trans g2, q⟩
theorem RtP.at {P : D → Env → Prop} {v H'} (s : Same F F1) (g : AgT Y.T σ σ1) : RtP Y F1 R σ1 P v H' → RtP Y F R σ P v H' := fun ⟨d, ρ, σ', F2, A, B, s2, W, r, sl, p, g2, q⟩ => ⟨d, ρ, σ', F2, A, B, s.trans s2, W, r, sl, p, g.trans g2, q⟩
theorem Goes.at (G : Goes Y F R σ K Z) (s : Same F F1) (g : AgT Y.T σ σ1) : Goes Y F1 R σ1 K Z :=
  ⟨fun _ _ z => G.nx _ _ (z.at s g), fun _ _ z => G.rt _ _ (z.at s g), fun _ _ z => G.bk _ _ (z.at s g), fun _ _ z => G.ct _ _ (z.at s g), fun c dx σ' H' z => G.ex c dx σ' H' (z.at s g)⟩
theorem ss_nil : DSs Y [] (fun K ρ => K.nx ρ) := ⟨PSs.imp pss_nil fun Z σ H ⟨F, R, ρ, B, K, S, hw, G⟩ => G.nx σ H ⟨ρ, F, B, Same.refl F, S.w, S.s, S.p, .refl, hw⟩⟩
theorem ss_cons (h1 : DS Y st w) (h2 : DSs Y rest u) : DSs Y (st :: rest) (fun K ρ => w { K with nx := u K } ρ) :=
  ⟨PSs.imp (pss_cons h1.run h2.run) fun Z σ H ⟨F, R, ρ, B, K, S, hw, G⟩ => ⟨F, R, ρ, B, _, S, hw, ⟨fun σ' H' ⟨ρ1, F1, B1, s, W, sl, p, g, q⟩ => ⟨F1, R, ρ1, B1, K, ⟨W, sl, p⟩, q, G.at s g⟩, G.rt, G.bk, G.ct, G.ex⟩⟩⟩
theorem ss_one (h1 : DS Y st w) : DSs Y [st] w := ⟨pss_one h1.run⟩
theorem s_break : DS Y (.Break pos) (fun K ρ => K.bk ρ) := ⟨PS.imp ps_break fun Z σ H ⟨F, R, ρ, B, K, S, hw, G⟩ => G.bk σ H ⟨ρ, F, B, Same.refl F, S.w, S.s, S.p, .refl, hw⟩⟩
theorem s_continue : DS Y (.Continue pos) (fun K ρ => K.ct ρ) := ⟨PS.imp ps_continue fun Z σ H ⟨F, R, ρ, B, K, S, hw, G⟩ => G.ct σ H ⟨ρ, F, B, Same.refl F, S.w, S.s, S.p, .refl, hw⟩⟩
theorem s_pass : DS Y (.Pass pos) (fun K ρ => K.nx ρ) := ⟨PS.imp ps_pass fun Z σ H ⟨F, R, ρ, B, K, S, hw, G⟩ => G.nx σ H ⟨ρ, F, B, Same.refl F, S.w, S.s, S.p, .refl, hw⟩⟩
theorem s_expr (h : DE Y e ew) (hs : swapsWith e none pos.line Y.X.env = pure false := by rfl) : DS Y (.Expr e pos) (fun K ρ => ew ρ fun _ ρ1 => K.nx ρ1) :=
  ⟨PS.imp (ps_expr h.run hs) fun Z σ H ⟨F, R, ρ, B, K, S, hw, G⟩ => ⟨F, R, ρ, B, _, S, hw, fun v H1 ⟨d, ρ1, F1, A, B1, s, W, r, sl, p, q⟩ => G.nx σ H1 ⟨ρ1, F1, B1, s, W, sl, p.mono fun a => by unfold fpA; omega, .refl, q⟩, G.ex⟩⟩
theorem s_ret (h : DE Y e ew) : DS Y (.Return (some e) pos) (fun K ρ => ew ρ K.rt) :=
  ⟨PS.imp (ps_ret h.run) fun Z σ H ⟨F, R, ρ, B, K, S, hw, G⟩ => ⟨F, R, ρ, B, _, S, hw, fun v H1 ⟨d, ρ1, F1, A, B1, s, W, r, sl, p, q⟩ => G.rt v H1 ⟨d, ρ1, σ, F1, A, B1, s, W, r, sl, p, .refl, q⟩, G.ex⟩⟩
theorem s_retN : DS Y (.Return none pos) (fun K ρ => K.rt .non ρ) :=
  ⟨PS.imp ps_retN fun Z σ H ⟨F, R, ρ, B, K, S, hw, G⟩ => G.rt .non H ⟨.non, ρ, σ, F, fp0, B, Same.refl F, S.w, rep_non, S.s, by rw [fpA_0l]; exact S.p, .refl, hw⟩⟩
theorem s_if (hc : DT Y c tw) (ha : DSs Y a w) (hb : DSs Y b u) : DS Y (.If c a b pos) (fun K ρ => tw ρ fun c ρ1 => if c = true then w K ρ1 else u K ρ1) :=
  ⟨PS.imp (ps_if hc.run ha.run hb.run) fun Z σ H ⟨F, R, ρ, B, K, S, hw, G⟩ => ⟨F, R, ρ, B, _, S, hw, fun c σ' H1 e ⟨ρ1, F1, B1, s, W, sl, p, g, q⟩ => by
    subst e
    cases c with
    | true =>
      rw [if_pos rfl] at q ⊢
      exact ⟨F1, R, ρ1, B1, K, ⟨W, sl, p⟩, q, G.at s g⟩
    | false =>
      rw [if_neg Bool.false_ne_true] at q ⊢
      exact ⟨F1, R, ρ1, B1, K, ⟨W, sl, p⟩, q, G.at s g⟩, G.ex⟩⟩
/-! ### names are stored -/
theorem agT_set {T : List Nat} {σ : St} {i : Nat} {x : Option V} (h : i ∉ T) : AgT T σ (σ.set i x) := ⟨by simp, fun j hj => by
  rw [List.getElem?_set_ne]
  rintro rfl
  exact h hj⟩
/-- the slot i takes the value -/
theorem st_set {i : Nat} {d : D} {v : V} {P : Env → Prop} (hT : i ∉ Y.T) (hi : i < ρ.length) (W : Wd F R H) (r : Rep Y.X.K F H d v A) (sl : SlR Y.X.K F H ρ σ B) (p : Sep F R (fpA A B)) (q : P (ρ.set i (some d))) : StP Y F R σ P (σ.set i (some v)) H := by
  obtain ⟨C, l, st, _⟩ := slr_set i sl hi
  exact ⟨_, F, _, Same.refl F, W, st F H d v A (Same.refl F) (fun _ _ => rfl) r, p.mono fun a => by have := l a; unfold fpA; omega, agT_set hT, q⟩
theorem s_set {i : Nat} {x : Str} {n : Nat} (h : DE Y e ew) (hN : Y.X.N.Nodup) (hn : Y.X.N.length = n) (hT : i ∉ Y.T := by decide) (hi : Y.X.N[i]? = some x := by rfl) (hx : L2.Loc Y.X.env.scope x := by first | exact Or.inl rfl | exact Or.inr rfl) (hs : swapsWith e (some (.Name x pos')) pos.line Y.X.env = pure false := by rfl)
    (hf : Y.X.fn x = true ∨ Y.X.env.scope.names.lookup x = some .local := by first | exact .inl rfl | exact .inr rfl | assumption) :
    DS Y (.Assign [.Name x pos'] e pos) (fun K ρ => ew ρ fun d ρ1 => i < ρ1.length ∧ K.nx (ρ1.set i (some d))) :=
  ⟨PS.imp (ps_set hN hi hx h.run hs hf) fun Z σ H ⟨F, R, ρ, B, K, S, hw, G⟩ => ⟨F, R, ρ, B, _, S, hw, fun v H1 ⟨d, ρ1, F1, A, B1, s, W, r, sl, p, q⟩ =>
    G.nx _ _ (StP.at (σ1 := σ) s .refl (st_set hT q.1 W r sl p q.2)), G.ex⟩⟩
/-! ### targets -/
abbrev GT := D → Env → (Env → Prop) → Prop
def rdGT (Y : Cy) (w : GT) : TG := fun v σ H Q => ∃ F R ρ d A B P, Wd F R H ∧ Rep Y.X.K F H d v A ∧ SlR Y.X.K F H ρ σ B ∧ Sep F R (fpA A B) ∧ w d ρ P ∧ (∀ σ' H', StP Y F R σ P σ' H' → Q σ' H') ∧ ExH Y F R σ
structure DGT (Y : Cy) (tg : Expr) (w : GT) : Prop where
  run : PG Y.X tg (rdGT Y w)
theorem PG.imp {X : Cx} {e : Expr} {t t' : TG} (h : PG X e t) (k : ∀ v σ H Q, t' v σ H Q → t v σ H Q) : PG X e t' := ⟨fun pins s σ H v u Q I r q => h.run pins s σ H v u Q I r (k _ _ _ _ q)⟩
theorem gt_name {i : Nat} {x : Str} (hN : Y.X.N.Nodup) (hT : i ∉ Y.T := by decide) (hi : Y.X.N[i]? = some x := by rfl) (hx : L2.Loc Y.X.env.scope x := by first | exact Or.inl rfl | exact Or.inr rfl)
    (hf : Y.X.fn x = true ∨ Y.X.env.scope.names.lookup x = some .local := by first | exact .inl rfl | exact .inr rfl | assumption) : DGT Y (.Name x pos) (fun d ρ P => i < ρ.length ∧ P (ρ.set i (some d))) :=
  ⟨PG.imp (pg_name hN hi hx hf) fun v σ H Q ⟨F, R, ρ, d, A, B, P, W, r, sl, p, q, hq, hx⟩ => hq _ _ (st_set hT q.1 W r sl p q.2)⟩
structure DGTs (Y : Cy) (tg : List Expr) (w : List D → Env → (Env → Prop) → Prop) : Prop where
  run : PGs Y.X tg (fun vs σ H Q => ∃ F R ρ ds A B P, Wd F R H ∧ Reps Y.X.K F H ds vs A ∧ SlR Y.X.K F H ρ σ B ∧ Sep F R (fpA A B) ∧ w ds ρ P ∧ (∀ σ' H', StP Y F R σ P σ' H' → Q σ' H') ∧ ExH Y F R σ)
theorem PGs.imp {X : Cx} {e : List Expr} {t t' : TGs} (h : PGs X e t) (k : ∀ v σ H Q, t' v σ H Q → t v σ H Q) : PGs X e t' := ⟨fun pins s σ H v u Q I r q => h.run pins s σ H v u Q I r (k _ _ _ _ q)⟩
def gtNil (ds : List D) (ρ : Env) (P : Env → Prop) : Prop := match ds with
  | [] => P ρ
  | _ => False
def gtCons (w : GT) (u : List D → Env → (Env → Prop) → Prop) (ds : List D) (ρ : Env) (P : Env → Prop) : Prop := match ds with
  | d :: r => w d ρ fun ρ1 => u r ρ1 P
  | [] => False
theorem gts_nil : DGTs Y [] gtNil := ⟨PGs.imp pgs_nil fun vs σ H Q ⟨F, R, ρ, ds, A, B, P, W, r, sl, p, q, hq, hx⟩ => by
  cases ds with
  | nil => exact ⟨r.1, hq σ H ⟨ρ, F, B, Same.refl F, W, sl, p.mono fun a => by unfold fpA; omega, .refl, q⟩⟩
  | cons d ds => exact q.elim⟩
theorem gts_cons {tg : Expr} {tgs : List Expr} {w : GT} {u : List D → Env → (Env → Prop) → Prop} (h1 : DGT Y tg w) (h2 : DGTs Y tgs u) (hs : (assignEach (tg :: tgs) Y.X.env).map (·.2) = assign tg Y.X.env :: (assignEach tgs Y.X.env).map (·.2) := by rfl) : DGTs Y (tg :: tgs) (gtCons w u) :=
  ⟨PGs.imp (pgs_cons h1.run h2.run hs) fun vs σ H Q ⟨F, R, ρ, ds, A, B, P, W, r, sl, p, q, hq, hx⟩ => by
    cases ds with
    | nil => exact q.elim
    | cons d ds =>
      obtain ⟨v, vr, A1, A2, ev, r1, r2, z⟩ := r
      have own2 := reps_own ds r2
      have pA2 : Sep F R A2 := p.mono fun a => by rw [z]; unfold fpA; omega
      have p' : Sep F R (fpA A2 (fpA A1 B)) := p.mono fun a => by rw [z]; unfold fpA; omega
      refine ⟨v, vr, ev, F, hold R H A2, ρ, d, A1, B, _, W.hold pA2 own2, r1, sl, p'.hold, q, fun σ' H' ⟨ρ1, F1, B1, s, W1, sl1, p1, g, q1⟩ => ?_, hx.hold (Same.refl F) W pA2⟩
      obtain ⟨W3, p3, k3⟩ := hold_back W pA2 own2 W1 p1
      refine ⟨F1, R, ρ1, ds, A2, B1, P, W3, reps_mono s ds k3 r2, sl1, p3, q1, fun σ2 H2 z => hq _ _ (z.at s g), fun c dx σ2 H2 z => hx c dx σ2 H2 (z.at s g)⟩⟩
def gtTup (n : Nat) (u : List D → Env → (Env → Prop) → Prop) (d : D) (ρ : Env) (P : Env → Prop) : Prop := match d with
  | .tup ds => ds.length = n ∧ u ds ρ P
  | _ => False
theorem gt_tup {es : List Expr} {k n : Nat} {u : List D → Env → (Env → Prop) → Prop} (hc : Y.X.calm = true) (h : DGTs Y es u) (hn : (assignEach es Y.X.env).length = n := by rfl)
    (hst : (assignEach es Y.X.env).findIdx? (·.1) = none := by rfl) : DGT Y (.Tuple es k pos) (gtTup n u) :=
  ⟨PG.imp (pg_tup hc h.run hn hst) fun v σ H Q ⟨F, R, ρ, d, A, B, P, W, r, sl, p, q, hq, hx⟩ => by
    cases d with
    | tup ds =>
      obtain ⟨a, vs, ev, e, rs⟩ := r
      exact ⟨a, vs, ev, SqT.of (W.f _ _ e), by rw [reps_len rs]; exact q.1, F, R, ρ, ds, A, B, P, W, rs, sl, p, q.2, hq, hx⟩
    | _ => exact q.elim⟩
theorem s_asg {tg : Expr} {gw : GT} (h : DE Y e ew) (hg : DGT Y tg gw) (hs : swapsWithSole [tg] e pos.line Y.X.env = pure false := by rfl) (hw : swappedStores [tg] e Y.X.env = pure none := by rfl)
    (h1 : (assignEach [tg] Y.X.env).map (·.2) = [assign tg Y.X.env] := by rfl) : DS Y (.Assign [tg] e pos) (fun K ρ => ew ρ fun d ρ1 => gw d ρ1 K.nx) :=
  ⟨PS.imp (ps_asg h.run hg.run hs hw h1) fun Z σ H ⟨F, R, ρ, B, K, S, hw, G⟩ => ⟨F, R, ρ, B, _, S, hw, fun v H1 ⟨d, ρ1, F1, A, B1, s, W, r, sl, p, q⟩ =>
    ⟨F1, R, ρ1, d, A, B1, _, W, r, sl, p, q, fun σ' H' z => G.nx _ _ (z.back s), fun c dx σ' H' z => G.ex c dx σ' H' (z.back s)⟩, G.ex⟩⟩
end
end L3
namespace L3
open PySem PySem.Spec L2
open PyProof.Rows hiding St
section
variable {Y : Cy} {F F1 R H H1 : Hp} {ρ : Env} {σ σ1 : St} {A B : FP} {K : En} {Z : Ends} {e c o a b x : Expr} {ew : DW} {pw : PW'} {kw : KW} {tw : TW} {w u : SW} {st : Stmt} {rest body : List Stmt} {pos pos' p2 : Pos} {i : Nat} {Cs : List Str} {f : Str}
/-- what is located may be changed in place, its address kept -/
theorem loc_write {R : Hp} {st : List Stp} {d1 : D} {v1 : V} {A1 A2 A : FP} {p : Addr} {oo : HO} (W : Wd F R H) (L : Loc Y.X.K F H ρ σ B i st d1 v1 A1 A2) (S : Sep F R (fpA A B)) (h1 : A1 p ≠ 0) :
    Wd F R (upd H p oo) ∧ (∀ a, A2 a ≠ 0 → (upd H p oo) a = H a) ∧ (∀ a, A a ≠ 0 → (upd H p oo) a = H a) := by
  have hB : fpA A B p ≠ 0 := fpA_r (by rw [L.fp]; exact fpA_l h1)
  refine ⟨W.write S hB, fun a n => ?_, fun a n => ?_⟩
  · refine upd_ne ?_
    rintro rfl
    have := (S a).1
    unfold fpA at this
    rw [L.fp] at this
    unfold fpA at this
    omega
  · refine upd_ne ?_
    rintro rfl
    have := (S a).1
    unfold fpA at this
    rw [L.fp] at this
    unfold fpA at this
    omega
/-! ### stores -/
/-- o.f = e -/
def stFld (f : Str) (Cs : List Str) (i : Nat) (st : List Stp) (ρ : Env) (d : D) (P : Env → Prop) : Prop := mb (getE ρ i st) fun o => match o with
  | .ins C fs => C ∈ Cs ∧ fs.length < 1000 ∧ P (putE ρ i st (.ins C (fput fs f d)))
  | _ => False
theorem repf_len {K : PySem.W.Frag} {F H : Hp} : ∀ {ds : List (Str × D)} {vs : List (Str × V)} {A : FP}, Repf K F H ds vs A → vs.length = ds.length
  | [], _, _, ⟨e, _⟩ => by rw [e]; rfl
  | x :: xs, _, _, ⟨v, vr, B, C, e, _, r, _⟩ => by rw [e, List.length_cons, List.length_cons, repf_len r]
theorem fput_putF (f : Str) (v : V) : ∀ fs : List (Str × V), fput fs f v = putF f v fs
  | [] => rfl
  | (g, y) :: r => by
    show (if g = f then (g, v) :: r else (g, y) :: fput r f v) = _
    unfold putF
    by_cases h : g = f
    · rw [if_pos h]; simp [h]
    · rw [if_neg h, if_neg h, fput_putF f v r]
/-- a field stored: the old value is let go -/
theorem repf_put {K : PySem.W.Frag} : ∀ {ds : List (Str × D)} {vs : List (Str × V)} {A : FP} (f : Str), Repf K F H ds vs A → ∃ C, (∀ a, C a ≤ A a) ∧
    ∀ F' H' d' v' B', Same F F' → (∀ a, C a ≠ 0 → H' a = H a) → Rep K F' H' d' v' B' → Repf K F' H' (fput ds f d') (fput vs f v') (fpA B' C)
  | [], vs, A, f, ⟨e, z⟩ => by
    subst e z
    exact ⟨fp0, fun _ => Nat.le_refl _, fun F' H' d' v' B' s k r' => ⟨v', [], B', fp0, rfl, r', ⟨rfl, rfl⟩, rfl⟩⟩
  | (g, d0) :: ds, _, _, f, ⟨v, σr, B, C, e, r, q, z⟩ => by
    subst e
    by_cases hg : g = f
    · subst hg
      refine ⟨C, fun a => by rw [z]; unfold fpA; omega, fun F' H' d' v' B' s k r' => ?_⟩
      simp only [fput, if_true]
      exact ⟨v', σr, B', C, rfl, r', repf_mono s ds k q, rfl⟩
    · obtain ⟨C1, l, h⟩ := repf_put f q
      refine ⟨fpA B C1, fun a => by have := l a; rw [z]; unfold fpA; omega, fun F' H' d' v' B' s k r' => ?_⟩
      simp only [fput, if_neg hg]
      refine ⟨v, _, B, _, rfl, rep_mono s d0 (fun a n => k a (fpA_l n)) r, h F' H' d' v' B' s (fun a n => k a (fpA_r n)) r', ?_⟩
      rw [← fpA_assoc, ← fpA_assoc, fpA_comm (A := B')]
theorem s_fld (hv : DE Y e ew) (ho : DP Y o i pw) (hC : ∀ C ∈ Cs, FldOk Y.X.K C f) (hs : swapsWith e (some (.Attribute o f pos')) pos.line Y.X.env = pure false := by rfl) :
    DS Y (.Assign [.Attribute o f pos'] e pos) (fun K ρ => ew ρ fun d ρ1 => pw ρ1 fun st => stFld f Cs i st ρ1 d K.nx) :=
  ⟨PS.imp (ps_fld ho.run hv.run hs) fun Z σ H ⟨F, R, ρ, B, K, S, hw, G⟩ => ⟨F, R, ρ, B, _, S, hw, fun v H1 ⟨d, ρ1, F1, A, B1, s, W, r, sl, p, q⟩ => by
    have own1 := rep_own d r
    have pA : Sep F1 R A := p.mono fun a => by unfold fpA; omega
    refine ⟨F1, hold R H1 A, ρ1, B1, _, ⟨W.hold pA own1, sl, p.hold⟩, q, fun v2 H2 ⟨st, d1, A1, A2, F2, s2, k2, W2, p2, L, q2⟩ => ?_, G.ex.hold s W pA⟩
    obtain ⟨W3, p3, k3⟩ := hold_back W pA own1 W2 p2
    obtain ⟨d0, e0, q2⟩ := mb_some q2
    rw [L.get] at e0; cases e0
    cases d1 with
    | ins C fs =>
      obtain ⟨q3, q4, q5⟩ := q2
      obtain ⟨c, a, dx, vs, B0, hc, ev, ha, hd, ne, rs, z⟩ := L.rep
      obtain ⟨g1, g2⟩ := hC C q3 c hc
      subst ev
      refine ⟨a, c, dx, vs, rfl, ha, g1, g2, by rw [repf_len rs]; exact q4, ?_⟩
      have hA1 : A1 a ≠ 0 := by rw [z]; exact fpA_r (fpA_l (fp1_self a))
      obtain ⟨W4, kA2, kA⟩ := loc_write (oo := .ins c dx (putF f v vs)) W3 L p3 hA1
      have r2 : Rep Y.X.K F2 (upd H2 a (.ins c dx (putF f v vs))) d v A := rep_mono s2 d (fun b n => by rw [kA b n, k3 b n]) r
      obtain ⟨C1, l, hput⟩ := repf_put f rs
      have hn : ∀ b, C1 b ≠ 0 → (upd H2 a (.ins c dx (putF f v vs))) b = H2 b := fun b n => by
        refine upd_ne ?_
        rintro rfl
        have h1 := (p3 b).1
        have h2 := l b
        unfold fpA at h1
        rw [L.fp, z] at h1
        unfold fpA at h1
        simp only [fp1, if_pos] at h1
        omega
      have rs2 := hput F2 _ d v A (Same.refl F2) hn r2
      rw [fput_putF] at rs2
      have hdx : (upd H2 a (.ins c dx (putF f v vs))) dx = some (.own a) := by rw [upd_ne ne]; exact hd
      have sl2 := L.back F2 _ (.ins C (fput fs f d)) _ (Same.refl F2) kA2 ⟨c, a, dx, _, _, hc, rfl, upd_same, hdx, ne, rs2, rfl⟩
      refine G.nx σ _ ⟨_, F2, _, s.trans s2, W4, sl2, p3.mono fun b => ?_, .refl, q5⟩
      have := l b
      rw [L.fp, z]
      unfold fpA
      omega
    | _ => exact q2.elim, G.ex⟩⟩
/-- o[k] = e, o a list of ours -/
def stIx (i : Nat) (st : List Stp) (ρ : Env) (j d : D) (P : Env → Prop) : Prop := mb (getE ρ i st) fun o => match o, j with
  | .lst true xs, .int n => mb (ixN xs.length n) fun k => P (putE ρ i st (.lst true (xs.set k d)))
  | _, _ => False
theorem reps_put {K : PySem.W.Frag} : ∀ {ds : List D} {vs : List V} {A : FP} (k : Nat), Reps K F H ds vs A → ∃ C, (∀ a, C a ≤ A a) ∧
    ∀ F' H' d' v' B', Same F F' → (∀ a, C a ≠ 0 → H' a = H a) → Rep K F' H' d' v' B' → k < ds.length → Reps K F' H' (ds.set k d') (vs.set k v') (fpA B' C)
  | [], vs, A, k, ⟨e, z⟩ => ⟨fp0, fun _ => Nat.zero_le _, fun F' H' d' v' B' s k r' h => absurd h (by simp)⟩
  | d0 :: ds, _, _, 0, ⟨v, σr, B, C, e, r, q, z⟩ => by
    subst e
    exact ⟨C, fun a => by rw [z]; unfold fpA; omega, fun F' H' d' v' B' s k r' _ => ⟨v', σr, B', C, rfl, r', reps_mono s ds k q, rfl⟩⟩
  | d0 :: ds, _, _, k + 1, ⟨v, σr, B, C, e, r, q, z⟩ => by
    subst e
    obtain ⟨C1, l, h⟩ := reps_put k q
    refine ⟨fpA B C1, fun a => by have := l a; rw [z]; unfold fpA; omega, fun F' H' d' v' B' s k r' hk => ?_⟩
    refine ⟨v, _, B, _, rfl, rep_mono s d0 (fun a n => k a (fpA_l n)) r, h F' H' d' v' B' s (fun a n => k a (fpA_r n)) r' (by simpa using hk), ?_⟩
    rw [← fpA_assoc, ← fpA_assoc, fpA_comm (A := B')]
theorem rd_kP' {w : KW} {o : List Stp → D → Prop} {Rz : V → V → Hp → Prop} (S : Sd Y.X.K F R H ρ σ B) (hw : pw ρ fun st => w ρ fun d => o st d) (hx : ExH Y F R σ)
    (hr : ∀ {F2 H2 st x y d1 d2 A1 A2 A}, Same F F2 → Keep B H H2 → Wd F2 R H2 → Sep F2 R B → L3.Loc Y.X.K F2 H2 ρ σ B i st d1 x A1 A2 → Rep Y.X.K F2 H2 d2 y A → (∀ a, A a ≤ B a) → o st d2 → Rz x y H2) : rdP Y i pw σ H fun x H1 => rdK Y w σ H1 fun y H2 => Rz x y H2 := by
  refine ⟨F, R, ρ, B, _, S, hw, fun x H1 ⟨st, d1, A1, A2, F1, s, k, W, p, L, q⟩ => ?_, hx⟩
  have S1 := S.keep s k W p
  refine ⟨F1, R, ρ, B, _, S1, q, fun y H2 ⟨d2, F2, A, s2, k2, W2, r2, l2, p2, q2⟩ => ?_, hx.grow s⟩
  have kA1 : ∀ a, A1 a ≠ 0 → H2 a = H1 a := fun a n => k2 a (by rw [L.fp]; exact fpA_l n)
  have L2 : L3.Loc Y.X.K F2 H2 ρ σ B i st d1 x A1 A2 := ⟨L.get, rep_mono s2 d1 kA1 L.rep, L.fp, fun F' H' d' A' sm kp r' => L.back F' H' d' A' (s2.trans sm) (fun a n => (kp a n).trans (k2 a (by rw [L.fp]; exact fpA_r n))) r'⟩
  exact hr (s.trans s2) (fun a n => (k2 a n).trans (k a n)) W2 p2 L2 r2 l2 q2
theorem s_ix (hv : DE Y e ew) (ho : DP Y o i pw) (hi : DK Y a kw) (hc : swapsWithSole [.Subscript o a p2] e pos.line Y.X.env = pure false := by rfl) (hw : swappedStores [.Subscript o a p2] e Y.X.env = pure none := by rfl)
    (h1 : (assignEach [.Subscript o a p2] Y.X.env).map (·.2) = [assign (.Subscript o a p2) Y.X.env] := by rfl)
    (ha : ∀ v, assign (.Subscript o a p2) Y.X.env v = (do
      let ov ← holding [v] (eval o Y.X.env)
      let iv ← holding [v, ov] (eval a Y.X.env)
      standAt p2
      holding [v, ov, iv] (setItem ov iv v)
      release [v, ov, iv] []) := by intro _; rfl) :
    DS Y (.Assign [.Subscript o a p2] e pos) (fun K ρ => ew ρ fun d ρ1 => pw ρ1 fun st => kw ρ1 fun j => stIx i st ρ1 j d K.nx) :=
  ⟨PS.imp (ps_asg hv.run (pg_sub ho.run hi.run set_list ha) hc hw h1) fun Z σ H ⟨F, R, ρ, B, K, S, hw, G⟩ => ⟨F, R, ρ, B, _, S, hw, fun v H1 ⟨d, ρ1, F1, A, B1, s, W, r, sl, p, q⟩ => by
    have own1 := rep_own d r
    have pA : Sep F1 R A := p.mono fun a => by unfold fpA; omega
    refine rd_kP' (Y := Y) (o := fun st j => stIx i st ρ1 j d K.nx) ⟨W.hold pA own1, sl, p.hold⟩ q (G.ex.hold s W pA) ?_
    intro F2 H2 st x y d1 d2 A1 A2 A' s2 k2 W2 p2 L r2 l2 q2
    obtain ⟨W3, p3, k3⟩ := hold_back W pA own1 W2 p2
    obtain ⟨d0, e0, q2⟩ := mb_some q2
    rw [L.get] at e0; cases e0
    cases d1 with
    | lst m xs =>
      cases m with
      | false => cases d2 <;> exact q2.elim
      | true =>
        cases d2 with
        | int n =>
          obtain ⟨rfl, rfl⟩ := r2
          obtain ⟨k, ek, q5⟩ := mb_some q2
          obtain ⟨a0, vs, B0, rfl, ha, rs, z⟩ := L.rep
          refine ⟨a0, vs, n, k, rfl, rfl, ha, by rw [reps_len rs]; exact ek, ?_⟩
          have hA1 : A1 a0 ≠ 0 := by rw [z]; exact fpA_r (fp1_self a0)
          obtain ⟨W4, kA2, kA⟩ := loc_write (oo := .lst (vs.set k v)) W3 L p3 hA1
          have r2 : Rep Y.X.K F2 (upd H2 a0 (.lst (vs.set k v))) d v A := rep_mono s2 d (fun b n => by rw [kA b n, k3 b n]) r
          obtain ⟨C1, l, hput⟩ := reps_put k rs
          have hn : ∀ b, C1 b ≠ 0 → (upd H2 a0 (.lst (vs.set k v))) b = H2 b := fun b n => by
            refine upd_ne ?_
            rintro rfl
            have h1 := (p3 b).1
            have h2 := l b
            unfold fpA at h1
            rw [L.fp, z] at h1
            unfold fpA at h1
            simp only [fp1, if_pos] at h1
            omega
          have rs2 := hput F2 _ d v A (Same.refl F2) hn r2 (ixN_lt ek)
          have sl2 := L.back F2 _ (.lst true (xs.set k d)) _ (Same.refl F2) kA2 ⟨a0, _, _, rfl, upd_same, rs2, rfl⟩
          refine G.nx σ _ ⟨_, F2, _, s.trans s2, W4, sl2, p3.mono fun b => ?_, .refl, q5⟩
          have := l b
          rw [L.fp, z]
          unfold fpA
          omega
        | _ => exact q2.elim
    | _ => cases d2 <;> exact q2.elim, G.ex⟩⟩
end
end L3
namespace L3
open PySem PySem.Spec L2
open PyProof.Rows hiding St
/-- a list's method that changes it in place: what it holds, what is handed in; what is told, what it holds then -/
def MutOk (K : PySem.W.Frag) (r : V → List V → Hp → VK → Prop) (o : List D → List D → (D → List D → Prop) → Prop) : Prop := ∀ {F H : Hp} {l : Addr} {us vs : List V} {xs ds : List D} {A1 A2 : FP} {P : D → List D → Prop} {Q : VK}, Same F H → H l = some (.lst us) → Reps K F H xs us A1 → Reps K F H ds vs A2 → o xs ds P →
  (∀ v us', (∃ d xs' C1 C2, Rep K F H d v C1 ∧ Reps K F H xs' us' C2 ∧ (∀ a, C1 a + C2 a ≤ A1 a + A2 a) ∧ P d xs') → Q v (upd H l (.lst us'))) → r (.ref l) vs H Q
def oAppend (xs ds : List D) (P : D → List D → Prop) : Prop := match ds with
  | [d] => xs.length < sizeLine ∧ P .non (xs ++ [d])
  | _ => False
theorem mut_append {K} : MutOk K rAppend oAppend := fun {F H l us vs xs ds A1 A2 P Q} s h r1 r2 o q => by
  cases ds with
  | nil => exact o.elim
  | cons d ds =>
    cases ds with
    | cons _ _ => exact o.elim
    | nil =>
      obtain ⟨v, vr, B, C, e, r3, ⟨e2, z2⟩, z⟩ := r2
      subst e e2
      refine ⟨l, us, v, rfl, rfl, h, by rw [reps_len r1]; exact o.1, q .non _ ⟨.non, xs ++ [d], fp0, fpA A1 B, rep_non, reps_append r1 ⟨v, [], B, fp0, rfl, r3, ⟨rfl, rfl⟩, fpA_0r.symm⟩, fun a => ?_, o.2⟩⟩
      rw [z, z2]; unfold fpA fp0; omega
def oPop (xs ds : List D) (P : D → List D → Prop) : Prop := match ds with
  | [] => mb xs.getLast? fun d => P d xs.dropLast
  | _ => False
theorem reps_snoc {K : PySem.W.Frag} {F H : Hp} : ∀ {xs : List D} {us : List V} {A : FP} {d : D}, Reps K F H xs us A → xs.getLast? = some d → ∃ v B C, us[us.length - 1]? = some v ∧ Rep K F H d v B ∧ Reps K F H xs.dropLast us.dropLast C ∧ A = fpA B C
  | [], _, _, d, _, h => by simp at h
  | [x], _, _, d, ⟨v, vr, B, C, e, r, ⟨e2, z2⟩, z⟩, h => by
    simp at h
    subst h e e2
    exact ⟨v, B, fp0, rfl, r, ⟨rfl, rfl⟩, by rw [z, z2]⟩
  | x :: y :: xs, _, _, d, ⟨v, vr, B, C, e, r, q, z⟩, h => by
    rw [List.getLast?_cons_cons] at h
    obtain ⟨w, B1, C1, h1, h2, h3, h4⟩ := reps_snoc q h
    subst e
    obtain ⟨v2, vr2, _, _, e2, _⟩ := q
    subst e2
    refine ⟨w, B1, fpA B C1, by simpa using h1, h2, ⟨v, _, B, C1, rfl, r, h3, rfl⟩, ?_⟩
    rw [z, h4, ← fpA_assoc, ← fpA_assoc, fpA_comm (A := B)]
theorem mut_pop {K} : MutOk K rPop oPop := fun {F H l us vs xs ds A1 A2 P Q} s h r1 r2 o q => by
  cases ds with
  | cons _ _ => exact o.elim
  | nil =>
    obtain ⟨d, e, o⟩ := mb_some o
    obtain ⟨v, B, C, h1, h2, h3, h4⟩ := reps_snoc r1 e
    refine ⟨l, us, v, rfl, r2.1, h, h1, q v _ ⟨d, _, B, C, h2, h3, fun a => ?_, o⟩⟩
    rw [h4]; unfold fpA; omega
theorem reps_erase {K : PySem.W.Frag} {F H : Hp} : ∀ {xs : List D} {us : List V} {A : FP} {k : Nat} {d : D}, Reps K F H xs us A → xs[k]? = some d → ∃ v B C, us[k]? = some v ∧ Rep K F H d v B ∧ Reps K F H (xs.eraseIdx k) (us.eraseIdx k) C ∧ A = fpA B C
  | [], _, _, k, d, _, h => by simp at h
  | x :: xs, _, _, 0, d, ⟨v, vr, B, C, e, r, q, z⟩, h => by
    simp at h
    subst h e
    exact ⟨v, B, C, rfl, r, q, z⟩
  | x :: xs, _, _, k + 1, d, ⟨v, vr, B, C, e, r, q, z⟩, h => by
    subst e
    obtain ⟨w, B1, C1, h1, h2, h3, h4⟩ := reps_erase (k := k) q (by simpa using h)
    refine ⟨w, B1, fpA B C1, by simpa using h1, h2, ⟨v, _, B, C1, rfl, r, h3, rfl⟩, ?_⟩
    rw [z, h4, ← fpA_assoc, ← fpA_assoc, fpA_comm (A := B)]
def oPopAt (xs ds : List D) (P : D → List D → Prop) : Prop := match ds with
  | [.int i] => -(2 ^ 63) ≤ i ∧ i < 2 ^ 63 ∧ mb (seqIndex? i xs.length) fun k => mb xs[k]? fun d => P d (xs.eraseIdx k)
  | _ => False
theorem oPopAt_of {xs ds : List D} {P : D → List D → Prop} (o : oPopAt xs ds P) : ∃ i, ds = [.int i] ∧ -(2 ^ 63) ≤ i ∧ i < 2 ^ 63 ∧ mb (seqIndex? i xs.length) fun k => mb xs[k]? fun d => P d (xs.eraseIdx k) := by
  unfold oPopAt at o
  split at o
  · exact ⟨_, rfl, o⟩
  · exact o.elim
theorem mut_popAt {K} : MutOk K rPopAt oPopAt := fun {F H l us vs xs ds A1 A2 P Q} s h r1 r2 o q => by
  obtain ⟨i, rfl, o1, o2, o⟩ := oPopAt_of o
  obtain ⟨k, ek, o⟩ := mb_some o
  obtain ⟨d, ed, o⟩ := mb_some o
  obtain ⟨v, vr, B, C, e, r3, ⟨e2, z2⟩, z⟩ := r2
  obtain ⟨w, B1, C1, h1, h2, h3, h4⟩ := reps_erase r1 ed
  obtain ⟨rfl, _⟩ := r3
  subst e e2
  refine ⟨l, us, i, k, w, rfl, rfl, h, o1, o2, by rw [reps_len r1]; exact ek, h1, q w _ ⟨d, _, B1, C1, h2, h3, fun a => ?_, o⟩⟩
  rw [h4]; unfold fpA; omega
def oExtend (xs ds : List D) (P : D → List D → Prop) : Prop := match ds with
  | [.lst _ ys] => xs.length + ys.length ≤ sizeLine ∧ P .non (xs ++ ys)
  | _ => False
theorem oExtend_of {xs ds : List D} {P : D → List D → Prop} (o : oExtend xs ds P) : ∃ m ys, ds = [.lst m ys] ∧ xs.length + ys.length ≤ sizeLine ∧ P .non (xs ++ ys) := by
  unfold oExtend at o
  split at o
  · exact ⟨_, _, rfl, o⟩
  · exact o.elim
theorem mut_extend {K} : MutOk K rExtend oExtend := fun {F H l us vs xs ds A1 A2 P Q} s h r1 r2 o q => by
  obtain ⟨m, ys, rfl, o1, o2⟩ := oExtend_of o
  obtain ⟨v, vr, B, C, e, r3, ⟨e2, z2⟩, z⟩ := r2
  obtain ⟨p, ws, rfl, hp, B2, r4, hl⟩ := lst_at s r3
  subst e e2
  refine ⟨l, p, us, ws, rfl, rfl, h, hp, by rw [reps_len r1, reps_len r4]; exact o1, q .non _ ⟨.non, _, fp0, _, rep_non, reps_append r1 r4, fun a => ?_, o2⟩⟩
  have := hl a
  rw [z, z2]; unfold fpA fp0; omega
def oClear (xs ds : List D) (P : D → List D → Prop) : Prop := match ds with
  | [] => P .non []
  | _ => False
theorem mut_clear {K} : MutOk K rClear oClear := fun {F H l us vs xs ds A1 A2 P Q} s h r1 r2 o q => by
  cases ds with
  | cons _ _ => exact o.elim
  | nil => exact ⟨l, us, rfl, r2.1, h, q .non _ ⟨.non, [], fp0, fp0, rep_non, ⟨rfl, rfl⟩, fun a => by unfold fp0; omega, o⟩⟩
def oReverse (xs ds : List D) (P : D → List D → Prop) : Prop := match ds with
  | [] => fzs xs = true ∧ P .non xs.reverse
  | _ => False
theorem reps_rev {K : PySem.W.Frag} {F H : Hp} : ∀ {xs : List D} {us : List V}, Reps K F H xs us fp0 → fzs xs = true → Reps K F H xs.reverse us.reverse fp0
  | [], _, ⟨e, _⟩, _ => by subst e; exact ⟨rfl, rfl⟩
  | x :: xs, _, ⟨v, vr, B, C, e, r, q, z⟩, h => by
    subst e
    simp only [fzs, Bool.and_eq_true] at h
    rw [fz_rep x h.1 r] at r
    rw [fzs_reps xs h.2 q] at q
    have := reps_append (reps_rev q h.2) (show Reps K F H [x] [v] fp0 from ⟨v, [], fp0, fp0, rfl, r, ⟨rfl, rfl⟩, fpA_0l.symm⟩)
    rw [fpA_0l] at this
    simpa using this
theorem fzs_rev : ∀ {xs : List D}, fzs xs = true → fzs xs.reverse = true
  | [], _ => rfl
  | x :: xs, h => by
    simp only [fzs, Bool.and_eq_true] at h
    rw [List.reverse_cons, fzs_append, fzs_rev h.2]
    simp [fzs, h.1]
theorem mut_reverse {K} : MutOk K rReverse oReverse := fun {F H l us vs xs ds A1 A2 P Q} s h r1 r2 o q => by
  cases ds with
  | cons _ _ => exact o.elim
  | nil =>
    rw [fzs_reps xs o.1 r1] at r1
    exact ⟨l, us, rfl, r2.1, h, q .non _ ⟨.non, _, fp0, fp0, rep_non, reps_rev r1 o.1, fun a => by unfold fp0; omega, o.2⟩⟩
section
variable {Y : Cy} {F F1 R H H1 : Hp} {ρ : Env} {σ σ1 : St} {A B : FP} {e x0 : Expr} {es : List Expr} {el : LE} {wl : LW} {pw : PW'} {pos apos cpos p : Pos} {i : Nat} {r : V → List V → Hp → VK → Prop} {o : List D → List D → (D → List D → Prop) → Prop}
def isLst : D → Prop
  | .lst _ _ => True
  | _ => False
/-- the change itself -/
def mutL (o : List D → List D → (D → List D → Prop) → Prop) (i : Nat) (st : List Stp) (ds : List D) (ρ : Env) (Q : D → Env → Prop) : Prop := mb (getE ρ i st) fun l => match l with
  | .lst true xs => o xs ds fun d xs' => Q d (putE ρ i st (.lst true xs'))
  | _ => False
theorem mut_at {st : List Stp} {d1 : D} {v : V} {A1 A2 : FP} {vs : List V} {ds : List D} {P : D → Env → Prop} {Q : VK} (hk : MutOk Y.X.K r o) (W : Wd F R H) (L : L3.Loc Y.X.K F H ρ σ B i st d1 v A1 A2) (rs : Reps Y.X.K F H ds vs A) (S : Sep F R (fpA A B)) (h : mutL o i st ds ρ P)
    (hq : ∀ v H', EvO Y F R σ P v H' → Q v H') : r v vs H Q := by
  obtain ⟨d0, e0, h⟩ := mb_some h
  rw [L.get] at e0; cases e0
  cases d1 with
  | lst m xs =>
    cases m with
    | false => exact h.elim
    | true =>
      obtain ⟨a0, us, B0, rfl, ha, rx, z⟩ := L.rep
      have hA1 : A1 a0 ≠ 0 := by rw [z]; exact fpA_r (fp1_self a0)
      refine hk W.f ha rx rs h fun w us' ⟨d', xs', C1, C2, rd, rx', l, q⟩ => ?_
      obtain ⟨W4, kA2, kA⟩ := loc_write (oo := .lst us') W L S hA1
      have kC : ∀ b, C1 b + C2 b ≠ 0 → (upd H a0 (.lst us')) b = H b := fun b n => by
        refine upd_ne ?_
        rintro rfl
        have h1 := (S b).1
        have h2 := l b
        unfold fpA at h1
        rw [L.fp, z] at h1
        unfold fpA at h1
        simp only [fp1, if_pos] at h1
        omega
      have sl2 := L.back F _ (.lst true xs') _ (Same.refl F) kA2 ⟨a0, us', C2, rfl, upd_same, reps_mono (Same.refl F) xs' (fun b n => kC b (by omega)) rx', rfl⟩
      refine hq w _ ⟨d', _, F, C1, _, Same.refl F, W4, rep_mono (Same.refl F) d' (fun b n => kC b (by omega)) rd, sl2, S.mono fun b => ?_, q⟩
      have h2 := l b
      rw [L.fp, z]
      unfold fpA
      omega
  | _ => exact h.elim
/-- x.m(e, ..), x a name: the arguments may change what they will -/
theorem e_mut1 (i : Nat) {x : Str} {name : Str} {id : String} (slot : Slot "list" name id) (hty : typeOf (.builtin id) = pure (.type "method_descriptor")) (hm : MtR Y.X id r) (hk : MutOk Y.X.K r o) (ha : DA Y (e :: es) el)
    (hN : Y.X.N[i]? = some x := by rfl) (hv : Vis Y.X.env.scope x := by first | exact Or.inl rfl | exact Or.inr (Or.inl rfl) | exact Or.inr (Or.inr rfl)) (hd : (x == ("__debug__" : Str)) = false := by decide) (hcd : (x == ("__classdict__" : Str)) = false := by decide)
    (hbase : attributeBase (.Name x p) name Y.X.env (eval (.Name x p) Y.X.env) = eval (.Name x p) Y.X.env := by rfl)
    (hfew : ((backTo cpos (starEach (e :: es) Y.X.env)).all (fun x => !x.1) && (backToKw cpos (keywordEach [] Y.X.env)).all (fun x => x.1.isSome)
      && decide ((e :: es).length + ([] : List Keyword).length + (if ([] : List Keyword).isEmpty then 0 else 1) < 30)) = true := by rfl)
    (hline : (apos.endLine == cpos.line) = true := by rfl) (hs : starEach (e :: es) Y.X.env = (false, eval e Y.X.env) :: starEach es Y.X.env := by rfl) (hplain : (backTo cpos (starEach es Y.X.env)).any (·.1) = false := by rfl) :
    DE Y (.Call (.Attribute (.Name x p) name apos) (e :: es) [] cpos) (fun ρ Q => (gv ρ i isLst) ∧ el ρ fun ds ρ1 => (gv ρ1 i isLst) ∧ mutL o i [] ds ρ1 Q) :=
  ⟨PE.imp (pe_bm PySem.F.plainAttrs_list slot hty hm (pe_var hN hv hd hcd) ha.run hbase hfew hline hs hplain) fun σ H Q ⟨F, R, ρ, B, P, S, ⟨h0, hw⟩, hq, hx⟩ => by
    obtain ⟨d, e1, h0⟩ := gv_some h0
    obtain ⟨v, A0, g1, g2, _⟩ := slr_get S.s e1
    cases d with
    | lst m xs =>
      obtain ⟨a0, us, ev, hp, _⟩ := lst_at S.w.f g2
      subst ev
      refine ⟨_, g1, .inl ⟨rfl, us, SqL.of hp⟩, F, R, ρ, B, _, S, hw, fun vs H1 ⟨ds, ρ1, F1, A, B1, s, W, rs, sl, p, ⟨g0, q⟩⟩ => ?_, hx⟩
      obtain ⟨d2, e2, _⟩ := gv_some g0
      obtain ⟨v2, A1, A2, e3, L⟩ := loc_var sl e2
      rw [g1] at e3; cases e3
      exact mut_at hk W L rs p q fun v H' z => hq v H' (z.back s)
    | _ => exact h0.elim⟩
/-- x.m() -/
theorem e_mut0 (i : Nat) {x : Str} {name : Str} {id : String} (slot : Slot "list" name id) (hty : typeOf (.builtin id) = pure (.type "method_descriptor")) (hm : MtR Y.X id r) (hk : MutOk Y.X.K r o) (ho : DP Y x0 i pw)
    (hbase : attributeBase x0 name Y.X.env (eval x0 Y.X.env) = eval x0 Y.X.env := by rfl) (hline : (apos.endLine == cpos.line) = true := by rfl) :
    DE Y (.Call (.Attribute x0 name apos) [] [] cpos) (fun ρ Q => pw ρ fun st => mutL o i st [] ρ Q) :=
  ⟨PE.imp (pe_bm0 PySem.F.plainAttrs_list slot hty hm ho.run hbase hline) fun σ H Q ⟨F, R, ρ, B, P, S, hw, hq, hx⟩ => ⟨F, R, ρ, B, _, S, hw, fun v H1 ⟨st, d1, A1, A2, F1, s, k, W, p, L, q⟩ => by
    have L0 := L
    refine ⟨?_, mut_at hk W L (show Reps Y.X.K F1 H1 [] [] fp0 from ⟨rfl, rfl⟩) (by rw [fpA_0l]; exact p) q fun v H' z => hq v H' (z.back s)⟩
    obtain ⟨d0, e0, q⟩ := mb_some q
    rw [L.get] at e0; cases e0
    cases d1 with
    | lst m xs =>
      obtain ⟨a0, us, ev, hp, _⟩ := lst_at W.f L0.rep
      subst ev
      exact .inl ⟨rfl, us, SqL.of hp⟩
    | _ => exact q.elim, hx⟩⟩
/-- o.m(e, ..), o a place; the arguments are frozen -/
theorem e_mut2 {name : Str} {id : String} (slot : Slot "list" name id) (hty : typeOf (.builtin id) = pure (.type "method_descriptor")) (hm : MtR Y.X id r) (hk : MutOk Y.X.K r o) (ho : DP Y x0 i pw) (ha : DL Y (e :: es) wl)
    (hbase : attributeBase x0 name Y.X.env (eval x0 Y.X.env) = eval x0 Y.X.env := by rfl)
    (hfew : ((backTo cpos (starEach (e :: es) Y.X.env)).all (fun x => !x.1) && (backToKw cpos (keywordEach [] Y.X.env)).all (fun x => x.1.isSome)
      && decide ((e :: es).length + ([] : List Keyword).length + (if ([] : List Keyword).isEmpty then 0 else 1) < 30)) = true := by rfl)
    (hline : (apos.endLine == cpos.line) = true := by rfl) (hs : starEach (e :: es) Y.X.env = (false, eval e Y.X.env) :: starEach es Y.X.env := by rfl) (hplain : (backTo cpos (starEach es Y.X.env)).any (·.1) = false := by rfl) :
    DE Y (.Call (.Attribute x0 name apos) (e :: es) [] cpos) (fun ρ Q => pw ρ fun st => mb (getE ρ i st) fun d => isLst d ∧ wl ρ fun ds => fzs ds = true ∧ mutL o i st ds ρ Q) :=
  ⟨PE.imp (pe_bm PySem.F.plainAttrs_list slot hty hm ho.run ha.run hbase hfew hline hs hplain) fun σ H Q ⟨F, R, ρ, B, P, S, hw, hq, hx⟩ => ⟨F, R, ρ, B, _, S, hw, fun v H1 ⟨st, d1, A1, A2, F1, s, k, W, p, L, q⟩ => by
    obtain ⟨d0, e0, q⟩ := mb_some q
    rw [L.get] at e0; cases e0
    obtain ⟨h0, q⟩ := q
    cases d1 with
    | lst m xs =>
      obtain ⟨a0, us, ev, hp, _⟩ := lst_at W.f L.rep
      subst ev
      refine ⟨.inl ⟨rfl, us, SqL.of hp⟩, F1, R, ρ, B, _, S.keep s k W p, q, fun vs H2 ⟨ds, F2, s2, k2, W2, b, p2, ⟨fz2, q2⟩⟩ => ?_, hx.grow s⟩
      have L2 : L3.Loc Y.X.K F2 H2 ρ σ B i st (.lst m xs) (.ref a0) A1 A2 := ⟨L.get, rep_mono s2 _ (fun a n => k2 a (by rw [L.fp]; exact fpA_l n)) L.rep, L.fp, fun F' H' d' A' sm kp r' => L.back F' H' d' A' (s2.trans sm) (fun a n => (kp a n).trans (k2 a (by rw [L.fp]; exact fpA_r n))) r'⟩
      exact mut_at hk W2 L2 (bor_fzs b fz2) (by rw [fpA_0l]; exact p2) q2 fun v H' z => hq v H' (z.back (s.trans s2))
    | _ => exact h0.elim, hx⟩⟩
end
end L3
namespace L3
open PySem PySem.Spec L2
open PyProof.Rows hiding St
/-- what is walked: frozen things ds, one by one -/
def WalkD (K : PySem.W.Frag) (J : It) (ds : List D) (F0 : Hp) : Prop := ∀ F H, Same F0 F → Same F H →
  (∀ i d, ds[i]? = some d → J.go i H ∧ ∀ x H', J.yld i H x H' → ((H' = H ∧ Rep K F H d x fp0) ∨ (∃ T o, H T = none ∧ H' = upd H T o ∧ Rep K (upd F T o) H' d x fp0) ∨ (∃ T us, H' = H ∧ H T = some (.tup us) ∧ Rep K (upd F T (.tup us)) H d x fp0))) ∧ J.stop ds.length H
abbrev IW := Env → (List D → Env → Prop) → Prop
def rdI (Y : Cy) (w : IW) : TI := fun σ H Q => ∃ F R ρ B P, Sd Y.X.K F R H ρ σ B ∧ w ρ P ∧ (∀ J H', (∃ ds ρ' F' B', Same F F' ∧ Wd F' R H' ∧ SlR Y.X.K F' H' ρ' σ B' ∧ Sep F' R B' ∧ WalkD Y.X.K J ds F' ∧ P ds ρ') → Q J H') ∧ ExH Y F R σ
structure DI (Y : Cy) (tg e : Expr) (w : IW) : Prop where
  run : PI Y.X tg e (rdI Y w)
theorem PI.imp {X : Cx} {tg e : Expr} {t t' : TI} (h : PI X tg e t) (k : ∀ σ H Q, t' σ H Q → t σ H Q) : PI X tg e t' := ⟨fun pins s σ H Q I q => h.run pins s σ H Q I (k _ _ _ q)⟩
section
variable {K : PySem.W.Frag} {F F' R H H' : Hp}
theorem frzs_get {ds : List D} {k : Nat} : (frzs ds)[k]? = ds[k]?.map frz := by
  induction ds generalizing k with
  | nil => rfl
  | cons d ds ih => cases k <;> simp [frzs, ih]
theorem frzs_len {ds : List D} : (frzs ds).length = ds.length := by
  induction ds with
  | nil => rfl
  | cons d ds ih => simp [frzs, ih]
theorem frzs_map {ds : List D} : frzs ds = ds.map frz := by
  induction ds with
  | nil => rfl
  | cons d ds ih => simp [frzs, ih]
theorem reps_getf {ds : List D} {vs : List V} {k : Nat} {d : D} (r : Reps K F H ds vs fp0) (e : ds[k]? = some d) : ∃ v, vs[k]? = some v ∧ Rep K F H d v fp0 := by
  obtain ⟨v, B, h1, h2, h3⟩ := reps_get r e
  have : B = fp0 := funext fun a => Nat.eq_zero_of_le_zero (h3 a)
  rw [this] at h2
  exact ⟨v, h1, h2⟩
theorem rep_any {d : D} {v : V} (hf : fz d = true) (r : Rep K F H d v fp0) : Rep K F H' d v fp0 := rep_mono (Same.refl F) d (fun a n => absurd rfl n) r
theorem walk_lst {a : Addr} {vs : List V} {ds : List D} (h : F a = some (.lst vs)) (r : Reps K F H ds vs fp0) : WalkD K (Itl K a) ds F := fun F2 H2 s1 s2 => by
  have e2 : SqL K H2 a vs := SqL.of (s2 _ _ (s1 _ _ h))
  have r2 : Reps K F2 H2 ds vs fp0 := reps_mono s1 ds (fun a n => absurd rfl n) r
  refine ⟨fun i d e => ?_, ⟨vs, e2, by rw [reps_len r]; exact Nat.le_refl _⟩⟩
  obtain ⟨v, hv, rd⟩ := reps_getf r2 e
  exact ⟨⟨vs, v, e2, hv⟩, fun x H3 ⟨e3, hx⟩ => .inl ⟨e3, by have := hx vs e2; rw [hv] at this; cases this; exact rd⟩⟩
theorem walk_tup {a : Addr} {vs : List V} {ds : List D} (h : F a = some (.tup vs)) (r : Reps K F H ds vs fp0) : WalkD K (Itt K a) ds F := fun F2 H2 s1 s2 => by
  have e2 : SqT K H2 a vs := SqT.of (s2 _ _ (s1 _ _ h))
  have r2 : Reps K F2 H2 ds vs fp0 := reps_mono s1 ds (fun a n => absurd rfl n) r
  refine ⟨fun i d e => ?_, ⟨vs, e2, by rw [reps_len r]; exact Nat.le_refl _⟩⟩
  obtain ⟨v, hv, rd⟩ := reps_getf r2 e
  exact ⟨⟨vs, v, e2, hv⟩, fun x H3 ⟨e3, hx⟩ => .inl ⟨e3, by have := hx vs e2; rw [hv] at this; cases this; exact rd⟩⟩
/-- numbers from lo on -/
def rngD (lo : Int) : Nat → List D
  | 0 => []
  | n + 1 => .int lo :: rngD (lo + 1) n
theorem rngD_len {lo : Int} {n : Nat} : (rngD lo n).length = n := by
  induction n generalizing lo with
  | zero => rfl
  | succ n ih => simp [rngD, ih]
theorem rngD_get {lo : Int} {n k : Nat} {d : D} (h : (rngD lo n)[k]? = some d) : k < n ∧ d = .int (lo + k) := by
  induction n generalizing lo k with
  | zero => simp [rngD] at h
  | succ n ih =>
    cases k with
    | zero => simp [rngD] at h; subst h; exact ⟨by omega, by simp⟩
    | succ k =>
      have := ih (by simpa [rngD] using h)
      exact ⟨by omega, by rw [this.2]; congr 1; omega⟩
theorem walk_rng {lo : Int} {n : Nat} : WalkD K (Itr lo n) (rngD lo n) F := fun F2 H2 s1 s2 => by
  refine ⟨fun i d e => ?_, by show n ≤ _; rw [rngD_len]; exact Nat.le_refl _⟩
  obtain ⟨h1, rfl⟩ := rngD_get e
  exact ⟨h1, fun x H3 ⟨e3, hx⟩ => .inl ⟨e3, hx, rfl⟩⟩
/-- the signs of a text -/
def signs (x : Str) : List D := x.cps.toList.map fun c => .str ⟨#[c]⟩
theorem walk_str {x : Str} : WalkD K (Its x) (signs x) F := fun F2 H2 s1 s2 => by
  refine ⟨fun i d e => ?_, by show x.cps.size ≤ _; simp [signs]⟩
  unfold signs at e
  rw [List.getElem?_map, Option.map_eq_some_iff] at e
  obtain ⟨c, e1, rfl⟩ := e
  rw [Array.getElem?_toList] at e1
  exact ⟨by show i < x.cps.size; exact (Array.getElem?_eq_some_iff.mp e1).1, fun v H3 ⟨e3, c', h1, h2⟩ => .inl ⟨e3, by rw [e1] at h1; cases h1; exact ⟨h2, rfl⟩⟩⟩
/-- with their numbers -/
def enumD (lo : Int) : List D → List D
  | [] => []
  | d :: ds => .tup [.int lo, d] :: enumD (lo + 1) ds
theorem enumD_len {lo : Int} {ds : List D} : (enumD lo ds).length = ds.length := by
  induction ds generalizing lo with
  | nil => rfl
  | cons d ds ih => simp [enumD, ih]
theorem enumD_get {lo : Int} {ds : List D} {k : Nat} {x : D} (h : (enumD lo ds)[k]? = some x) : ∃ d, ds[k]? = some d ∧ x = .tup [.int (lo + k), d] := by
  induction ds generalizing lo k with
  | nil => simp [enumD] at h
  | cons d ds ih =>
    cases k with
    | zero => simp [enumD] at h; subst h; exact ⟨d, rfl, by simp⟩
    | succ k =>
      obtain ⟨d', h1, h2⟩ := ih (by simpa [enumD] using h)
      exact ⟨d', by simpa using h1, by rw [h2]; congr 3; omega⟩
theorem rep_pair {T : Addr} {d1 d2 : D} {x y : V} (r1 : Rep K F H d1 x fp0) (r2 : Rep K F H d2 y fp0) (h : H T = none) (s : Same F H) : Rep K (upd F T (.tup [x, y])) (upd H T (.tup [x, y])) (.tup [d1, d2]) (.ref T) fp0 := by
  have s1 : Same F (upd F T (.tup [x, y])) := same_updn (s.free h)
  exact ⟨T, [x, y], rfl, upd_same, x, [y], fp0, fp0, rfl, rep_mono s1 d1 (fun a n => absurd rfl n) r1, ⟨y, [], fp0, fp0, rfl, rep_mono s1 d2 (fun a n => absurd rfl n) r2, ⟨rfl, rfl⟩, fpA_0l.symm⟩, fpA_0l.symm⟩
theorem walk_enum {a : Addr} {vs : List V} {ds : List D} (h : F a = some (.lst vs)) (r : Reps K F H ds vs fp0) : WalkD K (Ite K a) (enumD 0 ds) F := fun F2 H2 s1 s2 => by
  have e2 : SqL K H2 a vs := SqL.of (s2 _ _ (s1 _ _ h))
  have r2 : Reps K F2 H2 ds vs fp0 := reps_mono s1 ds (fun a n => absurd rfl n) r
  refine ⟨fun i d e => ?_, ⟨vs, e2, by rw [enumD_len, reps_len r]; exact Nat.le_refl _⟩⟩
  obtain ⟨d', e', rfl⟩ := enumD_get e
  obtain ⟨v, hv, rd⟩ := reps_getf r2 e'
  refine ⟨⟨vs, v, e2, hv⟩, fun x H3 ⟨T, y, ex, hT, e3, hx⟩ => .inr (.inl ⟨T, _, hT, e3, ?_⟩)⟩
  have := hx vs e2
  rw [hv] at this; cases this
  subst ex e3
  have := rep_pair (K := K) (F := F2) (H := H2) (T := T) (d1 := .int (0 + i)) (x := .int (i : Nat)) (by rw [Int.zero_add]; exact rep_int) rd hT s2
  exact this
/-- two side by side -/
def zipD : List D → List D → List D
  | x :: xs, y :: ys => .tup [x, y] :: zipD xs ys
  | _, _ => []
theorem zipD_len {xs ys : List D} : (zipD xs ys).length = min xs.length ys.length := by
  induction xs generalizing ys with
  | nil => simp [zipD]
  | cons x xs ih => cases ys <;> simp [zipD, ih]
theorem zipD_get {xs ys : List D} {k : Nat} {d : D} (h : (zipD xs ys)[k]? = some d) : ∃ x y, xs[k]? = some x ∧ ys[k]? = some y ∧ d = .tup [x, y] := by
  induction xs generalizing ys k with
  | nil => simp [zipD] at h
  | cons x xs ih =>
    cases ys with
    | nil => simp [zipD] at h
    | cons y ys =>
      cases k with
      | zero => simp [zipD] at h; exact ⟨x, y, rfl, rfl, h.symm⟩
      | succ k => simpa using ih (by simpa [zipD] using h)
theorem walk_zip {a b : Addr} {vs ws : List V} {ds es : List D} (h : F a = some (.lst vs)) (h2 : F b = some (.lst ws)) (r : Reps K F H ds vs fp0) (r' : Reps K F H es ws fp0) : WalkD K (Itz K a b) (zipD ds es) F := fun F2 H2 s1 s2 => by
  have e1 : SqL K H2 a vs := SqL.of (s2 _ _ (s1 _ _ h))
  have e2 : SqL K H2 b ws := SqL.of (s2 _ _ (s1 _ _ h2))
  have r2 : Reps K F2 H2 ds vs fp0 := reps_mono s1 ds (fun a n => absurd rfl n) r
  have r2' : Reps K F2 H2 es ws fp0 := reps_mono s1 es (fun a n => absurd rfl n) r'
  refine ⟨fun i d e => ?_, ⟨vs, ws, e1, e2, by rw [zipD_len, reps_len r, reps_len r']; omega⟩⟩
  obtain ⟨d1, d2, g1, g2, rfl⟩ := zipD_get e
  obtain ⟨v, hv, rd⟩ := reps_getf r2 g1
  obtain ⟨w, hw, rd'⟩ := reps_getf r2' g2
  refine ⟨⟨vs, ws, v, w, e1, e2, hv, hw⟩, fun x H3 ⟨T, y, z, ex, hT, e3, hx, hy⟩ => .inr (.inl ⟨T, _, hT, e3, ?_⟩)⟩
  have q1 := hx vs e1
  have q2 := hy ws e2
  rw [hv] at q1; cases q1
  rw [hw] at q2; cases q2
  subst ex e3
  exact rep_pair rd rd' hT s2
end
section
variable {Y : Cy} {F F1 R H H1 : Hp} {ρ : Env} {σ σ1 : St} {A B : FP} {K : En} {Z : Ends} {e a b c tg : Expr} {ew : DW} {el : LE} {kw : KW} {es : List Expr} {tw : TW} {w u : SW} {body : List Stmt} {pos p tpos : Pos}
/-- what is walked is frozen -/
def seqOf (d : D) (P : List D → Prop) : Prop := match d with
  | .lst _ ds => P (frzs ds)
  | _ => False
def tupOf (d : D) (P : List D → Prop) : Prop := match d with
  | .tup ds => P (frzs ds)
  | _ => False
def strOf (d : D) (P : List D → Prop) : Prop := match d with
  | .str x => P (signs x)
  | _ => False
/-- a temporary is frozen -/
theorem frz_tmp {d : D} {v : V} (W : Wd F R H) (r : Rep Y.X.K F H d v A) (sl : SlR Y.X.K F H ρ σ B) (p : Sep F R (fpA A B)) : ∃ F', Same F F' ∧ Wd F' R H ∧ Rep Y.X.K F' H (frz d) v fp0 ∧ SlR Y.X.K F' H ρ σ B ∧ Sep F' R B := by
  have pA : Sep F R A := p.mono fun a => by unfold fpA; omega
  exact ⟨_, frzF_same pA, W.frz pA, rep_frz (frzF_same pA) d (fun a n => frzF_in n) r, slr_mono (frzF_same pA) (fun _ _ => rfl) sl, p.frz⟩
theorem i_list (h : DE Y e ew) : DI Y tg e (fun ρ P => ew ρ fun d ρ1 => seqOf d fun ds => P ds ρ1) :=
  ⟨PI.imp (pi_list h.run) fun σ H Q ⟨F, R, ρ, B, P, S, hw, hq, hx⟩ => ⟨F, R, ρ, B, _, S, hw, fun v H1 ⟨d, ρ1, F1, A, B1, s, W, r, sl, p, q⟩ => by
    cases d with
    | lst m ds =>
      obtain ⟨F2, s2, W2, r2, sl2, p2⟩ := frz_tmp W r sl p
      obtain ⟨a, vs, ev, ha, rs⟩ := r2
      exact ⟨a, ev, ⟨vs, SqL.of (W2.f _ _ ha)⟩, hq _ _ ⟨frzs ds, ρ1, F2, B1, s.trans s2, W2, sl2, p2, walk_lst ha rs, q⟩⟩
    | _ => exact q.elim, hx⟩⟩
theorem i_tup (h : DE Y e ew) : DI Y tg e (fun ρ P => ew ρ fun d ρ1 => tupOf d fun ds => P ds ρ1) :=
  ⟨PI.imp (pi_tup h.run) fun σ H Q ⟨F, R, ρ, B, P, S, hw, hq, hx⟩ => ⟨F, R, ρ, B, _, S, hw, fun v H1 ⟨d, ρ1, F1, A, B1, s, W, r, sl, p, q⟩ => by
    cases d with
    | tup ds =>
      obtain ⟨F2, s2, W2, r2, sl2, p2⟩ := frz_tmp W r sl p
      obtain ⟨a, vs, ev, ha, rs⟩ := r2
      exact ⟨a, ev, ⟨vs, SqT.of (W2.f _ _ ha)⟩, hq _ _ ⟨frzs ds, ρ1, F2, B1, s.trans s2, W2, sl2, p2, walk_tup ha rs, q⟩⟩
    | _ => exact q.elim, hx⟩⟩
theorem i_str (h : DE Y e ew) : DI Y tg e (fun ρ P => ew ρ fun d ρ1 => strOf d fun ds => P ds ρ1) :=
  ⟨PI.imp (pi_str h.run) fun σ H Q ⟨F, R, ρ, B, P, S, hw, hq, hx⟩ => ⟨F, R, ρ, B, _, S, hw, fun v H1 ⟨d, ρ1, F1, A, B1, s, W, r, sl, p, q⟩ => by
    cases d with
    | str x => exact ⟨x, r.1, hq _ _ ⟨signs x, ρ1, F1, B1, s, W, sl, p.mono fun a => by unfold fpA; omega, walk_str, q⟩⟩
    | _ => exact q.elim, hx⟩⟩
/-- bounds of a range that are small -/
def small62 (i : Int) : Prop := -(2 ^ 62) ≤ i ∧ i < 2 ^ 62
def rng1 (ds : List D) (P : List D → Prop) : Prop := match ds with
  | [.int j] => small62 j ∧ P (rngD 0 j.toNat)
  | _ => False
def rng2 (ds : List D) (P : List D → Prop) : Prop := match ds with
  | [.int i, .int j] => small62 i ∧ small62 j ∧ P (rngD i (j - i).toNat)
  | _ => False
theorem rng1_of {ds : List D} {P : List D → Prop} (h : rng1 ds P) : ∃ j, ds = [.int j] ∧ small62 j ∧ P (rngD 0 j.toNat) := by
  unfold rng1 at h; split at h
  · exact ⟨_, rfl, h⟩
  · exact h.elim
theorem rng2_of {ds : List D} {P : List D → Prop} (h : rng2 ds P) : ∃ i j, ds = [.int i, .int j] ∧ small62 i ∧ small62 j ∧ P (rngD i (j - i).toNat) := by
  unfold rng2 at h; split at h
  · exact ⟨_, _, rfl, h⟩
  · exact h.elim
theorem i_rng1 (ha : DA Y [a] el) (hm : Y.X.mg "range" = none) (hg : Gl Y.X "range" := by rfl) (hs : starEach [a] Y.X.env = [(false, eval a Y.X.env)] := by rfl) : DI Y tg (.Call (.Name "range" p) [a] [] pos) (fun ρ P => el ρ fun ds ρ1 => rng1 ds fun xs => P xs ρ1) :=
  ⟨PI.imp (pi_range1 hg hm ha.run hs) fun σ H Q ⟨F, R, ρ, B, P, S, hw, hq, hx⟩ => ⟨F, R, ρ, B, _, S, hw, fun vs H1 ⟨ds, ρ1, F1, A, B1, s, W, r, sl, p, q⟩ => by
    obtain ⟨j, rfl, hj, q⟩ := rng1_of q
    obtain ⟨v, vr, B2, C2, ev, ⟨rfl, _⟩, ⟨e2, _⟩, _⟩ := r
    subst ev e2
    exact ⟨j, rfl, hj.1, hj.2, hq _ _ ⟨_, ρ1, F1, B1, s, W, sl, p.mono fun a => by unfold fpA; omega, walk_rng, q⟩⟩, hx⟩⟩
theorem i_rng2 (ha : DA Y [a, b] el) (hm : Y.X.mg "range" = none) (hg : Gl Y.X "range" := by rfl) (hs : starEach [a, b] Y.X.env = [(false, eval a Y.X.env), (false, eval b Y.X.env)] := by rfl) (hs2 : starEach [b] Y.X.env = [(false, eval b Y.X.env)] := by rfl) :
    DI Y tg (.Call (.Name "range" p) [a, b] [] pos) (fun ρ P => el ρ fun ds ρ1 => rng2 ds fun xs => P xs ρ1) :=
  ⟨PI.imp (pi_range2 hg hm ha.run hs hs2) fun σ H Q ⟨F, R, ρ, B, P, S, hw, hq, hx⟩ => ⟨F, R, ρ, B, _, S, hw, fun vs H1 ⟨ds, ρ1, F1, A, B1, s, W, r, sl, p, q⟩ => by
    obtain ⟨i, j, rfl, hi, hj, q⟩ := rng2_of q
    obtain ⟨v, vr, B2, C2, ev, ⟨rfl, _⟩, ⟨v2, vr2, B3, C3, ev2, ⟨rfl, _⟩, ⟨e2, _⟩, _⟩, _⟩ := r
    subst ev ev2 e2
    exact ⟨i, j, rfl, ⟨hi.1, hi.2, hj.1, hj.2⟩, hq _ _ ⟨_, ρ1, F1, B1, s, W, sl, p.mono fun a => by unfold fpA; omega, walk_rng, q⟩⟩, hx⟩⟩
def enumOf (ds : List D) (P : List D → Prop) : Prop := match ds with
  | [.lst _ xs] => P (enumD 0 (frzs xs))
  | _ => False
theorem enumOf_of {ds : List D} {P : List D → Prop} (h : enumOf ds P) : ∃ m xs, ds = [.lst m xs] ∧ P (enumD 0 (frzs xs)) := by
  unfold enumOf at h; split at h
  · exact ⟨_, _, rfl, h⟩
  · exact h.elim
theorem frz_tmps {ds : List D} {vs : List V} (W : Wd F R H) (r : Reps Y.X.K F H ds vs A) (sl : SlR Y.X.K F H ρ σ B) (p : Sep F R (fpA A B)) : ∃ F', Same F F' ∧ Wd F' R H ∧ Reps Y.X.K F' H (frzs ds) vs fp0 ∧ SlR Y.X.K F' H ρ σ B ∧ Sep F' R B := by
  have pA : Sep F R A := p.mono fun a => by unfold fpA; omega
  exact ⟨_, frzF_same pA, W.frz pA, reps_frz (frzF_same pA) ds (fun a n => frzF_in n) r, slr_mono (frzF_same pA) (fun _ _ => rfl) sl, p.frz⟩
theorem i_enum {elts : List Expr} {kk : Nat} (ha : DA Y [e] el) (hm : Y.X.mg "enumerate" = none) (hg : Gl Y.X "enumerate" := by rfl) (hs : starEach [e] Y.X.env = [(false, eval e Y.X.env)] := by rfl) :
    DI Y (.Tuple elts kk tpos) (.Call (.Name "enumerate" p) [e] [] pos) (fun ρ P => el ρ fun ds ρ1 => enumOf ds fun xs => P xs ρ1) :=
  ⟨PI.imp (pi_enum hg hm ha.run hs) fun σ H Q ⟨F, R, ρ, B, P, S, hw, hq, hx⟩ => ⟨F, R, ρ, B, _, S, hw, fun vs H1 ⟨ds, ρ1, F1, A, B1, s, W, r, sl, p, q⟩ => by
    obtain ⟨m, xs, rfl, q⟩ := enumOf_of q
    obtain ⟨F2, s2, W2, r2, sl2, p2⟩ := frz_tmps W r sl p
    obtain ⟨v, vr, B2, C2, ev, ⟨a0, us, rfl, ha0, ru⟩, ⟨e2, z2⟩, z⟩ := r2
    subst ev e2
    have zB : B2 = fp0 := by rw [z2, fpA_0r] at z; exact z.symm
    subst zB
    exact ⟨a0, us, rfl, SqL.of (W2.f _ _ ha0), hq _ _ ⟨_, ρ1, F2, B1, s.trans s2, W2, sl2, p2, walk_enum ha0 ru, q⟩⟩, hx⟩⟩
def zipOf (ds : List D) (P : List D → Prop) : Prop := match ds with
  | [.lst _ xs, .lst _ ys] => P (zipD (frzs xs) (frzs ys))
  | _ => False
theorem zipOf_of {ds : List D} {P : List D → Prop} (h : zipOf ds P) : ∃ m xs m' ys, ds = [.lst m xs, .lst m' ys] ∧ P (zipD (frzs xs) (frzs ys)) := by
  unfold zipOf at h; split at h
  · exact ⟨_, _, _, _, rfl, h⟩
  · exact h.elim
theorem fp_zero2 {A B : FP} (h : fp0 = fpA A B) : A = fp0 ∧ B = fp0 := by
  constructor <;> (funext a; have := congrFun h a; unfold fpA fp0 at *; omega)
theorem i_zip {elts : List Expr} {kk : Nat} (ha : DA Y [a, b] el) (hm : Y.X.mg "zip" = none) (hg : Gl Y.X "zip" := by rfl) (hs : starEach [a, b] Y.X.env = (false, eval a Y.X.env) :: starEach [b] Y.X.env := by rfl) (hpl : (backTo pos (starEach [b] Y.X.env)).any (·.1) = false := by rfl) :
    DI Y (.Tuple elts kk tpos) (.Call (.Name "zip" p) [a, b] [] pos) (fun ρ P => el ρ fun ds ρ1 => zipOf ds fun xs => P xs ρ1) :=
  ⟨PI.imp (pi_zip hg hm ha.run hs hpl) fun σ H Q ⟨F, R, ρ, B, P, S, hw, hq, hx⟩ => ⟨F, R, ρ, B, _, S, hw, fun vs H1 ⟨ds, ρ1, F1, A, B1, s, W, r, sl, p, q⟩ => by
    obtain ⟨m, xs, m', ys, rfl, q⟩ := zipOf_of q
    obtain ⟨F2, s2, W2, r2, sl2, p2⟩ := frz_tmps W r sl p
    obtain ⟨v, vr, B2, C2, ev, ⟨a0, us, rfl, ha0, ru⟩, ⟨v', vr', B3, C3, ev', ⟨a1, us', rfl, ha1, ru'⟩, ⟨e2, z2⟩, z3⟩, z⟩ := r2
    subst ev ev' e2
    obtain ⟨zB, zC⟩ := fp_zero2 z
    subst zB zC
    obtain ⟨zB, zC⟩ := fp_zero2 z3
    subst zB
    exact ⟨a0, a1, us, us', rfl, SqL.of (W2.f _ _ ha0), SqL.of (W2.f _ _ ha1), hq _ _ ⟨_, ρ1, F2, B1, s.trans s2, W2, sl2, p2, walk_zip ha0 ha1 ru ru', q⟩⟩, hx⟩⟩
end
end L3
namespace L2
open PySem PySem.Spec PyProof.Rows
section
variable {X : Cx} {tg : Expr}
/-- a list, a tuple or a text -/
def seqAt (K : PySem.W.Frag) (x : V) (H1 : Hp) (R : It → Hp → Prop) : Prop := (∃ a, x = .ref a ∧ (∃ xs, SqL K H1 a xs) ∧ R (Itl K a) H1) ∨ (∃ a, x = .ref a ∧ (∃ xs, SqT K H1 a xs) ∧ R (Itt K a) H1) ∨ ∃ z, x = .str z ∧ R (Its z) H1
def iSeqA (K : PySem.W.Frag) (tl : TE) : TI := fun σ H R => tl σ H fun x H1 => seqAt K x H1 R
theorem pi_seqA {l : Expr} {tl : TE} (hl : PE X l tl) : PI X tg l (iSeqA X.K tl) := by
  refine ⟨fun pins s σ H R I h => ?_⟩
  refine thn (hl.run pins s σ H _ I h) fun v s1 ⟨x, H1, I1, r1, q1⟩ => ?_
  rcases q1 with ⟨a, e, ⟨xs, hq⟩, q⟩ | ⟨a, e, ⟨xs, hq⟩, q⟩ | ⟨z, e, q⟩
  · subst e
    cases r1
    obtain ⟨its, rv, p, hz⟩ := I1.list hq
    refine wpAny_pyIter_list p.isList ?_
    refine ⟨s1.heap.objs.size, [s1.heap.objs.size], _, _, H1, rfl, I1.kept (t' := s1.toks) fun b o e => Heap.get?_push_of_some _ e, turn_list a _, ⟨_, Heap.get?_push_size _ rfl, rfl, rfl⟩, fun b hb => ?_, q⟩
    have e : b = s1.heap.objs.size := by simpa using hb
    subst e
    exact I1.fpOk (Nat.le_refl _) (I1.hok.fresh (Nat.le_refl _))
  · subst e
    cases r1
    obtain ⟨its, rv, p, hz⟩ := I1.tuple hq
    refine wpAny_pyIter_tuple (show s1.heap.IsTuple a its.toArray from p) ?_
    refine ⟨s1.heap.objs.size, [s1.heap.objs.size], _, _, H1, rfl, I1.kept (t' := s1.toks) fun b o e => Heap.get?_push_of_some _ e, turn_tuple a _, ⟨_, Heap.get?_push_size _ rfl, rfl, rfl⟩, fun b hb => ?_, q⟩
    have e : b = s1.heap.objs.size := by simpa using hb
    subst e
    exact I1.fpOk (Nat.le_refl _) (I1.hok.fresh (Nat.le_refl _))
  · subst e
    obtain ⟨t, rfl⟩ := r1
    cases ha : z.cps.all (· < 128)
    · exact wpAny_pyIter_wide ha (pi_one (tk := s1.toks) I1 _ (turn_str _ z t "str_iterator" (.inr rfl)) ⟨_, Heap.get?_push_size _ rfl, rfl, rfl⟩ q)
    · exact wpAny_pyIter_ascii ha (pi_one (tk := s1.toks) I1 _ (turn_str _ z t "str_ascii_iterator" (.inl rfl)) ⟨_, Heap.get?_push_size _ rfl, rfl, rfl⟩ q)
end
end L2
namespace L3
open PySem PySem.Spec L2
open PyProof.Rows hiding St
/-- a for over frozen things -/
def forD (g : GT) (body : SW) (K : En) : List D → Env → Prop
  | [], ρ => K.nx ρ
  | d :: ds, ρ => g d ρ fun ρ1 => body { K with nx := forD g body K ds, ct := forD g body K ds, bk := K.nx } ρ1
/-- a while, by an invariant with a number that falls -/
def whileD (t : TW) (body : SW) (K : En) (ρ : Env) : Prop := ∃ I : Nat → Env → Prop, (∃ m, I m ρ) ∧ ∀ m ρ, I m ρ →
  t ρ fun c ρ1 => if c = true then body { K with nx := fun ρ2 => ∃ m', m' < m ∧ I m' ρ2, ct := fun ρ2 => ∃ m', m' < m ∧ I m' ρ2, bk := K.nx } ρ1 else K.nx ρ1
section
variable {Y : Cy} {F F1 R H H1 : Hp} {ρ : Env} {σ σ1 : St} {A B : FP} {K : En} {Z : Ends} {e a b c tg : Expr} {ew : DW} {iw : IW} {gw : GT} {tw : TW} {w u : SW} {body : List Stmt} {pos : Pos}
/-- .. where the frame stands too -/
def WalkR (K : PySem.W.Frag) (J : It) (ds : List D) (F0 R0 : Hp) : Prop := ∀ F H, Same F0 F → Same F H → Same R0 H →
  (∀ i d, ds[i]? = some d → J.go i H ∧ ∀ x H', J.yld i H x H' → ((H' = H ∧ Rep K F H d x fp0) ∨ (∃ T o, H T = none ∧ H' = upd H T o ∧ Rep K (upd F T o) H' d x fp0) ∨ (∃ T us, H' = H ∧ H T = some (.tup us) ∧ Rep K (upd F T (.tup us)) H d x fp0))) ∧ J.stop ds.length H
theorem Wd.addT (W : Wd F R H) {T : Addr} {us : List V} (h : H T = some (.tup us)) : Wd (upd F T (.tup us)) R H := by
  refine ⟨fun b x e => ?_, W.r, fun a x e => ?_⟩
  · by_cases q : b = T
    · subst q; rw [upd_same] at e; cases e; exact h
    · rw [upd_ne q] at e; exact W.f _ _ e
  · have n : a ≠ T := by
      rintro rfl
      have h1 := W.r _ _ e
      rw [h] at h1; cases h1
      exact (W.a _ _ e).2
    rw [upd_ne n]
    exact W.a _ _ e
theorem Wd.addTs (W : Wd F R H) {T : Addr} {us : List V} (h : H T = some (.tup us)) : Same F (upd F T (.tup us)) := fun b x e => by
  by_cases q : b = T
  · subst q
    have h1 := W.f _ _ e
    rw [h] at h1; cases h1
    exact upd_same
  · rw [upd_ne q]; exact e
theorem Sep.addT {T : Addr} {us : List V} {A : FP} (s : Sep F R A) (own : ∀ a, A a ≠ 0 → ∃ o, H a = some o ∧ NoTup o) (h : H T = some (.tup us)) : Sep (upd F T (.tup us)) R A := fun a => by
  refine ⟨(s a).1, fun n => ?_⟩
  have ne : a ≠ T := by
    rintro rfl
    obtain ⟨o, h1, h2⟩ := own _ n
    rw [h] at h1; cases h1
    exact h2
  rw [upd_ne ne]
  exact (s a).2 n
theorem for_core {J : It} {ds : List D} {ρ1 : Env} {B1 : FP} (G : Goes Y F R σ K Z) (s : Same F F1) (W : Wd F1 R H1) (sl : SlR Y.X.K F1 H1 ρ1 σ B1) (p : Sep F1 R B1) (wk : WalkR Y.X.K J ds F1 R) (q : forD gw w K ds ρ1) :
    ∃ I : Nat → Nat → St → Hp → Prop, (∃ m, I 0 m σ H1) ∧ ∀ i m σ' H', I i m σ' H' → (J.stop i H' ∧ Z.nx σ' H') ∨ (J.go i H' ∧ ∃ Nx : St → Hp → Prop, (∀ σ2 H2, Nx σ2 H2 → ∃ m', m' < m ∧ I (i + 1) m' σ2 H2) ∧
      ∀ x H2, J.yld i H' x H2 → rdGT Y gw x σ' H2 fun σ3 H3 => rdS Y w { Z with nx := Nx, ct := Nx, bk := Z.nx } σ3 H3) := by
    refine ⟨fun i m σ' H' => i + m = ds.length ∧ ∃ ρ' F' B', Same F1 F' ∧ Wd F' R H' ∧ SlR Y.X.K F' H' ρ' σ' B' ∧ Sep F' R B' ∧ AgT Y.T σ σ' ∧ forD gw w K (ds.drop i) ρ', ⟨ds.length, by omega, ρ1, F1, B1, Same.refl F1, W, sl, p, .refl, by simpa using q⟩, ?_⟩
    rintro i m σ' H' ⟨em, ρ', F', B', s', W', sl', p', g', q'⟩
    obtain ⟨k1, k2⟩ := wk F' H' s' W'.f W'.r
    by_cases hi : i < ds.length
    · obtain ⟨hgo, hy⟩ := k1 i ds[i] (List.getElem?_eq_getElem hi)
      rw [List.drop_eq_getElem_cons hi] at q'
      refine .inr ⟨hgo, fun σ2 H2 => ∃ ρ2 F2 B2, Same F1 F2 ∧ Wd F2 R H2 ∧ SlR Y.X.K F2 H2 ρ2 σ2 B2 ∧ Sep F2 R B2 ∧ AgT Y.T σ σ2 ∧ forD gw w K (ds.drop (i + 1)) ρ2, fun σ2 H2 z => ⟨m - 1, by omega, by omega, z⟩, fun x H2 yx => ?_⟩
      -- the state behind the item
      have st : ∃ F2, Same F' F2 ∧ Wd F2 R H2 ∧ SlR Y.X.K F2 H2 ρ' σ' B' ∧ Sep F2 R B' ∧ Rep Y.X.K F2 H2 ds[i] x fp0 := by
        rcases hy x H2 yx with ⟨rfl, rd⟩ | ⟨T, o, hT, rfl, rd⟩ | ⟨T, us, rfl, hT, rd⟩
        · exact ⟨F', Same.refl F', W', sl', p', rd⟩
        · have own := slr_own sl'
          exact ⟨upd F' T o, W'.newf hT, W'.new hT, slr_mono (W'.newf hT) (keep_new own hT) sl', p'.new W' own hT, rd⟩
        · exact ⟨_, W'.addTs hT, W'.addT hT, slr_mono (W'.addTs hT) (fun _ _ => rfl) sl', p'.addT (slr_own sl') hT, rd⟩
      obtain ⟨F2, s2, W2, sl2, p2, rd⟩ := st
      have G' := G.at (σ1 := σ') (s.trans (s'.trans s2)) g'
      refine ⟨F2, R, ρ', ds[i], fp0, B', _, W2, rd, sl2, by rw [fpA_0l]; exact p2, q', fun σ3 H3 ⟨ρ3, F3, B3, s3, W3, sl3, p3, g3, q3⟩ => ?_, G'.ex⟩
      have g4 : AgT Y.T σ σ3 := g'.trans g3
      have G3 := G.at (σ1 := σ3) (s.trans (s'.trans (s2.trans s3))) g4
      refine ⟨F3, R, ρ3, B3, _, ⟨W3, sl3, p3⟩, q3, ⟨fun σ4 H4 ⟨ρ4, F4, B4, s4, W4, sl4, p4, g5, q4⟩ => ⟨ρ4, F4, B4, s'.trans (s2.trans (s3.trans s4)), W4, sl4, p4, g4.trans g5, q4⟩, G3.rt, G3.nx, fun σ4 H4 ⟨ρ4, F4, B4, s4, W4, sl4, p4, g5, q4⟩ => ⟨ρ4, F4, B4, s'.trans (s2.trans (s3.trans s4)), W4, sl4, p4, g4.trans g5, q4⟩, G3.ex⟩⟩
    · have ei : i = ds.length := by omega
      subst ei
      rw [List.drop_length] at q'
      exact .inl ⟨k2, G.nx σ' H' ⟨ρ', F', B', s.trans s', W', sl', p', g', q'⟩⟩
theorem s_for (hp : PassesOwn (model Y.X.prog Y.X.w) Y.X.A Y.X.env Y.X.xe) (hc : Y.X.calm = true) (hi : DI Y tg e iw) (hg : DGT Y tg gw) (hb : DSs Y body w) (hs : ∀ x, foldedSetIterable e Y.X.env x = pure x := by intro _; rfl) :
    DS Y (.For tg e body [] pos) (fun K ρ => iw ρ fun ds ρ1 => forD gw w K ds ρ1) :=
  ⟨PS.imp (ps_for hp hc hi.run hg.run hb.run hs) fun Z σ H ⟨F, R, ρ, B, K, S, hw, G⟩ => ⟨F, R, ρ, B, _, S, hw, fun J H1 ⟨ds, ρ1, F1, B1, s, W, sl, p, wk, q⟩ => for_core G s W sl p (fun F H a b _ => wk F H a b) q, G.ex⟩⟩
/-! a list that is kept meanwhile -/
/-- a list that may be read, its items frozen -/
def lstD (d : D) (P : List D → Prop) : Prop := match d with
  | .lst _ xs => fzs xs = true ∧ P xs
  | .scr ns => P (ns.map .int)
  | _ => False
/-- a list, a tuple, a text -/
def seqK (d : D) (P : List D → Prop) : Prop := match d with
  | .lst _ xs => fzs xs = true ∧ P xs
  | .scr ns => P (ns.map .int)
  | .tup xs => fzs xs = true ∧ P xs
  | .str x => P (signs x)
  | _ => False
def keepK (i : Nat) (d : D) (K : En) : En := { nx := fun ρ => i < ρ.length ∧ K.nx (ρ.set i (some d)), rt := fun x ρ => i < ρ.length ∧ K.rt x (ρ.set i (some d)), bk := fun ρ => i < ρ.length ∧ K.bk (ρ.set i (some d)), ct := fun ρ => i < ρ.length ∧ K.ct (ρ.set i (some d)) }
abbrev cyT (Y : Cy) (i : Nat) : Cy := ⟨Y.X, Y.W, i :: Y.T, Y.ex⟩
theorem reps_ints0 {K : PySem.W.Frag} : ∀ ns : List Int, Reps K F H (ns.map D.int) (ns.map V.int) fp0
  | [] => ⟨rfl, rfl⟩
  | n :: ns => ⟨_, _, fp0, fp0, rfl, ⟨rfl, rfl⟩, reps_ints0 ns, fpA_0l.symm⟩
/-- what is set aside comes back -/
theorem give_back {i : Nat} {d : D} {v : V} {A1 : FP} {ρ' : Env} {σ' : St} {B' : FP} {F' H' : Hp} {A : FP} (W0 : Wd F R H) (r : Rep Y.X.K F H d v A1) (p0 : Sep F R A1) (s : Same F F') (W : Wd F' (hold R H A1) H') (sl : SlR Y.X.K F' H' ρ' σ' B') (p : Sep F' (hold R H A1) (fpA A B')) (hv : σ'[i]? = some (some v)) (hi : i < ρ'.length) :
    ∃ B2, Wd F' R H' ∧ SlR Y.X.K F' H' (ρ'.set i (some d)) σ' B2 ∧ Sep F' R (fpA A B2) := by
  obtain ⟨W2, p2, k2⟩ := hold_back W0 p0 (rep_own d r) W p
  obtain ⟨C, l, st, _⟩ := slr_set i sl hi
  have sl2 := st F' H' d v A1 (Same.refl F') (fun _ _ => rfl) (rep_mono s d k2 r)
  rw [set_same hv] at sl2
  exact ⟨_, W2, sl2, p2.mono fun a => by have := l a; unfold fpA; omega⟩
theorem agT_sub {i : Nat} {T : List Nat} {σ σ' : St} (g : AgT (i :: T) σ σ') : AgT T σ σ' ∧ σ'[i]? = σ[i]? := ⟨⟨g.1, fun j h => g.2 j (List.mem_cons_of_mem _ h)⟩, g.2 i (by simp)⟩
theorem goes_keep {i : Nat} {d : D} {v : V} {A1 : FP} (W0 : Wd F R H) (r : Rep Y.X.K F H d v A1) (p0 : Sep F R A1) (hv : σ[i]? = some (some v)) (G : Goes Y F R σ K Z) : Goes (cyT Y i) F (hold R H A1) σ (keepK i d K) Z := by
  have st : ∀ {P : Env → Prop} {σ' H'}, StP (cyT Y i) F (hold R H A1) σ (fun ρ => i < ρ.length ∧ P (ρ.set i (some d))) σ' H' → StP Y F R σ P σ' H' := fun {P σ' H'} ⟨ρ', F', B', s, W, sl, p, g, hi, q⟩ => by
    obtain ⟨g1, g2⟩ := agT_sub g
    obtain ⟨B2, W2, sl2, p2⟩ := give_back (Y := Y) (A := fp0) W0 r p0 s W sl (by rw [fpA_0l]; exact p) (g2.trans hv) hi
    rw [fpA_0l] at p2
    exact ⟨_, F', B2, s, W2, sl2, p2, g1, q⟩
  refine ⟨fun σ' H' z => G.nx _ _ (st z), fun x H' ⟨dx, ρ', σ', F', A, B', s, W, rx, sl, p, g, hi, q⟩ => ?_, fun σ' H' z => G.bk _ _ (st z), fun σ' H' z => G.ct _ _ (st z), fun c dx σ' H' ⟨ρ', F', B', s, W, sl, p, g, q⟩ => ?_⟩
  · obtain ⟨g1, g2⟩ := agT_sub g
    obtain ⟨B2, W2, sl2, p2⟩ := give_back (Y := Y) W0 r p0 s W sl p (g2.trans hv) hi
    exact G.rt _ _ ⟨dx, _, σ', F', A, B2, s, W2, rx, sl2, p2, g1, q⟩
  · obtain ⟨W2, p2, _⟩ := hold_back W0 p0 (rep_own d r) W p
    exact G.ex c dx σ' H' ⟨ρ', F', B', s, W2, sl, p2.mono fun a => (by unfold fpA; omega), (agT_sub g).1, q⟩
/-- the walk over a list that is set aside -/
theorem walk_keep {d : D} {v : V} {A1 : FP} {P : List D → Prop} (W0 : Wd F R H) (r : Rep Y.X.K F H d v A1) (h : seqK d P) : ∃ ds, P ds ∧ ∀ Q : It → Hp → Prop, (∀ J, WalkR Y.X.K J ds F (hold R H A1) → Q J H) → seqAt Y.X.K v H Q := by
  have core : ∀ (p : Addr) (vs : List V) (ds : List D), Reps Y.X.K F H ds vs fp0 → (∀ F2 H2, Same F F2 → Same F2 H2 → Same (hold R H A1) H2 → SqL Y.X.K H2 p vs) → WalkR Y.X.K (Itl Y.X.K p) ds F (hold R H A1) := fun p vs ds rs hq F2 H2 s1 s2 s3 => by
    have e2 := hq F2 H2 s1 s2 s3
    have r2 : Reps Y.X.K F2 H2 ds vs fp0 := reps_mono s1 ds (fun a n => absurd rfl n) rs
    refine ⟨fun i d e => ?_, ⟨vs, e2, by rw [reps_len rs]; exact Nat.le_refl _⟩⟩
    obtain ⟨v, hv, rd⟩ := reps_getf r2 e
    exact ⟨⟨vs, v, e2, hv⟩, fun x H3 ⟨e3, hx⟩ => .inl ⟨e3, by have := hx vs e2; rw [hv] at this; cases this; exact rd⟩⟩
  cases d with
  | lst m xs =>
    cases m with
    | false =>
      obtain ⟨p, vs, rfl, e1, q1⟩ := r
      rw [fzs_reps xs h.1 q1] at q1
      exact ⟨xs, h.2, fun Q hQ => .inl ⟨p, rfl, ⟨vs, SqL.of (W0.f _ _ e1)⟩, hQ _ (core p vs xs q1 fun F2 H2 s1 s2 _ => SqL.of (s2 _ _ (s1 _ _ e1)))⟩⟩
    | true =>
      obtain ⟨p, vs, B0, rfl, e1, q1, z⟩ := r
      rw [fzs_reps xs h.1 q1] at q1
      have hA : A1 p ≠ 0 := by rw [z]; exact fpA_r (fp1_self p)
      exact ⟨xs, h.2, fun Q hQ => .inl ⟨p, rfl, ⟨vs, SqL.of e1⟩, hQ _ (core p vs xs q1 fun F2 H2 _ _ s3 => SqL.of (s3 _ _ (by rw [hold_in hA]; exact e1)))⟩⟩
  | scr ns =>
    obtain ⟨p, rfl, e1, z⟩ := r
    exact ⟨_, h, fun Q hQ => .inl ⟨p, rfl, ⟨_, W0.f.seq e1⟩, hQ _ (core p _ _ (reps_ints0 ns) fun F2 H2 s1 s2 _ => (s1.trans s2).seq e1)⟩⟩
  | tup xs =>
    obtain ⟨p, vs, rfl, e1, q1⟩ := r
    rw [fzs_reps xs h.1 q1] at q1
    exact ⟨xs, h.2, fun Q hQ => .inr (.inl ⟨p, rfl, ⟨vs, SqT.of (W0.f _ _ e1)⟩, hQ _ fun F2 H2 s1 s2 _ => walk_tup (F := F) e1 q1 F2 H2 s1 s2⟩)⟩
  | str x => exact ⟨_, h, fun Q hQ => .inr (.inr ⟨x, r.1, hQ _ fun F2 H2 s1 s2 _ => walk_str (F := F) F2 H2 s1 s2⟩)⟩
  | _ => exact h.elim
theorem s_forK (i : Nat) {x : Str} {p : Pos} (hp : PassesOwn (model Y.X.prog Y.X.w) Y.X.A Y.X.env Y.X.xe) (hc : Y.X.calm = true) (hg : DGT (cyT Y i) tg gw) (hb : DSs (cyT Y i) body w) (hN : Y.X.N[i]? = some x := by rfl) (hv : Vis Y.X.env.scope x := by first | exact Or.inl rfl | exact Or.inr (Or.inl rfl) | exact Or.inr (Or.inr rfl))
    (hd : (x == ("__debug__" : Str)) = false := by decide) (hcd : (x == ("__classdict__" : Str)) = false := by decide) (hs : ∀ z, foldedSetIterable (.Name x p) Y.X.env z = pure z := by intro _; rfl) :
    DS Y (.For tg (.Name x p) body [] pos) (fun K ρ => gv ρ i fun d => seqK d fun ds => forD gw w (keepK i d K) ds (ρ.set i (some .gone))) :=
  ⟨PS.imp (ps_for hp hc (pi_seqA (pe_var hN hv hd hcd)) hg.run hb.run hs) fun Z σ H ⟨F, R, ρ, B, K, S, hw, G⟩ => by
    obtain ⟨d, ed, hw⟩ := gv_some hw
    obtain ⟨v, A1, A2, hv1, rd, zB, bk⟩ := slr_at S.s ed
    have pA1 : Sep F R A1 := S.p.mono fun a => by rw [zB]; unfold fpA; omega
    obtain ⟨ds, q, wk⟩ := walk_keep (R := R) S.w rd hw
    have sl1 := bk F H .gone v fp0 (Same.refl F) (fun _ _ => rfl) rfl
    rw [set_same hv1, fpA_0l] at sl1
    have p1 : Sep F (hold R H A1) A2 := Sep.hold (by rw [← zB]; exact S.p)
    refine ⟨v, hv1, ?_⟩
    exact (wk _ fun J wk => for_core (Y := cyT Y i) (goes_keep S.w rd pA1 hv1 G) (Same.refl F) (S.w.hold pA1 (rep_own d rd)) sl1 p1 wk q)⟩
theorem s_while (hp : PassesOwn (model Y.X.prog Y.X.w) Y.X.A Y.X.env Y.X.xe) (hc : DT Y c tw) (hb : DSs Y body w) : DS Y (.While c body [] pos) (fun K ρ => whileD tw w K ρ) :=
  ⟨PS.imp (ps_while hp hc.run hb.run) fun Z σ H ⟨F, R, ρ, B, K, S, ⟨I, ⟨m0, h0⟩, hI⟩, G⟩ => by
    refine ⟨fun m σ' H' => ∃ ρ' F' B', Same F F' ∧ Wd F' R H' ∧ SlR Y.X.K F' H' ρ' σ' B' ∧ Sep F' R B' ∧ AgT Y.T σ σ' ∧ I m ρ', ⟨m0, ρ, F, B, Same.refl F, S.w, S.s, S.p, .refl, h0⟩, ?_⟩
    rintro m σ' H' ⟨ρ', F', B', s', W', sl', p', g', q'⟩
    have G' := G.at (σ1 := σ') s' g'
    refine ⟨F', R, ρ', B', _, ⟨W', sl', p'⟩, hI m ρ' q', fun c σ2 H2 e2 ⟨ρ2, F2, B2, s2, W2, sl2, p2, g2, q2⟩ => ?_, G'.ex⟩
    subst e2
    cases c with
    | true =>
      rw [if_pos rfl] at q2 ⊢
      have G2 := G.at (σ1 := σ2) (s'.trans s2) g'
      exact ⟨fun σ3 H3 => ∃ ρ3 F3 B3, Same F F3 ∧ Wd F3 R H3 ∧ SlR Y.X.K F3 H3 ρ3 σ3 B3 ∧ Sep F3 R B3 ∧ AgT Y.T σ σ3 ∧ ∃ m', m' < m ∧ I m' ρ3, fun σ3 H3 ⟨ρ3, F3, B3, s3, W3, sl3, p3, g3, m', hm, i3⟩ => ⟨m', hm, ρ3, F3, B3, s3, W3, sl3, p3, g3, i3⟩,
        F2, R, ρ2, B2, _, ⟨W2, sl2, p2⟩, q2, ⟨fun σ4 H4 ⟨ρ4, F4, B4, s4, W4, sl4, p4, g5, q4⟩ => ⟨ρ4, F4, B4, s'.trans (s2.trans s4), W4, sl4, p4, g'.trans g5, q4⟩, G2.rt, G2.nx, fun σ4 H4 ⟨ρ4, F4, B4, s4, W4, sl4, p4, g5, q4⟩ => ⟨ρ4, F4, B4, s'.trans (s2.trans s4), W4, sl4, p4, g'.trans g5, q4⟩, G2.ex⟩⟩
    | false =>
      rw [if_neg Bool.false_ne_true] at q2 ⊢
      exact G'.nx _ _ ⟨ρ2, F2, B2, s2, W2, sl2, p2, g2, q2⟩⟩
/-! ### comprehensions -/
def wipeE (ρ : Env) : List Nat → Env
  | [] => ρ
  | v :: vs => (wipeE ρ vs).set v none
/-- the block's own slots as they stood outside -/
def backE (ρ0 ρ : Env) : List Nat → Env
  | [] => ρ
  | v :: vs => (backE ρ0 ρ vs).set v (ρ0[v]?.getD none)
/-- .. frozen there meanwhile -/
def cool1 (ρ : Env) (v : Nat) : Env := match ρ[v]? with
  | some (some d) => ρ.set v (some (frz d))
  | _ => ρ
def coolE (ρ : Env) : List Nat → Env
  | [] => ρ
  | v :: vs => coolE (cool1 ρ v) vs
def compD (g : GT) (t : TW) (elt : DW) (vs : List Nat) : List D → Env → (List D → Env → Prop) → Prop
  | [], ρ, Q => Q [] ρ
  | d :: ds, ρ, Q => g d ρ fun ρ1 => t ρ1 fun c ρ2 => if c = true then elt ρ2 fun x ρ3 => compD g t elt vs ds (wipeE ρ3 vs) fun xs ρ4 => Q (x :: xs) ρ4 else compD g t elt vs ds (wipeE ρ2 vs) Q
theorem slr_drop {K : PySem.W.Frag} : ∀ {ρ : Env} {σ : St} {B : FP} (i : Nat) (x : Option V), SlR K F H ρ σ B → ∃ C, (∀ a, C a ≤ B a) ∧ SlR K F H (ρ.set i none) (σ.set i x) C
  | [], σ, B, i, x, r => ⟨fp0, fun _ => Nat.zero_le _, by obtain ⟨e, z⟩ := r; subst e; exact ⟨rfl, rfl⟩⟩
  | none :: ρ, _, _, 0, x, ⟨v, σr, e, r⟩ => by subst e; exact ⟨_, fun _ => Nat.le_refl _, ⟨x, σr, rfl, r⟩⟩
  | some d :: ρ, _, _, 0, x, ⟨v, σr, B, C, e, r, q, z⟩ => by subst e; exact ⟨C, fun a => by rw [z]; unfold fpA; omega, ⟨x, σr, rfl, q⟩⟩
  | none :: ρ, _, _, i + 1, x, ⟨v, σr, e, r⟩ => by
    subst e
    obtain ⟨C, l, h⟩ := slr_drop i x r
    exact ⟨C, l, ⟨v, _, rfl, h⟩⟩
  | some d :: ρ, _, _, i + 1, x, ⟨v, σr, B, C, e, r, q, z⟩ => by
    subst e
    obtain ⟨C', l, h⟩ := slr_drop i x q
    exact ⟨fpA B C', fun a => by have := l a; rw [z]; unfold fpA; omega, ⟨v, _, B, C', rfl, r, h, rfl⟩⟩
theorem slr_wipe {K : PySem.W.Frag} {σ : St} {B : FP} (r : SlR K F H ρ σ B) : ∀ vs : List Nat, ∃ C, (∀ a, C a ≤ B a) ∧ SlR K F H (wipeE ρ vs) (wipe σ vs) C
  | [] => ⟨B, fun _ => Nat.le_refl _, r⟩
  | v :: vs => by
    obtain ⟨C, l, h⟩ := slr_wipe r vs
    obtain ⟨C2, l2, h2⟩ := slr_drop v none h
    exact ⟨C2, fun a => Nat.le_trans (l2 a) (l a), h2⟩
theorem slr_wiped {K : PySem.W.Frag} {σ σ2 : St} {B : FP} {vs : List Nat} (e : wipe σ2 vs = wipe σ vs) (r : SlR K F H ρ σ2 B) : ∃ C, (∀ a, C a ≤ B a) ∧ SlR K F H (wipeE ρ vs) (wipe σ vs) C := by
  rw [← e]; exact slr_wipe r vs
def unw (τ σ : St) : List Nat → St
  | [] => τ
  | v :: vs => (unw τ σ vs).set v (σ[v]?.getD none)
theorem unw_len {τ σ : St} : ∀ {vs}, (unw τ σ vs).length = τ.length
  | [] => rfl
  | v :: vs => by rw [unw, List.length_set, unw_len]
theorem unw_get {τ σ : St} (hl : τ.length = σ.length) : ∀ {vs : List Nat} {j : Nat}, j ∈ vs → (unw τ σ vs)[j]? = σ[j]?
  | v :: vs, j, h => by
    by_cases e : v = j
    · subst e
      by_cases hv : v < σ.length
      · rw [unw, List.getElem?_set_self (by rw [unw_len, hl]; exact hv), List.getElem?_eq_getElem hv]; rfl
      · rw [List.getElem?_eq_none (by rw [unw_len, hl]; omega), List.getElem?_eq_none (by omega)]
    · rw [unw, List.getElem?_set_ne e]
      rcases List.mem_cons.mp h with h | h
      · exact absurd h.symm e
      · exact unw_get hl h
theorem unw_out {τ σ : St} : ∀ {vs : List Nat} {j : Nat}, j ∉ vs → (unw τ σ vs)[j]? = τ[j]?
  | [], j, _ => rfl
  | v :: vs, j, h => by
    simp only [List.mem_cons, not_or] at h
    rw [unw, List.getElem?_set_ne (Ne.symm h.1)]
    exact unw_out h.2
theorem unw_wipe (σ : St) (vs : List Nat) : unw (wipe σ vs) σ vs = σ := by
  apply List.ext_getElem?
  intro j
  by_cases h : j ∈ vs
  · exact unw_get (wipe_length σ vs) h
  · rw [unw_out h, wipe_out h]
theorem slr_back {K : PySem.W.Frag} {ρ0 : Env} {σ τ : St} {B : FP} (hl : τ.length = σ.length) (r : SlR K F H ρ τ B) :
    ∀ vs : List Nat, (∀ v ∈ vs, ∀ (d : D), ρ0[v]? = some (some d) → ∃ x : V, σ[v]? = some (some x) ∧ Rep K F H d x fp0) → ∃ C, (∀ a, C a ≤ B a) ∧ SlR K F H (backE ρ0 ρ vs) (unw τ σ vs) C
  | [], _ => ⟨B, fun _ => Nat.le_refl _, r⟩
  | v :: vs, h0 => by
    obtain ⟨C, l, h⟩ := slr_back hl r vs fun v hv => h0 v (List.mem_cons_of_mem _ hv)
    unfold backE unw
    cases e : ρ0[v]?.getD none with
    | some d =>
      have e' : ρ0[v]? = some (some d) := by
        cases q : ρ0[v]? with
        | none => rw [q] at e; cases e
        | some z => rw [q] at e; simp at e; rw [e]
      obtain ⟨x, e2, rd⟩ := h0 v List.mem_cons_self d e'
      rw [e2]
      have hv : v < (backE ρ0 ρ vs).length := by
        rw [← slr_len h, unw_len, hl]
        exact (List.getElem?_eq_some_iff.mp e2).1
      obtain ⟨C2, l2, st, _⟩ := slr_set v h hv
      have q := st F H d x fp0 (Same.refl F) (fun _ _ => rfl) rd
      rw [fpA_0l] at q
      exact ⟨C2, fun a => Nat.le_trans (l2 a) (l a), q⟩
    | none =>
      obtain ⟨C2, l2, h2⟩ := slr_drop v (σ[v]?.getD none) h
      exact ⟨C2, fun a => Nat.le_trans (l2 a) (l a), h2⟩
theorem slr_cool1 {K : PySem.W.Frag} {R : Hp} {σ : St} {B : FP} (v : Nat) (W : Wd F R H) (r : SlR K F H ρ σ B) (p : Sep F R B) : ∃ F' C, Same F F' ∧ Wd F' R H ∧ (∀ a, C a ≤ B a) ∧ Sep F' R C ∧ SlR K F' H (cool1 ρ v) σ C := by
  unfold cool1
  split
  · rename_i d e
    obtain ⟨x, A1, C, h1, h2, h3, h4⟩ := slr_at r e
    have p1 : Sep F R (fpA A1 C) := by rw [← h3]; exact p
    have pA : Sep F R A1 := p1.mono fun a => by unfold fpA; omega
    have rf : Rep K (frzF F H A1) H (frz d) x fp0 := rep_frz (frzF_same pA) d (fun a n => frzF_in n) h2
    have q := h4 (frzF F H A1) H (frz d) x fp0 (frzF_same pA) (fun _ _ => rfl) rf
    rw [set_same h1, fpA_0l] at q
    exact ⟨_, C, frzF_same pA, W.frz pA, fun a => by rw [h3]; unfold fpA; omega, p1.frz, q⟩
  · exact ⟨F, B, Same.refl F, W, fun _ => Nat.le_refl _, p, r⟩
theorem slr_cool {K : PySem.W.Frag} {R : Hp} {σ : St} : ∀ {F : Hp} {ρ : Env} {B : FP} (vs : List Nat), Wd F R H → SlR K F H ρ σ B → Sep F R B → ∃ F' C, Same F F' ∧ Wd F' R H ∧ (∀ a, C a ≤ B a) ∧ Sep F' R C ∧ SlR K F' H (coolE ρ vs) σ C
  | F, ρ, B, [], W, r, p => ⟨F, B, Same.refl F, W, fun _ => Nat.le_refl _, p, r⟩
  | F, ρ, B, v :: vs, W, r, p => by
    obtain ⟨F1, C1, s1, W1, l1, p1, r1⟩ := slr_cool1 v W r p
    obtain ⟨F2, C2, s2, W2, l2, p2, r2⟩ := slr_cool vs W1 r1 p1
    exact ⟨F2, C2, s1.trans s2, W2, fun a => Nat.le_trans (l2 a) (l1 a), p2, r2⟩
theorem cool1_fz {ρ : Env} {v w : Nat} (h : ∀ d, ρ[w]? = some (some d) → fz d = true) : ∀ d, (cool1 ρ v)[w]? = some (some d) → fz d = true := fun d e => by
  unfold cool1 at e
  split at e
  · rename_i d0 e0
    by_cases q : v = w
    · subst q
      rw [List.getElem?_set_self (List.getElem?_eq_some_iff.mp e0).1] at e
      have : frz d0 = d := by simpa using e
      rw [← this]; exact fz_frz d0
    · rw [List.getElem?_set_ne q] at e; exact h d e
  · exact h d e
theorem cool1_self {ρ : Env} {v : Nat} : ∀ d, (cool1 ρ v)[v]? = some (some d) → fz d = true := fun d e => by
  unfold cool1 at e
  split at e
  · rename_i d0 e0
    rw [List.getElem?_set_self (List.getElem?_eq_some_iff.mp e0).1] at e
    have : frz d0 = d := by simpa using e
    rw [← this]; exact fz_frz d0
  · rename_i h
    exact absurd e (by intro z; exact h d z)
theorem coolE_keep {w : Nat} : ∀ {vs : List Nat} {ρ : Env}, (∀ d, ρ[w]? = some (some d) → fz d = true) → ∀ d, (coolE ρ vs)[w]? = some (some d) → fz d = true
  | [], _, h => h
  | v :: vs, ρ, h => fun d e => coolE_keep (vs := vs) (ρ := cool1 ρ v) (cool1_fz h) d e
theorem coolE_fz : ∀ {vs : List Nat} {ρ : Env} {v : Nat}, v ∈ vs → ∀ d, (coolE ρ vs)[v]? = some (some d) → fz d = true
  | w :: vs, ρ, v, h => by
    rcases List.mem_cons.mp h with e | h
    · subst e; exact fun d e => coolE_keep (vs := vs) (ρ := cool1 ρ v) cool1_self d e
    · exact fun d e => coolE_fz (vs := vs) (ρ := cool1 ρ w) h d e
/-! ### the rule -/
structure DTs (Y : Cy) (es : List Expr) (w : TW) : Prop where
  run : PTs Y.X es (rdT Y w)
theorem PTs.imp {X : Cx} {e : List Expr} {t t' : TT} (h : PTs X e t) (k : ∀ σ H Q, t' σ H Q → t σ H Q) : PTs X e t' := ⟨fun pins s σ H Q I q => h.run pins s σ H Q I (k _ _ _ q)⟩
theorem ts_nil : DTs Y [] (fun ρ Q => Q true ρ) := ⟨PTs.imp pts_nil fun σ H Q ⟨F, R, ρ, B, P, S, hw, hq, hx⟩ => hq true σ H rfl ⟨ρ, F, B, Same.refl F, S.w, S.s, S.p, .refl, hw⟩⟩
theorem ts_one (h : DT Y c tw) : DTs Y [c] tw := ⟨pts_one h.run⟩
/-- within a comprehension's block: the slots but its own stand -/
abbrev blkY (Y : Cy) (n : Nat) (vs : List Nat) (s : Shared) (H : Hp) (scope : Scope) (cenv : PySem.Env) (fp : List Addr) : Cy :=
  ⟨Y.X.blk s H scope cenv fp, fun _ _ _ _ => False, (List.range n).filter fun i => decide (i ∉ vs), fun _ _ => False⟩
theorem wipe_agT {n : Nat} {vs : List Nat} {σ σ2 : St} (hn : (wipe σ vs).length ≤ n) (g : AgT ((List.range n).filter fun i => decide (i ∉ vs)) (wipe σ vs) σ2) : wipe σ2 vs = wipe σ vs := by
  have e0 : ∀ (τ : St) j, j ∈ vs → (wipe τ vs)[j]? = if j < τ.length then some none else none := fun τ j hj => by
    by_cases h : j < τ.length
    · rw [if_pos h]
      have h' : j < (wipe τ vs).length := by rw [wipe_length]; exact h
      cases q : (wipe τ vs)[j]? with
      | none => rw [List.getElem?_eq_none_iff] at q; omega
      | some z =>
        cases z with
        | none => rfl
        | some x => exact absurd hj (wipe_some q).2
    · rw [if_neg h, List.getElem?_eq_none (by rw [wipe_length]; omega)]
  apply List.ext_getElem?
  intro j
  have hl := g.1
  rw [wipe_length] at hl
  by_cases h : j ∈ vs
  · rw [e0 _ _ h, e0 _ _ h, hl]
  · rw [wipe_out h, wipe_out h]
    by_cases hj : j < n
    · have := g.2 j (List.mem_filter.mpr ⟨List.mem_range.mpr hj, by simpa using h⟩)
      rw [this, wipe_out h]
    · rw [wipe_length] at hn
      rw [List.getElem?_eq_none (by omega), List.getElem?_eq_none (by omega)]
theorem lc_core {own : List (Str × Nat)} {n : Nat} {gw : GT} {tw : TW} {ew : DW} {σ : St} {H1 : Hp} {Q : VK} {P : D → Env → Prop} {J : It} {ds : List D} {ρ1 : Env} {F F1 R : Hp} {B1 : FP} (hq : ∀ v H', EvO Y F R σ P v H' → Q v H') (s : Same F F1) (W : Wd F1 R H1) (sl : SlR Y.X.K F1 H1 ρ1 σ B1) (p : Sep F1 R B1) (wk : WalkR Y.X.K J ds F1 R)
    (hlen : ds.length ≤ sizeLine) (hρ : ρ1.length ≤ n) (q : compD gw tw ew (own.map (·.2)) ds (wipeE (coolE ρ1 (own.map (·.2))) (own.map (·.2))) fun xs ρ2 => P (.lst true xs) (backE (coolE ρ1 (own.map (·.2))) ρ2 (own.map (·.2)))) (L : Addr) (hL : H1 L = none) :
    ∃ I : Nat → Nat → Hp → Prop, (∃ m, I 0 m (upd H1 L (.lst []))) ∧ ∀ i m H', I i m H' → (J.stop i H' ∧ Q (.ref L) H') ∨ (J.go i H' ∧ ∃ Nx : Hp → Prop, (∀ H2, Nx H2 → ∃ m', m' < m ∧ I (i + 1) m' H2) ∧ ∀ x H2, J.yld i H' x H2 →
      rdGT ⟨Y.X, fun _ _ _ _ => False, (List.range n).filter fun i => decide (i ∉ own.map (·.2)), fun _ _ => False⟩ gw x (wipe σ (own.map (·.2))) H2 fun σ3 H3 => wipe σ3 (own.map (·.2)) = wipe σ (own.map (·.2)) ∧
        rdT ⟨Y.X, fun _ _ _ _ => False, (List.range n).filter fun i => decide (i ∉ own.map (·.2)), fun _ _ => False⟩ tw σ3 H3 fun b H4 => if b = true then rdE ⟨Y.X, fun _ _ _ _ => False, (List.range n).filter fun i => decide (i ∉ own.map (·.2)), fun _ _ => False⟩ ew σ3 H4 (fun y H5 => ∃ acc, H5 L = some (.lst acc) ∧ acc.length < sizeLine ∧ Nx (upd H5 L (.lst (acc ++ [y])))) else Nx H4) := by
  -- the block's own slots are frozen, then empty
  obtain ⟨F2, B2, s2, W2, l2, p2, sl2⟩ := slr_cool (own.map (·.2)) W sl p
  obtain ⟨B3, l3, sl3⟩ := slr_wipe sl2 (own.map (·.2))
  have p3 : Sep F2 R B3 := p2.mono l3
  have hσn : (wipe σ (own.map (·.2))).length ≤ n := by rw [wipe_length, slr_len sl]; exact hρ
  refine ⟨fun i m H' => i + m = ds.length ∧ ∃ acc, ∃ xs : List D, ∃ Aa ρ' F' B', Same F2 F' ∧ Wd F' R H' ∧ H' L = some (.lst acc) ∧ Reps Y.X.K F' H' xs acc Aa ∧ SlR Y.X.K F' H' ρ' (wipe σ (own.map (·.2))) B' ∧ Sep F' R (fpA (fpA Aa (fp1 L)) B') ∧ xs.length ≤ i ∧
      compD gw tw ew (own.map (·.2)) (ds.drop i) ρ' (fun ys ρ2 => P (.lst true (xs ++ ys)) (backE (coolE ρ1 (own.map (·.2))) ρ2 (own.map (·.2)))),
    ⟨ds.length, by omega, [], [], fp0, _, F2, B3, Same.refl F2, W2.mine hL, upd_same, ⟨rfl, rfl⟩, slr_mono (Same.refl F2) (keep_new (slr_own sl3) hL) sl3, ?_, Nat.le_refl _, by simpa using q⟩, ?_⟩
  · rw [fpA_0l, fpA_comm]
    exact p3.mine W2 (slr_own sl3) hL
  rintro i m H' ⟨em, acc, xs, Aa, ρ', F', B', s', W', hacc, rx, sl', p', hxs, q'⟩
  obtain ⟨k1, k2⟩ := wk F' H' (s2.trans s') W'.f W'.r
  have ownA : ∀ a, fpA Aa (fp1 L) a ≠ 0 → ∃ o, H' a = some o ∧ NoTup o := fun a nz => by
    rw [fpA_ne, fp1_ne] at nz
    rcases nz with nz | rfl
    · exact reps_own xs rx a nz
    · exact ⟨_, hacc, trivial⟩
  have pA : Sep F' R (fpA Aa (fp1 L)) := p'.mono fun a => by unfold fpA; omega
  by_cases hi : i < ds.length
  · obtain ⟨hgo, hy⟩ := k1 i ds[i] (List.getElem?_eq_getElem hi)
    rw [List.drop_eq_getElem_cons hi] at q'
    refine .inr ⟨hgo, fun H2 => ∃ acc2, ∃ xs2 : List D, ∃ Aa2 ρ2 F3 B4, Same F2 F3 ∧ Wd F3 R H2 ∧ H2 L = some (.lst acc2) ∧ Reps Y.X.K F3 H2 xs2 acc2 Aa2 ∧ SlR Y.X.K F3 H2 ρ2 (wipe σ (own.map (·.2))) B4 ∧ Sep F3 R (fpA (fpA Aa2 (fp1 L)) B4) ∧ xs2.length ≤ i + 1 ∧
      compD gw tw ew (own.map (·.2)) (ds.drop (i + 1)) ρ2 (fun ys ρ2 => P (.lst true (xs2 ++ ys)) (backE (coolE ρ1 (own.map (·.2))) ρ2 (own.map (·.2)))), fun H2 z => ⟨m - 1, by omega, by omega, z⟩, fun x H2 yx => ?_⟩
    have st : ∃ F3, Same F' F3 ∧ Wd F3 R H2 ∧ SlR Y.X.K F3 H2 ρ' (wipe σ (own.map (·.2))) B' ∧ Sep F3 R (fpA (fpA Aa (fp1 L)) B') ∧ Rep Y.X.K F3 H2 ds[i] x fp0 ∧ Reps Y.X.K F3 H2 xs acc Aa ∧ H2 L = some (.lst acc) := by
      rcases hy x H2 yx with ⟨rfl, rd⟩ | ⟨T, o, hT, rfl, rd⟩ | ⟨T, us, rfl, hT, rd⟩
      · exact ⟨F', Same.refl F', W', sl', p', rd, rx, hacc⟩
      · have own := slr_own sl'
        have ownAll : Own H' (fpA (fpA Aa (fp1 L)) B') := fun a nz => by
          rw [fpA_ne] at nz
          rcases nz with nz | nz
          · exact ownA a nz
          · exact own a nz
        have kp := keep_new (o := o) ownAll hT
        exact ⟨upd F' T o, W'.newf hT, W'.new hT, slr_mono (W'.newf hT) (fun a nz => kp a (fpA_r nz)) sl', p'.new W' ownAll hT, rd, reps_mono (W'.newf hT) xs (fun a nz => kp a (fpA_l (fpA_l nz))) rx, by rw [kp L (fpA_l (fpA_r (fp1_self L)))]; exact hacc⟩
      · have own := slr_own sl'
        have ownAll : Own H2 (fpA (fpA Aa (fp1 L)) B') := fun a nz => by
          rw [fpA_ne] at nz
          rcases nz with nz | nz
          · exact ownA a nz
          · exact own a nz
        exact ⟨_, W'.addTs hT, W'.addT hT, slr_mono (W'.addTs hT) (fun _ _ => rfl) sl', p'.addT ownAll hT, rd, reps_mono (W'.addTs hT) xs (fun _ _ => rfl) rx, hacc⟩
    obtain ⟨F3, s3, W3, sl3', p3', rd, rx3, hacc3⟩ := st
    have ownA3 : ∀ a, fpA Aa (fp1 L) a ≠ 0 → ∃ o, H2 a = some o ∧ NoTup o := fun a nz => by
      rw [fpA_ne, fp1_ne] at nz
      rcases nz with nz | rfl
      · exact reps_own xs rx3 a nz
      · exact ⟨_, hacc3, trivial⟩
    have pA3 : Sep F3 R (fpA Aa (fp1 L)) := p3'.mono fun a => by unfold fpA; omega
    -- what is made so far belongs to the frame
    refine ⟨F3, hold R H2 (fpA Aa (fp1 L)), ρ', ds[i], fp0, B', _, W3.hold pA3 ownA3, rd, sl3', by rw [fpA_0l]; exact p3'.hold, q', fun σ4 H4 ⟨ρ4, F4, B4, s4, W4, sl4, p4, g4, q4⟩ => ?_, fun c dx σ' H' ⟨_, _, _, _, _, _, _, _, z⟩ => z.elim⟩
    have ew4 : wipe σ4 (own.map (·.2)) = wipe σ (own.map (·.2)) := by
      have := wipe_agT (σ := σ) hσn g4
      exact this
    refine ⟨ew4, F4, hold R H2 (fpA Aa (fp1 L)), ρ4, B4, _, ⟨W4, sl4, p4⟩, q4, fun c σ5 H5 e5 ⟨ρ5, F5, B5, s5, W5, sl5, p5, g5, q5⟩ => ?_, fun c dx σ' H' ⟨_, _, _, _, _, _, _, _, z⟩ => z.elim⟩
    subst e5
    cases c with
    | true =>
      rw [if_pos rfl] at q5 ⊢
      refine ⟨F5, hold R H2 (fpA Aa (fp1 L)), ρ5, B5, _, ⟨W5, sl5, p5⟩, q5, fun y H6 ⟨d6, ρ6, F6, A6, B6, s6, W6, r6, sl6, p6, q6⟩ => ?_, fun c dx σ' H' ⟨_, _, _, _, _, _, _, _, z⟩ => z.elim⟩
      obtain ⟨W7, p7, k7⟩ := hold_back W3 pA3 ownA3 W6 p6
      have sF : Same F3 F6 := s4.trans (s5.trans s6)
      have rx6 : Reps Y.X.K F6 H6 xs acc Aa := reps_mono sF xs (fun a nz => k7 a (fpA_l nz)) rx3
      have hacc6 : H6 L = some (.lst acc) := by rw [k7 L (fpA_r (fp1_self L))]; exact hacc3
      obtain ⟨C6, lc6, sl6w⟩ := slr_wiped ew4 sl6
      refine ⟨acc, hacc6, by rw [reps_len rx6]; omega, ?_⟩
      -- the store
      have pAll : Sep F6 R (fpA (fpA Aa (fp1 L)) (fpA A6 B6)) := p7
      have hLn : fpA (fpA Aa (fp1 L)) (fpA A6 B6) L ≠ 0 := fpA_l (fpA_r (fp1_self L))
      have kL : ∀ a, (Aa a ≠ 0 ∨ A6 a ≠ 0 ∨ C6 a ≠ 0) → (upd H6 L (.lst (acc ++ [y]))) a = H6 a := fun a nz => by
        refine upd_ne ?_
        rintro rfl
        have h1 := (pAll a).1
        have h2 := lc6 a
        unfold fpA at h1
        simp only [fp1, if_pos] at h1
        omega
      refine ⟨acc ++ [y], xs ++ [d6], fpA Aa A6, _, F6, C6, (s'.trans s3).trans sF, W7.write pAll hLn, upd_same, ?_, slr_mono (Same.refl F6) (fun a nz => kL a (.inr (.inr nz))) sl6w, pAll.mono fun a => ?_, by rw [List.length_append]; simp; omega, ?_⟩
      · refine reps_append (reps_mono (Same.refl F6) xs (fun a nz => kL a (.inl nz)) rx6) ⟨y, [], A6, fp0, rfl, rep_mono (Same.refl F6) d6 (fun a nz => kL a (.inr (.inl nz))) r6, ⟨rfl, rfl⟩, fpA_0r.symm⟩
      · have := lc6 a; unfold fpA; omega
      · simpa [List.append_assoc] using q6
    | false =>
      rw [if_neg Bool.false_ne_true] at q5 ⊢
      obtain ⟨W7, p7, k7⟩ := hold_back W3 pA3 ownA3 W5 p5
      have sF : Same F3 F5 := s4.trans s5
      have rx6 : Reps Y.X.K F5 H5 xs acc Aa := reps_mono sF xs (fun a nz => k7 a (fpA_l nz)) rx3
      have hacc6 : H5 L = some (.lst acc) := by rw [k7 L (fpA_r (fp1_self L))]; exact hacc3
      obtain ⟨C6, lc6, sl6w⟩ := slr_wiped ew4 sl5
      exact ⟨acc, xs, Aa, _, F5, C6, (s'.trans s3).trans sF, W7, hacc6, rx6, sl6w, p7.mono fun a => by have := lc6 a; unfold fpA; omega, by omega, q5⟩
  · have ei : i = ds.length := by omega
    subst ei
    rw [List.drop_length] at q'
    refine .inl ⟨k2, hq _ _ ?_⟩
    have q'' : P (.lst true (xs ++ [])) (backE (coolE ρ1 (own.map (·.2))) ρ' (own.map (·.2))) := q'
    rw [List.append_nil] at q''
    have hcool : ∀ v ∈ own.map (·.2), ∀ d, (coolE ρ1 (own.map (·.2)))[v]? = some (some d) → ∃ x : V, σ[v]? = some (some x) ∧ Rep Y.X.K F' H' d x fp0 := fun v hv d e => by
      have hz := coolE_fz hv d e
      obtain ⟨x, A0, h1, h2, _⟩ := slr_get sl2 e
      rw [fz_rep d hz h2] at h2
      exact ⟨x, h1, rep_mono s' d (fun a nz => absurd rfl nz) h2⟩
    obtain ⟨C, lc, slb⟩ := slr_back (σ := σ) (wipe_length σ _) sl' (own.map (·.2)) hcool
    rw [unw_wipe] at slb
    exact ⟨.lst true xs, _, F', fpA Aa (fp1 L), C, s.trans (s2.trans s'), W', ⟨L, acc, Aa, rfl, hacc, rx, rfl⟩, slb, p'.mono fun a => by have := lc a; unfold fpA; omega, q''⟩
theorem lc_rd {own : List (Str × Nat)} {n : Nat} {iw : IW} {gw : GT} {tw : TW} {ew : DW} {σ : St} {H : Hp} {Q : VK}
    (h : rdE Y (fun ρ Q => iw ρ fun ds ρ1 => ds.length ≤ sizeLine ∧ ρ1.length ≤ n ∧ compD gw tw ew (own.map (·.2)) ds (wipeE (coolE ρ1 (own.map (·.2))) (own.map (·.2))) fun xs ρ2 => Q (.lst true xs) (backE (coolE ρ1 (own.map (·.2))) ρ2 (own.map (·.2)))) σ H Q) :
    tLc (rdI Y iw) (rdGT ⟨Y.X, fun _ _ _ _ => False, (List.range n).filter fun i => decide (i ∉ own.map (·.2)), fun _ _ => False⟩ gw) (rdT ⟨Y.X, fun _ _ _ _ => False, (List.range n).filter fun i => decide (i ∉ own.map (·.2)), fun _ _ => False⟩ tw) (rdE ⟨Y.X, fun _ _ _ _ => False, (List.range n).filter fun i => decide (i ∉ own.map (·.2)), fun _ _ => False⟩ ew) (own.map (·.2)) σ H Q := by
  obtain ⟨F, R, ρ, B, P, S, hw, hq, hx⟩ := h
  exact ⟨F, R, ρ, B, _, S, hw, fun J H1 ⟨ds, ρ1, F1, B1, s, W, sl, p, wk, ⟨hlen, hρ, q⟩⟩ L hL => lc_core hq s W sl p (fun F H a b _ => wk F H a b) hlen hρ q L hL, hx⟩
/-- the same over a list that is set aside -/
def lcK (i n : Nat) (vs : List Nat) (gw : GT) (tw : TW) (ew : DW) : DW := fun ρ Q => gv ρ i fun d => seqK d fun ds => ds.length ≤ sizeLine ∧ ρ.length ≤ n ∧ compD gw tw ew vs ds (wipeE (coolE (ρ.set i (some .gone)) vs) vs) fun xs ρ2 => i < (backE (coolE (ρ.set i (some .gone)) vs) ρ2 vs).length ∧ Q (.lst true xs) ((backE (coolE (ρ.set i (some .gone)) vs) ρ2 vs).set i (some d))
theorem lc_rdK {i : Nat} {own : List (Str × Nat)} {n : Nat} {gw : GT} {tw : TW} {ew : DW} {σ : St} {H : Hp} {Q : VK} (h : rdE Y (lcK i n (own.map (·.2)) gw tw ew) σ H Q) :
    tLc (iSeqA Y.X.K (tVar i)) (rdGT ⟨Y.X, fun _ _ _ _ => False, (List.range n).filter fun i => decide (i ∉ own.map (·.2)), fun _ _ => False⟩ gw) (rdT ⟨Y.X, fun _ _ _ _ => False, (List.range n).filter fun i => decide (i ∉ own.map (·.2)), fun _ _ => False⟩ tw) (rdE ⟨Y.X, fun _ _ _ _ => False, (List.range n).filter fun i => decide (i ∉ own.map (·.2)), fun _ _ => False⟩ ew) (own.map (·.2)) σ H Q := by
  obtain ⟨F, R, ρ, B, P, S, hw, hq, hx⟩ := h
  obtain ⟨d, ed, hw⟩ := gv_some hw
  obtain ⟨v, A1, A2, hv1, rd, zB, bk⟩ := slr_at S.s ed
  have pA1 : Sep F R A1 := S.p.mono fun a => by rw [zB]; unfold fpA; omega
  obtain ⟨ds, ⟨h1, h2, q⟩, wk⟩ := walk_keep (R := R) S.w rd hw
  have sl1 := bk F H .gone v fp0 (Same.refl F) (fun _ _ => rfl) rfl
  rw [set_same hv1, fpA_0l] at sl1
  have p1 : Sep F (hold R H A1) A2 := Sep.hold (by rw [← zB]; exact S.p)
  refine ⟨v, hv1, ?_⟩
  refine (wk _ fun J wk L hL => lc_core (Y := Y) (P := fun x ρ => i < ρ.length ∧ P x (ρ.set i (some d))) (R := hold R H A1) (fun x H' ⟨dx, ρ', F', A, B', s, W, rx, sl, p, hi, q⟩ => ?_) (Same.refl F) (S.w.hold pA1 (rep_own d rd)) sl1 p1 wk h1 (by rw [List.length_set]; exact h2) q L hL)
  obtain ⟨B2, W2, sl2, p2⟩ := give_back (Y := Y) S.w rd pA1 s W sl p hv1 hi
  exact hq x H' ⟨dx, _, F', A, B2, s, W2, rx, sl2, p2, q⟩
theorem e_lc {iter elt : Expr} {ifs : List Expr} {scope : Scope} {own : List (Str × Nat)} {n : Nat} {vs : List Nat} {iw : IW} {gw : GT} {tw : TW} {ew : DW} (hc : Y.X.calm = true) (hN : Y.X.N.Nodup) (hn : Y.X.N.length = n) (hi : DI Y tg iter iw) (ok : BlkOk Y.X.N Y.X.env.scope scope own) (hv : own.map (·.2) = vs)
    (hg : ∀ (s : Shared) (H : Hp) (C : Addr) (cl : List (Str × Addr)) (fp : List Addr), DGT (blkY Y n vs s H scope (compEnvC scope cl C Y.X.env) fp) tg gw)
    (ht : ∀ (s : Shared) (H : Hp) (C : Addr) (cl : List (Str × Addr)) (fp : List Addr), DTs (blkY Y n vs s H scope (compEnvC scope cl C Y.X.env) fp) ifs tw)
    (he : ∀ (s : Shared) (H : Hp) (C : Addr) (cl : List (Str × Addr)) (fp : List Addr), DE (blkY Y n vs s H scope (compEnvC scope cl C Y.X.env) fp) elt ew)
    (hs : ∀ x, foldedSetIterable iter Y.X.env x = pure x := by intro _; rfl) :
    DE Y (.ListComp elt [⟨tg, iter, ifs, 0⟩] scope pos) (fun ρ Q => iw ρ fun ds ρ1 => ds.length ≤ sizeLine ∧ ρ1.length ≤ n ∧ compD gw tw ew vs ds (wipeE (coolE ρ1 vs) vs) fun xs ρ2 => Q (.lst true xs) (backE (coolE ρ1 vs) ρ2 vs)) := by
  subst hv
  let Y0 : Cy := ⟨Y.X, fun _ _ _ _ => False, (List.range n).filter fun i => decide (i ∉ own.map (·.2)), fun _ _ => False⟩
  exact ⟨PE.imp (pe_lc (g := rdGT Y0 gw) (tt := rdT Y0 tw) (te := rdE Y0 ew) hc hN hi.run ok (fun s H C cl fp => (hg s H C cl fp).run) (fun s H C cl fp => (ht s H C cl fp).run) (fun s H C cl fp => (he s H C cl fp).run) hs) fun σ H Q h => lc_rd h⟩
/-- name = [..] on one line, the name a local -/
theorem s_setLc {i : Nat} {y : Str} {py : Pos} {iter elt : Expr} {ifs : List Expr} {scope : Scope} {own : List (Str × Nat)} {n : Nat} {vs : List Nat} {iw : IW} {gw : GT} {tw : TW} {ew : DW} (hc : Y.X.calm = true) (hN : Y.X.N.Nodup) (hn : Y.X.N.length = n) (hi : DI Y tg iter iw) (ok : BlkOk Y.X.N Y.X.env.scope scope own) (hv : own.map (·.2) = vs)
    (hg : ∀ (s : Shared) (H : Hp) (C : Addr) (cl : List (Str × Addr)) (fp : List Addr), DGT (blkY Y n vs s H scope (compEnvC scope cl C Y.X.env) fp) tg gw)
    (ht : ∀ (s : Shared) (H : Hp) (C : Addr) (cl : List (Str × Addr)) (fp : List Addr), DTs (blkY Y n vs s H scope (compEnvC scope cl C Y.X.env) fp) ifs tw)
    (he : ∀ (s : Shared) (H : Hp) (C : Addr) (cl : List (Str × Addr)) (fp : List Addr), DE (blkY Y n vs s H scope (compEnvC scope cl C Y.X.env) fp) elt ew)
    (hsw : swapsWith (.ListComp elt [⟨tg, iter, ifs, 0⟩] scope pos) (some (.Name y py)) spos.line Y.X.env = pure true)
    (hs : ∀ x, foldedSetIterable iter Y.X.env x = pure x := by intro _; rfl) (hT : i ∉ Y.T := by decide) (hy : Y.X.N[i]? = some y := by rfl) (hyl : Y.X.env.scope.names.lookup y = some .local := by rfl) :
    DS Y (.Assign [.Name y py] (.ListComp elt [⟨tg, iter, ifs, 0⟩] scope pos) spos) (fun K ρ => iw ρ fun ds ρ1 => ds.length ≤ sizeLine ∧ ρ1.length ≤ n ∧ compD gw tw ew vs ds (wipeE (coolE ρ1 vs) vs) fun xs ρ2 => i < (backE (coolE ρ1 vs) ρ2 vs).length ∧ K.nx ((backE (coolE ρ1 vs) ρ2 vs).set i (some (.lst true xs)))) := by
  subst hv
  let Y0 : Cy := ⟨Y.X, fun _ _ _ _ => False, (List.range n).filter fun i => decide (i ∉ own.map (·.2)), fun _ _ => False⟩
  exact ⟨PS.imp (ps_setLc (g := rdGT Y0 gw) (tt := rdT Y0 tw) (te := rdE Y0 ew) hc hN hy hyl hsw hi.run ok (fun s H C cl fp => (hg s H C cl fp).run) (fun s H C cl fp => (ht s H C cl fp).run) (fun s H C cl fp => (he s H C cl fp).run) hs) fun Z σ H ⟨F, R, ρ, B, K, S, hw, G⟩ =>
    lc_rd (Y := Y) (Q := fun x H1 => gName i x σ H1 Z.nx) ⟨F, R, ρ, B, fun d ρ2 => i < ρ2.length ∧ K.nx (ρ2.set i (some d)), S, hw, fun v H1 ⟨d, ρ1, F1, A, B1, s, W, r, sl, p, q⟩ =>
    G.nx _ _ (StP.at (σ1 := σ) s .refl (st_set hT q.1 W r sl p q.2)), G.ex⟩⟩
theorem e_lcK (i : Nat) {x : Str} {p : Pos} {elt : Expr} {ifs : List Expr} {scope : Scope} {own : List (Str × Nat)} {n : Nat} {vs : List Nat} {gw : GT} {tw : TW} {ew : DW} (hc : Y.X.calm = true) (hN : Y.X.N.Nodup) (hn : Y.X.N.length = n) (ok : BlkOk Y.X.N Y.X.env.scope scope own) (hv : own.map (·.2) = vs)
    (hg : ∀ (s : Shared) (H : Hp) (C : Addr) (cl : List (Str × Addr)) (fp : List Addr), DGT (blkY Y n vs s H scope (compEnvC scope cl C Y.X.env) fp) tg gw)
    (ht : ∀ (s : Shared) (H : Hp) (C : Addr) (cl : List (Str × Addr)) (fp : List Addr), DTs (blkY Y n vs s H scope (compEnvC scope cl C Y.X.env) fp) ifs tw)
    (he : ∀ (s : Shared) (H : Hp) (C : Addr) (cl : List (Str × Addr)) (fp : List Addr), DE (blkY Y n vs s H scope (compEnvC scope cl C Y.X.env) fp) elt ew)
    (hN1 : Y.X.N[i]? = some x := by rfl) (hv1 : Vis Y.X.env.scope x := by first | exact Or.inl rfl | exact Or.inr (Or.inl rfl) | exact Or.inr (Or.inr rfl)) (hd : (x == ("__debug__" : Str)) = false := by decide) (hcd : (x == ("__classdict__" : Str)) = false := by decide)
    (hs : ∀ z, foldedSetIterable (.Name x p) Y.X.env z = pure z := by intro _; rfl) :
    DE Y (.ListComp elt [⟨tg, .Name x p, ifs, 0⟩] scope pos) (lcK i n vs gw tw ew) := by
  subst hv
  let Y0 : Cy := ⟨Y.X, fun _ _ _ _ => False, (List.range n).filter fun i => decide (i ∉ own.map (·.2)), fun _ _ => False⟩
  exact ⟨PE.imp (pe_lc (g := rdGT Y0 gw) (tt := rdT Y0 tw) (te := rdE Y0 ew) hc hN (pi_seqA (pe_var hN1 hv1 hd hcd)) ok (fun s H C cl fp => (hg s H C cl fp).run) (fun s H C cl fp => (ht s H C cl fp).run) (fun s H C cl fp => (he s H C cl fp).run) hs) fun σ H Q h => lc_rdK h⟩
theorem s_setLcK (i : Nat) (i1 : Nat) {x : Str} {p : Pos} {y : Str} {py : Pos} {elt : Expr} {ifs : List Expr} {scope : Scope} {own : List (Str × Nat)} {n : Nat} {vs : List Nat} {gw : GT} {tw : TW} {ew : DW} (hc : Y.X.calm = true) (hN : Y.X.N.Nodup) (hn : Y.X.N.length = n) (ok : BlkOk Y.X.N Y.X.env.scope scope own) (hv : own.map (·.2) = vs)
    (hg : ∀ (s : Shared) (H : Hp) (C : Addr) (cl : List (Str × Addr)) (fp : List Addr), DGT (blkY Y n vs s H scope (compEnvC scope cl C Y.X.env) fp) tg gw)
    (ht : ∀ (s : Shared) (H : Hp) (C : Addr) (cl : List (Str × Addr)) (fp : List Addr), DTs (blkY Y n vs s H scope (compEnvC scope cl C Y.X.env) fp) ifs tw)
    (he : ∀ (s : Shared) (H : Hp) (C : Addr) (cl : List (Str × Addr)) (fp : List Addr), DE (blkY Y n vs s H scope (compEnvC scope cl C Y.X.env) fp) elt ew)
    (hsw : swapsWith (.ListComp elt [⟨tg, .Name x p, ifs, 0⟩] scope pos) (some (.Name y py)) spos.line Y.X.env = pure true)
    (hN1 : Y.X.N[i]? = some x := by rfl) (hv1 : Vis Y.X.env.scope x := by first | exact Or.inl rfl | exact Or.inr (Or.inl rfl) | exact Or.inr (Or.inr rfl)) (hd : (x == ("__debug__" : Str)) = false := by decide) (hcd : (x == ("__classdict__" : Str)) = false := by decide)
    (hs : ∀ z, foldedSetIterable (.Name x p) Y.X.env z = pure z := by intro _; rfl) (hT : i1 ∉ Y.T := by decide) (hy : Y.X.N[i1]? = some y := by rfl) (hyl : Y.X.env.scope.names.lookup y = some .local := by rfl) :
    DS Y (.Assign [.Name y py] (.ListComp elt [⟨tg, .Name x p, ifs, 0⟩] scope pos) spos) (fun K ρ => lcK i n vs gw tw ew ρ fun d ρ2 => i1 < ρ2.length ∧ K.nx (ρ2.set i1 (some d))) := by
  subst hv
  let Y0 : Cy := ⟨Y.X, fun _ _ _ _ => False, (List.range n).filter fun i => decide (i ∉ own.map (·.2)), fun _ _ => False⟩
  exact ⟨PS.imp (ps_setLc (g := rdGT Y0 gw) (tt := rdT Y0 tw) (te := rdE Y0 ew) hc hN hy hyl hsw (pi_seqA (pe_var hN1 hv1 hd hcd)) ok (fun s H C cl fp => (hg s H C cl fp).run) (fun s H C cl fp => (ht s H C cl fp).run) (fun s H C cl fp => (he s H C cl fp).run) hs) fun Z σ H ⟨F, R, ρ, B, K, S, hw, G⟩ =>
    lc_rdK (Y := Y) (Q := fun x H1 => gName i1 x σ H1 Z.nx) ⟨F, R, ρ, B, fun d ρ2 => i1 < ρ2.length ∧ K.nx (ρ2.set i1 (some d)), S, hw, fun v H1 ⟨d, ρ1, F1, A, B1, s, W, r, sl, p, q⟩ =>
    G.nx _ _ (StP.at (σ1 := σ) s .refl (st_set hT q.1 W r sl p q.2)), G.ex⟩⟩
end
end L3
namespace L3
open PySem PySem.Spec L2
open PyProof.Rows hiding St
/-- what the parameters' slots hold in the end (those that are stored anew are not told) -/
def outs : List Bool → Env → List D
  | [], _ => []
  | true :: fl, some d :: ρ => d :: outs fl ρ
  | _ :: fl, _ :: ρ => .gone :: outs fl ρ
  | _ :: fl, [] => .gone :: outs fl []
def startE (n : Nat) (ds : List D) : Env := ds.map some ++ List.replicate (n - ds.length) none
theorem outs_ok {K : PySem.W.Frag} {F H : Hp} : ∀ {fl : List Bool} {ρ : Env} {σ : St} {B : FP} {vs : List V}, SlR K F H ρ σ B → vs.length = fl.length → (∀ i : Nat, fl[i]? = some true → σ[i]? = some vs[i]?) → ∃ C, (∀ a, C a ≤ B a) ∧ Reps K F H (outs fl ρ) vs C
  | [], ρ, σ, B, vs, r, hl, _ => ⟨fp0, fun _ => Nat.zero_le _, by rw [List.length_eq_zero_iff.mp hl]; exact ⟨rfl, rfl⟩⟩
  | b :: fl, [], σ, B, v :: vs, r, hl, h => by
    obtain ⟨C, l, q⟩ := outs_ok (fl := fl) (ρ := []) (σ := []) (B := fp0) (vs := vs) ⟨rfl, rfl⟩ (by simpa using hl) (fun i e => by
      have := h (i + 1) (by simpa using e)
      rw [r.1] at this; simp at this)
    refine ⟨C, fun a => by have := l a; unfold fp0 at this; omega, ?_⟩
    cases b <;> exact ⟨v, vs, fp0, C, rfl, rfl, q, fpA_0l.symm⟩
  | b :: fl, none :: ρ, σ, B, v :: vs, ⟨x, σr, e, r⟩, hl, h => by
    subst e
    obtain ⟨C, l, q⟩ := outs_ok r (by simpa using hl) (fun i e => by
      have := h (i + 1) (by simpa using e)
      simpa using this)
    refine ⟨C, l, ?_⟩
    cases b <;> exact ⟨v, vs, fp0, C, rfl, rfl, q, fpA_0l.symm⟩
  | b :: fl, some d :: ρ, σ, B, v :: vs, ⟨x, σr, B1, B2, e, rd, r, z⟩, hl, h => by
    subst e
    obtain ⟨C, l, q⟩ := outs_ok r (by simpa using hl) (fun i e => by
      have := h (i + 1) (by simpa using e)
      simpa using this)
    cases b with
    | false => exact ⟨C, fun a => by have := l a; rw [z]; unfold fpA; omega, ⟨v, vs, fp0, C, rfl, rfl, q, fpA_0l.symm⟩⟩
    | true =>
      have := h 0 rfl
      simp at this
      subst this
      exact ⟨fpA B1 C, fun a => by have := l a; rw [z]; unfold fpA; omega, ⟨x, vs, B1, C, rfl, rd, q, rfl⟩⟩
theorem slr_start {K : PySem.W.Frag} {F H : Hp} : ∀ {ds : List D} {vs : List V} {A : FP} (m : Nat), Reps K F H ds vs A → SlR K F H (ds.map some ++ List.replicate m none) (vs.map some ++ List.replicate m none) A
  | [], _, _, m, ⟨e, z⟩ => by
    subst e z
    simp only [List.map_nil, List.nil_append]
    induction m with
    | zero => exact ⟨rfl, rfl⟩
    | succ m ih => exact ⟨none, _, rfl, ih⟩
  | d :: ds, _, _, m, ⟨v, vr, B, C, e, r, q, z⟩ => by
    subst e
    exact ⟨v, _, B, C, rfl, r, slr_start m q, z⟩
section
variable {P : Program} {w : World} {K : PySem.W.Frag} {mg : Str → Option Value} {base : Heap}
/-- where a def's body stands that raises nothing -/
abbrev cy0 (P : Program) (w : World) (K : PySem.W.Frag) (mg : Str → Option Value) (base : Heap) (N : List Str) (T : List Nat) (qual : Str) (st : Stmt) (f : Addr) (cdv : Value) (A : Around) (outer : List PySem.Env) (s : Shared) (H : Hp) (E : XK) : Cy :=
  ⟨(cxOf CX0 P w K mg base N qual (defScope st) f cdv A outer s H E).nox, fun _ _ _ _ => False, T, fun _ _ => False⟩
/-- THE RULE of a def -/
theorem fn_d {x qual : Str} {st : Stmt} {f : Addr} {fd : FuncData} {N ps : List Str} {k n : Nat} {sp : DSp} {T : List Nat} {fl : List Bool} {wb : SW} (F : Fun K x qual st f fd) (S : FnScope N ps (defScope st)) (hlen : ∀ ds P EP, sp ds P EP → ds.length = ps.length) (hn : N.length = n)
    (hfl : fl.length = ps.length) (hT : ∀ i : Nat, fl[i]? = some true → i ∈ T)
    (hb : ∀ (cdv : Value) (A : Around) (outer : List PySem.Env) (s : Shared) (H : Hp) (E : XK), Room k (A.deeper (envOfC qual (defScope st) s.heap.objs.size f cdv)) → DSs (cy0 P w K mg base N T qual st f cdv A outer s H E) (defBody st) wb)
    (hw : ∀ ds P EP, sp ds P EP → wb { nx := fun ρ => P .non (outs fl ρ), rt := fun d ρ => P d (outs fl ρ) } (startE n ds)) : FnOk P w K mg base CX0 (k + 1) f fd ps (spV K sp) := by
  subst hn
  refine fun_ok F S (fun vs H Q E h => ?_) (fun cdv A outer s H vs Q E hr h => ?_)
  · obtain ⟨F, R, ds, A, P, EP, W, r, p, h, _⟩ := h
    rw [reps_len r]; exact hlen _ _ _ h
  · obtain ⟨F, R, ds, A0, P0, EP, W, r, p, h, hq, _⟩ := h
    refine ⟨_, (hb cdv A outer s H E hr).run, F, R, startE N.length ds, A0, _, ⟨W, ?_, p⟩, hw ds P0 EP h, ⟨fun σ' H' ⟨ρ', F', B', s1, W', sl, p', g, q⟩ => ?_, fun v H' ⟨d, ρ', σ', F', A', B', s1, W', rd, sl, p', g, q⟩ => ?_, fun σ' H' ⟨_, _, _, _, _, _, _, _, z⟩ => z.elim, fun σ' H' ⟨_, _, _, _, _, _, _, _, z⟩ => z.elim, fun c dx σ' H' ⟨_, _, _, _, _, _, _, _, z⟩ => z.elim⟩⟩
    · unfold startE L2.start
      rw [reps_len r]
      exact slr_start _ r
    · have hv : vs.length = fl.length := by rw [reps_len r, hlen _ _ _ h, hfl]
      obtain ⟨C, l, ro⟩ := outs_ok (fl := fl) (vs := vs) sl hv fun i e => by
        have hi : i < vs.length := by rw [hv]; exact (List.getElem?_eq_some_iff.mp e).1
        rw [g.2 i (hT i e)]
        unfold L2.start
        rw [List.getElem?_append_left (by simpa using hi), List.getElem?_map, List.getElem?_eq_getElem hi]; rfl
      exact hq .non H' ⟨.non, _, F', fp0, C, s1, W', rep_non, ro, by rw [fpA_0l]; exact p'.mono l, q⟩
    · have hv : vs.length = fl.length := by rw [reps_len r, hlen _ _ _ h, hfl]
      obtain ⟨C, l, ro⟩ := outs_ok (fl := fl) (vs := vs) sl hv fun i e => by
        have hi : i < vs.length := by rw [hv]; exact (List.getElem?_eq_some_iff.mp e).1
        rw [g.2 i (hT i e)]
        unfold L2.start
        rw [List.getElem?_append_left (by simpa using hi), List.getElem?_map, List.getElem?_eq_getElem hi]; rfl
      exact hq v H' ⟨d, _, F', A', C, s1, W', rd, ro, p'.mono fun a => by have := l a; unfold fpA; omega, q⟩
/-- a def that stands in the module and keeps a promise -/
structure Fn (P : Program) (w : World) (K : PySem.W.Frag) (mg : Str → Option Value) (base : Heap) (CX : CXT) (k : Nat) (x : Str) (sp : DSp) : Prop where
  ex : ∃ (f : Addr) (fd : FuncData) (ps : List Str), FnOk P w K mg base CX k f fd ps (spV K sp) ∧ mg x = some (.ref f) ∧ PySem.W.keepIn K (.ref f) = true ∧ Binds K fd ps []
theorem Fn.cal {X : Cx} {CX : CXT} {j k : Nat} {x : Str} {sp : DSp} (F : Fn X.prog X.w X.K X.mg X.base CX j x sp) (hr : Room k X.A) (h : j ≤ k) : Cal X CX x sp := by
  obtain ⟨f, fd, ps, F, hm, hk, hb⟩ := F.ex
  exact ⟨⟨j, f, fd, ps, F, hr.mono h, hm, hk, hb⟩⟩
/-- a def of the text as it stands behind the top -/
structure Df (K : PySem.W.Frag) (mg : Str → Option Value) (x qual : Str) (st : Stmt) (ps : List Str) : Prop where
  ex : ∃ (f : Addr) (fd : FuncData), Fun K x qual st f fd ∧ mg x = some (.ref f) ∧ Binds K fd ps []
theorem Df.fn {x qual : Str} {st : Stmt} {N ps : List Str} {k n : Nat} {sp : DSp} {T : List Nat} {fl : List Bool} {wb : SW} (D : Df K mg x qual st ps) (S : FnScope N ps (defScope st)) (hn : N.length = n)
    (hfl : fl.length = ps.length) (hT : ∀ i : Nat, fl[i]? = some true → i ∈ T)
    (hb : ∀ (f : Addr) (cdv : Value) (A : Around) (outer : List PySem.Env) (s : Shared) (H : Hp) (E : XK), Room k (A.deeper (envOfC qual (defScope st) s.heap.objs.size f cdv)) → DSs (cy0 P w K mg base N T qual st f cdv A outer s H E) (defBody st) wb)
    (hlen : ∀ ds P EP, sp ds P EP → ds.length = ps.length)
    (hw : ∀ ds P EP, sp ds P EP → wb { nx := fun ρ => P .non (outs fl ρ), rt := fun d ρ => P d (outs fl ρ) } (startE n ds)) : Fn P w K mg base CX0 (k + 1) x sp := by
  obtain ⟨f, fd, F, hm, hbd⟩ := D.ex
  exact ⟨⟨f, fd, ps, fn_d F S hlen hn hfl hT (hb f) hw, hm, F.kp, hbd⟩⟩
end
/-! ### the law -/
def spLaw : DSp := fun ds P _ => ∃ ns : List Int, ds = [.scr ns] ∧ ns.length ≤ 63 ∧ (∀ n ∈ ns, Builtin.Int.intBits n ≤ 1048576) ∧ ∀ ds', P (.bl true) ds'
theorem law_start {K : PySem.W.Frag} {H : Hp} {a : Addr} {ns : List Int} (hl : ns.length ≤ 63) (hb : ∀ n ∈ ns, Builtin.Int.intBits n ≤ 1048576) (hS : SqL K H a (ns.map V.int)) : spV K spLaw [.ref a] H (fun v _ => v = .bl true) fun _ _ _ => False := by
  refine ⟨fun b => if b = a then H a else none, fun _ => none, [.scr ns], fp0, fun d _ => d = .bl true, fun _ _ => False, ⟨fun b o e => ?_, fun b o e => (by cases e), fun b o e => (by cases e)⟩, ⟨.ref a, [], fp0, fp0, rfl, ⟨a, rfl, ?_, rfl⟩, ⟨rfl, rfl⟩, fpA_0l.symm⟩,
    fun b => ⟨Nat.zero_le _, fun n => absurd rfl n⟩, ⟨ns, rfl, hl, hb, fun _ => rfl⟩, fun v H' ⟨d, _, F', A', B', _, _, r, _, _, e⟩ => ?_, fun c dx H' ⟨_, _, _, _, _, _, _, z⟩ => z⟩
  · by_cases h : b = a
    · subst h; simpa using e
    · simp [h] at e
  · rcases hS with (h | ⟨o, h⟩) | h
    · exact .inl (.inl (by simpa using h))
    · exact .inl (.inr ⟨o, by simpa using h⟩)
    · exact .inr h
  · subst e; exact r.1
end L3
namespace L3
open PySem PySem.Spec L2
open PyProof.Rows hiding St
/-! ### lists of ints, of texts -/
def asInts : List D → Option (List Int)
  | [] => some []
  | .int i :: r => (asInts r).map (i :: ·)
  | _ => none
def asStrs : List D → Option (List Str)
  | [] => some []
  | .str i :: r => (asStrs r).map (i :: ·)
  | _ => none
theorem asInts_map (ns : List Int) : asInts (ns.map D.int) = some ns := by
  induction ns with
  | nil => rfl
  | cons n ns ih => simp [asInts, ih]
theorem asStrs_map (ns : List Str) : asStrs (ns.map D.str) = some ns := by
  induction ns with
  | nil => rfl
  | cons n ns ih => simp [asStrs, ih]
theorem asInts_eq {ds : List D} {ns : List Int} (h : asInts ds = some ns) : ds = ns.map D.int := by
  induction ds generalizing ns with
  | nil => simp [asInts] at h; subst h; rfl
  | cons d ds ih =>
    cases d <;> simp only [asInts, Option.map_eq_some_iff, reduceCtorEq] at h
    obtain ⟨m, h1, rfl⟩ := h
    simp [ih h1]
theorem asStrs_eq {ds : List D} {ns : List Str} (h : asStrs ds = some ns) : ds = ns.map D.str := by
  induction ds generalizing ns with
  | nil => simp [asStrs] at h; subst h; rfl
  | cons d ds ih =>
    cases d <;> simp only [asStrs, Option.map_eq_some_iff, reduceCtorEq] at h
    obtain ⟨m, h1, rfl⟩ := h
    simp [ih h1]
section
variable {K : PySem.W.Frag} {F H : Hp}
theorem reps_ints : ∀ {ns : List Int} {vs : List V} {A : FP}, Reps K F H (ns.map D.int) vs A → vs = ns.map V.int ∧ A = fp0
  | [], _, _, ⟨e, z⟩ => ⟨e, z⟩
  | n :: ns, _, _, r => by
    obtain ⟨v, vr, B, C, e, ⟨e1, z1⟩, q, z⟩ := r
    obtain ⟨h1, h2⟩ := reps_ints q
    subst e h1 e1
    exact ⟨rfl, by rw [z, z1, h2, fpA_0l]⟩
theorem reps_strs : ∀ {ns : List Str} {vs : List V} {A : FP}, Reps K F H (ns.map D.str) vs A → vs = ns.map V.str ∧ A = fp0
  | [], _, _, ⟨e, z⟩ => ⟨e, z⟩
  | n :: ns, _, _, r => by
    obtain ⟨v, vr, B, C, e, ⟨e1, z1⟩, q, z⟩ := r
    obtain ⟨h1, h2⟩ := reps_strs q
    subst e h1 e1
    exact ⟨rfl, by rw [z, z1, h2, fpA_0l]⟩
theorem reps_of_ints : ∀ ns : List Int, Reps K F H (ns.map D.int) (ns.map V.int) fp0
  | [] => ⟨rfl, rfl⟩
  | n :: ns => ⟨_, _, fp0, fp0, rfl, rep_int, reps_of_ints ns, fpA_0l.symm⟩
theorem reps_of_strs : ∀ ns : List Str, Reps K F H (ns.map D.str) (ns.map V.str) fp0
  | [] => ⟨rfl, rfl⟩
  | n :: ns => ⟨_, _, fp0, fp0, rfl, rep_str, reps_of_strs ns, fpA_0l.symm⟩
theorem fzs_ints (ns : List Int) : fzs (ns.map D.int) = true := by
  induction ns with
  | nil => rfl
  | cons n ns ih => simp [fzs, fz, ih]
theorem fzs_strs (ns : List Str) : fzs (ns.map D.str) = true := by
  induction ns with
  | nil => rfl
  | cons n ns ih => simp [fzs, fz, ih]
end
/-! ### slices -/
def oSl (d : D) (lo hi : Option Int) (P : D → Prop) : Prop := match d with
  | .lst _ xs => fzs xs = true ∧ P (.lst true ((xs.drop (HT.sIx xs.length 0 lo)).take (HT.sIx xs.length xs.length hi - HT.sIx xs.length 0 lo)))
  | .scr xs => P (.lst true (((xs.drop (HT.sIx xs.length 0 lo)).take (HT.sIx xs.length xs.length hi - HT.sIx xs.length 0 lo)).map D.int))
  | .tup xs => fzs xs = true ∧ P (.tup ((xs.drop (HT.sIx xs.length 0 lo)).take (HT.sIx xs.length xs.length hi - HT.sIx xs.length 0 lo)))
  | .str x => x.length ≤ sizeLine ∧ P (.str (cutS x lo hi))
  | _ => False
def rSlX (K : PySem.W.Frag) : V → Option Int → Option Int → Hp → VK → Prop := fun x lo hi H Q => rSlL K x lo hi H Q ∨ rSlA K x lo hi H Q ∨ rSlS x lo hi H Q
theorem slr_x {X : Cx} : L2.SlR X (rSlX X.K) := L2.SlR.or sl_list (L2.SlR.or sl_tupA sl_str)
theorem sl_ok {K : PySem.W.Frag} {F R H : Hp} {G A : FP} {x : V} {d : D} {lo hi : Option Int} {P : D → Prop} {Q : VK} (W : Wd F R H) (ow : Own H G) (S : Sep F R G) (r : Rep K F H d x A) (l : ∀ a, A a ≤ G a) (o : oSl d lo hi P)
    (hq : ∀ v H', (∃ d F' A, Same F F' ∧ Keep G H H' ∧ Wd F' R H' ∧ Rep K F' H' d v A ∧ Sep F' R (fpA A G) ∧ P d) → Q v H') : rSlX K x lo hi H Q := by
  cases d with
  | lst m xs =>
    obtain ⟨p, vs, rfl, e1, B1, q1, _⟩ := lst_at W.f r
    rw [fzs_reps xs o.1 q1] at q1
    refine .inl ⟨p, vs, rfl, SqL.of e1, fun n hn => ?_⟩
    have rr : Reps K F H ((xs.drop (HT.sIx xs.length 0 lo)).take (HT.sIx xs.length xs.length hi - HT.sIx xs.length 0 lo)) (cutV vs lo hi) fp0 := by
      unfold cutV
      rw [reps_len q1]
      exact reps_take _ (reps_drop _ q1 o.1) (fzs_drop _ o.1)
    obtain ⟨F', A', s, k, W', rd, p'⟩ := new_lst W ow S hn rr (fzs_take _ (fzs_drop _ o.1))
    exact hq _ _ ⟨_, F', A', s, k, W', rd, p', o.2⟩
  | scr xs =>
    obtain ⟨p, rfl, e1, z⟩ := r
    refine .inl ⟨p, _, rfl, W.f.seq e1, fun n hn => ?_⟩
    have ec : cutV (xs.map V.int) lo hi = ((xs.drop (HT.sIx xs.length 0 lo)).take (HT.sIx xs.length xs.length hi - HT.sIx xs.length 0 lo)).map V.int := by
      unfold cutV
      rw [List.length_map, List.map_take, List.map_drop]
    rw [ec]
    obtain ⟨F', A', s, k, W', rd, p'⟩ := new_lst W ow S hn (reps_of_ints (K := K) (F := F) (H := H) _) (fzs_ints _)
    exact hq _ _ ⟨_, F', A', s, k, W', rd, p', o⟩
  | tup xs =>
    obtain ⟨p, vs, rfl, e1, q1⟩ := r
    rw [fzs_reps xs o.1 q1] at q1
    have hl := reps_len q1
    refine .inr (.inl ⟨p, vs, rfl, SqT.of (W.f _ _ e1), fun z => ?_, fun z n hn => ?_⟩)
    · have e2 : (xs.drop (HT.sIx xs.length 0 lo)).take (HT.sIx xs.length xs.length hi - HT.sIx xs.length 0 lo) = xs := by
        rw [hl] at z
        rw [z.1, z.2]
        simp
      have o2 := o.2
      rw [e2] at o2
      exact hq _ _ ⟨.tup xs, F, fp0, Same.refl F, .refl, W, ⟨p, vs, rfl, e1, q1⟩, by rw [fpA_0l]; exact S, o2⟩
    · have rr : Reps K F H ((xs.drop (HT.sIx xs.length 0 lo)).take (HT.sIx xs.length xs.length hi - HT.sIx xs.length 0 lo)) (cutV vs lo hi) fp0 := by
        unfold cutV
        rw [reps_len q1]
        exact reps_take _ (reps_drop _ q1 o.1) (fzs_drop _ o.1)
      obtain ⟨F', A', s, k, W', rd, p'⟩ := new_tup W ow S hn rr (fzs_take _ (fzs_drop _ o.1))
      exact hq _ _ ⟨_, F', A', s, k, W', rd, p', o.2⟩
  | str z =>
    obtain ⟨rfl, rfl⟩ := r
    exact .inr (.inr ⟨z, rfl, o.1, hq _ _ ⟨_, F, fp0, Same.refl F, .refl, W, rep_str, by rw [fpA_0l]; exact S, o.2⟩⟩)
  | _ => exact o.elim
abbrev OW := Env → (Option Int → Prop) → Prop
structure DO (Y : Cy) (e : Option Expr) (w : OW) : Prop where
  run : PO Y.X e (fun σ H Q => ∃ F R ρ B P, Sd Y.X.K F R H ρ σ B ∧ w ρ P ∧ (∀ i H', (∃ F', Same F F' ∧ Keep B H H' ∧ Wd F' R H' ∧ Sep F' R B ∧ P i) → Q i H') ∧ ExH Y F R σ)
theorem PO.imp {X : Cx} {e : Option Expr} {t t' : TO} (h : PO X e t) (k : ∀ σ H Q, t' σ H Q → t σ H Q) : PO X e t' := ⟨fun pins s σ H Q I q => h.run pins s σ H Q I (k _ _ _ q)⟩
def gi (d : D) (P : Int → Prop) : Prop := match d with
  | .int i => P i
  | _ => False
section
variable {Y : Cy} {F F1 R H H1 : Hp} {ρ : Env} {σ σ1 : St} {A B : FP} {e a b : Expr} {es : List Expr} {w wa wb : KW} {ew : DW} {el : LE} {wl : LW} {lo hi : Option Expr} {ol oh : OW} {pos p p2 apos cpos : Pos}
theorem o_none : DO Y none (fun ρ P => P none) := ⟨PO.imp po_none fun σ H Q ⟨F, R, ρ, B, P, S, hw, hq, hx⟩ => hq none H ⟨F, Same.refl F, .refl, S.w, S.p, hw⟩⟩
theorem o_some (h : DK Y e w) : DO Y (some e) (fun ρ P => w ρ fun d => gi d fun i => P (some i)) := ⟨PO.imp (po_some h.run) fun σ H Q ⟨F, R, ρ, B, P, S, hw, hq, hx⟩ => ⟨F, R, ρ, B, _, S, hw, fun v H1 ⟨d, F1, A, s, k, W, r, l, p, q⟩ => by
  cases d with
  | int i => exact ⟨i, r.1, hq _ _ ⟨F1, s, k, W, p, q⟩⟩
  | _ => exact q.elim, hx⟩⟩
theorem f_slice (h : DK Y e w) (hl : DO Y lo ol) (hh : DO Y hi oh) : DF Y (.Subscript e (.Slice lo hi none p2) pos) (fun ρ P => w ρ fun d => ol ρ fun l => oh ρ fun u => oSl d l u P) :=
  ⟨PE.imp (pe_slice slr_x h.run hl.run hh.run) fun σ H Q ⟨F, R, ρ, B, P, S, hw, hq, hx⟩ => ⟨F, R, ρ, B, _, S, hw, fun v H1 ⟨d, F1, A, s, k, W, r, l, p, q⟩ => by
    have S1 := S.keep s k W p
    refine ⟨F1, R, ρ, B, _, S1, q, fun i H2 ⟨F2, s2, k2, W2, p2, q2⟩ => ?_, hx.grow s⟩
    have S2 := S1.keep s2 k2 W2 p2
    refine ⟨F2, R, ρ, B, _, S2, q2, fun j H3 ⟨F3, s3, k3, W3, p3, q3⟩ => ?_, hx.grow (s.trans s2)⟩
    have S3 := S2.keep s3 k3 W3 p3
    have r3 : Rep Y.X.K F3 H3 d v A := rep_mono (s2.trans s3) d (fun a n => by
      have hB : B a ≠ 0 := by have := l a; omega
      rw [k3 a hB, k2 a hB]) r
    exact sl_ok W3 S3.own p3 r3 l q3 fun v4 H4 ⟨d4, F4, A4, s4, k4, W4, r4, p4, q4⟩ => hq v4 H4 ⟨d4, F4, A4, s.trans (s2.trans (s3.trans s4)), fun a n => by rw [k4 a n, k3 a n, k2 a n, k a n], W4, r4, p4, q4⟩, hx⟩⟩
/-! ### list * n, text * n -/
def oRep (d1 d2 : D) (P : D → Prop) : Prop := match d1, d2 with
  | .lst _ xs, .int k => fzs xs = true ∧ -(2 ^ 63) ≤ k ∧ k < 2 ^ 63 ∧ xs.length * k.toNat ≤ sizeLine ∧ P (.lst true (List.replicate k.toNat xs).flatten)
  | .int i, .int j => CMul i j ∧ P (.int (i * j))
  | _, _ => False
theorem reps_repl {K : PySem.W.Frag} {xs : List D} {vs : List V} (r : Reps K F H xs vs fp0) : ∀ n : Nat, Reps K F H (List.replicate n xs).flatten (List.replicate n vs).flatten fp0
  | 0 => ⟨rfl, rfl⟩
  | n + 1 => by
    have := reps_append r (reps_repl r n)
    rw [fpA_0l] at this
    simpa [List.replicate_succ] using this
theorem fzs_repl {xs : List D} (h : fzs xs = true) : ∀ n : Nat, fzs (List.replicate n xs).flatten = true
  | 0 => rfl
  | n + 1 => by
    have := fzs_repl h n
    simp [List.replicate_succ, fzs_append, h, this]
def rMulA : R2 := fun x y H Q => rRep x y H Q ∨ (rI CMul fun i j => .int (i * j)) x y H Q
theorem opr_mulA {X : Cx} : OpR X (binaryOp .Mult) rMulA := OpR.or op_rep op_mul
theorem op2_mulA {K} : Op2F K rMulA oRep := fun {F R H G A1 A2 x y d1 d2 P Q} W ow S r1 r2 l1 l2 w q => by
  cases d1 with
  | lst m xs =>
    cases d2 with
    | int k =>
      obtain ⟨h1, h2, h3, h4, h5⟩ := w
      obtain ⟨p, vs, rfl, e1, B1, q1, _⟩ := lst_at W.f r1
      obtain ⟨rfl, rfl⟩ := r2
      rw [fzs_reps xs h1 q1] at q1
      refine .inl ⟨p, k, vs, rfl, rfl, e1, h2, h3, by rw [reps_len q1]; exact h4, fun n hn => ?_⟩
      obtain ⟨F', A', s, k', W', rd, p'⟩ := new_lst W ow S hn (reps_repl q1 k.toNat) (fzs_repl h1 _)
      exact q _ _ ⟨_, F', A', s, k', W', rd, p', h5⟩
    | _ => exact w.elim
  | int i =>
    cases d2 with
    | int j =>
      obtain ⟨rfl, rfl⟩ := r1
      obtain ⟨rfl, rfl⟩ := r2
      exact .inr ⟨i, j, rfl, rfl, w.1, q _ _ ⟨.int (i * j), F, fp0, Same.refl F, .refl, W, rep_int, by rw [fpA_0l]; exact S, w.2⟩⟩
    | _ => exact w.elim
  | _ => cases d2 <;> exact w.elim
/-! ### built-ins -/
def one (ds : List D) (P : D → Prop) : Prop := match ds with
  | [d] => P d
  | _ => False
theorem one_of {ds : List D} {P : D → Prop} (h : one ds P) : ∃ d, ds = [d] ∧ P d := by
  unfold one at h; split at h
  · exact ⟨_, rfl, h⟩
  · exact h.elim
def two (ds : List D) (P : D → D → Prop) : Prop := match ds with
  | [d, e] => P d e
  | _ => False
theorem two_of {ds : List D} {P : D → D → Prop} (h : two ds P) : ∃ d e, ds = [d, e] ∧ P d e := by
  unfold two at h; split at h
  · exact ⟨_, _, rfl, h⟩
  · exact h.elim
/-! len -/
def oLen (ds : List D) (P : D → Prop) : Prop := one ds fun d => match d with
  | .lst _ xs => P (.int xs.length)
  | .tup xs => P (.int xs.length)
  | .scr xs => P (.int xs.length)
  | .str x => x.length ≤ sizeLine ∧ P (.int x.length)
  | .dic .ow .k kvs => P (.int kvs.length)
  | _ => False
theorem CallR.or {X : Cx} {f : Value} {r r' : List V → Hp → VK → Prop} (h : CallR X f r) (h' : CallR X f r') : CallR X f (fun x H Q => r x H Q ∨ r' x H Q) := by
  intro pins s σ H xs us Q I rx q
  rcases q with q | q
  · exact h pins s σ H xs us Q I rx q
  · exact h' pins s σ H xs us Q I rx q
def rLen (K : PySem.W.Frag) : List V → Hp → VK → Prop := fun xs H Q => (∃ x n, xs = [x] ∧ LenV K x H n ∧ Q (.int n) H) ∨ (∃ a kvs, xs = [V.ref a] ∧ H a = some (.dK kvs) ∧ Q (.int kvs.length) H)
theorem callr_len {X : Cx} : CallR X (.builtin "len") (rLen X.K) := CallR.or call_len call_lenD
theorem repk_len {K : PySem.W.Frag} : ∀ {ds : List (KD × D)} {vs : List (KD × V)} {A : FP}, Repk K F H ds vs A → vs.length = ds.length
  | [], _, _, ⟨e, _⟩ => by rw [e]; rfl
  | (k, x) :: xs, _, _, ⟨v, vr, B, C, e, _, r, _⟩ => by rw [e, List.length_cons, List.length_cons, repk_len r]
theorem opn_len {K} : OpNS K (rLen K) oLen := fun {F H G vs ds P Q} s b w q => by
  obtain ⟨d, rfl, w⟩ := one_of w
  obtain ⟨v, vr, rfl, ⟨A, r, l⟩, rfl⟩ := b
  cases d with
  | lst m xs =>
    obtain ⟨p, vs, rfl, e1, B1, q1, _⟩ := lst_at s r
    exact .inl ⟨_, xs.length, rfl, .inl ⟨vs, SqL.of e1, (reps_len q1).symm⟩, q _ ⟨_, fun _ _ => rep_int, w⟩⟩
  | tup xs =>
    obtain ⟨p, vs, rfl, e1, q1⟩ := r
    exact .inl ⟨_, xs.length, rfl, .inr ⟨vs, SqT.of (s _ _ e1), (reps_len q1).symm⟩, q _ ⟨_, fun _ _ => rep_int, w⟩⟩
  | scr xs =>
    obtain ⟨p, rfl, e1, z⟩ := r
    exact .inl ⟨_, xs.length, rfl, .inl ⟨_, s.seq e1, by simp⟩, q _ ⟨_, fun _ _ => rep_int, w⟩⟩
  | str x =>
    obtain ⟨rfl, rfl⟩ := r
    exact .inl ⟨_, x.length, rfl, ⟨w.1, rfl⟩, q _ ⟨_, fun _ _ => rep_int, w.2⟩⟩
  | dic m t kvs =>
    cases m <;> cases t <;> first | exact w.elim | skip
    · obtain ⟨p, o, vs, B, rfl, e1, ⟨_, l, rfl, el⟩, q1, _⟩ := r
      refine .inr ⟨p, l, rfl, e1, ?_⟩
      have : l.length = kvs.length := by rw [← repk_len q1, el, List.length_map]
      rw [this]
      exact q _ ⟨_, fun _ _ => rep_int, w⟩
  | _ => exact w.elim
/-! abs, int, min, max of two -/
def oAbs (ds : List D) (P : D → Prop) : Prop := one ds fun d => gi d fun i => P (.int (if i < 0 then -i else i))
theorem gi_of {d : D} {P : Int → Prop} (h : gi d P) : ∃ i, d = .int i ∧ P i := by
  unfold gi at h; split at h
  · exact ⟨_, rfl, h⟩
  · exact h.elim
theorem opn_abs {K} : OpNS K (fun xs H Q => ∃ i, xs = [.int i] ∧ Q (.int (if i < 0 then -i else i)) H) oAbs := fun {F H G vs ds P Q} s b w q => by
  obtain ⟨d, rfl, w⟩ := one_of w
  obtain ⟨i, rfl, w⟩ := gi_of w
  obtain ⟨v, vr, rfl, ⟨A, ⟨rfl, _⟩, l⟩, rfl⟩ := b
  exact ⟨i, rfl, q _ ⟨_, fun _ _ => rep_int, w⟩⟩
def oInt1 (ds : List D) (P : D → Prop) : Prop := one ds fun d => match d with
  | .int i => P (.int i)
  | .bl k => P (.int (if k = true then 1 else 0))
  | _ => False
theorem opn_int1 {K} : OpNS K (fun xs H Q => (∃ i, xs = [.int i] ∧ Q (.int i) H) ∨ ∃ k, xs = [.bl k] ∧ Q (.int (if k then 1 else 0)) H) oInt1 := fun {F H G vs ds P Q} s b w q => by
  obtain ⟨d, rfl, w⟩ := one_of w
  obtain ⟨v, vr, rfl, ⟨A, r, l⟩, rfl⟩ := b
  cases d with
  | int i => obtain ⟨rfl, _⟩ := r; exact .inl ⟨i, rfl, q _ ⟨_, fun _ _ => rep_int, w⟩⟩
  | bl i => obtain ⟨rfl, _⟩ := r; exact .inr ⟨i, rfl, q _ ⟨_, fun _ _ => rep_int, w⟩⟩
  | _ => exact w.elim
def oMin2 (ds : List D) (P : D → Prop) : Prop := two ds fun d e => gi d fun i => gi e fun j => P (.int (if j < i then j else i))
def oMax2 (ds : List D) (P : D → Prop) : Prop := two ds fun d e => gi d fun i => gi e fun j => P (.int (if j > i then j else i))
theorem opn_min2 {K} : OpNS K (fun xs H Q => ∃ i j, xs = [.int i, .int j] ∧ Q (.int (if j < i then j else i)) H) oMin2 := fun {F H G vs ds P Q} s b w q => by
  obtain ⟨d, e, rfl, w⟩ := two_of w
  obtain ⟨i, rfl, w⟩ := gi_of w
  obtain ⟨j, rfl, w⟩ := gi_of w
  obtain ⟨v, vr, rfl, ⟨A, ⟨rfl, _⟩, l⟩, ⟨v2, vr2, rfl, ⟨A2, ⟨rfl, _⟩, l2⟩, rfl⟩⟩ := b
  exact ⟨i, j, rfl, q _ ⟨_, fun _ _ => rep_int, w⟩⟩
theorem opn_max2 {K} : OpNS K (fun xs H Q => ∃ i j, xs = [.int i, .int j] ∧ Q (.int (if j > i then j else i)) H) oMax2 := fun {F H G vs ds P Q} s b w q => by
  obtain ⟨d, e, rfl, w⟩ := two_of w
  obtain ⟨i, rfl, w⟩ := gi_of w
  obtain ⟨j, rfl, w⟩ := gi_of w
  obtain ⟨v, vr, rfl, ⟨A, ⟨rfl, _⟩, l⟩, ⟨v2, vr2, rfl, ⟨A2, ⟨rfl, _⟩, l2⟩, rfl⟩⟩ := b
  exact ⟨i, j, rfl, q _ ⟨_, fun _ _ => rep_int, w⟩⟩
/-! sum, min, max, sorted of ints -/
def ofInts (d : D) (P : List Int → Prop) : Prop := match d with
  | .lst _ xs => mb (asInts xs) P
  | .scr xs => P xs
  | _ => False
theorem ofInts_of {K : PySem.W.Frag} {d : D} {v : V} {P : List Int → Prop} (s : Same F H) (r : Rep K F H d v A) (h : ofInts d P) : ∃ p ns, v = .ref p ∧ SqL K H p (ns.map V.int) ∧ P ns := by
  cases d with
  | lst m xs =>
    obtain ⟨ns, e, h⟩ := mb_some h
    obtain ⟨p, vs, rfl, e1, B1, q1, _⟩ := lst_at s r
    rw [asInts_eq e] at q1
    rw [(reps_ints q1).1] at e1
    exact ⟨p, ns, rfl, SqL.of e1, h⟩
  | scr xs =>
    obtain ⟨p, rfl, e1, z⟩ := r
    exact ⟨p, xs, rfl, s.seq e1, h⟩
  | _ => exact h.elim
def oSum (ds : List D) (P : D → Prop) : Prop := one ds fun d => ofInts d fun ns => P (.int ns.sum)
theorem opn_sum {K} : OpNS K (rSum K) oSum := fun {F H G vs ds P Q} s b w q => by
  obtain ⟨d, rfl, w⟩ := one_of w
  obtain ⟨v, vr, rfl, ⟨A, r, l⟩, rfl⟩ := b
  obtain ⟨p, ns, rfl, h1, h2⟩ := ofInts_of s r w
  exact ⟨p, ns, rfl, h1, q _ ⟨_, fun _ _ => rep_int, h2⟩⟩
def oMinL (ds : List D) (P : D → Prop) : Prop := one ds fun d => ofInts d fun ns => ns ≠ [] ∧ ∀ m, m ∈ ns → (∀ y, y ∈ ns → m ≤ y) → P (.int m)
theorem opn_minL {K} : OpNS K (rMin K) oMinL := fun {F H G vs ds P Q} s b w q => by
  obtain ⟨d, rfl, w⟩ := one_of w
  obtain ⟨v, vr, rfl, ⟨A, r, l⟩, rfl⟩ := b
  obtain ⟨p, ns, rfl, h1, h2, h3⟩ := ofInts_of s r w
  exact ⟨p, ns, rfl, h1, List.length_pos_iff.mpr h2, fun m hm hy => q _ ⟨_, fun _ _ => rep_int, h3 m hm hy⟩⟩
def oMaxL (ds : List D) (P : D → Prop) : Prop := one ds fun d => ofInts d fun ns => ns ≠ [] ∧ ∀ m, m ∈ ns → (∀ y, y ∈ ns → y ≤ m) → P (.int m)
theorem opn_maxL {K} : OpNS K (rMax K) oMaxL := fun {F H G vs ds P Q} s b w q => by
  obtain ⟨d, rfl, w⟩ := one_of w
  obtain ⟨v, vr, rfl, ⟨A, r, l⟩, rfl⟩ := b
  obtain ⟨p, ns, rfl, h1, h2, h3⟩ := ofInts_of s r w
  exact ⟨p, ns, rfl, h1, List.length_pos_iff.mpr h2, fun m hm hy => q _ ⟨_, fun _ _ => rep_int, h3 m hm hy⟩⟩
/-- the ints in order -/
def sortI (ns : List Int) : List Int := ns.mergeSort (fun a b => decide (a ≤ b))
theorem sortI_perm (ns : List Int) : (sortI ns).Perm ns := List.mergeSort_perm ns _
theorem sortI_up (ns : List Int) : (sortI ns).Pairwise (· ≤ ·) := by
  have := List.pairwise_mergeSort (le := fun a b : Int => decide (a ≤ b)) (fun a b c h1 h2 => by simp at *; omega) (fun a b => by simp; omega) ns
  exact this.imp fun h => by simpa using h
theorem up_unique {xs ys : List Int} (p : xs.Perm ys) (h1 : xs.Pairwise (· ≤ ·)) (h2 : ys.Pairwise (· ≤ ·)) : xs = ys := p.eq_of_pairwise (fun a b _ _ h1 h2 => Int.le_antisymm h1 h2) h1 h2
def oSorted (ds : List D) (P : D → Prop) : Prop := one ds fun d => ofInts d fun ns => P (.lst true ((sortI ns).map D.int))
theorem opn_sorted {K} : OpNF K (rSortedI K) oSorted := fun {F R H G vs ds P Q} W ow S b w q => by
  obtain ⟨d, rfl, w⟩ := one_of w
  obtain ⟨v, vr, rfl, ⟨A, r, l⟩, rfl⟩ := b
  obtain ⟨p, ns, rfl, h1, h2⟩ := ofInts_of W.f r w
  refine ⟨p, ns, rfl, h1, fun ns' n hp hu hn => ?_⟩
  have e : ns' = sortI ns := up_unique (hp.trans (sortI_perm ns).symm) hu (sortI_up ns)
  subst e
  obtain ⟨F', A', s, k', W', rd, p'⟩ := new_lst W ow S hn (reps_of_ints (K := K) (F := F) (H := H) _) (fzs_ints _)
  exact q _ _ ⟨_, F', A', s, k', W', rd, p', h2⟩
/-! list(x), tuple(x) -/
def seqD (d : D) (P : List D → Prop) : Prop := match d with
  | .lst _ xs => fzs xs = true ∧ P xs
  | .tup xs => fzs xs = true ∧ P xs
  | .scr xs => P (xs.map D.int)
  | _ => False
theorem seqD_of {K : PySem.W.Frag} {d : D} {v : V} {P : List D → Prop} (s : Same F H) (r : Rep K F H d v A) (h : seqD d P) : ∃ p vs xs, v = .ref p ∧ (SqL K H p vs ∨ SqT K H p vs) ∧ Reps K F H xs vs fp0 ∧ fzs xs = true ∧ P xs := by
  cases d with
  | lst m xs =>
    obtain ⟨p, vs, rfl, e1, B1, q1, _⟩ := lst_at s r
    rw [fzs_reps xs h.1 q1] at q1
    exact ⟨p, vs, xs, rfl, .inl (SqL.of e1), q1, h.1, h.2⟩
  | tup xs =>
    obtain ⟨p, vs, rfl, e1, q1⟩ := r
    rw [fzs_reps xs h.1 q1] at q1
    exact ⟨p, vs, xs, rfl, .inr (SqT.of (s _ _ e1)), q1, h.1, h.2⟩
  | scr xs =>
    obtain ⟨p, rfl, e1, z⟩ := r
    exact ⟨p, _, _, rfl, .inl (s.seq e1), reps_of_ints xs, fzs_ints xs, h⟩
  | _ => exact h.elim
def oList (ds : List D) (P : D → Prop) : Prop := one ds fun d => seqD d fun xs => P (.lst true xs)
theorem opn_list {K} : OpNF K (fun xs H Q => ∃ p ys, xs = [.ref p] ∧ (SqL K H p ys ∨ SqT K H p ys) ∧ ∀ l, H l = none → Q (.ref l) (upd H l (.lst ys))) oList := fun {F R H G vs ds P Q} W ow S b w q => by
  obtain ⟨d, rfl, w⟩ := one_of w
  obtain ⟨v, vr, rfl, ⟨A, r, l⟩, rfl⟩ := b
  obtain ⟨p, vs, xs, rfl, h1, h2, h3, h4⟩ := seqD_of W.f r w
  refine ⟨p, vs, rfl, h1, fun n hn => ?_⟩
  obtain ⟨F', A', s, k', W', rd, p'⟩ := new_lst W ow S hn h2 h3
  exact q _ _ ⟨_, F', A', s, k', W', rd, p', h4⟩
def oTuple (ds : List D) (P : D → Prop) : Prop := one ds fun d => match d with
  | .lst _ xs => fzs xs = true ∧ P (.tup xs)
  | .tup xs => fzs xs = true ∧ P (.tup xs)
  | _ => False
theorem opn_tuple {K} : OpNF K (fun xs H Q => ∃ p ys, xs = [.ref p] ∧ ((SqL K H p ys ∧ ∀ l, H l = none → Q (.ref l) (upd H l (.tup ys))) ∨ (SqT K H p ys ∧ Q (.ref p) H))) oTuple := fun {F R H G vs ds P Q} W ow S b w q => by
  obtain ⟨d, rfl, w⟩ := one_of w
  obtain ⟨v, vr, rfl, ⟨A, r, l⟩, rfl⟩ := b
  cases d with
  | lst m xs =>
    obtain ⟨p, vs, rfl, e1, B1, q1, _⟩ := lst_at W.f r
    rw [fzs_reps xs w.1 q1] at q1
    refine ⟨p, vs, rfl, .inl ⟨SqL.of e1, fun n hn => ?_⟩⟩
    obtain ⟨F', A', s, k', W', rd, p'⟩ := new_tup W ow S hn q1 w.1
    exact q _ _ ⟨_, F', A', s, k', W', rd, p', w.2⟩
  | tup xs =>
    have r2 := r
    obtain ⟨p, vs, rfl, e1, q1⟩ := r
    have z := fzs_reps xs w.1 q1
    subst z
    exact ⟨p, vs, rfl, .inr ⟨SqT.of (W.f _ _ e1), q _ _ ⟨.tup xs, F, fp0, Same.refl F, .refl, W, r2, by rw [fpA_0l]; exact S, w.2⟩⟩⟩
  | _ => exact w.elim
/-! list(range(..)) -/
theorem rgV_rng (a b : Int) : rgV a b = (rngD a (b - a).toNat).map (fun d => match d with | .int i => V.int i | _ => .non) := by
  unfold rgV
  generalize (b - a).toNat = n
  apply List.ext_getElem?
  intro k
  rw [List.getElem?_map, List.getElem?_map]
  by_cases h : k < n
  · have h2 : k < (rngD a n).length := by rw [rngD_len]; exact h
    have := rngD_get (List.getElem?_eq_getElem h2)
    rw [List.getElem?_range h, List.getElem?_eq_getElem h2, this.2]; rfl
  · rw [List.getElem?_eq_none (by simpa using h), List.getElem?_eq_none (by rw [rngD_len]; omega)]; rfl
theorem reps_rng {K : PySem.W.Frag} : ∀ (n : Nat) (a : Int), Reps K F H (rngD a n) ((rngD a n).map (fun d => match d with | .int i => V.int i | _ => .non)) fp0
  | 0, _ => ⟨rfl, rfl⟩
  | n + 1, a => ⟨_, _, fp0, fp0, rfl, rep_int, reps_rng n (a + 1), fpA_0l.symm⟩
theorem fzs_rng (n : Nat) (a : Int) : fzs (rngD a n) = true := by
  induction n generalizing a with
  | zero => rfl
  | succ n ih => simp [rngD, fzs, fz, ih]
theorem f_listRg1 {q : Pos} (h : DK Y a w) (hc : Y.X.calm = true) (ml : Y.X.mg "list" = none) (mr : Y.X.mg "range" = none) (gl : Gl Y.X "list" := by rfl) (gr : Gl Y.X "range" := by rfl) (na : starEach [a] Y.X.env = (false, eval a Y.X.env) :: starEach [] Y.X.env := by rfl)
    (nb : starEach [.Call (.Name "range" p2) [a] [] q] Y.X.env = (false, eval (.Call (.Name "range" p2) [a] [] q) Y.X.env) :: starEach [] Y.X.env := by rfl) :
    DF Y (.Call (.Name "list" p) [.Call (.Name "range" p2) [a] [] q] [] pos) (fun ρ P => w ρ fun d => gi d fun n => n ≤ 16777216 ∧ -(2 ^ 62) ≤ n ∧ P (.lst true (rngD 0 n.toNat))) :=
  ⟨PE.imp (pe_listRg hc gl ml (prg_1 gr mr h.run na) nb) fun σ H Q ⟨F, R, ρ, B, P, S, hw, hq, hx⟩ => ⟨F, R, ρ, B, _, S, hw, fun v H1 ⟨d, F1, A, s, k, W, r, l, p, q⟩ => by
    obtain ⟨n, rfl, q1, q2, q3⟩ := gi_of q
    refine ⟨n, r.1, ⟨by decide, by decide, q2, by omega, by omega⟩, fun x hx => ?_⟩
    rw [rgV_rng]
    obtain ⟨F', A', s', k', W', rd, p'⟩ := new_lst W (S.keep s k W p).own p hx (reps_rng (K := Y.X.K) (F := F1) (H := H1) (n - 0).toNat 0) (fzs_rng _ _)
    refine hq _ _ ⟨_, F', A', s.trans s', fun a nz => (k' a nz).trans (k a nz), W', rd, p', ?_⟩
    rw [Int.sub_zero]; exact q3, hx⟩⟩
/-! ''.join(list of texts) -/
def oJoin (a : Str) (d : D) (P : D → Prop) : Prop := match d with
  | .lst _ xs => mb (asStrs xs) fun ys => (ys.map (·.length)).sum + ys.length * a.length ≤ 16777216 ∧ P (.str (Txt.join a ys))
  | _ => False
theorem e_join {z : Str} {j : Nat} {q : Pos} (he : DE Y e ew) (hs : starEach [e] Y.X.env = [(false, eval e Y.X.env)] := by rfl) (hbase : attributeBase (.Constant (.str z) j q) "join" Y.X.env (eval (.Constant (.str z) j q) Y.X.env) = eval (.Constant (.str z) j q) Y.X.env := by rfl) (hline : (apos.endLine == pos.line) = true := by rfl) :
    DE Y (.Call (.Attribute (.Constant (.str z) j q) "join" apos) [e] [] pos) (fun ρ Q => ew ρ fun d ρ1 => oJoin z d fun d' => Q d' ρ1) :=
  ⟨PE.imp (pe_join pe_str he.run hs hbase hline) fun σ H Q ⟨F, R, ρ, B, P, S, hw, hq, hx⟩ => ⟨⟨z, rfl⟩, F, R, ρ, B, _, S, hw, fun v H1 ⟨d, ρ1, F1, A, B1, s, W, r, sl, p, q⟩ => by
    cases d with
    | lst m xs =>
      obtain ⟨ys, e, h1, h2⟩ := mb_some q
      obtain ⟨p0, vs, rfl, e1, B2, q1, _⟩ := lst_at W.f r
      rw [asStrs_eq e] at q1
      rw [(reps_strs q1).1] at e1
      exact ⟨z, p0, ys, rfl, rfl, .inl (SqL.of e1), h1, hq _ _ ⟨_, ρ1, F1, fp0, B1, s, W, rep_str, sl, by rw [fpA_0l]; exact p.mono fun a => by unfold fpA; omega, h2⟩⟩
    | _ => exact q.elim, hx⟩⟩
/-! isinstance -/
def tyN : D → Option String
  | .non => some "NoneType"
  | .bl _ => some "bool"
  | .int _ => some "int"
  | .str _ => some "str"
  | .tup _ => some "tuple"
  | .lst _ _ => some "list"
  | .dic .ow _ _ => some "dict"
  | _ => none
def oIsi (T : String) (d : D) (P : D → Prop) : Prop := mb (tyN d) fun t => mb (kitB t T) fun b => P (.bl b)
theorem ty_of {K : PySem.W.Frag} {d : D} {v : V} {t : String} (s : Same F H) (r : Rep K F H d v A) (h : tyN d = some t) : TyX K H v (.type t) := by
  cases d with
  | non => cases h; rw [r.1]; exact .base .non
  | bl b => cases h; rw [r.1]; exact .base (.bl b)
  | int b => cases h; rw [r.1]; exact .base (.int b)
  | str b => cases h; rw [r.1]; exact .base (.str b)
  | tup xs => cases h; obtain ⟨p, vs, rfl, e1, q1⟩ := r; exact .base (.tup (s _ _ e1))
  | lst m xs => cases h; obtain ⟨p, vs, rfl, e1, _⟩ := lst_at s r; exact .base (.lst e1)
  | dic m t kvs =>
    cases m with
    | fr => cases h
    | ow =>
      cases h
      obtain ⟨p, o, vs, B, rfl, e1, g, q1, _⟩ := r
      cases t with
      | k => obtain ⟨_, l, rfl, _⟩ := g; exact .base (.dK e1)
      | t => obtain ⟨_, l, rfl, _⟩ := g; exact .base (.dT e1)
    | lk => cases h
  | _ => cases h
theorem k_isi {x : Str} {T : String} (h : DK Y e w) (mi : Y.X.mg "isinstance" = none) (mx : Y.X.mg x = none) (hv : bootBuiltins x = some (.type T)) (hn : x ≠ "__name__" := by decide) (gi : Gl Y.X "isinstance" := by rfl) (gx : Gl Y.X x := by rfl) (hdb : (x == ("__debug__" : Str)) = false := by decide)
    (he : starEach [e, .Name x p2] Y.X.env = (false, eval e Y.X.env) :: starEach [.Name x p2] Y.X.env := by rfl) (he2 : starEach [.Name x p2] Y.X.env = (false, eval (.Name x p2) Y.X.env) :: starEach [] Y.X.env := by rfl)
    (hpl : (backTo pos (starEach [.Name x p2] Y.X.env)).any (·.1) = false := by rfl) : DK Y (.Call (.Name "isinstance" p) [e, .Name x p2] [] pos) (fun ρ P => w ρ fun d => oIsi T d P) :=
  ⟨PE.imp (pe_callB call_isi gi mi (by decide +kernel) (pa_cons h.run (pa_cons (pe_bltn (v := .ty T) gx mx hv rfl hn hdb) pa_nil he2) he) (by decide) (by decide) he hpl) fun σ H Q ⟨F, R, ρ, B, P, S, hw, hq, hx⟩ => ⟨F, R, ρ, B, _, S, hw, fun v H1 ⟨d, F1, A, s, k, W, r, l, p, q⟩ => by
    obtain ⟨t, e1, q⟩ := mb_some q
    obtain ⟨b, e2, q⟩ := mb_some q
    exact ⟨v, .ty T, _, _, b, rfl, .ty T, ty_of W.f r e1, kit_ty e2, hq _ _ ⟨.bl b, F1, fp0, s, k, W, rep_bl, fp0_le, p, q⟩⟩, hx⟩⟩
/-! in, not in -/
def oIn (neg : Bool) (d e : D) (P : D → Prop) : Prop := match e with
  | .lst _ xs => pyOk 64 d = true ∧ pyOk 64 (.lst false xs) = true ∧ P (.bl (if neg = true then !(xs.any fun z => deq z d) else xs.any fun z => deq z d))
  | .tup xs => pyOk 64 d = true ∧ pyOk 64 (.tup xs) = true ∧ P (.bl (if neg = true then !(xs.any fun z => deq z d) else xs.any fun z => deq z d))
  | .str y => match d with
    | .str x => P (.bl (if neg = true then !(!(Builtin.Str.occurrences y x 0 y.length 1).isEmpty) else (!(Builtin.Str.occurrences y x 0 y.length 1).isEmpty)))
    | _ => False
  | _ => False
def rInT (K : PySem.W.Frag) (neg : Bool) : R2 := fun x y H Q => ∃ d ds, Dp K H x d ∧ Dp K H y (.tuple ds) ∧ SeqAt.shaped d = true ∧ SeqAt.shaped (.tuple ds) = true ∧ Q (.bl (if neg = true then !ds.any (fun z => PyData.eqv z d) else ds.any fun z => PyData.eqv z d)) H
theorem op_inT {X : Cx} (hu : X.A.units + 65 < cLine) : OpR X (compareOp .In) (rInT X.K false) := by
  intro pins s σ H x y v u Q I rx ry h
  obtain ⟨d, ds, hd, he, sd, se, q⟩ := h
  obtain ⟨as, r1⟩ := Dp.reads I d x v hd rx
  obtain ⟨bs, r2⟩ := Dp.reads I (.tuple ds) y u he ry
  exact SeqAt.in_tuple_reads r2 r1 (SeqAt.canLay_of_shaped se) (SeqAt.canLay_of_shaped sd) (room_in_shaped sd hu) ⟨.bl _, H, I, rfl, q⟩
theorem op_notInT {X : Cx} (hu : X.A.units + 65 < cLine) : OpR X (compareOp .NotIn) (rInT X.K true) := by
  intro pins s σ H x y v u Q I rx ry h
  obtain ⟨d, ds, hd, he, sd, se, q⟩ := h
  obtain ⟨as, r1⟩ := Dp.reads I d x v hd rx
  obtain ⟨bs, r2⟩ := Dp.reads I (.tuple ds) y u he ry
  exact SeqAt.notIn_tuple_reads r2 r1 (SeqAt.canLay_of_shaped se) (SeqAt.canLay_of_shaped sd) (room_in_shaped sd hu) ⟨.bl _, H, I, rfl, q⟩
def rInX (K : PySem.W.Frag) : R2 := fun x y H Q => rInD K x y H Q ∨ rInT K false x y H Q ∨ (∃ i j, x = .str i ∧ y = .str j ∧ Q (.bl (!(Builtin.Str.occurrences j i 0 j.length 1).isEmpty)) H)
def rNotInX (K : PySem.W.Frag) : R2 := fun x y H Q => rNotInD K x y H Q ∨ rInT K true x y H Q ∨ (∃ i j, x = .str i ∧ y = .str j ∧ Q (.bl (!(!(Builtin.Str.occurrences j i 0 j.length 1).isEmpty))) H)
theorem opr_in {X : Cx} (hu : X.A.units + 65 < cLine) : OpR X (compareOp .In) (rInX X.K) := OpR.or (op_inD hu) (OpR.or (op_inT hu) op_in_str)
theorem opr_notIn {X : Cx} (hu : X.A.units + 65 < cLine) : OpR X (compareOp .NotIn) (rNotInX X.K) := OpR.or (op_notInD hu) (OpR.or (op_notInT hu) op_notin_str)
theorem toPys_map : ∀ xs : List D, toPys xs = xs.map toPy
  | [] => rfl
  | x :: xs => by rw [toPys, toPys_map xs]; rfl
theorem any_py {xs : List D} {d : D} : (toPys xs).any (fun z => PyData.eqv z (toPy d)) = xs.any fun z => deq z d := by
  rw [toPys_map, List.any_map]; rfl
theorem pyOk_lst {n : Nat} {m m' : Bool} {xs : List D} (h : pyOk n (.lst m xs) = true) : pyOk n (.lst m' xs) = true := by
  cases n <;> simpa [pyOk] using h
theorem op2_in {K} : Op2S K (rInX K) (oIn false) := fun {F H A1 A2 x y d1 d2 P Q} s r1 r2 w q => by
  cases d2 with
  | lst m xs =>
    obtain ⟨w1, w2, w3⟩ := w
    have h2 := rep_dp s 64 (.lst m xs) (pyOk_lst w2) r2
    refine .inl ⟨_, toPys xs, rep_dp s 64 d1 w1 r1, h2, pyOk_shaped w1, pyOk_shaped (d := .lst false xs) w2, ?_⟩
    rw [any_py]
    exact q _ ⟨_, fun _ _ => rep_bl, w3⟩
  | tup xs =>
    obtain ⟨w1, w2, w3⟩ := w
    have h2 := rep_dp s 64 (.tup xs) w2 r2
    refine .inr (.inl ⟨_, toPys xs, rep_dp s 64 d1 w1 r1, h2, pyOk_shaped w1, pyOk_shaped (d := .tup xs) w2, ?_⟩)
    rw [any_py]
    exact q _ ⟨_, fun _ _ => rep_bl, w3⟩
  | str y =>
    cases d1 with
    | str x =>
      obtain ⟨rfl, _⟩ := r1
      obtain ⟨rfl, _⟩ := r2
      exact .inr (.inr ⟨x, y, rfl, rfl, q _ ⟨_, fun _ _ => rep_bl, w⟩⟩)
    | _ => exact w.elim
  | _ => exact w.elim
theorem op2_notIn {K} : Op2S K (rNotInX K) (oIn true) := fun {F H A1 A2 x y d1 d2 P Q} s r1 r2 w q => by
  cases d2 with
  | lst m xs =>
    obtain ⟨w1, w2, w3⟩ := w
    have h2 := rep_dp s 64 (.lst m xs) (pyOk_lst w2) r2
    refine .inl ⟨_, toPys xs, rep_dp s 64 d1 w1 r1, h2, pyOk_shaped w1, pyOk_shaped (d := .lst false xs) w2, ?_⟩
    rw [any_py]
    exact q _ ⟨_, fun _ _ => rep_bl, w3⟩
  | tup xs =>
    obtain ⟨w1, w2, w3⟩ := w
    have h2 := rep_dp s 64 (.tup xs) w2 r2
    refine .inr (.inl ⟨_, toPys xs, rep_dp s 64 d1 w1 r1, h2, pyOk_shaped w1, pyOk_shaped (d := .tup xs) w2, ?_⟩)
    rw [any_py]
    exact q _ ⟨_, fun _ _ => rep_bl, w3⟩
  | str y =>
    cases d1 with
    | str x =>
      obtain ⟨rfl, _⟩ := r1
      obtain ⟨rfl, _⟩ := r2
      exact .inr (.inr ⟨x, y, rfl, rfl, q _ ⟨_, fun _ _ => rep_bl, w⟩⟩)
    | _ => exact w.elim
  | _ => exact w.elim
end
end L3
namespace L3
open PySem PySem.Spec L2
open PyProof.Rows hiding St
/-! ### keys -/
def flatK : D → Option Key
  | .int i => some (.inl i)
  | .str x => some (.inr x)
  | _ => none
def flatKs : List D → Option (List Key)
  | [] => some []
  | d :: r => match flatK d, flatKs r with
    | some k, some ks => some (k :: ks)
    | _, _ => none
/-- a key of a dict of that kind -/
def keyD (t : Kd) (d : D) : Option KD := match t with
  | .k => (flatK d).map keyKD
  | .t => match d with
    | .tup xs => (flatKs xs).map fun ks => .tup (ks.map keyKD)
    | _ => none
theorem keyKD_inj {a b : Key} (h : keyKD a = keyKD b) : a = b := by
  cases a <;> cases b <;> simp [keyKD] at h <;> rw [h]
theorem keysKD_inj : ∀ {a b : List Key}, a.map keyKD = b.map keyKD → a = b
  | [], [], _ => rfl
  | [], _ :: _, h => by simp at h
  | _ :: _, [], h => by simp at h
  | x :: xs, y :: ys, h => by
    simp only [List.map_cons, List.cons.injEq] at h
    rw [keyKD_inj h.1, keysKD_inj h.2]
theorem look_val {κ : Type} [DecidableEq κ] {f : κ → KD} (hf : ∀ a b, f a = f b → a = b) (k : κ) : ∀ l : List (κ × V), look (l.map fun p => (f p.1, p.2)) (f k) = valV l k
  | [] => rfl
  | p :: l => by
    by_cases h : p.1 = k
    · rw [valV_pos h]; simp [look, h]
    · rw [valV_neg h, ← look_val hf k l]
      have : ¬ f p.1 = f k := fun e => h (hf _ _ e)
      simp [look, this]
theorem kput_map {κ : Type} [DecidableEq κ] {f : κ → KD} (hf : ∀ a b, f a = f b → a = b) (k : κ) (v : V) : ∀ l : List (κ × V), (l.map fun p => f p.1).Nodup → kput (l.map fun p => (f p.1, p.2)) (f k) v = (putK l k v).map fun p => (f p.1, p.2)
  | [], _ => rfl
  | p :: l, hn => by
    simp only [List.map_cons, List.nodup_cons, List.mem_map, not_exists, not_and] at hn
    by_cases h : p.1 = k
    · have hno : ∀ q ∈ l, ¬ q.1 = k := fun q hq e => hn.1 q hq (by rw [e, h])
      have h1 : ((p :: l).any fun kv => decide (kv.1 = k)) = true := by simp [h]
      unfold putK
      rw [if_pos h1]
      simp only [List.map_cons, kput, h, if_true]
      congr 1
      rw [List.map_map]
      apply List.map_congr_left
      intro q hq
      simp [hno q hq]
    · have hk : ¬ f p.1 = f k := fun e => h (hf _ _ e)
      simp only [List.map_cons, kput, if_neg hk]
      rw [kput_map hf k v l hn.2]
      unfold putK
      by_cases ha : (l.any fun kv => decide (kv.1 = k)) = true
      · have ha' : ((p :: l).any fun kv => decide (kv.1 = k)) = true := by rw [List.any_cons, ha]; simp
        rw [if_pos ha, if_pos ha']
        simp [h]
      · have ha' : ¬ ((p :: l).any fun kv => decide (kv.1 = k)) = true := by rw [List.any_cons]; simp [h]; simpa using ha
        rw [if_neg ha, if_neg ha']
        simp
theorem kput_keys {α : Type} (k : KD) (v : α) : ∀ l : List (KD × α), (kput l k v).map (·.1) = if k ∈ l.map (·.1) then l.map (·.1) else l.map (·.1) ++ [k]
  | [] => by simp [kput]
  | (k', x) :: l => by
    by_cases h : k' = k
    · subst h; simp [kput]
    · simp only [kput, if_neg h, List.map_cons, kput_keys k v l, List.mem_cons, Ne.symm h, false_or]
      split <;> simp
theorem kput_nodup {α : Type} {k : KD} {v : α} {l : List (KD × α)} (h : (l.map (·.1)).Nodup) : ((kput l k v).map (·.1)).Nodup := by
  rw [kput_keys]
  split
  · exact h
  · rename_i hk
    rw [List.nodup_append]
    exact ⟨h, by simp, fun a ha b hb => by simp at hb; subst hb; rintro rfl; exact hk ha⟩
section
variable {K : PySem.W.Frag} {F H : Hp}
theorem flatK_rep {d : D} {k : Key} {v : V} {A : FP} (h : flatK d = some k) (r : Rep K F H d v A) : v = kV k := by
  cases d <;> simp [flatK] at h
  · subst h; exact r.1
  · subst h; exact r.1
theorem flatKs_rep : ∀ {ds : List D} {ks : List Key} {vs : List V} {A : FP}, flatKs ds = some ks → Reps K F H ds vs A → vs = ks.map kV
  | [], ks, _, _, h, r => by simp [flatKs] at h; subst h; exact r.1
  | d :: ds, ks, _, _, h, ⟨v, vr, B, C, e, r, q, z⟩ => by
    unfold flatKs at h
    split at h
    · rename_i k ks' h1 h2
      cases h
      rw [e, flatK_rep h1 r, flatKs_rep h2 q]; rfl
    · cases h
/-- what a dict that stands at p tells of a key -/
theorem dget_ok {t : Kd} {p : Addr} {o : HO} {vs : List (KD × V)} {d : D} {k : KD} {y : V} {A : FP} (s : Same F H) (hp : Rd H p o) (g : DicO t o vs) (hk : keyD t d = some k) (r : Rep K F H d y A) : DGet H p y (look vs k) := by
  cases t with
  | k =>
    obtain ⟨_, l, rfl, rfl⟩ := g
    simp only [keyD, Option.map_eq_some_iff] at hk
    obtain ⟨k0, h1, rfl⟩ := hk
    rw [flatK_rep h1 r, look_val (fun a b e => keyKD_inj e) k0 l]
    exact .inl ⟨l, k0, hp, rfl, rfl⟩
  | t =>
    obtain ⟨_, l, rfl, rfl⟩ := g
    cases d with
    | tup xs =>
      simp only [keyD, Option.map_eq_some_iff] at hk
      obtain ⟨ks, h1, rfl⟩ := hk
      obtain ⟨b, us, rfl, e1, q1⟩ := r
      rw [flatKs_rep h1 q1] at e1
      rw [look_val (f := fun k : List Key => KD.tup (k.map keyKD)) (fun a b e => keysKD_inj (by simpa using e)) ks l]
      exact .inr ⟨l, ks, b, hp, rfl, s _ _ e1, rfl⟩
    | _ => simp [keyD] at hk
theorem dput_ok {t : Kd} {p : Addr} {o : HO} {vs : List (KD × V)} {d : D} {k : KD} {y v : V} {A : FP} (s : Same F H) (hp : H p = some o) (g : DicO t o vs) (hk : keyD t d = some k) (r : Rep K F H d y A) (hl : vs.length < sizeLine) :
    ∃ o', DPut H p y v (upd H p o') ∧ DicO t o' (kput vs k v) := by
  cases t with
  | k =>
    obtain ⟨hn, l, rfl, rfl⟩ := g
    simp only [keyD, Option.map_eq_some_iff] at hk
    obtain ⟨k0, h1, rfl⟩ := hk
    rw [flatK_rep h1 r]
    refine ⟨_, .inl ⟨l, k0, hp, rfl, by simpa using hl, rfl⟩, kput_nodup hn, _, rfl, ?_⟩
    exact kput_map (fun a b e => keyKD_inj e) k0 v l (by rw [List.map_map] at hn; exact hn)
  | t =>
    obtain ⟨hn, l, rfl, rfl⟩ := g
    cases d with
    | tup xs =>
      simp only [keyD, Option.map_eq_some_iff] at hk
      obtain ⟨ks, h1, rfl⟩ := hk
      obtain ⟨b, us, rfl, e1, q1⟩ := r
      rw [flatKs_rep h1 q1] at e1
      refine ⟨_, .inr ⟨l, ks, b, hp, rfl, s _ _ e1, by simpa using hl, rfl⟩, kput_nodup hn, _, rfl, ?_⟩
      exact kput_map (f := fun k : List Key => KD.tup (k.map keyKD)) (fun a b e => keysKD_inj (by simpa using e)) ks v l (by rw [List.map_map] at hn; exact hn)
    | _ => simp [keyD] at hk
/-- what a dict holds -/
theorem repk_look {ds : List (KD × D)} {vs : List (KD × V)} {A : FP} {k : KD} (r : Repk K F H ds vs A) : (∃ d v B, look ds k = some d ∧ look vs k = some v ∧ Rep K F H d v B ∧ ∀ a, B a ≤ A a) ∨ (look ds k = none ∧ look vs k = none) := by
  induction ds generalizing vs A with
  | nil => obtain ⟨e, _⟩ := r; subst e; exact .inr ⟨rfl, rfl⟩
  | cons p ds ih =>
    obtain ⟨k', x⟩ := p
    obtain ⟨v, vr, B, C, e, r, q, z⟩ := r
    subst e
    by_cases h : k' = k
    · subst h; exact .inl ⟨x, v, B, by simp [look], by simp [look], r, fun a => by rw [z]; unfold fpA; omega⟩
    · rcases ih q with ⟨d, v2, B2, h1, h2, h3, h4⟩ | ⟨h1, h2⟩
      · exact .inl ⟨d, v2, B2, by simp [look, h, h1], by simp [look, h, h2], h3, fun a => by have := h4 a; rw [z]; unfold fpA; omega⟩
      · exact .inr ⟨by simp [look, h, h1], by simp [look, h, h2]⟩
/-- a dict that may be read -/
def dicOf (d : D) (P : Kd → List (KD × D) → Prop) : Prop := match d with
  | .dic _ t kvs => P t kvs
  | _ => False
theorem dicOf_of {d : D} {v : V} {A : FP} {P : Kd → List (KD × D) → Prop} (s : Same F H) (r : Rep K F H d v A) (h : dicOf d P) : ∃ p o t kvs vs B, v = .ref p ∧ Rd H p o ∧ DicO t o vs ∧ Repk K F H kvs vs B ∧ (∀ a, B a ≤ A a) ∧ P t kvs := by
  cases d with
  | dic m t kvs =>
    cases m with
    | fr => obtain ⟨p, o, vs, rfl, e1, g, q⟩ := r; exact ⟨p, o, t, kvs, vs, A, rfl, rd_same s e1, g, q, fun _ => Nat.le_refl _, h⟩
    | ow => obtain ⟨p, o, vs, B, rfl, e1, g, q, z⟩ := r; exact ⟨p, o, t, kvs, vs, B, rfl, .inl e1, g, q, fun a => by rw [z]; unfold fpA; omega, h⟩
    | lk => obtain ⟨p, od, o, vs, B, rfl, e1, g, q, z⟩ := r; exact ⟨p, o, t, kvs, vs, B, rfl, .inr ⟨od, e1⟩, g, q, fun a => by rw [z]; unfold fpA; omega, h⟩
  | _ => exact h.elim
/-- d[k] that is there -/
def oDGet (d j : D) (P : D → Prop) : Prop := dicOf d fun t kvs => mb (keyD t j) fun k => mb (look kvs k) P
theorem op2_dget : Op2K K (fun x y H Q => ∃ a v, x = .ref a ∧ DGet H a y (some v) ∧ Q v H) oDGet := fun {F R H G A1 A2 x y d1 d2 P Q} W ow S r1 r2 l1 l2 w q => by
  obtain ⟨p, o, t, kvs, vs, B, rfl, e1, g, rk, lB, w⟩ := dicOf_of W.f r1 w
  obtain ⟨k, ek, w⟩ := mb_some w
  obtain ⟨d, ed, w⟩ := mb_some w
  have dg := dget_ok W.f e1 g ek r2
  rcases repk_look (k := k) rk with ⟨d', v, B2, h1, h2, h3, h4⟩ | ⟨h1, _⟩
  · rw [ed] at h1; cases h1
    rw [h2] at dg
    exact ⟨p, v, rfl, dg, q v _ ⟨d, F, B2, Same.refl F, .refl, W, h3, fun a => .inl (Nat.le_trans (h4 a) (lB a)), S, w⟩⟩
  · rw [ed] at h1; cases h1
/-- k in d -/
def oDIn (neg : Bool) (j d : D) (P : D → Prop) : Prop := dicOf d fun t kvs => mb (keyD t j) fun k => P (.bl (if neg = true then !(look kvs k).isSome else (look kvs k).isSome))
theorem op2_din : Op2S K (fun y x H Q => ∃ a o, x = .ref a ∧ DGet H a y o ∧ Q (.bl o.isSome) H) (oDIn false) := fun {F H A1 A2 x y d1 d2 P Q} s r1 r2 w q => by
  obtain ⟨p, o, t, kvs, vs, B, rfl, e1, g, rk, lB, w⟩ := dicOf_of s r2 w
  obtain ⟨k, ek, w⟩ := mb_some w
  have dg := dget_ok s e1 g ek r1
  refine ⟨p, _, rfl, dg, ?_⟩
  have e : (look vs k).isSome = (look kvs k).isSome := by
    rcases repk_look (k := k) rk with ⟨d', v, B2, h1, h2, _⟩ | ⟨h1, h2⟩ <;> rw [h1, h2] <;> rfl
  rw [e]
  exact q _ ⟨_, fun _ _ => rep_bl, w⟩
theorem op2_dnotin : Op2S K (fun y x H Q => ∃ a o, x = .ref a ∧ DGet H a y o ∧ Q (.bl (!o.isSome)) H) (oDIn true) := fun {F H A1 A2 x y d1 d2 P Q} s r1 r2 w q => by
  obtain ⟨p, o, t, kvs, vs, B, rfl, e1, g, rk, lB, w⟩ := dicOf_of s r2 w
  obtain ⟨k, ek, w⟩ := mb_some w
  have dg := dget_ok s e1 g ek r1
  refine ⟨p, _, rfl, dg, ?_⟩
  have e : (look vs k).isSome = (look kvs k).isSome := by
    rcases repk_look (k := k) rk with ⟨d', v, B2, h1, h2, _⟩ | ⟨h1, h2⟩ <;> rw [h1, h2] <;> rfl
  rw [e]
  exact q _ ⟨_, fun _ _ => rep_bl, w⟩
end
section
variable {Y : Cy} {F F1 R H H1 : Hp} {ρ : Env} {σ σ1 : St} {A B : FP} {e a b d : Expr} {w wa wb wd : KW} {ew : DW} {pw : PW'} {i : Nat} {pos p apos cpos p2 : Pos}
theorem k_dget (hu : Y.X.A.units + 1 < cLine) (hd : DK Y d wd) (hk : DK Y a wa) (hs : NoSl a) : DK Y (.Subscript d a pos) (fun ρ P => wd ρ fun x => wa ρ fun y => oDGet x y P) :=
  ⟨PE.imp (pe_dget hu hd.run hk.run hs) fun σ H Q h => ev2k (Y := Y) (o := oDGet) op2_dget h⟩
theorem k_din (hu : Y.X.A.units + 1 < cLine) (hk : DK Y a wa) (hd : DK Y d wd) (hm : behindInMarks .In d = false := by rfl) : DK Y (.Compare a [.In] [d] pos) (fun ρ P => wa ρ fun x => wd ρ fun y => oDIn false x y P) :=
  ⟨PE.imp (pe_cmp (pc_din hu hk.run hd.run) hm) fun σ H Q h => ev2k (Y := Y) (o := oDIn false) (op2k_s op2_din) h⟩
theorem k_dnotin (hu : Y.X.A.units + 1 < cLine) (hk : DK Y a wa) (hd : DK Y d wd) (hm : behindInMarks .NotIn d = false := by rfl) : DK Y (.Compare a [.NotIn] [d] pos) (fun ρ P => wa ρ fun x => wd ρ fun y => oDIn true x y P) :=
  ⟨PE.imp (pe_cmp (pc_dnotin hu hk.run hd.run) hm) fun σ H Q h => ev2k (Y := Y) (o := oDIn true) (op2k_s op2_dnotin) h⟩
theorem b_din (hu : Y.X.A.units + 1 < cLine) (hk : DK Y a wa) (hd : DK Y d wd) (hm : behindInMarks .In d = false := by rfl) : DB Y (.Compare a [.In] [d] pos) (fun ρ P => wa ρ fun x => wd ρ fun y => oDIn false x y fun z => bb z P) :=
  ⟨PT.imp (pt_cmp (pc_din hu hk.run hd.run) hm) fun σ H Q ⟨F, R, ρ, B, P, S, hw, hq, hx⟩ => ev2k (Y := Y) (o := oDIn false) (op2k_s op2_din) (Q := fun x H1 => ∃ c, x = .bl c ∧ Q c H1) ⟨F, R, ρ, B, fun d => bb d P, S, hw, fun v H1 ⟨d, F1, A, s, k, W, r, l, p, q⟩ => by
    obtain ⟨c, rfl, q2⟩ := bb_some q
    exact ⟨c, r.1, hq _ _ ⟨F1, s, k, W, p, q2⟩⟩, hx⟩⟩
theorem b_dnotin (hu : Y.X.A.units + 1 < cLine) (hk : DK Y a wa) (hd : DK Y d wd) (hm : behindInMarks .NotIn d = false := by rfl) : DB Y (.Compare a [.NotIn] [d] pos) (fun ρ P => wa ρ fun x => wd ρ fun y => oDIn true x y fun z => bb z P) :=
  ⟨PT.imp (pt_cmp (pc_dnotin hu hk.run hd.run) hm) fun σ H Q ⟨F, R, ρ, B, P, S, hw, hq, hx⟩ => ev2k (Y := Y) (o := oDIn true) (op2k_s op2_dnotin) (Q := fun x H1 => ∃ c, x = .bl c ∧ Q c H1) ⟨F, R, ρ, B, fun d => bb d P, S, hw, fun v H1 ⟨d, F1, A, s, k, W, r, l, p, q⟩ => by
    obtain ⟨c, rfl, q2⟩ := bb_some q
    exact ⟨c, r.1, hq _ _ ⟨F1, s, k, W, p, q2⟩⟩, hx⟩⟩
/-- d.get(k) -/
def oDGet1 (d j : D) (P : D → Prop) : Prop := dicOf d fun t kvs => mb (keyD t j) fun k => P ((look kvs k).getD .non)
theorem isD_of {t : Kd} {p : Addr} {o : HO} {vs : List (KD × V)} (h : Rd H p o) (g : DicO t o vs) : IsD H p := by
  cases t <;> obtain ⟨_, l, rfl, _⟩ := g
  · exact .inl ⟨l, h⟩
  · exact .inr ⟨l, h⟩
theorem k_dget1 (hu : Y.X.A.units + 1 < cLine) (hd : DK Y d wd) (hk : DK Y a wa) (m : M1 Y.X d "get" apos a cpos) : DK Y (.Call (.Attribute d "get" apos) [a] [] cpos) (fun ρ P => wd ρ fun x => (dicOf x fun _ _ => True) ∧ wa ρ fun y => oDGet1 x y P) :=
  ⟨PE.imp (pe_dget1 hu hd.run hk.run m) fun σ H Q ⟨F, R, ρ, B, P, S, hw, hq, hx⟩ => ⟨F, R, ρ, B, fun x => (dicOf x fun _ _ => True) ∧ wa ρ fun y => oDGet1 x y P, S, hw, fun v H1 ⟨x, F1, A, s, k, W, r, l, p, q0, q⟩ => by
    obtain ⟨pa, o, t, kvs, vs, B0, rfl, e1, g, rk, lB, _⟩ := dicOf_of W.f r q0
    have S1 := S.keep s k W p
    refine ⟨pa, rfl, isD_of e1 g, F1, R, ρ, B, _, S1, q, fun y H2 ⟨d2, F2, A2, s2, k2, W2, r2, l2, p2, q2⟩ => ?_, hx.grow s⟩
    have r' : Rep Y.X.K F2 H2 x (.ref pa) A := rep_mono s2 x (fun a n => k2 a (by have := l a; omega)) r
    obtain ⟨pa', o', t', kvs', vs', B', ev', e1', g', rk', lB', w⟩ := dicOf_of W2.f r' q2
    cases ev'
    obtain ⟨kk, ek, w⟩ := mb_some w
    refine ⟨_, dget_ok W2.f e1' g' ek r2, hq _ _ ?_⟩
    rcases repk_look (k := kk) rk' with ⟨d', v', B2, h1, h2, h3, h4⟩ | ⟨h1, h2⟩
    · rw [h1] at w
      rw [h2]
      exact ⟨d', F2, B2, s.trans s2, fun a n => (k2 a n).trans (k a n), W2, h3, fun a => Nat.le_trans (h4 a) (Nat.le_trans (lB' a) (l a)), p2, w⟩
    · rw [h1] at w
      rw [h2]
      exact ⟨.non, F2, fp0, s.trans s2, fun a n => (k2 a n).trans (k a n), W2, rep_non, fp0_le, p2, w⟩, hx⟩⟩
end
end L3
namespace L3
open PySem PySem.Spec L2
open PyProof.Rows hiding St
section
variable {Y : Cy} {F F1 R H H1 : Hp} {ρ : Env} {σ σ1 : St} {A B : FP} {e a b c d o : Expr} {w wa wb wd wc : KW} {ew : DW} {pw : PW'} {kw : KW} {i : Nat} {pos pos' apos cpos p2 : Pos}
theorem f_dnew (t : Kd) : DF Y (.Dict [] [] pos) (fun _ P => P (.dic .ow t [])) := by
  cases t with
  | k =>
    exact ⟨PE.imp pe_dnewK fun σ H Q ⟨F, R, ρ, B, P, S, hw, hq, hx⟩ n hn => hq _ _ ⟨.dic .ow .k [], F, fp1 n, Same.refl F, keep_new S.own hn, S.w.mine hn, ⟨n, _, [], fp0, rfl, upd_same, ⟨List.nodup_nil, [], rfl, rfl⟩, ⟨rfl, rfl⟩, by rw [fpA_0l]⟩, by rw [fpA_comm]; exact S.p.mine S.w S.own hn, hw⟩⟩
  | t =>
    exact ⟨PE.imp pe_dnewT fun σ H Q ⟨F, R, ρ, B, P, S, hw, hq, hx⟩ n hn => hq _ _ ⟨.dic .ow .t [], F, fp1 n, Same.refl F, keep_new S.own hn, S.w.mine hn, ⟨n, _, [], fp0, rfl, upd_same, ⟨List.nodup_nil, [], rfl, rfl⟩, ⟨rfl, rfl⟩, by rw [fpA_0l]⟩, by rw [fpA_comm]; exact S.p.mine S.w S.own hn, hw⟩⟩
/-- o[k] = e, o a dict of ours -/
def stDic (i : Nat) (st : List Stp) (ρ : Env) (j d : D) (P : Env → Prop) : Prop := mb (getE ρ i st) fun o => match o with
  | .dic .ow t kvs => kvs.length < sizeLine ∧ mb (keyD t j) fun k => P (putE ρ i st (.dic .ow t (kput kvs k d)))
  | _ => False
theorem repk_put {K : PySem.W.Frag} : ∀ {ds : List (KD × D)} {vs : List (KD × V)} {A : FP} (f : KD), Repk K F H ds vs A → ∃ C, (∀ a, C a ≤ A a) ∧
    ∀ F' H' d' v' B', Same F F' → (∀ a, C a ≠ 0 → H' a = H a) → Rep K F' H' d' v' B' → Repk K F' H' (kput ds f d') (kput vs f v') (fpA B' C)
  | [], vs, A, f, ⟨e, z⟩ => by
    subst e z
    exact ⟨fp0, fun _ => Nat.le_refl _, fun F' H' d' v' B' s k r' => ⟨v', [], B', fp0, rfl, r', ⟨rfl, rfl⟩, rfl⟩⟩
  | (g, d0) :: ds, _, _, f, ⟨v, σr, B, C, e, r, q, z⟩ => by
    subst e
    by_cases hg : g = f
    · subst hg
      refine ⟨C, fun a => by rw [z]; unfold fpA; omega, fun F' H' d' v' B' s k r' => ?_⟩
      simp only [kput, if_true]
      exact ⟨v', σr, B', C, rfl, r', repk_mono s ds k q, rfl⟩
    · obtain ⟨C1, l, h⟩ := repk_put f q
      refine ⟨fpA B C1, fun a => by have := l a; rw [z]; unfold fpA; omega, fun F' H' d' v' B' s k r' => ?_⟩
      simp only [kput, if_neg hg]
      refine ⟨v, _, B, _, rfl, rep_mono s d0 (fun a n => k a (fpA_l n)) r, h F' H' d' v' B' s (fun a n => k a (fpA_r n)) r', ?_⟩
      rw [← fpA_assoc, ← fpA_assoc, fpA_comm (A := B')]
theorem s_dput (hu : Y.X.A.units + 1 < cLine) (hv : DE Y e ew) (ho : DP Y o i pw) (hi : DK Y a kw) (hs : swapsWith e (some (.Subscript o a pos')) pos.line Y.X.env = pure false := by rfl) :
    DS Y (.Assign [.Subscript o a pos'] e pos) (fun K ρ => ew ρ fun d ρ1 => pw ρ1 fun st => kw ρ1 fun j => stDic i st ρ1 j d K.nx) :=
  ⟨PS.imp (ps_dput hu ho.run hi.run hv.run hs) fun Z σ H ⟨F, R, ρ, B, K, S, hw, G⟩ => ⟨F, R, ρ, B, _, S, hw, fun v H1 ⟨d, ρ1, F1, A, B1, s, W, r, sl, p, q⟩ => by
    have own1 := rep_own d r
    have pA : Sep F1 R A := p.mono fun a => by unfold fpA; omega
    refine rd_kP' (Y := Y) (o := fun st j => stDic i st ρ1 j d K.nx) ⟨W.hold pA own1, sl, p.hold⟩ q (G.ex.hold s W pA) ?_
    intro F2 H2 st x y d1 d2 A1 A2 A' s2 k2 W2 p2 L r2 l2 q2
    obtain ⟨W3, p3, k3⟩ := hold_back W pA own1 W2 p2
    obtain ⟨d0, e0, q2⟩ := mb_some q2
    rw [L.get] at e0; cases e0
    cases d1 with
    | dic m t kvs =>
      cases m with
      | fr => exact q2.elim
      | lk => exact q2.elim
      | ow =>
        obtain ⟨hl, q2⟩ := q2
        obtain ⟨kk, ek, q5⟩ := mb_some q2
        obtain ⟨a0, oo, vs, B0, rfl, ha, g, rs, z⟩ := L.rep
        obtain ⟨o', dp, g'⟩ := dput_ok (F := F2) (v := v) W3.f ha g ek r2 (by rw [repk_len rs]; exact hl)
        refine ⟨a0, _, rfl, dp, ?_⟩
        have hA1 : A1 a0 ≠ 0 := by rw [z]; exact fpA_r (fp1_self a0)
        obtain ⟨W4, kA2, kA⟩ := loc_write (oo := o') W3 L p3 hA1
        have r2 : Rep Y.X.K F2 (upd H2 a0 o') d v A := rep_mono s2 d (fun b n => by rw [kA b n, k3 b n]) r
        obtain ⟨C1, l, hput⟩ := repk_put kk rs
        have hn : ∀ b, C1 b ≠ 0 → (upd H2 a0 o') b = H2 b := fun b n => by
          refine upd_ne ?_
          rintro rfl
          have h1 := (p3 b).1
          have h2 := l b
          unfold fpA at h1
          rw [L.fp, z] at h1
          unfold fpA at h1
          simp only [fp1, if_pos] at h1
          omega
        have rs2 := hput F2 _ d v A (Same.refl F2) hn r2
        have sl2 := L.back F2 _ (.dic .ow t (kput kvs kk d)) _ (Same.refl F2) kA2 ⟨a0, _, _, _, rfl, upd_same, g', rs2, rfl⟩
        refine G.nx σ _ ⟨_, F2, _, s.trans s2, W4, sl2, p3.mono fun b => ?_, .refl, q5⟩
        have := l b
        rw [L.fp, z]
        unfold fpA
        omega
    | _ => exact q2.elim, G.ex⟩⟩
/-- d.get(k, x) -/
def oDGet2 (d j x : D) (P : D → Prop) : Prop := dicOf d fun t kvs => mb (keyD t j) fun k => P ((look kvs k).getD x)
theorem k_dget2 (hu : Y.X.A.units + 1 < cLine) (hd : DK Y d wd) (hk : DK Y a wa) (hc : DK Y c wc) (m : M2 Y.X d "get" apos a c cpos) : DK Y (.Call (.Attribute d "get" apos) [a, c] [] cpos) (fun ρ P => wd ρ fun x => (dicOf x fun _ _ => True) ∧ wa ρ fun y => wc ρ fun z => oDGet2 x y z P) :=
  ⟨PE.imp (pe_dget2 hu hd.run hk.run hc.run m) fun σ H Q ⟨F, R, ρ, B, P, S, hw, hq, hx⟩ => ⟨F, R, ρ, B, fun x => (dicOf x fun _ _ => True) ∧ wa ρ fun y => wc ρ fun z => oDGet2 x y z P, S, hw, fun v H1 ⟨x, F1, A, s, k, W, r, l, p, q0, q⟩ => by
    obtain ⟨pa, o, t, kvs, vs, B0, rfl, e1, g, rk, lB, _⟩ := dicOf_of W.f r q0
    have S1 := S.keep s k W p
    refine ⟨pa, rfl, isD_of e1 g, F1, R, ρ, B, fun y => wc ρ fun z => oDGet2 x y z P, S1, q, fun y H2 ⟨d2, F2, A2, s2, k2, W2, r2, l2, p2, q2⟩ => ?_, hx.grow s⟩
    have S2 := S1.keep s2 k2 W2 p2
    have r' : Rep Y.X.K F2 H2 x (.ref pa) A := rep_mono s2 x (fun a n => k2 a (by have := l a; omega)) r
    refine ⟨F2, R, ρ, B, fun z => oDGet2 x d2 z P, S2, q2, fun zv H3 ⟨d3, F3, A3, s3, k3, W3, r3, l3, p3, q3⟩ => ?_, (hx.grow s).grow s2⟩
    have r'' : Rep Y.X.K F3 H3 x (.ref pa) A := rep_mono s3 x (fun a n => k3 a (by have := l a; omega)) r'
    have r2' : Rep Y.X.K F3 H3 d2 y A2 := rep_mono s3 d2 (fun a n => k3 a (by have := l2 a; omega)) r2
    obtain ⟨pa', o', t', kvs', vs', B', ev', e1', g', rk', lB', w⟩ := dicOf_of W3.f r'' q3
    cases ev'
    obtain ⟨kk, ek, w⟩ := mb_some w
    refine ⟨_, dget_ok W3.f e1' g' ek r2', hq _ _ ?_⟩
    rcases repk_look (k := kk) rk' with ⟨d', v', B2, h1, h2, h3, h4⟩ | ⟨h1, h2⟩
    · rw [h1] at w
      rw [h2]
      exact ⟨d', F3, B2, s.trans (s2.trans s3), fun a n => (k3 a n).trans ((k2 a n).trans (k a n)), W3, h3, fun a => Nat.le_trans (h4 a) (Nat.le_trans (lB' a) (l a)), p3, w⟩
    · rw [h1] at w
      rw [h2]
      exact ⟨d3, F3, A3, s.trans (s2.trans s3), fun a n => (k3 a n).trans ((k2 a n).trans (k a n)), W3, r3, l3, p3, w⟩, hx⟩⟩
end
end L3
/-! list(enumerate(a list)) -/
namespace EnL
open PySem PySem.Calls PyProof.Rows PyProof.V PySem.Spec PySem.W
/-- the pairs stand at the addresses as -/
structure PrG (items : Array Value) (lo : Addr) (h : Heap) (as : List Addr) : Prop where
  rise : as.Pairwise (· < ·)
  above : ∀ a ∈ as, lo < a
  pairs : ∀ (j : Nat) (a : Addr), as[j]? = some a → ∃ x t, items[j]? = some x ∧ h.get? a = some { cls := .type "tuple", data := .seq #[.int (j : Nat) t, x] }
theorem PrG.there {items : Array Value} {lo : Addr} {h : Heap} {as : List Addr} (g : PrG items lo h as) {a : Addr} (ha : a ∈ as) : a < h.objs.size := by
  obtain ⟨j, hj⟩ := List.mem_iff_getElem?.mp ha
  obtain ⟨_, _, _, e⟩ := g.pairs j a hj
  exact Heap.lt_size e
def EnlSt (h : Heap) (e it l S : Addr) (i : Nat) : Prop := h.IsListIter it l i ∧ ((∃ old, IsEnum h e it ((i : Nat) : Int) old) ∨ ∃ old T f oT, IsEnumHeld h e it ((i : Nat) : Int) old T f ∧ h.get? T = some oT ∧ T ≠ e ∧ T ≠ it ∧ T ≠ S)
theorem EnlSt.keep {h h' : Heap} {e it l S : Addr} {i : Nat} (st : EnlSt h e it l S i) (k : ∀ b o, b ≠ S → h.get? b = some o → h'.get? b = some o) (he : e ≠ S) (hi : it ≠ S) : EnlSt h' e it l S i := by
  obtain ⟨a, b⟩ := st
  refine ⟨a.at fun o q => k it o hi q, ?_⟩
  rcases b with ⟨old, b⟩ | ⟨old, T, f, oT, b, c, d1, d2, d3⟩
  · exact .inl ⟨old, k e _ he b⟩
  · exact .inr ⟨old, T, f, oT, k e _ he b, k T _ d3 c, d1, d2, d3⟩
section
variable {prog : Program} {w : World} {A : Around} {E : Value → Shared → Prop} {s : Shared}
theorem enl_item {e it l S : Addr} {i : Nat} {items : Array Value} {Q : Option Value → Shared → Prop} (hne : e ≠ it) (hle : l ≠ e) (hli : l ≠ it) (hst : EnlSt s.heap e it l S i) (hS : S < s.heap.objs.size) (hl : s.heap.IsList l items) (hlt : i < items.size)
    (hQ : ∀ h' x t k, EnlSt h' e it l S (i + 1) → items[i]? = some x → h'.get? s.heap.objs.size = some { cls := .type "tuple", data := .seq #[.int (i : Nat) t, x] } → h'.objs.size = s.heap.objs.size + 1 →
      (∀ b o, b ≠ e → b ≠ it → s.heap.get? b = some o → h'.get? b = some o) → Q (some (.ref s.heap.objs.size)) { s with heap := h', toks := k }) :
    wpAny (model prog w) A (pyNext (.ref e)) Q E s := by
  obtain ⟨hit, he⟩ := hst
  have ex := Array.getElem?_eq_getElem hlt
  have ec : ((i + 1 : Nat) : Int) = (i : Int) + 1 := by omega
  have nit : s.heap.objs.size ≠ it := let ⟨_, x, _⟩ := hit; Nat.ne_of_gt (Heap.lt_size x)
  rcases he with ⟨old, he⟩ | ⟨old, T, f, oT, he, hT, r1, r2, r3⟩
  · refine wpAny_pyNext_enum_item he hit hl ex hne fun h' ho hit' hT hsz hk => ?_
    exact hQ h' _ _ (s.toks + 1) ⟨hit', .inr ⟨_, s.heap.objs.size, false, _, (by rw [ec]; exact ho), hT, Nat.ne_of_gt (Heap.lt_size he), nit, Nat.ne_of_gt hS⟩⟩ ex hT hsz hk
  · refine wpAny_pyNext_enum_item_held he hT r1 r2 hit hl ex hne fun h' ho hit' hT' hsz hk => ?_
    exact hQ h' _ _ (s.toks + 1) ⟨hit', .inr ⟨old, T, true, oT, (by rw [ec]; exact ho), hk _ _ r1 r2 hT, r1, r2, r3⟩⟩ ex hT' hsz hk
theorem enl_done {e it l S : Addr} {i : Nat} {items : Array Value} {Q : Option Value → Shared → Prop} (hh : A.handled = none) (hst : EnlSt s.heap e it l S i) (hl : s.heap.IsList l items) (hge : items.size ≤ i)
    (hQ : ∀ h', Heap.ExtBut it s.heap h' → Q none { s with heap := h' }) : wpAny (model prog w) A (pyNext (.ref e)) Q E s := by
  obtain ⟨hit, he⟩ := hst
  have hx : items[i]? = none := Array.getElem?_eq_none hge
  rcases he with ⟨old, he⟩ | ⟨old, T, f, oT, he, hT, r1, r2, r3⟩
  · exact wpAny_pyNext_enum_end hh he hit hl hx hQ
  · exact wpAny_pyNext_enum_end_held hh he hit hl hx hQ
theorem nolen_en : typeLookup (.type "enumerate") "__len__" = pure none := by rw [typeLookup_type, builtinLookup_eq_fast]; kernel_rfl
theorem nohint_en : typeLookup (.type "enumerate") "__length_hint__" = pure none := by rw [typeLookup_type, builtinLookup_eq_fast]; kernel_rfl
end
section
variable {prog : Program} {w : World} {A : Around} {s : Shared} {R : Result → Shared → Prop} {items : Array Value}
theorem enl_loop {S e it l : Addr} (hh : A.handled = none) (heS : e ≠ S) (hiS : it ≠ S) (hlS : l ≠ S) (hne : e ≠ it) (hle : l ≠ e) (hli : l ≠ it) (hn : items.size ≤ sizeLine) (res : Value) {h₁ : Heap}
    (hR : ∀ h' tk acc c as, (∀ b o, b ≠ S → b ≠ e → b ≠ it → h₁.get? b = some o → h'.get? b = some o) → h'.get? S = some { cls := .type "list", dict := none, data := .seq acc c, slots := #[] } → as.length = items.size → PrG items S h' as →
      acc.toList = as.map Value.ref → R (.ok (.ret res)) { s with heap := h', toks := tk }) :
    ∀ (k i : Nat) (h : Heap) (tk c : Nat) (acc : Array Value) (as : List Addr), items.size - i = k → i ≤ items.size → EnlSt h e it l S i → h.IsList l items → (∀ b o, b ≠ S → b ≠ e → b ≠ it → h₁.get? b = some o → h.get? b = some o) →
      h.get? S = some { cls := .type "list", dict := none, data := .seq acc c, slots := #[] } → acc.toList = as.map Value.ref → as.length = i → PrG items S h as → it < S → e < S →
      codeAny (model prog w) A (.builtin "list.extend.loop" ⟨[.ref S, .ref e, res], []⟩) R { s with heap := h, toks := tk } := by
  intro k
  induction k with
  | zero =>
    intro i h tk c acc as hk hi hst hD hkeep hS hacc hal hG hiL heL
    have hin : i = items.size := by omega
    refine codeAny_builtin PySem.F.entry_extend_loop ?_
    rw [Around.under_plainId PySem.F.plain_extend_loop _]
    show wpAny _ A.in1 (pyNext (.ref e) >>= _) _ _ _
    refine wpAny_bind (enl_done (s := { s with heap := h, toks := tk }) (A := A.in1) hh hst hD (by omega) fun h' he => ?_)
    refine wpAny_pure (hR h' tk acc c as (fun b o h1 h2 h3 e => he b o h3 (hkeep b o h1 h2 h3 e)) (he S _ (Ne.symm hiS) hS) (by omega) ⟨hG.rise, hG.above, fun j a hj => ?_⟩ hacc)
    obtain ⟨x, t, hj', e3⟩ := hG.pairs j a hj
    exact ⟨x, t, hj', he a _ (Nat.ne_of_gt (Nat.lt_trans hiL (hG.above a (List.mem_of_getElem? hj)))) e3⟩
  | succ k ih =>
    intro i h tk c acc as hk hi hst hD hkeep hS hacc hal hG hiL heL
    have hlt : i < items.size := by omega
    have hsz : acc.size = i := by rw [← Array.length_toList, hacc, List.length_map, hal]
    refine codeAny_builtin PySem.F.entry_extend_loop ?_
    rw [Around.under_plainId PySem.F.plain_extend_loop _]
    show wpAny _ A.in1 (pyNext (.ref e) >>= _) _ _ _
    refine wpAny_bind (enl_item (s := { s with heap := h, toks := tk }) (S := S) hne hle hli hst (Heap.lt_size hS) hD hlt fun h' x t tk2 hst' hx ht hz hkp => ?_)
    dsimp only at ht hz hkp ⊢
    have hS' := hkp S _ (Ne.symm heS) (Ne.symm hiS) hS
    have up : ∀ b o, b ≠ S → h'.get? b = some o → (h'.update S (Obj.mapSeq (·.push (Value.ref h.objs.size)))).get? b = some o := fun b o hb e => (Heap.get?_update_other _ _ (Ne.symm hb)).trans e
    have hSl : S < h.objs.size := Heap.lt_size hS
    show wpAny _ A.in1 (updateSeq S (·.push (Value.ref h.objs.size)) >>= _) _ _ _
    refine wpAny_bind ?_
    refine wpAny_updateSeq hS' rfl (wpAny_pure ⟨plainId_quiet PySem.F.plain_extend_loop _, ih (i + 1) _ tk2 _ (acc.push (Value.ref h.objs.size)) (as ++ [h.objs.size]) (by omega) hlt (hst'.keep up heS hiS) (hD.at fun o e => up l o hlS (hkp l o hle hli e))
      (fun b o h1 h2 h3 e => up b o h1 (hkp b o h2 h3 (hkeep b o h1 h2 h3 e))) (Heap.get?_update_self _ hS' rfl) (by rw [Array.toList_push, hacc, List.map_append]; rfl) (by rw [List.length_append, hal]; rfl) ⟨?_, ?_, ?_⟩ hiL heL⟩) (by rw [hsz]; omega) (by show (acc.push (Value.ref h.objs.size)).size ≤ sizeLine + 1; rw [Array.size_push, hsz]; omega)
    · refine List.pairwise_append.mpr ⟨hG.rise, List.pairwise_singleton _ _, fun a ha b hb => ?_⟩
      rw [List.mem_singleton.mp hb]
      exact hG.there ha
    · intro a ha
      rcases List.mem_append.mp ha with ha | ha
      · exact hG.above a ha
      · rw [List.mem_singleton.mp ha]; exact hSl
    · intro j b hj
      rcases Nat.lt_trichotomy j as.length with h1 | h1 | h1
      · rw [List.getElem?_append_left h1] at hj
        obtain ⟨x', t', hj', e3⟩ := hG.pairs j b hj
        have hb := hG.above b (List.mem_of_getElem? hj)
        exact ⟨x', t', hj', up b _ (Nat.ne_of_gt hb) (hkp b _ (Nat.ne_of_gt (Nat.lt_trans heL hb)) (Nat.ne_of_gt (Nat.lt_trans hiL hb)) e3)⟩
      · subst h1
        have hb : h.objs.size = b := by simpa using hj
        subst hb
        refine ⟨x, t, by rw [hal]; exact hx, ?_⟩
        rw [hal]
        exact up _ _ (Nat.ne_of_gt hSl) ht
      · have hnone : (as ++ [h.objs.size])[j]? = none := List.getElem?_eq_none (by rw [List.length_append, List.length_singleton]; omega)
        rw [hnone] at hj; cases hj
end
section
variable {prog : Program} {w : World} {A : Around} {E : Value → Shared → Prop} {s : Shared} {e it l : Addr} {items : Array Value}
theorem enl_extend {R : Result → Shared → Prop} (hh : A.handled = none) (he : IsEnum s.heap e it 0 .none) (hit : s.heap.IsListIter it l 0) (hl : s.heap.IsList l items) (hne : e ≠ it) (hle : l ≠ e) (hli : l ≠ it) (S : Addr) (heS : e < S) (hiS : it < S) (hlS : l < S) (res : Value) (c₀ : Nat) (hS : s.heap.get? S = some { cls := .type "list", data := .seq #[] c₀ })
    (hR : ∀ h' tk acc c as, (∀ b o, b ≠ S → b ≠ e → b ≠ it → s.heap.get? b = some o → h'.get? b = some o) → h'.get? S = some { cls := .type "list", dict := none, data := .seq acc c, slots := #[] } → as.length = items.size → PrG items S h' as →
      acc.toList = as.map Value.ref → R (.ok (.ret res)) { s with heap := h', toks := tk }) (hn : items.size ≤ sizeLine) :
    wpAny (model prog w) A.in1 (Builtin.List.listExtendWith (.ref S) (.ref e) res)
      (fun fin s' => match fin with | .done f => R (.ok f) s' | .again c' => c'.quiet = true ∧ codeAny (model prog w) A c' R s') (fun e s' => R (.error e) s') s := by
  have hT : s.TypeIs (.ref e) "enumerate" := ⟨_, he, rfl⟩
  unfold Builtin.List.listExtendWith
  refine wpAny_bind (wpAny_typeOf hT ?_)
  have h1 : Builtin.List.listSameRef (.ref S) (.ref e) = false := by simp [Builtin.List.listSameRef, Nat.ne_of_gt heS]
  have h2 : (Value.type "enumerate" == Value.type "list") = false := by decide
  have h3 : (Value.type "enumerate" == Value.type "tuple") = false := by decide
  simp only [h1, h2, h3, Bool.or_false, Bool.false_eq_true, if_false]
  refine wpAny_bind (wpAny_pyIter_enum he ?_)
  refine wpAny_bind (wpAny_holding ?_)
  unfold Builtin.List.listLengthHint
  refine wpAny_bind (wpAny_specialOf hT nolen_en ?_)
  show wpAny _ A.in1 (specialOf (Value.ref e) (Str.ofString "__length_hint__") >>= _) _ _ _
  refine wpAny_bind (wpAny_specialOf hT nohint_en ?_)
  refine wpAny_pure ?_
  show wpAny _ A.in1 (rule "list.extend.makes-room" >>= fun _ => Builtin.List.listTouch (.ref S) >>= fun _ =>
    again (.builtin "list.extend.loop" ⟨[.ref S, .ref e, res], []⟩)) _ _ _
  refine wpAny_bind (wpAny_rule ?_)
  refine wpAny_bind ?_
  show wpAny _ A.in1 (updateSeq S (·.push .none) >>= fun _ => updateSeq S (·.pop)) _ _ _
  refine wpAny_bind (wpAny_updateSeq hS rfl ?_)
  have hS₂ := Heap.get?_update_self (Obj.mapSeq (·.push Value.none)) hS rfl
  refine wpAny_updateSeq (hz := by seq_fits) hS₂ rfl ?_
  have hS₃ := Heap.get?_update_self (Obj.mapSeq (·.pop)) hS₂ rfl
  have oth : ∀ b o, b ≠ S → s.heap.get? b = some o → ((s.heap.update S (Obj.mapSeq (·.push Value.none))).update S (Obj.mapSeq (·.pop))).get? b = some o :=
    fun b o hb e => (Heap.get?_update_other _ _ (Ne.symm hb)).trans ((Heap.get?_update_other _ _ (Ne.symm hb)).trans e)
  have e1 := Nat.ne_of_lt heS
  have e2 := Nat.ne_of_lt hiS
  have e3 := Nat.ne_of_lt hlS
  refine wpAny_pure ⟨plainId_quiet PySem.F.plain_extend_loop _, enl_loop (items := items) (s := s) (h₁ := s.heap) hh e1 e2 e3 hne hle hli hn res hR
    items.size 0 _ s.toks _ #[] [] (Nat.sub_zero _) (Nat.zero_le _) ⟨hit.at fun o q => oth it o e2 q, .inl ⟨.none, oth e _ e1 he⟩⟩ (hl.at fun o q => oth l o e3 q) (fun b o hb _ _ q => oth b o hb q) hS₃ rfl rfl
    ⟨List.Pairwise.nil, (fun _ ha => nomatch ha), (fun j a hj => by simp at hj)⟩ hiS heS⟩
theorem enl_call {Q : Value → Shared → Prop} (hh : A.handled = none) (he : IsEnum s.heap e it 0 .none) (hit : s.heap.IsListIter it l 0) (hl : s.heap.IsList l items) (hne : e ≠ it) (hle : l ≠ e) (hli : l ≠ it) (hn : items.size ≤ sizeLine)
    (hQ : ∀ h' tk acc c as, (∀ b o, b ≠ e → b ≠ it → s.heap.get? b = some o → h'.get? b = some o) → h'.get? s.heap.objs.size = some { cls := .type "list", dict := none, data := .seq acc c, slots := #[] } → as.length = items.size → PrG items s.heap.objs.size h' as →
      acc.toList = as.map Value.ref → Q (.ref s.heap.objs.size) { s with heap := h', toks := tk }) :
    wpAny (model prog w) A (call (.type "list") [.ref e]) Q E s := by
  refine callType_codes (Q₁ := fun obj s₁ => obj = .ref s.heap.objs.size ∧ s₁ = { s with heap := s.heap.push { cls := .type "list", data := .seq #[] } }) PySem.F.called_list (PySem.F.typeCall_list_1 _) PySem.F.entry_list_init
    (code_list_new _ ⟨rfl, rfl⟩) fun obj s₁ h₁ => ?_
  obtain ⟨rfl, rfl⟩ := h₁
  have hS : (s.heap.push { cls := .type "list", data := .seq #[] }).get? s.heap.objs.size = some { cls := .type "list", data := .seq #[] } := Heap.get?_push_size _ rfl
  have he' : e < s.heap.objs.size := Heap.lt_size he
  have hi' : it < s.heap.objs.size := let ⟨_, q, _⟩ := hit; Heap.lt_size q
  have hl' : l < s.heap.objs.size := let ⟨_, q, _⟩ := hl; Heap.lt_size q
  refine ⟨⟨_, hS, rfl⟩, PySem.F.args_list_init_2 _ _, ?_⟩
  show wpAny _ _ (do let old ← Builtin.List.listItems (.ref s.heap.objs.size); Builtin.List.listUpdate (.ref s.heap.objs.size) (fun _ => #[]); letGo old.toList.reverse; Builtin.List.listExtendWith (.ref s.heap.objs.size) (.ref e) .none) _ _ _
  refine wpAny_bind ?_
  unfold Builtin.List.listItems
  refine wpAny_bind (wpAny_seqItems hS rfl (wpAny_pure ?_))
  show wpAny _ _ (updateSeq s.heap.objs.size (fun _ => #[]) >>= fun _ => letGo (#[] : Array Value).toList.reverse >>= fun _ => Builtin.List.listExtendWith (.ref s.heap.objs.size) (.ref e) .none) _ _ _
  refine wpAny_bind (wpAny_updateSeq hS rfl ?_)
  have hS₂ := Heap.get?_update_self (Obj.mapSeq (fun _ => (#[] : Array Value))) hS rfl
  have oth : ∀ b o, b ≠ s.heap.objs.size → s.heap.get? b = some o → ((s.heap.push { cls := .type "list", data := .seq #[] }).update s.heap.objs.size (Obj.mapSeq (fun _ => (#[] : Array Value)))).get? b = some o :=
    fun b o hb e => (Heap.get?_update_other _ _ (Ne.symm hb)).trans (Heap.get?_push_of_some _ e)
  refine wpAny_bind (wpAny_letGo ?_)
  refine enl_extend (items := items) (A := A.in1) hh (oth e _ (Nat.ne_of_lt he') he) (hit.at fun o q => oth it o (Nat.ne_of_lt hi') q) (hl.at fun o q => oth l o (Nat.ne_of_lt hl') q) hne hle hli s.heap.objs.size he' hi' hl' .none _ hS₂ (fun h' tk acc c as hk hS' hln hG hacc => ?_) hn
  exact ⟨rfl, hQ h' tk acc c as (fun b o h1 h2 q => hk b o (Nat.ne_of_lt (Heap.lt_size q)) h1 h2 (oth b o (Nat.ne_of_lt (Heap.lt_size q)) q)) hS' hln hG hacc⟩
end
end EnL
namespace EnL
open PySem PySem.Calls PyProof.Rows PySem.Spec L2
def putP : Hp → List Addr → List V → Nat → Hp
  | H, a :: as, p :: vs, i => putP (upd H a (.tup [.int (i : Nat), p])) as vs (i + 1)
  | H, _, _, _ => H
theorem putP_off {b : Addr} : ∀ (as : List Addr) (vs : List V) (H : Hp) (i : Nat), b ∉ as → putP H as vs i b = H b
  | [], _, _, _, _ => rfl
  | _ :: _, [], _, _, _ => rfl
  | a :: as, p :: kvs, H, i, h => by
    show putP (upd H a (.tup [.int (i : Nat), p])) as kvs (i + 1) b = H b
    rw [putP_off as kvs _ _ (fun z => h (List.mem_cons_of_mem _ z)), upd_ne (fun z => h (by rw [z]; exact List.mem_cons_self))]
theorem putP_at : ∀ (as : List Addr) (vs : List V) (H : Hp) (i : Nat), as.length = vs.length → as.Nodup → ∀ (j : Nat) (a : Addr), as[j]? = some a → ∃ x, vs[j]? = some x ∧ putP H as vs i a = some (.tup [.int ((i + j : Nat)), x])
  | [], _, _, _, _, _, j, a, h => by simp at h
  | _ :: _, [], _, _, h, _, _, _, _ => by cases h
  | a0 :: as, p :: kvs, H, i, h, hn, 0, a, hj => by
    have hn' := List.nodup_cons.mp hn
    have e : a0 = a := by simpa using hj
    subst e
    refine ⟨p, rfl, ?_⟩
    show putP (upd H a0 (.tup [.int (i : Nat), p])) as kvs (i + 1) a0 = _
    rw [putP_off as kvs _ _ hn'.1, upd_same]; rfl
  | a0 :: as, p :: kvs, H, i, h, hn, j + 1, a, hj => by
    have hn' := List.nodup_cons.mp hn
    obtain ⟨x, e1, e2⟩ := putP_at as kvs (upd H a0 (.tup [.int (i : Nat), p])) (i + 1) (Nat.succ.inj h) hn'.2 j a (by simpa using hj)
    refine ⟨x, by simpa using e1, ?_⟩
    show putP (upd H a0 (.tup [.int (i : Nat), p])) as kvs (i + 1) a = _
    rw [e2, show i + 1 + j = i + (j + 1) from by omega]
def rEnumL (K : PySem.W.Frag) : V → Hp → VK → Prop := fun x H Q => ∃ (d : Addr) (xs : List V), x = .ref d ∧ SqL K H d xs ∧
  ∀ (H' : Hp) (p : Addr) (ts : List Addr), (∀ b, b ≠ p → b ∉ ts → H' b = H b) → H p = none → (∀ t ∈ ts, H t = none) → p ∉ ts → ts.Nodup → ts.length = xs.length → H' p = some (.lst (ts.map V.ref)) → (∀ (j : Nat) (a : Addr), ts[j]? = some a → ∃ x, xs[j]? = some x ∧ H' a = some (.tup [.int (j : Nat), x])) → Q (.ref p) H'
section
variable {X : Cx} {e : Expr} {te : TE} {p apos cpos pos : Pos}
theorem pairs_laid {pins : List (Addr × Obj)} {σ : L2.St} {H : Hp} {s : Shared} {h' : Heap} {tk S : Nat} {vs : List V} {its : Array Value} {acc : Array Value} {c : Nat} {as : List Addr} (I : Inv X pins σ H s) (hz : vs.length ≤ sizeLine) (kv : Vals vs its.toList)
    (hS0 : s.heap.objs.size ≤ S) (hk : ∀ b o, s.heap.get? b = some o → h'.get? b = some o) (hS : h'.get? S = some { cls := .type "list", dict := none, data := .seq acc c, slots := #[] }) (hl : as.length = its.size) (hG : PrG its S h' as) (hacc : acc.toList = as.map Value.ref) :
    ∃ H' : Hp, (∀ b, b ≠ S → b ∉ as → H' b = H b) ∧ H S = none ∧ (∀ t ∈ as, H t = none) ∧ S ∉ as ∧ as.Nodup ∧ as.length = vs.length ∧ H' S = some (.lst (as.map V.ref)) ∧ (∀ (j : Nat) (a : Addr), as[j]? = some a → ∃ x, vs[j]? = some x ∧ H' a = some (.tup [.int (j : Nat), x])) ∧ Inv X pins σ H' { s with heap := h', toks := tk } := by
  have lk : vs.length = its.size := by rw [kv.length]; simp
  have hSn : S ∉ as := fun z => Nat.lt_irrefl _ (hG.above _ z)
  have nd : as.Nodup := List.Pairwise.imp (fun {a b} (h : a < b) => Nat.ne_of_lt h) hG.rise
  have new : ∀ t ∈ as, H t = none := fun t ht => I.hok.fresh (Nat.le_trans hS0 (Nat.le_of_lt (hG.above t ht)))
  have newS : H S = none := I.hok.fresh hS0
  have atP := putP_at as vs (upd H S (.lst (as.map V.ref))) 0 (by omega) nd
  have off : ∀ b, b ∉ as → b ≠ S → putP (upd H S (.lst (as.map V.ref))) as vs 0 b = H b := fun b h1 h2 => by rw [putP_off as vs _ _ h1, upd_ne h2]
  have low : ∀ b o, s.heap.get? b = some o → b ∉ as ∧ b ≠ S := fun b o e => ⟨fun z => absurd (Nat.lt_of_lt_of_le (Heap.lt_size e) hS0) (Nat.not_lt.mpr (Nat.le_of_lt (hG.above b z))), Nat.ne_of_lt (Nat.lt_of_lt_of_le (Heap.lt_size e) hS0)⟩
  have kp : ∀ b u, H b = some u → (putP (upd H S (.lst (as.map V.ref))) as vs 0) b = some u := fun b u e => by
    rw [off b (fun z => by rw [new b z] at e; cases e) (fun z => by rw [z, newS] at e; cases e)]
    exact e
  have eS : putP (upd H S (.lst (as.map V.ref))) as vs 0 S = some (.lst (as.map V.ref)) := by rw [putP_off as vs _ _ hSn, upd_same]
  refine ⟨putP (upd H S (.lst (as.map V.ref))) as vs 0, fun b h1 h2 => off b h2 h1, newS, new, hSn, nd, by omega, eS, fun j a h => by
    obtain ⟨x, e1, e2⟩ := atP j a h
    exact ⟨x, e1, by rw [e2, Nat.zero_add]⟩, ?_⟩
  refine I.call' (ch := []) rfl ⟨fun b o q _ _ _ => hk b o q, fun b o q _ _ _ => ⟨o.slots, hk b o q⟩, fun b o q n _ => ?_, fun b o q _ => ⟨o, hk b o q⟩, fun b xs q => kp b _ q, fun b o u q => kp b _ q, fun b ps q => ⟨#[], by rw [kp b _ q]; simp⟩⟩ (fun b u q => ?_) I.bare fun b z => by simp at z
  · obtain ⟨z1, z2⟩ := low b o q
    rw [off b z1 z2]
    exact n
  · by_cases hb : b ∈ as
    · obtain ⟨j, hj⟩ := List.mem_iff_getElem?.mp hb
      obtain ⟨x, e1, e2⟩ := atP j b hj
      rw [e2] at q
      cases q
      obtain ⟨y, t, f1, f2⟩ := hG.pairs j b hj
      obtain ⟨u, hu, ru⟩ := kv.get e1
      have ey : u = y := by
        have f1' : its.toList[j]? = some y := by simpa using f1
        rw [hu] at f1'; cases f1'; rfl
      subst ey
      exact ⟨by show 2 ≤ sizeLine; decide, [.int ((j : Nat)) t, u], .cons ⟨_, by rw [Nat.zero_add]⟩ (.cons ru .nil), ⟨_, f2, rfl, _, rfl⟩⟩
    · by_cases hb2 : b = S
      · rw [hb2] at q ⊢
        rw [eS] at q
        cases q
        refine ⟨by rw [List.length_map]; omega, acc.toList, c, by rw [hacc]; exact LiI.vals_refs as, ?_⟩
        rw [Array.toArray_toList]
        exact hS
      · rw [off b hb hb2] at q
        exact (I.hok b u q).stay (fun d v _ y => hk d v y) (fun d y => kp d _ y) fun d xs y => kp d _ y
/-- list(enumerate(e)) -/
theorem pe_listEnum (hc : X.calm = true) (he : PE X e te) (hg : Gl X "list") (hm : X.mg "list" = none) (hv : bootBuiltins "list" = some (.type "list")) (hg2 : Gl X "enumerate") (hm2 : X.mg "enumerate" = none)
    (hs : starEach [.Call (.Name "enumerate" apos) [e] [] cpos] X.env = (false, eval (.Call (.Name "enumerate" apos) [e] [] cpos) X.env) :: starEach [] X.env := by rfl)
    (hs2 : starEach [e] X.env = [(false, eval e X.env)] := by rfl) :
    PE X (.Call (.Name "list" p) [.Call (.Name "enumerate" apos) [e] [] cpos] [] pos) (fun σ H Q => te σ H fun x H1 => rEnumL X.K x H1 Q) := by
  refine ⟨fun pins s σ H Q I hq => ?_⟩
  refine wpAny_Call_Name_kw (ld_blt I hg hm hv ?_)
  refine PyProof.Rows.callWith_type1 ?_ hs rfl
  rw [hs]
  show wpAny _ _ (spliced ((false, eval (.Call (.Name "enumerate" apos) [e] [] cpos) X.env) :: backTo pos (starEach [] X.env))) _ _ s
  refine Calls.spliced_cons ?_
  refine wpAny_Call_Name_kw (ld_blt I hg2 hm2 boot_enumerate ?_)
  refine PyProof.Rows.callWith_type1 ?_ hs2 rfl
  rw [hs2]
  refine Calls.spliced_cons (thn (he.run pins s σ H _ I hq) fun u s1 ⟨x, H1, I1, rx, d, xs, ex, hd, q⟩ => Calls.spliced_nil ?_)
  subst ex
  obtain rfl : u = Value.ref d := rx
  obtain ⟨its, rv, pl, hz⟩ := I1.list hd
  refine call_enumerate_list pl.isList fun h1 he1 hit1 hsz hk1 => ?_
  refine Calls.spliced_nil ?_
  have hdl : d < s1.heap.objs.size := let ⟨_, q, _⟩ := pl.isList; Heap.lt_size q
  refine enl_call (I1.ok.hd hc) (s := { s1 with heap := h1 }) (items := its.toArray) he1 hit1 (pl.isList.at fun o q => hk1 d o q) (Nat.succ_ne_self _) (Nat.ne_of_lt (Nat.lt_succ_of_lt hdl)) (Nat.ne_of_lt hdl) (by have := rv.length; simp; omega) fun h' tk acc c as hk hS hl hG hacc => ?_
  have hle : s1.heap.objs.size ≤ h1.objs.size := by rw [hsz]; exact Nat.le_add_right _ _
  obtain ⟨H', k1, k2, k3, k4, k5, k6, k7, k8, J⟩ := pairs_laid (tk := tk) (its := its.toArray) I1 hz (by simpa using rv) hle (fun b o q => hk b o (Nat.ne_of_lt (Nat.lt_succ_of_lt (Heap.lt_size q))) (Nat.ne_of_lt (Heap.lt_size q)) (hk1 b o q)) hS hl hG hacc
  exact ⟨.ref _, H', J, rfl, q H' _ as k1 k2 k3 k4 k5 k6 k7 k8⟩
end
end EnL
namespace L3
open PySem PySem.Spec L2
open PyProof.Rows hiding St
def enumFrom : Nat → List D → List D
  | _, [] => []
  | i, d :: ds => .tup [.int (i : Nat), d] :: enumFrom (i + 1) ds
def oEnumL (d : D) (P : D → Prop) : Prop := lstD d fun xs => P (.lst true (enumFrom 0 xs))
section
variable {K : PySem.W.Frag} {F H R : Hp} {A : FP}
theorem lstD_of {d : D} {v : V} {P : List D → Prop} (s : Same F H) (r : Rep K F H d v A) (h : lstD d P) : ∃ p vs xs, v = .ref p ∧ SqL K H p vs ∧ Reps K F H xs vs fp0 ∧ P xs := by
  cases d with
  | lst m xs =>
    obtain ⟨p, vs, rfl, e1, B1, q1, _⟩ := lst_at s r
    rw [fzs_reps xs h.1 q1] at q1
    exact ⟨p, vs, xs, rfl, SqL.of e1, q1, h.2⟩
  | scr ns =>
    obtain ⟨p, rfl, e1, z⟩ := r
    exact ⟨p, _, _, rfl, s.seq e1, reps_of_ints ns, h⟩
  | _ => exact h.elim
theorem reps_enum {F' H' : Hp} (s : Same F F') (k : ∀ a, (fp0 : FP) a ≠ 0 → H' a = H a) : ∀ (ts : List Addr) (xs : List D) (vs : List V) (i : Nat), (∀ (j : Nat) (a : Addr), ts[j]? = some a → ∃ x, vs[j]? = some x ∧ F' a = some (.tup [.int ((i + j : Nat)), x])) → ts.length = vs.length → Reps K F H xs vs fp0 → Reps K F' H' (enumFrom i xs) (ts.map V.ref) fp0
  | [], [], vs, i, h, hl, r => ⟨rfl, rfl⟩
  | [], x :: xs, vs, i, h, hl, ⟨v, vr, B, C, e, _⟩ => by subst e; simp at hl
  | t :: ts, [], vs, i, h, hl, r => by rw [r.1] at hl; simp at hl
  | t :: ts, x :: xs, _, i, h, hl, ⟨v, vr, B, C, e, r, q, z⟩ => by
    subst e
    have zB : B = fp0 := funext fun a => by have := congrFun z a; unfold fpA fp0 at this; unfold fp0; omega
    have zC : C = fp0 := funext fun a => by have := congrFun z a; unfold fpA fp0 at this; unfold fp0; omega
    subst zB zC
    obtain ⟨x', e1, e2⟩ := h 0 t rfl
    cases (show some v = some x' from e1)
    refine ⟨_, _, fp0, fp0, rfl, ⟨t, _, rfl, e2, ⟨_, _, fp0, fp0, rfl, ⟨rfl, rfl⟩, ⟨v, _, fp0, fp0, rfl, rep_mono s x k r, ⟨rfl, rfl⟩, fpA_0l.symm⟩, fpA_0l.symm⟩⟩, reps_enum s k ts xs vr (i + 1) (fun j a hj => ?_) (by simpa using hl) q, fpA_0l.symm⟩
    obtain ⟨y, e3, e4⟩ := h (j + 1) a (by simpa using hj)
    exact ⟨y, by simpa using e3, by rw [e4, show i + 1 + j = i + (j + 1) from by omega]⟩
end
section
variable {Y : Cy} {e : Expr} {w : KW} {p apos cpos pos : Pos}
theorem f_listEnum (hc : Y.X.calm = true) (he : DK Y e w) (hg : Gl Y.X "list") (hm : Y.X.mg "list" = none) (hg2 : Gl Y.X "enumerate") (hm2 : Y.X.mg "enumerate" = none)
    (hs : starEach [.Call (.Name "enumerate" apos) [e] [] cpos] Y.X.env = (false, eval (.Call (.Name "enumerate" apos) [e] [] cpos) Y.X.env) :: starEach [] Y.X.env := by rfl)
    (hs2 : starEach [e] Y.X.env = [(false, eval e Y.X.env)] := by rfl) :
    DF Y (.Call (.Name "list" p) [.Call (.Name "enumerate" apos) [e] [] cpos] [] pos) (fun ρ P => w ρ fun d => oEnumL d P) :=
  ⟨PE.imp (EnL.pe_listEnum hc he.run hg hm (by decide +kernel) hg2 hm2 hs hs2) fun σ H Q ⟨F, R, ρ, B, P, S, hw, hq, hx⟩ => ⟨F, R, ρ, B, _, S, hw, fun v H1 ⟨d, F1, A, s, k, W, r, l, p, q⟩ => by
    obtain ⟨p0, vs, xs, rfl, h1, h2, h3⟩ := lstD_of W.f r q
    refine ⟨p0, vs, rfl, h1, fun H2 n ts g1 g2 g3 g4 g5 g6 g7 g8 => ?_⟩
    have S1 := S.keep s k W p
    have hout : ∀ b o, H1 b = some o → b ≠ n ∧ b ∉ ts := fun b o e => ⟨fun z => (by rw [z, g2] at e; cases e), fun z => (by rw [g3 b z] at e; cases e)⟩
    have kp : ∀ b o, H1 b = some o → H2 b = some o := fun b o e => by rw [g1 b (hout b o e).1 (hout b o e).2]; exact e
    let F2 : Hp := fun b => if b ∈ ts then H2 b else F1 b
    have hF2 : ∀ b, b ∈ ts → F2 b = H2 b := fun b h => if_pos h
    have hF2' : ∀ b, b ∉ ts → F2 b = F1 b := fun b h => if_neg h
    have sF : Same F1 F2 := fun b o e => by rw [hF2' b (hout b o (W.f _ _ e)).2]; exact e
    have W2 : Wd F2 R H2 := by
      refine ⟨fun b o e => ?_, fun b o e => kp _ _ (W.r _ _ e), fun a o e => ?_⟩
      · by_cases h : b ∈ ts
        · rw [hF2 b h] at e; exact e
        · rw [hF2' b h] at e; exact kp _ _ (W.f _ _ e)
      · rw [hF2' a (hout a o (W.r _ _ e)).2]
        exact W.a _ _ e
    have kB : ∀ a, B a ≠ 0 → H2 a = H1 a := fun a z => by
      obtain ⟨o, e, _⟩ := S1.own a z
      rw [e]; exact kp _ _ e
    have rs : Reps Y.X.K F2 H2 (enumFrom 0 xs) (ts.map V.ref) fp0 := reps_enum (H' := H2) sF (fun a z => absurd rfl z) ts xs vs 0 (fun j a hj => by
      obtain ⟨x, e1, e2⟩ := g8 j a hj
      exact ⟨x, e1, by rw [hF2 a (List.mem_of_getElem? hj), e2, Nat.zero_add]⟩) g6 h2
    refine hq _ _ ⟨.lst true (enumFrom 0 xs), F2, fp1 n, s.trans sF, fun a z => (kB a z).trans (k a z), W2, ⟨n, _, fp0, rfl, g7, rs, by rw [fpA_0l]⟩, fun a => ?_, h3⟩
    by_cases e : a = n
    · subst e
      have z : B a = 0 := Nat.eq_zero_of_not_pos fun z => by
        obtain ⟨o, e, _⟩ := S1.own a (by omega)
        rw [g2] at e; cases e
      refine ⟨by unfold fpA fp1; rw [z]; simp, fun _ => ?_⟩
      rw [hF2' a g4]
      exact W.free g2
    · have q : fpA (fp1 n) B a = B a := by unfold fpA fp1; rw [if_neg e]; omega
      rw [q]
      refine ⟨(p a).1, fun z => ?_⟩
      obtain ⟨o, e2, _⟩ := S1.own a z
      rw [hF2' a (hout a o e2).2]
      exact (p a).2 z, hx⟩⟩
end
end L3
namespace L3
open PySem PySem.Spec L2
open PyProof.Rows hiding St
/-- the law's call at the heap behind the top, its def's promise told with the room of this layer -/
theorem law_go {P : Program} {w : World} {K : PySem.W.Frag} {mg mb : Str → Option Value} {CX : CXT} {k : Nat} {fa a : Addr} {fd : FuncData} {x : Str} {sp : Sp} {s₁ : Shared} {vs : List Value} {ns : List Int}
    (KX : K.In s₁.heap) (hns : s₁.heap.Ns mainGlobals mg) (hb : s₁.heap.Ns builtinsNs mb) (hbb : ∀ x : Str, x ≠ "__name__" → mb x = bootBuiltins x) (hlim : s₁.heap.NoLimit) (hg : s₁.gens = #[])
    (ha : s₁.heap.get? a = some { cls := .type "list", data := .seq vs.toArray }) (hi : IntsAre vs ns) (hl : ns.length ≤ sizeLine) (hr : Room k callerA)
    (F : ∀ base : Heap, K.In base → base.Ns mainGlobals mg → FnOk P w K mg base CX k fa fd [x] sp) (hbind : ∀ (s : Shared) (u : Value), BindsTo s fd ⟨[u], []⟩ [(x, u)])
    (hsp : ∀ H : Hp, Only H → SqL K H a (ns.map V.int) → sp [.ref a] H (fun v _ => v = .bl true) fun _ _ _ => False)
    (hCX : ∀ H e s', CX [] H s₁ (fun _ _ _ => False) e s' → False) :
    codeAny (model P w) callerA (.call (.ref fa) ⟨[.ref a], []⟩) (fun r s' => r = .ok (.ret (.bool true)) ∧ OldK s₁.heap s'.heap ∧ s'.os = s₁.os ∧ AllBare s'.gens) s₁ := by
  have rv := vals_ints hi
  have lenV := hi.length
  -- the heap told: nothing, or the script alone
  suffices core : ∀ H : Hp, (∀ b, H b ≠ none → b = a) → (H a ≠ none → K.lookup a = none) → Only H → SqL K H a (ns.map V.int) → HOk P w H s₁.heap →
      codeAny (model P w) callerA (.call (.ref fa) ⟨[.ref a], []⟩) (fun r s' => r = .ok (.ret (.bool true)) ∧ OldK s₁.heap s'.heap ∧ s'.os = s₁.os ∧ AllBare s'.gens) s₁ by
    cases hk : K.lookup a with
    | some o =>
      have e := KX a o hk
      rw [ha] at e
      cases e
      exact core (fun _ => none) (fun b z => absurd rfl z) (fun z => absurd rfl z) (fun _ => .inl rfl) (.inr ⟨_, vs.toArray, _, hk, rfl, rfl, rfl, by rw [List.size_toArray, lenV]; exact hl, by simpa using rv⟩) fun b u z => nomatch (show (none : Option HO) = some u from z)
    | none =>
      have at_ : ∀ b, (if b = a then some (HO.frz { cls := .type "list", data := .seq vs.toArray } (.lst (ns.map V.int))) else none) ≠ none → b = a := fun b z => Classical.byContradiction fun n => z (if_neg n)
      refine core (fun b => if b = a then some (.frz { cls := .type "list", data := .seq vs.toArray } (.lst (ns.map V.int))) else none) at_ (fun _ => hk) (fun b => ?_) (.inl (.inr ⟨_, if_pos rfl⟩)) fun b u z => ?_
      · by_cases n : b = a
        · exact .inr ⟨_, _, if_pos n⟩
        · exact .inl (if_neg n)
      · have n : b = a := at_ b (fun q => by rw [show (if b = a then some (HO.frz { cls := .type "list", data := .seq vs.toArray } (.lst (ns.map V.int))) else none) = some u from z] at q; cases q)
        subst n
        cases (if_pos rfl).symm.trans z
        exact ⟨ha, by rw [List.length_map]; exact hl, vs, _, rv, ha⟩
  intro H hA hK hO hS hok
  have free : ∀ {b : Addr}, (H b ≠ none → False) → H b = none := fun {b} n => by
    cases q : H b with
    | none => rfl
    | some u => exact (n (by rw [q]; simp)).elim
  have nsK : ∀ {b : Addr} {m : Str → Option Value}, s₁.heap.Ns b m → (hidT s₁.heap H).Ns b m := fun {b m} ⟨o, es, ep, e, d, r⟩ => ⟨o, es, ep, hidT_get e (free fun n => by
    have n' := hA b n
    subst n'
    rw [ha] at e; cases e
    cases (show Data.seq vs.toArray _ = Data.dict es ep from d)), d, r⟩
  have hKb : K.In (hidT s₁.heap H) := fun b o e => hidT_get (KX b o e) (free fun n => by
    have n' := hA b n
    subst n'
    rw [hK n] at e; cases e)
  have hM : Mod K mg (hidT s₁.heap H) := ⟨hKb, nsK hns, ⟨mb, nsK hb, hbb⟩, hlim.elim fun mc h => ⟨mc, nsK h.1, h.2⟩⟩
  have e0 : Env0 P w K mg (hidT s₁.heap H) callerA [] s₁ H := ⟨rfl, hM, fun b o e => of_hidT e, Nat.le_of_eq (hidT_size _ _), trivial, fun b hb => absurd (show b ∈ ([] : List Addr) from hb) (by simp), hok, .of_eq hg⟩
  refine codeAny_mono ((F _ hKb (nsK hns)).run callerA [] s₁ H ⟨[.ref a], []⟩ [.ref a] [.ref a] _ _ hr e0 (hbind s₁ (.ref a)) (.cons rfl .nil) (hsp H hO hS)) fun r s' h => ?_
  match r, h with
  | .error e, h => exact (hCX H e s' h).elim
  | .ok (.ret u), h =>
    obtain ⟨v, H', os, bare, un, hok', r', q⟩ := h
    have q' : v = .bl true := q
    subst q'
    obtain rfl : u = Value.bool true := r'
    refine ⟨rfl, OldK.of_keep fun b o e => ?_, os, bare⟩
    rcases hO b with z | ⟨ob, xs, z⟩
    · exact un.keep b o e z (by intro z; exact absurd (show b ∈ ([] : List Addr) from z) (by simp)) (by simp)
    · obtain ⟨e1, _⟩ := hok b _ z
      obtain ⟨e2, _⟩ := hok' b _ (un.frzs b ob _ z)
      rw [e] at e1; cases e1
      exact e2
/-- a law's end over a head by facts, the bits of the numbers told -/
theorem walk_ofEB {l : PySem.W.OpenLaw} {n k : Nat} {q : Program} {loose : List Str} {XP : (Str → Option Value) → Heap → Prop} {YP : World → Heap → Prop} {d : DefRec} {CX : CXT} {x : Str}
    (hn : l.most = some n) (hn2 : n ≤ sizeLine) (hdf : d.params.defaults = []) (hr : Room k callerA)
    (F : ∀ (w : World) (mg : Str → Option Value) (fa : Addr) (h : Heap), YP w h → h.Ns mainGlobals mg → mg d.name = some (.ref fa) →
      ∃ (K : PySem.W.Frag) (fd : FuncData) (sp : Sp), K.In h ∧ (∀ (s : Shared) (u : Value), BindsTo s fd ⟨[u], []⟩ [(x, u)]) ∧
        (∀ (H : Hp) (a : Addr) (ns : List Int), ns.length ≤ n → (∀ z ∈ ns, Builtin.Int.intBits z ≤ 1048576) → Only H → SqL K H a (ns.map V.int) → sp [.ref a] H (fun v _ => v = .bl true) fun _ _ _ => False) ∧
        ∀ base : Heap, K.In base → base.Ns mainGlobals mg → FnOk l.prog w K mg base CX k fa fd [x] sp)
    (hCX : ∀ (H : Hp) (s : Shared) (e : Value) (s' : Shared), CX [] H s (fun _ _ _ => False) e s' → False) :
    PySem.W.WalkO q loose XP YP l.row.toRowW d [] (fun f vs => PySem.call f vs) := by
  refine Att.attach_callB hn hdf fun w s₀ s₁ mg mb fa o pm cd doc a vs ns G Y ho hd hcd hmg hobj hints hlen hbits hg => ?_
  obtain ⟨K, fd, sp, KX, hb, hsp, hF⟩ := F w mg fa _ Y G.T.g hmg
  exact law_go KX G.T.g G.T.b G.T.builtins G.T.nolimit hg hobj hints (Nat.le_trans hlen hn2) hr hF hb (fun H hO hS => hsp H a ns hlen hbits hO hS) fun H e s' => hCX H s₁ e s'
end L3
namespace L3
open PySem PySem.Spec L2
open PyProof.Rows hiding St
section
variable {Y : Cy} {F F1 R H H1 : Hp} {ρ : Env} {σ σ1 : St} {A B : FP} {K : En} {Z : Ends} {e a b c tg : Expr} {ew : DW}
/-- a list, a tuple, a text: what is walked is frozen -/
def seqAny (d : D) (P : List D → Prop) : Prop := match d with
  | .lst _ ds => P (frzs ds)
  | .tup ds => P (frzs ds)
  | .str x => P (signs x)
  | _ => False
theorem i_any (h : DE Y e ew) : DI Y tg e (fun ρ P => ew ρ fun d ρ1 => seqAny d fun ds => P ds ρ1) :=
  ⟨PI.imp (pi_seqA h.run) fun σ H Q ⟨F, R, ρ, B, P, S, hw, hq, hx⟩ => ⟨F, R, ρ, B, _, S, hw, fun v H1 ⟨d, ρ1, F1, A, B1, s, W, r, sl, p, q⟩ => by
    cases d with
    | lst m ds =>
      obtain ⟨F2, s2, W2, r2, sl2, p2⟩ := frz_tmp W r sl p
      obtain ⟨a, vs, ev, ha, rs⟩ := r2
      exact .inl ⟨a, ev, ⟨vs, SqL.of (W2.f _ _ ha)⟩, hq _ _ ⟨frzs ds, ρ1, F2, B1, s.trans s2, W2, sl2, p2, walk_lst ha rs, q⟩⟩
    | tup ds =>
      obtain ⟨F2, s2, W2, r2, sl2, p2⟩ := frz_tmp W r sl p
      obtain ⟨a, vs, ev, ha, rs⟩ := r2
      exact .inr (.inl ⟨a, ev, ⟨vs, SqT.of (W2.f _ _ ha)⟩, hq _ _ ⟨frzs ds, ρ1, F2, B1, s.trans s2, W2, sl2, p2, walk_tup ha rs, q⟩⟩)
    | str x => exact .inr (.inr ⟨x, r.1, hq _ _ ⟨signs x, ρ1, F1, B1, s, W, sl, p.mono fun a => by unfold fpA; omega, walk_str, q⟩⟩)
    | _ => exact q.elim, hx⟩⟩
end
/-- which slots stand: read off -/
theorem hT_of {fl : List Bool} {T : List Nat} (h : ((List.range fl.length).all fun i => !(fl[i]? == some true) || decide (i ∈ T)) = true) : ∀ i : Nat, fl[i]? = some true → i ∈ T := fun i e => by
  have hi : i < fl.length := (List.getElem?_eq_some_iff.mp e).1
  have := List.all_eq_true.mp h i (List.mem_range.mpr hi)
  rw [e] at this
  simpa using this
/-- a def of the text, its parts proved: the promise -/
abbrev RdTy (N : List Str) (T : List Nat) (qual : Str) (st : Stmt) (k : Nat) (P : Program) (w : World) (K : PySem.W.Frag) (mg : Str → Option Value) (base : Heap) (wb : SW) : Prop :=
  ∀ (f : Addr) (cdv : Value) (A : Around) (outer : List PySem.Env) (s : Shared) (H : Hp) (E : XK), Room k (A.deeper (envOfC qual (defScope st) s.heap.objs.size f cdv)) → DSs (cy0 P w K mg base N T qual st f cdv A outer s H E) (defBody st) wb
end L3
namespace L3
open PySem PySem.Spec L2
open PyProof.Rows hiding St
/-! ### built-ins by their names -/
section
variable {Y : Cy} {e a b c d : Expr} {es : List Expr} {w wa wb : KW} {wl : LW} {ew : DW} {el : LE} {p pos cpos apos : Pos} {x : Str} {id : String} {r : List V → Hp → VK → Prop} {o : List D → (D → Prop) → Prop}
theorem k_blt (hc : CallR Y.X (.builtin id) r) (hk : OpNS Y.X.K r o) (hm : Y.X.mg x = none) (hv : bootBuiltins x = some (.builtin id)) (ha : DL Y (e :: es) wl) (hg : Gl Y.X x := by rfl) (hn : x ≠ "__name__" := by decide) (hdb : (x == ("__debug__" : Str)) = false := by decide)
    (he : starEach (e :: es) Y.X.env = (false, eval e Y.X.env) :: starEach es Y.X.env := by rfl) (hpl : (backTo pos (starEach es Y.X.env)).any (·.1) = false := by rfl) : DK Y (.Call (.Name x p) (e :: es) [] pos) (fun ρ P => wl ρ fun ds => o ds P) :=
  k_call (fun t ht => pe_callB hc hg hm hv ht hn hdb he hpl) hk ha
theorem f_blt (hc : CallR Y.X (.builtin id) r) (hk : OpNF Y.X.K r o) (hm : Y.X.mg x = none) (hv : bootBuiltins x = some (.builtin id)) (ha : DL Y (e :: es) wl) (hg : Gl Y.X x := by rfl) (hn : x ≠ "__name__" := by decide) (hdb : (x == ("__debug__" : Str)) = false := by decide)
    (he : starEach (e :: es) Y.X.env = (false, eval e Y.X.env) :: starEach es Y.X.env := by rfl) (hpl : (backTo pos (starEach es Y.X.env)).any (·.1) = false := by rfl) : DF Y (.Call (.Name x p) (e :: es) [] pos) (fun ρ P => wl ρ fun ds => o ds P) :=
  f_call (fun t ht => pe_callB hc hg hm hv ht hn hdb he hpl) hk ha
theorem e_blt (hc : CallR Y.X (.builtin id) r) (hk : OpNF Y.X.K r o) (hm : Y.X.mg x = none) (hv : bootBuiltins x = some (.builtin id)) (ha : DA Y (e :: es) el) (hg : Gl Y.X x := by rfl) (hn : x ≠ "__name__" := by decide) (hdb : (x == ("__debug__" : Str)) = false := by decide)
    (he : starEach (e :: es) Y.X.env = (false, eval e Y.X.env) :: starEach es Y.X.env := by rfl) (hpl : (backTo pos (starEach es Y.X.env)).any (·.1) = false := by rfl) : DE Y (.Call (.Name x p) (e :: es) [] pos) (fun ρ P => el ρ fun ds ρ1 => o ds fun d => P d ρ1) :=
  e_call (fun t ht => pe_callB hc hg hm hv ht hn hdb he hpl) hk ha
theorem k_ty (hc : CallR Y.X (.type id) r) (hk : OpNS Y.X.K r o) (hm : Y.X.mg x = none) (hv : bootBuiltins x = some (.type id)) (ha : DL Y (e :: es) wl) (hg : Gl Y.X x := by rfl) (hn : x ≠ "__name__" := by decide) (hdb : (x == ("__debug__" : Str)) = false := by decide)
    (he : starEach (e :: es) Y.X.env = (false, eval e Y.X.env) :: starEach es Y.X.env := by rfl) (hpl : (backTo pos (starEach es Y.X.env)).any (·.1) = false := by rfl) : DK Y (.Call (.Name x p) (e :: es) [] pos) (fun ρ P => wl ρ fun ds => o ds P) :=
  k_call (fun t ht => pe_callTy hc hg hm hv ht hn hdb he hpl) hk ha
theorem f_ty (hc : CallR Y.X (.type id) r) (hk : OpNF Y.X.K r o) (hm : Y.X.mg x = none) (hv : bootBuiltins x = some (.type id)) (ha : DL Y (e :: es) wl) (hg : Gl Y.X x := by rfl) (hn : x ≠ "__name__" := by decide) (hdb : (x == ("__debug__" : Str)) = false := by decide)
    (he : starEach (e :: es) Y.X.env = (false, eval e Y.X.env) :: starEach es Y.X.env := by rfl) (hpl : (backTo pos (starEach es Y.X.env)).any (·.1) = false := by rfl) : DF Y (.Call (.Name x p) (e :: es) [] pos) (fun ρ P => wl ρ fun ds => o ds P) :=
  f_call (fun t ht => pe_callTy hc hg hm hv ht hn hdb he hpl) hk ha
theorem e_ty (hc : CallR Y.X (.type id) r) (hk : OpNF Y.X.K r o) (hm : Y.X.mg x = none) (hv : bootBuiltins x = some (.type id)) (ha : DA Y (e :: es) el) (hg : Gl Y.X x := by rfl) (hn : x ≠ "__name__" := by decide) (hdb : (x == ("__debug__" : Str)) = false := by decide)
    (he : starEach (e :: es) Y.X.env = (false, eval e Y.X.env) :: starEach es Y.X.env := by rfl) (hpl : (backTo pos (starEach es Y.X.env)).any (·.1) = false := by rfl) : DE Y (.Call (.Name x p) (e :: es) [] pos) (fun ρ P => el ρ fun ds ρ1 => o ds fun d => P d ρ1) :=
  e_call (fun t ht => pe_callTy hc hg hm hv ht hn hdb he hpl) hk ha
end
theorem bl_len : bootBuiltins "len" = some (.builtin "len") := by decide +kernel
theorem bl_abs : bootBuiltins "abs" = some (.builtin "abs") := by decide +kernel
theorem bl_min : bootBuiltins "min" = some (.builtin "min") := by decide +kernel
theorem bl_max : bootBuiltins "max" = some (.builtin "max") := by decide +kernel
theorem bl_sum : bootBuiltins "sum" = some (.builtin "sum") := by decide +kernel
theorem bl_sorted : bootBuiltins "sorted" = some (.builtin "sorted") := by decide +kernel
theorem bl_int : bootBuiltins "int" = some (.type "int") := by decide +kernel
theorem bl_bool : bootBuiltins "bool" = some (.type "bool") := by decide +kernel
theorem bl_str : bootBuiltins "str" = some (.type "str") := by decide +kernel
theorem bl_list : bootBuiltins "list" = some (.type "list") := by decide +kernel
theorem bl_tuple : bootBuiltins "tuple" = some (.type "tuple") := by decide +kernel
theorem bl_dict : bootBuiltins "dict" = some (.type "dict") := by decide +kernel
/-! ### lists by their methods -/
section
variable {Y : Cy} {e x0 : Expr} {es : List Expr} {el : LE} {pw : PW'} {wl : LW} {p cpos apos : Pos} {x : Str} {i : Nat}
theorem e_append (i : Nat) (ha : DA Y (e :: es) el) (hN : Y.X.N[i]? = some x := by rfl) (hv : Vis Y.X.env.scope x := by first | exact Or.inl rfl | exact Or.inr (Or.inl rfl) | exact Or.inr (Or.inr rfl)) (hd : (x == ("__debug__" : Str)) = false := by decide) (hcd : (x == ("__classdict__" : Str)) = false := by decide)
    (hbase : attributeBase (.Name x p) "append" Y.X.env (eval (.Name x p) Y.X.env) = eval (.Name x p) Y.X.env := by rfl)
    (hfew : ((backTo cpos (starEach (e :: es) Y.X.env)).all (fun x => !x.1) && (backToKw cpos (keywordEach [] Y.X.env)).all (fun x => x.1.isSome)
      && decide ((e :: es).length + ([] : List Keyword).length + (if ([] : List Keyword).isEmpty then 0 else 1) < 30)) = true := by rfl)
    (hline : (apos.endLine == cpos.line) = true := by rfl) (hs : starEach (e :: es) Y.X.env = (false, eval e Y.X.env) :: starEach es Y.X.env := by rfl) (hplain : (backTo cpos (starEach es Y.X.env)).any (·.1) = false := by rfl) :
    DE Y (.Call (.Attribute (.Name x p) "append" apos) (e :: es) [] cpos) (fun ρ Q => (gv ρ i isLst) ∧ el ρ fun ds ρ1 => (gv ρ1 i isLst) ∧ mutL oAppend i [] ds ρ1 Q) :=
  e_mut1 i PySem.F.slot_list_append PySem.F.type_list_append mt_append mut_append ha hN hv hd hcd hbase hfew hline hs hplain
theorem e_extend (i : Nat) (ha : DA Y (e :: es) el) (hN : Y.X.N[i]? = some x := by rfl) (hv : Vis Y.X.env.scope x := by first | exact Or.inl rfl | exact Or.inr (Or.inl rfl) | exact Or.inr (Or.inr rfl)) (hd : (x == ("__debug__" : Str)) = false := by decide) (hcd : (x == ("__classdict__" : Str)) = false := by decide)
    (hbase : attributeBase (.Name x p) "extend" Y.X.env (eval (.Name x p) Y.X.env) = eval (.Name x p) Y.X.env := by rfl)
    (hfew : ((backTo cpos (starEach (e :: es) Y.X.env)).all (fun x => !x.1) && (backToKw cpos (keywordEach [] Y.X.env)).all (fun x => x.1.isSome)
      && decide ((e :: es).length + ([] : List Keyword).length + (if ([] : List Keyword).isEmpty then 0 else 1) < 30)) = true := by rfl)
    (hline : (apos.endLine == cpos.line) = true := by rfl) (hs : starEach (e :: es) Y.X.env = (false, eval e Y.X.env) :: starEach es Y.X.env := by rfl) (hplain : (backTo cpos (starEach es Y.X.env)).any (·.1) = false := by rfl) :
    DE Y (.Call (.Attribute (.Name x p) "extend" apos) (e :: es) [] cpos) (fun ρ Q => (gv ρ i isLst) ∧ el ρ fun ds ρ1 => (gv ρ1 i isLst) ∧ mutL oExtend i [] ds ρ1 Q) :=
  e_mut1 i PySem.F.slot_list_extend PySem.F.type_list_extend mt_extend mut_extend ha hN hv hd hcd hbase hfew hline hs hplain
theorem e_popAt (i : Nat) (ha : DA Y (e :: es) el) (hN : Y.X.N[i]? = some x := by rfl) (hv : Vis Y.X.env.scope x := by first | exact Or.inl rfl | exact Or.inr (Or.inl rfl) | exact Or.inr (Or.inr rfl)) (hd : (x == ("__debug__" : Str)) = false := by decide) (hcd : (x == ("__classdict__" : Str)) = false := by decide)
    (hbase : attributeBase (.Name x p) "pop" Y.X.env (eval (.Name x p) Y.X.env) = eval (.Name x p) Y.X.env := by rfl)
    (hfew : ((backTo cpos (starEach (e :: es) Y.X.env)).all (fun x => !x.1) && (backToKw cpos (keywordEach [] Y.X.env)).all (fun x => x.1.isSome)
      && decide ((e :: es).length + ([] : List Keyword).length + (if ([] : List Keyword).isEmpty then 0 else 1) < 30)) = true := by rfl)
    (hline : (apos.endLine == cpos.line) = true := by rfl) (hs : starEach (e :: es) Y.X.env = (false, eval e Y.X.env) :: starEach es Y.X.env := by rfl) (hplain : (backTo cpos (starEach es Y.X.env)).any (·.1) = false := by rfl) :
    DE Y (.Call (.Attribute (.Name x p) "pop" apos) (e :: es) [] cpos) (fun ρ Q => (gv ρ i isLst) ∧ el ρ fun ds ρ1 => (gv ρ1 i isLst) ∧ mutL oPopAt i [] ds ρ1 Q) :=
  e_mut1 i PySem.F.slot_list_pop PySem.F.type_list_pop mt_popAt mut_popAt ha hN hv hd hcd hbase hfew hline hs hplain
theorem e_pop0 (ho : DP Y x0 i pw) (hbase : attributeBase x0 "pop" Y.X.env (eval x0 Y.X.env) = eval x0 Y.X.env := by rfl) (hline : (apos.endLine == cpos.line) = true := by rfl) :
    DE Y (.Call (.Attribute x0 "pop" apos) [] [] cpos) (fun ρ Q => pw ρ fun st => mutL oPop i st [] ρ Q) :=
  e_mut0 (x := "") i PySem.F.slot_list_pop PySem.F.type_list_pop mt_pop mut_pop ho hbase hline
end
end L3
namespace L3
open PySem PySem.Spec L2
theorem u65 {k : Nat} {A : Around} (hr : Room k A) : A.units + 65 < cLine := by have := hr.un; omega
theorem nT {i : Nat} {T : List Nat} (h : T.contains i = false) : i ∉ T := by
  intro hm
  rw [List.contains_iff_mem.mpr hm] at h
  cases h
theorem nB {n i : Nat} {vs : List Nat} (h : vs.contains i = true) : i ∉ (List.range n).filter fun i => decide (i ∉ vs) := by
  intro hm
  have := (List.mem_filter.mp hm).2
  simp at this
  exact this (List.contains_iff_mem.mp h)
end L3
namespace L3
open PySem PySem.Spec L2
open PyProof.Rows hiding St
/-! is True, is False -/
def oIsB (neg : Bool) : D → D → (D → Prop) → Prop
  | .bl a, .bl b, P => P (.bl (if neg = true then !decide (a = b) else decide (a = b)))
  | _, _, _ => False
theorem op2_isB {K} : Op2S K rIsB (oIsB false) := fun {F H A1 A2 x y d1 d2 P Q} s r1 r2 w q => by
  cases d1 with
  | bl a =>
    cases d2 with
    | bl b =>
      obtain ⟨rfl, _⟩ := r1
      obtain ⟨rfl, _⟩ := r2
      exact ⟨a, b, rfl, rfl, q _ ⟨.bl _, fun _ _ => rep_bl, w⟩⟩
    | _ => exact w.elim
  | _ => exact w.elim
theorem op2_notB {K} : Op2S K rNotB (oIsB true) := fun {F H A1 A2 x y d1 d2 P Q} s r1 r2 w q => by
  cases d1 with
  | bl a =>
    cases d2 with
    | bl b =>
      obtain ⟨rfl, _⟩ := r1
      obtain ⟨rfl, _⟩ := r2
      exact ⟨a, b, rfl, rfl, q _ ⟨.bl _, fun _ _ => rep_bl, w⟩⟩
    | _ => exact w.elim
  | _ => exact w.elim
/-! a < b < c -/
section
variable {Y : Cy} {a b c : Expr} {wa wb wc : KW} {pos : Pos} {r r' : R2} {o o' : D → D → (D → Prop) → Prop}
theorem k_chain {op op' : CmpOp} (ho : OpR Y.X (compareOp op) r) (hk : Op2S Y.X.K r o) (ho' : OpR Y.X (compareOp op') r') (hk' : Op2S Y.X.K r' o') (ha : DK Y a wa) (hb : DK Y b wb) (hc : DK Y c wc) (hm : lastMarks [op, op'] [b, c] = false := by with_unfolding_all rfl) :
    DK Y (.Compare a [op, op'] [b, c] pos) (fun ρ P => wa ρ fun x => wb ρ fun y => o x y fun z => bb z fun k => if k = true then wc ρ fun v => o' y v P else P (.bl false)) :=
  ⟨PE.imp (pe_chain ho ho' ha.run hb.run hc.run hm) fun σ H Q ⟨F, R, ρ, B, P, S, hw, hq, hx⟩ => ⟨F, R, ρ, B, _, S, hw, fun x H1 ⟨d1, F1, A1, s1, k1, W1, r1, l1, p1, q1⟩ => by
    have S1 := S.keep s1 k1 W1 p1
    refine ⟨F1, R, ρ, B, _, S1, q1, fun y H2 ⟨d2, F2, A2, s2, k2, W2, r2, l2, p2, q2⟩ => ?_, hx.grow s1⟩
    have S2 := S1.keep s2 k2 W2 p2
    have r1' : Rep Y.X.K F2 H2 d1 x A1 := rep_mono s2 d1 (fun a n => k2 a (by have := l1 a; omega)) r1
    refine hk W2.f r1' r2 q2 fun z ⟨dz, rz, qz⟩ => ?_
    obtain ⟨t, et, qk⟩ := bb_some qz
    subst et
    have qk : if t = true then wc ρ fun v => o' d2 v P else P (.bl false) := qk
    refine ⟨t, (rz F2 H2).1, ?_⟩
    by_cases ht : t = true
    · rw [if_pos ht] at qk ⊢
      refine ⟨F2, R, ρ, B, _, S2, qk, fun v H3 ⟨d3, F3, A3, s3, k3, W3, r3, l3, p3, q3⟩ => ?_, (hx.grow s1).grow s2⟩
      have r2' : Rep Y.X.K F3 H3 d2 y A2 := rep_mono s3 d2 (fun a n => k3 a (by have := l2 a; omega)) r2
      exact hk' W3.f r2' r3 q3 fun u ⟨du, ru, qu⟩ => hq u _ ⟨du, F3, fp0, s1.trans (s2.trans s3), fun a n => (k3 a n).trans ((k2 a n).trans (k1 a n)), W3, ru _ _, fp0_le, p3, qu⟩
    · rw [if_neg ht] at qk ⊢
      exact hq _ _ ⟨.bl false, F2, fp0, s1.trans s2, fun a n => (k2 a n).trans (k1 a n), W2, rep_bl, fp0_le, p2, qk⟩, hx⟩⟩
end
/-! l.remove(an int) -/
def oRemove (xs ds : List D) (P : D → List D → Prop) : Prop := match ds with
  | [.int k] => mb (asInts xs) fun ns => ∃ j : Nat, ns[j]? = some k ∧ (∀ m : Nat, m < j → ns[m]? ≠ some k) ∧ P .non ((ns.eraseIdx j).map .int)
  | _ => False
theorem mut_remove {K} : MutOk K rRemI oRemove := fun {F H l us vs xs ds A1 A2 P Q} s h r1 r2 o q => by
  unfold oRemove at o
  split at o
  · rename_i k
    obtain ⟨ns, e, j, h1, h2, h3⟩ := mb_some o
    obtain ⟨v, vr, B, C, rfl, ⟨rfl, z1⟩, ⟨rfl, z2⟩, z⟩ := r2
    rw [asInts_eq e] at r1
    obtain ⟨e1, e2⟩ := reps_ints r1
    subst e1 e2
    exact ⟨l, ns, k, j, rfl, rfl, h, h1, h2, q _ _ ⟨.non, _, fp0, fp0, rep_non, reps_of_ints _, fun a => by unfold fp0; omega, h3⟩⟩
  · exact o.elim
section
variable {Y : Cy} {e x0 : Expr} {es : List Expr} {el : LE} {pw : PW'} {wl : LW} {p cpos apos : Pos} {x : Str} {i : Nat}
theorem e_remove (i : Nat) (ha : DA Y (e :: es) el) (hN : Y.X.N[i]? = some x := by rfl) (hv : Vis Y.X.env.scope x := by first | exact Or.inl rfl | exact Or.inr (Or.inl rfl) | exact Or.inr (Or.inr rfl)) (hd : (x == ("__debug__" : Str)) = false := by decide) (hcd : (x == ("__classdict__" : Str)) = false := by decide)
    (hbase : attributeBase (.Name x p) "remove" Y.X.env (eval (.Name x p) Y.X.env) = eval (.Name x p) Y.X.env := by rfl)
    (hfew : ((backTo cpos (starEach (e :: es) Y.X.env)).all (fun x => !x.1) && (backToKw cpos (keywordEach [] Y.X.env)).all (fun x => x.1.isSome)
      && decide ((e :: es).length + ([] : List Keyword).length + (if ([] : List Keyword).isEmpty then 0 else 1) < 30)) = true := by rfl)
    (hline : (apos.endLine == cpos.line) = true := by rfl) (hs : starEach (e :: es) Y.X.env = (false, eval e Y.X.env) :: starEach es Y.X.env := by rfl) (hplain : (backTo cpos (starEach es Y.X.env)).any (·.1) = false := by rfl) :
    DE Y (.Call (.Attribute (.Name x p) "remove" apos) (e :: es) [] cpos) (fun ρ Q => (gv ρ i isLst) ∧ el ρ fun ds ρ1 => (gv ρ1 i isLst) ∧ mutL oRemove i [] ds ρ1 Q) :=
  e_mut1 i PySem.F.slot_list_remove PySem.F.type_list_remove mt_remove mut_remove ha hN hv hd hcd hbase hfew hline hs hplain
theorem e_clear (ho : DP Y x0 i pw) (hbase : attributeBase x0 "clear" Y.X.env (eval x0 Y.X.env) = eval x0 Y.X.env := by rfl) (hline : (apos.endLine == cpos.line) = true := by rfl) :
    DE Y (.Call (.Attribute x0 "clear" apos) [] [] cpos) (fun ρ Q => pw ρ fun st => mutL oClear i st [] ρ Q) :=
  e_mut0 (x := "") i PySem.F.slot_list_clear PySem.F.type_list_clear mt_clear mut_clear ho hbase hline
theorem e_appendP (ho : DP Y x0 i pw) (ha : DL Y (e :: es) wl) (hbase : attributeBase x0 "append" Y.X.env (eval x0 Y.X.env) = eval x0 Y.X.env := by rfl)
    (hfew : ((backTo cpos (starEach (e :: es) Y.X.env)).all (fun x => !x.1) && (backToKw cpos (keywordEach [] Y.X.env)).all (fun x => x.1.isSome)
      && decide ((e :: es).length + ([] : List Keyword).length + (if ([] : List Keyword).isEmpty then 0 else 1) < 30)) = true := by rfl)
    (hline : (apos.endLine == cpos.line) = true := by rfl) (hs : starEach (e :: es) Y.X.env = (false, eval e Y.X.env) :: starEach es Y.X.env := by rfl) (hplain : (backTo cpos (starEach es Y.X.env)).any (·.1) = false := by rfl) :
    DE Y (.Call (.Attribute x0 "append" apos) (e :: es) [] cpos) (fun ρ Q => pw ρ fun st => mb (getE ρ i st) fun d => isLst d ∧ wl ρ fun ds => fzs ds = true ∧ mutL oAppend i st ds ρ Q) :=
  e_mut2 PySem.F.slot_list_append PySem.F.type_list_append mt_append mut_append ho ha hbase hfew hline hs hplain
end
/-! dict(a list of pairs) -/
def pairKV : D → Option (KD × D)
  | .tup [k, v] => (keyD .k k).map fun k => (k, v)
  | _ => none
def pairsKV : List D → Option (List (KD × D))
  | [] => some []
  | d :: ds => match pairKV d, pairsKV ds with
    | some p, some ps => some (p :: ps)
    | _, _ => none
def mergeD (ps : List (KD × D)) : List (KD × D) := ps.foldl (fun acc p => kput acc p.1 p.2) []
def oDictP (ds : List D) (P : D → Prop) : Prop := one ds fun d => match d with
  | .lst _ xs => fzs xs = true ∧ mb (pairsKV xs) fun ps => P (.dic .ow .k (mergeD ps))
  | _ => False
section
variable {K : PySem.W.Frag} {F H : Hp}
theorem fpz {A B : FP} (h : fp0 = fpA A B) : A = fp0 ∧ B = fp0 := ⟨funext fun a => by have := congrFun h a; unfold fpA fp0 at this; unfold fp0; omega, funext fun a => by have := congrFun h a; unfold fpA fp0 at this; unfold fp0; omega⟩
theorem pairs_rep (s : Same F H) : ∀ {xs : List D} {us : List V} {ps : List (KD × D)}, Reps K F H xs us fp0 → pairsKV xs = some ps →
    ∃ (as : List Addr) (kvs : List (Key × V)), us = as.map V.ref ∧ Paired (fun p kv => SqT K H p [kV kv.1, kv.2]) as kvs ∧ Repk K F H ps (kvs.map fun q => (keyKD q.1, q.2)) fp0
  | [], us, ps, r, h => by
    cases h
    exact ⟨[], [], r.1, .nil, ⟨rfl, rfl⟩⟩
  | x :: xs, us, ps, ⟨v, vr, A, B, e, r, q, z⟩, h => by
    subst e
    obtain ⟨rfl, rfl⟩ := fpz z
    unfold pairsKV at h
    cases h1 : pairKV x with
    | none => rw [h1] at h; cases h
    | some p =>
      cases h2 : pairsKV xs with
      | none => rw [h1, h2] at h; cases h
      | some ps' =>
        rw [h1, h2] at h
        cases h
        obtain ⟨as, kvs, e1, e2, e3⟩ := pairs_rep s q h2
        unfold pairKV at h1
        split at h1
        · rename_i k v
          simp only [Option.map_eq_some_iff, keyD] at h1
          obtain ⟨k0, ⟨k1, e5, rfl⟩, rfl⟩ := h1
          obtain ⟨a, ws, rfl, e6, ⟨x1, w1, C1, C2, rfl, r1, ⟨x2, w2, C3, C4, rfl, r2, ⟨rfl, z4⟩, z3⟩, z2⟩⟩ := r
          obtain ⟨rfl, e7⟩ := fpz z2
          rw [e7] at z3
          obtain ⟨rfl, _⟩ := fpz z3
          have ek := flatK_rep e5 r1
          subst ek
          refine ⟨a :: as, (k1, x2) :: kvs, by rw [e1]; rfl, .cons (SqT.of (s _ _ e6)) e2, ?_⟩
          exact ⟨x2, _, fp0, fp0, rfl, r2, e3, fpA_0l.symm⟩
        · cases h1
theorem repk_kput : ∀ {ps : List (KD × D)} {kvs : List (KD × V)} {k : KD} {d : D} {v : V}, Repk K F H ps kvs fp0 → Rep K F H d v fp0 → Repk K F H (kput ps k d) (kput kvs k v) fp0
  | [], kvs, k, d, v, r, rd => by
    obtain ⟨rfl, _⟩ := r
    exact ⟨v, [], fp0, fp0, rfl, rd, ⟨rfl, rfl⟩, fpA_0l.symm⟩
  | (k0, d0) :: ps, kvs, k, d, v, ⟨w, wr, A, B, e, r, q, z⟩, rd => by
    subst e
    obtain ⟨rfl, rfl⟩ := fpz z
    by_cases h : k0 = k
    · simp only [kput, h, if_true]
      exact ⟨v, wr, fp0, fp0, rfl, rd, q, fpA_0l.symm⟩
    · simp only [kput, if_neg h]
      exact ⟨w, _, fp0, fp0, rfl, r, repk_kput q rd, fpA_0l.symm⟩
theorem merge_rep : ∀ {ps : List (KD × D)} {kvs : List (Key × V)} {acc : List (KD × D)} {av : List (Key × V)}, Repk K F H ps (kvs.map fun q => (keyKD q.1, q.2)) fp0 → Repk K F H acc (av.map fun q => (keyKD q.1, q.2)) fp0 → ((av.map fun q => (keyKD q.1, q.2)).map (·.1)).Nodup →
    Repk K F H (ps.foldl (fun acc p => kput acc p.1 p.2) acc) ((mergeK av kvs).map fun q => (keyKD q.1, q.2)) fp0 ∧ (((mergeK av kvs).map fun q => (keyKD q.1, q.2)).map (·.1)).Nodup
  | [], kvs, acc, av, r, ra, hn => by
    have : kvs = [] := by
      have := r.1
      simpa using this
    subst this
    exact ⟨ra, hn⟩
  | (k, d) :: ps, kvs, acc, av, ⟨v, vr, A, B, e, r, q, z⟩, ra, hn => by
    obtain ⟨rfl, rfl⟩ := fpz z
    cases kvs with
    | nil => cases e
    | cons kv kvs =>
      simp only [List.map_cons, List.cons.injEq, Prod.mk.injEq] at e
      obtain ⟨⟨rfl, rfl⟩, rfl⟩ := e
      have e2 := kput_map (f := keyKD) (fun a b e => keyKD_inj e) kv.1 kv.2 av (by rw [List.map_map] at hn; exact hn)
      have ra2 := repk_kput (k := keyKD kv.1) ra r
      rw [e2] at ra2
      have hn2 := kput_nodup (k := keyKD kv.1) (v := kv.2) hn
      rw [e2] at hn2
      exact merge_rep (ps := ps) (kvs := kvs) q ra2 hn2
theorem opn_dictP : OpNF K (fun xs H Q => ∃ (a : Addr) (ps : List Addr) (kvs : List (Key × V)), xs = [.ref a] ∧ SqL K H a (ps.map V.ref) ∧ Paired (fun p kv => SqT K H p [kV kv.1, kv.2]) ps kvs ∧ ∀ p, H p = none → Q (.ref p) (upd H p (.dK (mergeK [] kvs)))) oDictP := fun {F R H G vs ds P Q} W ow S b w q => by
  obtain ⟨d, rfl, w⟩ := one_of w
  obtain ⟨v, vr, rfl, ⟨A, r, l⟩, rfl⟩ := b
  cases d with
  | lst m xs =>
    obtain ⟨p0, us, rfl, e1, B, q1, _⟩ := lst_at W.f r
    rw [fzs_reps xs w.1 q1] at q1
    obtain ⟨ps, ep, w2⟩ := mb_some w.2
    obtain ⟨as, kvs, rfl, h2, h3⟩ := pairs_rep W.f q1 ep
    refine ⟨p0, as, kvs, rfl, SqL.of e1, h2, fun n hn => ?_⟩
    obtain ⟨m1, m2⟩ := merge_rep (acc := []) (av := []) h3 ⟨rfl, rfl⟩ List.nodup_nil
    refine q _ _ ⟨.dic .ow .k (mergeD ps), F, fp1 n, Same.refl F, keep_new ow hn, W.mine hn, ⟨n, _, _, fp0, rfl, upd_same, ⟨m2, _, rfl, rfl⟩, repk_mono (Same.refl F) _ (fun a z => absurd rfl z) m1, by rw [fpA_0l]⟩, by rw [fpA_comm]; exact S.mine W ow hn, w2⟩
  | _ => exact w.elim
end
/-! xs[::-1] -/
section
variable {Y : Cy} {e : Expr} {w : KW} {pos : Pos}
theorem f_rev {k : Nat} {p1 p2 p3 : Pos} (h : DK Y e w) : DF Y (.Subscript e (.Slice none none (some (.UnaryOp .USub (.Constant (.int 1) k p1) p2)) p3) pos) (fun ρ P => w ρ fun d => lstD d fun xs => P (.lst true xs.reverse)) :=
  ⟨PE.imp (pe_revL h.run) fun σ H Q ⟨F, R, ρ, B, P, S, hw, hq, hx⟩ => ⟨F, R, ρ, B, _, S, hw, fun v H1 ⟨d, F1, A, s, k, W, r, l, p, q⟩ => by
    have hf : ∀ ds, lstD d (fun xs => xs = ds) → fzs ds = true := by
      intro ds hd
      cases d with
      | lst m xs => obtain ⟨h1, h2⟩ := hd; subst h2; exact h1
      | scr ns => cases hd; exact fzs_ints ns
      | _ => exact hd.elim
    obtain ⟨p0, vs, xs, rfl, h1, h2, h3, h4⟩ := lstD_of (P := fun xs => P (.lst true xs.reverse) ∧ lstD d fun ys => ys = xs) W.f r (by
      cases d with
      | lst m xs => exact ⟨q.1, q.2, q.1, rfl⟩
      | scr ns => exact ⟨q, rfl⟩
      | _ => exact q.elim)
    refine ⟨p0, vs, rfl, h1, fun n hn => ?_⟩
    obtain ⟨F', A', s', k', W', rd, p'⟩ := new_lst W (S.keep s k W p).own p hn (reps_rev h2 (hf xs h4)) (fzs_rev (hf xs h4))
    exact hq _ _ ⟨_, F', A', s.trans s', fun a nz => (k' a nz).trans (k a nz), W', rd, p', h3⟩, hx⟩⟩
end
end L3
namespace TuS
open PySem PySem.Spec PyProof.Rows L2
abbrev TK := List (Int ⊕ List Nat)
/-- what a tuple is ordered by: ints and texts, by a shape -/
def vKey (shape : Nat → Bool) : Nat → List V → Option TK
  | _, [] => some []
  | i, .int n :: r => if shape i = true then none else (vKey shape (i + 1) r).map (Sum.inl n :: ·)
  | i, .str x :: r => if shape i = true then (vKey shape (i + 1) r).map (Sum.inr x.cps.toList :: ·) else none
  | _, _ :: _ => none
theorem vKey_items {shape : Nat → Bool} : ∀ {ws : List V} {us : List Value} {i : Nat} {k : TK}, Vals ws us → vKey shape i ws = some k → PyProof.Rows.tupItems shape i us = some k
  | [], _, i, k, .nil, h => h
  | .int n :: ws, _, i, k, .cons r rs, h => by
    obtain ⟨t, rfl⟩ := r
    unfold vKey at h
    unfold PyProof.Rows.tupItems
    split at h
    · cases h
    · rename_i hs
      obtain ⟨k', e1, rfl⟩ := Option.map_eq_some_iff.mp h
      rw [if_neg hs, vKey_items rs e1]
      rfl
  | .str n :: ws, _, i, k, .cons r rs, h => by
    obtain ⟨t, rfl⟩ := r
    unfold vKey at h
    unfold PyProof.Rows.tupItems
    split at h
    · rename_i hs
      obtain ⟨k', e1, rfl⟩ := Option.map_eq_some_iff.mp h
      rw [if_pos hs, vKey_items rs e1]
      rfl
    · cases h
  | .non :: ws, _, i, k, .cons r rs, h => by simp [vKey] at h
  | .bl _ :: ws, _, i, k, .cons r rs, h => by simp [vKey] at h
  | .byt _ :: ws, _, i, k, .cons r rs, h => by simp [vKey] at h
  | .flt _ :: ws, _, i, k, .cons r rs, h => by simp [vKey] at h
  | .ty _ :: ws, _, i, k, .cons r rs, h => by simp [vKey] at h
  | .ref _ :: ws, _, i, k, .cons r rs, h => by simp [vKey] at h
/-- sorted(a list of tuples of ints and texts) -/
def rSortTu (K : PySem.W.Frag) : List V → Hp → VK → Prop := fun vs H Q => ∃ (a : Addr) (as : List Addr) (shape : Nat → Bool) (ks : Addr → TK), vs = [.ref a] ∧ SqL K H a (as.map V.ref) ∧ (∀ t ∈ as, ∃ ws, SqT K H t ws ∧ vKey shape 0 ws = some (ks t) ∧ ws ≠ []) ∧
  ∀ (bs : List Addr) (p : Addr), bs.Perm as → bs.Pairwise (fun x y => lexLt itemOrd (ks y) (ks x) = false) → H p = none → Q (.ref p) (upd H p (.lst (bs.map V.ref)))
theorem perm_refs {as : List Addr} {out : List Value} (h : out.Perm (as.map Value.ref)) : ∃ bs : List Addr, bs.Perm as ∧ out = bs.map Value.ref := by
  refine ⟨out.map fun v => match v with | .ref a => a | _ => 0, ?_, ?_⟩
  · have := h.map fun v => match v with | .ref a => a | _ => 0
    rw [List.map_map] at this
    have e : (as.map ((fun v => match v with | Value.ref a => a | _ => 0) ∘ Value.ref)) = as := by
      conv => rhs; rw [← List.map_id as]
      exact List.map_congr_left fun x _ => rfl
    rw [e] at this
    exact this
  · rw [List.map_map]
    conv => lhs; rw [← List.map_id out]
    refine List.map_congr_left fun v hv => ?_
    obtain ⟨a, _, rfl⟩ := List.mem_map.mp (h.mem_iff.mp hv)
    rfl
theorem tups_of {X : Cx} {pins : List (Addr × Obj)} {σ : L2.St} {H : Hp} {s : Shared} {shape : Nat → Bool} {ks : Addr → TK} (I : Inv X pins σ H s) : ∀ {as : List Addr}, (∀ t ∈ as, ∃ ws, SqT X.K H t ws ∧ vKey shape 0 ws = some (ks t) ∧ ws ≠ []) →
    (∃ fs, TupsOf s.heap shape (as.map Value.ref) fs) ∧ ∀ t ∈ as, G.tupKeyC s.heap shape (.ref t) = some (ks t)
  | [], _ => ⟨⟨[], .nil⟩, fun _ h => by simp at h⟩
  | t :: as, h => by
    obtain ⟨⟨fs, h1⟩, h2⟩ := tups_of (as := as) I fun u hu => h u (List.mem_cons_of_mem _ hu)
    obtain ⟨ws, hq, hk, hne⟩ := h t List.mem_cons_self
    obtain ⟨its, rv, ⟨o, ho, hc, n, hd⟩, hz⟩ := I.tuple hq
    have hi := vKey_items rv hk
    cases rv with
    | nil => exact absurd rfl hne
    | @cons v u vs us r rs =>
      refine ⟨⟨u :: fs, .cons ⟨t, o, _, n, rfl, ho, hc, hd, rfl, fun hs => ?_, fun hs => ?_⟩ h1⟩, fun x hx => ?_⟩
      · cases v with
        | int k => obtain ⟨tk, e⟩ := r; exact ⟨k, tk, e⟩
        | str k => simp [vKey, hs] at hk
        | _ => simp [vKey] at hk
      · cases v with
        | int k => simp [vKey, hs] at hk
        | str k => obtain ⟨tk, e⟩ := r; exact ⟨k, tk, e⟩
        | _ => simp [vKey] at hk
      · rcases List.mem_cons.mp hx with e | hx
        · subst e
          exact G.tupKeyC_of ho hc hd (by simpa using hi)
        · exact h2 x hx
theorem cr_sortTu {X : Cx} : CallR X (.builtin "sorted") (rSortTu X.K) := by
  intro pins s σ H vs us Q I r h
  obtain ⟨a, as, shape, ks, rfl, hs, hx, q⟩ := h
  obtain ⟨its, rv, hl, hz⟩ := I.list hs
  rw [Vals.ref1 r]
  have ei : its = as.map Value.ref := refs_at rv
  subst ei
  obtain ⟨⟨fs, ht⟩, hk⟩ := tups_of I hx
  rw [List.length_map] at hz
  refine G.sorted_tups hl.isList ht (fun v hv => ?_) (by rw [List.length_map]; exact hz) fun st' hp hso _ => ?_
  · obtain ⟨t, htm, rfl⟩ := List.mem_map.mp hv
    exact ⟨_, hk t htm⟩
  · have hpl : (arrOf st').toList.Perm ((as.map Value.ref).zip (as.map Value.ref)) := by
      have e := Array.perm_iff_toList_perm.mp hp
      rw [pairsOf_toList] at e
      exact e
    have hall : ∀ p ∈ (arrOf st').toList, p.1 = p.2 := fun p hm => by
      have := hpl.mem_iff.mp hm
      exact (mem_zip_self this).1
    have hout : (((arrOf st').map (·.2)).toList).Perm (as.map Value.ref) := by
      rw [Array.toList_map]
      have := hpl.map (·.2)
      rwa [List.map_snd_zip (by simp)] at this
    obtain ⟨bs, hb, eb⟩ := perm_refs hout
    obtain ⟨ep, he'⟩ := PyProof.Rows.sortedAll_at s.heap (as.map Value.ref) ((arrOf st').map (·.2))
    have hbl : (bs.map V.ref).length ≤ sizeLine := by rw [List.length_map, hb.length_eq]; exact hz
    refine ⟨.ref _, upd H (s.heap.objs.size + 1) (.lst (bs.map V.ref)), I.laid (t' := s.toks) (fun _ _ => PyProof.Rows.sortedAll_old) (Nat.le_succ _) ⟨hbl, bs.map Value.ref, ep, LiI.vals_refs bs, ?_⟩, rfl, q bs _ hb ?_ (I.hok.fresh (Nat.le_succ _))⟩
    · rw [← eb, Array.toArray_toList]; exact he'
    · rw [List.pairwise_iff_getElem]
      intro i j hi hj hij
      have hsz : (arrOf st').size = bs.length := by
        have := congrArg List.length eb
        simpa using this
      have key : ∀ i (hi : i < bs.length), KK (G.tupKindC s.heap shape) (arrOf st') i = ks bs[i] := fun i hi => by
        have hi' : i < (arrOf st').size := by omega
        have e1 : (arrOf st')[i]? = some (arrOf st')[i] := Array.getElem?_eq_getElem hi'
        have e2 : (arrOf st')[i].2 = Value.ref bs[i] := by
          have := congrArg (fun l => l[i]?) eb
          simp [hi, hi'] at this
          exact this
        have e3 := hall (arrOf st')[i] (by simp)
        unfold KK
        rw [e1]
        show (G.tupKeyC s.heap shape (arrOf st')[i].1).getD [] = _
        rw [e3, e2, hk _ (hb.mem_iff.mp (List.getElem_mem hi))]
        rfl
      have := hso i j (Nat.le_of_lt hij) (by rw [pairsOf_size, List.length_map, ← hb.length_eq]; exact hj)
      rw [key i hi, key j hj] at this
      exact this
end TuS
namespace L3
open PySem PySem.Spec L2
open PyProof.Rows hiding St
/-! sorted of tuples of ints and texts -/
def dKey (shape : Nat → Bool) : Nat → List D → Option TuS.TK
  | _, [] => some []
  | i, .int n :: r => if shape i = true then none else (dKey shape (i + 1) r).map (Sum.inl n :: ·)
  | i, .str x :: r => if shape i = true then (dKey shape (i + 1) r).map (Sum.inr x.cps.toList :: ·) else none
  | _, _ :: _ => none
/-- what it is ordered by -/
def tuK (shape : Nat → Bool) (d : D) : TuS.TK := match d with
  | .tup ws => (dKey shape 0 ws).getD []
  | _ => []
def tuOk (shape : Nat → Bool) (d : D) : Prop := match d with
  | .tup ws => ws ≠ [] ∧ (dKey shape 0 ws).isSome = true
  | _ => False
def oSortTu (shape : Nat → Bool) (ds : List D) (P : D → Prop) : Prop := one ds fun d => lstD d fun xs => (∀ x ∈ xs, tuOk shape x) ∧ ∀ ys : List D, ys.Perm xs → ys.Pairwise (fun x y => lexLt itemOrd (tuK shape y) (tuK shape x) = false) → P (.lst true ys)
section
variable {K : PySem.W.Frag} {F H : Hp}
theorem dKey_v {shape : Nat → Bool} : ∀ {ws : List D} {vs : List V} {A : FP} {i : Nat} {k : TuS.TK}, Reps K F H ws vs A → dKey shape i ws = some k → TuS.vKey shape i vs = some k
  | [], vs, A, i, k, r, h => by rw [r.1]; exact h
  | d :: ws, vs, A, i, k, ⟨v, vr, B, C, e, r, q, z⟩, h => by
    subst e
    cases d with
    | int n =>
      obtain ⟨rfl, _⟩ := r
      unfold dKey at h
      unfold TuS.vKey
      split at h
      · cases h
      · rename_i hs
        obtain ⟨k', e1, rfl⟩ := Option.map_eq_some_iff.mp h
        rw [if_neg hs, dKey_v q e1]; rfl
    | str n =>
      obtain ⟨rfl, _⟩ := r
      unfold dKey at h
      unfold TuS.vKey
      split at h
      · rename_i hs
        obtain ⟨k', e1, rfl⟩ := Option.map_eq_some_iff.mp h
        rw [if_pos hs, dKey_v q e1]; rfl
      · cases h
    | _ => simp [dKey] at h
/-- frozen tuples in a list: their addresses, and who stands where -/
theorem tup_refs (s : Same F H) {shape : Nat → Bool} : ∀ {xs : List D} {vs : List V}, Reps K F H xs vs fp0 → (∀ x ∈ xs, tuOk shape x) → ∃ ps : List (Addr × D), vs = ps.map (fun p => V.ref p.1) ∧ xs = ps.map (·.2) ∧ ∀ p ∈ ps, Rep K F H p.2 (.ref p.1) fp0
  | [], vs, r, _ => ⟨[], r.1, rfl, fun _ h => by simp at h⟩
  | x :: xs, vs, ⟨v, vr, B, C, e, r, q, z⟩, h => by
    subst e
    have zB : B = fp0 := funext fun a => by have := congrFun z a; unfold fpA fp0 at this; unfold fp0; omega
    have zC : C = fp0 := funext fun a => by have := congrFun z a; unfold fpA fp0 at this; unfold fp0; omega
    subst zB zC
    obtain ⟨ps, e1, e2, e3⟩ := tup_refs s q fun y hy => h y (by simp [hy])
    have hx := h x (by simp)
    cases x with
    | tup ws =>
      have r0 := r
      obtain ⟨a, us, rfl, _, _⟩ := r0
      refine ⟨(a, .tup ws) :: ps, by rw [e1]; rfl, by rw [e2]; rfl, fun p hp => ?_⟩
      rcases List.mem_cons.mp hp with hp | hp
      · subst hp; exact r
      · exact e3 p hp
    | _ => exact hx.elim
theorem reps_of_ps {ps : List (Addr × D)} (h : ∀ p ∈ ps, Rep K F H p.2 (.ref p.1) fp0) : Reps K F H (ps.map (·.2)) (ps.map fun p => V.ref p.1) fp0 := by
  induction ps with
  | nil => exact ⟨rfl, rfl⟩
  | cons p ps ih => exact ⟨_, _, fp0, fp0, rfl, h p (by simp), ih fun q hq => h q (by simp [hq]), fpA_0l.symm⟩
/-- a rearrangement of the addresses is one of the pairs -/
theorem perm_ps {ps : List (Addr × D)} {bs : List Addr} (h : bs.Perm (ps.map (·.1))) : ∃ qs : List (Addr × D), qs.Perm ps ∧ bs = qs.map (·.1) := by
  generalize e : ps.map (·.1) = as at h
  induction h generalizing ps with
  | nil => exact ⟨[], by rw [List.map_eq_nil_iff.mp e], rfl⟩
  | cons a _ ih =>
    obtain ⟨p, ps', rfl, rfl, e2⟩ := List.map_eq_cons_iff.mp e
    obtain ⟨qs, h1, h2⟩ := ih e2
    exact ⟨p :: qs, h1.cons p, by rw [h2]; rfl⟩
  | swap a b _ =>
    obtain ⟨p, ps', rfl, rfl, e2⟩ := List.map_eq_cons_iff.mp e
    obtain ⟨p2, ps2, rfl, rfl, rfl⟩ := List.map_eq_cons_iff.mp e2
    exact ⟨p2 :: p :: ps2, List.Perm.swap _ _ _, rfl⟩
  | trans _ _ ih1 ih2 =>
    obtain ⟨qs, h1, h2⟩ := ih2 e
    obtain ⟨rs, h3, h4⟩ := ih1 h2.symm
    exact ⟨rs, h3.trans h1, h4⟩
theorem opn_sortTu {shape : Nat → Bool} : OpNF K (TuS.rSortTu K) (oSortTu shape) := fun {F R H G vs ds P Q} W ow S b w q => by
  obtain ⟨d, rfl, w⟩ := one_of w
  obtain ⟨v, vr, rfl, ⟨A, r, l⟩, rfl⟩ := b
  have hfz : ∀ xs, lstD d (fun ys => ys = xs) → fzs xs = true := by
    intro xs hd
    cases d with
    | lst m ys => obtain ⟨h1, h2⟩ := hd; subst h2; exact h1
    | scr ns => cases hd; exact fzs_ints ns
    | _ => exact hd.elim
  obtain ⟨p0, us, xs, rfl, e1, q1, ⟨hok, w2⟩, hxs⟩ := lstD_of (P := fun xs => ((∀ x ∈ xs, tuOk shape x) ∧ ∀ ys : List D, ys.Perm xs → ys.Pairwise (fun x y => lexLt itemOrd (tuK shape y) (tuK shape x) = false) → P (.lst true ys)) ∧ lstD d fun ys => ys = xs) W.f r (by
    cases d with
    | lst m xs => exact ⟨w.1, w.2, w.1, rfl⟩
    | scr ns => exact ⟨w, rfl⟩
    | _ => exact w.elim)
  obtain ⟨ps, rfl, rfl, hp⟩ := tup_refs W.f q1 hok
  -- equal addresses hold equal keys: the key is read off the heap
  have hkey : ∀ p ∈ ps, ∃ ws, F p.1 = some (.tup ws) ∧ TuS.vKey shape 0 ws = some (tuK shape p.2) ∧ ws ≠ [] := fun p hpm => by
    have hx := hok p.2 (List.mem_map.mpr ⟨p, hpm, rfl⟩)
    have hr := hp p hpm
    cases e : p.2 with
    | tup ws =>
      rw [e] at hx hr
      obtain ⟨a, us, ea, e6, r6⟩ := hr
      cases ea
      obtain ⟨k, ek⟩ := Option.isSome_iff_exists.mp hx.2
      refine ⟨us, e6, by rw [dKey_v r6 ek]; simp [tuK, ek], ?_⟩
      intro z
      rw [z] at r6
      have := reps_len r6
      exact hx.1 (List.length_eq_zero_iff.mp this.symm)
    | _ => rw [e] at hx; exact hx.elim
  let ks : Addr → TuS.TK := fun a => ((ps.find? fun p => p.1 == a).map fun p => tuK shape p.2).getD []
  have hks : ∀ p ∈ ps, ks p.1 = tuK shape p.2 := fun p hpm => by
    show ((ps.find? fun q => q.1 == p.1).map fun q => tuK shape q.2).getD [] = _
    cases ef : ps.find? fun q => q.1 == p.1 with
    | none =>
      have := List.find?_eq_none.mp ef p hpm
      simp at this
    | some q =>
      have hq := List.mem_of_find?_eq_some ef
      have eq1 : q.1 = p.1 := by have := List.find?_some ef; simpa using this
      obtain ⟨w1, s1, k1, _⟩ := hkey q hq
      obtain ⟨w2, s2, k2, _⟩ := hkey p hpm
      rw [eq1, s2] at s1
      have : w1 = w2 := by simpa using s1.symm
      rw [this, k2] at k1
      simp at k1
      simp [k1]
  refine ⟨p0, ps.map (·.1), shape, ks, rfl, by rw [List.map_map]; exact e1, fun t ht => ?_, fun bs n hb hso hn => ?_⟩
  · obtain ⟨p, hpm, rfl⟩ := List.mem_map.mp ht
    obtain ⟨ws, h1, h2, h3⟩ := hkey p hpm
    exact ⟨ws, SqT.of (W.f _ _ h1), by rw [h2, hks p hpm], h3⟩
  · obtain ⟨qs, hq, rfl⟩ := perm_ps hb
    have hq2 : ∀ p ∈ qs, Rep K F H p.2 (.ref p.1) fp0 := fun p hpm => hp p (hq.mem_iff.mp hpm)
    have hfzq : fzs (qs.map (·.2)) = true := by
      have h0 := hfz _ hxs
      have : ∀ {l : List D}, fzs l = true ↔ ∀ x ∈ l, fz x = true := by
        intro l
        induction l with
        | nil => simp [fzs]
        | cons x l ih => simp [fzs, ih]
      rw [this] at h0 ⊢
      intro x hx
      obtain ⟨p, hpm, rfl⟩ := List.mem_map.mp hx
      exact h0 _ (List.mem_map.mpr ⟨p, hq.mem_iff.mp hpm, rfl⟩)
    obtain ⟨F', A', s', k', W', rd, p'⟩ := new_lst W ow S hn (reps_of_ps hq2) hfzq
    rw [List.map_map]
    refine q _ _ ⟨_, F', A', s', k', W', rd, p', w2 _ (hq.map _) ?_⟩
    rw [List.pairwise_map] at hso ⊢
    refine hso.imp_of_mem fun {x y} hx hy h => ?_
    rw [hks x (hq.mem_iff.mp hx), hks y (hq.mem_iff.mp hy)] at h
    exact h
end
end L3
namespace L3
open PySem PySem.Spec L2
open PyProof.Rows hiding St
section
variable {Y : Cy} {F F1 R H H1 : Hp} {ρ : Env} {σ σ1 : St} {A B : FP} {K : En} {Z : Ends} {e c o a b x : Expr} {ew : DW} {el : LE} {pos pos' : Pos} {wo wa : KW}
/-- a, b = x, y -/
theorem s_par (i j : Nat) {x y : Str} {px py pt : Pos} {kt k2 : Nat} {pt2 : Pos} {n : Nat} (hc : Y.X.calm = true) (hN : Y.X.N.Nodup) (hn : Y.X.N.length = n) (ha : DA Y [a, b] el)
    (hw : swappedStores [.Tuple [.Name x px, .Name y py] kt pt] (.Tuple [a, b] k2 pt2) Y.X.env = pure (some [x, y]))
    (hT1 : i ∉ Y.T) (hT2 : j ∉ Y.T) (hij : i ≠ j := by decide) (hi : Y.X.N[i]? = some x := by rfl) (hj : Y.X.N[j]? = some y := by rfl)
    (hx : Y.X.env.scope.names.lookup x = some .local := by rfl) (hy : Y.X.env.scope.names.lookup y = some .local := by rfl)
    (hs : swapsWithSole [.Tuple [.Name x px, .Name y py] kt pt] (.Tuple [a, b] k2 pt2) pos.line Y.X.env = pure false := by rfl) :
    DS Y (.Assign [.Tuple [.Name x px, .Name y py] kt pt] (.Tuple [a, b] k2 pt2) pos) (fun K ρ => el ρ fun ds ρ1 => two ds fun d e => i < ρ1.length ∧ j < ρ1.length ∧ K.nx ((ρ1.set i (some d)).set j (some e))) :=
  ⟨PS.imp (ps_par hc hN hi hj hij hx hy ha.run hw hs) fun Z σ H ⟨F, R, ρ, B, K, S, hw, G⟩ => ⟨F, R, ρ, B, _, S, hw, fun vs H1 ⟨ds, ρ1, F1, A, B1, s, W, rs, sl, p, q⟩ => by
    obtain ⟨d, e, rfl, h1, h2, h3⟩ := two_of q
    obtain ⟨v, vr, A1, A2, rfl, r1, ⟨w, wr, A3, A4, rfl, r2, ⟨rfl, z3⟩, z2⟩, z⟩ := rs
    refine ⟨v, w, rfl, G.nx _ _ ?_⟩
    obtain ⟨C, l, st, _⟩ := slr_set i sl h1
    have sl1 := st F1 H1 d v A1 (Same.refl F1) (fun _ _ => rfl) r1
    have p1 : Sep F1 R (fpA A3 (fpA A1 C)) := p.mono fun a => by
      have := l a
      rw [z, z2, z3]; unfold fpA fp0; omega
    have q1 : StP Y F1 R (σ.set i (some v)) K.nx ((σ.set i (some v)).set j (some w)) H1 := st_set hT2 (by rw [List.length_set]; exact h2) W r2 sl1 p1 h3
    exact StP.at (σ1 := σ.set i (some v)) s (agT_set hT1) q1, G.ex⟩⟩
/-! l.index(x) -/
def oIndex (l d : D) (P : D → Prop) : Prop := match l with
  | .lst _ xs => pyOk 64 (.lst false xs) = true ∧ pyOk 64 d = true ∧ ∃ (j : Nat) (z : D), xs[j]? = some z ∧ deq z d = true ∧ (∀ (m : Nat) (z' : D), m < j → xs[m]? = some z' → deq z' d = false) ∧ P (.int (j : Nat))
  | _ => False
theorem toPys_get : ∀ {xs : List D} {j : Nat}, (toPys xs)[j]? = (xs[j]?).map toPy
  | [], j => by simp [toPys]
  | x :: xs, 0 => rfl
  | x :: xs, j + 1 => by
    show (toPys xs)[j]? = _
    rw [toPys_get]; simp
theorem k_index {p apos cpos : Pos} (hu : Y.X.A.units + 65 < cLine) (ho : DK Y o wo) (ha : DK Y a wa)
    (hbase : attributeBase o "index" Y.X.env (eval o Y.X.env) = eval o Y.X.env := by rfl)
    (hfew : ((backTo cpos (starEach [a] Y.X.env)).all (fun x => !x.1) && (backToKw cpos (keywordEach [] Y.X.env)).all (fun x => x.1.isSome)
      && decide (([a] : List Expr).length + ([] : List Keyword).length + (if ([] : List Keyword).isEmpty then 0 else 1) < 30)) = true := by rfl)
    (hline : (apos.endLine == cpos.line) = true := by rfl) (hs : starEach [a] Y.X.env = (false, eval a Y.X.env) :: starEach [] Y.X.env := by rfl) (hplain : (backTo cpos (starEach [] Y.X.env)).any (·.1) = false := by rfl) :
    DK Y (.Call (.Attribute o "index" apos) [a] [] cpos) (fun ρ P => wo ρ fun l => isLst l ∧ wa ρ fun d => oIndex l d P) :=
  ⟨PE.imp (pe_bm PySem.F.plainAttrs_list PySem.F.slot_list_index PySem.F.type_list_index (mt_indexD hu) ho.run (pa_cons ha.run pa_nil hs) hbase hfew hline hs hplain) fun σ H Q ⟨F, R, ρ, B, P, S, hw, hq, hx⟩ => ⟨F, R, ρ, B, fun l => isLst l ∧ wa ρ fun d => oIndex l d P, S, hw, fun v H1 ⟨d1, F1, A1, s1, k1, W1, r1, l1, p1, q0, q1⟩ => by
    cases d1 with
    | lst m xs =>
      obtain ⟨a0, us, ev, hp, _⟩ := lst_at W1.f r1
      subst ev
      refine ⟨.inl ⟨rfl, us, SqL.of hp⟩, F1, R, ρ, B, _, S.keep s1 k1 W1 p1, q1, fun y H2 ⟨d2, F2, A2, s2, k2, W2, r2, l2, p2, q2⟩ => ?_, hx.grow s1⟩
      have r1' : Rep Y.X.K F2 H2 (.lst m xs) (.ref a0) A1 := rep_mono s2 _ (fun a n => k2 a (by have := l1 a; omega)) r1
      obtain ⟨h1, h2, j, z, h3, h4, h5, h6⟩ := q2
      have h1' : pyOk 64 (.lst m xs) = true := h1
      refine ⟨a0, y, toPy d2, toPys xs, j, toPy z, rfl, rfl, rep_dp W2.f 64 _ h1' r1', rep_dp W2.f 64 _ h2 r2, pyOk_shaped h1', pyOk_shaped h2, by rw [toPys_get, h3]; rfl, h4, fun m z' hm hz => ?_, hq _ _ ⟨.int (j : Nat), F2, fp0, s1.trans s2, fun a n => (k2 a n).trans (k1 a n), W2, rep_int, fp0_le, p2, h6⟩⟩
      rw [toPys_get] at hz
      obtain ⟨z0, e1, rfl⟩ := Option.map_eq_some_iff.mp hz
      exact h5 m z0 hm e1
    | _ => exact q0.elim, hx⟩⟩
end
end L3
/-! enumerate(a text) -/
namespace EnS
open PySem PySem.Spec PyProof.Rows L2
def ItS (x : Str) : It :=
  ⟨fun i _ => i < x.cps.size, fun i H v H' => ∃ T c, v = .ref T ∧ H T = none ∧ H' = upd H T (.tup [.int (i : Nat), .str ⟨#[c]⟩]) ∧ x.cps[i]? = some c, fun i _ => x.cps.size ≤ i⟩
theorem turnS {P : Program} {w : World} {K : PySem.W.Frag} {elts : List Expr} {kk : Nat} {tpos : Pos} (x : Str) (t : Tok) (e it : Addr) :
    Turn P w K (.Tuple elts kk tpos) (ItS x) [e, it] e (fun i h => (∃ old, IsEnum h e it ((i : Nat) : Int) old) ∧ h.IsStrIter it (strIterType x) x t i ∧ e ≠ it ∧ i ≤ x.cps.size) where
  mem := by simp
  obj := fun i h st b hb => by
    obtain ⟨⟨old, he⟩, hi, _⟩ := st
    rcases (show b = e ∨ b = it by simpa using hb) with z | z
    · rw [z]; exact ⟨_, he, fun v q => nomatch q⟩
    · rw [z]
      obtain ⟨o, ho, hc, hd⟩ := hi
      exact ⟨o, ho, fun v q => by rw [hd] at q; cases q⟩
  keep := fun i h h' st k => let ⟨⟨old, he⟩, hi, hne⟩ := st; ⟨⟨old, k e (by simp) _ he⟩, (let ⟨o, h1, h2⟩ := hi; ⟨o, k it (by simp) _ h1, h2⟩), hne⟩
  item := by
    intro X hP hw hK hc i pins s σ H E I hf st hg
    subst hP hw hK
    obtain ⟨⟨old, he⟩, hit, hne, _⟩ := st
    have hel : e < s.heap.objs.size := Heap.lt_size he
    have hil : it < s.heap.objs.size := by obtain ⟨_, q, _⟩ := hit; exact Heap.lt_size q
    refine wpAny_pyNext_enum_itemD (Draws.text (A := X.A.in1) (by have := I.ok.hd hc; exact this) it x t) he hit hg hne (by simp [hne]) fun u h' tk hPu ho hit' hT hsz hk => ?_
    obtain ⟨c, tu, hcx, rfl⟩ := hPu
    refine ⟨_, rfl, wpAny_letOwnedTupleGo_enum (s := { s with heap := h', toks := tk + 1 }) ho fun h'' he' sb => ?_⟩
    have hT2 : h''.get? s.heap.objs.size = some { cls := .type "tuple", data := .seq #[.int i tk, .str ⟨#[c]⟩ tu] } := (sb.2 _ (Nat.ne_of_gt hel)).trans hT
    have new : ObjOk X.prog X.w (upd H s.heap.objs.size (.tup [.int (i : Nat), .str ⟨#[c]⟩])) h'' s.heap.objs.size (.tup [.int (i : Nat), .str ⟨#[c]⟩]) :=
      ⟨by show 2 ≤ sizeLine; decide, [.int i tk, .str ⟨#[c]⟩ tu], .cons ⟨_, rfl⟩ (.cons ⟨_, rfl⟩ .nil), ⟨_, hT2, rfl, _, rfl⟩⟩
    have I1 : Inv X pins σ (upd H s.heap.objs.size (.tup [.int (i : Nat), .str ⟨#[c]⟩])) { s with heap := h'', toks := tk + 1 } :=
      I.turnedNew (ch := [e, it]) (fun b ob hb q => (sb.2 b (fun z => hb (by simp [z]))).trans (hk b ob (fun z => hb (by simp [z])) (fun z => hb (by simp [z])) q)) hf (Nat.le_refl _) new
    refine ⟨.ref s.heap.objs.size, _, I1, rfl, ⟨_, c, rfl, I.hok.fresh (Nat.le_refl _), rfl, hcx⟩, ⟨⟨.str ⟨#[c]⟩ tu, ?_⟩, (let ⟨o, h1, h2⟩ := hit'; ⟨o, (sb.2 it (Ne.symm hne)).trans h1, h2⟩), hne, hg⟩, fun b hb => ?_⟩
    · have e1 : ((i + 1 : Nat) : Int) = (i : Int) + 1 := by omega
      rw [e1]; exact he'
    · have hb' : b < s.heap.objs.size := by
        rcases (show b = e ∨ b = it by simpa using hb) with z | z
        · rw [z]; exact hel
        · rw [z]; exact hil
      rw [upd_ne (Nat.ne_of_lt hb')]
      exact (hf b hb).1
  done := by
    intro X hP hw hK hc i pins s σ H E I hf st hg
    subst hP hw hK
    obtain ⟨⟨old, he⟩, hit, hne, hle⟩ := st
    obtain ⟨f0, f1, f2, f3, f4, f5⟩ := hf it (by simp)
    have ei : i = x.cps.size := Nat.le_antisymm hle hg
    subst ei
    exact wpAny_pyNext_enum_endD (Draws.text (A := X.A.in1) (by have := I.ok.hd hc; exact this) it x t) he hit fun h' eb => ⟨rfl, I.turned (t' := s.toks) (fun b o hb q => eb b o hb q) f0 f1 f3 f4 f5⟩
  self := fun A i s Q E st h => let ⟨⟨_, he⟩, _⟩ := st; wpAny_pyIter_enum he h
/-- enumerate of a list or a text -/
def iEnumA (K : PySem.W.Frag) (ta : TA) : TI := fun σ H R => ta σ H fun vs H1 => (∃ a xs, vs = [.ref a] ∧ SqL K H1 a xs ∧ R (Ite K a) H1) ∨ ∃ x, vs = [.str x] ∧ R (ItS x) H1
theorem pi_enumA {X : Cx} {e : Expr} {ta : TA} {p pos tpos : Pos} {elts : List Expr} {kk : Nat} (hg : Gl X "enumerate") (hm : X.mg "enumerate" = none) (ha : PA X [e] ta) (hs : starEach [e] X.env = [(false, eval e X.env)] := by rfl) :
    PI X (.Tuple elts kk tpos) (.Call (.Name "enumerate" p) [e] [] pos) (iEnumA X.K ta) := by
  refine ⟨fun pins s σ H R I h => ?_⟩
  refine Call_ (ld_blt I hg hm boot_enumerate (PyProof.Rows.callWith_type1 (thn (ha.run pos pins s σ H _ I h) fun us s1 ⟨vs, H1, I1, r1, q1⟩ => ?_) hs rfl))
  have two : ∀ {b : Addr}, b ∈ [s1.heap.objs.size + 1, s1.heap.objs.size] → s1.heap.objs.size ≤ b := fun {b} hb => by
    rcases (show b = s1.heap.objs.size + 1 ∨ b = s1.heap.objs.size by simpa using hb) with z | z
    · rw [z]; exact Nat.le_add_right _ _
    · rw [z]; exact Nat.le_refl _
  rcases q1 with ⟨a, xs, ex, hq, q⟩ | ⟨x, ex, q⟩
  · subst ex
    cases r1 with
    | cons r rr =>
      cases rr
      cases r
      obtain ⟨its, rv, p', hz⟩ := I1.list hq
      refine call_enumerate_list p'.isList fun h' he hit hsz hk => wpAny_pyIter_enum he ?_
      have I2 : Inv X pins σ H1 { s1 with heap := h' } := I1.kept (t' := s1.toks) hk
      exact ⟨s1.heap.objs.size + 1, [s1.heap.objs.size + 1, s1.heap.objs.size], _, _, H1, rfl, I2, turn_enum a (s1.heap.objs.size + 1) s1.heap.objs.size, ⟨⟨.none, he⟩, hit, Nat.succ_ne_self _⟩, fun b hb => I1.fpOk (two hb) (I1.hok.fresh (two hb)), q⟩
  · subst ex
    cases r1 with
    | cons r rr =>
      cases rr
      obtain ⟨t, rfl⟩ := r
      refine call_enumerate_str fun h' he hit hsz hk => wpAny_pyIter_enum he ?_
      have I2 : Inv X pins σ H1 { s1 with heap := h' } := I1.kept (t' := s1.toks) hk
      exact ⟨s1.heap.objs.size + 1, [s1.heap.objs.size + 1, s1.heap.objs.size], _, _, H1, rfl, I2, turnS x t (s1.heap.objs.size + 1) s1.heap.objs.size, ⟨⟨.none, he⟩, hit, Nat.succ_ne_self _, Nat.zero_le _⟩, fun b hb => I1.fpOk (two hb) (I1.hok.fresh (two hb)), q⟩
end EnS
namespace L3
open PySem PySem.Spec L2
open PyProof.Rows hiding St
section
variable {Y : Cy} {e : Expr} {el : LE} {p pos tpos : Pos} {F : Hp}
theorem walk_enS {K : PySem.W.Frag} {x : Str} : WalkD K (EnS.ItS x) (enumD 0 (signs x)) F := fun F2 H2 s1 s2 => by
  have hlen : (enumD 0 (signs x)).length = x.cps.size := by rw [enumD_len]; simp [signs]
  refine ⟨fun i d e => ?_, by rw [hlen]; exact Nat.le_refl _⟩
  have hi : i < x.cps.size := by rw [← hlen]; exact (List.getElem?_eq_some_iff.mp e).1
  obtain ⟨d', e', rfl⟩ := enumD_get e
  refine ⟨hi, fun v H3 ⟨T, c, ev, hT, e3, hc⟩ => .inr (.inl ⟨T, _, hT, e3, ?_⟩)⟩
  have ed : d' = .str ⟨#[c]⟩ := by
    unfold signs at e'
    rw [List.getElem?_map] at e'
    have : x.cps.toList[i]? = some c := by simpa using hc
    rw [this] at e'
    simpa using e'.symm
  subst ed ev e3
  exact rep_pair (K := K) (F := F2) (H := H2) (T := T) (d1 := .int (0 + i)) (x := .int (i : Nat)) (by rw [Int.zero_add]; exact rep_int) rep_str hT s2
/-- a list or a text, counted -/
def enumA (ds : List D) (P : List D → Prop) : Prop := match ds with
  | [.lst _ xs] => P (enumD 0 (frzs xs))
  | [.str x] => P (enumD 0 (signs x))
  | _ => False
theorem i_enumA {elts : List Expr} {kk : Nat} (ha : DA Y [e] el) (hm : Y.X.mg "enumerate" = none) (hg : Gl Y.X "enumerate" := by rfl) (hs : starEach [e] Y.X.env = [(false, eval e Y.X.env)] := by rfl) :
    DI Y (.Tuple elts kk tpos) (.Call (.Name "enumerate" p) [e] [] pos) (fun ρ P => el ρ fun ds ρ1 => enumA ds fun xs => P xs ρ1) :=
  ⟨PI.imp (EnS.pi_enumA hg hm ha.run hs) fun σ H Q ⟨F, R, ρ, B, P, S, hw, hq, hx⟩ => ⟨F, R, ρ, B, _, S, hw, fun vs H1 ⟨ds, ρ1, F1, A, B1, s, W, r, sl, p, q⟩ => by
    have q : enumA ds fun xs => P xs ρ1 := q
    unfold enumA at q
    split at q
    · obtain ⟨F2, s2, W2, r2, sl2, p2⟩ := frz_tmps W r sl p
      obtain ⟨v, vr, B2, C2, ev, ⟨a0, us, rfl, ha0, ru⟩, ⟨e2, z2⟩, z⟩ := r2
      subst ev e2
      have zB : B2 = fp0 := by rw [z2, fpA_0r] at z; exact z.symm
      subst zB
      exact .inl ⟨a0, us, rfl, SqL.of (W2.f _ _ ha0), hq _ _ ⟨_, ρ1, F2, B1, s.trans s2, W2, sl2, p2, walk_enum ha0 ru, q⟩⟩
    · obtain ⟨v, vr, B2, C2, ev, ⟨rfl, _⟩, ⟨e2, _⟩, z⟩ := r
      subst ev e2
      exact .inr ⟨_, rfl, hq _ _ ⟨_, ρ1, F1, B1, s, W, sl, p.mono fun a => by unfold fpA; omega, walk_enS, q⟩⟩
    · exact q.elim, hx⟩⟩
end
end L3
namespace TuS
open PySem PySem.Spec PyProof.Rows L2
/-- sorted(a dict whose keys are tuples) -/
def rSortDT : List V → Hp → VK → Prop := fun xs H Q => ∃ (d : Addr) (kvs : List (List Key × V)) (shape : Nat → Bool), xs = [.ref d] ∧ Rd H d (.dT kvs) ∧ (∀ p ∈ kvs, p.1 ≠ [] ∧ (vKey shape 0 (p.1.map kV)).isSome = true) ∧
  ∀ (bs cs : List Addr) (ks : Addr → TK) (p : Addr), IsKeys H kvs bs → cs.Perm bs → (∀ t ∈ bs, ∃ ws, H t = some (.tup ws) ∧ vKey shape 0 ws = some (ks t)) → cs.Pairwise (fun x y => lexLt itemOrd (ks y) (ks x) = false) → H p = none → Q (.ref p) (upd H p (.lst (cs.map V.ref)))
theorem paired_mem {α β : Type} {F : α → β → Prop} : ∀ {xs : List α} {ys : List β}, Paired F xs ys → ∀ y ∈ ys, ∃ x ∈ xs, F x y
  | _, _, .cons h t, y, hy => by
    rcases List.mem_cons.mp hy with e | hy
    · exact ⟨_, List.mem_cons_self, by rw [e]; exact h⟩
    · obtain ⟨x, h1, h2⟩ := paired_mem t y hy
      exact ⟨x, List.mem_cons_of_mem _ h1, h2⟩
theorem sort_out {h : Heap} {shape : Nat → Bool} {ks : Addr → TK} {as : List Addr} {st' : SortSt} (hk : ∀ t ∈ as, G.tupKeyC h shape (.ref t) = some (ks t)) (hp : (arrOf st').Perm (pairsOf (as.map Value.ref))) (hso : SortedToK (G.tupKindC h shape) (arrOf st') (pairsOf (as.map Value.ref)).size) :
    ∃ bs : List Addr, bs.Perm as ∧ ((arrOf st').map (·.2)).toList = bs.map Value.ref ∧ bs.Pairwise fun x y => lexLt itemOrd (ks y) (ks x) = false := by
  have hpl : (arrOf st').toList.Perm ((as.map Value.ref).zip (as.map Value.ref)) := by
    have e := Array.perm_iff_toList_perm.mp hp
    rw [pairsOf_toList] at e
    exact e
  have hall : ∀ p ∈ (arrOf st').toList, p.1 = p.2 := fun p hm => (mem_zip_self (hpl.mem_iff.mp hm)).1
  have hout : (((arrOf st').map (·.2)).toList).Perm (as.map Value.ref) := by
    rw [Array.toList_map]
    have := hpl.map (·.2)
    rwa [List.map_snd_zip (by simp)] at this
  obtain ⟨bs, hb, eb⟩ := perm_refs hout
  refine ⟨bs, hb, eb, ?_⟩
  rw [List.pairwise_iff_getElem]
  intro i j hi hj hij
  have hsz : (arrOf st').size = bs.length := by
    have := congrArg List.length eb
    simpa using this
  have key : ∀ i (hi : i < bs.length), KK (G.tupKindC h shape) (arrOf st') i = ks bs[i] := fun i hi => by
    have hi' : i < (arrOf st').size := by omega
    have e1 : (arrOf st')[i]? = some (arrOf st')[i] := Array.getElem?_eq_getElem hi'
    have e2 : (arrOf st')[i].2 = Value.ref bs[i] := by
      have := congrArg (fun l => l[i]?) eb
      simp [hi, hi'] at this
      exact this
    have e3 := hall (arrOf st')[i] (by simp)
    unfold KK
    rw [e1]
    show (G.tupKeyC h shape (arrOf st')[i].1).getD [] = _
    rw [e3, e2, hk _ (hb.mem_iff.mp (List.getElem_mem hi))]
    rfl
  have := hso i j (Nat.le_of_lt hij) (by rw [pairsOf_size, List.length_map, ← hb.length_eq]; exact hj)
  rw [key i hi, key j hj] at this
  exact this
theorem cr_sortDT {X : Cx} (hc : X.calm = true) : CallR X (.builtin "sorted") rSortDT := by
  intro pins s σ H xs us Q I r h
  obtain ⟨d, kvs, shape, rfl, hd, hks, q⟩ := h
  obtain ⟨u, rfl, rx⟩ := r.one
  cases rx
  obtain ⟨z, hs, kx, pr, o, es, ep, ho, hx, hdt, he, hn⟩ := (show ObjOk X.prog X.w H s.heap d (.dT kvs) from hd.ok I.hok)
  have l1 : es.size = kx.length := size_of_entries he
  have l2 : kvs.length = kx.length := Paired.length pr
  refine Calls.call_function_entry PyProof.Rows.kind_sorted PyProof.Rows.plain_sorted PyProof.Rows.entry_sorted (PyProof.Rows.args_sorted1 _) ?_
  unfold Builtin.«sorted»
  refine wpAny_bind (m := checkCount "sorted" 1 1 _) (wpAny_pure ?_)
  refine wpAny_bind (PySem.W.kdu_collect (A := X.A.in1) (kdl_raw (ep := ep) hs hx hdt) (I.ok.hd hc) ho (by omega) fun h' tk acc hk it => ?_)
  have ea : acc.toList = kx.map fun x => Value.ref x.2.1 := by
    have hl : acc.toList.length = kx.length := by rw [Array.length_toList, it.1]; exact l1
    apply List.ext_getElem?
    intro j
    rw [List.getElem?_map]
    cases hj : acc.toList[j]? with
    | none =>
      have h1 := List.getElem?_eq_none_iff.mp hj
      rw [List.getElem?_eq_none (by omega)]; rfl
    | some v =>
      obtain ⟨en, hen, hv⟩ := it.2 j v (by rw [← Array.getElem?_toList]; exact hj)
      have qe := entry_at he j
      rw [hen] at qe
      cases hb : kx[j]? with
      | none => rw [hb] at qe; exact nomatch (show some en = none from qe)
      | some b =>
        rw [hb] at qe
        have e2 : en = entryOfKey (tupleKind (mixKind X.prog X.w)) b := Option.some.inj qe
        rw [hv, e2]; rfl
  have I1 : Inv X pins σ H { s with heap := h', toks := tk } := I.kept hk
  have hkey := isKeys_of pr
  generalize hbs : (kx.map fun x => x.2.1) = bs at hkey
  have eb : acc.toList = bs.map Value.ref := by rw [ea, ← hbs, List.map_map]; rfl
  have hbl : bs.length ≤ sizeLine := by rw [← hbs, List.length_map]; omega
  have hall : ∀ t ∈ bs, ∃ ws, H t = some (.tup ws) ∧ ws ≠ [] ∧ ∃ k, vKey shape 0 ws = some k := fun t ht => by
    obtain ⟨p, hp, e⟩ := paired_mem hkey t ht
    obtain ⟨h1, h2⟩ := hks p hp
    exact ⟨_, e, fun z => h1 (List.map_eq_nil_iff.mp z), Option.isSome_iff_exists.mp h2⟩
  let ks : Addr → TK := fun t => match H t with
    | some (.tup ws) => (vKey shape 0 ws).getD []
    | _ => []
  have hks2 : ∀ t ∈ bs, ∃ ws, H t = some (.tup ws) ∧ vKey shape 0 ws = some (ks t) ∧ ws ≠ [] := fun t ht => by
    obtain ⟨ws, e1, e2, k, e3⟩ := hall t ht
    refine ⟨ws, e1, ?_, e2⟩
    show _ = some (match H t with | some (.tup ws) => (vKey shape 0 ws).getD [] | _ => [])
    rw [e1]
    simp [e3]
  obtain ⟨⟨fs, ht⟩, hkC⟩ := tups_of (shape := shape) (ks := ks) I1 (as := bs) fun t hm => by
    obtain ⟨ws, e1, e2, e3⟩ := hks2 t hm
    exact ⟨ws, .inl (.inl e1), e2, e3⟩
  refine wpAny_bind (wpAny_newList ?_ (by rw [eb, List.length_map]; exact hbl))
  rw [eb]
  have hoL : (h'.push (seqObj "list" (bs.map Value.ref).toArray 0)).get? h'.objs.size = some (seqObj "list" (bs.map Value.ref).toArray 0) := Heap.get?_push_size _ rfl
  have kT : G.KeepsTups h' (h'.push (seqObj "list" (bs.map Value.ref).toArray 0)) := G.KeepsTups.push _ _
  have hkC2 : ∀ t ∈ bs, G.tupKeyC (h'.push (seqObj "list" (bs.map Value.ref).toArray 0)) shape (.ref t) = some (ks t) := fun t hm => by
    obtain ⟨a, o, xs, n, ev, h1, h2, h3, h4⟩ := G.tupKeyC_some (hkC t hm)
    cases ev
    exact G.tupKeyC_of (Heap.get?_push_of_some _ h1) h2 h3 h4
  show wpAny _ _ _ _ _ { s with heap := h'.push (seqObj "list" (bs.map Value.ref).toArray 0), toks := tk }
  refine wpAny_bind (wpAny_holding (wpAny_call_entry PyProof.Rows.slot_list_sort ⟨_, hoL, rfl⟩ PyProof.Rows.entry_list_sort
    (G.list_sort_tups (s := { s with heap := h'.push (seqObj "list" (bs.map Value.ref).toArray 0), toks := tk }) hoL (G.TupsOf.keep kT ht) (fun v hv => ?_) (by rw [List.length_map]; exact hbl) fun st' hp hso _ => ⟨_, rfl, ?_⟩)
    (PyProof.Rows.args_list_sort _)))
  · obtain ⟨t, htm, rfl⟩ := List.mem_map.mp hv
    exact ⟨_, hkC2 t htm⟩
  · obtain ⟨cs, hc1, hc2, hc3⟩ := sort_out hkC2 hp hso
    obtain ⟨e', he'⟩ := PyProof.Rows.sortedHeap_at (vs := bs.map Value.ref) (out := (arrOf st').map (·.2)) hoL
    have hlen : (cs.map V.ref).length ≤ sizeLine := by rw [List.length_map, hc1.length_eq]; exact hbl
    refine wpAny_pure ⟨_, rfl, .ref h'.objs.size, upd H h'.objs.size (.lst (cs.map V.ref)), I1.laid (t' := tk) (fun b u e => ?_) (Nat.le_refl _)
      (show ObjOk X.prog X.w _ _ _ (.lst (cs.map V.ref)) from ⟨hlen, cs.map Value.ref, e', LiI.vals_refs cs, by rw [← hc2, Array.toArray_toList]; exact he'⟩), rfl, q bs cs ks _ hkey hc1 (fun t ht => by obtain ⟨ws, e1, e2, _⟩ := hks2 t ht; exact ⟨ws, e1, e2⟩) hc3 (I1.hok.fresh (Nat.le_refl _))⟩
    have hb : b < h'.objs.size := Heap.lt_size e
    rw [PyProof.Rows.sortedHeap_old (Nat.ne_of_lt hb) (by rw [size_push']; exact Nat.lt_succ_of_lt hb)]
    exact Heap.get?_push_of_some _ e
end TuS
namespace L3
open PySem PySem.Spec L2
open PyProof.Rows hiding St
/-! sorted(a dict of ours or a frozen one) -/
def kdD : KD → D
  | .non => .non
  | .int i => .int i
  | .str x => .str x
  | .tup ks => .tup (ks.map fun k => match k with | .int i => .int i | .str x => .str x | _ => .non)
def oSortDT (shape : Nat → Bool) (ds : List D) (P : D → Prop) : Prop := one ds fun d => dicOf d fun t kvs => t = .t ∧ (∀ p ∈ kvs, tuOk shape (kdD p.1)) ∧
  ∀ ys : List D, ys.Perm (kvs.map fun p => kdD p.1) → ys.Pairwise (fun x y => lexLt itemOrd (tuK shape y) (tuK shape x) = false) → P (.lst true ys)
section
variable {K : PySem.W.Frag} {F H R : Hp}
theorem kdD_key (ks : List Key) : kdD (.tup (ks.map keyKD)) = .tup (ks.map fun k => match k with | .inl i => .int i | .inr x => .str x) := by
  show D.tup _ = _
  rw [List.map_map]
  congr 1
  exact List.map_congr_left fun k _ => by cases k <;> rfl
theorem dKey_keys {shape : Nat → Bool} : ∀ (ks : List Key) (i : Nat), dKey shape i (ks.map fun k => match k with | .inl i => D.int i | .inr x => D.str x) = TuS.vKey shape i (ks.map kV)
  | [], i => rfl
  | .inl n :: ks, i => by
    show dKey shape i (D.int n :: _) = TuS.vKey shape i (V.int n :: _)
    unfold dKey TuS.vKey
    rw [dKey_keys ks (i + 1)]
  | .inr n :: ks, i => by
    show dKey shape i (D.str n :: _) = TuS.vKey shape i (V.str n :: _)
    unfold dKey TuS.vKey
    rw [dKey_keys ks (i + 1)]
theorem reps_keys : ∀ (ks : List Key), Reps K F H (ks.map fun k => match k with | .inl i => D.int i | .inr x => D.str x) (ks.map kV) fp0
  | [] => ⟨rfl, rfl⟩
  | .inl n :: ks => ⟨_, _, fp0, fp0, rfl, rep_int, reps_keys ks, fpA_0l.symm⟩
  | .inr n :: ks => ⟨_, _, fp0, fp0, rfl, rep_str, reps_keys ks, fpA_0l.symm⟩
/-- tuples of the heap may stand for good -/
theorem add_tups {G : FP} (W : Wd F R H) (ow : Own H G) (S : Sep F R G) (bs : List Addr) (hb : ∀ b ∈ bs, ∃ ws, H b = some (.tup ws)) :
    ∃ F', Same F F' ∧ Wd F' R H ∧ Sep F' R G ∧ ∀ b ∈ bs, F' b = H b := by
  refine ⟨fun b => if b ∈ bs then H b else F b, fun b o e => ?_, ⟨fun b o e => ?_, W.r, fun a o e => ?_⟩, fun a => ⟨(S a).1, fun n => ?_⟩, fun b h => if_pos h⟩
  · show (if b ∈ bs then H b else F b) = some o
    split
    · exact W.f _ _ e
    · exact e
  · have e : (if b ∈ bs then H b else F b) = some o := e
    split at e
    · exact e
    · exact W.f _ _ e
  · obtain ⟨h1, h2⟩ := W.a a o e
    refine ⟨?_, h2⟩
    show (if a ∈ bs then H a else F a) = none
    rw [if_neg, h1]
    intro hm
    obtain ⟨ws, e2⟩ := hb a hm
    rw [W.r _ _ e] at e2
    cases e2
    exact h2
  · obtain ⟨h1, h2⟩ := (S a).2 n
    refine ⟨?_, h2⟩
    show (if a ∈ bs then H a else F a) = none
    rw [if_neg, h1]
    intro hm
    obtain ⟨ws, e2⟩ := hb a hm
    obtain ⟨o, e3, h3⟩ := ow a n
    rw [e3] at e2
    cases e2
    exact h3
theorem opn_sortDT {shape : Nat → Bool} : OpNF K TuS.rSortDT (oSortDT shape) := fun {F R H G vs ds P Q} W ow S b w q => by
  obtain ⟨d, rfl, w⟩ := one_of w
  obtain ⟨v, vr, rfl, ⟨A, r, l⟩, rfl⟩ := b
  obtain ⟨p, o, t, kvs, us, B, rfl, e1, g, rk, lB, rfl, hok, w⟩ := dicOf_of W.f r w
  obtain ⟨hn, lk, rfl, rfl⟩ := g
  have hlen : kvs.map (·.1) = lk.map fun p => KD.tup (p.1.map keyKD) := by
    have : ∀ {kvs : List (KD × D)} {us : List (KD × V)} {A : FP}, Repk K F H kvs us A → kvs.map (·.1) = us.map (·.1) := by
      intro kvs
      induction kvs with
      | nil => intro us A r; rw [r.1]; rfl
      | cons p kvs ih => intro us A ⟨v, vr, B, C, e, _, q, _⟩; rw [e]; simp [ih q]
    rw [this rk, List.map_map]; rfl
  have hmapD : (kvs.map fun p => kdD p.1) = lk.map fun p => D.tup (p.1.map fun k => match k with | .inl i => .int i | .inr x => .str x) := by
    have e : (kvs.map fun p => kdD p.1) = (kvs.map (·.1)).map kdD := by rw [List.map_map]; rfl
    rw [e, hlen, List.map_map]
    exact List.map_congr_left fun p _ => kdD_key p.1
  refine ⟨p, lk, shape, rfl, e1, fun x hx => ?_, fun bs cs ks n hk hp hks hso hn0 => ?_⟩
  · have hm : D.tup (x.1.map fun k => match k with | .inl i => .int i | .inr x => .str x) ∈ kvs.map fun p => kdD p.1 := by
      rw [hmapD]; exact List.mem_map.mpr ⟨x, hx, rfl⟩
    obtain ⟨y, hy, ey⟩ := List.mem_map.mp hm
    have h1 := hok y hy
    rw [ey] at h1
    obtain ⟨h2, h3⟩ := h1
    rw [dKey_keys] at h3
    exact ⟨fun z => h2 (by rw [z]; rfl), h3⟩
  · have key : ∃ ps : List (Addr × D), bs = ps.map (·.1) ∧ (lk.map fun p => D.tup (p.1.map fun k => match k with | .inl i => D.int i | .inr x => .str x)) = ps.map (·.2) ∧
        ∀ z ∈ ps, ∃ k : List Key, H z.1 = some (.tup (k.map kV)) ∧ z.2 = .tup (k.map fun k => match k with | .inl i => .int i | .inr x => .str x) := by
      clear hp hks hso hok w hlen hmapD rk e1 hn
      induction hk with
      | nil => exact ⟨[], rfl, rfl, fun _ h => by simp at h⟩
      | @cons x b lk bs h t ih =>
        obtain ⟨ps, h1, h2, h3⟩ := ih
        refine ⟨(b, D.tup (x.1.map fun k => match k with | .inl i => .int i | .inr x => .str x)) :: ps, by rw [h1]; rfl, by rw [List.map_cons, h2]; rfl, fun z hz => ?_⟩
        rcases List.mem_cons.mp hz with e | hz
        · subst e; exact ⟨x.1, h, rfl⟩
        · exact h3 z hz
    obtain ⟨ps, rfl, eD, hps⟩ := key
    obtain ⟨qs, hq, rfl⟩ := perm_ps hp
    obtain ⟨F1, s1, W1, S1, hF1⟩ := add_tups W ow S (ps.map (·.1)) fun b hb => by
      obtain ⟨z, hz, rfl⟩ := List.mem_map.mp hb
      obtain ⟨k, h1, _⟩ := hps z hz
      exact ⟨_, h1⟩
    have hrep : ∀ z ∈ qs, Rep K F1 H z.2 (.ref z.1) fp0 := fun z hz => by
      have hz' := hq.mem_iff.mp hz
      obtain ⟨k, h1, h2⟩ := hps z hz'
      rw [h2]
      exact ⟨z.1, _, rfl, by rw [hF1 z.1 (List.mem_map.mpr ⟨z, hz', rfl⟩)]; exact h1, reps_keys k⟩
    have hfz : fzs (qs.map (·.2)) = true := by
      have hk : ∀ ks : List Key, fzs (ks.map fun k => match k with | .inl i => D.int i | .inr x => .str x) = true := by
        intro ks
        induction ks with
        | nil => rfl
        | cons k ks ih => cases k <;> simp [fzs, fz, ih]
      have : ∀ {l : List D}, (∀ x ∈ l, fz x = true) → fzs l = true := by
        intro l
        induction l with
        | nil => intro _; rfl
        | cons x l ih => intro h; simp [fzs, h x (by simp), ih fun y hy => h y (by simp [hy])]
      refine this fun x hx => ?_
      obtain ⟨z, hz, rfl⟩ := List.mem_map.mp hx
      obtain ⟨k, _, h2⟩ := hps z (hq.mem_iff.mp hz)
      rw [h2]; exact hk k
    obtain ⟨F', A', s', k', W', rd, p'⟩ := new_lst W1 ow S1 hn0 (reps_of_ps hrep) hfz
    rw [List.map_map]
    refine q _ _ ⟨_, F', A', s1.trans s', k', W', rd, p', w _ ?_ ?_⟩
    · rw [hmapD, eD]; exact hq.map _
    · rw [List.pairwise_map] at hso ⊢
      have hks' : ∀ z ∈ qs, ks z.1 = tuK shape z.2 := fun z hz => by
        have hz' := hq.mem_iff.mp hz
        obtain ⟨k, h1, h2⟩ := hps z hz'
        obtain ⟨ws, h3, h4⟩ := hks z.1 (List.mem_map.mpr ⟨z, hz', rfl⟩)
        rw [h1] at h3
        have e5 : k.map kV = ws := by simpa using h3
        rw [h2]
        show ks z.1 = (dKey shape 0 _).getD []
        rw [dKey_keys, e5, h4]; rfl
      refine hso.imp_of_mem fun {x y} hx hy h => ?_
      rw [hks' x hx, hks' y hy] at h
      exact h
/-- sorted: ints, tuples, a dict whose keys are tuples -/
def rSortA (K : PySem.W.Frag) : List V → Hp → VK → Prop := fun vs H Q => rSortedI K vs H Q ∨ TuS.rSortTu K vs H Q ∨ TuS.rSortDT vs H Q
def oSortA (ds : List D) (P : D → Prop) : Prop := oSorted ds P ∨ (∃ shape, oSortTu shape ds P) ∨ ∃ shape, oSortDT shape ds P
theorem cr_sortA {X : Cx} (hc : X.calm = true) : CallR X (.builtin "sorted") (rSortA X.K) := CallR.or cr_sortedI (CallR.or TuS.cr_sortTu (TuS.cr_sortDT hc))
theorem opn_sortA : OpNF K (rSortA K) oSortA := fun {F R H G vs ds P Q} W ow S b w q => by
  rcases w with w | ⟨sh, w⟩ | ⟨sh, w⟩
  · exact .inl (opn_sorted W ow S b w q)
  · exact .inr (.inl (opn_sortTu W ow S b w q))
  · exact .inr (.inr (opn_sortDT W ow S b w q))
end
end L3
namespace TuS
open PySem PySem.Spec PyProof.Rows L2
/-- d.pop(k), the key there: ints and texts, or tuples of these -/
def rPopD1 : V → List V → Hp → VK → Prop := fun x xs H Q => ∃ (a : Addr) (y : V), x = .ref a ∧ xs = [y] ∧
  ((∃ (kvs : List (Key × V)) (k : Key) (v : V), H a = some (.dK kvs) ∧ y = kV k ∧ valV kvs k = some v ∧ Q v (upd H a (.dK (dropK kvs k)))) ∨
   ∃ (kvs : List (List Key × V)) (k : List Key) (b : Addr) (v : V), H a = some (.dT kvs) ∧ y = .ref b ∧ H b = some (.tup (k.map kV)) ∧ valV kvs k = some v ∧ Q v (upd H a (.dT (dropK kvs k))))
theorem mt_popD1 {X : Cx} (hu : X.A.units + 1 < cLine) : MtR X "dict.pop" rPopD1 := by
  intro pins s σ H x xs v us Q I rx rxs h
  obtain ⟨a, y, rfl, rfl, h⟩ := h
  cases rx
  obtain ⟨u1, rfl, r1⟩ := rxs.one
  rcases h with ⟨kvs, k, v, ha, rfl, l, q⟩ | ⟨kvs, k, b, v, ha, rfl, hb, l, q⟩
  · exact d_pop I ha r1 l (.inl rfl) fun w' s' I' rw' => ⟨v, _, I', rw', q⟩
  · cases r1
    obtain ⟨z, hd, xs', rel, dd⟩ := dt_of I.hok ha
    have hz : xs'.length ≤ sizeLine := by rw [← Paired.length rel]; exact z
    have r := rel.val k
    rw [l] at r
    cases hp : atKey xs' k with
    | none => rw [hp] at r; exact (show False from r).elim
    | some p =>
      rw [hp] at r
      refine call_pop_heap (knd := tupleKind (mixKind X.prog X.w)) (.inl rfl) (PySem.F.args_dict_pop_2 _ _) (tupleKind_room_in1 hu) (key_of I.hok hb) hd dd hp (fun h' dd' hs => ?_) hz
      obtain ⟨o, es, ep, hq, h2, h3, h4, _, h5⟩ := dd'
      have I2 : Inv X pins σ (upd H a (.dT (dropK kvs k))) { s with heap := h', toks := s.toks + (tupleKind (mixKind X.prog X.w)).draws k } :=
        d_write I (by rw [ha]; exact True.intro) hs ⟨o, hq⟩ ⟨Nat.le_trans (dropK_le kvs k) z, hd, _, (L2.DX.KT_drop k rel).keeps (fun c ys ec => (by rw [upd_ne (ne_of ec ha (fun z => nomatch z))]; exact ec)), o, es, ep, hq, h2, h3, h4, h5⟩
      exact ⟨v, _, I2, r, q⟩
end TuS
namespace L3
open PySem PySem.Spec L2
open PyProof.Rows hiding St
/-! x.pop(k), x a dict of ours -/
def oPopD (d j : D) (P : D → D → Prop) : Prop := match d with
  | .dic .ow t kvs => mb (keyD t j) fun k => mb (look kvs k) fun v => fz v = true ∧ P v (.dic .ow t (kdrop kvs k))
  | _ => False
def isDic : D → Prop
  | .dic .ow _ _ => True
  | _ => False
theorem kdrop_map {κ : Type} [DecidableEq κ] {f : κ → KD} (hf : ∀ a b, f a = f b → a = b) (k : κ) : ∀ l : List (κ × V), (l.map fun p => f p.1).Nodup → kdrop (l.map fun p => (f p.1, p.2)) (f k) = (dropK l k).map fun p => (f p.1, p.2)
  | [], _ => rfl
  | p :: l, hn => by
    simp only [List.map_cons, List.nodup_cons, List.mem_map, not_exists, not_and] at hn
    by_cases h : p.1 = k
    · have hno : ∀ q ∈ l, decide (q.1 ≠ k) = true := fun q hq => decide_eq_true fun e => hn.1 q hq (by rw [e, h])
      have e : dropK (p :: l) k = l := by
        unfold dropK
        rw [List.filter_cons, if_neg (by simp [h]), List.filter_eq_self.mpr hno]
      rw [e]
      simp [kdrop, h]
    · have hk : ¬ f p.1 = f k := fun e => h (hf _ _ e)
      have e : dropK (p :: l) k = p :: dropK l k := by
        unfold dropK
        rw [List.filter_cons, if_pos (by simp [h])]
      rw [e]
      simp only [List.map_cons, kdrop, if_neg hk]
      rw [kdrop_map hf k l hn.2]
theorem kdrop_sub {α : Type} {k : KD} : ∀ {l : List (KD × α)}, List.Sublist ((kdrop l k).map (·.1)) (l.map (·.1))
  | [] => List.Sublist.refl _
  | (k0, x) :: l => by
    by_cases h : k0 = k
    · simp only [kdrop, if_pos h, List.map_cons]; exact List.sublist_cons_self _ _
    · simp only [kdrop, if_neg h, List.map_cons]; exact kdrop_sub.cons₂ _
section
variable {K : PySem.W.Frag} {F H : Hp}
theorem repk_drop : ∀ {ds : List (KD × D)} {vs : List (KD × V)} {A : FP} {k : KD} {d : D}, Repk K F H ds vs A → look ds k = some d → ∃ v B C, look vs k = some v ∧ Rep K F H d v B ∧ Repk K F H (kdrop ds k) (kdrop vs k) C ∧ A = fpA B C
  | [], _, _, k, d, _, h => by simp [look] at h
  | (k0, x) :: ds, _, _, k, d, ⟨v, vr, B, C, e, r, q, z⟩, h => by
    subst e
    by_cases hk : k0 = k
    · simp only [look, if_pos hk, Option.some.injEq] at h
      subst h
      exact ⟨v, B, C, by simp [look, hk], r, by simp only [kdrop, if_pos hk]; exact q, z⟩
    · simp only [look, if_neg hk] at h
      obtain ⟨v1, B1, C1, h1, h2, h3, h4⟩ := repk_drop q h
      refine ⟨v1, B1, fpA B C1, by simp [look, hk, h1], h2, ?_, by rw [z, h4, ← fpA_assoc, ← fpA_assoc, fpA_comm (A := B)]⟩
      simp only [kdrop, if_neg hk]
      exact ⟨v, _, B, C1, rfl, r, h3, rfl⟩
end
section
variable {Y : Cy} {a : Expr} {wa : KW} {p apos cpos : Pos}
theorem e_dpop (i : Nat) {x : Str} (hu : Y.X.A.units + 1 < cLine) (ha : DK Y a wa) (hN : Y.X.N[i]? = some x := by rfl) (hv : Vis Y.X.env.scope x := by first | exact Or.inl rfl | exact Or.inr (Or.inl rfl) | exact Or.inr (Or.inr rfl))
    (hd : (x == ("__debug__" : Str)) = false := by decide) (hcd : (x == ("__classdict__" : Str)) = false := by decide)
    (hbase : attributeBase (.Name x p) "pop" Y.X.env (eval (.Name x p) Y.X.env) = eval (.Name x p) Y.X.env := by rfl)
    (hfew : ((backTo cpos (starEach [a] Y.X.env)).all (fun x => !x.1) && (backToKw cpos (keywordEach [] Y.X.env)).all (fun x => x.1.isSome)
      && decide (([a] : List Expr).length + ([] : List Keyword).length + (if ([] : List Keyword).isEmpty then 0 else 1) < 30)) = true := by rfl)
    (hline : (apos.endLine == cpos.line) = true := by rfl) (hs : starEach [a] Y.X.env = (false, eval a Y.X.env) :: starEach [] Y.X.env := by rfl) (hplain : (backTo cpos (starEach [] Y.X.env)).any (·.1) = false := by rfl) :
    DE Y (.Call (.Attribute (.Name x p) "pop" apos) [a] [] cpos) (fun ρ Q => gv ρ i isDic ∧ wa ρ fun j => gv ρ i fun d => oPopD d j fun v d' => Q v (ρ.set i (some d'))) :=
  ⟨PE.imp (pe_bm PySem.F.plainAttrs_dict PySem.F.slot_dict_pop PySem.F.type_dict_pop (TuS.mt_popD1 hu) (pe_var hN hv hd hcd) (pa_cons ha.run pa_nil hs) hbase hfew hline hs hplain) fun σ H Q ⟨F, R, ρ, B, P, S, ⟨h0, hw⟩, hq, hx⟩ => by
    obtain ⟨d, e1, h0⟩ := gv_some h0
    obtain ⟨v, A0, g1, g2, _⟩ := slr_get S.s e1
    have hdic : ∃ t kvs, d = .dic .ow t kvs := by
      cases d with
      | dic m t kvs => cases m <;> first | exact ⟨t, kvs, rfl⟩ | exact h0.elim
      | _ => exact h0.elim
    obtain ⟨t, kvs, rfl⟩ := hdic
    obtain ⟨pa, o, vs, B0, rfl, hp, g, rk, z⟩ := g2
    have hty : tyV Y.X.K "dict" (.ref pa) H := by
      refine .inr (.inr (.inl ⟨rfl, ?_⟩))
      cases t with
      | k => obtain ⟨_, l, rfl, _⟩ := g; exact .inl ⟨l, hp⟩
      | t => obtain ⟨_, l, rfl, _⟩ := g; exact .inr ⟨l, hp⟩
    refine ⟨_, g1, hty, F, R, ρ, B, _, S, hw, fun y H2 ⟨dj, F2, A2, s2, k2, W2, r2, l2, p2, q2⟩ => ?_, hx⟩
    have S2 := S.keep s2 k2 W2 p2
    obtain ⟨d2, e2, q2⟩ := gv_some q2
    rw [e1] at e2; cases e2
    obtain ⟨kk, ek, q2⟩ := mb_some q2
    obtain ⟨dv, ev, fv, q2⟩ := mb_some q2
    obtain ⟨v2, A1, A3, g3, L⟩ := loc_var S2.s e1
    rw [g1] at g3; cases g3
    obtain ⟨pa', o, vs, B0, epa, hp2, g, rk, z⟩ := L.rep
    cases epa
    obtain ⟨vv, C1, C2, hlv, rv, rk2, zB⟩ := repk_drop rk ev
    have zC1 := fz_rep dv fv rv
    subst zC1
    rw [fpA_0l] at zB
    have hA1 : A1 pa ≠ 0 := by rw [z]; exact fpA_r (fp1_self pa)
    have fin : ∀ o', DicO t o' (kdrop vs kk) → Q vv (upd H2 pa o') := fun o' g' => by
      obtain ⟨W4, kA2, _⟩ := loc_write (oo := o') (A := fp0) W2 L (by rw [fpA_0l]; exact p2) hA1
      have hn : ∀ b, C2 b ≠ 0 → (upd H2 pa o') b = H2 b := fun b n => by
        refine upd_ne ?_
        rintro rfl
        have h1 := (p2 b).1
        rw [L.fp, z, zB] at h1
        unfold fpA at h1
        simp only [fp1, if_pos] at h1
        omega
      have sl2 := L.back F2 (upd H2 pa o') (.dic .ow t (kdrop kvs kk)) A1 (Same.refl F2) kA2 ⟨pa, o', _, C2, rfl, upd_same, g', repk_mono (Same.refl F2) _ hn rk2, by rw [z, zB]⟩
      have eput : putE ρ i [] (.dic .ow t (kdrop kvs kk)) = ρ.set i (some (.dic .ow t (kdrop kvs kk))) := by
        unfold putE; rw [e1]; rfl
      rw [eput] at sl2
      exact hq _ _ ⟨dv, _, F2, fp0, _, s2, W4, rep_mono (Same.refl F2) dv (fun b n => absurd rfl n) rv, sl2, by rw [fpA_0l, ← L.fp]; exact p2, q2⟩
    refine ⟨pa, y, rfl, rfl, ?_⟩
    cases t with
    | k =>
      obtain ⟨hn, l, rfl, rfl⟩ := g
      simp only [keyD, Option.map_eq_some_iff] at ek
      obtain ⟨k0, h1, rfl⟩ := ek
      rw [look_val (fun a b e => keyKD_inj e) k0 l] at hlv
      refine .inl ⟨l, k0, vv, hp2, flatK_rep h1 r2, hlv, fin _ ⟨hn.sublist kdrop_sub, _, rfl, ?_⟩⟩
      exact kdrop_map (f := keyKD) (fun a b e => keyKD_inj e) k0 l (by rw [List.map_map] at hn; exact hn)
    | t =>
      obtain ⟨hn, l, rfl, rfl⟩ := g
      cases dj with
      | tup xs =>
        simp only [keyD, Option.map_eq_some_iff] at ek
        obtain ⟨k0, h1, rfl⟩ := ek
        obtain ⟨b, us, rfl, e5, q5⟩ := r2
        rw [flatKs_rep h1 q5] at e5
        rw [look_val (f := fun k : List Key => KD.tup (k.map keyKD)) (fun a b e => keysKD_inj (by simpa using e)) k0 l] at hlv
        refine .inr ⟨l, k0, b, vv, hp2, rfl, W2.f _ _ e5, hlv, fin _ ⟨hn.sublist kdrop_sub, _, rfl, ?_⟩⟩
        exact kdrop_map (f := fun k : List Key => KD.tup (k.map keyKD)) (fun a b e => keysKD_inj (by simpa using e)) k0 l (by rw [List.map_map] at hn; exact hn)
      | _ => simp [keyD] at ek⟩
end
end L3
namespace L3
open PySem PySem.Spec L2
open PyProof.Rows hiding St
/-! slices whose bounds may change what they will -/
abbrev OEW := Env → (Option Int → Env → Prop) → Prop
def rdOE (Y : Cy) (w : OEW) : TO := fun σ H Q => ∃ F R ρ B P, Sd Y.X.K F R H ρ σ B ∧ w ρ P ∧ (∀ i H', StP Y F R σ (P i) σ H' → Q i H') ∧ ExH Y F R σ
structure DOE (Y : Cy) (e : Option Expr) (w : OEW) : Prop where
  run : PO Y.X e (rdOE Y w)
section
variable {Y : Cy} {F F1 R H H1 : Hp} {ρ : Env} {σ σ1 : St} {A B : FP} {e a b o : Expr} {ew kw : DW} {lo hi : Option Expr} {ol oh : OEW} {pos pos' p p2 : Pos}
theorem oe_none : DOE Y none (fun ρ P => P none ρ) := ⟨PO.imp po_none fun σ H Q ⟨F, R, ρ, B, P, S, hw, hq, hx⟩ => hq none H ⟨ρ, F, B, Same.refl F, S.w, S.s, S.p, .refl, hw⟩⟩
theorem oe_some (h : DE Y e ew) : DOE Y (some e) (fun ρ P => ew ρ fun d ρ1 => gi d fun i => P (some i) ρ1) := ⟨PO.imp (po_some h.run) fun σ H Q ⟨F, R, ρ, B, P, S, hw, hq, hx⟩ => ⟨F, R, ρ, B, _, S, hw, fun v H1 ⟨d, ρ1, F1, A, B1, s, W, r, sl, p, q⟩ => by
  cases d with
  | int i => exact ⟨i, r.1, hq _ _ ⟨ρ1, F1, B1, s, W, sl, p.mono fun a => (by unfold fpA; omega), .refl, q⟩⟩
  | _ => exact q.elim, hx⟩⟩
theorem e_slice (h : DE Y e ew) (hl : DOE Y lo ol) (hh : DOE Y hi oh) : DE Y (.Subscript e (.Slice lo hi none p2) pos) (fun ρ Q => ew ρ fun d ρ1 => ol ρ1 fun l ρ2 => oh ρ2 fun u ρ3 => oSl d l u fun d' => Q d' ρ3) :=
  ⟨PE.imp (pe_slice slr_x h.run hl.run hh.run) fun σ H Q ⟨F, R, ρ, B, P, S, hw, hq, hx⟩ => ⟨F, R, ρ, B, _, S, hw, fun v H1 ⟨d, ρ1, F1, A, B1, s, W, r, sl, p, q⟩ => by
    have own1 := rep_own d r
    have pA : Sep F1 R A := p.mono fun a => by unfold fpA; omega
    have W1 := W.hold pA own1
    refine ⟨F1, hold R H1 A, ρ1, B1, _, ⟨W1, sl, p.hold⟩, q, fun i H2 ⟨ρ2, F2, B2, s2, W2, sl2, p2, _, q2⟩ => ?_, hx.hold s W pA⟩
    refine ⟨F2, hold R H1 A, ρ2, B2, _, ⟨W2, sl2, p2⟩, q2, fun j H3 ⟨ρ3, F3, B3, s3, W3, sl3, p3, _, q3⟩ => ?_, (hx.hold s W pA).grow s2⟩
    obtain ⟨W4, p4, k4⟩ := hold_back W pA own1 W3 p3
    have r4 : Rep Y.X.K F3 H3 d v A := rep_mono (s2.trans s3) d k4 r
    have own4 : Own H3 (fpA A B3) := fun a nz => by
      rw [fpA_ne] at nz
      rcases nz with nz | nz
      · exact rep_own d r4 a nz
      · exact slr_own sl3 a nz
    exact sl_ok W4 own4 p4 r4 (fun a => by unfold fpA; omega) q3 fun v5 H5 ⟨d5, F5, A5, s5, k5, W5, r5, p5, q5⟩ =>
      hq v5 H5 ⟨d5, ρ3, F5, A5, B3, s.trans (s2.trans (s3.trans s5)), W5, r5, slr_mono s5 (fun a nz => k5 a (fpA_r nz)) sl3, p5.mono fun a => (by unfold fpA; omega), q5⟩, hx⟩⟩
/-! x[k] = e, x a name, the key may change what it will -/
theorem s_dputE (i : Nat) {x : Str} {px : Pos} (hu : Y.X.A.units + 1 < cLine) (hv : DE Y e ew) (hi : DE Y a kw) (hN : Y.X.N[i]? = some x := by rfl) (hvis : Vis Y.X.env.scope x := by first | exact Or.inl rfl | exact Or.inr (Or.inl rfl) | exact Or.inr (Or.inr rfl))
    (hd : (x == ("__debug__" : Str)) = false := by decide) (hcd : (x == ("__classdict__" : Str)) = false := by decide) (hs : swapsWith e (some (.Subscript (.Name x px) a pos')) pos.line Y.X.env = pure false := by rfl) :
    DS Y (.Assign [.Subscript (.Name x px) a pos'] e pos) (fun K ρ => ew ρ fun d ρ1 => gv ρ1 i isDic ∧ kw ρ1 fun j ρ2 => fz j = true ∧ stDic i [] ρ2 j d K.nx) :=
  ⟨PS.imp (ps_dput hu (pe_var hN hvis hd hcd) hi.run hv.run hs) fun Z σ H ⟨F, R, ρ, B, K, S, hw, G⟩ => ⟨F, R, ρ, B, _, S, hw, fun v H1 ⟨d, ρ1, F1, A, B1, s, W, r, sl, p, ⟨q0, q⟩⟩ => by
    have own1 := rep_own d r
    have pA : Sep F1 R A := p.mono fun a => by unfold fpA; omega
    obtain ⟨d0, e0, q0⟩ := gv_some q0
    obtain ⟨v0, A0, g1, g2, _⟩ := slr_get sl e0
    refine ⟨v0, g1, F1, hold R H1 A, ρ1, B1, _, ⟨W.hold pA own1, sl, p.hold⟩, q, fun y H2 ⟨j, ρ2, F2, Aj, B2, s2, W2, rj, sl2, p2, ⟨fj, q2⟩⟩ => ?_, G.ex.hold s W pA⟩
    have zj := fz_rep j fj rj
    subst zj
    rw [fpA_0l] at p2
    obtain ⟨W3, p3, k3⟩ := hold_back W pA own1 W2 p2
    obtain ⟨d1, e1, q2⟩ := mb_some q2
    have e1' : ρ2[i]? = some (some d1) := by
      unfold getE at e1
      split at e1
      · rename_i dd ee
        have : dd = d1 := by simpa [getP] using e1
        rw [← this]; exact ee
      · cases e1
    obtain ⟨v1, A1, A2, h1, L⟩ := loc_var sl2 e1'
    rw [g1] at h1; cases h1
    cases d1 with
    | dic m t kvs =>
      cases m with
      | fr => exact q2.elim
      | lk => exact q2.elim
      | ow =>
        obtain ⟨hl, q2⟩ := q2
        obtain ⟨kk, ek, q5⟩ := mb_some q2
        obtain ⟨a0, oo, vs, B0, rfl, ha, g, rs, z⟩ := L.rep
        obtain ⟨o', dp, g'⟩ := dput_ok (F := F2) (v := v) W3.f ha g ek rj (by rw [repk_len rs]; exact hl)
        refine ⟨a0, _, rfl, dp, ?_⟩
        have hA1 : A1 a0 ≠ 0 := by rw [z]; exact fpA_r (fp1_self a0)
        obtain ⟨W4, kA2, kA⟩ := loc_write (oo := o') W3 L p3 hA1
        have r2 : Rep Y.X.K F2 (upd H2 a0 o') d v A := rep_mono s2 d (fun b n => by rw [kA b n, k3 b n]) r
        obtain ⟨C1, l, hput⟩ := repk_put kk rs
        have hn : ∀ b, C1 b ≠ 0 → (upd H2 a0 o') b = H2 b := fun b n => by
          refine upd_ne ?_
          rintro rfl
          have h1 := (p3 b).1
          have h2 := l b
          unfold fpA at h1
          rw [L.fp, z] at h1
          unfold fpA at h1
          simp only [fp1, if_pos] at h1
          omega
        have rs2 := hput F2 _ d v A (Same.refl F2) hn r2
        have sl3 := L.back F2 _ (.dic .ow t (kput kvs kk d)) _ (Same.refl F2) kA2 ⟨a0, _, _, _, rfl, upd_same, g', rs2, rfl⟩
        refine G.nx σ _ ⟨_, F2, _, s.trans s2, W4, sl3, p3.mono fun b => ?_, .refl, q5⟩
        have := l b
        rw [L.fp, z]
        unfold fpA
        omega
    | _ => exact q2.elim, G.ex⟩⟩
end
end L3
namespace L3
open PySem PySem.Spec L2
open PyProof.Rows hiding St
/-! slices with a step -/
def stepL {α : Type} (xs : List α) (lo hi st : Option Int) : List α := (sliceRange (sliceBounds lo hi st xs.length).1 (sliceBounds lo hi st xs.length).2.1 (sliceBounds lo hi st xs.length).2.2).filterMap (xs[·]?)
def tSlS (K : PySem.W.Frag) (te : TE) (tl th ts : TO) : TE := fun σ H Q => te σ H fun x H1 => tl σ H1 fun l H2 => th σ H2 fun u H3 => ts σ H3 fun o H4 => ∃ a xs, x = .ref a ∧ SqL K H4 a xs ∧ o ≠ some 0 ∧ ∀ p, H4 p = none → Q (.ref p) (upd H4 p (.lst (stepL xs l u o)))
theorem vals_pick {xs : List V} {us : List Value} (h : Vals xs us) : ∀ idx : List Nat, Vals (idx.filterMap (xs[·]?)) (idx.filterMap (us[·]?))
  | [] => .nil
  | i :: idx => by
    simp only [List.filterMap_cons]
    cases e : xs[i]? with
    | none => rw [h.none_of e]; exact vals_pick h idx
    | some x => obtain ⟨u, h1, h2⟩ := h.get e; rw [h1]; exact .cons h2 (vals_pick h idx)
theorem stepL_len {α : Type} (xs : List α) (lo hi st : Option Int) : (stepL xs lo hi st).length ≤ xs.length := by
  unfold stepL
  refine Nat.le_trans (List.length_filterMap_le _ _) (sliceRange_length_le _ _ _ _ (fun hc => ?_) fun hc => ?_)
  · simp only [sliceBounds] at hc ⊢
    simp only [hc, if_true]
    constructor
    · cases lo with
      | none => simp
      | some i => dsimp only; omega
    · cases hi with
      | none => simp
      | some i => dsimp only; omega
  · simp only [sliceBounds] at hc ⊢
    simp only [hc, if_false]
    constructor
    · cases lo with
      | none => simp
      | some i => dsimp only; omega
    · cases hi with
      | none => simp
      | some i => dsimp only; omega
theorem stepL_map {α β : Type} (f : α → β) (xs : List α) (lo hi st : Option Int) : stepL (xs.map f) lo hi st = (stepL xs lo hi st).map f := by
  unfold stepL
  rw [List.length_map, List.map_filterMap]
  congr 1
  funext i
  rw [List.getElem?_map]
theorem stepL_sub {α : Type} {xs : List α} {lo hi st : Option Int} : ∀ x ∈ stepL xs lo hi st, x ∈ xs := by
  intro x hx
  unfold stepL at hx
  obtain ⟨i, _, h⟩ := List.mem_filterMap.mp hx
  exact List.mem_of_getElem? h
section
variable {X : Cx}
theorem pe_slS {e st : Expr} {te : TE} {lo hi : Option Expr} {tl th ts : TO} {p2 pos : Pos} (he : PE X e te) (hl : PO X lo tl) (hu : PO X hi th) (hs : PO X (some st) ts) : PE X (.Subscript e (.Slice lo hi (some st) p2) pos) (tSlS X.K te tl th ts) := by
  refine ⟨fun pins s σ H Q I h => ?_⟩
  refine Subscript_ (thn (he.run pins s σ H _ I h) fun v s1 ⟨x, H1, I1, r1, q1⟩ => ?_)
  refine wpAny_Slice (thn (hl.run pins s1 σ H1 _ I1 q1) fun vl s2 ⟨l, H2, I2, pl, q2⟩ => ?_)
  refine thn (hu.run pins s2 σ H2 _ I2 q2) fun vu s3 ⟨u, H3, I3, pu, q3⟩ => ?_
  refine thn (hs.run pins s3 σ H3 _ I3 q3) fun vs s4 ⟨o, H4, I4, ps, a, xs, ex, hx, h0, q⟩ => ?_
  subst ex
  cases r1
  have I5 : Inv X pins σ H4 { s4 with heap := s4.heap.push { cls := .type "slice", data := .fields #[vl, vu, vs] } } := I4.kept (t' := s4.toks) fun b ob q => Heap.get?_push_of_some _ q
  obtain ⟨its, r, ht, hz⟩ := I5.list hx
  have hlen := r.length
  show wpAny (model X.prog X.w) X.A (subscriptTail e (.Slice lo hi (some st) p2) (.ref a) (.ref s4.heap.objs.size)) (EP X pins σ Q) X.xe { s4 with heap := s4.heap.push { cls := .type "slice", data := .fields #[vl, vu, vs] } }
  refine tail_any (ops := [.ref a, .ref s4.heap.objs.size]) ht.isList.typeIs (PySem.slot_list_getitem.lookup) ?_ (by with_unfolding_all rfl)
  refine wpAny_getItem_list_slice ht.isList (Heap.IsSliceOf.new _ vl vu vs) pl pu ps h0 ?_ (by rw [List.size_toArray]; omega)
  have ep : slicePick its.toArray l u o = (stepL its l u o).toArray := by
    unfold slicePick stepL
    rw [List.size_toArray]
    congr 2
    funext i
    simp
  rw [ep]
  refine ⟨.ref _, _, I5.laid (t' := s4.toks) (o := .lst (stepL xs l u o)) (fun b ob q => Heap.get?_push_of_some _ q) (Nat.le_refl _) ?_, rfl, q _ (I5.hok.fresh (Nat.le_refl _))⟩
  refine ⟨Nat.le_trans (stepL_len xs l u o) hz, _, 0, ?_, Heap.get?_push_size _ rfl⟩
  have := vals_pick r (sliceRange (sliceBounds l u o xs.length).1 (sliceBounds l u o xs.length).2.1 (sliceBounds l u o xs.length).2.2)
  unfold stepL
  rw [← hlen]
  exact this
end
def oSlS (d : D) (lo hi st : Option Int) (P : D → Prop) : Prop := match d with
  | .lst _ xs => fzs xs = true ∧ st ≠ some 0 ∧ P (.lst true (stepL xs lo hi st))
  | .scr xs => st ≠ some 0 ∧ P (.lst true ((stepL xs lo hi st).map D.int))
  | _ => False
theorem reps_pick {K : PySem.W.Frag} {F H : Hp} {xs : List D} {vs : List V} (r : Reps K F H xs vs fp0) : ∀ idx : List Nat, Reps K F H (idx.filterMap (xs[·]?)) (idx.filterMap (vs[·]?)) fp0
  | [] => ⟨rfl, rfl⟩
  | i :: idx => by
    simp only [List.filterMap_cons]
    cases e : xs[i]? with
    | none =>
      have : vs[i]? = none := List.getElem?_eq_none_iff.mpr (by rw [reps_len r]; exact List.getElem?_eq_none_iff.mp e)
      rw [this]; exact reps_pick r idx
    | some x =>
      obtain ⟨v, h1, h2⟩ := reps_getf r e
      rw [h1]; exact ⟨v, _, fp0, fp0, rfl, h2, reps_pick r idx, fpA_0l.symm⟩
theorem fzs_stepL {xs : List D} {lo hi st : Option Int} (h : fzs xs = true) : fzs (stepL xs lo hi st) = true := by
  have : ∀ {l : List D}, (∀ x ∈ l, fz x = true) → fzs l = true := by
    intro l
    induction l with
    | nil => intro _; rfl
    | cons x l ih => intro h; simp [fzs, h x (by simp), ih fun y hy => h y (by simp [hy])]
  refine this fun x hx => ?_
  unfold stepL at hx
  obtain ⟨i, _, e⟩ := List.mem_filterMap.mp hx
  exact fzs_get h e
section
variable {Y : Cy} {e st : Expr} {w : KW} {lo hi : Option Expr} {ol oh os : OW} {pos p2 : Pos}
theorem f_slS (h : DK Y e w) (hl : DO Y lo ol) (hh : DO Y hi oh) (hs : DO Y (some st) os) : DF Y (.Subscript e (.Slice lo hi (some st) p2) pos) (fun ρ P => w ρ fun d => ol ρ fun l => oh ρ fun u => os ρ fun o => oSlS d l u o P) :=
  ⟨PE.imp (pe_slS h.run hl.run hh.run hs.run) fun σ H Q ⟨F, R, ρ, B, P, S, hw, hq, hx⟩ => ⟨F, R, ρ, B, _, S, hw, fun v H1 ⟨d, F1, A, s, k, W, r, l, p, q⟩ => by
    have S1 := S.keep s k W p
    refine ⟨F1, R, ρ, B, _, S1, q, fun i H2 ⟨F2, s2, k2, W2, p2, q2⟩ => ?_, hx.grow s⟩
    have S2 := S1.keep s2 k2 W2 p2
    refine ⟨F2, R, ρ, B, _, S2, q2, fun j H3 ⟨F3, s3, k3, W3, p3, q3⟩ => ?_, hx.grow (s.trans s2)⟩
    have S3 := S2.keep s3 k3 W3 p3
    refine ⟨F3, R, ρ, B, _, S3, q3, fun j2 H4 ⟨F4, s4, k4, W4, p4, q4⟩ => ?_, hx.grow ((s.trans s2).trans s3)⟩
    have S4 := S3.keep s4 k4 W4 p4
    have r4 : Rep Y.X.K F4 H4 d v A := rep_mono ((s2.trans s3).trans s4) d (fun a n => by
      have hB : B a ≠ 0 := by have := l a; omega
      rw [k4 a hB, k3 a hB, k2 a hB]) r
    have hk : Keep B H H4 := fun a n => by rw [k4 a n, k3 a n, k2 a n, k a n]
    cases d with
    | lst m xs =>
      obtain ⟨q5, q6, q7⟩ := q4
      obtain ⟨p, vs, rfl, e1, B1, q1, _⟩ := lst_at W4.f r4
      rw [fzs_reps xs q5 q1] at q1
      refine ⟨p, vs, rfl, SqL.of e1, q6, fun n hn => ?_⟩
      have rr : Reps Y.X.K F4 H4 (stepL xs i j j2) (stepL vs i j j2) fp0 := by
        unfold stepL
        rw [reps_len q1]
        exact reps_pick q1 _
      obtain ⟨F', A', s5, k5, W', rd, p'⟩ := new_lst W4 S4.own p4 hn rr (fzs_stepL q5)
      exact hq _ _ ⟨_, F', A', s.trans (s2.trans (s3.trans (s4.trans s5))), fun a n => by rw [k5 a n, hk a n], W', rd, p', q7⟩
    | scr xs =>
      obtain ⟨q5, q6⟩ := q4
      obtain ⟨p, rfl, e1, z⟩ := r4
      refine ⟨p, _, rfl, W4.f.seq e1, q5, fun n hn => ?_⟩
      rw [stepL_map]
      obtain ⟨F', A', s5, k5, W', rd, p'⟩ := new_lst W4 S4.own p4 hn (reps_of_ints (K := Y.X.K) (F := F4) (H := H4) _) (fzs_ints _)
      exact hq _ _ ⟨_, F', A', s.trans (s2.trans (s3.trans (s4.trans s5))), fun a n => by rw [k5 a n, hk a n], W', rd, p', q6⟩
    | _ => exact q4.elim, hx⟩⟩
end
end L3
/-! list(reversed(a list)) -/
namespace RvL
open PySem PySem.Calls PyProof.Rows PyProof.V PySem.Spec PySem.W RT
section
variable {prog : Program} {w : World} {A : Around} {E : Value → Shared → Prop} {s : Shared} {it l : Addr} {items : Array Value}
theorem rv_extend {R : Result → Shared → Prop} (hh : A.handled = none) (hit : s.heap.IsRevIter it l ((items.size : Int) - 1)) (hl : s.heap.IsList l items) (hne : l ≠ it) (S : Addr) (hSi : S ≠ it) (hSl : S ≠ l) (res : Value) (c₀ : Nat) (hS : s.heap.get? S = some { cls := .type "list", data := .seq #[] c₀ }) (hn : items.size ≤ sizeLine)
    (hR : ∀ h' tk acc c, (∀ b o, b ≠ S → b ≠ it → s.heap.get? b = some o → h'.get? b = some o) → h'.get? S = some { cls := .type "list", dict := none, data := .seq acc c, slots := #[] } → ItemsOf (fun i v => items[items.size - 1 - i]? = some v) acc items.size →
      R (.ok (.ret res)) { s with heap := h', toks := tk }) :
    wpAny (model prog w) A.in1 (Builtin.List.listExtendWith (.ref S) (.ref it) res)
      (fun fin s' => match fin with | .done f => R (.ok f) s' | .again c' => c'.quiet = true ∧ codeAny (model prog w) A c' R s') (fun e s' => R (.error e) s') s := by
  have W := (Walks.listRev (prog := prog) (w := w) (A := A.in1) hh it l hne items).toS
  have hSf : S ∉ [it, l] := by simp only [List.mem_cons, List.not_mem_nil, or_false, not_or]; exact ⟨hSi, hSl⟩
  have hT : s.TypeIs (.ref it) "list_reverseiterator" := Heap.IsRevIter.typeIs hit
  have h1 : Builtin.List.listSameRef (.ref S) (.ref it) = false := by simp [Builtin.List.listSameRef, hSi]
  unfold Builtin.List.listExtendWith
  refine wpAny_bind (wpAny_typeOf hT ?_)
  rw [if_neg (by rw [h1]; decide)]
  refine wpAny_bind (wpAny_pyIter_revIter hit ?_)
  refine wpAny_bind (wpAny_holding ?_)
  unfold Builtin.List.listLengthHint
  refine wpAny_bind (wpAny_specialOf hT nolen_lri ?_)
  show wpAny _ A.in1 (specialOf (Value.ref it) (Str.ofString "__length_hint__") >>= _) _ _ _
  refine wpAny_bind (wpAny_specialOf hT hint_lri ?_)
  generalize hid : ("list_reverseiterator.__length_hint__" : String) = id0
  wp_delta
  rw [show splitId id0 = some ("list_reverseiterator", "__length_hint__") from by subst hid; decide +kernel]
  subst hid
  refine wpAny_bind (wpAny_isInstance (b := true) hT (by rw [isSubtype_type]; kernel_rfl) ?_)
  refine wpAny_pure ?_
  rw [if_neg (by decide)]
  have e0 : ((items.size : Nat) : Int) - 1 - ((0 : Nat) : Int) = (items.size : Int) - 1 := by omega
  refine wpAny_pure ⟨plainId_quiet F.plain_extend_loop _, codeAny_extend_loopS W hn _ hSf _ items.size 0 _ _ _ rfl (Nat.zero_le _) ⟨Nat.zero_le _, by rw [e0]; exact hit, hl⟩ hS (ItemsOf.nil _) fun s' acc' c' hm hS' hacc => ?_⟩
  rw [Moved.eq_with hm]
  refine hR s'.heap s'.toks acc' c' (fun b o hb1 hb e => hm.heap b o (fun hmem => ?_) e) hS' hacc
  rcases List.mem_cons.mp hmem with e' | hmem
  · exact hb1 e'
  · exact hb (List.mem_singleton.mp hmem)
theorem rv_call {Q : Value → Shared → Prop} (hh : A.handled = none) (hit : s.heap.IsRevIter it l ((items.size : Int) - 1)) (hl : s.heap.IsList l items) (hne : l ≠ it) (hn : items.size ≤ sizeLine)
    (hQ : ∀ h' tk acc c, (∀ b o, b ≠ it → s.heap.get? b = some o → h'.get? b = some o) → h'.get? s.heap.objs.size = some { cls := .type "list", dict := none, data := .seq acc c, slots := #[] } → ItemsOf (fun i v => items[items.size - 1 - i]? = some v) acc items.size →
      Q (.ref s.heap.objs.size) { s with heap := h', toks := tk }) :
    wpAny (model prog w) A (call (.type "list") [.ref it]) Q E s := by
  refine callType_codes (Q₁ := fun obj s₁ => obj = .ref s.heap.objs.size ∧ s₁ = { s with heap := s.heap.push { cls := .type "list", data := .seq #[] } }) PySem.F.called_list (PySem.F.typeCall_list_1 _) PySem.F.entry_list_init
    (code_list_new _ ⟨rfl, rfl⟩) fun obj s₁ h₁ => ?_
  obtain ⟨rfl, rfl⟩ := h₁
  have hS : (s.heap.push { cls := .type "list", data := .seq #[] }).get? s.heap.objs.size = some { cls := .type "list", data := .seq #[] } := Heap.get?_push_size _ rfl
  have hi' : it < s.heap.objs.size := let ⟨_, q, _⟩ := hit; Heap.lt_size q
  have hl' : l < s.heap.objs.size := let ⟨_, q, _⟩ := hl; Heap.lt_size q
  refine ⟨⟨_, hS, rfl⟩, PySem.F.args_list_init_2 _ _, ?_⟩
  show wpAny _ _ (do let old ← Builtin.List.listItems (.ref s.heap.objs.size); Builtin.List.listUpdate (.ref s.heap.objs.size) (fun _ => #[]); letGo old.toList.reverse; Builtin.List.listExtendWith (.ref s.heap.objs.size) (.ref it) .none) _ _ _
  refine wpAny_bind ?_
  unfold Builtin.List.listItems
  refine wpAny_bind (wpAny_seqItems hS rfl (wpAny_pure ?_))
  show wpAny _ _ (updateSeq s.heap.objs.size (fun _ => #[]) >>= fun _ => letGo (#[] : Array Value).toList.reverse >>= fun _ => Builtin.List.listExtendWith (.ref s.heap.objs.size) (.ref it) .none) _ _ _
  refine wpAny_bind (wpAny_updateSeq hS rfl ?_)
  have hS₂ := Heap.get?_update_self (Obj.mapSeq (fun _ => (#[] : Array Value))) hS rfl
  have oth : ∀ b o, b ≠ s.heap.objs.size → s.heap.get? b = some o → ((s.heap.push { cls := .type "list", data := .seq #[] }).update s.heap.objs.size (Obj.mapSeq (fun _ => (#[] : Array Value)))).get? b = some o :=
    fun b o hb e => (Heap.get?_update_other _ _ (Ne.symm hb)).trans (Heap.get?_push_of_some _ e)
  refine wpAny_bind (wpAny_letGo ?_)
  refine rv_extend (items := items) (A := A.in1) hh (hit.at fun o q => oth it o (Nat.ne_of_lt hi') q) (hl.at fun o q => oth l o (Nat.ne_of_lt hl') q) hne s.heap.objs.size (Nat.ne_of_gt hi') (Nat.ne_of_gt hl') .none _ hS₂ hn fun h' tk acc c hk hS' hacc => ?_
  exact ⟨rfl, hQ h' tk acc c (fun b o h1 q => hk b o (Nat.ne_of_lt (Heap.lt_size q)) h1 (oth b o (Nat.ne_of_lt (Heap.lt_size q)) q)) hS' hacc⟩
end
end RvL
namespace L3
open PySem PySem.Spec L2
open PyProof.Rows hiding St
def tListRev (K : PySem.W.Frag) (te : TE) : TE := fun σ H Q => te σ H fun v H1 => ∃ (a : Addr) (xs : List V), v = .ref a ∧ SqL K H1 a xs ∧ ∀ q, H1 q = none → Q (.ref q) (upd H1 q (.lst xs.reverse))
section
variable {X : Cx}
theorem pe_listRev {e : Expr} {te : TE} {p p2 pos pos2 : Pos} (hc : X.calm = true) (hg : Gl X "list") (hm : X.mg "list" = none) (hv : bootBuiltins "list" = some (.type "list")) (hg2 : Gl X "reversed") (hm2 : X.mg "reversed" = none) (he : PE X e te)
    (hs : starEach [e] X.env = (false, eval e X.env) :: starEach [] X.env := by rfl)
    (hs2 : starEach [.Call (.Name "reversed" p2) [e] [] pos2] X.env = (false, eval (.Call (.Name "reversed" p2) [e] [] pos2) X.env) :: starEach [] X.env := by rfl) :
    PE X (.Call (.Name "list" p) [.Call (.Name "reversed" p2) [e] [] pos2] [] pos) (tListRev X.K te) := by
  refine ⟨fun pins s σ H Q I h => ?_⟩
  refine Call_ (ld_blt I hg hm hv (PyProof.Rows.callWith_type1 (args_cons (Call_ (ld_blt I hg2 hm2 PyProof.Rows.boot_reversed (PyProof.Rows.callWith_type1 (args_cons (thn (he.run pins s σ H _ I h) fun u s1 ⟨v, H1, I1, r1, q1⟩ => args_nil ?_) hs) hs rfl))) hs2) hs2 rfl))
  obtain ⟨a, xs, ev, hq, q⟩ := q1
  subst ev
  obtain rfl : u = Value.ref a := r1
  obtain ⟨its, rv, p', hz⟩ := I1.list hq
  refine call_reversed_list p'.isList (args_nil ?_)
  have k0 : ∀ b o, s1.heap.get? b = some o → (s1.heap.push (revObj a ((its.toArray.size : Int) - 1))).get? b = some o := fun b o e => Heap.get?_push_of_some _ e
  have hl := p'.isList
  obtain ⟨ol, hol, _⟩ := id hl
  have hne : a ≠ s1.heap.objs.size := Nat.ne_of_lt (Heap.lt_size hol)
  have hn : its.toArray.size ≤ sizeLine := by rw [List.size_toArray, ← rv.length]; exact hz
  refine RvL.rv_call (s := { s1 with heap := s1.heap.push (revObj a ((its.toArray.size : Int) - 1)) }) (I1.ok.hd hc) ⟨_, Heap.get?_push_size _ rfl, rfl, rfl⟩ (hl.push _) hne hn fun h' tk acc c hk hS hi => ?_
  have hsz : (s1.heap.push (revObj a ((its.toArray.size : Int) - 1))).objs.size = s1.heap.objs.size + 1 := Heap.size_push _ _
  have hsz2 : s1.heap.objs.size ≤ (s1.heap.push (revObj a ((its.toArray.size : Int) - 1))).objs.size := by rw [hsz]; exact Nat.le_succ _
  refine ⟨.ref _, upd H1 (s1.heap.push (revObj a ((its.toArray.size : Int) - 1))).objs.size (.lst xs.reverse), I1.laid (t' := tk) (fun b o e => hk b o (Nat.ne_of_lt (Heap.lt_size e)) (k0 b o e)) hsz2 ⟨by rw [List.length_reverse]; exact hz, acc.toList, c, RT.vals_rev rv hi, by rw [Array.toArray_toList]; exact hS⟩, rfl, q _ (I1.hok.fresh hsz2)⟩
end
section
variable {Y : Cy} {e : Expr} {w : KW} {pos : Pos}
theorem f_listRev {p p2 pos2 : Pos} (hc : Y.X.calm = true) (h : DK Y e w) (hg : Gl Y.X "list") (hm : Y.X.mg "list" = none) (hg2 : Gl Y.X "reversed") (hm2 : Y.X.mg "reversed" = none)
    (hs : starEach [e] Y.X.env = (false, eval e Y.X.env) :: starEach [] Y.X.env := by rfl)
    (hs2 : starEach [.Call (.Name "reversed" p2) [e] [] pos2] Y.X.env = (false, eval (.Call (.Name "reversed" p2) [e] [] pos2) Y.X.env) :: starEach [] Y.X.env := by rfl) :
    DF Y (.Call (.Name "list" p) [.Call (.Name "reversed" p2) [e] [] pos2] [] pos) (fun ρ P => w ρ fun d => lstD d fun xs => P (.lst true xs.reverse)) :=
  ⟨PE.imp (pe_listRev hc hg hm boot_list hg2 hm2 h.run hs hs2) fun σ H Q ⟨F, R, ρ, B, P, S, hw, hq, hx⟩ => ⟨F, R, ρ, B, _, S, hw, fun v H1 ⟨d, F1, A, s, k, W, r, l, p, q⟩ => by
    have hf : ∀ ds, lstD d (fun xs => xs = ds) → fzs ds = true := by
      intro ds hd
      cases d with
      | lst m xs => obtain ⟨h1, h2⟩ := hd; subst h2; exact h1
      | scr ns => cases hd; exact fzs_ints ns
      | _ => exact hd.elim
    obtain ⟨p0, vs, xs, rfl, h1, h2, h3, h4⟩ := lstD_of (P := fun xs => P (.lst true xs.reverse) ∧ lstD d fun ys => ys = xs) W.f r (by
      cases d with
      | lst m xs => exact ⟨q.1, q.2, q.1, rfl⟩
      | scr ns => exact ⟨q, rfl⟩
      | _ => exact q.elim)
    refine ⟨p0, vs, rfl, h1, fun n hn => ?_⟩
    obtain ⟨F', A', s', k', W', rd, p'⟩ := new_lst W (S.keep s k W p).own p hn (reps_rev h2 (hf xs h4)) (fzs_rev (hf xs h4))
    exact hq _ _ ⟨_, F', A', s.trans s', fun a nz => (k' a nz).trans (k a nz), W', rd, p', h3⟩, hx⟩⟩
end
end L3
namespace L3
open PySem PySem.Spec L2
open PyProof.Rows hiding St
/-! a, b = a tuple or a list -/
def gtTupA (n : Nat) (u : List D → Env → (Env → Prop) → Prop) (d : D) (ρ : Env) (P : Env → Prop) : Prop := match d with
  | .tup ds => ds.length = n ∧ u ds ρ P
  | .lst _ ds => ds.length = n ∧ u ds ρ P
  | _ => False
theorem PG.or {X : Cx} {e : Expr} {t t' : TG} (h : PG X e t) (h' : PG X e t') : PG X e (fun v σ H Q => t v σ H Q ∨ t' v σ H Q) :=
  ⟨fun pins s σ H v u Q I r q => q.elim (h.run pins s σ H v u Q I r) (h'.run pins s σ H v u Q I r)⟩
section
variable {Y : Cy} {pos : Pos}
theorem gt_tupA {es : List Expr} {k n : Nat} {u : List D → Env → (Env → Prop) → Prop} (hc : Y.X.calm = true) (h : DGTs Y es u) (hn : (assignEach es Y.X.env).length = n := by rfl)
    (hst : (assignEach es Y.X.env).findIdx? (·.1) = none := by rfl) : DGT Y (.Tuple es k pos) (gtTupA n u) :=
  ⟨PG.imp (PG.or (pg_tup hc h.run hn hst) (pg_unl hc h.run hn hst)) fun v σ H Q ⟨F, R, ρ, d, A, B, P, W, r, sl, p, q, hq, hx⟩ => by
    cases d with
    | tup ds =>
      obtain ⟨a, vs, ev, e, rs⟩ := r
      exact .inl ⟨a, vs, ev, SqT.of (W.f _ _ e), by rw [reps_len rs]; exact q.1, F, R, ρ, ds, A, B, P, W, rs, sl, p, q.2, hq, hx⟩
    | lst m ds =>
      obtain ⟨a, vs, ev, e, B1, rs, hle⟩ := lst_at W.f r
      exact .inr ⟨a, vs, ev, SqL.of e, by rw [reps_len rs]; exact q.1, F, R, ρ, ds, B1, B, P, W, rs, sl, p.mono fun a => (by have := hle a; unfold fpA; omega), q.2, hq, hx⟩
    | _ => exact q.elim⟩
end
@[simp] theorem gtTupA_t {ρ : Env} {P : Env → Prop} {n : Nat} {ds : List D} {u : List D → Env → (Env → Prop) → Prop} : gtTupA n u (.tup ds) ρ P = (ds.length = n ∧ u ds ρ P) := rfl
@[simp] theorem gtTupA_l {ρ : Env} {P : Env → Prop} {n : Nat} {m : Bool} {ds : List D} {u : List D → Env → (Env → Prop) → Prop} : gtTupA n u (.lst m ds) ρ P = (ds.length = n ∧ u ds ρ P) := rfl
/-! a place to stop at between statements -/
def seqW (w u : SW) : SW := fun K ρ => w { K with nx := u K } ρ
section
variable {Y : Cy} {st : Stmt} {rest : List Stmt} {w u : SW}
theorem ss_cut (h1 : DS Y st w) (h2 : DSs Y rest u) : DSs Y (st :: rest) (seqW w u) := show DSs Y (st :: rest) (fun K ρ => w { K with nx := u K } ρ) from ss_cons h1 h2
end
theorem seqW_cut {w u : SW} {K : En} {ρ : Env} (I : Env → Prop) (h1 : ∀ K' : En, K'.rt = K.rt → K'.bk = K.bk → K'.ct = K.ct → (∀ ρ', I ρ' → K'.nx ρ') → w K' ρ) (h2 : ∀ ρ', I ρ' → u K ρ') : seqW w u K ρ := h1 _ rfl rfl rfl h2
theorem seqW_eq {w u : SW} {K : En} {ρ : Env} : seqW w u K ρ = w { K with nx := u K } ρ := rfl
end L3
namespace L3
open PySem PySem.Spec L2
open PyProof.Rows hiding St
/-! >= of two tuples of ints -/
def lexGe (ns ms : List Int) : Bool := Ob.lexAt (fun j => decide (ns.getD j 0 = ms.getD j 0)) (fun j => decide (ms.getD j 0 ≤ ns.getD j 0)) (decide (ns.length ≥ ms.length)) 0 (min ns.length ms.length)
def rGeT (K : PySem.W.Frag) : R2 := fun x y H Q => ∃ (a b : Addr) (ns ms : List Int), x = .ref a ∧ y = .ref b ∧ SqT K H a (ns.map V.int) ∧ SqT K H b (ms.map V.int) ∧ Q (.bl (lexGe ns ms)) H
theorem op_geT {X : Cx} (hu : X.A.units < cLine) : OpR X (compareOp .GtE) (rGeT X.K) := by
  intro pins s σ H x y v u Q I rx ry h
  obtain ⟨a, b, ns, ms, rfl, rfl, ha, hb, q⟩ := h
  cases rx
  cases ry
  obtain ⟨its, r1, p1, _⟩ := I.tuple ha
  obtain ⟨its2, r2, p2, _⟩ := I.tuple hb
  have i1 : IntsAre its ns := Vals.ints r1
  have i2 : IntsAre its2 ms := Vals.ints r2
  have e1 : its.toArray.size = ns.length := by rw [List.size_toArray]; exact i1.length
  have e2 : its2.toArray.size = ms.length := by rw [List.size_toArray]; exact i2.length
  have at1 : ∀ j (h1 : j < its.toArray.size), ∃ t, its.toArray[j] = .int (ns.getD j 0) t := fun j h1 => PyProof.Rows.IntsAre.int_at i1 _ _ (by simp at h1; simp [h1])
  have at2 : ∀ j (h1 : j < its2.toArray.size), ∃ t, its2.toArray[j] = .int (ms.getD j 0) t := fun j h1 => PyProof.Rows.IntsAre.int_at i2 _ _ (by simp at h1; simp [h1])
  have R := Ob.RcOp.tuples_ge (A := X.A) (s := s) (e := fun j => decide (ns.getD j 0 = ms.getD j 0)) (r := fun j => decide (ms.getD j 0 ≤ ns.getD j 0)) p1 p2 hu (fun j h1 h2 => by
    obtain ⟨t, et⟩ := at1 j h1
    obtain ⟨t', et'⟩ := at2 j h2
    rw [et, et']
    have z : (ns.getD j 0 == ms.getD j 0) = decide (ns.getD j 0 = ms.getD j 0) := by
      by_cases q : ns.getD j 0 = ms.getD j 0
      · rw [decide_eq_true q]; exact beq_iff_eq.mpr q
      · rw [decide_eq_false q]; exact beq_eq_false_iff_ne.mpr q
    rw [← z]
    exact SeqAt.EqAt.int_int _ _ _ _) (fun j h1 h2 _ => by
    obtain ⟨t, et⟩ := at1 j h1
    obtain ⟨t', et'⟩ := at2 j h2
    rw [et, et']
    exact Ob.RcOp.ge_int _ _ _ _)
  rw [e1, e2] at R
  have z : wpAny (model X.prog X.w) X.A (compareOp .GtE (.ref a) (.ref b)) (EP X pins σ Q) X.xe s := R X.prog X.w X.xe (EP X pins σ Q) ⟨.bl _, H, I, rfl, q⟩
  exact z
def oGeT (d1 d2 : D) (P : D → Prop) : Prop := match d1, d2 with
  | .tup xs, .tup ys => mb (asInts xs) fun ns => mb (asInts ys) fun ms => P (.bl (lexGe ns ms))
  | _, _ => False
theorem opr_geT {X : Cx} (hu : X.A.units + 65 < cLine) : OpR X (compareOp .GtE) (rGeT X.K) := op_geT (by omega)
theorem op2_geT {K : PySem.W.Frag} : Op2S K (rGeT K) oGeT := fun {F H A1 A2 x y d1 d2 P Q} s r1 r2 w q => by
  cases d1 with
  | tup xs => cases d2 with
    | tup ys =>
      obtain ⟨ns, e1, w⟩ := mb_some w
      obtain ⟨ms, e2, w⟩ := mb_some w
      obtain ⟨p, vs, rfl, h1, q1⟩ := r1
      obtain ⟨p', vs', rfl, h2, q2⟩ := r2
      rw [asInts_eq e1] at q1
      rw [asInts_eq e2] at q2
      rw [(reps_ints q1).1] at h1
      rw [(reps_ints q2).1] at h2
      exact ⟨p, p', ns, ms, rfl, rfl, SqT.of (s _ _ h1), SqT.of (s _ _ h2), q _ ⟨.bl _, fun F' H' => rep_bl, w⟩⟩
    | _ => exact w.elim
  | _ => exact w.elim
end L3
namespace HT
open PySem PySem.Spec PyProof.Rows
section
variable {prog : Program} {w : World} {A : Around} {E : Value → Shared → Prop} {s : Shared}
theorem sliceApplied_rev2 {sl : Addr} {vl vu vs : Value} {Q : Int × Int × Nat → Shared → Prop} (hs : s.heap.IsSliceOf sl vl vu vs) (pl : IsPart vl none) (pu : IsPart vu none) (ps : IsPart vs (some (-1)))
    (h : Q (1, -1, 2) s) : wpAny (model prog w) A (Builtin.Slice.sliceApplied (.ref sl) (pure ((2 : Nat) : Int))) Q E s := by
  obtain ⟨os, hos, hcs, hds⟩ := id hs
  unfold Builtin.Slice.sliceApplied Builtin.Slice.sliceFields
  refine wpAny_bind (wpAny_bind (wpAny_field hos hds (x := vl) rfl (wpAny_bind (wpAny_field hos hds (x := vu) rfl (wpAny_bind (wpAny_field hos hds (x := vs) rfl (wpAny_pure ?_)))))))
  refine wpAny_bind (slicePart_ ps ?_)
  show wpAny _ _ (if ((-1 : Int) == 0) = true then _ else _) _ _ s
  rw [if_neg (by decide)]
  refine wpAny_bind (slicePart_ pl (wpAny_bind (slicePart_ pu (wpAny_bind (wpAny_pure ?_)))))
  exact wpAny_pure h
theorem getItem_pair_rev {t sl : Addr} {a b vl vu vs : Value} {Q : Value → Shared → Prop} (ht : IsTup s.heap t #[a, b]) (hs : s.heap.IsSliceOf sl vl vu vs) (pl : IsPart vl none) (pu : IsPart vu none) (ps : IsPart vs (some (-1)))
    (h : Q (.ref s.heap.objs.size) { s with heap := s.heap.push { cls := .type "tuple", data := .seq #[b, a] } }) : wpAny (model prog w) A (getItem (.ref t) (.ref sl)) Q E s := by
  obtain ⟨os, hos, hcs, hds⟩ := id hs
  have hTs : s.TypeIs (.ref sl) "slice" := ⟨os, hos, hcs⟩
  have htake : sizeOk (.seq (#[b, a] : Array Value)) := by show (2 : Nat) ≤ sizeLine; decide
  unfold getItem
  try with_reducible refine wpAny_holding ?_
  first | refine wpAny_bind (wpAny_pure ?_) | skip
  refine wpAny_bind (wpAny_sequenceKey ht.typeIs (by decide) ?_)
  refine wpAny_bind (wpAny_callSpecial?_slot (name := Str.ofString "__getitem__") ht.typeIs PyProof.Rows.slot_tuple_getitem
    (wpAny_call_entry PyProof.Rows.slot_tuple_getitem ht.typeIs entry_tuple_getitem ?_ (args_tuple_getitem _ _)))
  show wpAny _ _ (Builtin.Tuple.tupleItemsOf (.ref t) >>= _) _ _ s
  refine wpAny_bind (tupleItemsOf_ ht ?_)
  refine wpAny_bind (wpAny_typeOf hTs ?_)
  rw [if_pos (by decide)]
  refine wpAny_bind (sliceApplied_rev2 hs pl pu ps ?_)
  show wpAny _ _ (if (((1 : Int) == 0) && ((-1 : Int) == 1) && ((2 : Nat) == 2)) = true then _ else _) _ _ s
  rw [if_neg (by decide)]
  first
    | exact wpAny_bind (m := Builtin.Tuple.tupleExact _) (wpAny_newObj_type (wpAny_pure ⟨_, rfl, wpAny_pure h⟩) htake)
    | exact wpAny_bind (m := Builtin.Tuple.tupleExact _) (wpAny_newObj_type (wpAny_bind (wpAny_pure (wpAny_pure ⟨_, rfl, wpAny_pure h⟩))) htake)
    | exact wpAny_bind (wpAny_bind (m := Builtin.Tuple.tupleExact _) (wpAny_newObj_type (wpAny_pure (wpAny_pure ⟨_, rfl, wpAny_pure h⟩)) htake))
    | exact wpAny_bind (wpAny_bind (m := Builtin.Tuple.tupleExact _) (wpAny_newObj_type (wpAny_pure ⟨_, rfl, wpAny_pure h⟩) htake))
end
end HT
namespace L3
open PySem PySem.Spec L2
open PyProof.Rows hiding St
/-! pair[::-1] -/
def tRevP (K : PySem.W.Frag) (te : TE) : TE := fun σ H Q => te σ H fun x H1 => ∃ a u v, x = .ref a ∧ SqT K H1 a [u, v] ∧ ∀ p, H1 p = none → Q (.ref p) (upd H1 p (.tup [v, u]))
section
variable {X : Cx}
theorem pe_revP {e : Expr} {te : TE} {k : Nat} {p1 p2 p3 pos : Pos} (he : PE X e te) : PE X (.Subscript e (.Slice none none (some (.UnaryOp .USub (.Constant (.int 1) k p1) p2)) p3) pos) (tRevP X.K te) := by
  refine ⟨fun pins s σ H Q I h => ?_⟩
  refine Subscript_ (thn (he.run pins s σ H _ I h) fun v s1 ⟨x, H1, I1, r1, q1⟩ => ?_)
  obtain ⟨a, u1, u2, ex, hx, q⟩ := q1
  subst ex
  cases r1
  have hst : PO X (some (.UnaryOp .USub (.Constant (.int 1) k p1) p2)) (tPart (tUn (rU fun i => .int (-i)) (tC (.int 1)))) := po_some (pe_un un_neg pe_int)
  refine wpAny_Slice (thn (po_none.run pins s1 σ H1 (fun o H2 => o = none ∧ H2 = H1) I1 ⟨rfl, rfl⟩) fun vl s2 ⟨l, H2, I2, pl, el, e2⟩ => ?_)
  subst el e2
  refine thn (po_none.run pins s2 σ H2 (fun o H3 => o = none ∧ H3 = H2) I2 ⟨rfl, rfl⟩) fun vu s3 ⟨u, H3, I3, pu, eu, e3⟩ => ?_
  subst eu e3
  refine thn (hst.run pins s3 σ H3 (fun o H4 => o = some (-1) ∧ H4 = H3) I3 ⟨1, rfl, -1, rfl, rfl, rfl⟩) fun vs s4 ⟨o, H4, I4, ps, eo, e4⟩ => ?_
  subst eo e4
  have I5 : Inv X pins σ H4 { s4 with heap := s4.heap.push { cls := .type "slice", data := .fields #[vl, vu, vs] } } := I4.kept (t' := s4.toks) fun b ob q => Heap.get?_push_of_some _ q
  obtain ⟨its, r, ht, hz⟩ := I5.tuple hx
  obtain ⟨w1, w2, rfl, rr1, rr2⟩ : ∃ w1 w2, its = [w1, w2] ∧ RelV u1 w1 ∧ RelV u2 w2 := by
    cases r with
    | cons a b => cases b with
      | cons c d => cases d with
        | nil => exact ⟨_, _, rfl, a, c⟩
  show wpAny (model X.prog X.w) X.A (subscriptTail e (.Slice none none (some (.UnaryOp .USub (.Constant (.int 1) k p1) p2)) p3) (.ref a) (.ref s4.heap.objs.size)) (EP X pins σ Q) X.xe { s4 with heap := s4.heap.push { cls := .type "slice", data := .fields #[vl, vu, vs] } }
  refine tail_any (ops := [.ref a, .ref s4.heap.objs.size]) ht.typeIs (PyProof.Rows.slot_tuple_getitem.lookup) ?_ (by with_unfolding_all rfl)
  refine HT.getItem_pair_rev ht (Heap.IsSliceOf.new _ vl vu vs) pl pu ps ?_
  refine ⟨.ref _, _, I5.laid (t' := s4.toks) (o := .tup [u2, u1]) (fun b ob q => Heap.get?_push_of_some _ q) (Nat.le_refl _) ?_, rfl, q _ (I5.hok.fresh (Nat.le_refl _))⟩
  exact ⟨by show 2 ≤ sizeLine; decide, [w2, w1], .cons rr2 (.cons rr1 .nil), IsTup.new _ _⟩
end
def oRevP (d : D) (P : D → Prop) : Prop := match d with
  | .tup [x, y] => fz x = true ∧ fz y = true ∧ P (.tup [y, x])
  | _ => False
section
variable {Y : Cy} {e : Expr} {w : KW} {pos : Pos}
theorem f_revP {k : Nat} {p1 p2 p3 : Pos} (h : DK Y e w) : DF Y (.Subscript e (.Slice none none (some (.UnaryOp .USub (.Constant (.int 1) k p1) p2)) p3) pos) (fun ρ P => w ρ fun d => oRevP d P) :=
  ⟨PE.imp (pe_revP h.run) fun σ H Q ⟨F, R, ρ, B, P, S, hw, hq, hx⟩ => ⟨F, R, ρ, B, _, S, hw, fun v H1 ⟨d, F1, A, s, k, W, r, l, p, q⟩ => by
    replace q : oRevP d P := q
    unfold oRevP at q
    split at q
    · rename_i x y
      obtain ⟨f1, f2, q⟩ := q
      obtain ⟨p0, vs, rfl, e1, q1⟩ := r
      have hA : fzs [x, y] = true := by simp [fzs, f1, f2]
      rw [fzs_reps _ hA q1] at q1
      have rv := reps_rev q1 hA
      obtain ⟨v1, vr, B1, C1, ev, r1, q2, _⟩ := q1
      subst ev
      obtain ⟨v2, vr2, B2, C2, ev2, r2, q3, _⟩ := q2
      subst ev2
      obtain ⟨rfl, _⟩ := q3
      refine ⟨p0, v1, v2, rfl, SqT.of (W.f _ _ e1), fun n hn => ?_⟩
      obtain ⟨F', A', s', k', W', rd, p'⟩ := new_tup W (S.keep s k W p).own p hn rv (fzs_rev hA)
      exact hq _ _ ⟨_, F', A', s.trans s', fun a nz => (k' a nz).trans (k a nz), W', rd, p', q⟩
    · exact q.elim, hx⟩⟩
end
@[simp] theorem oRevP_2 {x y : D} {P : D → Prop} : oRevP (.tup [x, y]) P = (fz x = true ∧ fz y = true ∧ P (.tup [y, x])) := rfl
end L3
namespace L3
open PySem PySem.Spec L2
open PyProof.Rows hiding St
/-! text.index(text) -/
def oSIndex (l d : D) (P : D → Prop) : Prop := match l, d with
  | .str x, .str y => ∃ i rest, Builtin.Str.occurrences x y 0 x.length 1 = i :: rest ∧ P (.int (i : Nat))
  | _, _ => False
def isStr (d : D) : Prop := match d with
  | .str _ => True
  | _ => False
@[simp] theorem isStr_s {x : Str} : isStr (.str x) = True := rfl
section
variable {Y : Cy} {o a : Expr} {wo wa : KW}
theorem k_sindex {p apos cpos : Pos} (ho : DK Y o wo) (ha : DK Y a wa)
    (hbase : attributeBase o "index" Y.X.env (eval o Y.X.env) = eval o Y.X.env := by rfl)
    (hfew : ((backTo cpos (starEach [a] Y.X.env)).all (fun x => !x.1) && (backToKw cpos (keywordEach [] Y.X.env)).all (fun x => x.1.isSome)
      && decide (([a] : List Expr).length + ([] : List Keyword).length + (if ([] : List Keyword).isEmpty then 0 else 1) < 30)) = true := by rfl)
    (hline : (apos.endLine == cpos.line) = true := by rfl) (hs : starEach [a] Y.X.env = (false, eval a Y.X.env) :: starEach [] Y.X.env := by rfl) (hplain : (backTo cpos (starEach [] Y.X.env)).any (·.1) = false := by rfl) :
    DK Y (.Call (.Attribute o "index" apos) [a] [] cpos) (fun ρ P => wo ρ fun l => isStr l ∧ wa ρ fun d => oSIndex l d P) :=
  ⟨PE.imp (pe_bm PySem.F.plainAttrs_str PySem.F.slot_str_index PySem.F.type_str_index mt_sindex ho.run (pa_cons ha.run pa_nil hs) hbase hfew hline hs hplain) fun σ H Q ⟨F, R, ρ, B, P, S, hw, hq, hx⟩ => ⟨F, R, ρ, B, fun l => isStr l ∧ wa ρ fun d => oSIndex l d P, S, hw, fun v H1 ⟨d1, F1, A1, s1, k1, W1, r1, l1, p1, q0, q1⟩ => by
    cases d1 with
    | str x =>
      obtain ⟨rfl, _⟩ := r1
      refine ⟨?_, F1, R, ρ, B, _, S.keep s1 k1 W1 p1, q1, fun y H2 ⟨d2, F2, A2, s2, k2, W2, r2, l2, p2, q2⟩ => ?_, hx.grow s1⟩
      · rfl
      · cases d2 with
        | str z =>
          obtain ⟨rfl, _⟩ := r2
          obtain ⟨i, rest, h1, h2⟩ := q2
          exact ⟨x, z, i, rest, rfl, rfl, h1, hq _ _ ⟨.int (i : Nat), F2, fp0, s1.trans s2, fun a n => (k2 a n).trans (k1 a n), W2, rep_int, fp0_le, p2, h2⟩⟩
        | _ => exact q2.elim
    | _ => exact q0.elim, hx⟩⟩
end
@[simp] theorem oSIndex_ss {x y : Str} {P : D → Prop} : oSIndex (.str x) (.str y) P = ∃ i rest, Builtin.Str.occurrences x y 0 x.length 1 = i :: rest ∧ P (.int (i : Nat)) := rfl
end L3
namespace L3
open PySem PySem.Spec L2
open PyProof.Rows hiding St
/-! len(set(ints)) -/
def nubI (ns : List Int) : List Int := ns.foldl step_dedup []
theorem map_getD (ns : List Int) : (List.range ns.length).map (fun i => ns.getD i 0) = ns := by
  apply List.ext_getElem?
  intro i
  rw [List.getElem?_map]
  by_cases h : i < ns.length
  · rw [List.getElem?_range h, List.getElem?_eq_getElem h]
    simp [List.getD_eq_getElem?_getD, List.getElem?_eq_getElem h]
  · rw [List.getElem?_eq_none (by simp; omega), List.getElem?_eq_none (by omega)]; rfl
def tLenSetG (K : PySem.W.Frag) (ta : TE) : TE := fun σ H Q => ta σ H fun x H1 => ∃ (l : Addr) (ns : List Int), x = .ref l ∧ SqL K H1 l (ns.map V.int) ∧ ns.length ≤ 4000 ∧ Q (.int ((nubI ns).length : Nat)) H1
theorem pe_lenSetG {X : Cx} {a : Expr} {ta : TE} {p p2 q pos : Pos} (hc : X.calm = true) (hg : Gl X "len") (hm : X.mg "len" = none) (hg2 : Gl X "set") (hm2 : X.mg "set" = none) (ha : PE X a ta)
    (na : starEach [a] X.env = (false, eval a X.env) :: starEach [] X.env := by rfl) : PE X (.Call (.Name "len" p) [.Call (.Name "set" p2) [a] [] q] [] pos) (tLenSetG X.K ta) := by
  refine ⟨fun pins s σ H Q I h => ?_⟩
  refine Call_ (ld_blt I hg hm PySem.boot_len ?_)
  refine PyProof.Rows.callWith_builtin1 (PyProof.Rows.args_cons ?_ rfl) rfl rfl
  refine Call_ (ld_blt I hg2 hm2 PyProof.Rows.boot_set ?_)
  refine PyProof.Rows.callWith_type1 (PyProof.Rows.args_cons (thn (ha.run pins s σ H _ I h) fun v s1 ⟨x, H1, I1, r1, q1⟩ => PyProof.Rows.args_nil ?_) na) na rfl
  obtain ⟨l, ns, rfl, hq, hl, q1⟩ := q1
  cases r1
  obtain ⟨its, r, pl, hz⟩ := I1.list hq
  have hlen : its.toArray.size = ns.length := by rw [List.size_toArray, ← r.length, List.length_map]
  refine call_set_list (I1.ok.hd hc) pl.isList (ns := ns) (by simpa using r.ints) (by rw [hlen]; unfold scanBound; omega) fun h' tk hS hk => ?_
  refine PyProof.Rows.args_nil ?_
  have e : firstMet (fun i => ns.getD i 0) ns.length = nubI ns := by unfold firstMet nubI; rw [map_getD]
  rw [hlen, e] at hS
  obtain ⟨o, es, ep, t, ho, hex, hd, _, _, _, hf, hn⟩ := hS
  have hle : (nubI ns).length ≤ 4000 := by
    rw [← e]
    exact Nat.le_trans (firstMet_length_le _ _) hl
  have I2 : Inv X pins σ H1 { s1 with heap := h', toks := tk } := I1.kept fun b o e => hk b o (Heap.lt_size e) e
  exact call_len_set ho hex hd hf (by rw [hn] <;> omega) ⟨.int (nubI ns).length, H1, I2.tok _, ⟨_, by rw [hn]⟩, q1⟩
section
variable {Y : Cy} {e : Expr} {ew : DW} {p p2 q pos : Pos}
theorem e_lenSet (hc : Y.X.calm = true) (h : DE Y e ew) (hg : Gl Y.X "len") (hm : Y.X.mg "len" = none) (hg2 : Gl Y.X "set") (hm2 : Y.X.mg "set" = none)
    (na : starEach [e] Y.X.env = (false, eval e Y.X.env) :: starEach [] Y.X.env := by rfl) : DE Y (.Call (.Name "len" p) [.Call (.Name "set" p2) [e] [] q] [] pos)
      (fun ρ Q => ew ρ fun d ρ1 => ofInts d fun ns => ns.length ≤ 4000 ∧ Q (.int ((nubI ns).length : Nat)) ρ1) :=
  ⟨PE.imp (pe_lenSetG hc hg hm hg2 hm2 h.run na) fun σ H Q ⟨F, R, ρ, B, P, S, hw, hq, hx⟩ => ⟨F, R, ρ, B, _, S, hw, fun v H1 ⟨d, ρ1, F1, A, B1, s, W, r, sl, p, q⟩ => by
    obtain ⟨p0, ns, rfl, h1, h2, h3⟩ := ofInts_of W.f r q
    exact ⟨p0, ns, rfl, h1, h2, hq _ _ ⟨.int _, ρ1, F1, fp0, B1, s, W, rep_int, sl, by rw [fpA_0l]; exact p.mono fun a => (by unfold fpA; omega), h3⟩⟩, hx⟩⟩
end
end L3
namespace L3
open PySem PySem.Spec L2
open PyProof.Rows hiding St
/-! x += e, x -= e of whole numbers -/
def oAug (g : Int → Int → Int) (d e : D) (P : D → Prop) : Prop := match d, e with
  | .int i, .int j => P (.int (g i j))
  | _, _ => False
@[simp] theorem oAug_i {g : Int → Int → Int} {i j : Int} {P : D → Prop} : oAug g (.int i) (.int j) P = P (.int (g i j)) := rfl
section
variable {Y : Cy} {e : Expr} {ew : DW} {pos pos' : Pos} {op : Operator}
theorem s_aug {i : Nat} {x : Str} {n : Nat} {g : Int → Int → Int} (ho : PIp Y.X op (ipI g)) (h : DE Y e ew) (hN : Y.X.N.Nodup) (hn : Y.X.N.length = n) (hT : i ∉ Y.T := by decide) (hi : Y.X.N[i]? = some x := by rfl) (hx : L2.Loc Y.X.env.scope x := by first | exact Or.inl rfl | exact Or.inr rfl)
    (hf : Y.X.fn x = true ∨ Y.X.env.scope.names.lookup x = some .local := by first | exact .inl rfl | exact .inr rfl | assumption) :
    DS Y (.AugAssign (.Name x pos') op e pos) (fun K ρ => gv ρ i fun d0 => ew ρ fun d ρ1 => oAug g d0 d fun z => i < ρ1.length ∧ K.nx (ρ1.set i (some z))) :=
  ⟨PS.imp (ps_aug hN hi hx h.run ho hf) fun Z σ H ⟨F, R, ρ, B, K, S, hw, G⟩ => by
    obtain ⟨d0, e0, hw⟩ := gv_some hw
    obtain ⟨v0, B0, g1, g2, _⟩ := slr_get S.s e0
    refine ⟨v0, g1, F, R, ρ, B, _, S, hw, fun v H1 ⟨d, ρ1, F1, A, B1, s, W, r, sl, p, q⟩ => ?_, G.ex⟩
    cases d0 with
    | int a => cases d with
      | int b =>
        obtain ⟨rfl, _⟩ := g2
        obtain ⟨rfl, _⟩ := r
        obtain ⟨q1, q2⟩ := q
        exact ⟨a, b, rfl, rfl, G.nx _ _ (StP.at (σ1 := σ) s .refl (st_set hT q1 W rep_int sl (by rw [fpA_0l]; exact p.mono fun a => (by unfold fpA; omega)) q2))⟩
      | _ => exact q.elim
    | _ => exact (by cases d <;> exact q.elim)⟩
end
end L3
namespace L3
open PySem PySem.Spec L2
open PyProof.Rows hiding St
/-! l.insert(i, x) -/
def oInsert (xs ds : List D) (P : D → List D → Prop) : Prop := match ds with
  | [.int i, d] => xs.length < sizeLine ∧ 0 ≤ i ∧ i < 2 ^ 63 ∧ P .non (xs.take i.toNat ++ [d] ++ xs.drop i.toNat)
  | _ => False
@[simp] theorem oInsert_2 {xs : List D} {i : Int} {d : D} {P : D → List D → Prop} : oInsert xs [.int i, d] P = (xs.length < sizeLine ∧ 0 ≤ i ∧ i < 2 ^ 63 ∧ P .non (xs.take i.toNat ++ [d] ++ xs.drop i.toNat)) := rfl
theorem reps_split {K : PySem.W.Frag} {F H : Hp} : ∀ {xs : List D} {us : List V} {A : FP} (n : Nat), Reps K F H xs us A → ∃ B C, Reps K F H (xs.take n) (us.take n) B ∧ Reps K F H (xs.drop n) (us.drop n) C ∧ A = fpA B C
  | xs, us, A, 0, r => ⟨fp0, A, by simp only [List.take_zero]; exact ⟨rfl, rfl⟩, by simpa using r, fpA_0l.symm⟩
  | [], us, A, n + 1, r => by
    obtain ⟨e, z⟩ := r
    subst e z
    exact ⟨fp0, fp0, ⟨rfl, rfl⟩, ⟨rfl, rfl⟩, fpA_0l.symm⟩
  | x :: xs, us, A, n + 1, ⟨v, vr, B, C, e, r, q, z⟩ => by
    subst e
    obtain ⟨B2, C2, h1, h2, h3⟩ := reps_split n q
    refine ⟨fpA B B2, C2, ⟨v, _, B, B2, rfl, r, h1, rfl⟩, h2, ?_⟩
    rw [z, h3]
    funext a
    unfold fpA
    omega
theorem mut_insert {K} : MutOk K (fun x vs H Q => ∃ (l : Addr) (xs : List V) (i : Int) (y : V), x = .ref l ∧ vs = [.int i, y] ∧ H l = some (.lst xs) ∧ xs.length < sizeLine ∧ 0 ≤ i ∧ i < 2 ^ 63 ∧ Q .non (upd H l (.lst (xs.take i.toNat ++ [y] ++ xs.drop i.toNat)))) oInsert := fun {F H l us vs xs ds A1 A2 P Q} s h r1 r2 o q => by
  unfold oInsert at o
  split at o
  · rename_i i d
    obtain ⟨o1, o2, o3, o4⟩ := o
    obtain ⟨v, vr, B, C, rfl, ⟨rfl, z1⟩, ⟨v2, vr2, B2, C2, e2, r3, ⟨rfl, z3⟩, z2⟩, z⟩ := r2
    subst e2
    obtain ⟨B4, C4, h1, h2, h3⟩ := reps_split i.toNat r1
    have hm : Reps K F H [d] [v2] (fpA B2 fp0) := by exact ⟨v2, [], B2, fp0, rfl, r3, ⟨rfl, rfl⟩, rfl⟩
    have h4 := reps_append (reps_append h1 hm) h2
    refine ⟨l, us, i, v2, rfl, rfl, h, by rw [reps_len r1]; exact o1, o2, o3, q _ _ ⟨.non, _, fp0, _, rep_non, h4, fun a => ?_, o4⟩⟩
    rw [h3, z, z1, z2, z3]
    unfold fpA fp0
    omega
  · exact o.elim
section
variable {Y : Cy} {e x0 : Expr} {es : List Expr} {el : LE} {p cpos apos : Pos} {x : Str} {i : Nat}
theorem e_insert (i : Nat) (ha : DA Y (e :: es) el) (hN : Y.X.N[i]? = some x := by rfl) (hv : Vis Y.X.env.scope x := by first | exact Or.inl rfl | exact Or.inr (Or.inl rfl) | exact Or.inr (Or.inr rfl)) (hd : (x == ("__debug__" : Str)) = false := by decide) (hcd : (x == ("__classdict__" : Str)) = false := by decide)
    (hbase : attributeBase (.Name x p) "insert" Y.X.env (eval (.Name x p) Y.X.env) = eval (.Name x p) Y.X.env := by rfl)
    (hfew : ((backTo cpos (starEach (e :: es) Y.X.env)).all (fun x => !x.1) && (backToKw cpos (keywordEach [] Y.X.env)).all (fun x => x.1.isSome)
      && decide ((e :: es).length + ([] : List Keyword).length + (if ([] : List Keyword).isEmpty then 0 else 1) < 30)) = true := by rfl)
    (hline : (apos.endLine == cpos.line) = true := by rfl) (hs : starEach (e :: es) Y.X.env = (false, eval e Y.X.env) :: starEach es Y.X.env := by rfl) (hplain : (backTo cpos (starEach es Y.X.env)).any (·.1) = false := by rfl) :
    DE Y (.Call (.Attribute (.Name x p) "insert" apos) (e :: es) [] cpos) (fun ρ Q => (gv ρ i isLst) ∧ el ρ fun ds ρ1 => (gv ρ1 i isLst) ∧ mutL oInsert i [] ds ρ1 Q) :=
  e_mut1 i PySem.F.slot_list_insert PySem.F.type_list_insert mt_insert mut_insert ha hN hv hd hcd hbase hfew hline hs hplain
end
end L3
namespace L3
open PySem PySem.Spec L2
open PyProof.Rows hiding St
/-! > of two tuples of ints -/
def lexGt (ns ms : List Int) : Bool := Ob.lexAt (fun j => decide (ns.getD j 0 = ms.getD j 0)) (fun j => decide (ms.getD j 0 < ns.getD j 0)) (decide (ns.length > ms.length)) 0 (min ns.length ms.length)
def rGtT (K : PySem.W.Frag) : R2 := fun x y H Q => ∃ (a b : Addr) (ns ms : List Int), x = .ref a ∧ y = .ref b ∧ SqT K H a (ns.map V.int) ∧ SqT K H b (ms.map V.int) ∧ Q (.bl (lexGt ns ms)) H
theorem op_gtT {X : Cx} (hu : X.A.units < cLine) : OpR X (compareOp .Gt) (rGtT X.K) := by
  intro pins s σ H x y v u Q I rx ry h
  obtain ⟨a, b, ns, ms, rfl, rfl, ha, hb, q⟩ := h
  cases rx
  cases ry
  obtain ⟨its, r1, p1, _⟩ := I.tuple ha
  obtain ⟨its2, r2, p2, _⟩ := I.tuple hb
  have i1 : IntsAre its ns := Vals.ints r1
  have i2 : IntsAre its2 ms := Vals.ints r2
  have e1 : its.toArray.size = ns.length := by rw [List.size_toArray]; exact i1.length
  have e2 : its2.toArray.size = ms.length := by rw [List.size_toArray]; exact i2.length
  have at1 : ∀ j (h1 : j < its.toArray.size), ∃ t, its.toArray[j] = .int (ns.getD j 0) t := fun j h1 => PyProof.Rows.IntsAre.int_at i1 _ _ (by simp at h1; simp [h1])
  have at2 : ∀ j (h1 : j < its2.toArray.size), ∃ t, its2.toArray[j] = .int (ms.getD j 0) t := fun j h1 => PyProof.Rows.IntsAre.int_at i2 _ _ (by simp at h1; simp [h1])
  have R := Ob.RcOp.tuples_gt (A := X.A) (s := s) (e := fun j => decide (ns.getD j 0 = ms.getD j 0)) (r := fun j => decide (ms.getD j 0 < ns.getD j 0)) p1 p2 hu (fun j h1 h2 => by
    obtain ⟨t, et⟩ := at1 j h1
    obtain ⟨t', et'⟩ := at2 j h2
    rw [et, et']
    have z : (ns.getD j 0 == ms.getD j 0) = decide (ns.getD j 0 = ms.getD j 0) := by
      by_cases q : ns.getD j 0 = ms.getD j 0
      · rw [decide_eq_true q]; exact beq_iff_eq.mpr q
      · rw [decide_eq_false q]; exact beq_eq_false_iff_ne.mpr q
    rw [← z]
    exact SeqAt.EqAt.int_int _ _ _ _) (fun j h1 h2 _ => by
    obtain ⟨t, et⟩ := at1 j h1
    obtain ⟨t', et'⟩ := at2 j h2
    rw [et, et']
    exact Ob.RcOp.gt_int _ _ _ _)
  rw [e1, e2] at R
  have z : wpAny (model X.prog X.w) X.A (compareOp .Gt (.ref a) (.ref b)) (EP X pins σ Q) X.xe s := R X.prog X.w X.xe (EP X pins σ Q) ⟨.bl _, H, I, rfl, q⟩
  exact z
def oGtT (d1 d2 : D) (P : D → Prop) : Prop := match d1, d2 with
  | .tup xs, .tup ys => mb (asInts xs) fun ns => mb (asInts ys) fun ms => P (.bl (lexGt ns ms))
  | _, _ => False
theorem opr_gtT {X : Cx} (hu : X.A.units + 65 < cLine) : OpR X (compareOp .Gt) (rGtT X.K) := op_gtT (by omega)
theorem op2_gtT {K : PySem.W.Frag} : Op2S K (rGtT K) oGtT := fun {F H A1 A2 x y d1 d2 P Q} s r1 r2 w q => by
  cases d1 with
  | tup xs => cases d2 with
    | tup ys =>
      obtain ⟨ns, e1, w⟩ := mb_some w
      obtain ⟨ms, e2, w⟩ := mb_some w
      obtain ⟨p, vs, rfl, h1, q1⟩ := r1
      obtain ⟨p', vs', rfl, h2, q2⟩ := r2
      rw [asInts_eq e1] at q1
      rw [asInts_eq e2] at q2
      rw [(reps_ints q1).1] at h1
      rw [(reps_ints q2).1] at h2
      exact ⟨p, p', ns, ms, rfl, rfl, SqT.of (s _ _ h1), SqT.of (s _ _ h2), q _ ⟨.bl _, fun F' H' => rep_bl, w⟩⟩
    | _ => exact w.elim
  | _ => exact w.elim
end L3
namespace TuS
open PySem PySem.Spec PyProof.Rows L2
/-- d.update(e) of two dicts with keys that are ints and texts -/
def rUpd : V → List V → Hp → VK → Prop := fun x xs H Q => ∃ (a b : Addr) (kvs more : List (Key × V)), x = .ref a ∧ xs = [.ref b] ∧ H a = some (.dK kvs) ∧ H b = some (.dK more) ∧ a ≠ b ∧ kvs.length + more.length ≤ sizeLine ∧ Q .non (upd H a (.dK (mergeK kvs more)))
theorem mt_update {X : Cx} : MtR X "dict.update" rUpd := by
  intro pins s σ H x xs v us Q I rx rxs h
  obtain ⟨a, b, kvs, more, rfl, rfl, ha, hb, hne, hl, q⟩ := h
  cases rx
  obtain ⟨u1, rfl, r1⟩ := rxs.one
  cases r1
  obtain ⟨z, hd, vs, rel, dd⟩ := dk_of I.hok ha
  obtain ⟨z2, hd2, vs2, rel2, dd2⟩ := dk_of I.hok hb
  refine call_meetsIn PySem.F.slot_dict_update dd.typeIs PySem.F.entry_dict_update (PySem.F.args_dict_update_2 _ _) (meets_dict_update (mixKind X.prog X.w) a b hne hd2) ⟨vs, vs2, dd, dd2, by rw [← rel.length, ← rel2.length]; exact hl, fun h' d1 _ hs => ?_⟩
  have he : ∃ q, h'.get? a = some q := let ⟨q, _, _, hq, _⟩ := d1; ⟨q, hq⟩
  have hlen : (mergeK kvs more).length ≤ sizeLine := Nat.le_trans (length_mergeK more kvs) hl
  exact ⟨.non, _, d_write (t' := s.toks) I (by rw [ha]; exact True.intro) hs he (dk_new hlen hd (rel2.merge rel) d1), rfl, q⟩
end TuS
namespace L3
open PySem PySem.Spec L2
open PyProof.Rows hiding St
/-! d.update(e), d a dict of ours, e a new dict; {k: v} -/
def oUpd (d : D) (ds : List D) (P : D → Prop) : Prop := match d, ds with
  | .dic .ow .k kvs, [.dic .ow .k more] => fzk kvs = true ∧ fzk more = true ∧ kvs.length + more.length ≤ sizeLine ∧ P (.dic .ow .k (more.foldl (fun acc p => kput acc p.1 p.2) kvs))
  | _, _ => False
theorem oUpd_of {d : D} {ds : List D} {P : D → Prop} (h : oUpd d ds P) : ∃ kvs more, d = .dic .ow .k kvs ∧ ds = [.dic .ow .k more] ∧ fzk kvs = true ∧ fzk more = true ∧ kvs.length + more.length ≤ sizeLine ∧ P (.dic .ow .k (more.foldl (fun acc p => kput acc p.1 p.2) kvs)) := by
  unfold oUpd at h
  split at h
  · exact ⟨_, _, rfl, rfl, h⟩
  · exact h.elim
section
variable {Y : Cy} {e : Expr} {el : LE} {p apos cpos : Pos}
theorem e_dupd (i : Nat) {x : Str} (ha : DA Y [e] el) (hN : Y.X.N[i]? = some x := by rfl) (hv : Vis Y.X.env.scope x := by first | exact Or.inl rfl | exact Or.inr (Or.inl rfl) | exact Or.inr (Or.inr rfl))
    (hd : (x == ("__debug__" : Str)) = false := by decide) (hcd : (x == ("__classdict__" : Str)) = false := by decide)
    (hbase : attributeBase (.Name x p) "update" Y.X.env (eval (.Name x p) Y.X.env) = eval (.Name x p) Y.X.env := by rfl)
    (hfew : ((backTo cpos (starEach [e] Y.X.env)).all (fun x => !x.1) && (backToKw cpos (keywordEach [] Y.X.env)).all (fun x => x.1.isSome)
      && decide (([e] : List Expr).length + ([] : List Keyword).length + (if ([] : List Keyword).isEmpty then 0 else 1) < 30)) = true := by rfl)
    (hline : (apos.endLine == cpos.line) = true := by rfl) (hs : starEach [e] Y.X.env = (false, eval e Y.X.env) :: starEach [] Y.X.env := by rfl) (hplain : (backTo cpos (starEach [] Y.X.env)).any (·.1) = false := by rfl) :
    DE Y (.Call (.Attribute (.Name x p) "update" apos) [e] [] cpos) (fun ρ Q => gv ρ i isDic ∧ el ρ fun ds ρ1 => gv ρ1 i fun d => oUpd d ds fun d' => Q .non (ρ1.set i (some d'))) :=
  ⟨PE.imp (pe_bm PySem.F.plainAttrs_dict PySem.F.slot_dict_update PySem.F.type_dict_update TuS.mt_update (pe_var hN hv hd hcd) ha.run hbase hfew hline hs hplain) fun σ H Q ⟨F, R, ρ, B, P, S, ⟨h0, hw⟩, hq, hx⟩ => by
    obtain ⟨d, e1, h0⟩ := gv_some h0
    obtain ⟨v, A0, g1, g2, _⟩ := slr_get S.s e1
    have hdic : ∃ t kvs, d = .dic .ow t kvs := by
      cases d with
      | dic m t kvs => cases m <;> first | exact ⟨t, kvs, rfl⟩ | exact h0.elim
      | _ => exact h0.elim
    obtain ⟨t, kvs, rfl⟩ := hdic
    obtain ⟨pa, o, vs, B0, rfl, hp, g, rk, z⟩ := g2
    have hty : tyV Y.X.K "dict" (.ref pa) H := by
      refine .inr (.inr (.inl ⟨rfl, ?_⟩))
      cases t with
      | k => obtain ⟨_, l, rfl, _⟩ := g; exact .inl ⟨l, hp⟩
      | t => obtain ⟨_, l, rfl, _⟩ := g; exact .inr ⟨l, hp⟩
    refine ⟨_, g1, hty, F, R, ρ, B, _, S, hw, fun vs H2 ⟨ds, ρ1, F2, A, B1, s2, W2, rs, sl, p2, q2⟩ => ?_, hx⟩
    obtain ⟨d2, e2, q2⟩ := gv_some q2
    obtain ⟨kvs2, more, rfl, rfl, f1, f2, hlen, q2⟩ := oUpd_of q2
    obtain ⟨v2, A1, A3, g3, L⟩ := loc_var sl e2
    rw [g1] at g3; cases g3
    obtain ⟨pa', o, vs1, B1', epa, hp2, g, rk, z⟩ := L.rep
    cases epa
    obtain ⟨hn1, l1, rfl, rfl⟩ := g
    have z1 := fzk_repk _ f1 rk
    subst z1
    obtain ⟨vb, vr, Bb, Cb, rfl, ⟨pb, ob, vs2, B2', rfl, hpb, g2, rk2, zb⟩, ⟨rfl, z3⟩, z4⟩ := rs
    obtain ⟨hn2, l2, rfl, rfl⟩ := g2
    have z2 := fzk_repk _ f2 rk2
    subst z2
    have hA1 : A1 pa ≠ 0 := by rw [z]; exact fpA_r (fp1_self pa)
    have hAb : A pb ≠ 0 := by rw [z4]; refine fpA_l ?_; rw [zb]; exact fpA_r (fp1_self pb)
    have hne : pa ≠ pb := by
      rintro rfl
      have h1 := (p2 pa).1
      unfold fpA at h1
      rw [L.fp] at h1
      unfold fpA at h1
      omega
    refine ⟨pa, pb, l1, l2, rfl, rfl, hp2, hpb, hne, ?_, ?_⟩
    · have a1 := repk_len rk
      have a2 := repk_len rk2
      rw [List.length_map] at a1 a2
      omega
    · obtain ⟨W4, kA2, _⟩ := loc_write (oo := .dK (mergeK l1 l2)) (A := A) W2 L p2 hA1
      obtain ⟨m1, m2⟩ := merge_rep rk2 rk hn1
      have sl2 := L.back F2 (upd H2 pa (.dK (mergeK l1 l2))) (.dic .ow .k (more.foldl (fun acc p => kput acc p.1 p.2) kvs2)) A1 (Same.refl F2) kA2 ⟨pa, _, _, fp0, rfl, upd_same, ⟨m2, _, rfl, rfl⟩, repk_mono (Same.refl F2) _ (fun b n => absurd rfl n) m1, z⟩
      have eput : putE ρ1 i [] (.dic .ow .k (more.foldl (fun acc p => kput acc p.1 p.2) kvs2)) = ρ1.set i (some (.dic .ow .k (more.foldl (fun acc p => kput acc p.1 p.2) kvs2))) := by
        unfold putE; rw [e2]; rfl
      rw [eput] at sl2
      exact hq _ _ ⟨.non, _, F2, fp0, _, s2, W4, rep_non, sl2, by rw [fpA_0l, ← L.fp]; exact p2.mono fun a => by unfold fpA; omega, q2⟩⟩
end
section
variable {Y : Cy} {e f : Expr} {wk wv : KW} {pos : Pos}
theorem f_disp1 (hk : DK Y e wk) (hv : DK Y f wv) : DF Y (.Dict [some e] [f] pos) (fun ρ P => wk ρ fun dk => wv ρ fun dv => fz dv = true ∧ mb (keyD .k dk) fun k => P (.dic .ow .k [(k, dv)])) :=
  ⟨PE.imp (pe_disp (pps_cons hk.run hv.run pps_nil) rfl rfl (by simp) (by simp)) fun σ H Q ⟨F, R, ρ, B, P, S, hw, hq, hx⟩ n hn => by
    have W1 := S.w.mine (o := .dK []) hn
    have k1 := keep_new (o := HO.dK []) S.own hn
    have p1 : Sep F R (fpA (fp1 n) B) := by rw [fpA_comm]; exact S.p.mine S.w S.own hn
    have pA : Sep F R (fp1 n) := p1.mono fun a => by unfold fpA; omega
    have own1 : ∀ a, fp1 n a ≠ 0 → ∃ o, (upd H n (.dK [])) a = some o ∧ NoTup o := fun a z => by
      unfold fp1 at z
      split at z
      · rename_i e; subst e; exact ⟨_, upd_same, by first | exact True.intro | (intro xs h; cases h) | simp [NoTup]⟩
      · exact absurd rfl z
    have S1 : Sd Y.X.K F (hold R (upd H n (.dK [])) (fp1 n)) (upd H n (.dK [])) ρ σ B := ⟨W1.hold pA own1, slr_mono (Same.refl F) k1 S.s, p1.hold⟩
    have x1 : ExH Y F (hold R (upd H n (.dK [])) (fp1 n)) σ := hx.hold (Same.refl F) W1 pA
    refine ⟨F, _, ρ, B, _, S1, hw, fun v H2 ⟨dk, F2, A2, s2, k2, W2, r2, l2, p2, q2⟩ => ?_, x1⟩
    have S2 := S1.keep s2 k2 W2 p2
    refine ⟨F2, _, ρ, B, _, S2, q2, fun w H3 ⟨dv, F3, A3, s3, k3, W3, r3, l3, p3, q3⟩ => ?_, x1.grow s2⟩
    obtain ⟨fv, q3⟩ := q3
    obtain ⟨kk, ek, q3⟩ := mb_some q3
    simp only [keyD, Option.map_eq_some_iff] at ek
    obtain ⟨k0, h1, rfl⟩ := ek
    have ek := flatK_rep h1 r2
    subst ek
    have zv := fz_rep dv fv r3
    subst zv
    obtain ⟨W4, p4, kn⟩ := hold_back W1 pA own1 W3 p3
    have en := kn n (by unfold fp1; simp)
    rw [upd_same] at en
    refine ⟨en, [(k0, w)], rfl, by simp, ?_⟩
    have W5 := W4.write (o := .dK (mergeK [] [(k0, w)])) p4 (p := n) (fpA_l (fp1_self n))
    refine hq _ _ ⟨.dic .ow .k [(keyKD k0, dv)], F3, fp1 n, s2.trans s3, fun a z => ?_, W5, ⟨n, _, [(keyKD k0, w)], fp0, rfl, upd_same, ⟨by simp, _, rfl, rfl⟩, ⟨w, [], fp0, fp0, rfl, rep_mono (Same.refl F3) dv (fun b n => absurd rfl n) r3, ⟨rfl, rfl⟩, fpA_0l.symm⟩, fpA_0l.symm⟩, p4, q3⟩
    obtain ⟨x, ex, _⟩ := S.own a z
    rw [upd_ne (ne_of_none ex hn), k3 a z, k2 a z, k1 a z]⟩
end
/-! sorted(d), the keys ints -/
def kInts : List (KD × D) → Option (List Int)
  | [] => some []
  | (.int i, _) :: r => (kInts r).map (i :: ·)
  | _ => none
def oSortDI (ds : List D) (P : D → Prop) : Prop := one ds fun d => dicOf d fun t kvs => t = .k ∧ mb (kInts kvs) fun ks => ks.length < 64 ∧ P (.lst true ((sortI ks).map D.int))
theorem kInts_rep {K : PySem.W.Frag} {F H : Hp} : ∀ {kvs : List (KD × D)} {l : List (Key × V)} {A : FP} {ks : List Int}, Repk K F H kvs (l.map fun p => (keyKD p.1, p.2)) A → kInts kvs = some ks → l.map (·.1) = ks.map Sum.inl
  | [], l, A, ks, r, h => by
    cases h
    have := r.1
    simp at this
    rw [this]; rfl
  | (k, d) :: kvs, l, A, ks, ⟨v, vr, B, C, e, r, q, z⟩, h => by
    cases l with
    | nil => cases e
    | cons p l =>
      simp only [List.map_cons, List.cons.injEq, Prod.mk.injEq] at e
      obtain ⟨⟨e1, e2⟩, rfl⟩ := e
      cases k with
      | int i =>
        unfold kInts at h
        obtain ⟨ks', h', rfl⟩ := Option.map_eq_some_iff.mp h
        have ih := kInts_rep q h'
        rw [List.map_cons, List.map_cons, ih]
        congr 1
        cases hp : p.1 with
        | inl j => rw [hp] at e1; simp [keyKD] at e1; rw [e1]
        | inr x => rw [hp] at e1; simp [keyKD] at e1
      | _ => simp [kInts] at h
theorem opn_sortDI {K : PySem.W.Frag} : OpNF K (fun xs H Q => ∃ (a : Addr) (kvs : List (Key × V)) (ks : List Int), xs = [.ref a] ∧ Rd H a (.dK kvs) ∧ kvs.map (·.1) = ks.map Sum.inl ∧ ks.length < 64 ∧
    ∀ (ys : List Int) (p : Addr), ys.Perm ks → ys.Pairwise (· ≤ ·) → H p = none → Q (.ref p) (upd H p (.lst (ys.map V.int)))) oSortDI := fun {F R H G vs ds P Q} W ow S b w q => by
  obtain ⟨d, rfl, w⟩ := one_of w
  obtain ⟨v, vr, rfl, ⟨A, r, l⟩, rfl⟩ := b
  obtain ⟨p, o, t, kvs, us, B, rfl, e1, g, rk, _, rfl, w⟩ := dicOf_of W.f r w
  obtain ⟨ks, ek, h64, w⟩ := mb_some w
  obtain ⟨hn, l, rfl, rfl⟩ := g
  refine ⟨p, l, ks, rfl, e1, kInts_rep rk ek, h64, fun ns' n hp hu hn => ?_⟩
  have e : ns' = sortI ks := up_unique (hp.trans (sortI_perm ks).symm) hu (sortI_up ks)
  subst e
  obtain ⟨F', A', s, k', W', rd, p'⟩ := new_lst W ow S hn (reps_of_ints (K := K) (F := F) (H := H) _) (fzs_ints _)
  exact q _ _ ⟨_, F', A', s, k', W', rd, p', w⟩
section
variable {Y : Cy} {e : Expr} {w : DW}
/-- what is told is frozen -/
theorem e_frz (h : DE Y e w) : DE Y e (fun ρ Q => w ρ fun d ρ1 => Q (frz d) ρ1) :=
  ⟨PE.imp h.run fun σ H Q ⟨F, R, ρ, B, P, S, hw, hq, hx⟩ => ⟨F, R, ρ, B, _, S, hw, fun v H1 ⟨d, ρ1, F1, A, B1, s, W, r, sl, p, q⟩ => by
    obtain ⟨F2, s2, W2, r2, sl2, p2⟩ := frz_tmp W r sl p
    exact hq _ _ ⟨frz d, ρ1, F2, fp0, B1, s.trans s2, W2, r2, sl2, by rw [fpA_0l]; exact p2, q⟩, hx⟩⟩
end
/-! and, or with effects -/
section
variable {Y : Cy} {a b : Expr} {rest : List Expr} {wa wb : DW} {pos : Pos}
theorem e_one {op} (h : DE Y a wa) : DE Y (.BoolOp op [a] pos) wa := ⟨pe_one h.run⟩
theorem e_or (ha : DE Y a wa) (hb : DE Y (.BoolOp .Or (b :: rest) pos) wb) : DE Y (.BoolOp .Or (a :: b :: rest) pos) (fun ρ Q => wa ρ fun d ρ1 => bb d fun c => if c = true then Q (.bl true) ρ1 else wb ρ1 Q) :=
  ⟨PE.imp (pe_or ha.run hb.run) fun σ H Q ⟨F, R, ρ, B, P, S, hw, hq, hx⟩ => ⟨F, R, ρ, B, _, S, hw, fun v H1 ⟨d, ρ1, F1, A, B1, s, W, r, sl, p, q⟩ => by
    obtain ⟨c, rfl, q2⟩ := bb_some q
    refine ⟨c, r.1, ?_⟩
    cases c with
    | true =>
      rw [if_pos rfl] at q2 ⊢
      exact hq _ _ ⟨.bl true, ρ1, F1, fp0, B1, s, W, rep_bl, sl, by rw [fpA_0l]; exact p.mono fun a => by unfold fpA; omega, q2⟩
    | false =>
      rw [if_neg Bool.false_ne_true] at q2 ⊢
      exact ⟨F1, R, ρ1, B1, P, ⟨W, sl, p.mono fun a => by unfold fpA; omega⟩, q2, fun v H2 z => hq v H2 (z.back s), hx.grow s⟩, hx⟩⟩
theorem e_and (ha : DE Y a wa) (hb : DE Y (.BoolOp .And (b :: rest) pos) wb) : DE Y (.BoolOp .And (a :: b :: rest) pos) (fun ρ Q => wa ρ fun d ρ1 => bb d fun c => if c = true then wb ρ1 Q else Q (.bl false) ρ1) :=
  ⟨PE.imp (pe_and ha.run hb.run) fun σ H Q ⟨F, R, ρ, B, P, S, hw, hq, hx⟩ => ⟨F, R, ρ, B, _, S, hw, fun v H1 ⟨d, ρ1, F1, A, B1, s, W, r, sl, p, q⟩ => by
    obtain ⟨c, rfl, q2⟩ := bb_some q
    refine ⟨c, r.1, ?_⟩
    cases c with
    | true =>
      rw [if_pos rfl] at q2 ⊢
      exact ⟨F1, R, ρ1, B1, P, ⟨W, sl, p.mono fun a => by unfold fpA; omega⟩, q2, fun v H2 z => hq v H2 (z.back s), hx.grow s⟩
    | false =>
      rw [if_neg Bool.false_ne_true] at q2 ⊢
      exact hq _ _ ⟨.bl false, ρ1, F1, fp0, B1, s, W, rep_bl, sl, by rw [fpA_0l]; exact p.mono fun a => by unfold fpA; omega, q2⟩, hx⟩⟩
end
end L3
namespace DaS
open PySem PySem.Spec PyProof.Rows L2
open PySem.W (AllAlike Sortable EachIs dataLe alike dataLt)
abbrev PV := V × PyData
theorem each_rel : ∀ {ps : List PV} {us : List Value}, Vals (ps.map (·.1)) us → EachIs (fun u (p : PV) => RelV p.1 u) us ps
  | [], _, r => by cases r; exact .nil
  | p :: ps, _, r => by
    cases r with
    | cons a b => exact .cons a (each_rel b)
theorem vals_each : ∀ {ps : List PV} {us : List Value}, EachIs (fun u (p : PV) => RelV p.1 u) us ps → Vals (ps.map (·.1)) us
  | [], _, r => by cases r; exact .nil
  | p :: ps, _, r => by
    cases r with
    | cons a b => exact .cons a (vals_each b)
section
variable {X : Cx} {pins : List (Addr × Obj)} {σ : L2.St} {H : Hp} {s : Shared}
theorem each_reads (I : Inv X pins σ H s) : ∀ {ps : List PV} {us : List Value}, Vals (ps.map (·.1)) us → (∀ p ∈ ps, Dp X.K H p.1 p.2) → EachIs (fun u (p : PV) => ∃ as, Reads s.heap u p.2 as) us ps
  | [], _, r, _ => by cases r; exact .nil
  | p :: ps, _, r, h => by
    cases r with
    | cons a b => exact .cons (Dp.reads I p.2 p.1 _ (h p (by simp)) a) (each_reads I b fun q hq => h q (by simp [hq]))
end
/-- sorted(a list of alike data) -/
def rSortD (K : PySem.W.Frag) : List V → Hp → VK → Prop := fun vs H Q => ∃ (a : Addr) (ps : List PV), vs = [.ref a] ∧ SqL K H a (ps.map (·.1)) ∧ (∀ p ∈ ps, Dp K H p.1 p.2 ∧ p.2.depth ≤ 64) ∧ AllAlike (ps.map (·.2)) ∧ Sortable (ps.map (·.2)) ∧
  ∀ p : Addr, H p = none → Q (.ref p) (upd H p (.lst ((ps.mergeSort (dataLe false fun q : PV => q.2)).map (·.1))))
theorem cr_sortD {X : Cx} (hu : X.A.units + 70 < cLine) : CallR X (.builtin "sorted") (rSortD X.K) := by
  intro pins s σ H vs us Q I r h
  obtain ⟨a, ps, rfl, hs, hd, hal, hso, q⟩ := h
  obtain ⟨its, rv, hl, hz⟩ := I.list hs
  rw [Vals.ref1 r]
  have hlen : its.length = ps.length := by rw [← rv.length, List.length_map]
  have hz' : ps.length ≤ sizeLine := by rw [List.length_map] at hz; exact hz
  refine PySem.W.sorted_data (bs := ps) (enc := fun q => q.2) (R := fun u p => RelV p.1 u) hl.isList (each_rel rv) (each_reads I rv fun p hp => (hd p hp).1) hal hso hz' (fun b hb => by have := (hd b hb).2; omega) fun out ho he => ?_
  have hv := vals_each he
  obtain ⟨ep, he'⟩ := PyProof.Rows.sortedAll_at s.heap its (List.toArray out)
  have hbl : ((ps.mergeSort (dataLe false fun q : PV => q.2)).map (·.1)).length ≤ sizeLine := by rw [List.length_map, List.length_mergeSort]; exact hz'
  exact ⟨.ref _, upd H (s.heap.objs.size + 1) (.lst ((ps.mergeSort (dataLe false fun q : PV => q.2)).map (·.1))), I.laid (t' := s.toks) (fun _ _ => PyProof.Rows.sortedAll_old) (Nat.le_succ _) ⟨hbl, out, ep, hv, he'⟩, rfl, q _ (I.hok.fresh (Nat.le_succ _))⟩
/-! the least and the greatest of alike data -/
theorem lt_trans {x y z : PyData} (h : dataLt x y = true) (h' : dataLt y z = true) : dataLt x z = true := PyProof.Rows.lex_trans _ _ _ h h'
theorem min_fold : ∀ (ys : List PyData) (x : PyData), (PySem.W.minD x ys = x ∨ PySem.W.minD x ys ∈ ys) ∧ dataLt x (PySem.W.minD x ys) = false ∧ ∀ y ∈ ys, dataLt y (PySem.W.minD x ys) = false
  | [], x => ⟨.inl rfl, PyProof.Rows.lex_irrefl _, by simp⟩
  | y :: ys, x => by
    show (PySem.W.minD (if dataLt y x then y else x) ys = x ∨ _) ∧ dataLt x (PySem.W.minD (if dataLt y x then y else x) ys) = false ∧ ∀ z ∈ y :: ys, dataLt z (PySem.W.minD (if dataLt y x then y else x) ys) = false
    by_cases c : dataLt y x = true
    · rw [if_pos c]
      obtain ⟨h1, h2, h3⟩ := min_fold ys y
      refine ⟨?_, ?_, fun z hz => ?_⟩
      · show _ ∨ PySem.W.minD (if dataLt y x then y else x) ys ∈ y :: ys
        rw [if_pos c]
        rcases h1 with h1 | h1
        · exact .inr (by rw [h1]; simp)
        · exact .inr (List.mem_cons_of_mem _ h1)
      · cases e : dataLt x (PySem.W.minD y ys) with
        | false => rfl
        | true => rw [lt_trans c e] at h2; cases h2
      · rcases List.mem_cons.mp hz with rfl | hz
        · exact h2
        · exact h3 z hz
    · have c' : dataLt y x = false := by simpa using c
      rw [if_neg c]
      obtain ⟨h1, h2, h3⟩ := min_fold ys x
      refine ⟨?_, h2, fun z hz => ?_⟩
      · show _ ∨ PySem.W.minD (if dataLt y x then y else x) ys ∈ y :: ys
        rw [if_neg c]
        rcases h1 with h1 | h1
        · exact .inl h1
        · exact .inr (List.mem_cons_of_mem _ h1)
      · rcases List.mem_cons.mp hz with rfl | hz
        · cases e : dataLt z (PySem.W.minD x ys) with
          | false => rfl
          | true =>
            have e' := e
            unfold dataLt at e' c' h2
            rcases PyProof.Rows.lex_negTrans _ (PySem.W.keyToks x) _ e' with t | t
            · rw [t] at c'; cases c'
            · rw [t] at h2; cases h2
        · exact h3 z hz
def rMinD (K : PySem.W.Frag) : List V → Hp → VK → Prop := fun vs H Q => ∃ (a : Addr) (ps : List PV), vs = [.ref a] ∧ SqL K H a (ps.map (·.1)) ∧ ps ≠ [] ∧ (∀ p ∈ ps, Dp K H p.1 p.2 ∧ p.2.depth ≤ 64) ∧ PySem.W.AlikeAll (ps.map (·.2)) ∧
  ∀ p ∈ ps, (∀ q ∈ ps, dataLt q.2 p.2 = false) → Q p.1 H
theorem depth_all : ∀ {ds : List PyData}, (∀ d ∈ ds, d.depth ≤ 64) → PyData.depthAll ds ≤ 64
  | [], _ => by simp [PyData.depthAll]
  | d :: ds, h => by
    rw [PyData.depthAll]
    have h1 := h d (by simp)
    have h2 := depth_all (ds := ds) fun e he => h e (by simp [he])
    omega
theorem each_at {ps : List PV} {us : List Value} (r : Vals (ps.map (·.1)) us) {i : Nat} {u : Value} (h : us[i]? = some u) : ∃ p, ps[i]? = some p ∧ RelV p.1 u := by
  induction ps generalizing us i with
  | nil => cases r; simp at h
  | cons p ps ih =>
    cases r with
    | cons a b =>
      cases i with
      | zero => simp at h; subst h; exact ⟨p, rfl, a⟩
      | succ i => exact ih b (by simpa using h)
theorem cr_minD {X : Cx} (hc : X.calm = true) (hu : X.A.units + 70 < cLine) : CallR X (.builtin "min") (rMinD X.K) := by
  intro pins s σ H vs us Q I r h
  obtain ⟨a, ps, rfl, hs, hne, hd, hal, q⟩ := h
  obtain ⟨its, rv, hl, hz⟩ := I.list hs
  rw [Vals.ref1 r]
  obtain ⟨p0, ps', rfl⟩ : ∃ p0 ps', ps = p0 :: ps' := by
    cases ps with
    | nil => exact absurd rfl hne
    | cons p ps => exact ⟨p, ps, rfl⟩
  have er := each_reads I rv fun p hp => (hd p hp).1
  obtain ⟨as, hr⟩ := PySem.W.each_readsAll (enc := fun q : PV => q.2) er
  have hdp : PyData.depthAll ((p0 :: ps').map (·.2)) ≤ 64 := depth_all fun d hm => by
    obtain ⟨p, hp, rfl⟩ := List.mem_map.mp hm
    exact (hd p hp).2
  refine PySem.W.min_list_data (vs := its.toArray) (x := p0.2) (xs := ps'.map (·.2)) (I.ok.hd hc) hl.isList (by simpa using hr) (show PySem.W.AlikeAll (p0.2 :: ps'.map (·.2)) from hal) (by simp at hdp ⊢; omega) fun i u h' tk bs hi hrd kp => ?_
  have hi' : its[i]? = some u := by simpa using hi
  obtain ⟨p, hp, rp⟩ := each_at rv hi'
  have hpm := List.mem_of_getElem? hp
  obtain ⟨as2, r2⟩ := Dp.reads I p.2 p.1 u (hd p hpm).1 rp
  have r3 : Reads h' u p.2 as2 := PyProof.Rows.Reads.keeps (fun b o e => kp b o e) r2
  obtain ⟨m1, m2, m3⟩ := min_fold (ps'.map (·.2)) p0.2
  have hmm : PySem.W.minD p0.2 (ps'.map (·.2)) ∈ (p0 :: ps').map (·.2) := by
    rcases m1 with e | e
    · rw [e]; simp
    · exact List.mem_cons_of_mem _ e
  have eq : p.2 = PySem.W.minD p0.2 (ps'.map (·.2)) := PySem.W.alike_unique _ _ _ _ _ (hal.1 _ (List.mem_map.mpr ⟨p, hpm, rfl⟩) _ hmm) r3 hrd
  refine ⟨p.1, H, I.kept fun b o e => kp b o e, rp, q p hpm fun z hz => ?_⟩
  rw [eq]
  rcases List.mem_cons.mp hz with rfl | hz
  · exact m2
  · exact m3 _ (List.mem_map.mpr ⟨z, hz, rfl⟩)
/-! comparisons of alike data -/
def rCmpD (K : PySem.W.Frag) (f : PyData → PyData → Bool) : R2 := fun x y H Q => ∃ d e, Dp K H x d ∧ Dp K H y e ∧ d.depth ≤ 64 ∧ alike d e = true ∧ d ≠ .none ∧ Q (.bl (f d e)) H
theorem op_ltD {X : Cx} (hu : X.A.units + 65 < cLine) : OpR X (compareOp .Lt) (rCmpD X.K dataLt) := by
  intro pins s σ H x y v u Q I rx ry h
  obtain ⟨d, e, hd, he, hdp, hal, hn, q⟩ := h
  obtain ⟨as, r1⟩ := Dp.reads I d x v hd rx
  obtain ⟨bs, r2⟩ := Dp.reads I e y u he ry
  exact PySem.W.rcLt_alike d e X.A s v u as bs r1 r2 hal hn (by omega) _ _ _ _ ⟨.bl _, H, I, rfl, q⟩
theorem op_gtD {X : Cx} (hu : X.A.units + 65 < cLine) : OpR X (compareOp .Gt) (rCmpD X.K fun d e => dataLt e d) := by
  intro pins s σ H x y v u Q I rx ry h
  obtain ⟨d, e, hd, he, hdp, hal, hn, q⟩ := h
  obtain ⟨as, r1⟩ := Dp.reads I d x v hd rx
  obtain ⟨bs, r2⟩ := Dp.reads I e y u he ry
  exact PySem.W.rcGt_alike d e X.A s v u as bs r1 r2 hal hn (by omega) _ _ _ _ ⟨.bl _, H, I, rfl, q⟩
theorem op_leD {X : Cx} (hu : X.A.units + 65 < cLine) : OpR X (compareOp .LtE) (rCmpD X.K fun d e => !dataLt e d) := by
  intro pins s σ H x y v u Q I rx ry h
  obtain ⟨d, e, hd, he, hdp, hal, hn, q⟩ := h
  obtain ⟨as, r1⟩ := Dp.reads I d x v hd rx
  obtain ⟨bs, r2⟩ := Dp.reads I e y u he ry
  exact PySem.W.rcLe_alike d e X.A s v u as bs r1 r2 hal hn (by omega) _ _ _ _ ⟨.bl _, H, I, rfl, q⟩
theorem op_geD {X : Cx} (hu : X.A.units + 65 < cLine) : OpR X (compareOp .GtE) (rCmpD X.K fun d e => !dataLt d e) := by
  intro pins s σ H x y v u Q I rx ry h
  obtain ⟨d, e, hd, he, hdp, hal, hn, q⟩ := h
  obtain ⟨as, r1⟩ := Dp.reads I d x v hd rx
  obtain ⟨bs, r2⟩ := Dp.reads I e y u he ry
  exact PySem.W.rcGe_alike d e X.A s v u as bs r1 r2 hal hn (by omega) _ _ _ _ ⟨.bl _, H, I, rfl, q⟩
end DaS
namespace L3
open PySem PySem.Spec L2
open PyProof.Rows hiding St
open PySem.W (AllAlike Sortable dataLe alike dataLt)
/-! alike data over D -/
def dlt (d e : D) : Bool := dataLt (toPy d) (toPy e)
def dle (d e : D) : Bool := !dlt e d
def oSortD (ds : List D) (P : D → Prop) : Prop := one ds fun d => lstD d fun xs => (∀ x ∈ xs, pyOk 64 x = true) ∧ AllAlike (toPys xs) ∧ Sortable (toPys xs) ∧ P (.lst true (xs.mergeSort dle))
def oMinD (ds : List D) (P : D → Prop) : Prop := one ds fun d => lstD d fun xs => xs ≠ [] ∧ (∀ x ∈ xs, pyOk 64 x = true) ∧ PySem.W.AlikeAll (toPys xs) ∧ ∀ x ∈ xs, (∀ y ∈ xs, dlt y x = false) → P x
def oCmpD (f : D → D → Bool) (d e : D) (P : D → Prop) : Prop := pyOk 64 d = true ∧ pyOk 64 e = true ∧ alike (toPy d) (toPy e) = true ∧ toPy d ≠ .none ∧ P (.bl (f d e))
section
variable {K : PySem.W.Frag} {F H R : Hp} {A : FP}
theorem op2_cmpD {K : PySem.W.Frag} {f : PyData → PyData → Bool} : Op2S K (DaS.rCmpD K f) (oCmpD fun d e => f (toPy d) (toPy e)) := fun {F H A1 A2 x y d1 d2 P Q} s r1 r2 w q =>
  ⟨toPy d1, toPy d2, rep_dp s 64 d1 w.1 r1, rep_dp s 64 d2 w.2.1 r2, (pyOk_lay 64 d1 w.1).2, w.2.2.1, w.2.2.2.1, q _ ⟨_, fun _ _ => rep_bl, w.2.2.2.2⟩⟩
theorem op2_ltD {K : PySem.W.Frag} : Op2S K (DaS.rCmpD K dataLt) (oCmpD dlt) := op2_cmpD
theorem op2_gtD {K : PySem.W.Frag} : Op2S K (DaS.rCmpD K fun d e => dataLt e d) (oCmpD fun d e => dlt e d) := @op2_cmpD K fun d e => dataLt e d
theorem op2_leD {K : PySem.W.Frag} : Op2S K (DaS.rCmpD K fun d e => !dataLt e d) (oCmpD fun d e => !dlt e d) := @op2_cmpD K fun d e => !dataLt e d
theorem op2_geD {K : PySem.W.Frag} : Op2S K (DaS.rCmpD K fun d e => !dataLt d e) (oCmpD fun d e => !dlt d e) := @op2_cmpD K fun d e => !dataLt d e
/-- frozen items, each beside its value -/
theorem reps_zip : ∀ {xs : List D} {vs : List V}, Reps K F H xs vs fp0 → ∃ qs : List (V × D), vs = qs.map (·.1) ∧ xs = qs.map (·.2) ∧ ∀ q ∈ qs, Rep K F H q.2 q.1 fp0
  | [], vs, r => ⟨[], r.1, rfl, fun _ h => by simp at h⟩
  | x :: xs, vs, ⟨v, vr, B, C, e, r, q, z⟩ => by
    subst e
    have zB : B = fp0 := funext fun a => by have := congrFun z a; unfold fpA fp0 at this; unfold fp0; omega
    have zC : C = fp0 := funext fun a => by have := congrFun z a; unfold fpA fp0 at this; unfold fp0; omega
    subst zB zC
    obtain ⟨qs, e1, e2, e3⟩ := reps_zip q
    refine ⟨(v, x) :: qs, by rw [e1]; rfl, by rw [e2]; rfl, fun p hp => ?_⟩
    rcases List.mem_cons.mp hp with rfl | hp
    · exact r
    · exact e3 p hp
theorem reps_unzip {qs : List (V × D)} (h : ∀ q ∈ qs, Rep K F H q.2 q.1 fp0) : Reps K F H (qs.map (·.2)) (qs.map (·.1)) fp0 := by
  induction qs with
  | nil => exact ⟨rfl, rfl⟩
  | cons p qs ih => exact ⟨_, _, fp0, fp0, rfl, h p (by simp), ih fun q hq => h q (by simp [hq]), fpA_0l.symm⟩
theorem fzs_iff : ∀ {l : List D}, fzs l = true ↔ ∀ x ∈ l, fz x = true := by
  intro l
  induction l with
  | nil => simp [fzs]
  | cons x l ih => simp [fzs, ih]
def lsD (d : D) (xs : List D) : Prop := lstD d fun ys => ys = xs
theorem lsD_fz {d : D} {xs : List D} (h : lsD d xs) : fzs xs = true := by
  cases d with
  | lst m ys => obtain ⟨h1, h2⟩ := h; subst h2; exact h1
  | scr ns => cases h; exact fzs_ints ns
  | _ => exact h.elim
theorem lstD_and {d : D} {P : List D → Prop} (h : lstD d P) : lstD d fun xs => P xs ∧ lsD d xs := by
  cases d with
  | lst m xs => exact ⟨h.1, h.2, h.1, rfl⟩
  | scr ns => exact ⟨h, rfl⟩
  | _ => exact h.elim
theorem opn_sortD : OpNF K (DaS.rSortD K) oSortD := fun {F R H G vs ds P Q} W ow S b w q => by
  obtain ⟨d, rfl, w⟩ := one_of w
  obtain ⟨v, vr, rfl, ⟨A, r, l⟩, rfl⟩ := b
  obtain ⟨p0, us, xs, rfl, e1, q1, ⟨hok, hal, hso, w2⟩, hxs⟩ := lstD_of W.f r (lstD_and w)
  have hfz := lsD_fz hxs
  obtain ⟨qs, rfl, rfl, hq⟩ := reps_zip q1
  have em : (qs.map fun q => (q.1, toPy q.2)).map (·.1) = qs.map (·.1) := by rw [List.map_map]; rfl
  have ed : (qs.map fun q => ((q.1, toPy q.2) : V × PyData)).map (·.2) = toPys (qs.map (·.2)) := by rw [toPys_map, List.map_map, List.map_map]; rfl
  let le : V × D → V × D → Bool := fun a b => dle a.2 b.2
  have hp := List.mergeSort_perm qs le
  have es1 : ((qs.map fun q => ((q.1, toPy q.2) : V × PyData)).mergeSort (dataLe false fun q : V × PyData => q.2)).map (·.1) = (qs.mergeSort le).map (·.1) := by
    rw [← List.map_mergeSort (r := le) (f := fun q : V × D => ((q.1, toPy q.2) : V × PyData)) (fun a _ b _ => by rw [PySem.W.dataLe_eq]; rfl), List.map_map]; rfl
  have es2 : (qs.map (·.2)).mergeSort dle = (qs.mergeSort le).map (·.2) := by
    rw [← List.map_mergeSort (r := le) (f := fun q : V × D => q.2) (fun a _ b _ => rfl)]
  refine ⟨p0, qs.map fun q => (q.1, toPy q.2), rfl, by rw [em]; exact e1, fun p hpm => ?_, by rw [ed]; exact hal, by rw [ed]; exact hso, fun n hn => ?_⟩
  · obtain ⟨z, hz, rfl⟩ := List.mem_map.mp hpm
    have ok := hok z.2 (List.mem_map.mpr ⟨z, hz, rfl⟩)
    exact ⟨rep_dp W.f 64 z.2 ok (hq z hz), (pyOk_lay 64 z.2 ok).2⟩
  · rw [es1]
    rw [es2] at w2
    have hfz2 : fzs ((qs.mergeSort le).map (·.2)) = true := by
      rw [fzs_iff] at hfz ⊢
      intro x hx
      obtain ⟨z, hz, rfl⟩ := List.mem_map.mp hx
      exact hfz _ (List.mem_map.mpr ⟨z, hp.mem_iff.mp hz, rfl⟩)
    obtain ⟨F', A', s', k', W', rd, p'⟩ := new_lst W ow S hn (reps_unzip fun z hz => hq z (hp.mem_iff.mp hz)) hfz2
    exact q _ _ ⟨_, F', A', s', k', W', rd, p', w2⟩
theorem opn_minD : OpNF K (DaS.rMinD K) oMinD := fun {F R H G vs ds P Q} W ow S b w q => by
  obtain ⟨d, rfl, w⟩ := one_of w
  obtain ⟨v, vr, rfl, ⟨A, r, l⟩, rfl⟩ := b
  obtain ⟨p0, us, xs, rfl, e1, q1, ⟨hne, hok, hal, w2⟩, hxs⟩ := lstD_of W.f r (lstD_and w)
  obtain ⟨qs, rfl, rfl, hq⟩ := reps_zip q1
  have em : (qs.map fun q => (q.1, toPy q.2)).map (·.1) = qs.map (·.1) := by rw [List.map_map]; rfl
  have ed : (qs.map fun q => ((q.1, toPy q.2) : V × PyData)).map (·.2) = toPys (qs.map (·.2)) := by rw [toPys_map, List.map_map, List.map_map]; rfl
  refine ⟨p0, qs.map fun q => (q.1, toPy q.2), rfl, by rw [em]; exact e1, fun z => hne (by simpa using z), fun p hpm => ?_, by rw [ed]; exact hal, fun p hpm hmin => ?_⟩
  · obtain ⟨z, hz, rfl⟩ := List.mem_map.mp hpm
    have ok := hok z.2 (List.mem_map.mpr ⟨z, hz, rfl⟩)
    exact ⟨rep_dp W.f 64 z.2 ok (hq z hz), (pyOk_lay 64 z.2 ok).2⟩
  · obtain ⟨z, hz, rfl⟩ := List.mem_map.mp hpm
    exact q _ _ ⟨z.2, F, fp0, Same.refl F, .refl, W, hq z hz, by rw [fpA_0l]; exact S, w2 z.2 (List.mem_map.mpr ⟨z, hz, rfl⟩) fun y hy => by
      obtain ⟨z', hz', rfl⟩ := List.mem_map.mp hy
      exact hmin _ (List.mem_map.mpr ⟨z', hz', rfl⟩)⟩
end
end L3
namespace L3
open PySem PySem.Spec L2
open PyProof.Rows hiding St
/-! what never comes to pass -/
section
variable {Y : Cy} {e : Expr} {st : Stmt}
theorem s_never : DS Y st (fun _ _ => False) := ⟨⟨fun _ _ _ _ _ _ ⟨_, _, _, _, _, _, z, _⟩ => z.elim⟩⟩
theorem e_never : DE Y e (fun _ _ => False) := ⟨⟨fun _ _ _ _ _ _ ⟨_, _, _, _, _, _, z, _⟩ => z.elim⟩⟩
end
/-! values taken out of a place, or frozen there -/
section
variable {Y : Cy} {e : Expr} {i : Nat} {pw : PW'}
theorem e_mvP (h : DP Y e i pw) : DE Y e (fun ρ Q => pw ρ fun st => mb (getE ρ i st) fun d => Q d (putE ρ i st .gone)) :=
  ⟨PE.imp h.run fun σ H Q ⟨F, R, ρ, B, P, S, hw, hq, hx⟩ => ⟨F, R, ρ, B, _, S, hw, fun v H1 ⟨st, d1, A1, A2, F1, s, k, W, p, L, q⟩ => by
    obtain ⟨d0, e0, q⟩ := mb_some q
    rw [L.get] at e0; cases e0
    have sl := L.back F1 H1 .gone fp0 (Same.refl F1) (fun _ _ => rfl) rfl
    rw [fpA_0l] at sl
    have p' : Sep F1 R (fpA A1 A2) := by rw [← L.fp]; exact p
    exact hq v H1 ⟨d1, _, F1, A1, A2, s, W, L.rep, sl, p', q⟩, hx⟩⟩
theorem e_frP (h : DP Y e i pw) : DE Y e (fun ρ Q => pw ρ fun st => mb (getE ρ i st) fun d => Q (frz d) (putE ρ i st (frz d))) :=
  ⟨PE.imp h.run fun σ H Q ⟨F, R, ρ, B, P, S, hw, hq, hx⟩ => ⟨F, R, ρ, B, _, S, hw, fun v H1 ⟨st, d1, A1, A2, F1, s, k, W, p, L, q⟩ => by
    obtain ⟨d0, e0, q⟩ := mb_some q
    rw [L.get] at e0; cases e0
    have p' : Sep F1 R (fpA A1 A2) := by rw [← L.fp]; exact p
    have pA : Sep F1 R A1 := p'.mono fun a => by unfold fpA; omega
    have rf := rep_frz (F' := frzF F1 H1 A1) (H' := H1) (frzF_same pA) d1 (fun a n => frzF_in n) L.rep
    have sl := L.back (frzF F1 H1 A1) H1 (frz d1) fp0 (frzF_same pA) (fun _ _ => rfl) rf
    rw [fpA_0l] at sl
    exact hq v H1 ⟨frz d1, _, _, fp0, A2, s.trans (frzF_same pA), W.frz pA, rf, sl, by rw [fpA_0l]; exact p'.frz, q⟩, hx⟩⟩
end
/-! methods without arguments -/
section
variable {Y : Cy} {e o : Expr} {es : List Expr} {w : GW} {pos p : Pos}
theorem e_meth0 (i : Nat) {x m C : Str} {sp : DSp} {pl : Sem Bool} {apos : Pos} (M : CalM Y.X CX0 C m sp) (hN : Y.X.N[i]? = some x := by rfl) (hv : Vis Y.X.env.scope x := by first | exact Or.inl rfl | exact Or.inr (Or.inl rfl) | exact Or.inr (Or.inr rfl))
    (hd : (x == ("__debug__" : Str)) = false := by decide) (hcd : (x == ("__classdict__" : Str)) = false := by decide)
    (ht : eval (.Call (.Attribute (.Name x p) m apos) [] [] pos) Y.X.env = (do
      let ov ← eval (.Name x p) Y.X.env
      standAt apos.atName
      let (f, first) ← holding [ov] (getMethod ov m pl)
      callWith pos f first (backTo pos (starEach [] Y.X.env)) (backToKw pos (keywordEach [] Y.X.env))) := by rfl) :
    DE Y (.Call (.Attribute (.Name x p) m apos) [] [] pos) (fun ρ Q => (gv ρ i fun d => isInsM C m d) ∧ cal sp (fun _ _ => False) [.ref i] ρ Q) := by
  obtain ⟨k, c, f, fd, ps, hc, hcl, hm, F, hr, hb⟩ := M.ex
  refine ⟨PE.imp (pe_meth0 (E := E0) (pe_var hN hv hd hcd) hcl hm F hr hb ht) fun σ H Q ⟨F, R, ρ, B, P, S, ⟨h1, hw⟩, hq, hx⟩ => ?_⟩
  obtain ⟨d, e1, h1⟩ := gv_some h1
  obtain ⟨v, A0, g1, g2, _⟩ := slr_get S.s e1
  cases d with
  | ins C' fs =>
    obtain ⟨rfl, hn⟩ := h1
    obtain ⟨c', a, dx, vs0, B0, hc', ev, ha', hd', ne, rs, z⟩ := g2
    have ec : c' = c := by
      unfold ClsN at hc hc'
      rw [hc] at hc'
      simpa using hc'.symm
    subst ec ev
    refine ⟨_, g1, a, dx, vs0, rfl, ha', repf_none rs hn, ?_⟩
    show spV Y.X.K sp [.ref a] H Q E0
    exact cal_ok (E := E0) S.w (show ArgR Y.X.K F H σ [.ref i] [.ref a] fp0 from ⟨_, [], rfl, g1, rfl, rfl⟩) S.s (by rw [fpA_0l]; exact S.p) hw (fun v H' z => hq v H' z) fun c dx H' ⟨_, _, _, _, _, _, _, _, z⟩ => z.elim
  | _ => exact h1.elim
/-! a new object of a class with an __init__ -/
structure CalN (X : Cx) (CX : CXT) (C : Str) (sp : DSp) : Prop where
  ex : ∃ (k : Nat) (c f : Addr) (fd : FuncData) (ps : List Str), ClsN X.K C c ∧ Mk X.K c f ∧ FnOk X.prog X.w X.K X.mg X.base CX k f fd ps (spV X.K sp) ∧ Room (k + 1) X.A ∧ X.mg C = some (.ref c) ∧ Binds X.K fd ps []
def newW (C : Str) (sp : DSp) (as : List Arg) (ρ : Env) (Q : D → Env → Prop) : Prop :=
  ftch as ρ fun ds ρ' => sp (.ins C [] :: ds) (fun d ds' => d = .non ∧ match ds' with
    | o :: r => Q o (bck as r ρ')
    | [] => False) (fun _ _ => False)
theorem new_ok {F R H : Hp} {σ : St} {C : Str} {c : Addr} {as : List Arg} {vs : List V} {A B : FP} {ρ : Env} {sp : DSp} {P : D → Env → Prop} {Q : VK} (hc : ClsN Y.X.K C c) (W : Wd F R H) (r : ArgR Y.X.K F H σ as vs A) (sl : SlR Y.X.K F H ρ σ B) (p : Sep F R (fpA A B)) (h : newW C sp as ρ P)
    (hq : ∀ v H', EvO Y F R σ P v H' → Q v H') {x dx : Addr} (hx : H x = none) (hdx : H dx = none) (ne : dx ≠ x) :
    spV Y.X.K sp (.ref x :: vs) (upd (upd H dx (.own x)) x (.ins c dx [])) (fun v H2 => v = .non ∧ Q (.ref x) H2) E0 := by
  have hx1 : (upd H dx (.own x)) x = none := by rw [upd_ne (Ne.symm ne)]; exact hx
  have W1 : Wd F R (upd H dx (.own x)) := W.mine hdx
  have W2 : Wd F R (upd (upd H dx (.own x)) x (.ins c dx [])) := W1.mine hx1
  have ownA := argr_own r
  have ownB := slr_own sl
  have ownAB : ∀ a, fpA A B a ≠ 0 → ∃ o, H a = some o ∧ NoTup o := fun a n => by
    rcases fpA_ne.mp n with n | n
    · exact ownA a n
    · exact ownB a n
  have p1 : Sep F R (fpA (fpA A B) (fp1 dx)) := p.mine W ownAB hdx
  have own1 : ∀ a, fpA (fpA A B) (fp1 dx) a ≠ 0 → ∃ o, (upd H dx (.own x)) a = some o ∧ NoTup o := fun a n => by
    rcases fpA_ne.mp n with n | n
    · obtain ⟨o, e, t⟩ := ownAB a n
      refine ⟨o, ?_, t⟩
      rw [upd_ne (fun z => by rw [z, hdx] at e; cases e)]; exact e
    · rw [fp1_ne] at n; subst n; exact ⟨_, upd_same, trivial⟩
  have p2 : Sep F R (fpA (fpA (fpA A B) (fp1 dx)) (fp1 x)) := p1.mine W1 own1 hx1
  have kp : ∀ a o, H a = some o → (upd (upd H dx (.own x)) x (.ins c dx [])) a = some o := fun a o e => by
    rw [upd_ne (fun z => by rw [z, hx] at e; cases e), upd_ne (fun z => by rw [z, hdx] at e; cases e)]; exact e
  have r2 : ArgR Y.X.K F (upd (upd H dx (.own x)) x (.ins c dx [])) σ as vs A := argr_mono (Same.refl F) (fun a n => by obtain ⟨o, e, _⟩ := ownA a n; rw [e]; exact kp a o e) r
  have sl2 : SlR Y.X.K F (upd (upd H dx (.own x)) x (.ins c dx [])) ρ σ B := slr_mono (Same.refl F) (fun a n => by obtain ⟨o, e, _⟩ := ownB a n; rw [e]; exact kp a o e) sl
  obtain ⟨ds, ρ', A', B', h1, h2, h3, h4, h5⟩ := ftch_ok r2 sl2 h
  have own2 := slr_own h2
  have self : Rep Y.X.K F (upd (upd H dx (.own x)) x (.ins c dx [])) (.ins C []) (.ref x) (fpA (fp1 x) (fp1 dx)) :=
    ⟨c, x, dx, [], fp0, hc, rfl, upd_same, by rw [upd_ne ne]; exact upd_same, ne, ⟨rfl, rfl⟩, by rw [fpA_0l]⟩
  have pB : Sep F R B' := p2.mono fun a => by
    have := congrFun h3 a
    unfold fpA at *
    omega
  have p' : Sep F R (fpA B' (fpA (fpA (fp1 x) (fp1 dx)) A')) := p2.mono fun a => by
    have := congrFun h3 a
    unfold fpA at *
    omega
  refine ⟨F, hold R _ B', .ins C [] :: ds, fpA (fpA (fp1 x) (fp1 dx)) A', _, _, W2.hold pB own2, ⟨_, _, _, _, rfl, self, h1, rfl⟩, p'.hold, h4, fun v H' ⟨d, ds', F', A2, B2, s, W', rd, rds, pp, q⟩ => ?_, fun c dx H' ⟨ds', F', B2, s, W', rds, p2, q⟩ => q.elim⟩
  obtain ⟨rfl, q⟩ := q
  obtain ⟨rfl, rfl⟩ := rd
  rw [fpA_0l] at pp
  obtain ⟨W3, p3, k3⟩ := hold_back W2 pB own2 W' pp
  cases ds' with
  | nil => exact q.elim
  | cons o r' =>
    obtain ⟨v', vr', C1, C2, ev, r3, r4, z2⟩ := rds
    cases ev
    obtain ⟨E, l, sl3⟩ := h5 F' H' r' C2 B' _ s r4 (slr_mono s k3 h2) rfl
    refine ⟨rfl, hq _ H' ⟨o, _, F', C1, E, s, W3, r3, sl3, p3.mono fun a => ?_, q⟩⟩
    have := l a
    rw [z2]
    unfold fpA
    omega
theorem e_new {C : Str} {sp : DSp} (M : CalN Y.X CX0 C sp) (ha : DG Y (e :: es) w) (hg : Gl Y.X C := by rfl) (hdb : (C == ("__debug__" : Str)) = false := by decide) (he : starEach (e :: es) Y.X.env = (false, eval e Y.X.env) :: starEach es Y.X.env := by rfl)
    (hpl : (backTo pos (starEach es Y.X.env)).any (·.1) = false := by rfl) : DE Y (.Call (.Name C p) (e :: es) [] pos) (fun ρ Q => w ρ fun as ρ1 => newW C sp as ρ1 Q) := by
  obtain ⟨k, c, f, fd, ps, hc, hm, F, hr, hmg, hb⟩ := M.ex
  refine ⟨PE.imp (pe_make (E := E0) hm F hr hg hmg hb ha.run hdb he hpl) fun σ H Q ⟨F, R, ρ, B, P, S, hw, hq, hx⟩ => ⟨F, R, ρ, B, _, S, hw, fun vs H1 ⟨as, ρ1, F1, A, B1, s, W, r, sl, p, q⟩ => fun x dx nx ndx ne => ?_, hx⟩⟩
  exact new_ok hc W r sl p q (fun v H' z => hq v H' (z.back s)) nx ndx ne
theorem e_new0 {C : Str} {sp : DSp} (M : CalN Y.X CX0 C sp) (hg : Gl Y.X C := by rfl) (hdb : (C == ("__debug__" : Str)) = false := by decide) : DE Y (.Call (.Name C p) [] [] pos) (fun ρ Q => newW C sp [] ρ Q) := by
  obtain ⟨k, c, f, fd, ps, hc, hm, F, hr, hmg, hb⟩ := M.ex
  refine ⟨PE.imp (pe_make0 (E := E0) hm F hr hg hmg hb hdb) fun σ H Q ⟨F, R, ρ, B, P, S, hw, hq, hx⟩ => fun x dx nx ndx ne => ?_⟩
  show spV Y.X.K sp [.ref x] _ _ _
  exact new_ok hc S.w (show ArgR Y.X.K F H σ [] [] fp0 from ⟨rfl, rfl⟩) S.s (by rw [fpA_0l]; exact S.p) hw (fun v H' z => hq v H' z) nx ndx ne
end
end L3
namespace L3
open PySem PySem.Spec L2
open PyProof.Rows hiding St
/-! methods as they stand behind the top -/
section
variable {P : Program} {w : World} {K : PySem.W.Frag} {mg : Str → Option Value} {base : Heap}
structure DfM (K : PySem.W.Frag) (C m qual : Str) (st : Stmt) (ps : List Str) : Prop where
  ex : ∃ (c f : Addr) (fd : FuncData), ClsN K C c ∧ Cls K c ∧ Meth K c m f ∧ Fun K m qual st f fd ∧ Binds K fd ps []
structure DfN (K : PySem.W.Frag) (mg : Str → Option Value) (C qual : Str) (st : Stmt) (ps : List Str) : Prop where
  ex : ∃ (c f : Addr) (fd : FuncData), ClsN K C c ∧ Mk K c f ∧ mg C = some (.ref c) ∧ Fun K "__init__" qual st f fd ∧ Binds K fd ps []
structure FnM (P : Program) (w : World) (K : PySem.W.Frag) (mg : Str → Option Value) (base : Heap) (CX : CXT) (k : Nat) (C m : Str) (sp : DSp) : Prop where
  ex : ∃ (c f : Addr) (fd : FuncData) (ps : List Str), ClsN K C c ∧ Cls K c ∧ Meth K c m f ∧ FnOk P w K mg base CX k f fd ps (spV K sp) ∧ Binds K fd ps []
structure FnN (P : Program) (w : World) (K : PySem.W.Frag) (mg : Str → Option Value) (base : Heap) (CX : CXT) (k : Nat) (C : Str) (sp : DSp) : Prop where
  ex : ∃ (j : Nat) (c f : Addr) (fd : FuncData) (ps : List Str), j + 1 ≤ k ∧ ClsN K C c ∧ Mk K c f ∧ FnOk P w K mg base CX j f fd ps (spV K sp) ∧ mg C = some (.ref c) ∧ Binds K fd ps []
theorem FnM.cal {X : Cx} {CX : CXT} {j k : Nat} {C m : Str} {sp : DSp} (F : FnM X.prog X.w X.K X.mg X.base CX j C m sp) (hr : Room k X.A) (h : j ≤ k) : CalM X CX C m sp := by
  obtain ⟨c, f, fd, ps, h1, h2, h3, h4, h5⟩ := F.ex
  exact ⟨⟨j, c, f, fd, ps, h1, h2, h3, h4, hr.mono h, h5⟩⟩
theorem FnN.cal {X : Cx} {CX : CXT} {j k : Nat} {C : Str} {sp : DSp} (F : FnN X.prog X.w X.K X.mg X.base CX j C sp) (hr : Room k X.A) (h : j ≤ k) : CalN X CX C sp := by
  obtain ⟨j', c, f, fd, ps, h0, h1, h2, h3, h4, h5⟩ := F.ex
  exact ⟨⟨j', c, f, fd, ps, h1, h2, h3, hr.mono (by omega), h4, h5⟩⟩
theorem DfM.fn {C m qual : Str} {st : Stmt} {N ps : List Str} {k n : Nat} {sp : DSp} {T : List Nat} {fl : List Bool} {wb : SW} (D : DfM K C m qual st ps) (S : FnScope N ps (defScope st)) (hn : N.length = n)
    (hfl : fl.length = ps.length) (hT : ∀ i : Nat, fl[i]? = some true → i ∈ T)
    (hb : ∀ (f : Addr) (cdv : Value) (A : Around) (outer : List PySem.Env) (s : Shared) (H : Hp) (E : XK), Room k (A.deeper (envOfC qual (defScope st) s.heap.objs.size f cdv)) → DSs (cy0 P w K mg base N T qual st f cdv A outer s H E) (defBody st) wb)
    (hlen : ∀ ds P EP, sp ds P EP → ds.length = ps.length)
    (hw : ∀ ds P EP, sp ds P EP → wb { nx := fun ρ => P .non (outs fl ρ), rt := fun d ρ => P d (outs fl ρ) } (startE n ds)) : FnM P w K mg base CX0 (k + 1) C m sp := by
  obtain ⟨c, f, fd, h1, h2, h3, F, hbd⟩ := D.ex
  exact ⟨⟨c, f, fd, ps, h1, h2, h3, fn_d F S hlen hn hfl hT (hb f) hw, hbd⟩⟩
theorem DfN.fn {C qual : Str} {st : Stmt} {N ps : List Str} {k n : Nat} {sp : DSp} {T : List Nat} {fl : List Bool} {wb : SW} (D : DfN K mg C qual st ps) (S : FnScope N ps (defScope st)) (hn : N.length = n)
    (hfl : fl.length = ps.length) (hT : ∀ i : Nat, fl[i]? = some true → i ∈ T)
    (hb : ∀ (f : Addr) (cdv : Value) (A : Around) (outer : List PySem.Env) (s : Shared) (H : Hp) (E : XK), Room k (A.deeper (envOfC qual (defScope st) s.heap.objs.size f cdv)) → DSs (cy0 P w K mg base N T qual st f cdv A outer s H E) (defBody st) wb)
    (hlen : ∀ ds P EP, sp ds P EP → ds.length = ps.length)
    (hw : ∀ ds P EP, sp ds P EP → wb { nx := fun ρ => P .non (outs fl ρ), rt := fun d ρ => P d (outs fl ρ) } (startE n ds)) : FnN P w K mg base CX0 (k + 2) C sp := by
  obtain ⟨c, f, fd, h1, h2, h3, F, hbd⟩ := D.ex
  exact ⟨⟨k + 1, c, f, fd, ps, Nat.le_refl _, h1, h2, fn_d F S hlen hn hfl hT (hb f) hw, h3, hbd⟩⟩
theorem FnM.mono {CX : CXT} {j k : Nat} {C m : Str} {sp : DSp} (F : FnM P w K mg base CX j C m sp) (h : j ≤ k) : FnM P w K mg base CX k C m sp := by
  obtain ⟨c, f, fd, ps, h1, h2, h3, h4, h5⟩ := F.ex
  exact ⟨⟨c, f, fd, ps, h1, h2, h3, h4.mono h, h5⟩⟩
/-- where nothing is asked -/
theorem DfM.none {C m qual : Str} {st : Stmt} {ps : List Str} {k : Nat} {sp : DSp} (D : DfM K C m qual st ps) (h : ∀ ds P EP, sp ds P EP → False) : FnM P w K mg base CX0 k C m sp := by
  obtain ⟨c, f, fd, h1, h2, h3, F, hbd⟩ := D.ex
  have z : ∀ vs H Q E, spV K sp vs H Q E → False := fun vs H Q E ⟨_, _, _, _, _, _, _, _, _, q, _⟩ => h _ _ _ q
  exact ⟨⟨c, f, fd, ps, h1, h2, h3, ⟨fun vs H Q E q => (z _ _ _ _ q).elim, fun _ _ _ _ _ _ _ _ _ _ _ _ _ q => (z _ _ _ _ q).elim⟩, hbd⟩⟩
theorem Df.none {x qual : Str} {st : Stmt} {ps : List Str} {k : Nat} {sp : DSp} (D : Df K mg x qual st ps) (h : ∀ ds P EP, sp ds P EP → False) : Fn P w K mg base CX0 k x sp := by
  obtain ⟨f, fd, F, hm, hbd⟩ := D.ex
  have z : ∀ vs H Q E, spV K sp vs H Q E → False := fun vs H Q E ⟨_, _, _, _, _, _, _, _, _, q, _⟩ => h _ _ _ q
  exact ⟨⟨f, fd, ps, ⟨fun vs H Q E q => (z _ _ _ _ q).elim, fun _ _ _ _ _ _ _ _ _ _ _ _ _ q => (z _ _ _ _ q).elim⟩, hm, F.kp, hbd⟩⟩
theorem one_cls {C f : Str} (q : FldOk K C f) : ∀ C' ∈ [C], FldOk K C' f := fun C' h => by rw [List.mem_singleton.mp h]; exact q
end
/-- the j-th statement of a class -/
def memS (st : Stmt) (j : Nat) : Stmt := match st with
  | .ClassDef _ _ _ body _ _ _ _ _ _ _ => body.getD j (.Pass ⟨0, 0, 0, 0⟩)
  | _ => .Pass ⟨0, 0, 0, 0⟩
/-! o.f += e of whole numbers -/
def augF (f : Str) (Cs : List Str) (i : Nat) (st : List Stp) (ρ : Env) (P : Str → List (Str × D) → D → Prop) : Prop := mb (getE ρ i st) fun o => match o with
  | .ins C fs => C ∈ Cs ∧ fs.length < 1000 ∧ mb (flook fs f) fun d => P C fs d
  | _ => False
section
variable {Y : Cy} {e o : Expr} {w : KW} {pw : PW'} {i : Nat} {f : Str} {Cs : List Str} {pos tpos : Pos} {op : Operator} {g : Int → Int → Int}
theorem s_augf (hop : InOp Y.X op (fun x y H Q => ∃ i j, x = V.int i ∧ y = V.int j ∧ Q (V.int (g i j)) H)) (hv : DK Y e w) (ho : DP Y o i pw) (hC : ∀ C ∈ Cs, FldOk Y.X.K C f) :
    DS Y (.AugAssign (.Attribute o f tpos) op e pos) (fun K ρ => pw ρ fun st => augF f Cs i st ρ fun C fs d0 => w ρ fun d => oAug g d0 d fun z => K.nx (putE ρ i st (.ins C (fput fs f z)))) :=
  ⟨PS.imp (ps_fldaug ho.run hv.run hop) fun Z σ H ⟨F, R, ρ, B, K, S, hw, G⟩ => ⟨F, R, ρ, B, _, S, hw, fun x H1 ⟨st, d1, A1, A2, F1, s, k, W, p, L, q⟩ => by
    obtain ⟨d0, e0, q⟩ := mb_some q
    rw [L.get] at e0; cases e0
    cases d1 with
    | ins C fs =>
      obtain ⟨q1, q2, q⟩ := q
      obtain ⟨d0, e0, q⟩ := mb_some q
      obtain ⟨c, a, dx, vs, B0, hc, ev, ha, hd, ne, rs, z⟩ := L.rep
      obtain ⟨v0, B1, C1, l1, l2, l3, _⟩ := repf_at rs e0
      obtain ⟨g1, g2⟩ := hC C q1 c hc
      subst ev
      have S1 := S.keep s k W p
      refine ⟨a, c, dx, vs, v0, rfl, ha, g1, g2, l1, F1, R, ρ, B, _, S1, q, fun y H2 ⟨d2, F2, A, s2, k2, W2, r2, l2', p2, q3⟩ => ?_, G.ex.grow s⟩
      have kA1 : ∀ b, A1 b ≠ 0 → H2 b = H1 b := fun b n => k2 b (by rw [L.fp]; exact fpA_l n)
      have L2 : L3.Loc Y.X.K F2 H2 ρ σ B i st (.ins C fs) (.ref a) A1 A2 := ⟨L.get, rep_mono s2 _ kA1 L.rep, L.fp, fun F' H' d' A' sm kp r' => L.back F' H' d' A' (s2.trans sm) (fun b n => (kp b n).trans (k2 b (by rw [L.fp]; exact fpA_r n))) r'⟩
      cases d0 with
      | int n0 => cases d2 with
        | int n2 =>
          obtain ⟨rfl, _⟩ := l2
          obtain ⟨rfl, _⟩ := r2
          obtain ⟨c', a', dx', vs', B0', hc', ev', ha', hd', ne', rs', z'⟩ := L2.rep
          cases ev'
          have ec : c' = c := by
            unfold ClsN at hc hc'
            rw [hc] at hc'
            simpa using hc'.symm
          subst ec
          refine ⟨n0, n2, rfl, rfl, dx', vs', ha', by rw [repf_len rs']; exact q2, ?_⟩
          have hA1 : A1 a ≠ 0 := by rw [z']; exact fpA_r (fpA_l (fp1_self a))
          have p0 : Sep F2 R (fpA fp0 B) := by rw [fpA_0l]; exact p2
          obtain ⟨W4, kA2, kA⟩ := loc_write (oo := .ins c' dx' (putF f (.int (g n0 n2)) vs')) W2 L2 p0 hA1
          obtain ⟨C2, l, hput⟩ := repf_put f rs'
          have hn : ∀ b, C2 b ≠ 0 → (upd H2 a (.ins c' dx' (putF f (.int (g n0 n2)) vs'))) b = H2 b := fun b n => by
            refine upd_ne ?_
            rintro rfl
            have h1 := (p0 b).1
            have h2 := l b
            unfold fpA at h1
            rw [L2.fp, z'] at h1
            unfold fpA at h1
            simp only [fp1, if_pos] at h1
            omega
          have rs2 := hput F2 _ (.int (g n0 n2)) (.int (g n0 n2)) fp0 (Same.refl F2) hn rep_int
          rw [fput_putF] at rs2
          have hdx : (upd H2 a (.ins c' dx' (putF f (.int (g n0 n2)) vs'))) dx' = some (.own a) := by rw [upd_ne ne']; exact hd'
          have sl2 := L2.back F2 _ (.ins C (fput fs f (.int (g n0 n2)))) _ (Same.refl F2) kA2 ⟨c', a, dx', _, _, hc', rfl, upd_same, hdx, ne', rs2, rfl⟩
          refine G.nx σ _ ⟨_, F2, _, s.trans s2, W4, sl2, p0.mono fun b => ?_, .refl, q3⟩
          have := l b
          rw [L2.fp, z']
          unfold fpA
          unfold fp0
          omega
        | _ => exact q3.elim
      | _ => cases d2 <;> exact q3.elim
    | _ => exact q.elim, G.ex⟩⟩
end
end L3
namespace L3
open PySem PySem.Spec L2
open PyProof.Rows hiding St
theorem u70 {k : Nat} {A : Around} (hr : Room k A) : A.units + 70 < cLine := by have := hr.un; omega
end L3
namespace DaS
open PySem PySem.Spec PyProof.Rows L2
/-- repr of data -/
def rRepr (K : PySem.W.Frag) : List V → Hp → VK → Prop := fun vs H Q => ∃ (a : Addr) (d : PyData), vs = [.ref a] ∧ Dp K H (.ref a) d ∧ d.depth ≤ 64 ∧ d.showable = true ∧ d.hasDict = false ∧ d.shown.length ≤ sizeLine ∧ Q (.str d.shown) H
theorem cr_repr {X : Cx} (hg : X.A.guards = some []) (hu : X.A.units + 70 < cLine) : CallR X (.builtin "repr") (rRepr X.K) := by
  intro pins s σ H vs us Q I r h
  obtain ⟨a, d, rfl, hd, hdp, h1, h2, hz, q⟩ := h
  rw [Vals.ref1 r]
  obtain ⟨as, rd⟩ := Dp.reads I d (.ref a) (.ref a) hd rfl
  exact repr_of_reads' rd h1 (PyData.noDict_hsm h2) hg (by omega) (fun _ _ e => e) (fun h' u tk hk => ⟨.str _, H, I.kept fun b o e => hk b o e, ⟨u, rfl⟩, q⟩) hz
end DaS
namespace L3
open PySem PySem.Spec L2
open PyProof.Rows hiding St
def isCon : D → Prop
  | .lst _ _ => True
  | .tup _ => True
  | _ => False
def oRepr (ds : List D) (P : D → Prop) : Prop := one ds fun d => isCon d ∧ pyOk 64 d = true ∧ (toPy d).showable = true ∧ (toPy d).hasDict = false ∧ (toPy d).shown.length ≤ sizeLine ∧ P (.str (toPy d).shown)
theorem opn_repr {K : PySem.W.Frag} : OpNS K (DaS.rRepr K) oRepr := fun {F H G vs ds P Q} s b w q => by
  obtain ⟨d, rfl, w⟩ := one_of w
  obtain ⟨hc, hok, h1, h2, hz, w⟩ := w
  obtain ⟨v, vr, rfl, ⟨A, r, l⟩, rfl⟩ := b
  obtain ⟨a, rfl⟩ : ∃ a, v = .ref a := by
    cases d with
    | lst m xs =>
      cases m with
      | false => exact let ⟨a, _, e, _⟩ := r; ⟨a, e⟩
      | true => exact let ⟨a, _, _, e, _⟩ := r; ⟨a, e⟩
    | tup xs => exact let ⟨a, _, e, _⟩ := r; ⟨a, e⟩
    | _ => exact hc.elim
  exact ⟨a, toPy d, rfl, rep_dp s 64 d hok r, (pyOk_lay 64 d hok).2, h1, h2, hz, q _ ⟨_, fun _ _ => rep_str, w⟩⟩
theorem bl_repr : bootBuiltins "repr" = some (.builtin "repr") := by decide +kernel
theorem hg_of {k : Nat} {A : Around} (hr : Room k A) : A.guards = some [] := hr.gd
end L3
namespace L3
open PySem PySem.Spec L2
open PyProof.Rows hiding St
section
variable {Y : Cy} {a b c : Expr} {eb : DW} {pos : Pos} {i j : Int}
/-- i <= e <= j, both ends written numbers -/
theorem e_chainI (ha : PE Y.X a (fun _ H Q => Q (.int i) H)) (hb : DE Y b eb) (hc : PE Y.X c (fun _ H Q => Q (.int j) H)) (hm : lastMarks [.LtE, .LtE] [b, c] = false := by with_unfolding_all rfl) :
    DE Y (.Compare a [.LtE, .LtE] [b, c] pos) (fun ρ Q => eb ρ fun d ρ1 => gi d fun n => Q (.bl (decide (i ≤ n) && decide (n ≤ j))) ρ1) :=
  ⟨PE.imp (pe_chain op_le op_le ha hb.run hc hm) fun σ H Q ⟨F, R, ρ, B, P, S, hw, hq, hx⟩ => ⟨F, R, ρ, B, _, S, hw, fun v H1 ⟨d, ρ1, F1, A, B1, s, W, r, sl, p, q⟩ => by
    obtain ⟨n, rfl, q⟩ := gi_of q
    obtain ⟨rfl, rfl⟩ := r
    have q : P (.bl (decide (i ≤ n) && decide (n ≤ j))) ρ1 := q
    refine ⟨i, n, rfl, rfl, decide (i ≤ n), rfl, ?_⟩
    by_cases h : i ≤ n
    · rw [decide_eq_true h, Bool.true_and] at q
      rw [decide_eq_true h, if_pos rfl]
      exact ⟨n, j, rfl, rfl, hq _ _ ⟨_, ρ1, F1, fp0, B1, s, W, rep_bl, sl, p, q⟩⟩
    · rw [decide_eq_false h, Bool.false_and] at q
      rw [decide_eq_false h, if_neg Bool.false_ne_true]
      exact hq _ _ ⟨_, ρ1, F1, fp0, B1, s, W, rep_bl, sl, p, q⟩, hx⟩⟩
end
end L3
namespace L3
open PySem PySem.Spec L2
open PyProof.Rows hiding St
/-! products of wide numbers; range(i, j, -1) -/
abbrev oMulW := oI CMulW fun i j => .int (i * j)
theorem op2_mulW {K} : Op2S K (rI CMulW fun i j => .int (i * j)) oMulW := op2_I fun _ _ _ _ => rep_int
def rngM (i : Int) (n : Nat) : List D := (List.range n).map fun t => .int (i - ((t : Nat) : Int))
theorem rngM_len {i : Int} {n : Nat} : (rngM i n).length = n := by unfold rngM; simp
theorem rngM_get {i : Int} {n k : Nat} {d : D} (h : (rngM i n)[k]? = some d) : k < n ∧ d = .int (i - ((k : Nat) : Int)) := by
  unfold rngM at h
  rw [List.getElem?_map] at h
  obtain ⟨t, ht, rfl⟩ := Option.map_eq_some_iff.mp h
  obtain ⟨h1, h2⟩ := List.getElem?_eq_some_iff.mp ht
  rw [List.getElem_range] at h2
  subst h2
  exact ⟨by simpa using h1, rfl⟩
def rng3 (ds : List D) (P : List D → Prop) : Prop := match ds with
  | [.int i, .int j, .int c] => c = -1 ∧ small62 i ∧ small62 j ∧ P (rngM i (i - j).toNat)
  | _ => False
theorem rng3_of {ds : List D} {P : List D → Prop} (h : rng3 ds P) : ∃ i j, ds = [.int i, .int j, .int (-1)] ∧ small62 i ∧ small62 j ∧ P (rngM i (i - j).toNat) := by
  unfold rng3 at h; split at h
  · obtain ⟨rfl, h⟩ := h
    exact ⟨_, _, rfl, h⟩
  · exact h.elim
section
variable {Y : Cy} {F : Hp} {tg a b c : Expr} {el : LE} {p pos : Pos}
theorem walk_rngM {K : PySem.W.Frag} {i : Int} {n : Nat} : WalkD K (Itc i (-1) n) (rngM i n) F := fun F2 H2 s1 s2 => by
  refine ⟨fun t d e => ?_, by show n ≤ _; rw [rngM_len]; exact Nat.le_refl _⟩
  obtain ⟨h1, rfl⟩ := rngM_get e
  refine ⟨h1, fun x H3 ⟨e3, hx⟩ => .inl ⟨e3, ?_, rfl⟩⟩
  rw [hx]
  congr 1
  omega
theorem i_rng3 (ha : DA Y [a, b, c] el) (hm : Y.X.mg "range" = none) (hg : Gl Y.X "range" := by rfl) (hs : starEach [a, b, c] Y.X.env = (false, eval a Y.X.env) :: starEach [b, c] Y.X.env := by rfl) (hpl : (backTo pos (starEach [b, c] Y.X.env)).any (·.1) = false := by rfl) :
    DI Y tg (.Call (.Name "range" p) [a, b, c] [] pos) (fun ρ P => el ρ fun ds ρ1 => rng3 ds fun xs => P xs ρ1) :=
  ⟨PI.imp (pi_range3 hg hm ha.run hs hpl) fun σ H Q ⟨F, R, ρ, B, P, S, hw, hq, hx⟩ => ⟨F, R, ρ, B, _, S, hw, fun vs H1 ⟨ds, ρ1, F1, A, B1, s, W, r, sl, p, q⟩ => by
    obtain ⟨i, j, rfl, hi, hj, q⟩ := rng3_of q
    obtain ⟨v, vr, B2, C2, ev, ⟨rfl, _⟩, ⟨v2, vr2, B3, C3, ev2, ⟨rfl, _⟩, ⟨v3, vr3, B4, C4, ev3, ⟨rfl, _⟩, ⟨e2, _⟩, _⟩, _⟩, _⟩ := r
    subst ev ev2 ev3 e2
    exact ⟨i, j, -1, _, rfl, RgC.neg hi.1 hi.2 hj.1 hj.2, hq _ _ ⟨_, ρ1, F1, B1, s, W, sl, p.mono fun a => by unfold fpA; omega, walk_rngM, q⟩⟩, hx⟩⟩
end
end L3
namespace DaS
open PySem PySem.Spec PyProof.Rows L2
/-- list(text) -/
def rListS : List V → Hp → VK → Prop := fun vs H Q => ∃ x : Str, vs = [.str x] ∧ x.cps.size ≤ sizeLine ∧ ∀ p, H p = none → Q (.ref p) (upd H p (.lst (x.cps.toList.map fun c => V.str ⟨#[c]⟩)))
theorem cr_listS {X : Cx} (hc : X.calm = true) : CallR X (.type "list") rListS := by
  intro pins s σ H vs us Q I r h
  obtain ⟨x, rfl, hz, q⟩ := h
  obtain ⟨u, rfl, t, rfl⟩ := vals1 r
  refine call_list_str (I.ok.hd hc) x t (fun h' tk acc' c' kp e hi => ?_) hz
  have hv : Vals (x.cps.toList.map fun c => V.str ⟨#[c]⟩) acc'.toList := by
    have key : ∀ (us : List Value) (cs : List Nat), us.length = cs.length → (∀ (j : Nat) (v : Value), us[j]? = some v → ∃ c u, cs[j]? = some c ∧ v = Value.str ⟨#[c]⟩ u) → Vals (cs.map fun c => V.str ⟨#[c]⟩) us := by
      intro us
      induction us with
      | nil => intro cs hl _; cases cs with
        | nil => exact .nil
        | cons => simp at hl
      | cons v us ih => intro cs hl h; cases cs with
        | nil => simp at hl
        | cons c cs =>
          obtain ⟨c', u, e1, e2⟩ := h 0 v rfl
          have e1' : c = c' := by simpa using e1
          subst e1'
          exact .cons ⟨u, e2⟩ (ih cs (by simpa using hl) fun j w hw => h (j + 1) w (by simpa using hw))
    refine key _ _ (by simpa using hi.1) fun j v hv => ?_
    obtain ⟨c, u, e1, e2⟩ := hi.2 j v (by simpa using hv)
    exact ⟨c, u, by simpa using e1, e2⟩
  exact ⟨.ref s.heap.objs.size, upd H s.heap.objs.size (.lst (x.cps.toList.map fun c => V.str ⟨#[c]⟩)), I.laid (t' := tk) kp (Nat.le_refl _) (show ObjOk X.prog X.w _ h' _ (.lst _) from ⟨by simpa using hz, acc'.toList, c', hv, by simpa using e⟩), rfl, q _ (I.hok.fresh (Nat.le_refl _))⟩
end DaS
namespace L3
open PySem PySem.Spec L2
open PyProof.Rows hiding St
def oListS (ds : List D) (P : D → Prop) : Prop := one ds fun d => match d with
  | .str x => x.length ≤ sizeLine ∧ P (.lst true (signs x))
  | _ => False
theorem reps_signs {K : PySem.W.Frag} {F H : Hp} : ∀ cs : List Nat, Reps K F H (cs.map fun c => D.str ⟨#[c]⟩) (cs.map fun c => V.str ⟨#[c]⟩) fp0
  | [] => ⟨rfl, rfl⟩
  | c :: cs => ⟨_, _, fp0, fp0, rfl, rep_str, reps_signs cs, fpA_0l.symm⟩
theorem opn_listS {K} : OpNF K DaS.rListS oListS := fun {F R H G vs ds P Q} W ow S b w q => by
  obtain ⟨d, rfl, w⟩ := one_of w
  obtain ⟨v, vr, rfl, ⟨A, r, l⟩, rfl⟩ := b
  cases d with
  | str x =>
    obtain ⟨rfl, _⟩ := r
    refine ⟨x, rfl, w.1, fun n hn => ?_⟩
    have hfz : fzs (signs x) = true := by
      unfold signs
      induction x.cps.toList with
      | nil => rfl
      | cons c cs ih =>
        show (fz (D.str ⟨#[c]⟩) && fzs (cs.map fun c => D.str ⟨#[c]⟩)) = true
        rw [ih]; rfl
    obtain ⟨F', A', s, k', W', rd, p'⟩ := new_lst W ow S hn (reps_signs (K := K) (F := F) (H := H) x.cps.toList) hfz
    exact q _ _ ⟨_, F', A', s, k', W', rd, p', w.2⟩
  | _ => exact w.elim
end L3
namespace DaS
open PySem PySem.Spec PyProof.Rows L2
def repS (z : Str) (n : Nat) : Str := ⟨(List.replicate n z.cps).foldl (· ++ ·) #[]⟩
theorem fold_app : ∀ (n : Nat) (a z : Array Nat), ((List.replicate n z).foldl (· ++ ·) a).size = a.size + n * z.size
  | 0, a, z => by simp
  | n + 1, a, z => by rw [List.replicate_succ, List.foldl_cons, fold_app n (a ++ z) z, Array.size_append, Nat.add_mul]; omega
theorem repS_len (z : Str) (n : Nat) : (repS z n).length = n * z.length := by
  show ((List.replicate n z.cps).foldl (· ++ ·) #[]).size = _
  rw [fold_app]
  show 0 + n * z.cps.size = n * z.cps.size
  omega
/-- a text times a number -/
def rMulS : R2 := fun x y H Q => ∃ (z : Str) (n : Nat), x = .str z ∧ y = .int ((n : Nat) : Int) ∧ n ≤ 1000000 ∧ z.length ≤ 1000 ∧ z.length * n ≤ 1000000 ∧ Q (.str (repS z n)) H
theorem op_mulS {X : Cx} : OpR X (binaryOp .Mult) rMulS := by
  intro pins s σ H x y v u Q I rx ry h
  obtain ⟨z, n, rfl, rfl, h1, h2, h3, q⟩ := h
  obtain ⟨t, rfl⟩ := rx
  obtain ⟨t', rfl⟩ := ry
  refine PySem.P.mul_str (by simp; omega) (fun a b => ?_) (fun a b => ?_) ?_
  · have hn : 0 < n := by omega
    have hz : ((z.length : Nat) : Int) ≤ 1000 := by omega
    have hd : (1000 : Int) ≤ (2 ^ 63 - 1) / ((n : Nat) : Int) := by
      rw [Int.le_ediv_iff_mul_le (by omega)]
      omega
    omega
  · unfold Builtin.Str.tooLong
    rw [Int.toNat_natCast]
    have : (1000000 : Nat) ≤ sizeLine := by decide
    simp
    omega
  · have hfin : ∀ (s' : Shared) (t : Tok), Inv X pins σ H s' → EP X pins σ Q (.str (repS z n) t) s' := fun s' t I' => ⟨.str (repS z n), H, I', ⟨t, rfl⟩, q⟩
    by_cases c1 : ((n : Nat) : Int) < 1
    · have hn : n = 0 := by omega
      subst hn
      rw [if_pos c1]
      exact ⟨by decide, hfin _ _ (I.tok _)⟩
    · rw [if_neg c1]
      split
      · rename_i c2
        have e : repS z n = z := by
          simp at c2
          rcases c2 with c2 | c2
          · have hn : n = 1 := by omega
            subst hn
            show (⟨#[] ++ z.cps⟩ : Str) = z
            simp
          · have hl : (repS z n).length = 0 := by rw [repS_len, c2]; omega
            have h1 : (repS z n).cps = #[] := Array.size_eq_zero_iff.mp hl
            have h2 : z.cps = #[] := Array.size_eq_zero_iff.mp c2
            cases z
            simp only [Str.mk.injEq] at *
            rw [show repS _ n = ⟨(repS _ n).cps⟩ from rfl, h1, h2]
        have := hfin s t I
        rw [e] at this
        exact this
      · rw [Int.toNat_natCast]
        exact ⟨by have := repS_len z n; have h5 : (1000000 : Nat) ≤ sizeLine := by decide
                  show (repS z n).length ≤ sizeLine
                  rw [this, Nat.mul_comm]; omega, hfin _ _ (I.tok _)⟩
end DaS
namespace L3
open PySem PySem.Spec L2
open PyProof.Rows hiding St
def oMulS (d1 d2 : D) (P : D → Prop) : Prop := match d1, d2 with
  | .str z, .int i => 0 ≤ i ∧ i ≤ 1000000 ∧ z.length ≤ 1000 ∧ z.length * i.toNat ≤ 1000000 ∧ P (.str (DaS.repS z i.toNat))
  | _, _ => False
theorem op2_mulS {K} : Op2S K DaS.rMulS oMulS := fun {F H A1 A2 x y d1 d2 P Q} s r1 r2 w q => by
  cases d1 with
  | str z => cases d2 with
    | int i =>
      obtain ⟨rfl, _⟩ := r1
      obtain ⟨rfl, _⟩ := r2
      obtain ⟨a, b, c, d, e⟩ := w
      exact ⟨z, i.toNat, rfl, by rw [Int.toNat_of_nonneg a], by omega, c, d, q _ ⟨_, fun _ _ => rep_str, e⟩⟩
    | _ => exact w.elim
  | _ => cases d2 <;> exact w.elim
end L3
namespace L2
open PySem PySem.Spec PyProof.Rows
/-! a dict walked: it is locked behind the reading of it, and unlocked at every end -/
section
variable {X : Cx} {tg e : Expr} {td : TE}
def NoFz (X0 : Hp) (d : Addr) : Prop := ∀ o' u', X0 d ≠ some (.frz o' u')
def KeysL (X0 : Hp) (x : V) (H1 : Hp) (R : It → Hp → Prop) : Prop := ∃ d, x = .ref d ∧
  ((∃ kvs, H1 d = some (.dK kvs) ∧ ∀ o, NoFz X0 d → R (Itk d o kvs) (upd H1 d (.frz o (.dK kvs)))) ∨ (∃ kvs, H1 d = some (.dT kvs) ∧ ∀ o, NoFz X0 d → R (Itkt d o kvs) (upd H1 d (.frz o (.dT kvs)))) ∨
   (∃ o kvs, H1 d = some (.frz o (.dK kvs)) ∧ R (Itk d o kvs) H1) ∨ ∃ o kvs, H1 d = some (.frz o (.dT kvs)) ∧ R (Itkt d o kvs) H1)
def iKeysL (X0 : Hp) (td : TE) : TI := fun σ H R => td σ H fun x H1 => KeysL X0 x H1 R
theorem pi_keysL (he : PE X e td) : PI X tg e (iKeysL X.H_0 td) := by
  refine ⟨fun pins s σ H R I h => ?_⟩
  refine thn (he.run pins s σ H _ I h) fun u s1 ⟨x, H1, I1, rx, d, ex, q⟩ => ?_
  subst ex
  obtain rfl : u = Value.ref d := rx
  have goK : ∀ {H2 : Hp} {o kvs}, Inv X pins σ H2 s1 → H2 d = some (.frz o (.dK kvs)) → R (Itk d o kvs) H2 → wpAny (model X.prog X.w) X.A (pyIter (.ref d)) (PIE X pins σ tg R) X.xe s1 := fun {H2 o kvs} I1 hd q => by
    obtain ⟨hs, hgd, hx, es, ep, vs, hdt, hsz, kv, hm⟩ := I1.frzK hd
    refine iter_keys hs hgd hx hdt (pi_one (tk := s1.toks) I1 _ (turn_keys _ hdt) ⟨_, Heap.get?_push_size _ rfl, rfl, ?_⟩ q)
    rw [hsz] <;> rfl
  have goT : ∀ {H2 : Hp} {o kvs}, Inv X pins σ H2 s1 → H2 d = some (.frz o (.dT kvs)) → R (Itkt d o kvs) H2 → wpAny (model X.prog X.w) X.A (pyIter (.ref d)) (PIE X pins σ tg R) X.xe s1 := fun {H2 o kvs} I1 hd q => by
    obtain ⟨hs, hgd, hx, es, ep, hdt, hsz, ent⟩ := I1.frzT hd
    refine iter_keys hs hgd hx hdt (pi_one (tk := s1.toks) I1 _ (turn_keysT _ hdt) ⟨_, Heap.get?_push_size _ rfl, rfl, ?_⟩ q)
    rw [hsz] <;> rfl
  rcases q with ⟨kvs, hd, q⟩ | ⟨kvs, hd, q⟩ | ⟨o, kvs, hd, q⟩ | ⟨o, kvs, hd, q⟩
  · obtain ⟨od, I2⟩ := I1.lock hd trivial
    exact goK I2 upd_same (q od (I1.nofrz hd trivial))
  · obtain ⟨od, I2⟩ := I1.lock hd trivial
    exact goT I2 upd_same (q od (I1.nofrz hd trivial))
  · exact goK I1 hd q
  · exact goT I1 hd q
def UnlS (X0 : Hp) (P : St → Hp → Prop) : St → Hp → Prop := fun σ H => P σ H ∨ ∃ d od u, H d = some (.frz od u) ∧ NoFz X0 d ∧ P σ (upd H d u)
def UnlV (X0 : Hp) (P : VK) : VK := fun v H => P v H ∨ ∃ d od u, H d = some (.frz od u) ∧ NoFz X0 d ∧ P v (upd H d u)
def UnlE (X0 : Hp) (D : Ends) : Ends := { nx := UnlS X0 D.nx, rt := UnlV X0 D.rt, bk := UnlS X0 D.bk, ct := UnlS X0 D.ct }
theorem ps_unl {st : Stmt} {t : TS} (h : PS X st t) : PS X st (fun D σ H => t (UnlE X.H_0 D) σ H) := by
  refine ⟨fun pins s σ H D I hw => ?_⟩
  refine thn (h.run pins s σ _ _ I hw) fun f s1 q => ?_
  cases f with
  | next =>
    obtain ⟨σ', H', I2, q⟩ := q
    rcases q with q | ⟨d, od, u, e, hn, q⟩
    · exact ⟨σ', H', I2, q⟩
    · exact ⟨σ', _, I2.unlock e hn, q⟩
  | brk =>
    obtain ⟨σ', H', I2, q⟩ := q
    rcases q with q | ⟨d, od, u, e, hn, q⟩
    · exact ⟨σ', H', I2, q⟩
    · exact ⟨σ', _, I2.unlock e hn, q⟩
  | cont =>
    obtain ⟨σ', H', I2, q⟩ := q
    rcases q with q | ⟨d, od, u, e, hn, q⟩
    · exact ⟨σ', H', I2, q⟩
    · exact ⟨σ', _, I2.unlock e hn, q⟩
  | ret v =>
    obtain ⟨x, σ', H', I2, r, q⟩ := q
    rcases q with q | ⟨d, od, u, e, hn, q⟩
    · exact ⟨x, σ', H', I2, r, q⟩
    · exact ⟨x, σ', _, I2.unlock e hn, r, q⟩
theorem pe_unl {t : TE} (h : PE X e t) : PE X e (fun σ H Q => t σ H (UnlV X.H_0 Q)) := by
  refine ⟨fun pins s σ H Q I hw => ?_⟩
  refine thn (h.run pins s σ _ _ I hw) fun v s1 ⟨x, H1, I2, r, q⟩ => ?_
  rcases q with q | ⟨d, od, u, e, hn, q⟩
  · exact ⟨x, H1, I2, r, q⟩
  · exact ⟨x, _, I2.unlock e hn, r, q⟩
end
end L2
namespace L3
open PySem PySem.Spec L2
open PyProof.Rows hiding St
section
variable {K : PySem.W.Frag} {F F' H H' : Hp}
/-- another heap that tells the same of what is frozen -/
structure SameR (K : PySem.W.Frag) (F F' : Hp) : Prop where
  t : ∀ p vs, F p = some (.tup vs) → F' p = some (.tup vs)
  l : ∀ p vs, F p = some (.lst vs) → F' p = some (.lst vs)
  d : ∀ p t o vs, DicO t o vs → Rd F p o → Rd F' p o
  s : ∀ p xs, SqL K F p xs → SqL K F' p xs
mutual
theorem rep_rel (s : SameR K F F') : ∀ (d : D) {v : V} {A : FP}, (∀ a, A a ≠ 0 → H' a = H a) → Rep K F H d v A → Rep K F' H' d v A
  | .non, _, _, _, r => r
  | .bl _, _, _, _, r => r
  | .int _, _, _, _, r => r
  | .str _, _, _, _, r => r
  | .gone, _, _, _, r => r
  | .tup xs, _, _, k, ⟨p, vs, e, h, r⟩ => ⟨p, vs, e, s.t _ _ h, reps_rel s xs k r⟩
  | .scr xs, _, _, k, ⟨p, e, h, z⟩ => ⟨p, e, s.s _ _ h, z⟩
  | .lst false xs, _, _, k, ⟨p, vs, e, h, r⟩ => ⟨p, vs, e, s.l _ _ h, reps_rel s xs k r⟩
  | .lst true xs, _, _, k, ⟨p, vs, B, e, h, r, z⟩ => ⟨p, vs, B, e, by rw [k p (by rw [z]; exact fpA_r (fp1_self p))]; exact h, reps_rel s xs (fun a q => k a (by rw [z]; exact fpA_l q)) r, z⟩
  | .dic .fr t kvs, _, _, k, ⟨p, o, vs, e, h, g, r⟩ => ⟨p, o, vs, e, s.d _ _ _ _ g h, g, repk_rel s kvs k r⟩
  | .dic .lk t kvs, _, _, k, ⟨p, od, o, vs, B, e, h, g, r, z⟩ => ⟨p, od, o, vs, B, e, by rw [k p (by rw [z]; exact fpA_r (fp1_self p))]; exact h, g, repk_rel s kvs (fun a q => k a (by rw [z]; exact fpA_l q)) r, z⟩
  | .dic .ow t kvs, _, _, k, ⟨p, o, vs, B, e, h, g, r, z⟩ => ⟨p, o, vs, B, e, by rw [k p (by rw [z]; exact fpA_r (fp1_self p))]; exact h, g, repk_rel s kvs (fun a q => k a (by rw [z]; exact fpA_l q)) r, z⟩
  | .ins C fs, _, _, k, ⟨c, p, dx, vs, B, hc, e, h, hd, ne, r, z⟩ => ⟨c, p, dx, vs, B, hc, e, by rw [k p (by rw [z]; exact fpA_r (fpA_l (fp1_self p)))]; exact h,
      by rw [k dx (by rw [z]; exact fpA_r (fpA_r (fp1_self dx)))]; exact hd, ne, repf_rel s fs (fun a q => k a (by rw [z]; exact fpA_l q)) r, z⟩
theorem reps_rel (s : SameR K F F') : ∀ (ds : List D) {vs : List V} {A : FP}, (∀ a, A a ≠ 0 → H' a = H a) → Reps K F H ds vs A → Reps K F' H' ds vs A
  | [], _, _, _, r => r
  | x :: xs, _, _, k, ⟨v, vr, B, C, e, r, q, z⟩ => ⟨v, vr, B, C, e, rep_rel s x (fun a q => k a (by rw [z]; exact fpA_l q)) r, reps_rel s xs (fun a q => k a (by rw [z]; exact fpA_r q)) q, z⟩
theorem repk_rel (s : SameR K F F') : ∀ (ds : List (KD × D)) {vs : List (KD × V)} {A : FP}, (∀ a, A a ≠ 0 → H' a = H a) → Repk K F H ds vs A → Repk K F' H' ds vs A
  | [], _, _, _, r => r
  | (_, x) :: xs, _, _, k, ⟨v, vr, B, C, e, r, q, z⟩ => ⟨v, vr, B, C, e, rep_rel s x (fun a q => k a (by rw [z]; exact fpA_l q)) r, repk_rel s xs (fun a q => k a (by rw [z]; exact fpA_r q)) q, z⟩
theorem repf_rel (s : SameR K F F') : ∀ (ds : List (Str × D)) {vs : List (Str × V)} {A : FP}, (∀ a, A a ≠ 0 → H' a = H a) → Repf K F H ds vs A → Repf K F' H' ds vs A
  | [], _, _, _, r => r
  | (_, x) :: xs, _, _, k, ⟨v, vr, B, C, e, r, q, z⟩ => ⟨v, vr, B, C, e, rep_rel s x (fun a q => k a (by rw [z]; exact fpA_l q)) r, repf_rel s xs (fun a q => k a (by rw [z]; exact fpA_r q)) q, z⟩
end
theorem slr_rel (s : SameR K F F') : ∀ {ρ : Env} {σ : St} {A : FP}, (∀ a, A a ≠ 0 → H' a = H a) → SlR K F H ρ σ A → SlR K F' H' ρ σ A
  | [], _, _, _, r => r
  | none :: ρ, _, _, k, ⟨v, σr, e, r⟩ => ⟨v, σr, e, slr_rel s k r⟩
  | some d :: ρ, _, _, k, ⟨v, σr, B, C, e, r, q, z⟩ => ⟨v, σr, B, C, e, rep_rel s d (fun a q => k a (by rw [z]; exact fpA_l q)) r, slr_rel s (fun a q => k a (by rw [z]; exact fpA_r q)) q, z⟩
/-- a dict's object -/
def IsDic (u : HO) : Prop := ∃ t vs, DicO t u vs
theorem IsDic.mut {u : HO} (h : IsDic u) : Mut (some u) := by
  obtain ⟨t, vs, h⟩ := h
  cases t <;> obtain ⟨_, l, rfl, _⟩ := h <;> trivial
theorem dicO_nf {t : Kd} {od : Obj} {u : HO} {vs} : ¬ DicO t (.frz od u) vs := fun h => by
  cases t <;> obtain ⟨_, l, e, _⟩ := h <;> cases e
theorem same_lock {d : Addr} {u : HO} {od : Obj} (hu : IsDic u) (h : F d = some u) : SameR K F (upd F d (.frz od u)) := by
  have m := hu.mut
  have sT : ∀ p vs, F p = some (.tup vs) → p ≠ d := fun p vs e z => by subst z; rw [h] at e; cases e; exact m
  have sL : ∀ p vs, F p = some (.lst vs) → p ≠ d := fun p vs e z => by
    subst z; rw [h] at e; cases e
    obtain ⟨t, vs, g⟩ := hu
    cases t <;> obtain ⟨_, l, e, _⟩ := g <;> cases e
  refine ⟨fun p vs e => by rw [upd_ne (sT p vs e)]; exact e, fun p vs e => by rw [upd_ne (sL p vs e)]; exact e, fun p t o vs g r => ?_, fun p xs r => ?_⟩
  · by_cases hp : p = d
    · subst hp
      rcases r with r | ⟨o', r⟩
      · rw [h] at r; cases r; exact .inr ⟨od, upd_same⟩
      · rw [h] at r; cases r; exact absurd hu (fun ⟨t, vs, g⟩ => dicO_nf g)
    · rcases r with r | ⟨o', r⟩
      · exact .inl (by rw [upd_ne hp]; exact r)
      · exact .inr ⟨o', by rw [upd_ne hp]; exact r⟩
  · rcases r with (r | ⟨o', r⟩) | r
    · exact .inl (.inl (by rw [upd_ne (sL p _ r)]; exact r))
    · refine .inl (.inr ⟨o', ?_⟩)
      rw [upd_ne]; exact r
      rintro rfl
      rw [h] at r; cases r
      exact absurd hu (fun ⟨t, vs, g⟩ => dicO_nf g)
    · exact .inr r
theorem same_unlock {d : Addr} {u : HO} {od : Obj} (hu : IsDic u) (h : F d = some (.frz od u)) : SameR K F (upd F d u) := by
  refine ⟨fun p vs e => ?_, fun p vs e => ?_, fun p t o vs g r => ?_, fun p xs r => ?_⟩
  · rw [upd_ne]; exact e
    rintro rfl; rw [h] at e; cases e
  · rw [upd_ne]; exact e
    rintro rfl; rw [h] at e; cases e
  · by_cases hp : p = d
    · subst hp
      rcases r with r | ⟨o', r⟩
      · rw [h] at r; cases r; exact absurd g dicO_nf
      · rw [h] at r; cases r; exact .inl upd_same
    · rcases r with r | ⟨o', r⟩
      · exact .inl (by rw [upd_ne hp]; exact r)
      · exact .inr ⟨o', by rw [upd_ne hp]; exact r⟩
  · have hp : p ≠ d ∨ ∃ o its n, K.lookup p = some o ∧ o.cls = .type "list" ∧ o.dict = none ∧ o.data = .seq its n ∧ its.size ≤ sizeLine ∧ Vals xs its.toList := by
      rcases r with (r | ⟨o', r⟩) | r
      · left; rintro rfl; rw [h] at r; cases r
      · left; rintro rfl; rw [h] at r; cases r
        obtain ⟨t, vs, g⟩ := hu
        cases t <;> obtain ⟨_, l, e, _⟩ := g <;> cases e
      · exact .inr r
    rcases hp with hp | hp
    · rcases r with (r | ⟨o', r⟩) | r
      · exact .inl (.inl (by rw [upd_ne hp]; exact r))
      · exact .inl (.inr ⟨o', by rw [upd_ne hp]; exact r⟩)
      · exact .inr r
    · exact .inr hp
end
/-! what a walk tells -/
def keyDs (kvs : List (KD × D)) : List D := kvs.map fun p => kdD p.1
def dicKeys (d : D) (P : List D → Prop) : Prop := match d with
  | .dic .fr _ kvs => P (keyDs kvs)
  | .dic .ow _ kvs => P (keyDs kvs)
  | _ => False
section
variable {Y : Cy} {F F1 R H H1 : Hp} {ρ : Env} {σ σ1 : St} {A B : FP} {K : En} {Z : Ends} {e a b c tg : Expr} {ew : DW} {iw : IW} {gw : GT} {tw : TW} {w u : SW} {body : List Stmt} {pos spos : Pos}
theorem repk_keys {K : PySem.W.Frag} {F H : Hp} : ∀ {ds : List (KD × D)} {vs : List (KD × V)} {A : FP}, Repk K F H ds vs A → vs.map (·.1) = ds.map (·.1)
  | [], _, _, ⟨e, _⟩ => by rw [e]; rfl
  | (k, x) :: xs, _, _, ⟨v, vr, B, C, e, _, r, _⟩ => by rw [e, List.map_cons, List.map_cons, repk_keys r]
theorem frzk_keys : ∀ kvs : List (KD × D), (frzk kvs).map (·.1) = kvs.map (·.1)
  | [] => rfl
  | (k, d) :: kvs => by simp [frzk, frzk_keys kvs]
theorem kd_key (k : Key) : ∀ (F H : Hp) (K : PySem.W.Frag), Rep K F H (kdD (keyKD k)) (kV k) fp0 := fun F H K => by
  cases k <;> exact ⟨rfl, rfl⟩
theorem kds_key (F H : Hp) (K : PySem.W.Frag) : ∀ ks : List Key, Reps K F H ((ks.map keyKD).map fun k => match k with
    | .int i => .int i
    | .str x => .str x
    | _ => .non) (ks.map kV) fp0
  | [] => ⟨rfl, rfl⟩
  | k :: ks => ⟨kV k, ks.map kV, fp0, fp0, rfl, by cases k <;> exact ⟨rfl, rfl⟩, kds_key F H K ks, fpA_0l.symm⟩
theorem walk_keysK {K : PySem.W.Frag} {d : Addr} {o : Obj} {l : List (Key × V)} {F : Hp} {kvs : List (KD × D)} (h : F d = some (.frz o (.dK l))) (hk : kvs.map (·.1) = l.map fun p => keyKD p.1) : WalkD K (Itk d o l) (keyDs kvs) F := fun F2 H2 s1 s2 => by
  have e2 := s2 _ _ (s1 _ _ h)
  have hl : kvs.length = l.length := by simpa using congrArg List.length hk
  have hks : keyDs kvs = l.map fun p => kdD (keyKD p.1) := by
    unfold keyDs
    rw [show (fun p : KD × D => kdD p.1) = kdD ∘ (·.1) from rfl, ← List.map_map, hk, List.map_map]; rfl
  refine ⟨fun i d e => ?_, ⟨e2, by rw [hks]; simp⟩⟩
  rw [hks, List.getElem?_map] at e
  obtain ⟨p, hp, rfl⟩ := Option.map_eq_some_iff.mp e
  refine ⟨⟨e2, (List.getElem?_eq_some_iff.mp hp).1⟩, fun x H3 ⟨e3, k, v, h1, h2⟩ => .inl ⟨e3, ?_⟩⟩
  rw [hp] at h1; cases h1
  rw [h2]
  exact kd_key _ _ _ _
theorem walk_keysT {K : PySem.W.Frag} {d : Addr} {o : Obj} {l : List (List Key × V)} {F : Hp} {kvs : List (KD × D)} (h : F d = some (.frz o (.dT l))) (hk : kvs.map (·.1) = l.map fun p => KD.tup (p.1.map keyKD)) : WalkD K (Itkt d o l) (keyDs kvs) F := fun F2 H2 s1 s2 => by
  have e2 := s2 _ _ (s1 _ _ h)
  have hks : keyDs kvs = l.map fun p => kdD (KD.tup (p.1.map keyKD)) := by
    unfold keyDs
    rw [show (fun p : KD × D => kdD p.1) = kdD ∘ (·.1) from rfl, ← List.map_map, hk, List.map_map]; rfl
  refine ⟨fun i d e => ?_, ⟨e2, by rw [hks]; simp⟩⟩
  rw [hks, List.getElem?_map] at e
  obtain ⟨p, hp, rfl⟩ := Option.map_eq_some_iff.mp e
  refine ⟨⟨e2, (List.getElem?_eq_some_iff.mp hp).1⟩, fun x H3 ⟨e3, k, v, q, h1, h2, h3⟩ => .inr (.inr ⟨q, k.map kV, e3, h3, ?_⟩)⟩
  rw [hp] at h1; cases h1
  rw [h2]
  exact ⟨q, _, rfl, upd_same, kds_key _ _ _ _⟩
/-- behind the unlocking -/
theorem unl_back {F F1 R H' : Hp} {d : Addr} {u : HO} {od : Obj} {K : PySem.W.Frag} (hF : F d = some u) (s : Same (upd F d (.frz od u)) F1) (W : Wd F1 R H') :
    F1 d = some (.frz od u) ∧ H' d = some (.frz od u) ∧ Same F (upd F1 d u) ∧ Wd (upd F1 d u) R (upd H' d u) ∧ R d = none := by
  have h1 := s _ _ (upd_same (H := F) (a := d) (o := .frz od u))
  have h2 := W.f _ _ h1
  have hR : R d = none := by
    cases q : R d with
    | none => rfl
    | some o => have := (W.a _ _ q).1; rw [h1] at this; cases this
  refine ⟨h1, h2, fun b o e => ?_, ⟨same_updm W.f, fun b o e => ?_, fun b o e => ?_⟩, hR⟩
  · by_cases q : b = d
    · subst q; rw [hF] at e; cases e; exact upd_same
    · rw [upd_ne q]; exact s _ _ (by rw [upd_ne q]; exact e)
  · have q : b ≠ d := ne_of_none e hR
    rw [upd_ne q]; exact W.r _ _ e
  · have q : b ≠ d := ne_of_none e hR
    rw [upd_ne q]; exact W.a _ _ e
theorem sep_unl {F1 R : Hp} {d : Addr} {u w : HO} {B : FP} (h : F1 d = some w) (p : Sep F1 R B) : Sep (upd F1 d u) R B ∧ ∀ a, B a ≠ 0 → a ≠ d := by
  have ne : ∀ a, B a ≠ 0 → a ≠ d := fun a n z => by
    subst z
    have := ((p a).2 n).1
    rw [h] at this; cases this
  exact ⟨fun a => ⟨(p a).1, fun n => by rw [upd_ne (ne a n)]; exact (p a).2 n⟩, ne⟩
theorem stp_unl {P : Env → Prop} {σ' : St} {H' : Hp} {d : Addr} {u : HO} {od : Obj} (hu : IsDic u) (hF : F d = some u) (z : StP Y (upd F d (.frz od u)) R σ P σ' H') : H' d = some (.frz od u) ∧ StP Y F R σ P σ' (upd H' d u) := by
  obtain ⟨ρ', F1, B', s, W, sl, p, g, q⟩ := z
  obtain ⟨h1, h2, s2, W2, hR⟩ := unl_back (K := Y.X.K) hF s W
  obtain ⟨p2, ne⟩ := sep_unl (u := u) h1 p
  exact ⟨h2, ρ', _, B', s2, W2, slr_rel (same_unlock hu h1) (fun a n => upd_ne (ne a n)) sl, p2, g, q⟩
theorem evo_unl {P : D → Env → Prop} {v : V} {H' : Hp} {d : Addr} {u : HO} {od : Obj} (hu : IsDic u) (hF : F d = some u) (z : EvO Y (upd F d (.frz od u)) R σ P v H') : H' d = some (.frz od u) ∧ EvO Y F R σ P v (upd H' d u) := by
  obtain ⟨dd, ρ', F1, A', B', s, W, r, sl, p, q⟩ := z
  obtain ⟨h1, h2, s2, W2, hR⟩ := unl_back (K := Y.X.K) hF s W
  obtain ⟨p2, ne⟩ := sep_unl (u := u) h1 p
  exact ⟨h2, dd, ρ', _, A', B', s2, W2, rep_rel (same_unlock hu h1) dd (fun a n => upd_ne (ne a (fpA_l n))) r, slr_rel (same_unlock hu h1) (fun a n => upd_ne (ne a (fpA_r n))) sl, p2, q⟩
theorem goes_unl {d : Addr} {u : HO} {od : Obj} (hex : ∀ c ρ, ¬ Y.ex c ρ) (hu : IsDic u) (hF : F d = some u) (hn : NoFz Y.X.H_0 d) (G : Goes Y F R σ K Z) : Goes Y (upd F d (.frz od u)) R σ K (UnlE Y.X.H_0 Z) := by
  have st : ∀ {P : Env → Prop} {N : St → Hp → Prop}, (∀ σ' H', StP Y F R σ P σ' H' → N σ' H') → ∀ σ' H', StP Y (upd F d (.frz od u)) R σ P σ' H' → UnlS Y.X.H_0 N σ' H' := fun {P N} h σ' H' z => by
    obtain ⟨h2, z2⟩ := stp_unl hu hF z
    exact .inr ⟨d, od, u, h2, hn, h _ _ z2⟩
  refine ⟨st G.nx, fun x H' ⟨dx, ρ', σ', F1, A', B', s, W, rx, sl, p, g, q⟩ => ?_, st G.bk, st G.ct, fun c dx σ' H' ⟨ρ', F1, B', s, W, sl, p, g, q⟩ => (hex _ _ q).elim⟩
  obtain ⟨h1, h2, s2, W2, hR⟩ := unl_back (K := Y.X.K) hF s W
  obtain ⟨p2, ne⟩ := sep_unl (u := u) h1 p
  exact .inr ⟨d, od, u, h2, hn, G.rt _ _ ⟨dx, ρ', σ', _, A', B', s2, W2, rep_rel (same_unlock hu h1) dx (fun a n => upd_ne (ne a (fpA_l n))) rx, slr_rel (same_unlock hu h1) (fun a n => upd_ne (ne a (fpA_r n))) sl, p2, g, q⟩⟩
/-- the state locked -/
theorem lock_st {ρ1 : Env} {B1 : FP} {d : Addr} {u : HO} {od : Obj} (hu : IsDic u) (hF : F d = some u) (W : Wd F R H) (sl : SlR Y.X.K F H ρ1 σ B1) (p : Sep F R B1) : Wd (upd F d (.frz od u)) R (upd H d (.frz od u)) ∧ SlR Y.X.K (upd F d (.frz od u)) (upd H d (.frz od u)) ρ1 σ B1 ∧ Sep (upd F d (.frz od u)) R B1 := by
  have hR : R d = none := by
    cases q : R d with
    | none => rfl
    | some o => have := (W.a _ _ q).1; rw [hF] at this; cases this
  obtain ⟨p2, ne⟩ := sep_unl (u := .frz od u) hF p
  refine ⟨⟨same_updm W.f, fun b o e => ?_, fun b o e => ?_⟩, slr_rel (same_lock hu hF) (fun a n => upd_ne (ne a n)) sl, p2⟩
  · have q : b ≠ d := ne_of_none e hR
    rw [upd_ne q]; exact W.r _ _ e
  · have q : b ≠ d := ne_of_none e hR
    rw [upd_ne q]; exact W.a _ _ e
/-- a dict that is read, frozen: how it stands -/
theorem dicKeys_of {d : D} {v : V} {A : FP} {P : List D → Prop} (W : Wd F R H) (r : Rep Y.X.K F H d v A) (sl : SlR Y.X.K F H ρ σ B) (p : Sep F R (fpA A B)) (h : dicKeys d P) : ∃ F2 kvs p0 o t vs, Same F F2 ∧ Wd F2 R H ∧ SlR Y.X.K F2 H ρ σ B ∧ Sep F2 R B ∧ v = .ref p0 ∧ Rd F2 p0 o ∧ DicO t o vs ∧ vs.map (·.1) = kvs.map (·.1) ∧ P (keyDs kvs) := by
  obtain ⟨F2, s2, W2, r2, sl2, p2⟩ := frz_tmp W r sl p
  have core : ∀ t kvs, frz d = .dic .fr t (frzk kvs) → P (keyDs kvs) → ∃ F2 kvs p0 o t vs, Same F F2 ∧ Wd F2 R H ∧ SlR Y.X.K F2 H ρ σ B ∧ Sep F2 R B ∧ v = .ref p0 ∧ Rd F2 p0 o ∧ DicO t o vs ∧ vs.map (·.1) = kvs.map (·.1) ∧ P (keyDs kvs) := fun t kvs ed hP => by
    rw [ed] at r2
    obtain ⟨p0, o, vs, ev, hr, g, rk⟩ := r2
    exact ⟨F2, kvs, p0, o, t, vs, s2, W2, sl2, p2, ev, hr, g, by rw [repk_keys rk, frzk_keys], hP⟩
  cases d with
  | dic m t kvs =>
    cases m with
    | fr => exact core t kvs rfl h
    | ow => exact core t kvs rfl h
    | lk => exact h.elim
  | _ => exact h.elim
theorem keys_go {F2 : Hp} {kvs : List (KD × D)} {p0 : Addr} {o : HO} {t : Kd} {vs : List (KD × V)} {X0 : Hp} {Rz : It → Hp → Prop} (s2 : Same F2 H) (hr : Rd F2 p0 o) (g : DicO t o vs) (hk : vs.map (·.1) = kvs.map (·.1))
    (h1 : ∀ od J, IsDic o → F2 p0 = some o → NoFz X0 p0 → WalkD Y.X.K J (keyDs kvs) (upd F2 p0 (.frz od o)) → Rz J (upd H p0 (.frz od o))) (h2 : ∀ J, WalkD Y.X.K J (keyDs kvs) F2 → Rz J H) :
    KeysL X0 (.ref p0) H Rz := by
  refine ⟨p0, rfl, ?_⟩
  have hu : IsDic o := ⟨t, vs, g⟩
  cases t with
  | k =>
    obtain ⟨nd, l, rfl, el⟩ := g
    have hk2 : kvs.map (·.1) = l.map fun p => keyKD p.1 := by rw [← hk, el, List.map_map]; rfl
    rcases hr with hr | ⟨od, hr⟩
    · exact .inl ⟨l, s2 _ _ hr, fun od hn => h1 od _ hu hr hn (walk_keysK upd_same hk2)⟩
    · exact .inr (.inr (.inl ⟨od, l, s2 _ _ hr, h2 _ (walk_keysK hr hk2)⟩))
  | t =>
    obtain ⟨nd, l, rfl, el⟩ := g
    have hk2 : kvs.map (·.1) = l.map fun p => KD.tup (p.1.map keyKD) := by rw [← hk, el, List.map_map]; rfl
    rcases hr with hr | ⟨od, hr⟩
    · exact .inr (.inl ⟨l, s2 _ _ hr, fun od hn => h1 od _ hu hr hn (walk_keysT upd_same hk2)⟩)
    · exact .inr (.inr (.inr ⟨od, l, s2 _ _ hr, h2 _ (walk_keysT hr hk2)⟩))
theorem goes_in (G : Goes Y F R σ K Z) : Goes Y F R σ K (UnlE Y.X.H_0 Z) := ⟨fun σ' H' z => .inl (G.nx _ _ z), fun σ' H' z => .inl (G.rt _ _ z), fun σ' H' z => .inl (G.bk _ _ z), fun σ' H' z => .inl (G.ct _ _ z), G.ex⟩
/-- for k in d -/
theorem s_forD (hp : PassesOwn (model Y.X.prog Y.X.w) Y.X.A Y.X.env Y.X.xe) (hc : Y.X.calm = true) (hex : ∀ c ρ, ¬ Y.ex c ρ) (h : DE Y e ew) (hg : DGT Y tg gw) (hb : DSs Y body w) (hs : ∀ x, foldedSetIterable e Y.X.env x = pure x := by intro _; rfl) :
    DS Y (.For tg e body [] pos) (fun K ρ => ew ρ fun d ρ1 => dicKeys d fun ds => forD gw w K ds ρ1) :=
  ⟨PS.imp (ps_unl (ps_for hp hc (pi_keysL h.run) hg.run hb.run hs)) fun Z σ H ⟨F, R, ρ, B, K, S, hw, G⟩ => ⟨F, R, ρ, B, _, S, hw, fun v H1 ⟨d, ρ1, F1, A, B1, s, W, r, sl, p, q⟩ => by
    obtain ⟨F2, kvs, p0, o, t, vs, s2, W2, sl2, p2, rfl, hr, g, hk, q2⟩ := dicKeys_of W r sl p q
    have G2 : Goes Y F2 R σ K Z := G.at (s.trans s2) .refl
    refine keys_go (Y := Y) (X0 := Y.X.H_0) W2.f hr g hk (fun od J hu hF hn wk => ?_) (fun J wk => ?_)
    · obtain ⟨W3, sl3, p3⟩ := lock_st (od := od) hu hF W2 sl2 p2
      exact for_core (goes_unl hex hu hF hn G2) (Same.refl _) W3 sl3 p3 (fun F H a b _ => wk F H a b) q2
    · exact for_core (goes_in G2) (Same.refl _) W2 sl2 p2 (fun F H a b _ => wk F H a b) q2, G.ex⟩⟩
def lcD (n : Nat) (vs : List Nat) (ew : DW) (gw : GT) (tw : TW) (xw : DW) : DW := fun ρ Q => ew ρ fun d ρ1 => dicKeys d fun ds => ds.length ≤ sizeLine ∧ ρ1.length ≤ n ∧ compD gw tw xw vs ds (wipeE (coolE ρ1 vs) vs) fun xs ρ2 => Q (.lst true xs) (backE (coolE ρ1 vs) ρ2 vs)
theorem lc_rdD {own : List (Str × Nat)} {n : Nat} {gw : GT} {tw : TW} {xw : DW} {σ : St} {H : Hp} {Q : VK} (h : rdE Y (lcD n (own.map (·.2)) ew gw tw xw) σ H Q) :
    tLc (iKeysL Y.X.H_0 (rdE Y ew)) (rdGT ⟨Y.X, fun _ _ _ _ => False, (List.range n).filter fun i => decide (i ∉ own.map (·.2)), fun _ _ => False⟩ gw) (rdT ⟨Y.X, fun _ _ _ _ => False, (List.range n).filter fun i => decide (i ∉ own.map (·.2)), fun _ _ => False⟩ tw) (rdE ⟨Y.X, fun _ _ _ _ => False, (List.range n).filter fun i => decide (i ∉ own.map (·.2)), fun _ _ => False⟩ xw) (own.map (·.2)) σ H (UnlV Y.X.H_0 Q) := by
  obtain ⟨F, R, ρ, B, P, S, hw, hq, hx⟩ := h
  refine ⟨F, R, ρ, B, _, S, hw, fun v H1 ⟨d, ρ1, F1, A, B1, s, W, r, sl, p, q⟩ => ?_, hx⟩
  obtain ⟨F2, kvs, p0, o, t, vs, s2, W2, sl2, p2, rfl, hr, g, hk, ⟨h1, h2, q2⟩⟩ := dicKeys_of W r sl p q
  have hq2 : ∀ v H', EvO Y F2 R σ P v H' → Q v H' := fun v H' z => hq v H' (z.back (s.trans s2))
  refine keys_go (Y := Y) (X0 := Y.X.H_0) W2.f hr g hk (fun od J hu hF hn wk => ?_) (fun J wk => ?_)
  · obtain ⟨W3, sl3, p3⟩ := lock_st (od := od) hu hF W2 sl2 p2
    refine fun L hL => lc_core (Y := Y) (P := P) (fun v H' z => ?_) (Same.refl _) W3 sl3 p3 (fun F H a b _ => wk F H a b) h1 h2 q2 L hL
    obtain ⟨e2, z2⟩ := evo_unl hu hF z
    exact .inr ⟨p0, od, o, e2, hn, hq2 _ _ z2⟩
  · exact fun L hL => lc_core (Y := Y) (P := P) (fun v H' z => .inl (hq2 _ _ z)) (Same.refl _) W2 sl2 p2 (fun F H a b _ => wk F H a b) h1 h2 q2 L hL
theorem e_lcD {iter elt : Expr} {ifs : List Expr} {scope : Scope} {own : List (Str × Nat)} {n : Nat} {vs : List Nat} {gw : GT} {tw : TW} {xw : DW} (hc : Y.X.calm = true) (hN : Y.X.N.Nodup) (hn : Y.X.N.length = n) (hi : DE Y iter ew) (ok : BlkOk Y.X.N Y.X.env.scope scope own) (hv : own.map (·.2) = vs)
    (hg : ∀ (s : Shared) (H : Hp) (C : Addr) (cl : List (Str × Addr)) (fp : List Addr), DGT (blkY Y n vs s H scope (compEnvC scope cl C Y.X.env) fp) tg gw)
    (ht : ∀ (s : Shared) (H : Hp) (C : Addr) (cl : List (Str × Addr)) (fp : List Addr), DTs (blkY Y n vs s H scope (compEnvC scope cl C Y.X.env) fp) ifs tw)
    (he : ∀ (s : Shared) (H : Hp) (C : Addr) (cl : List (Str × Addr)) (fp : List Addr), DE (blkY Y n vs s H scope (compEnvC scope cl C Y.X.env) fp) elt xw)
    (hs : ∀ x, foldedSetIterable iter Y.X.env x = pure x := by intro _; rfl) :
    DE Y (.ListComp elt [⟨tg, iter, ifs, 0⟩] scope pos) (lcD n vs ew gw tw xw) := by
  subst hv
  let Y0 : Cy := ⟨Y.X, fun _ _ _ _ => False, (List.range n).filter fun i => decide (i ∉ own.map (·.2)), fun _ _ => False⟩
  exact ⟨PE.imp (pe_unl (pe_lc (g := rdGT Y0 gw) (tt := rdT Y0 tw) (te := rdE Y0 xw) hc hN (pi_keysL hi.run) ok (fun s H C cl fp => (hg s H C cl fp).run) (fun s H C cl fp => (ht s H C cl fp).run) (fun s H C cl fp => (he s H C cl fp).run) hs)) fun σ H Q h => lc_rdD h⟩
theorem s_setLcD {i : Nat} {y : Str} {py : Pos} {iter elt : Expr} {ifs : List Expr} {scope : Scope} {own : List (Str × Nat)} {n : Nat} {vs : List Nat} {gw : GT} {tw : TW} {xw : DW} (hc : Y.X.calm = true) (hN : Y.X.N.Nodup) (hn : Y.X.N.length = n) (hi : DE Y iter ew) (ok : BlkOk Y.X.N Y.X.env.scope scope own) (hv : own.map (·.2) = vs)
    (hg : ∀ (s : Shared) (H : Hp) (C : Addr) (cl : List (Str × Addr)) (fp : List Addr), DGT (blkY Y n vs s H scope (compEnvC scope cl C Y.X.env) fp) tg gw)
    (ht : ∀ (s : Shared) (H : Hp) (C : Addr) (cl : List (Str × Addr)) (fp : List Addr), DTs (blkY Y n vs s H scope (compEnvC scope cl C Y.X.env) fp) ifs tw)
    (he : ∀ (s : Shared) (H : Hp) (C : Addr) (cl : List (Str × Addr)) (fp : List Addr), DE (blkY Y n vs s H scope (compEnvC scope cl C Y.X.env) fp) elt xw)
    (hsw : swapsWith (.ListComp elt [⟨tg, iter, ifs, 0⟩] scope pos) (some (.Name y py)) spos.line Y.X.env = pure true)
    (hs : ∀ x, foldedSetIterable iter Y.X.env x = pure x := by intro _; rfl) (hT : i ∉ Y.T := by decide) (hy : Y.X.N[i]? = some y := by rfl) (hyl : Y.X.env.scope.names.lookup y = some .local := by rfl) :
    DS Y (.Assign [.Name y py] (.ListComp elt [⟨tg, iter, ifs, 0⟩] scope pos) spos) (fun K ρ => lcD n vs ew gw tw xw ρ fun d ρ2 => i < ρ2.length ∧ K.nx (ρ2.set i (some d))) := by
  subst hv
  let Y0 : Cy := ⟨Y.X, fun _ _ _ _ => False, (List.range n).filter fun i => decide (i ∉ own.map (·.2)), fun _ _ => False⟩
  refine ⟨PS.imp (ps_unl (ps_setLc (g := rdGT Y0 gw) (tt := rdT Y0 tw) (te := rdE Y0 xw) hc hN hy hyl hsw (pi_keysL hi.run) ok (fun s H C cl fp => (hg s H C cl fp).run) (fun s H C cl fp => (ht s H C cl fp).run) (fun s H C cl fp => (he s H C cl fp).run) hs)) fun Z σ H ⟨F, R, ρ, B, K, S, hw, G⟩ => ?_⟩
  have := lc_rdD (Y := Y) (Q := fun x H1 => gName i x σ H1 Z.nx) (σ := σ) (H := H) ⟨F, R, ρ, B, fun d ρ2 => i < ρ2.length ∧ K.nx (ρ2.set i (some d)), S, hw, fun v H1 ⟨d, ρ1, F1, A, B1, s, W, r, sl, p, q⟩ =>
    G.nx _ _ (StP.at (σ1 := σ) s .refl (st_set hT q.1 W r sl p q.2)), G.ex⟩
  exact this
end
end L3
/-! a told list that is the asker's own: what a def that is handed tuples and texts alone tells as frozen is new, and may be changed -/
namespace L3
open PySem PySem.Spec L2
open PyProof.Rows hiding St
mutual
/-- no list and no dict in it -/
def tz : D → Bool
  | .non => true
  | .bl _ => true
  | .int _ => true
  | .str _ => true
  | .tup xs => tzs xs
  | _ => false
def tzs : List D → Bool
  | [] => true
  | x :: xs => tz x && tzs xs
end
def maskT : Env → Env
  | [] => []
  | none :: ρ => none :: maskT ρ
  | some d :: ρ => (if tz d = true then some d else none) :: maskT ρ
/-- thawed -/
def thawL (d : D) (P : D → Prop) : Prop := match d with
  | .lst _ xs => tzs xs = true ∧ P (.lst true xs)
  | _ => False
def thawD (d : D) (P : D → Prop) : Prop := match d with
  | .tup [a, b] => tz a = true ∧ thawL b fun b' => P (.tup [a, b'])
  | .lst m xs => thawL (.lst m xs) P
  | _ => False
section
variable {K : PySem.W.Frag} {F F' H H' R : Hp}
def SameT (F F' : Hp) : Prop := ∀ p vs, F p = some (.tup vs) → F' p = some (.tup vs)
mutual
theorem tz_rep (s : SameT F F') : ∀ (d : D) {v : V} {A : FP}, tz d = true → Rep K F H d v A → Rep K F' H' d v fp0
  | .non, _, _, _, r => ⟨r.1, rfl⟩
  | .bl _, _, _, _, r => ⟨r.1, rfl⟩
  | .int _, _, _, _, r => ⟨r.1, rfl⟩
  | .str _, _, _, _, r => ⟨r.1, rfl⟩
  | .tup xs, _, _, h, ⟨p, vs, e, g, r⟩ => ⟨p, vs, e, s _ _ g, tzs_reps s xs h r⟩
  | .lst _ _, _, _, h, _ => by simp [tz] at h
  | .dic _ _ _, _, _, h, _ => by simp [tz] at h
  | .ins _ _, _, _, h, _ => by simp [tz] at h
  | .scr _, _, _, h, _ => by simp [tz] at h
  | .gone, _, _, h, _ => by simp [tz] at h
theorem tzs_reps (s : SameT F F') : ∀ (ds : List D) {vs : List V} {A : FP}, tzs ds = true → Reps K F H ds vs A → Reps K F' H' ds vs fp0
  | [], _, _, _, r => ⟨r.1, rfl⟩
  | x :: xs, _, _, h, ⟨v, vr, B, C, e, r, q, z⟩ => by
    simp only [tzs, Bool.and_eq_true] at h
    exact ⟨v, vr, fp0, fp0, e, tz_rep s x h.1 r, tzs_reps s xs h.2 q, fpA_0l.symm⟩
end
theorem slr_maskT (s : SameT F F') : ∀ {ρ : Env} {σ : St} {B : FP}, SlR K F H ρ σ B → SlR K F' H (maskT ρ) σ fp0
  | [], _, _, r => ⟨r.1, rfl⟩
  | none :: ρ, _, _, ⟨v, σr, e, r⟩ => ⟨v, σr, e, slr_maskT s r⟩
  | some d :: ρ, _, _, ⟨v, σr, B, C, e, r, q, z⟩ => by
    unfold maskT
    by_cases h : tz d = true
    · rw [if_pos h]
      exact ⟨v, σr, fp0, fp0, e, tz_rep s d h r, slr_maskT s q, fpA_0l.symm⟩
    · rw [if_neg h]
      exact ⟨some v, σr, e, slr_maskT s q⟩
/-- the tuples alone; what else is frozen -/
def onlyT (F : Hp) : Hp := fun a => match F a with
  | some (.tup vs) => some (.tup vs)
  | _ => none
def notT (F : Hp) : Hp := fun a => match F a with
  | some (.tup vs) => none
  | o => o
theorem onlyT_some {a : Addr} {o : HO} (h : onlyT F a = some o) : F a = some o ∧ ∃ vs, o = .tup vs := by
  unfold onlyT at h
  split at h
  · rename_i vs e; cases h; exact ⟨e, vs, rfl⟩
  · cases h
theorem notT_some {a : Addr} {o : HO} (h : notT F a = some o) : F a = some o ∧ NoTup o ∧ onlyT F a = none := by
  unfold notT at h
  split at h
  · cases h
  · rename_i o' hn
    refine ⟨h, ?_, ?_⟩
    · cases o <;> first | exact absurd h (hn _) | trivial
    · unfold onlyT
      split
      · rename_i vs e; exact absurd e (hn _)
      · rfl
theorem of_F {a : Addr} {o : HO} (h : F a = some o) : onlyT F a = some o ∨ notT F a = some o := by
  cases o with
  | tup vs => left; unfold onlyT; rw [h]
  | _ => right; unfold notT; rw [h]
theorem T_none {a : Addr} (h : F a = none) : onlyT F a = none ∧ notT F a = none := by
  unfold onlyT notT; rw [h]; exact ⟨rfl, rfl⟩
/-- the frame with all that is frozen but the tuples -/
def fenc (F R : Hp) : Hp := fun a => match notT F a with
  | some o => some o
  | none => R a
theorem fenc_some {a : Addr} {o : HO} (h : fenc F R a = some o) : notT F a = some o ∨ (notT F a = none ∧ R a = some o) := by
  unfold fenc at h
  split at h
  · rename_i o' e; cases h; exact .inl e
  · rename_i e; exact .inr ⟨e, h⟩
theorem fenc_in {a : Addr} {o : HO} (h : notT F a = some o) : fenc F R a = some o := by unfold fenc; rw [h]
theorem fenc_out {a : Addr} (h : notT F a = none) : fenc F R a = R a := by unfold fenc; rw [h]
theorem Wd.fenc (W : Wd F R H) : Wd (onlyT F) (L3.fenc F R) H := by
  refine ⟨fun a o e => W.f _ _ (onlyT_some e).1, fun a o e => ?_, fun a o e => ?_⟩
  · rcases fenc_some e with e | ⟨_, e⟩
    · exact W.f _ _ (notT_some e).1
    · exact W.r _ _ e
  · rcases fenc_some e with e | ⟨_, e⟩
    · exact ⟨(notT_some e).2.2, (notT_some e).2.1⟩
    · exact ⟨(T_none (W.a _ _ e).1).1, (W.a _ _ e).2⟩
/-- .. and back, but for an address of a new list -/
def comeB (F F1 : Hp) (p : Addr → Prop) [DecidablePred p] : Hp := fun a => if p a then none else match notT F a with
  | some o => some o
  | none => F1 a
theorem comeB_some {F1 : Hp} {p : Addr → Prop} [DecidablePred p] {a : Addr} {o : HO} (h : comeB F F1 p a = some o) : ¬ p a ∧ (notT F a = some o ∨ (notT F a = none ∧ F1 a = some o)) := by
  unfold comeB at h
  split at h
  · cases h
  · rename_i n
    refine ⟨n, ?_⟩
    split at h
    · rename_i o' e; cases h; exact .inl e
    · rename_i e; exact .inr ⟨e, h⟩
theorem comeB_back {F1 H1 : Hp} {p : Addr → Prop} [DecidablePred p] (W : Wd F R H) (s : Same (onlyT F) F1) (W1 : Wd F1 (L3.fenc F R) H1) (hp : ∀ a, p a → ∃ vs, F1 a = some (.lst vs)) :
    Same F (comeB F F1 p) ∧ Wd (comeB F F1 p) R H1 ∧ SameT F1 (comeB F F1 p) ∧ (∀ a, p a → comeB F F1 p a = none ∧ R a = none) ∧ (∀ a, F a = none → L3.fenc F R a ≠ none → comeB F F1 p a = none) := by
  have pn : ∀ a, p a → notT F a = none := fun a h => by
    obtain ⟨vs, e⟩ := hp a h
    cases q : notT F a with
    | none => rfl
    | some o => have := (W1.a _ _ (fenc_in (R := R) q)).1; rw [e] at this; cases this
  refine ⟨fun a o e => ?_, ⟨fun a o e => ?_, fun a o e => ?_, fun a o e => ?_⟩, fun q vs e => ?_, fun a h => ?_, fun a h1 h2 => ?_⟩
  · unfold comeB
    rcases of_F e with e2 | e2
    · have e3 := s _ _ e2
      obtain ⟨vs, rfl⟩ := (onlyT_some e2).2
      rw [if_neg (fun h => by obtain ⟨ws, e4⟩ := hp a h; rw [e3] at e4; cases e4)]
      have : notT F a = none := by unfold notT; rw [e]
      rw [this]; exact e3
    · rw [if_neg (fun h => by rw [pn a h] at e2; cases e2), e2]
  · obtain ⟨n, e | ⟨_, e⟩⟩ := comeB_some e
    · exact W1.r _ _ (fenc_in e)
    · exact W1.f _ _ e
  · have := (T_none (W.a _ _ e).1).2
    exact W1.r _ _ (by rw [fenc_out this]; exact e)
  · have hn := (T_none (W.a _ _ e).1).2
    have h2 := (W1.a _ _ (show L3.fenc F R a = some o by rw [fenc_out hn]; exact e))
    refine ⟨?_, h2.2⟩
    unfold comeB
    split
    · rfl
    · rw [hn]; exact h2.1
  · unfold comeB
    rw [if_neg (fun h => by obtain ⟨ws, e4⟩ := hp q h; rw [e] at e4; cases e4)]
    have : notT F q = none := by
      cases z : notT F q with
      | none => rfl
      | some o => have := (W1.a _ _ (fenc_in (R := R) z)).1; rw [e] at this; cases this
    rw [this]; exact e
  · refine ⟨by unfold comeB; rw [if_pos h], ?_⟩
    cases z : R a with
    | none => rfl
    | some o =>
      obtain ⟨vs, e⟩ := hp a h
      have := (W1.a _ _ (show L3.fenc F R a = some o by rw [fenc_out (pn a h)]; exact z)).1
      rw [e] at this; cases this
  · cases z : comeB F F1 p a with
    | none => rfl
    | some o =>
      obtain ⟨_, e | ⟨_, e⟩⟩ := comeB_some z
      · rw [(T_none h1).2] at e; cases e
      · cases w : L3.fenc F R a with
        | none => exact absurd w h2
        | some o2 => have := (W1.a _ _ w).1; rw [e] at this; cases this
end
section
variable {Y : Cy} {e : Expr} {w : DW}
theorem e_thaw (hex : ∀ c ρ, ¬ Y.ex c ρ) (h : DE Y e w) : DE Y e (fun ρ Q => w (maskT ρ) fun d _ => thawD d fun d' => Q d' ρ) := ⟨PE.imp h.run fun σ H Q ⟨F, R, ρ, B, P, S, hw, hq, hx⟩ => by
  have WH := S.w.hold S.p S.own
  have st : SameT F (onlyT F) := fun p vs e => by unfold onlyT; rw [e]
  refine ⟨onlyT F, fenc F (hold R H B), maskT ρ, fp0, _, ⟨WH.fenc, slr_maskT st S.s, fun a => ⟨Nat.zero_le _, fun n => absurd rfl n⟩⟩, hw, fun v H1 ⟨d, ρ1, F1, A, B1, s, W1, r, sl, p, q⟩ => ?_, fun c dx σ' H' ⟨_, _, _, _, _, _, _, _, z⟩ => (hex _ _ z).elim⟩
  -- what is ours stands as it was
  have kB : ∀ a, B a ≠ 0 → fenc F (hold R H B) a ≠ none ∧ H1 a = H a ∧ F a = none := fun a n => by
    have hF := ((S.p a).2 n).1
    obtain ⟨o, e1, _⟩ := S.own a n
    have e2 : fenc F (hold R H B) a = some o := by rw [fenc_out (T_none hF).2, hold_in n]; exact e1
    exact ⟨by rw [e2]; simp, by rw [W1.r _ _ e2, e1], hF⟩
  -- a told list
  have core : ∀ (b : D) (x : V) (A2 : FP) (P : D → Prop), Rep Y.X.K F1 H1 b x A2 → (∀ a, A2 a ≤ A a) → thawL b P → ∃ b' F3 A3, Same F F3 ∧ Wd F3 R H1 ∧ SameT F1 F3 ∧ Rep Y.X.K F3 H1 b' x A3 ∧ SlR Y.X.K F3 H1 ρ σ B ∧ Sep F3 R (fpA A3 B) ∧ P b' := fun b x A2 P rb lA hb => by
    cases b with
    | lst m xs =>
      obtain ⟨hz, hP⟩ := hb
      cases m with
      | false =>
        obtain ⟨p0, vs, rfl, e1, rs⟩ := rb
        obtain ⟨s3, W3, t3, n3, o3⟩ := comeB_back (p := fun a => a = p0) WH s W1 (fun a h => by subst h; exact ⟨vs, e1⟩)
        have hH : H1 p0 = some (.lst vs) := W1.f _ _ e1
        have W3' : Wd (comeB F F1 fun a => a = p0) R H1 := ⟨W3.f, fun a o e => W3.r _ _ (hold_same S.w S.p _ _ e), fun a o e => W3.a _ _ (hold_same S.w S.p _ _ e)⟩
        have b0 : B p0 = 0 := Nat.eq_zero_of_not_pos fun n => by
          have := (n3 p0 rfl).2
          rw [hold_in (by omega)] at this
          obtain ⟨o, e2, _⟩ := S.own p0 (by omega)
          rw [this] at e2; cases e2
        have hR : R p0 = none := by
          cases z : R p0 with
          | none => rfl
          | some o => have := (n3 p0 rfl).2; rw [hold_same S.w S.p _ _ z] at this; cases this
        refine ⟨.lst true xs, _, fp1 p0, s3, W3', t3, ⟨p0, vs, fp0, rfl, hH, tzs_reps t3 xs hz rs, by rw [fpA_0l]⟩, slr_mono s3 (fun a n => (kB a n).2.1) S.s, fun a => ?_, hP⟩
        by_cases ea : a = p0
        · subst ea
          refine ⟨by unfold fpA fp1; rw [b0]; simp, fun _ => ⟨(n3 a rfl).1, hR⟩⟩
        · have q0 : fpA (fp1 p0) B a = B a := by unfold fpA fp1; rw [if_neg ea]; omega
          rw [q0]
          refine ⟨(S.p a).1, fun n => ⟨o3 a (kB a n).2.2 (kB a n).1, ((S.p a).2 n).2⟩⟩
      | true =>
        obtain ⟨p0, vs, B0, rfl, e1, rs, zA⟩ := rb
        obtain ⟨s3, W3, t3, n3, o3⟩ := comeB_back (p := fun _ => False) WH s W1 (fun a h => h.elim)
        have W3' : Wd (comeB F F1 fun _ => False) R H1 := ⟨W3.f, fun a o e => W3.r _ _ (hold_same S.w S.p _ _ e), fun a o e => W3.a _ _ (hold_same S.w S.p _ _ e)⟩
        have hA : A p0 ≠ 0 := by have := lA p0; rw [zA] at this; unfold fpA fp1 at this; simp at this; omega
        obtain ⟨pf, pr⟩ := (p p0).2 (fpA_l hA)
        have b0 : B p0 = 0 := Nat.eq_zero_of_not_pos fun n => (kB p0 (by omega)).1 pr
        have hRn : hold R H B p0 = none ∧ notT F p0 = none := by
          cases z : notT F p0 with
          | none => rw [fenc_out z] at pr; exact ⟨pr, rfl⟩
          | some o => rw [fenc_in z] at pr; cases pr
        have hR : R p0 = none := by
          cases z : R p0 with
          | none => rfl
          | some o => have := hRn.1; rw [hold_same S.w S.p _ _ z] at this; cases this
        refine ⟨.lst true xs, _, fp1 p0, s3, W3', t3, ⟨p0, vs, fp0, rfl, e1, tzs_reps t3 xs hz rs, by rw [fpA_0l]⟩, slr_mono s3 (fun a n => (kB a n).2.1) S.s, fun a => ?_, hP⟩
        by_cases ea : a = p0
        · subst ea
          refine ⟨by unfold fpA fp1; rw [b0]; simp, fun _ => ⟨?_, hR⟩⟩
          unfold comeB
          rw [if_neg (fun h => h), hRn.2]; exact pf
        · have q0 : fpA (fp1 p0) B a = B a := by unfold fpA fp1; rw [if_neg ea]; omega
          rw [q0]
          refine ⟨(S.p a).1, fun n => ⟨o3 a (kB a n).2.2 (kB a n).1, ((S.p a).2 n).2⟩⟩
    | _ => exact hb.elim
  have fin : ∀ {d' : D} {F3 : Hp} {A3 : FP}, Same F F3 → Wd F3 R H1 → Rep Y.X.K F3 H1 d' v A3 → SlR Y.X.K F3 H1 ρ σ B → Sep F3 R (fpA A3 B) → P d' ρ → Q v H1 := fun {d' F3 A3} a1 a2 a3 a4 a5 a6 => hq _ _ ⟨d', ρ, F3, A3, B, a1, a2, a3, a4, a5, a6⟩
  have q : thawD d fun d' => P d' ρ := q
  unfold thawD at q
  split at q
  · rename_i da db q0
    obtain ⟨p0, us, rfl, e1, x, xr, C1, C2, rfl, ra, ⟨y, yr, C3, C4, rfl, rb, ⟨rfl, z4⟩, z3⟩, z2⟩ := r
    obtain ⟨b', F3, A3, a1, a2, a3, a4, a5, a6, a7⟩ := core db y C3 _ rb (fun a => by rw [z2, z3]; unfold fpA; omega) q.2
    refine fin (d' := .tup [da, b']) a1 a2 ⟨p0, _, rfl, a3 _ _ e1, x, [y], fp0, A3, rfl, tz_rep a3 da q.1 ra, ⟨y, [], A3, fp0, rfl, a4, ⟨rfl, rfl⟩, fpA_0r.symm⟩, fpA_0l.symm⟩ a5 a6 a7
  · obtain ⟨b', F3, A3, a1, a2, a3, a4, a5, a6, a7⟩ := core _ v A _ r (fun _ => Nat.le_refl _) q
    exact fin a1 a2 a4 a5 a6 a7
  · exact q.elim⟩
end
end L3
/-! dict(a list of pairs), the keys tuples of ints and texts -/
namespace TuS
open PySem PySem.Spec L2
open PyProof.Rows hiding St
def mergeT (kvs more : List (List Key × V)) : List (List Key × V) := more.foldl (fun acc kv => putK acc kv.1 kv.2) kvs
theorem length_mergeT : ∀ (more kvs : List (List Key × V)), (mergeT kvs more).length ≤ kvs.length + more.length
  | [], kvs => Nat.le_refl _
  | p :: more, kvs => by
    have := length_mergeT more (putK kvs p.1 p.2)
    have := length_putK kvs p.1 p.2
    show (mergeT (putK kvs p.1 p.2) more).length ≤ _
    simp only [List.length_cons]; omega
theorem KT_merge {H : Hp} : ∀ {more : List (List Key × V)} {rs : List (List Key × Addr × Value)} {kvs : List (List Key × V)} {vs : List (List Key × Addr × Value)}, KT H more rs → KT H kvs vs → KT H (mergeT kvs more) (storedAllH vs rs) := by
  intro more rs kvs vs r
  induction r generalizing kvs vs with
  | nil => intro q; exact q
  | @cons p q ps qs h t ih =>
    intro r0
    have e := r0.put p.1 h.2.1 h.2.2
    rw [h.1] at e
    have := ih e
    rw [← h.1] at this
    show KT H (mergeT (putK kvs p.1 p.2) ps) (storedAllH (storedH vs q.1 q.2.1 q.2.2) qs)
    rw [← h.1]; exact this
section
variable {X : Cx}
def PrT (K : PySem.W.Frag) (H : Hp) (p : Addr) (kv : List Key × V) : Prop := ∃ b, SqT K H p [.ref b, kv.2] ∧ H b = some (.tup (kv.1.map kV))
theorem pairs_ofT {pins : List (Addr × Obj)} {σ : St} {H : Hp} {s : Shared} (I : Inv X pins σ H s) : ∀ {ps : List Addr} {kvs : List (List Key × V)}, Paired (PrT X.K H) ps kvs →
    ∃ prs : List (List Key × Addr × Value), KT H kvs prs ∧ prs.length = ps.length ∧ ∀ (j : Nat) (q : List Key × Addr × Value), prs[j]? = some q → ∃ (b : Addr), ps[j]? = some b ∧ s.heap.IsTuple b #[.ref q.2.1, q.2.2] ∧ (tupleKind (mixKind X.prog X.w)).is s.heap q.1 q.2.1
  | _, _, .nil => ⟨[], .nil, rfl, fun j q e => by simp at e⟩
  | _, _, .cons (a := p) (b := kv) h t => by
    obtain ⟨prs, r, hl, hp⟩ := pairs_ofT I t
    obtain ⟨b, h, hb⟩ := h
    obtain ⟨its, rv, ht, _⟩ := I.tuple h
    obtain ⟨u, y, ei, ru, ry⟩ := vals2 rv
    subst ei
    cases (show u = Value.ref b from ru)
    refine ⟨(kv.1, b, y) :: prs, .cons ⟨rfl, hb, ry⟩ r, by rw [List.length_cons, List.length_cons, hl], fun j q e => ?_⟩
    cases j with
    | zero =>
      have e' : (kv.1, b, y) = q := Option.some.inj e
      subst e'
      exact ⟨p, rfl, ht, key_of I.hok hb⟩
    | succ j =>
      obtain ⟨b', e1, e2⟩ := hp j q (by simpa using e)
      exact ⟨b', by simpa using e1, e2⟩
theorem nodupH : ∀ {h : Heap} {a : Addr} {P : Program} {w : World} {xs : List (List Key × Addr × Value)}, h.DictOfH (tupleKind (mixKind P w)) a xs → (xs.map (·.1)).Nodup := fun x => let ⟨_, _, _, _, _, _, _, _, hn⟩ := x; hn
theorem call_dictT (hcalm : X.calm = true) (hu : X.A.units + 5 < cLine) : CallR X (.type "dict") (fun xs H Q => ∃ (a : Addr) (ps : List Addr) (kvs : List (List Key × V)), xs = [.ref a] ∧ SqL X.K H a (ps.map V.ref) ∧ Paired (PrT X.K H) ps kvs ∧
    ∀ p, H p = none → Q (.ref p) (upd H p (.dT (mergeT [] kvs)))) := by
  intro pins s σ H xs us Q I r q
  obtain ⟨a, ps, kvs, ex, hq, hp, q⟩ := q
  subst ex
  obtain ⟨u, eu, rx⟩ := vals1 r
  subst eu
  cases rx
  obtain ⟨its, rv, pl, hz⟩ := I.list hq
  have ei := refs_at rv
  subst ei
  rw [List.length_map] at hz
  obtain ⟨prs, rel, hl, hpr⟩ := pairs_ofT I hp
  obtain ⟨o, n, ho, hc, hd, hdat⟩ := pl
  have hgd : ∀ j q, prs[j]? = some q → ps.getD j 0 = (ps[j]?).getD 0 := fun j q e => by rw [List.getD_eq_getElem?_getD]
  have hnew : ∀ b ob, s.heap.get? b = some ob → b ≠ s.heap.objs.size := fun b ob e => Nat.ne_of_lt (Heap.lt_size e)
  refine PySem.call_dict_pairsH (knd := tupleKind (mixKind X.prog X.w)) (ps := prs) (PairArg.list a (ps.map Value.ref).toArray (fun j => ps.getD j 0) (prs.map fun q => (Value.ref q.2.1, q.2.2))) (I.ok.hd hcalm) (show X.A.units + 1 + 1 < cLine by omega)
    ⟨⟨o, n, ho, hc, hd, hdat⟩, by simp [hl], fun j k v e => ?_⟩ ⟨by simp, fun i key v e => ?_⟩ (fun h' hk x hx => ?_) (by rw [List.length_map, hl]; exact hz) fun h' tk hd' k => ?_
  · rw [List.getElem?_map] at e
    obtain ⟨q', e1, e2⟩ := Option.map_eq_some_iff.mp e
    cases e2
    obtain ⟨b, e3, e4, _⟩ := hpr j q' e1
    refine ⟨by simp [e3], .inl ?_⟩
    show s.heap.IsTuple (ps.getD j 0) _
    rw [List.getD_eq_getElem?_getD, e3]; exact e4
  · rw [PairRel, List.getElem?_map] at e
    obtain ⟨q', e1, e2⟩ := Option.map_eq_some_iff.mp e
    cases e2
    exact ⟨q'.1, q'.2.1, e1, rfl⟩
  · obtain ⟨j, hj, rfl⟩ := List.mem_iff_getElem.mp hx
    obtain ⟨b, e3, e4, o2, items, n2, e5, e6, e7, e8⟩ := hpr j _ (List.getElem?_eq_getElem hj)
    exact ⟨o2, items, n2, hk _ _ (hnew _ _ e5) (by simp) e5, e6, e7, e8⟩
  · have hm : (s.heap.objs.size == sysModules) = false := beq_eq_false_iff_ne.mpr (Nat.ne_of_gt I.big)
    have hlen : (mergeT [] kvs).length ≤ sizeLine := by
      refine Nat.le_trans (length_mergeT kvs []) ?_
      rw [List.length_nil, Nat.zero_add, Paired.length rel, hl]
      exact hz
    have hHn : H s.heap.objs.size = none := I.hok.fresh (Nat.le_refl _)
    obtain ⟨o', es, ep, hq', h2, h3, h4, _, h5⟩ := hd'
    exact ⟨.ref s.heap.objs.size, upd H s.heap.objs.size (.dT (mergeT [] kvs)), I.laid (t' := tk) (fun b ob e => k b ob (by simp) e) (Nat.le_refl _) (show ObjOk X.prog X.w _ _ _ (.dT (mergeT [] kvs)) from ⟨hlen, hm, _, (KT_merge rel .nil).keeps (fun c ys ec => by rw [upd_ne (ne_of_none ec hHn)]; exact ec), o', es, ep, hq', h2, h3, h4, h5⟩), rfl, q _ hHn⟩
end
end TuS
namespace L3
open PySem PySem.Spec L2
open PyProof.Rows hiding St
def pairKVT : D → Option (KD × D)
  | .tup [k, v] => (keyD .t k).map fun k => (k, v)
  | _ => none
def pairsKVT : List D → Option (List (KD × D))
  | [] => some []
  | d :: ds => match pairKVT d, pairsKVT ds with
    | some p, some ps => some (p :: ps)
    | _, _ => none
def oDictT (ds : List D) (P : D → Prop) : Prop := one ds fun d => match d with
  | .lst _ xs => fzs xs = true ∧ mb (pairsKVT xs) fun ps => P (.dic .ow .t (mergeD ps))
  | _ => False
section
variable {K : PySem.W.Frag} {F H R : Hp}
abbrev kT (ks : List Key) : KD := KD.tup (ks.map keyKD)
theorem kT_inj : ∀ a b : List Key, kT a = kT b → a = b := fun a b e => keysKD_inj (by simpa using e)
theorem pairsT_rep (s : Same F H) : ∀ {xs : List D} {us : List V} {ps : List (KD × D)}, Reps K F H xs us fp0 → pairsKVT xs = some ps →
    ∃ (as : List Addr) (kvs : List (List Key × V)), us = as.map V.ref ∧ Paired (TuS.PrT K H) as kvs ∧ Repk K F H ps (kvs.map fun q => (kT q.1, q.2)) fp0
  | [], us, ps, r, h => by
    cases h
    exact ⟨[], [], r.1, .nil, ⟨rfl, rfl⟩⟩
  | x :: xs, us, ps, ⟨v, vr, A, B, e, r, q, z⟩, h => by
    subst e
    obtain ⟨rfl, rfl⟩ := fpz z
    unfold pairsKVT at h
    cases h1 : pairKVT x with
    | none => rw [h1] at h; cases h
    | some p =>
      cases h2 : pairsKVT xs with
      | none => rw [h1, h2] at h; cases h
      | some ps' =>
        rw [h1, h2] at h
        cases h
        obtain ⟨as, kvs, e1, e2, e3⟩ := pairsT_rep s q h2
        unfold pairKVT at h1
        split at h1
        · rename_i k v
          obtain ⟨k0, e4, rfl⟩ := Option.map_eq_some_iff.mp h1
          obtain ⟨a, ws, rfl, e6, ⟨x1, w1, C1, C2, rfl, r1, ⟨x2, w2, C3, C4, rfl, r2, ⟨rfl, z4⟩, z3⟩, z2⟩⟩ := r
          obtain ⟨rfl, e7⟩ := fpz z2
          rw [e7] at z3
          obtain ⟨rfl, _⟩ := fpz z3
          cases k with
          | tup ks =>
            simp only [keyD, Option.map_eq_some_iff] at e4
            obtain ⟨kk, e5, rfl⟩ := e4
            obtain ⟨b, us', rfl, e8, q1⟩ := r1
            have ek := flatKs_rep e5 q1
            subst ek
            refine ⟨a :: as, (kk, x2) :: kvs, by rw [e1]; rfl, .cons ⟨b, SqT.of (s _ _ e6), s _ _ e8⟩ e2, ?_⟩
            exact ⟨x2, _, fp0, fp0, rfl, r2, e3, fpA_0l.symm⟩
          | _ => simp [keyD] at e4
        · cases h1
theorem mergeT_rep : ∀ {ps : List (KD × D)} {kvs : List (List Key × V)} {acc : List (KD × D)} {av : List (List Key × V)}, Repk K F H ps (kvs.map fun q => (kT q.1, q.2)) fp0 → Repk K F H acc (av.map fun q => (kT q.1, q.2)) fp0 → ((av.map fun q => (kT q.1, q.2)).map (·.1)).Nodup →
    Repk K F H (ps.foldl (fun acc p => kput acc p.1 p.2) acc) ((TuS.mergeT av kvs).map fun q => (kT q.1, q.2)) fp0 ∧ (((TuS.mergeT av kvs).map fun q => (kT q.1, q.2)).map (·.1)).Nodup
  | [], kvs, acc, av, r, ra, hn => by
    have : kvs = [] := by
      have := r.1
      simpa using this
    subst this
    exact ⟨ra, hn⟩
  | (k, d) :: ps, kvs, acc, av, ⟨v, vr, A, B, e, r, q, z⟩, ra, hn => by
    obtain ⟨rfl, rfl⟩ := fpz z
    cases kvs with
    | nil => cases e
    | cons kv kvs =>
      simp only [List.map_cons, List.cons.injEq, Prod.mk.injEq] at e
      obtain ⟨⟨rfl, rfl⟩, rfl⟩ := e
      have e2 := kput_map (f := kT) kT_inj kv.1 kv.2 av (by rw [List.map_map] at hn; exact hn)
      have ra2 := repk_kput (k := kT kv.1) ra r
      rw [e2] at ra2
      have hn2 := kput_nodup (k := kT kv.1) (v := kv.2) hn
      rw [e2] at hn2
      exact mergeT_rep (ps := ps) (kvs := kvs) q ra2 hn2
theorem opn_dictT : OpNF K (fun xs H Q => ∃ (a : Addr) (ps : List Addr) (kvs : List (List Key × V)), xs = [.ref a] ∧ SqL K H a (ps.map V.ref) ∧ Paired (TuS.PrT K H) ps kvs ∧ ∀ p, H p = none → Q (.ref p) (upd H p (.dT (TuS.mergeT [] kvs)))) oDictT := fun {F R H G vs ds P Q} W ow S b w q => by
  obtain ⟨d, rfl, w⟩ := one_of w
  obtain ⟨v, vr, rfl, ⟨A, r, l⟩, rfl⟩ := b
  cases d with
  | lst m xs =>
    obtain ⟨p0, us, rfl, e1, B, q1, _⟩ := lst_at W.f r
    rw [fzs_reps xs w.1 q1] at q1
    obtain ⟨ps, ep, w2⟩ := mb_some w.2
    obtain ⟨as, kvs, rfl, h2, h3⟩ := pairsT_rep W.f q1 ep
    refine ⟨p0, as, kvs, rfl, SqL.of e1, h2, fun n hn => ?_⟩
    obtain ⟨m1, m2⟩ := mergeT_rep (acc := []) (av := []) h3 ⟨rfl, rfl⟩ List.nodup_nil
    refine q _ _ ⟨.dic .ow .t (mergeD ps), F, fp1 n, Same.refl F, keep_new ow hn, W.mine hn, ⟨n, _, _, fp0, rfl, upd_same, ⟨m2, _, rfl, rfl⟩, repk_mono (Same.refl F) _ (fun a z => absurd rfl z) m1, by rw [fpA_0l]⟩, by rw [fpA_comm]; exact S.mine W ow hn, w2⟩
  | _ => exact w.elim
end
theorem u5 {k : Nat} {A : Around} (hr : Room k A) : A.units + 5 < cLine := by have := hr.units; omega
end L3
namespace L3
open PySem PySem.Spec L2
open PyProof.Rows hiding St
section
variable {Y : Cy} {F F1 R H H1 : Hp} {ρ : Env} {σ σ1 : St} {A B : FP} {e a b o : Expr} {ew kw : DW} {pos pos' p p2 : Pos}
/-! x[k] = e, x a list of ours, the number may change what it will -/
theorem s_ixE (i : Nat) {x : Str} {px : Pos} (hv : DE Y e ew) (hi : DE Y a kw) (hN : Y.X.N[i]? = some x := by rfl) (hvis : Vis Y.X.env.scope x := by first | exact Or.inl rfl | exact Or.inr (Or.inl rfl) | exact Or.inr (Or.inr rfl))
    (hd : (x == ("__debug__" : Str)) = false := by decide) (hcd : (x == ("__classdict__" : Str)) = false := by decide)
    (hc : swapsWithSole [.Subscript (.Name x px) a p2] e pos.line Y.X.env = pure false := by rfl) (hw : swappedStores [.Subscript (.Name x px) a p2] e Y.X.env = pure none := by rfl)
    (h1 : (assignEach [.Subscript (.Name x px) a p2] Y.X.env).map (·.2) = [assign (.Subscript (.Name x px) a p2) Y.X.env] := by rfl)
    (ha : ∀ v, assign (.Subscript (.Name x px) a p2) Y.X.env v = (do
      let ov ← holding [v] (eval (.Name x px) Y.X.env)
      let iv ← holding [v, ov] (eval a Y.X.env)
      standAt p2
      holding [v, ov, iv] (setItem ov iv v)
      release [v, ov, iv] []) := by intro _; rfl) :
    DS Y (.Assign [.Subscript (.Name x px) a p2] e pos) (fun K ρ => ew ρ fun d ρ1 => gv ρ1 i isLst ∧ kw ρ1 fun j ρ2 => stIx i [] ρ2 j d K.nx) :=
  ⟨PS.imp (ps_asg hv.run (pg_sub (pe_var hN hvis hd hcd) hi.run set_list ha) hc hw h1) fun Z σ H ⟨F, R, ρ, B, K, S, hw, G⟩ => ⟨F, R, ρ, B, _, S, hw, fun v H1 ⟨d, ρ1, F1, A, B1, s, W, r, sl, p, ⟨q0, q⟩⟩ => by
    have own1 := rep_own d r
    have pA : Sep F1 R A := p.mono fun a => by unfold fpA; omega
    obtain ⟨d0, e0, q0⟩ := gv_some q0
    obtain ⟨v0, A0, g1, g2, _⟩ := slr_get sl e0
    refine ⟨v0, g1, F1, hold R H1 A, ρ1, B1, _, ⟨W.hold pA own1, sl, p.hold⟩, q, fun y H2 ⟨j, ρ2, F2, Aj, B2, s2, W2, rj, sl2, p2, q2⟩ => ?_, G.ex.hold s W pA⟩
    obtain ⟨d1, e1, q2⟩ := mb_some q2
    have e1' : ρ2[i]? = some (some d1) := by
      unfold getE at e1
      split at e1
      · rename_i dd ee
        have : dd = d1 := by simpa [getP] using e1
        rw [← this]; exact ee
      · cases e1
    obtain ⟨v1, A1, A2, h1, L⟩ := loc_var sl2 e1'
    rw [g1] at h1; cases h1
    cases d1 with
    | lst m xs =>
      cases m with
      | false => cases j <;> exact q2.elim
      | true =>
        cases j with
        | int n =>
          obtain ⟨rfl, rfl⟩ := rj
          rw [fpA_0l] at p2
          obtain ⟨W3, p3, k3⟩ := hold_back W pA own1 W2 p2
          obtain ⟨k, ek, q5⟩ := mb_some q2
          obtain ⟨a0, vs, B0, rfl, ha, rs, z⟩ := L.rep
          refine ⟨a0, vs, n, k, rfl, rfl, ha, by rw [reps_len rs]; exact ek, ?_⟩
          have hA1 : A1 a0 ≠ 0 := by rw [z]; exact fpA_r (fp1_self a0)
          obtain ⟨W4, kA2, kA⟩ := loc_write (oo := .lst (vs.set k v)) W3 L p3 hA1
          have r2 : Rep Y.X.K F2 (upd H2 a0 (.lst (vs.set k v))) d v A := rep_mono s2 d (fun b n => by rw [kA b n, k3 b n]) r
          obtain ⟨C1, l, hput⟩ := reps_put k rs
          have hn : ∀ b, C1 b ≠ 0 → (upd H2 a0 (.lst (vs.set k v))) b = H2 b := fun b n => by
            refine upd_ne ?_
            rintro rfl
            have h1 := (p3 b).1
            have h2 := l b
            unfold fpA at h1
            rw [L.fp, z] at h1
            unfold fpA at h1
            simp only [fp1, if_pos] at h1
            omega
          have rs2 := hput F2 _ d v A (Same.refl F2) hn r2 (ixN_lt ek)
          have sl3 := L.back F2 _ (.lst true (xs.set k d)) _ (Same.refl F2) kA2 ⟨a0, _, _, rfl, upd_same, rs2, rfl⟩
          refine G.nx σ _ ⟨_, F2, _, s.trans s2, W4, sl3, p3.mono fun b => ?_, .refl, q5⟩
          have := l b
          rw [L.fp, z]
          unfold fpA
          omega
        | _ => exact q2.elim
    | _ => cases j <;> exact q2.elim, G.ex⟩⟩
end
end L3
namespace DaS
open PySem PySem.Spec L2
open PyProof.Rows hiding St
/-- l.remove(x) over data: the first equal one goes -/
def rRemD (K : PySem.W.Frag) : V → List V → Hp → VK → Prop := fun x xs H Q => ∃ (l : Addr) (zs : List V) (y : V) (ds : List PyData) (d : PyData) (j : Nat), x = .ref l ∧ xs = [y] ∧ H l = some (.lst zs) ∧ Dp K H (.ref l) (.list ds) ∧ Dp K H y d ∧
  PyData.plainAll ds = true ∧ d.plain = true ∧ d.depth ≤ 64 ∧ SeqAt.dataPlace ds d = some j ∧ Q .non (upd H l (.lst (zs.eraseIdx j)))
theorem mt_removeD {X : Cx} (hu : X.A.units + 70 < cLine) : MtM X "list.remove" (rRemD X.K) := by
  intro pins s σ H x xs v us Q I rx rxs h
  obtain ⟨l, zs, y, ds, d, j, rfl, rfl, hH, h1, h2, h3, h4, h5, hp, q⟩ := h
  cases rx
  obtain ⟨u, rfl, ru⟩ := rxs.one
  obtain ⟨z, its, n, r, hl, e⟩ := I.lstM hH
  obtain ⟨as, rd1⟩ := Dp.reads I (.list ds) (.ref l) (.ref l) h1 rfl
  obtain ⟨bs, rd2⟩ := Dp.reads I d y u h2 ru
  obtain ⟨vs, fp, hls, rds⟩ : ∃ vs fp, s.heap.IsList l vs ∧ ReadsAll s.heap vs.toList ds fp := by
    cases rd1 with
    | list h1 h2 h3 h4 => exact ⟨_, _, ⟨_, h1, h2, _, h3⟩, h4⟩
  have hvs : vs = its.toArray := by
    obtain ⟨o, ho, hc, n2, hd⟩ := hls
    rw [e] at ho; cases ho
    cases hd
    rfl
  subst hvs
  refine SeqAt.remove_list_data (vs := its.toArray) hls rds rd2 h3 h4 (by omega) hp (by rw [List.size_toArray]; omega) ?_
  have rr := r.eraseIdx j
  refine ⟨.non, _, I.lset (its' := its.eraseIdx j) (t' := s.toks) hH e ?_ rr ?_, rfl, q⟩
  · show its.toArray.eraseIdxIfInBounds j = (its.eraseIdx j).toArray
    rw [List.eraseIdxIfInBounds_toArray]
  · have : (zs.eraseIdx j).length ≤ zs.length := List.length_eraseIdx_le zs j
    omega
end DaS
namespace L3
open PySem PySem.Spec L2
open PyProof.Rows hiding St
def oRemoveD (xs ds : List D) (P : D → List D → Prop) : Prop := match ds with
  | [d] => fzs xs = true ∧ pyOk 63 (.lst true xs) = true ∧ pyOk 63 d = true ∧ PyData.plainAll (toPys xs) = true ∧ (toPy d).plain = true ∧ mb (SeqAt.dataPlace (toPys xs) (toPy d)) fun j => P .non (xs.eraseIdx j)
  | _ => False
theorem mut_removeD {K} : MutOk K (DaS.rRemD K) oRemoveD := fun {F H l us vs xs ds A1 A2 P Q} s h r1 r2 o q => by
  unfold oRemoveD at o
  split at o
  · rename_i d
    obtain ⟨o1, o2, o3, o4, o5, o6⟩ := o
    obtain ⟨j, hj, o7⟩ := mb_some o6
    rw [fzs_reps xs o1 r1] at r1
    obtain ⟨v, vr, B, C, e, r3, ⟨e2, z2⟩, z⟩ := r2
    subst e e2
    have hrl : Rep K F H (.lst true xs) (.ref l) (fpA fp0 (fp1 l)) := ⟨l, us, fp0, rfl, h, r1, rfl⟩
    obtain ⟨hj1, _, _⟩ := List.findIdx?_eq_some_iff_getElem.mp hj
    have hjx : j < xs.length := by
      have hl : (toPys xs).length = xs.length := by rw [toPys_map, List.length_map]
      omega
    obtain ⟨w, B1, C1, h1, h2, h3, h4⟩ := reps_erase (k := j) r1 (List.getElem?_eq_getElem hjx)
    obtain ⟨e5, e6⟩ := fpz h4
    subst e5 e6
    refine ⟨l, us, v, toPys xs, toPy d, j, rfl, rfl, h, rep_dp s 63 (.lst true xs) o2 hrl, rep_dp s 63 d o3 r3, o4, o5, by have := (pyOk_lay 63 d o3).2; omega, hj, q _ _ ⟨.non, _, fp0, fp0, rep_non, h3, fun a => by unfold fp0; omega, o7⟩⟩
  · exact o.elim
section
variable {Y : Cy} {e x0 : Expr} {es : List Expr} {el : LE} {pw : PW'} {wl : LW} {p cpos apos : Pos} {x : Str} {i : Nat}
theorem e_removeD (hu : Y.X.A.units + 70 < cLine) (i : Nat) (ha : DA Y (e :: es) el) (hN : Y.X.N[i]? = some x := by rfl) (hv : Vis Y.X.env.scope x := by first | exact Or.inl rfl | exact Or.inr (Or.inl rfl) | exact Or.inr (Or.inr rfl)) (hd : (x == ("__debug__" : Str)) = false := by decide) (hcd : (x == ("__classdict__" : Str)) = false := by decide)
    (hbase : attributeBase (.Name x p) "remove" Y.X.env (eval (.Name x p) Y.X.env) = eval (.Name x p) Y.X.env := by rfl)
    (hfew : ((backTo cpos (starEach (e :: es) Y.X.env)).all (fun x => !x.1) && (backToKw cpos (keywordEach [] Y.X.env)).all (fun x => x.1.isSome)
      && decide ((e :: es).length + ([] : List Keyword).length + (if ([] : List Keyword).isEmpty then 0 else 1) < 30)) = true := by rfl)
    (hline : (apos.endLine == cpos.line) = true := by rfl) (hs : starEach (e :: es) Y.X.env = (false, eval e Y.X.env) :: starEach es Y.X.env := by rfl) (hplain : (backTo cpos (starEach es Y.X.env)).any (·.1) = false := by rfl) :
    DE Y (.Call (.Attribute (.Name x p) "remove" apos) (e :: es) [] cpos) (fun ρ Q => (gv ρ i isLst) ∧ el ρ fun ds ρ1 => (gv ρ1 i isLst) ∧ mutL oRemoveD i [] ds ρ1 Q) :=
  e_mut1 i PySem.F.slot_list_remove PySem.F.type_list_remove (DaS.mt_removeD hu) mut_removeD ha hN hv hd hcd hbase hfew hline hs hplain
end
/-! list(x), x a text or a list -/
def oListA (ds : List D) (P : D → Prop) : Prop := oListS ds P ∨ oList ds P
theorem opn_listA {K} : OpNF K (fun vs H Q => DaS.rListS vs H Q ∨ (fun xs H Q => ∃ p ys, xs = [.ref p] ∧ (SqL K H p ys ∨ SqT K H p ys) ∧ ∀ l, H l = none → Q (.ref l) (upd H l (.lst ys))) vs H Q) oListA := fun {F R H G vs ds P Q} W ow S b w q => by
  rcases w with w | w
  · exact .inl (opn_listS W ow S b w q)
  · exact .inr (opn_list W ow S b w q)
theorem cr_listA {X : Cx} (hc : X.calm = true) : CallR X (.type "list") (fun vs H Q => DaS.rListS vs H Q ∨ (fun xs H Q => ∃ p ys, xs = [.ref p] ∧ (SqL X.K H p ys ∨ SqT X.K H p ys) ∧ ∀ l, H l = none → Q (.ref l) (upd H l (.lst ys))) vs H Q) := CallR.or (DaS.cr_listS hc) call_list_of
end L3
/-! max of a list of alike data -/
namespace DaS
open PySem PySem.Spec PyProof.Rows L2
open PySem.W (AllAlike Sortable EachIs dataLe alike dataLt)
theorem max_fold : ∀ (ys : List PyData) (x : PyData), (PySem.W.maxD x ys = x ∨ PySem.W.maxD x ys ∈ ys) ∧ dataLt (PySem.W.maxD x ys) x = false ∧ ∀ y ∈ ys, dataLt (PySem.W.maxD x ys) y = false
  | [], x => ⟨.inl rfl, PyProof.Rows.lex_irrefl _, by simp⟩
  | y :: ys, x => by
    show (PySem.W.maxD (if dataLt x y then y else x) ys = x ∨ _) ∧ dataLt (PySem.W.maxD (if dataLt x y then y else x) ys) x = false ∧ ∀ z ∈ y :: ys, dataLt (PySem.W.maxD (if dataLt x y then y else x) ys) z = false
    by_cases c : dataLt x y = true
    · rw [if_pos c]
      obtain ⟨h1, h2, h3⟩ := max_fold ys y
      refine ⟨?_, ?_, fun z hz => ?_⟩
      · show _ ∨ PySem.W.maxD (if dataLt x y then y else x) ys ∈ y :: ys
        rw [if_pos c]
        rcases h1 with h1 | h1
        · exact .inr (by rw [h1]; simp)
        · exact .inr (List.mem_cons_of_mem _ h1)
      · cases e : dataLt (PySem.W.maxD y ys) x with
        | false => rfl
        | true => rw [lt_trans e c] at h2; cases h2
      · rcases List.mem_cons.mp hz with rfl | hz
        · exact h2
        · exact h3 z hz
    · have c' : dataLt x y = false := by simpa using c
      rw [if_neg c]
      obtain ⟨h1, h2, h3⟩ := max_fold ys x
      refine ⟨?_, h2, fun z hz => ?_⟩
      · show _ ∨ PySem.W.maxD (if dataLt x y then y else x) ys ∈ y :: ys
        rw [if_neg c]
        rcases h1 with h1 | h1
        · exact .inl h1
        · exact .inr (List.mem_cons_of_mem _ h1)
      · rcases List.mem_cons.mp hz with rfl | hz
        · cases e : dataLt (PySem.W.maxD x ys) z with
          | false => rfl
          | true =>
            have e' := e
            unfold dataLt at e' c' h2
            rcases PyProof.Rows.lex_negTrans _ (PySem.W.keyToks x) _ e' with t | t
            · rw [t] at h2; cases h2
            · rw [t] at c'; cases c'
        · exact h3 z hz
def rMaxD (K : PySem.W.Frag) : List V → Hp → VK → Prop := fun vs H Q => ∃ (a : Addr) (ps : List PV), vs = [.ref a] ∧ SqL K H a (ps.map (·.1)) ∧ ps ≠ [] ∧ (∀ p ∈ ps, Dp K H p.1 p.2 ∧ p.2.depth ≤ 64) ∧ PySem.W.AlikeAll (ps.map (·.2)) ∧
  ∀ p ∈ ps, (∀ q ∈ ps, dataLt p.2 q.2 = false) → Q p.1 H
theorem cr_maxD {X : Cx} (hc : X.calm = true) (hu : X.A.units + 70 < cLine) : CallR X (.builtin "max") (rMaxD X.K) := by
  intro pins s σ H vs us Q I r h
  obtain ⟨a, ps, rfl, hs, hne, hd, hal, q⟩ := h
  obtain ⟨its, rv, hl, hz⟩ := I.list hs
  rw [Vals.ref1 r]
  obtain ⟨p0, ps', rfl⟩ : ∃ p0 ps', ps = p0 :: ps' := by
    cases ps with
    | nil => exact absurd rfl hne
    | cons p ps => exact ⟨p, ps, rfl⟩
  have er := each_reads I rv fun p hp => (hd p hp).1
  obtain ⟨as, hr⟩ := PySem.W.each_readsAll (enc := fun q : PV => q.2) er
  have hdp : PyData.depthAll ((p0 :: ps').map (·.2)) ≤ 64 := depth_all fun d hm => by
    obtain ⟨p, hp, rfl⟩ := List.mem_map.mp hm
    exact (hd p hp).2
  refine PySem.W.max_list_data (vs := its.toArray) (x := p0.2) (xs := ps'.map (·.2)) (I.ok.hd hc) hl.isList (by simpa using hr) (show PySem.W.AlikeAll (p0.2 :: ps'.map (·.2)) from hal) (by simp at hdp ⊢; omega) fun i u h' tk bs hi hrd kp => ?_
  have hi' : its[i]? = some u := by simpa using hi
  obtain ⟨p, hp, rp⟩ := each_at rv hi'
  have hpm := List.mem_of_getElem? hp
  obtain ⟨as2, r2⟩ := Dp.reads I p.2 p.1 u (hd p hpm).1 rp
  have r3 : Reads h' u p.2 as2 := PyProof.Rows.Reads.keeps (fun b o e => kp b o e) r2
  obtain ⟨m1, m2, m3⟩ := max_fold (ps'.map (·.2)) p0.2
  have hmm : PySem.W.maxD p0.2 (ps'.map (·.2)) ∈ (p0 :: ps').map (·.2) := by
    rcases m1 with e | e
    · rw [e]; simp
    · exact List.mem_cons_of_mem _ e
  have eq : p.2 = PySem.W.maxD p0.2 (ps'.map (·.2)) := PySem.W.alike_unique _ _ _ _ _ (hal.1 _ (List.mem_map.mpr ⟨p, hpm, rfl⟩) _ hmm) r3 hrd
  refine ⟨p.1, H, I.kept fun b o e => kp b o e, rp, q p hpm fun z hz => ?_⟩
  rw [eq]
  rcases List.mem_cons.mp hz with rfl | hz
  · exact m2
  · exact m3 _ (List.mem_map.mpr ⟨z, hz, rfl⟩)end DaS
namespace L3
open PySem PySem.Spec L2
open PyProof.Rows hiding St
open PySem.W (AllAlike Sortable dataLe alike dataLt)
def oMaxD (ds : List D) (P : D → Prop) : Prop := one ds fun d => lstD d fun xs => xs ≠ [] ∧ (∀ x ∈ xs, pyOk 64 x = true) ∧ PySem.W.AlikeAll (toPys xs) ∧ ∀ x ∈ xs, (∀ y ∈ xs, dlt x y = false) → P x
section
variable {K : PySem.W.Frag}
theorem opn_maxD : OpNF K (DaS.rMaxD K) oMaxD := fun {F R H G vs ds P Q} W ow S b w q => by
  obtain ⟨d, rfl, w⟩ := one_of w
  obtain ⟨v, vr, rfl, ⟨A, r, l⟩, rfl⟩ := b
  obtain ⟨p0, us, xs, rfl, e1, q1, ⟨hne, hok, hal, w2⟩, hxs⟩ := lstD_of W.f r (lstD_and w)
  obtain ⟨qs, rfl, rfl, hq⟩ := reps_zip q1
  have em : (qs.map fun q => (q.1, toPy q.2)).map (·.1) = qs.map (·.1) := by rw [List.map_map]; rfl
  have ed : (qs.map fun q => ((q.1, toPy q.2) : V × PyData)).map (·.2) = toPys (qs.map (·.2)) := by rw [toPys_map, List.map_map, List.map_map]; rfl
  refine ⟨p0, qs.map fun q => (q.1, toPy q.2), rfl, by rw [em]; exact e1, fun z => hne (by simpa using z), fun p hpm => ?_, by rw [ed]; exact hal, fun p hpm hmin => ?_⟩
  · obtain ⟨z, hz, rfl⟩ := List.mem_map.mp hpm
    have ok := hok z.2 (List.mem_map.mpr ⟨z, hz, rfl⟩)
    exact ⟨rep_dp W.f 64 z.2 ok (hq z hz), (pyOk_lay 64 z.2 ok).2⟩
  · obtain ⟨z, hz, rfl⟩ := List.mem_map.mp hpm
    exact q _ _ ⟨z.2, F, fp0, Same.refl F, .refl, W, hq z hz, by rw [fpA_0l]; exact S, w2 z.2 (List.mem_map.mpr ⟨z, hz, rfl⟩) fun y hy => by
      obtain ⟨z', hz', rfl⟩ := List.mem_map.mp hy
      exact hmin _ (List.mem_map.mpr ⟨z', hz', rfl⟩)⟩
end
end L3
namespace DaS
open PySem PySem.Spec PyProof PyProof.Rows L2
theorem get_list {X : Cx} : PGet X (rIxL X.K) := by
  intro pins s σ H x y v u Q I rx ry h
  obtain ⟨p, xs, i, z, rfl, rfl, hq, he, q⟩ := h
  cases rx
  obtain ⟨t, rfl⟩ := ry
  obtain ⟨its, r, pl, hz⟩ := I.list hq
  obtain ⟨j, h1, h2, h3, h4, h5⟩ := atI_get he
  obtain ⟨w, ew, rw'⟩ := r.get h2
  have hl := r.length
  have hn := line63
  have fin : EP X pins σ Q w s := ⟨z, H, I, rw', q⟩
  by_cases h0 : 0 ≤ i
  · have hj : i.toNat = j := by
      rw [seqIndex_of h0 h5] at h1
      exact Option.some.inj h1
    exact wpAny_getItem_list pl.isList h0 (by omega) (by rw [hj]; simpa using ew) fin
  · have hj : (i + (its.toArray.size : Int)).toNat = j := by
      rw [seqIndex_neg (by omega) h4] at h1
      rw [List.size_toArray, ← hl]
      exact Option.some.inj h1
    exact wpAny_getItem_list_neg pl.isList (by omega) (by rw [List.size_toArray] <;> omega) (by omega) (by rw [hj]; simpa using ew) fin
end DaS
namespace L3
open PySem PySem.Spec L2
open PyProof.Rows hiding St
/-- o[j] op= n, o a list of ours -/
def augIx (g : Int → Int → Int) (n : Int) (i : Nat) (st : List Stp) (ρ : Env) (j : D) (P : Env → Prop) : Prop := mb (getE ρ i st) fun o => match o, j with
  | .lst true xs, .int m => mb (ixN xs.length m) fun k => mb xs[k]? fun d => gi d fun z => P (putE ρ i st (.lst true (xs.set k (.int (g z n)))))
  | _, _ => False
section
variable {Y : Cy} {o a : Expr} {i : Nat} {pw : PW'} {kw : KW} {pos p2 p3 : Pos} {op : Operator} {g : Int → Int → Int}
theorem s_augIx {n : Int} {lit : Nat} (hop : PIp Y.X op (ipI g)) (ho : DP Y o i pw) (hi : DK Y a kw)
    (ha : ∀ ov iv new, PySem.augStore a ov iv new = (do holding [new, ov, iv] (setItem ov iv new); release [new, ov, iv] []; pure .next) := by intros; rfl) :
    DS Y (.AugAssign (.Subscript o a p2) op (.Constant (.int n) lit p3) pos) (fun K ρ => pw ρ fun st => kw ρ fun j => augIx g n i st ρ j K.nx) :=
  ⟨PS.imp (ps_augS ho.run hi.run DaS.get_list pe_int hop set_list ha) fun Z σ H ⟨F, R, ρ, B, K, S, hw, G⟩ => by
    refine rd_kP' (Y := Y) (o := fun st j => augIx g n i st ρ j K.nx) S hw G.ex ?_
    intro F2 H2 st x y d1 d2 A1 A2 A s2 k2 W2 p2 L r2 l2 q2
    obtain ⟨d0, e0, q2⟩ := mb_some q2
    rw [L.get] at e0; cases e0
    cases d1 with
    | lst m xs =>
      cases m with
      | false => cases d2 <;> exact q2.elim
      | true =>
        cases d2 with
        | int j =>
          obtain ⟨rfl, rfl⟩ := r2
          obtain ⟨k, ek, q5⟩ := mb_some q2
          obtain ⟨dz, ez, q6⟩ := mb_some q5
          obtain ⟨z0, rfl, q7⟩ := gi_of q6
          obtain ⟨a0, vs, B0, rfl, ha, rs, z⟩ := L.rep
          have ekv : ixN vs.length j = some k := by rw [reps_len rs]; exact ek
          obtain ⟨v0, B1, g1, g2, _⟩ := reps_get rs ez
          obtain ⟨rfl, _⟩ := g2
          refine ⟨a0, vs, j, .int z0, rfl, rfl, SqL.of ha, by unfold atI; rw [ekv]; exact g1, ?_⟩
          refine ⟨z0, n, rfl, rfl, ?_⟩
          refine ⟨a0, vs, j, k, rfl, rfl, ha, ekv, ?_⟩
          have hA1 : A1 a0 ≠ 0 := by rw [z]; exact fpA_r (fp1_self a0)
          obtain ⟨W4, kA2, kA⟩ := loc_write (A := fp0) (oo := .lst (vs.set k (.int (g z0 n)))) W2 L (by rw [fpA_0l]; exact p2) hA1
          obtain ⟨C1, l, hput⟩ := reps_put k rs
          have hn : ∀ b, C1 b ≠ 0 → (upd H2 a0 (.lst (vs.set k (.int (g z0 n))))) b = H2 b := fun b n => by
            refine upd_ne ?_
            rintro rfl
            have h1 := (p2 b).1
            have h2 := l b
            rw [L.fp, z] at h1
            unfold fpA at h1
            simp only [fp1, if_pos] at h1
            omega
          have rs2 := hput F2 _ (.int (g z0 n)) (.int (g z0 n)) fp0 (Same.refl F2) hn rep_int (ixN_lt ek)
          have sl2 := L.back F2 _ (.lst true (xs.set k (.int (g z0 n)))) _ (Same.refl F2) kA2 ⟨a0, _, _, rfl, upd_same, rs2, rfl⟩
          refine G.nx σ _ ⟨_, F2, _, s2, W4, sl2, p2.mono fun b => ?_, .refl, q7⟩
          have := l b
          rw [L.fp, z]
          unfold fpA fp0
          omega
        | _ => exact q2.elim
    | _ => cases d2 <;> exact q2.elim⟩
end
end L3
namespace L3
open PySem PySem.Spec L2
open PyProof.Rows hiding St
section
variable {Y : Cy} {a b c : Expr} {wa wb wc : KW} {pos : Pos} {r r' : R2} {o o' : D → D → (D → Prop) → Prop}
/-- a op1 b op2 c as a test -/
theorem b_chain {op op' : CmpOp} (ho : OpR Y.X (compareOp op) r) (hk : Op2S Y.X.K r o) (ho' : OpR Y.X (compareOp op') r') (hk' : Op2S Y.X.K r' o') (ha : DK Y a wa) (hb : DK Y b wb) (hc : DK Y c wc) (hm : lastMarks [op, op'] [b, c] = false := by with_unfolding_all rfl) :
    DB Y (.Compare a [op, op'] [b, c] pos) (fun ρ P => wa ρ fun x => wb ρ fun y => o x y fun z => bb z fun k => if k = true then wc ρ fun v => o' y v fun d => bb d P else P false) :=
  ⟨PT.imp (pt_chain ho ho' ha.run hb.run hc.run hm) fun σ H Q ⟨F, R, ρ, B, P, S, hw, hq, hx⟩ => ⟨F, R, ρ, B, _, S, hw, fun x H1 ⟨d1, F1, A1, s1, k1, W1, r1, l1, p1, q1⟩ => by
    have S1 := S.keep s1 k1 W1 p1
    refine ⟨F1, R, ρ, B, _, S1, q1, fun y H2 ⟨d2, F2, A2, s2, k2, W2, r2, l2, p2, q2⟩ => ?_, hx.grow s1⟩
    have S2 := S1.keep s2 k2 W2 p2
    have r1' : Rep Y.X.K F2 H2 d1 x A1 := rep_mono s2 d1 (fun a n => k2 a (by have := l1 a; omega)) r1
    refine hk W2.f r1' r2 q2 fun z ⟨dz, rz, qz⟩ => ?_
    obtain ⟨t, et, qk⟩ := bb_some qz
    subst et
    have qk : if t = true then wc ρ fun v => o' d2 v fun d => bb d P else P false := qk
    refine ⟨t, (rz F2 H2).1, ?_⟩
    by_cases ht : t = true
    · rw [if_pos ht] at qk ⊢
      refine ⟨F2, R, ρ, B, _, S2, qk, fun v H3 ⟨d3, F3, A3, s3, k3, W3, r3, l3, p3, q3⟩ => ?_, (hx.grow s1).grow s2⟩
      have r2' : Rep Y.X.K F3 H3 d2 y A2 := rep_mono s3 d2 (fun a n => k3 a (by have := l2 a; omega)) r2
      exact hk' W3.f r2' r3 q3 fun u ⟨du, ru, qu⟩ => by
        obtain ⟨t2, et2, q5⟩ := bb_some qu
        subst et2
        exact ⟨t2, (ru F3 H3).1, hq _ _ ⟨F3, s1.trans (s2.trans s3), fun a n => (k3 a n).trans ((k2 a n).trans (k1 a n)), W3, p3, q5⟩⟩
    · rw [if_neg ht] at qk ⊢
      exact ⟨false, rfl, hq _ _ ⟨F2, s1.trans s2, fun a n => (k2 a n).trans (k1 a n), W2, p2, qk⟩⟩, hx⟩⟩
end
end L3
/-! zip(a text, a list) -/
namespace ZpS
open PySem PySem.Spec PyProof.Rows L2
def ItZ (K : PySem.W.Frag) (x : Str) (b : Addr) : It :=
  ⟨fun i H => ∃ (ys : List V) (y : V), SqL K H b ys ∧ i < x.cps.size ∧ ys[i]? = some y,
    fun i H v H' => ∃ T c y, v = .ref T ∧ H T = none ∧ H' = upd H T (.tup [.str ⟨#[c]⟩, y]) ∧ x.cps[i]? = some c ∧ ∀ ys, SqL K H b ys → ys[i]? = some y,
    fun i H => ∃ ys : List V, SqL K H b ys ∧ i ≤ x.cps.size ∧ i ≤ ys.length ∧ (i = x.cps.size ∨ i = ys.length)⟩
theorem turnZ {P : Program} {w : World} {K : PySem.W.Frag} {elts : List Expr} {kk : Nat} {tpos : Pos} (x : Str) (t : Tok) {b z TI TO i1 i2 : Addr} (D : ZipSep2 z TI TO i1 i2 [i1] [i2, b]) :
    Turn P w K (.Tuple elts kk tpos) (ItZ K x b) [z, TI, TO, i1, i2] z (fun i h => IsZip h z TI TO .none ∧ IsTupOf2 h TI (.ref i1) (.ref i2) ∧ (∃ x y, IsTupOf2 h TO x y) ∧ h.IsStrIter i1 (strIterType x) x t i ∧ h.IsListIter i2 b i) where
  mem := by simp
  obj := fun i h st c hc => by
    obtain ⟨hz, hTI, ⟨x, y, hTO⟩, ⟨o1, e1, _, d1⟩, ⟨o2, e2, _, d2⟩⟩ := st
    have e' : c = z ∨ c = TI ∨ c = TO ∨ c = i1 ∨ c = i2 := by simpa using hc
    rcases e' with q | q | q | q | q
    · rw [q]; exact ⟨_, hz, fun v q => nomatch q⟩
    · rw [q]; exact ⟨_, hTI, fun v q => nomatch q⟩
    · rw [q]; exact ⟨_, hTO, fun v q => nomatch q⟩
    · rw [q]; exact ⟨o1, e1, fun v q => by rw [d1] at q; cases q⟩
    · rw [q]; exact ⟨o2, e2, fun v q => by rw [d2] at q; cases q⟩
  keep := fun i h h' st k => by
    obtain ⟨hz, hTI, ⟨x, y, hTO⟩, ⟨o1, e1, f1⟩, h2⟩ := st
    exact ⟨k z (by simp) _ hz, k TI (by simp) _ hTI, ⟨x, y, k TO (by simp) _ hTO⟩, ⟨o1, k i1 (by simp) _ e1, f1⟩, h2.at fun o q => k i2 (by simp) o q⟩
  item := by
    intro X hP hw hK hc i pins s σ H E I hf st hg
    subst hP hw hK
    obtain ⟨hz, hTI, ⟨x0, y0, hTO⟩, h1, h2⟩ := st
    obtain ⟨ys, y, hqy, hlt, hy⟩ := hg
    obtain ⟨its, rv, p, _⟩ := I.list hqy
    obtain ⟨u2, hu2, ru2⟩ := rv.get hy
    have hzl : z < s.heap.objs.size := Heap.lt_size hz
    have hbi : b ≠ i2 := fun e => by
      obtain ⟨o1, e1, c1, _⟩ := h2
      obtain ⟨o2, e2, c2, _⟩ := p.isList
      rw [e, e1] at e2
      cases e2
      rw [c1] at c2
      exact absurd c2 (by decide)
    have hh := I.ok.hd hc
    have hi2 : i < its.toArray.size := by
      rw [List.size_toArray]; exact (List.getElem?_eq_some_iff.mp hu2).1
    refine wpAny_pyNext_zipD2_item D (Draws.text (A := X.A.in1) hh i1 x t) (Draws.list (A := X.A.in1) hh i2 b hbi its.toArray) hz hTI hTO h1 ⟨h2, p.isList⟩ hlt hi2 fun x1 x2 h' tk q1 q2 z' TO' h1' h2' hT hsz hk => ?_
    obtain ⟨c, u, hcx, rfl⟩ := q1
    have ex2 : x2 = u2 := by
      have q2 : its.toArray[i]? = some x2 := q2
      rw [List.getElem?_toArray, hu2] at q2
      exact (Option.some.inj q2).symm
    subst ex2
    refine ⟨_, rfl, wpAny_letOwnedTupleGo_zip (s := { s with heap := h', toks := tk }) z' fun h'' z'' sb => ?_⟩
    have hT2 : h''.get? s.heap.objs.size = some { cls := .type "tuple", data := .seq #[.str ⟨#[c]⟩ u, x2] } := (sb.2 _ (Nat.ne_of_gt hzl)).trans hT
    have new : ObjOk X.prog X.w (upd H s.heap.objs.size (.tup [.str ⟨#[c]⟩, y])) h'' s.heap.objs.size (.tup [.str ⟨#[c]⟩, y]) :=
      ⟨by show 2 ≤ sizeLine; decide, [.str ⟨#[c]⟩ u, x2], .cons ⟨_, rfl⟩ (.cons ru2 .nil), ⟨_, hT2, rfl, _, rfl⟩⟩
    have I1 : Inv X pins σ (upd H s.heap.objs.size (.tup [.str ⟨#[c]⟩, y])) { s with heap := h'', toks := tk } :=
      I.turnedNew (ch := [z, TI, TO, i1, i2]) (fun c o hb q => (sb.2 c (fun q' => hb (by simp [q']))).trans (hk c o (fun q' => hb (by simp [q'])) (fun q' => hb (by simp [q'])) (fun q' => hb (by simp [q'])) (fun q' => hb (by simp [q'])) q)) hf (Nat.le_refl _) new
    refine ⟨.ref s.heap.objs.size, _, I1, rfl, ⟨_, c, y, rfl, I.hok.fresh (Nat.le_refl _), rfl, hcx, fun l hl => by rw [I.list_inj hl hqy]; exact hy⟩, ⟨z'', ?_, ⟨.str ⟨#[c]⟩ u, x2, ?_⟩, ?_, ?_⟩, fun c hcm => ?_⟩
    · exact (sb.2 _ D.TIz).trans (hk _ _ D.TIz D.TITO D.TIi1 D.TIi2 hTI)
    · exact (sb.2 _ D.TOz).trans TO'
    · obtain ⟨o, a1, a2⟩ := h1'
      exact ⟨o, (sb.2 _ D.zi1.symm).trans a1, a2⟩
    · exact h2'.1.at fun o q => (sb.2 _ D.zi2.symm).trans q
    · have hlt : c < s.heap.objs.size := by
        have e' : c = z ∨ c = TI ∨ c = TO ∨ c = i1 ∨ c = i2 := by simpa using hcm
        rcases e' with q | q | q | q | q
        · rw [q]; exact hzl
        · rw [q]; exact Heap.lt_size hTI
        · rw [q]; exact Heap.lt_size hTO
        · rw [q]; obtain ⟨_, e1, _⟩ := h1; exact Heap.lt_size e1
        · rw [q]; obtain ⟨_, e2, _⟩ := h2; exact Heap.lt_size e2
      rw [upd_ne (Nat.ne_of_lt hlt)]
      exact (hf c hcm).1
  done := by
    intro X hP hw hK hc i pins s σ H E I hf st hg
    subst hP hw hK
    obtain ⟨hz, hTI, ⟨x0, y0, hTO⟩, h1, h2⟩ := st
    obtain ⟨ys, hqy, hl1, hl2, hend⟩ := hg
    obtain ⟨its, rv, p, _⟩ := I.list hqy
    have l2 := rv.length
    have hbi : b ≠ i2 := fun e => by
      obtain ⟨o1, e1, c1, _⟩ := h2
      obtain ⟨o2, e2, c2, _⟩ := p.isList
      rw [e, e1] at e2
      cases e2
      rw [c1] at c2
      exact absurd c2 (by decide)
    have hh := I.ok.hd hc
    have hs : its.toArray.size = ys.length := by rw [List.size_toArray, ← l2]
    exact wpAny_pyNext_zipD2_end D (Draws.text (A := X.A.in1) hh i1 x t) (Draws.list (A := X.A.in1) hh i2 b hbi its.toArray) hz hTI hTO h1 ⟨h2, p.isList⟩ hl1 (by rw [hs]; exact hl2) (by rw [hs]; exact hend) fun h' tk hk => ⟨rfl, I.turnedL (ch := [z, TI, TO, i1, i2]) (fun c o hb q =>
      hk c o (fun q' => hb (by simp [q'])) (fun q' => hb (by simp [q'])) (fun q' => hb (by simp [q'])) (fun q' => hb (by simp [q'])) q) hf⟩
  self := fun A i s Q E st h => wpAny_pyIter_zip st.1 h
/-- zip of two lists, or of a text and a list -/
def iZipS (K : PySem.W.Frag) (ta : TA) : TI := fun σ H R => ta σ H fun vs H1 => (∃ a b xs ys, vs = [.ref a, .ref b] ∧ SqL K H1 a xs ∧ SqL K H1 b ys ∧ R (Itz K a b) H1) ∨ ∃ x b ys, vs = [.str x, .ref b] ∧ SqL K H1 b ys ∧ R (ItZ K x b) H1
theorem pi_zipS {X : Cx} {e e2 : Expr} {ta : TA} {p pos tpos : Pos} {elts : List Expr} {kk : Nat} (hg : Gl X "zip") (hm : X.mg "zip" = none) (ha : PA X [e, e2] ta)
    (hs : starEach [e, e2] X.env = (false, eval e X.env) :: starEach [e2] X.env := by rfl) (hpl : (backTo pos (starEach [e2] X.env)).any (·.1) = false := by rfl) :
    PI X (.Tuple elts kk tpos) (.Call (.Name "zip" p) [e, e2] [] pos) (iZipS X.K ta) := by
  refine ⟨fun pins s σ H R I h => ?_⟩
  refine Call_ (ld_blt I hg hm PyProof.Rows.boot_zip (PyProof.Rows.callWith_type1 (thn (ha.run pos pins s σ H _ I h) fun us s1 ⟨vs, H1, I1, r1, q1⟩ => ?_) hs hpl))
  have fresh5 : ∀ c, c ∈ [s1.heap.objs.size + 4, s1.heap.objs.size + 2, s1.heap.objs.size + 3, s1.heap.objs.size, s1.heap.objs.size + 1] → FpOk X pins H1 c := fun c hcm => by
    have e' : c = s1.heap.objs.size + 4 ∨ c = s1.heap.objs.size + 2 ∨ c = s1.heap.objs.size + 3 ∨ c = s1.heap.objs.size ∨ c = s1.heap.objs.size + 1 := by simpa using hcm
    have hle : s1.heap.objs.size ≤ c := by
      rcases e' with z | z | z | z | z
      · rw [z]; exact Nat.le_add_right _ _
      · rw [z]; exact Nat.le_add_right _ _
      · rw [z]; exact Nat.le_add_right _ _
      · rw [z]; exact Nat.le_refl _
      · rw [z]; exact Nat.le_add_right _ _
    exact I1.fpOk hle (I1.hok.fresh hle)
  rcases q1 with ⟨a, b, xs, ys, ex, hqx, hqy, q⟩ | ⟨x, b, ys, ex, hqy, q⟩
  · subst ex
    cases r1 with
    | cons r rr =>
      cases rr with
      | cons r' rr =>
        cases rr
        cases r
        cases r'
        obtain ⟨its, rv, p1, _⟩ := I1.list hqx
        obtain ⟨its2, rv2, p2, _⟩ := I1.list hqy
        refine call_zip_2 p1.isList p2.isList fun h' hz hTI hTO h1 h2 hsz hk => wpAny_pyIter_zip hz ?_
        have I2 : Inv X pins σ H1 { s1 with heap := h' } := I1.kept (t' := s1.toks) hk
        exact ⟨s1.heap.objs.size + 4, [s1.heap.objs.size + 4, s1.heap.objs.size + 2, s1.heap.objs.size + 3, s1.heap.objs.size, s1.heap.objs.size + 1], _, _, H1, rfl, I2, turn_zip (PySem.W.ktu_apart s1.heap.objs.size a b p1.lt p2.lt), ⟨hz, hTI, ⟨_, _, hTO⟩, h1, h2⟩, fresh5, q⟩
  · subst ex
    cases r1 with
    | cons r rr =>
      cases rr with
      | cons r' rr =>
        cases rr
        obtain ⟨t, rfl⟩ := r
        cases r'
        obtain ⟨its2, rv2, p2, _⟩ := I1.list hqy
        refine zip_begins2 (begins_text x t) (begins_list b its2.toArray) trivial p2.isList fun h' hz hTI hTO h1 h2 hsz hk => wpAny_pyIter_zip hz ?_
        have I2 : Inv X pins σ H1 { s1 with heap := h' } := I1.kept (t' := s1.toks) hk
        have S : ZipSep2 (s1.heap.objs.size + 4) (s1.heap.objs.size + 2) (s1.heap.objs.size + 3) s1.heap.objs.size (s1.heap.objs.size + 1) [s1.heap.objs.size] [s1.heap.objs.size + 1, b] :=
          zip_sep2 (fp1 := []) (fp2 := [b]) (fun _ h => nomatch h) (fun c h => by rw [List.mem_singleton.mp h]; exact p2.lt)
        exact ⟨s1.heap.objs.size + 4, [s1.heap.objs.size + 4, s1.heap.objs.size + 2, s1.heap.objs.size + 3, s1.heap.objs.size, s1.heap.objs.size + 1], _, _, H1, rfl, I2, turnZ x t S, ⟨hz, hTI, ⟨_, _, hTO⟩, ⟨_, h1, rfl, rfl⟩, ⟨_, h2, rfl, rfl⟩⟩, fresh5, q⟩
end ZpS
namespace L3
open PySem PySem.Spec L2
open PyProof.Rows hiding St
section
variable {K : PySem.W.Frag} {F H : Hp}
theorem walk_zpS {x : Str} {b : Addr} {ws : List V} {es : List D} (h2 : F b = some (.lst ws)) (r' : Reps K F H es ws fp0) : WalkD K (ZpS.ItZ K x b) (zipD (signs x) es) F := fun F2 H2 s1 s2 => by
  have e2 : SqL K H2 b ws := SqL.of (s2 _ _ (s1 _ _ h2))
  have r2' : Reps K F2 H2 es ws fp0 := reps_mono s1 es (fun a n => absurd rfl n) r'
  have hsg : (signs x).length = x.cps.size := by simp [signs]
  have hws : ws.length = es.length := reps_len r'
  refine ⟨fun i d e => ?_, ⟨ws, e2, by rw [zipD_len, hsg]; omega, by rw [zipD_len, hsg]; omega, by rw [zipD_len, hsg]; omega⟩⟩
  obtain ⟨d1, d2, g1, g2, rfl⟩ := zipD_get e
  obtain ⟨w, hw, rd'⟩ := reps_getf r2' g2
  have hi : i < x.cps.size := by rw [← hsg]; exact (List.getElem?_eq_some_iff.mp g1).1
  refine ⟨⟨ws, w, e2, hi, hw⟩, fun v H3 ⟨T, c, z, ex, hT, e3, hx, hy⟩ => .inr (.inl ⟨T, _, hT, e3, ?_⟩)⟩
  have q2 := hy ws e2
  rw [hw] at q2; cases q2
  have ed : d1 = .str ⟨#[c]⟩ := by
    unfold signs at g1
    rw [List.getElem?_map] at g1
    have : x.cps.toList[i]? = some c := by simpa using hx
    rw [this] at g1
    simpa using g1.symm
  subst ed ex e3
  exact rep_pair rep_str rd' hT s2
end
section
variable {Y : Cy} {a b : Expr} {el : LE} {p pos tpos : Pos}
/-- a list or a text, and a list, side by side -/
def zipS (ds : List D) (P : List D → Prop) : Prop := match ds with
  | [.lst _ xs, .lst _ ys] => P (zipD (frzs xs) (frzs ys))
  | [.str x, .lst _ ys] => P (zipD (signs x) (frzs ys))
  | _ => False
theorem i_zipS {elts : List Expr} {kk : Nat} (ha : DA Y [a, b] el) (hm : Y.X.mg "zip" = none) (hg : Gl Y.X "zip" := by rfl) (hs : starEach [a, b] Y.X.env = (false, eval a Y.X.env) :: starEach [b] Y.X.env := by rfl) (hpl : (backTo pos (starEach [b] Y.X.env)).any (·.1) = false := by rfl) :
    DI Y (.Tuple elts kk tpos) (.Call (.Name "zip" p) [a, b] [] pos) (fun ρ P => el ρ fun ds ρ1 => zipS ds fun xs => P xs ρ1) :=
  ⟨PI.imp (ZpS.pi_zipS hg hm ha.run hs hpl) fun σ H Q ⟨F, R, ρ, B, P, S, hw, hq, hx⟩ => ⟨F, R, ρ, B, _, S, hw, fun vs H1 ⟨ds, ρ1, F1, A, B1, s, W, r, sl, p, q⟩ => by
    have q : zipS ds fun xs => P xs ρ1 := q
    unfold zipS at q
    split at q
    · obtain ⟨F2, s2, W2, r2, sl2, p2⟩ := frz_tmps W r sl p
      obtain ⟨v, vr, B2, C2, ev, ⟨a0, us, rfl, ha0, ru⟩, ⟨v', vr', B3, C3, ev', ⟨a1, us', rfl, ha1, ru'⟩, ⟨e2, z2⟩, z3⟩, z⟩ := r2
      subst ev ev' e2
      obtain ⟨zB, zC⟩ := fp_zero2 z
      subst zB zC
      obtain ⟨zB, zC⟩ := fp_zero2 z3
      subst zB
      exact .inl ⟨a0, a1, us, us', rfl, SqL.of (W2.f _ _ ha0), SqL.of (W2.f _ _ ha1), hq _ _ ⟨_, ρ1, F2, B1, s.trans s2, W2, sl2, p2, walk_zip ha0 ha1 ru ru', q⟩⟩
    · obtain ⟨F2, s2, W2, r2, sl2, p2⟩ := frz_tmps W r sl p
      obtain ⟨v, vr, B2, C2, ev, ⟨rfl, _⟩, ⟨v', vr', B3, C3, ev', ⟨a1, us', rfl, ha1, ru'⟩, ⟨e2, z2⟩, z3⟩, z⟩ := r2
      subst ev ev' e2
      obtain ⟨zB, zC⟩ := fp_zero2 z
      subst zB zC
      obtain ⟨zB, zC⟩ := fp_zero2 z3
      subst zB
      exact .inr ⟨_, a1, us', rfl, SqL.of (W2.f _ _ ha1), hq _ _ ⟨_, ρ1, F2, B1, s.trans s2, W2, sl2, p2, walk_zpS ha1 ru', q⟩⟩
    · exact q.elim, hx⟩⟩
end
end L3
namespace L3
open PySem PySem.Spec L2
open PyProof.Rows hiding St
/-! text[::-1] -/
theorem rev_pick (z : Str) : ((Builtin.Str.strSliceIndices none none (-1) z.length).filterMap (z.cps[·]?)).toArray = z.cps.reverse := by
  rw [PyProof.Rows.picked_rev, PyProof.Rows.filterMap_get]
  · apply Array.ext
    · simp [Str.length]
    · intro i h1 h2
      have hi : i < z.cps.size := by simpa using h2
      have hn : z.length - 1 - i < z.cps.size := by show z.cps.size - 1 - i < z.cps.size; omega
      simp [Array.getD, Array.getElem_reverse, hn]
      rfl
  · intro i hi
    obtain ⟨k, hk, rfl⟩ := List.mem_map.mp hi
    have hk' : k < z.length := List.mem_range.mp hk
    show z.length - 1 - k < z.length
    omega
def tRevS (te : TE) : TE := fun σ H Q => te σ H fun x H1 => ∃ z, x = .str z ∧ z.length ≤ sizeLine ∧ Q (.str ⟨z.cps.reverse⟩) H1
section
variable {X : Cx}
theorem pe_revS {e : Expr} {te : TE} {k : Nat} {p1 p2 p3 pos : Pos} (he : PE X e te) : PE X (.Subscript e (.Slice none none (some (.UnaryOp .USub (.Constant (.int 1) k p1) p2)) p3) pos) (tRevS te) := by
  refine ⟨fun pins s σ H Q I h => ?_⟩
  refine Subscript_ (thn (he.run pins s σ H _ I h) fun v s1 ⟨x, H1, I1, r1, q1⟩ => ?_)
  obtain ⟨z, ex, hz, q⟩ := q1
  subst ex
  obtain ⟨t, rfl⟩ := r1
  have hst : PO X (some (.UnaryOp .USub (.Constant (.int 1) k p1) p2)) (tPart (tUn (rU fun i => .int (-i)) (tC (.int 1)))) := po_some (pe_un un_neg pe_int)
  refine wpAny_Slice (thn (po_none.run pins s1 σ H1 (fun o H2 => o = none ∧ H2 = H1) I1 ⟨rfl, rfl⟩) fun vl s2 ⟨l, H2, I2, pl, el, e2⟩ => ?_)
  subst el e2
  refine thn (po_none.run pins s2 σ H2 (fun o H3 => o = none ∧ H3 = H2) I2 ⟨rfl, rfl⟩) fun vu s3 ⟨u, H3, I3, pu, eu, e3⟩ => ?_
  subst eu e3
  refine thn (hst.run pins s3 σ H3 (fun o H4 => o = some (-1) ∧ H4 = H3) I3 ⟨1, rfl, -1, rfl, rfl, rfl⟩) fun vs s4 ⟨o, H4, I4, ps, eo, e4⟩ => ?_
  subst eo e4
  have I5 : Inv X pins σ H4 { s4 with heap := s4.heap.push { cls := .type "slice", data := .fields #[vl, vu, vs] } } := I4.kept (t' := s4.toks) fun b ob q => Heap.get?_push_of_some _ q
  cases pl
  cases pu
  cases ps with
  | int _ ut =>
    show wpAny (model X.prog X.w) X.A (subscriptTail e (.Slice none none (some (.UnaryOp .USub (.Constant (.int 1) k p1) p2)) p3) (.str z t) (.ref s4.heap.objs.size)) (EP X pins σ Q) X.xe { s4 with heap := s4.heap.push { cls := .type "slice", data := .fields #[.none, .none, .int (-1) ut] } }
    refine tail_any (ops := [.str z t, .ref s4.heap.objs.size]) (typeIs_str _ _ _) (F.slot_str_getitem.lookup) ?_ (by with_unfolding_all rfl)
    refine wpAny_getItem_str_slice (l := none) (u := none) (st := some (-1, ut)) ⟨_, Heap.get?_push_size _ rfl, rfl, rfl⟩ rfl ?_
    show Made.post (Made.str ⟨((Builtin.Str.strSliceIndices none none (-1) z.length).filterMap (z.cps[·]?)).toArray⟩) (EP X pins σ Q) _
    rw [rev_pick]
    have hl : (⟨z.cps.reverse⟩ : Str).length ≤ sizeLine := by show z.cps.reverse.size ≤ sizeLine; rw [Array.size_reverse]; exact hz
    exact ⟨hl, .str _, H4, I5.tok _, ⟨_, rfl⟩, q⟩
end
def oRevS (d : D) (P : D → Prop) : Prop := match d with
  | .str z => z.length ≤ sizeLine ∧ P (.str ⟨z.cps.reverse⟩)
  | _ => False
@[simp] theorem oRevS_s {z : Str} {P : D → Prop} : oRevS (.str z) P = (z.length ≤ sizeLine ∧ P (.str ⟨z.cps.reverse⟩)) := rfl
section
variable {Y : Cy} {e : Expr} {w : KW} {pos : Pos}
theorem f_revS {k : Nat} {p1 p2 p3 : Pos} (h : DK Y e w) : DF Y (.Subscript e (.Slice none none (some (.UnaryOp .USub (.Constant (.int 1) k p1) p2)) p3) pos) (fun ρ P => w ρ fun d => oRevS d P) :=
  ⟨PE.imp (pe_revS h.run) fun σ H Q ⟨F, R, ρ, B, P, S, hw, hq, hx⟩ => ⟨F, R, ρ, B, _, S, hw, fun v H1 ⟨d, F1, A, s, k, W, r, l, p, q⟩ => by
    replace q : oRevS d P := q
    cases d with
    | str z =>
      obtain ⟨rfl, hA⟩ := r
      subst hA
      exact ⟨z, rfl, q.1, hq _ _ ⟨.str ⟨z.cps.reverse⟩, F1, fp0, s, k, W, rep_str, p.mono fun a => by unfold fpA fp0; omega, q.2⟩⟩
    | _ => exact q.elim, hx⟩⟩
end
end L3
namespace L3
open PySem PySem.Spec L2
open PyProof.Rows hiding St
/-! all(xs), xs a list of truths -/
def asBls : List D → Option (List Bool)
  | [] => some []
  | .bl b :: r => (asBls r).map (b :: ·)
  | _ => none
theorem asBls_eq {ds : List D} {bs : List Bool} (h : asBls ds = some bs) : ds = bs.map D.bl := by
  induction ds generalizing bs with
  | nil => simp [asBls] at h; subst h; rfl
  | cons d ds ih =>
    cases d <;> simp only [asBls, Option.map_eq_some_iff, reduceCtorEq] at h
    obtain ⟨m, h1, rfl⟩ := h
    simp [ih h1]
theorem asBls_map : ∀ bs : List Bool, asBls (bs.map D.bl) = some bs
  | [] => rfl
  | b :: bs => by
    show (asBls (bs.map D.bl)).map (b :: ·) = _
    rw [asBls_map bs]; rfl
theorem bl_all : bootBuiltins "all" = some (.builtin "all") := by decide +kernel
section
variable {K : PySem.W.Frag} {F R H : Hp} {G A : FP}
theorem reps_bls : ∀ {bs : List Bool} {vs : List V} {A : FP}, Reps K F H (bs.map D.bl) vs A → vs = bs.map V.bl ∧ A = fp0
  | [], _, _, ⟨e, z⟩ => ⟨e, z⟩
  | b :: bs, _, _, r => by
    obtain ⟨v, vr, B, C, e, ⟨e1, z1⟩, q, z⟩ := r
    obtain ⟨h1, h2⟩ := reps_bls q
    subst e h1 e1
    exact ⟨rfl, by rw [z, z1, h2, fpA_0l]⟩
def oAll (ds : List D) (P : D → Prop) : Prop := one ds fun d => match d with
  | .lst _ xs => mb (asBls xs) fun bs => P (.bl (bs.all id))
  | _ => False
theorem opn_all {K} : OpNS K (rAll K) oAll := fun {F H G vs ds P Q} s b w q => by
  obtain ⟨d, rfl, w⟩ := one_of w
  obtain ⟨v, vr, rfl, ⟨A, r, l⟩, rfl⟩ := b
  cases d with
  | lst m xs =>
    obtain ⟨bs, e, h⟩ := mb_some w
    obtain ⟨p, vs, rfl, e1, B1, q1, _⟩ := lst_at s r
    rw [asBls_eq e] at q1
    rw [(reps_bls q1).1] at e1
    exact ⟨p, bs, rfl, SqL.of e1, q _ ⟨_, fun _ _ => rep_bl, h⟩⟩
  | _ => exact w.elim
end
end L3
/-! sorted of a tuple of tuples of ints and texts -/
namespace PyProof.Rows.G
open PySem PySem.W
section
variable {prog : Program} {w : World} {A : Around} {E : Value → Shared → Prop} {s : Shared}
set_option maxHeartbeats 4000000
/-- keys stay where tuples stay -/
theorem key_keep {h h' : Heap} {shape : Nat → Bool} {v : Value} {l : List (Int ⊕ List Nat)} (k : KeepsTups h h') (e : tupKeyC h shape v = some l) : tupKeyC h' shape v = some l := by
  obtain ⟨a, o, xs, n, rfl, ho, hc, hd, hi⟩ := tupKeyC_some e
  exact tupKeyC_of (k a o ho hc) hc hd hi
/-- sorted of a tuple: collected, a new list of it, sorted in place -/
theorem sorted_of_tuple {shape : Nat → Bool} {l : Addr} {o : Obj} {vs fs : List Value} {n : Nat} {Q : Value → Shared → Prop} (ho : s.heap.get? l = some o) (hc : o.cls = .type "tuple") (hd : o.data = .seq vs.toArray n)
    (ht : TupsOf s.heap shape vs fs) (hk : ∀ v, v ∈ vs → ∃ l, tupKeyC s.heap shape v = some l) (hL : vs.length ≤ sizeLine)
    (h : ∀ (st' : SortSt) (hm h' : Heap) (p : Addr) (e : Nat), KeepsTups s.heap hm → (arrOf st').Perm (pairsOf vs) → SortedToK (tupKindC hm shape) (arrOf st') (pairsOf vs).size → (∀ b u, s.heap.get? b = some u → h'.get? b = some u) → s.heap.get? p = none →
      h'.get? p = some (seqObj "list" ((arrOf st').map (·.2)) e) → Q (.ref p) { s with heap := h' }) :
    wpAny (model prog w) A (call (.builtin "sorted") [.ref l]) Q E s := by
  refine Calls.call_function_entry kind_sorted plain_sorted entry_sorted (args_sorted1 _) ?_
  unfold Builtin.«sorted»
  refine wpAny_bind (m := checkCount "sorted" 1 1 _) (wpAny_pure ?_)
  refine wpAny_bind (wpAny_collect_seq l (.inr rfl) ho hc hd (fun h1 k1 => ?_) (by simpa using hL))
  refine wpAny_bind (wpAny_newList ?_ (by simpa using hL))
  have e0 : vs.toArray.toList = vs := by simp
  have hp : s.heap.get? h1.objs.size = none := by
    cases q : s.heap.get? h1.objs.size with
    | none => rfl
    | some u => exact absurd (Heap.lt_size (k1 _ _ q)) (Nat.lt_irrefl _)
  have hoL : (h1.push (seqObj "list" vs.toArray 0)).get? h1.objs.size = some (seqObj "list" vs.toArray 0) := Heap.get?_push_size _ rfl
  have k2 : ∀ b u, s.heap.get? b = some u → (h1.push (seqObj "list" vs.toArray 0)).get? b = some u := fun b u q => Heap.get?_push_of_some _ (k1 b u q)
  have kt : KeepsTups s.heap (h1.push (seqObj "list" vs.toArray 0)) := fun b u q _ => k2 b u q
  show wpAny _ _ _ _ _ { s with heap := h1.push (seqObj "list" vs.toArray.toList.toArray 0) }
  rw [e0]
  refine wpAny_bind (wpAny_holding (wpAny_call_entry slot_list_sort ⟨_, hoL, rfl⟩ entry_list_sort (list_sort_tups (shape := shape) (fs := fs) hoL (TupsOf.keep kt ht) (fun v hv => ?_) hL fun st' a1 a2 _ => ⟨_, rfl, ?_⟩) (args_list_sort _)))
  · obtain ⟨z, hz⟩ := hk v hv
    exact ⟨z, key_keep kt hz⟩
  · obtain ⟨e, he⟩ := sortedHeap_at (vs := vs) (out := (arrOf st').map (·.2)) hoL
    have k3 : ∀ b u, (h1.push (seqObj "list" vs.toArray 0)).get? b = some u → b ≠ h1.objs.size → (sortedHeap (h1.push (seqObj "list" vs.toArray 0)) h1.objs.size vs ((arrOf st').map (·.2))).get? b = some u := fun b u q z => by
      rw [sortedHeap_old z (Heap.lt_size q)]; exact q
    refine wpAny_pure ⟨_, rfl, h st' _ _ _ e kt a1 a2 (fun b u q => k3 b u (k2 b u q) fun z => by rw [z, hp] at q; cases q) hp he⟩
end
end PyProof.Rows.G
namespace TuS
open PySem PySem.Spec PyProof.Rows L2
def rSortTuT (K : PySem.W.Frag) : List V → Hp → VK → Prop := fun vs H Q => ∃ (a : Addr) (as : List Addr) (shape : Nat → Bool) (ks : Addr → TK), vs = [.ref a] ∧ SqT K H a (as.map V.ref) ∧ (∀ t ∈ as, ∃ ws, SqT K H t ws ∧ vKey shape 0 ws = some (ks t) ∧ ws ≠ []) ∧
  ∀ (bs : List Addr) (p : Addr), bs.Perm as → bs.Pairwise (fun x y => lexLt itemOrd (ks y) (ks x) = false) → H p = none → Q (.ref p) (upd H p (.lst (bs.map V.ref)))
theorem cr_sortTuT {X : Cx} : CallR X (.builtin "sorted") (rSortTuT X.K) := by
  intro pins s σ H vs us Q I r h
  obtain ⟨a, as, shape, ks, rfl, hs, hx, q⟩ := h
  obtain ⟨its, rv, hl, hz⟩ := I.tuple hs
  rw [Vals.ref1 r]
  have ei : its = as.map Value.ref := refs_at rv
  subst ei
  obtain ⟨⟨fs, ht⟩, hk⟩ := tups_of I hx
  rw [List.length_map] at hz
  obtain ⟨ob, ho, hc, nn, hd⟩ := hl
  refine G.sorted_of_tuple ho hc hd ht (fun v hv => ?_) (by rw [List.length_map]; exact hz) fun st' hm h' p ep kt hp hso hkeep hpn he' => ?_
  · obtain ⟨t, htm, rfl⟩ := List.mem_map.mp hv
    exact ⟨_, hk t htm⟩
  · have hpl : (arrOf st').toList.Perm ((as.map Value.ref).zip (as.map Value.ref)) := by
      have e := Array.perm_iff_toList_perm.mp hp
      rw [pairsOf_toList] at e
      exact e
    have hall : ∀ p ∈ (arrOf st').toList, p.1 = p.2 := fun p hm => by
      have := hpl.mem_iff.mp hm
      exact (mem_zip_self this).1
    have hout : (((arrOf st').map (·.2)).toList).Perm (as.map Value.ref) := by
      rw [Array.toList_map]
      have := hpl.map (·.2)
      rwa [List.map_snd_zip (by simp)] at this
    obtain ⟨bs, hb, eb⟩ := perm_refs hout
    have hn : H p = none := I.hok.gone hpn
    have hbl : (bs.map V.ref).length ≤ sizeLine := by rw [List.length_map, hb.length_eq]; exact hz
    refine ⟨.ref _, upd H p (.lst (bs.map V.ref)), I.laidN (t' := s.toks) hkeep hpn hn ⟨hbl, bs.map Value.ref, ep, LiI.vals_refs bs, ?_⟩, rfl, q bs _ hb ?_ hn⟩
    · rw [← eb, Array.toArray_toList]; exact he'
    · rw [List.pairwise_iff_getElem]
      intro i j hi hj hij
      have hsz : (arrOf st').size = bs.length := by
        have := congrArg List.length eb
        simpa using this
      have key : ∀ i (hi : i < bs.length), KK (G.tupKindC hm shape) (arrOf st') i = ks bs[i] := fun i hi => by
        have hi' : i < (arrOf st').size := by omega
        have e1 : (arrOf st')[i]? = some (arrOf st')[i] := Array.getElem?_eq_getElem hi'
        have e2 : (arrOf st')[i].2 = Value.ref bs[i] := by
          have := congrArg (fun l => l[i]?) eb
          simp [hi, hi'] at this
          exact this
        have e3 := hall (arrOf st')[i] (by simp)
        unfold KK
        rw [e1]
        show (G.tupKeyC hm shape (arrOf st')[i].1).getD [] = _
        rw [e3, e2, G.key_keep kt (hk _ (hb.mem_iff.mp (List.getElem_mem hi)))]
        rfl
      have := hso i j (Nat.le_of_lt hij) (by rw [pairsOf_size, List.length_map, ← hb.length_eq]; exact hj)
      rw [key i hi, key j hj] at this
      exact this
end TuS
namespace L3
open PySem PySem.Spec L2
open PyProof.Rows hiding St
def tupD (d : D) (P : List D → Prop) : Prop := match d with
  | .tup xs => fzs xs = true ∧ P xs
  | _ => False
def oSortTuT (shape : Nat → Bool) (ds : List D) (P : D → Prop) : Prop := one ds fun d => tupD d fun xs => (∀ x ∈ xs, tuOk shape x) ∧ ∀ ys : List D, ys.Perm xs → ys.Pairwise (fun x y => lexLt itemOrd (tuK shape y) (tuK shape x) = false) → P (.lst true ys)
section
variable {K : PySem.W.Frag} {F H : Hp}
theorem tupD_of {d : D} {v : V} {A : FP} {P : List D → Prop} (s : Same F H) (r : Rep K F H d v A) (h : tupD d P) : ∃ p vs xs, v = .ref p ∧ SqT K H p vs ∧ Reps K F H xs vs fp0 ∧ fzs xs = true ∧ P xs := by
  cases d with
  | tup xs =>
    obtain ⟨p, vs, rfl, e1, q1⟩ := r
    rw [fzs_reps xs h.1 q1] at q1
    exact ⟨p, vs, xs, rfl, SqT.of (s _ _ e1), q1, h.1, h.2⟩
  | _ => exact h.elim
theorem opn_sortTuT {shape : Nat → Bool} : OpNF K (TuS.rSortTuT K) (oSortTuT shape) := fun {F R H G vs ds P Q} W ow S b w q => by
  obtain ⟨d, rfl, w⟩ := one_of w
  obtain ⟨v, vr, rfl, ⟨A, r, l⟩, rfl⟩ := b
  obtain ⟨p0, us, xs, rfl, e1, q1, hfx, hok, w2⟩ := tupD_of W.f r w
  obtain ⟨ps, rfl, rfl, hp⟩ := tup_refs W.f q1 hok
  -- equal addresses hold equal keys: the key is read off the heap
  have hkey : ∀ p ∈ ps, ∃ ws, F p.1 = some (.tup ws) ∧ TuS.vKey shape 0 ws = some (tuK shape p.2) ∧ ws ≠ [] := fun p hpm => by
    have hx := hok p.2 (List.mem_map.mpr ⟨p, hpm, rfl⟩)
    have hr := hp p hpm
    cases e : p.2 with
    | tup ws =>
      rw [e] at hx hr
      obtain ⟨a, us, ea, e6, r6⟩ := hr
      cases ea
      obtain ⟨k, ek⟩ := Option.isSome_iff_exists.mp hx.2
      refine ⟨us, e6, by rw [dKey_v r6 ek]; simp [tuK, ek], ?_⟩
      intro z
      rw [z] at r6
      have := reps_len r6
      exact hx.1 (List.length_eq_zero_iff.mp this.symm)
    | _ => rw [e] at hx; exact hx.elim
  let ks : Addr → TuS.TK := fun a => ((ps.find? fun p => p.1 == a).map fun p => tuK shape p.2).getD []
  have hks : ∀ p ∈ ps, ks p.1 = tuK shape p.2 := fun p hpm => by
    show ((ps.find? fun q => q.1 == p.1).map fun q => tuK shape q.2).getD [] = _
    cases ef : ps.find? fun q => q.1 == p.1 with
    | none =>
      have := List.find?_eq_none.mp ef p hpm
      simp at this
    | some q =>
      have hq := List.mem_of_find?_eq_some ef
      have eq1 : q.1 = p.1 := by have := List.find?_some ef; simpa using this
      obtain ⟨w1, s1, k1, _⟩ := hkey q hq
      obtain ⟨w2, s2, k2, _⟩ := hkey p hpm
      rw [eq1, s2] at s1
      have : w1 = w2 := by simpa using s1.symm
      rw [this, k2] at k1
      simp at k1
      simp [k1]
  refine ⟨p0, ps.map (·.1), shape, ks, rfl, by rw [List.map_map]; exact e1, fun t ht => ?_, fun bs n hb hso hn => ?_⟩
  · obtain ⟨p, hpm, rfl⟩ := List.mem_map.mp ht
    obtain ⟨ws, h1, h2, h3⟩ := hkey p hpm
    exact ⟨ws, SqT.of (W.f _ _ h1), by rw [h2, hks p hpm], h3⟩
  · obtain ⟨qs, hq, rfl⟩ := perm_ps hb
    have hq2 : ∀ p ∈ qs, Rep K F H p.2 (.ref p.1) fp0 := fun p hpm => hp p (hq.mem_iff.mp hpm)
    have hfzq : fzs (qs.map (·.2)) = true := by
      have h0 := hfx
      have : ∀ {l : List D}, fzs l = true ↔ ∀ x ∈ l, fz x = true := by
        intro l
        induction l with
        | nil => simp [fzs]
        | cons x l ih => simp [fzs, ih]
      rw [this] at h0 ⊢
      intro x hx
      obtain ⟨p, hpm, rfl⟩ := List.mem_map.mp hx
      exact h0 _ (List.mem_map.mpr ⟨p, hq.mem_iff.mp hpm, rfl⟩)
    obtain ⟨F', A', s', k', W', rd, p'⟩ := new_lst W ow S hn (reps_of_ps hq2) hfzq
    rw [List.map_map]
    refine q _ _ ⟨_, F', A', s', k', W', rd, p', w2 _ (hq.map _) ?_⟩
    rw [List.pairwise_map] at hso ⊢
    refine hso.imp_of_mem fun {x y} hx hy h => ?_
    rw [hks x (hq.mem_iff.mp hx), hks y (hq.mem_iff.mp hy)] at h
    exact h
/-- sorted: of lists as before, of tuples of tuples -/
def rSortB (K : PySem.W.Frag) : List V → Hp → VK → Prop := fun vs H Q => rSortA K vs H Q ∨ TuS.rSortTuT K vs H Q
def oSortB (ds : List D) (P : D → Prop) : Prop := oSortA ds P ∨ ∃ shape, oSortTuT shape ds P
theorem cr_sortB {X : Cx} (hc : X.calm = true) : CallR X (.builtin "sorted") (rSortB X.K) := CallR.or (cr_sortA hc) TuS.cr_sortTuT
theorem opn_sortB : OpNF K (rSortB K) oSortB := fun {F R H G vs ds P Q} W ow S b w q => by
  rcases w with w | ⟨sh, w⟩
  · exact .inl (opn_sortA W ow S b w q)
  · exact .inr (opn_sortTuT W ow S b w q)
end
end L3
/-! the readings, evaluated -/
namespace L3
open PySem PySem.Spec L2
open PyProof.Rows hiding St
section
variable {P : D → Prop} {Q : D → Env → Prop} {i j : Int} {n : Nat} {ρ : Env} {d e : D} {ds es xs ys : List D} {x y : Str} {m : Bool}
@[simp] theorem gv_0 : gv (some d :: ρ) 0 P = P d := rfl
@[simp] theorem gv_s {o : Option D} : gv (o :: ρ) (n + 1) P = gv ρ n P := rfl
@[simp] theorem bb_bl {b : Bool} {k : Bool → Prop} : bb (.bl b) k = k b := rfl
@[simp] theorem mb_so {α : Type} {a : α} {P : α → Prop} : mb (some a) P = P a := rfl
@[simp] theorem mb_no {α : Type} {P : α → Prop} : mb (none : Option α) P = False := rfl
@[simp] theorem oAdd_i : oAdd (.int i) (.int j) P = P (.int (i + j)) := rfl
@[simp] theorem oAdd_t : oAdd (.str x) (.str y) P = (x.length + y.length ≤ sizeLine ∧ P (.str (x ++ y))) := rfl
@[simp] theorem oAdd_l {m m' : Bool} : oAdd (.lst m xs) (.lst m' ys) P = (fzs xs = true ∧ fzs ys = true ∧ xs.length + ys.length ≤ sizeLine ∧ P (.lst true (xs ++ ys))) := rfl
@[simp] theorem oAdd_p : oAdd (.tup xs) (.tup ys) P = (fzs xs = true ∧ fzs ys = true ∧ xs.length + ys.length ≤ sizeLine ∧ P (.tup (xs ++ ys))) := rfl
@[simp] theorem oI_i {C : Int → Int → Prop} {g : Int → Int → D} : oI C g (.int i) (.int j) P = (C i j ∧ P (g i j)) := rfl
@[simp] theorem oI0_i {g : Int → Int → D} : oI0 g (.int i) (.int j) P = P (g i j) := rfl
@[simp] theorem gi_i {P : Int → Prop} : gi (.int i) P = P i := rfl
@[simp] theorem oRep_i : oRep (.int i) (.int j) P = (CMul i j ∧ P (.int (i * j))) := rfl
@[simp] theorem one_1 : one [d] P = P d := rfl
@[simp] theorem two_2 {P : D → D → Prop} : two [d, e] P = P d e := rfl
@[simp] theorem frz_i : frz (.int i) = .int i := rfl
@[simp] theorem frz_b {b : Bool} : frz (.bl b) = .bl b := rfl
@[simp] theorem frz_n : frz .non = .non := rfl
@[simp] theorem frz_s : frz (.str x) = .str x := rfl
@[simp] theorem frz_t : frz (.tup xs) = .tup (frzs xs) := rfl
@[simp] theorem frz_l : frz (.lst m xs) = .lst false (frzs xs) := rfl
@[simp] theorem frz_r {ns : List Int} : frz (.scr ns) = .scr ns := rfl
@[simp] theorem frzs_n : frzs [] = [] := rfl
@[simp] theorem frzs_c : frzs (d :: ds) = frz d :: frzs ds := rfl
@[simp] theorem fz_i : fz (.int i) = true := rfl
@[simp] theorem fz_b {b : Bool} : fz (.bl b) = true := rfl
@[simp] theorem fz_n : fz .non = true := rfl
@[simp] theorem fz_s : fz (.str x) = true := rfl
@[simp] theorem fz_r {ns : List Int} : fz (.scr ns) = true := rfl
@[simp] theorem fz_t : fz (.tup xs) = fzs xs := rfl
@[simp] theorem fz_l : fz (.lst m xs) = (!m && fzs xs) := rfl
@[simp] theorem fzs_n : fzs [] = true := rfl
@[simp] theorem fzs_c : fzs (d :: ds) = (fz d && fzs ds) := rfl
@[simp] theorem ix_l : oIx (.lst m xs) (.int i) P = mb (atI xs i) P := rfl
@[simp] theorem ix_t : oIx (.tup xs) (.int i) P = mb (atI xs i) P := rfl
@[simp] theorem ix_r {ns : List Int} : oIx (.scr ns) (.int i) P = mb (atI ns i) fun d => P (.int d) := rfl
@[simp] theorem ix_s : oIx (.str x) (.int i) P = (x.length ≤ sizeLine ∧ mb (atI x.cps.toList i) fun c => P (.str ⟨#[c]⟩)) := rfl
@[simp] theorem gtNil_n {P : Env → Prop} : gtNil [] ρ P = P ρ := rfl
@[simp] theorem gtCons_c {P : Env → Prop} {w : GT} {u : List D → Env → (Env → Prop) → Prop} : gtCons w u (d :: ds) ρ P = w d ρ fun ρ1 => u ds ρ1 P := rfl
@[simp] theorem gtTup_t {P : Env → Prop} {u : List D → Env → (Env → Prop) → Prop} : gtTup n u (.tup ds) ρ P = (ds.length = n ∧ u ds ρ P) := rfl
@[simp] theorem sany_l {P : List D → Prop} : seqAny (.lst m ds) P = P (frzs ds) := rfl
@[simp] theorem sany_t {P : List D → Prop} : seqAny (.tup ds) P = P (frzs ds) := rfl
@[simp] theorem sany_s {P : List D → Prop} : seqAny (.str x) P = P (signs x) := rfl
@[simp] theorem rng1_i {P : List D → Prop} : rng1 [.int j] P = (small62 j ∧ P (rngD 0 j.toNat)) := rfl
@[simp] theorem rng2_i {P : List D → Prop} : rng2 [.int i, .int j] P = (small62 i ∧ small62 j ∧ P (rngD i (j - i).toNat)) := rfl
@[simp] theorem oLen_l : oLen [.lst m xs] P = P (.int xs.length) := rfl
@[simp] theorem oLen_t : oLen [.tup xs] P = P (.int xs.length) := rfl
@[simp] theorem oLen_r {ns : List Int} : oLen [.scr ns] P = P (.int ns.length) := rfl
@[simp] theorem oLen_s : oLen [.str x] P = (x.length ≤ sizeLine ∧ P (.int x.length)) := rfl
@[simp] theorem oTuple_l : oTuple [.lst m xs] P = (fzs xs = true ∧ P (.tup xs)) := rfl
@[simp] theorem oTuple_t : oTuple [.tup xs] P = (fzs xs = true ∧ P (.tup xs)) := rfl
@[simp] theorem oList_l : oList [.lst m xs] P = (fzs xs = true ∧ P (.lst true xs)) := rfl
@[simp] theorem oList_t : oList [.tup xs] P = (fzs xs = true ∧ P (.lst true xs)) := rfl
@[simp] theorem oInt1_i : oInt1 [.int i] P = P (.int i) := rfl
@[simp] theorem oInt1_b {b : Bool} : oInt1 [.bl b] P = P (.int (if b then 1 else 0)) := rfl
@[simp] theorem isLst_l : isLst (.lst m xs) = True := rfl
@[simp] theorem oAppend_1 {Q : D → List D → Prop} : oAppend xs [d] Q = (xs.length < sizeLine ∧ Q .non (xs ++ [d])) := rfl
@[simp] theorem getE_0 : getE (some d :: ρ) 0 [] = some d := rfl
@[simp] theorem getE_s {o : Option D} {st : List Stp} : getE (o :: ρ) (n + 1) st = getE ρ n st := rfl
@[simp] theorem putE_0 : putE (some d :: ρ) 0 [] e = some e :: ρ := rfl
@[simp] theorem putE_s {o : Option D} {st : List Stp} : putE (o :: ρ) (n + 1) st e = o :: putE ρ n st e := by
  simp only [putE, List.getElem?_cons_succ]
  split <;> simp_all
theorem putE_z {o : Option D} : putE (some d :: ρ) 0 [] e = some e :: ρ := rfl
@[simp] theorem mutL_eq {o : List D → List D → (D → List D → Prop) → Prop} {st : List Stp} (h : getE ρ n st = some (.lst true xs)) : mutL o n st ds ρ Q = o xs ds fun d xs' => Q d (putE ρ n st (.lst true xs')) := by
  unfold mutL; rw [h]; rfl
@[simp] theorem stIx_eq {P : Env → Prop} {st : List Stp} (h : getE ρ n st = some (.lst true xs)) : stIx n st ρ (.int i) d P = mb (ixN xs.length i) fun k => P (putE ρ n st (.lst true (xs.set k d))) := by
  unfold stIx; rw [h]; rfl
@[simp] theorem stDic_eq {P : Env → Prop} {st : List Stp} {t : Kd} {kvs : List (KD × D)} {k : KD} (h : getE ρ n st = some (.dic .ow t kvs)) (hk : keyD t e = some k) : stDic n st ρ e d P = (kvs.length < sizeLine ∧ P (putE ρ n st (.dic .ow t (kput kvs k d)))) := by
  unfold stDic; rw [h]; simp [hk]
@[simp] theorem ftch_n {k : List D → Env → Prop} : ftch [] ρ k = k [] ρ := rfl
@[simp] theorem ftch_v {as : List Arg} {k : List D → Env → Prop} : ftch (.val d :: as) ρ k = ftch as ρ fun ds ρ' => k (d :: ds) ρ' := rfl
@[simp] theorem ftch_r {as : List Arg} {k : List D → Env → Prop} : ftch (.ref n :: as) ρ k = gv ρ n fun d => ftch as (ρ.set n (some .gone)) fun ds ρ' => k (d :: ds) ρ' := rfl
@[simp] theorem bck_n : bck [] ds ρ = ρ := by cases ds <;> rfl
@[simp] theorem bck_v {as : List Arg} : bck (.val e :: as) (d :: ds) ρ = bck as ds ρ := rfl
@[simp] theorem bck_r {as : List Arg} : bck (.ref n :: as) (d :: ds) ρ = (bck as ds ρ).set n (some d) := rfl
theorem cal_eq {sp : DSp} {ex : Value → Env → Prop} {as : List Arg} : cal sp ex as ρ Q = ftch as ρ fun ds ρ' => sp ds (fun d ds' => Q d (bck as ds' ρ')) (fun c ds' => ex c (bck as ds' ρ')) := rfl
@[simp] theorem outs_t {fl : List Bool} : outs (true :: fl) (some d :: ρ) = d :: outs fl ρ := rfl
@[simp] theorem outs_f {fl : List Bool} {o : Option D} : outs (false :: fl) (o :: ρ) = .gone :: outs fl ρ := by cases o <;> rfl
@[simp] theorem outs_n : outs [] ρ = [] := by cases ρ <;> rfl
@[simp] theorem dicOf_d {m : Md} {t : Kd} {kvs : List (KD × D)} {P : Kd → List (KD × D) → Prop} : dicOf (.dic m t kvs) P = P t kvs := rfl
@[simp] theorem isN_n : oIsN .non .non P = P (.bl true) := rfl
@[simp] theorem isN_i : oIsN (.int i) .non P = P (.bl false) := rfl
@[simp] theorem isN_s : oIsN (.str x) .non P = P (.bl false) := rfl
@[simp] theorem isN_t : oIsN (.tup xs) .non P = P (.bl false) := rfl
@[simp] theorem isN_l : oIsN (.lst m xs) .non P = P (.bl false) := rfl
@[simp] theorem isN_b {b : Bool} : oIsN (.bl b) .non P = P (.bl false) := rfl
@[simp] theorem notN_n : oNotN .non .non P = P (.bl false) := rfl
@[simp] theorem notN_i : oNotN (.int i) .non P = P (.bl true) := rfl
@[simp] theorem notN_s : oNotN (.str x) .non P = P (.bl true) := rfl
@[simp] theorem notN_t : oNotN (.tup xs) .non P = P (.bl true) := rfl
@[simp] theorem notN_l : oNotN (.lst m xs) .non P = P (.bl true) := rfl
@[simp] theorem notN_b {b : Bool} : oNotN (.bl b) .non P = P (.bl true) := rfl
@[simp] theorem mask_n : mask [] = [] := rfl
@[simp] theorem mask_0 : mask (none :: ρ) = none :: mask ρ := rfl
@[simp] theorem mask_s : mask (some d :: ρ) = (if fz d = true then some d else none) :: mask ρ := rfl
@[simp] theorem startE_eq : startE n ds = ds.map some ++ List.replicate (n - ds.length) none := rfl
@[simp] theorem wipeE_n : wipeE ρ [] = ρ := rfl
@[simp] theorem wipeE_c {v : Nat} {vs : List Nat} : wipeE ρ (v :: vs) = (wipeE ρ vs).set v none := rfl
@[simp] theorem coolE_n : coolE ρ [] = ρ := rfl
@[simp] theorem coolE_c {v : Nat} {vs : List Nat} : coolE ρ (v :: vs) = coolE (cool1 ρ v) vs := rfl
@[simp] theorem backE_n {ρ0 : Env} : backE ρ0 ρ [] = ρ := rfl
@[simp] theorem backE_c {ρ0 : Env} {v : Nat} {vs : List Nat} : backE ρ0 ρ (v :: vs) = (backE ρ0 ρ vs).set v (ρ0[v]?.getD none) := rfl
@[simp] theorem cool1_z0 : cool1 (none :: ρ) 0 = none :: ρ := rfl
@[simp] theorem cool1_zs : cool1 (some d :: ρ) 0 = some (frz d) :: ρ := rfl
@[simp] theorem cool1_s {o : Option D} {v : Nat} : cool1 (o :: ρ) (v + 1) = o :: cool1 ρ v := by
  unfold cool1
  simp only [List.getElem?_cons_succ]
  split <;> simp_all
theorem frzs_ints' : ∀ ns : List Int, frzs (ns.map D.int) = ns.map D.int
  | [] => rfl
  | n :: ns => by simp [frzs_ints' ns]
theorem frz_id {d : D} (h : fz d = true) : frz d = d := frz_fz d h
end
/-! loops by an invariant -/
theorem forD_inv {g : GT} {body : SW} {K : En} (I : Nat → Env → Prop) {ds : List D} {ρ : Env} (h0 : I 0 ρ)
    (hs : ∀ (i : Nat) (d : D) (ρ : Env), ds[i]? = some d → I i ρ → ∀ rest : Env → Prop, (∀ ρ2, I (i + 1) ρ2 → rest ρ2) → g d ρ fun ρ1 => body { K with nx := rest, ct := rest, bk := K.nx } ρ1)
    (hn : ∀ ρ, I ds.length ρ → K.nx ρ) : forD g body K ds ρ := by
  suffices H : ∀ (m i : Nat) (ρ : Env), ds.length - i = m → i ≤ ds.length → I i ρ → forD g body K (ds.drop i) ρ by
    have := H ds.length 0 ρ (by omega) (by omega) h0
    simpa using this
  intro m
  induction m with
  | zero =>
    intro i ρ hm hi hI
    have e : i = ds.length := by omega
    subst e
    rw [List.drop_length]
    exact hn ρ hI
  | succ m ih =>
    intro i ρ hm hi hI
    have hi' : i < ds.length := by omega
    rw [List.drop_eq_getElem_cons hi']
    exact hs i ds[i] ρ (List.getElem?_eq_getElem hi') hI _ fun ρ2 h2 => ih (i + 1) ρ2 (by omega) (by omega) h2
theorem compD_inv {g : GT} {t : TW} {elt : DW} {vs : List Nat} {Q : List D → Env → Prop} (I : Nat → List D → Env → Prop) {ds : List D} {ρ : Env} (h0 : I 0 [] ρ)
    (hs : ∀ (i : Nat) (d : D) (acc : List D) (ρ : Env), ds[i]? = some d → I i acc ρ → ∀ rest : List D → Env → Prop, (∀ acc' ρ2, I (i + 1) acc' ρ2 → rest acc' ρ2) →
      g d ρ fun ρ1 => t ρ1 fun c ρ2 => if c = true then elt ρ2 fun x ρ3 => rest (acc ++ [x]) (wipeE ρ3 vs) else rest acc (wipeE ρ2 vs))
    (hn : ∀ acc ρ, I ds.length acc ρ → Q acc ρ) : compD g t elt vs ds ρ Q := by
  suffices H : ∀ (m i : Nat) (acc : List D) (ρ : Env), ds.length - i = m → i ≤ ds.length → I i acc ρ → compD g t elt vs (ds.drop i) ρ (fun xs ρ4 => Q (acc ++ xs) ρ4) by
    have := H ds.length 0 [] ρ (by omega) (by omega) h0
    simpa using this
  intro m
  induction m with
  | zero =>
    intro i acc ρ hm hi hI
    have e : i = ds.length := by omega
    subst e
    rw [List.drop_length]
    show Q (acc ++ []) ρ
    rw [List.append_nil]
    exact hn acc ρ hI
  | succ m ih =>
    intro i acc ρ hm hi hI
    have hi' : i < ds.length := by omega
    rw [List.drop_eq_getElem_cons hi']
    have := hs i ds[i] acc ρ (List.getElem?_eq_getElem hi') hI (fun acc' ρ2 => compD g t elt vs (ds.drop (i + 1)) ρ2 (fun xs ρ4 => Q (acc' ++ xs) ρ4)) fun acc' ρ2 h2 => ih (i + 1) acc' ρ2 (by omega) (by omega) h2
    simpa [compD, List.append_assoc] using this
/-! places in lists -/
section
variable {α : Type} {a b c d : α} {xs : List α}
@[simp] theorem at0 : atI (a :: xs) 0 = some a := by
  have h : (0 : Int) < ((a :: xs).length : Int) := by simp only [List.length_cons]; omega
  unfold atI ixN; rw [if_pos (by decide), if_pos h]; rfl
@[simp] theorem at1 : atI (a :: b :: xs) 1 = some b := by
  have h : (1 : Int) < ((a :: b :: xs).length : Int) := by simp only [List.length_cons]; omega
  unfold atI ixN; rw [if_pos (by decide), if_pos h]; rfl
@[simp] theorem at2 : atI (a :: b :: c :: xs) 2 = some c := by
  have h : (2 : Int) < ((a :: b :: c :: xs).length : Int) := by simp only [List.length_cons]; omega
  unfold atI ixN; rw [if_pos (by decide), if_pos h]; rfl
@[simp] theorem at3 : atI (a :: b :: c :: d :: xs) 3 = some d := by
  have h : (3 : Int) < ((a :: b :: c :: d :: xs).length : Int) := by simp only [List.length_cons]; omega
  unfold atI ixN; rw [if_pos (by decide), if_pos h]; rfl
theorem atN {i : Int} (h0 : 0 ≤ i) (h1 : i < xs.length) : ∃ x, xs[i.toNat]? = some x ∧ atI xs i = some x ∧ x ∈ xs := by
  have h : i.toNat < xs.length := by omega
  refine ⟨xs[i.toNat], List.getElem?_eq_getElem h, ?_, List.getElem_mem h⟩
  unfold atI ixN
  simp [h0, h1, List.getElem?_eq_getElem h]
end
@[simp] theorem ix20 : ixN 2 0 = some 0 := rfl
@[simp] theorem ix21 : ixN 2 1 = some 1 := rfl
@[simp] theorem ix30 : ixN 3 0 = some 0 := rfl
@[simp] theorem ix31 : ixN 3 1 = some 1 := rfl
@[simp] theorem ix32 : ixN 3 2 = some 2 := rfl
theorem szl : sizeLine = 16777216 := rfl
/-! what is equal -/
theorem deq_refl {d : D} (h : pyOk 64 d = true) : deq d d = true := PySem.SeqAt.eqv_refl (toPy d) (pyOk_lay 64 d h).1
@[simp] theorem deq_i {i j : Int} : deq (.int i) (.int j) = decide (i = j) := by
  show (i == j) = _
  rw [Bool.eq_iff_iff]; simp
@[simp] theorem pyOk_i {n : Nat} {i : Int} : pyOk n (.int i) = true := by cases n <;> rfl
@[simp] theorem pyOk_n {n : Nat} : pyOk n .non = true := by cases n <;> rfl
@[simp] theorem pyOk_b {n : Nat} {b : Bool} : pyOk n (.bl b) = true := by cases n <;> rfl
@[simp] theorem pyOk_r {n : Nat} {ns : List Int} : pyOk (n + 1) (.scr ns) = true := rfl
@[simp] theorem pyOk_t {n : Nat} {xs : List D} : pyOk (n + 1) (.tup xs) = pyOks n xs := rfl
@[simp] theorem pyOk_l {n : Nat} {m : Bool} {xs : List D} : pyOk (n + 1) (.lst m xs) = pyOks n xs := rfl
@[simp] theorem pyOks_n {n : Nat} : pyOks n [] = true := by cases n <;> rfl
@[simp] theorem pyOks_c {n : Nat} {x : D} {xs : List D} : pyOks n (x :: xs) = (pyOk n x && pyOks n xs) := by cases n <;> rfl
theorem pyOks_all {n : Nat} : ∀ {xs : List D}, (∀ x ∈ xs, pyOk n x = true) → pyOks n xs = true
  | [], _ => by simp
  | x :: xs, h => by simp [h x (by simp), pyOks_all (xs := xs) fun y hy => h y (by simp [hy])]
@[simp] theorem pyOks_ints {n : Nat} (ns : List Int) : pyOks n (ns.map D.int) = true := pyOks_all fun x hx => by
  obtain ⟨i, _, rfl⟩ := List.mem_map.mp hx; simp
@[simp] theorem deq_ll {m m' : Bool} {xs ys : List D} : deq (.lst m xs) (.lst m' ys) = PySem.PyData.eqvAll (toPys xs) (toPys ys) := rfl
@[simp] theorem deq_rl {m : Bool} {ns : List Int} {ys : List D} : deq (.scr ns) (.lst m ys) = PySem.PyData.eqvAll (ns.map PyData.int) (toPys ys) := rfl
@[simp] theorem deq_tt {xs ys : List D} : deq (.tup xs) (.tup ys) = PySem.PyData.eqvAll (toPys xs) (toPys ys) := rfl
@[simp] theorem deq_ss {x y : Str} : deq (.str x) (.str y) = (x == y) := rfl
@[simp] theorem toPys_n : toPys [] = [] := rfl
@[simp] theorem toPys_c {x : D} {xs : List D} : toPys (x :: xs) = toPy x :: toPys xs := rfl
@[simp] theorem eqvA_nn : PySem.PyData.eqvAll [] [] = true := by rw [PySem.PyData.eqvAll]
@[simp] theorem eqvA_cc {x y : PyData} {xs ys : List PyData} : PySem.PyData.eqvAll (x :: xs) (y :: ys) = (PySem.PyData.eqv x y && PySem.PyData.eqvAll xs ys) := by rw [PySem.PyData.eqvAll]
@[simp] theorem eqvA_nc {y : PyData} {ys : List PyData} : PySem.PyData.eqvAll [] (y :: ys) = false := by rw [PySem.PyData.eqvAll]
@[simp] theorem eqvA_cn {y : PyData} {ys : List PyData} : PySem.PyData.eqvAll (y :: ys) [] = false := by rw [PySem.PyData.eqvAll]
@[simp] theorem eqv_ii {i j : Int} : PySem.PyData.eqv (toPy (.int i)) (toPy (.int j)) = decide (i = j) := deq_i
theorem eqvA_ints : ∀ (xs ys : List Int), PySem.PyData.eqvAll (toPys (xs.map D.int)) (toPys (ys.map D.int)) = decide (xs = ys)
  | [], [] => by simp
  | [], y :: ys => by simp
  | x :: xs, [] => by simp
  | x :: xs, y :: ys => by simp [eqvA_ints xs ys]
@[simp] theorem frzs_ints (ns : List Int) : frzs (ns.map D.int) = ns.map D.int := frzs_ints' ns
/-! a range -/
theorem rngD_eq : ∀ (n : Nat) (a : Int), rngD a n = (List.range n).map fun k => D.int (a + (k : Nat))
  | 0, a => rfl
  | n + 1, a => by
    show D.int a :: rngD (a + 1) n = _
    rw [rngD_eq n (a + 1), List.range_succ_eq_map, List.map_cons, List.map_map]
    simp only [List.cons.injEq]
    refine ⟨by simp, List.map_congr_left fun k _ => ?_⟩
    simp only [Function.comp]
    congr 1
    push_cast
    omega
theorem rngD_at {n : Nat} {a : Int} {i : Nat} {d : D} (h : (rngD a n)[i]? = some d) : i < n ∧ d = .int (a + (i : Nat)) := by
  rw [rngD_eq, List.getElem?_map] at h
  have hi : i < n := by
    apply Decidable.byContradiction
    intro hi
    rw [List.getElem?_eq_none (by simp; omega)] at h
    simp at h
  rw [List.getElem?_eq_getElem (by simpa using hi)] at h
  simp at h
  exact ⟨hi, h.symm⟩
/-! texts -/
@[simp] theorem cps_len (x : Str) : x.cps.toList.length = x.length := by simp [Str.length]
def chr (c : Nat) : Str := ⟨#[c]⟩
theorem glued_chr : ∀ (cs : List Nat) (acc : Array Nat), (cs.map chr).foldl (fun acc p => acc ++ (Str.ofString "").cps ++ p.cps) acc = acc ++ cs.toArray := by
  intro cs
  induction cs with
  | nil => intro acc; simp
  | cons c cs ih =>
    intro acc
    rw [List.map_cons, List.foldl_cons, ih]
    have e : (Str.ofString "").cps = #[] := by decide +kernel
    rw [e]
    simp [chr]
theorem join_chr (cs : List Nat) : Txt.join "" (cs.map chr) = ⟨cs.toArray⟩ := by
  cases cs with
  | nil => decide +kernel
  | cons c cs =>
    show Builtin.Str.glued "" _ = _
    unfold Builtin.Str.glued
    simp only [List.map_cons, List.drop_succ_cons, List.drop_zero, List.headD_cons]
    rw [glued_chr]
    simp [chr]
theorem asStrs_chr (cs : List Nat) : asStrs (cs.map fun c => D.str (chr c)) = some (cs.map chr) := by
  induction cs with
  | nil => rfl
  | cons c cs ih => simp [asStrs, ih]
theorem sum_chr (cs : List Nat) : ((cs.map chr).map (·.length)).sum = cs.length := by
  induction cs with
  | nil => rfl
  | cons c cs ih =>
    simp only [List.map_cons, List.sum_cons, ih, List.length_cons]
    have : (chr c).length = 1 := rfl
    omega
theorem join_chrs {cs : List Nat} {m : Bool} {P : D → Prop} (h : cs.length ≤ 16777216) (hP : P (.str ⟨cs.toArray⟩)) : oJoin "" (.lst m (cs.map fun c => D.str (chr c))) P := by
  unfold oJoin
  simp only [asStrs_chr, mb_so, sum_chr, join_chr, List.length_map]
  refine ⟨?_, hP⟩
  have : (Str.length "") = 0 := by decide +kernel
  rw [this]; omega
@[simp] theorem len_mk (cs : List Nat) : Str.length ⟨cs.toArray⟩ = cs.length := by simp [Str.length]
@[simp] theorem gv_lit {ρ : Env} {P : D → Prop} {n : Nat} {d : D} (h : ρ[n]? = some (some d)) : gv ρ n P = P d := by unfold gv; rw [h]
theorem rngD_at0 {n i : Nat} {d : D} (h : (rngD 0 n)[i]? = some d) : i < n ∧ d = .int (i : Nat) := by
  obtain ⟨h1, h2⟩ := rngD_at h
  exact ⟨h1, by rw [h2, Int.zero_add]⟩
@[simp] theorem seqK_l {m : Bool} {xs : List D} {P : List D → Prop} : seqK (.lst m xs) P = (fzs xs = true ∧ P xs) := rfl
@[simp] theorem seqK_t {xs : List D} {P : List D → Prop} : seqK (.tup xs) P = (fzs xs = true ∧ P xs) := rfl
@[simp] theorem seqK_s {x : Str} {P : List D → Prop} : seqK (.str x) P = P (signs x) := rfl
@[simp] theorem seqK_r {ns : List Int} {P : List D → Prop} : seqK (.scr ns) P = P (ns.map .int) := rfl
@[simp] theorem keepK_eq {i : Nat} {d : D} {K : En} : keepK i d K = { nx := fun ρ => i < ρ.length ∧ K.nx (ρ.set i (some d)), rt := fun x ρ => i < ρ.length ∧ K.rt x (ρ.set i (some d)), bk := fun ρ => i < ρ.length ∧ K.bk (ρ.set i (some d)), ct := fun ρ => i < ρ.length ∧ K.ct (ρ.set i (some d)) } := rfl
end L3
namespace L3
open PySem PySem.Spec L2
open PyProof.Rows hiding St
/-! from the head's facts to the defs -/
theorem fun_of {K : PySem.W.Frag} {x qual : Str} {st : Stmt} {kws : List (Str × V)} {f : Addr} {fd : FuncData} (F : FunD K x qual (defArgs st) (defBody st) (defScope st) [] kws f fd) : Fun K x qual st f fd := by
  obtain ⟨oc, od, dV, kV, doc, pm, an, cdv, ct, osl, h1, h2, h3, h4, h5⟩ := F.ex
  rcases h4 with ⟨_, e⟩ | ⟨e, _⟩
  · subst e
    exact ⟨⟨oc, od, kV, doc, pm, an, cdv, ct, osl, h1, h2, h3⟩, F.kp⟩
  · exact absurd rfl e
theorem df_of {K : PySem.W.Frag} {h : Heap} {mg : Str → Option Value} {x : Str} {st : Stmt} {ps : List Str} {fd : FuncData} (X : K.In h) (G : h.Ns mainGlobals mg) (c : (He.Fa.glo x).ok K = true) (F : FunD K x x (defArgs st) (defBody st) (defScope st) [] [] (He.ga K x) fd)
    (hb : ∀ (kV doc pm : Value) (an : Option Addr) (cdv ct : Value) (us : List Value), us.length = ps.length → bindArgs (PySem.W.fnOf x x (defArgs st) (defBody st) (defScope st) .none kV doc pm an cdv ct) ⟨us, []⟩ = pure (ps.zip us)) : Df K mg x x st ps :=
  ⟨⟨_, fd, fun_of F, He.glo_ok X G c, F.bindsN hb⟩⟩
theorem cls_of {K : PySem.W.Frag} {C : Str} (cg : (He.Fa.glo C).ok K = true) : ClsN K C (He.ga K C) := He.eqO_ok cg
theorem cls_one {K : PySem.W.Frag} {C : Str} {c : Addr} (cg : (He.Fa.glo C).ok K = true) (h : ClsN K C c) : c = He.ga K C := by
  have h2 := cls_of cg
  unfold ClsN at h h2
  rw [h] at h2
  simpa using h2
theorem fld_of {K : PySem.W.Frag} {C f : Str} (cg : (He.Fa.glo C).ok K = true) (cc : (He.Fa.cls C).ok K = true) (cn : (He.Fa.noat C f).ok K = true) : FldOk K C f := fun c h => by
  rw [cls_one cg h]
  exact ⟨He.cls_ok cc, He.noat_ok cn⟩
theorem dfm_of {K : PySem.W.Frag} {C m qual : Str} {st : Stmt} {ps : List Str} {fd : FuncData} (cg : (He.Fa.glo C).ok K = true) (cc : (He.Fa.cls C).ok K = true) (cm : (He.Fa.meth C m).ok K = true) (F : FunD K m qual (defArgs st) (defBody st) (defScope st) [] [] (He.ma K (He.ga K C) m) fd)
    (hb : ∀ (kV doc pm : Value) (an : Option Addr) (cdv ct : Value) (us : List Value), us.length = ps.length → bindArgs (PySem.W.fnOf m qual (defArgs st) (defBody st) (defScope st) .none kV doc pm an cdv ct) ⟨us, []⟩ = pure (ps.zip us)) : DfM K C m qual st ps :=
  ⟨⟨_, _, fd, cls_of cg, He.cls_ok cc, He.meth_ok cm, fun_of F, F.bindsN hb⟩⟩
theorem dfn_of {K : PySem.W.Frag} {h : Heap} {mg : Str → Option Value} {C qual : Str} {st : Stmt} {ps : List Str} {fd : FuncData} (X : K.In h) (G : h.Ns mainGlobals mg) (cg : (He.Fa.glo C).ok K = true) (ck : (He.Fa.mkr C).ok K = true) (F : FunD K "__init__" qual (defArgs st) (defBody st) (defScope st) [] [] (He.ma K (He.ga K C) "__init__") fd)
    (hb : ∀ (kV doc pm : Value) (an : Option Addr) (cdv ct : Value) (us : List Value), us.length = ps.length → bindArgs (PySem.W.fnOf "__init__" qual (defArgs st) (defBody st) (defScope st) .none kV doc pm an cdv ct) ⟨us, []⟩ = pure (ps.zip us)) : DfN K mg C qual st ps :=
  ⟨⟨_, _, fd, cls_of cg, He.mkr_ok ck, He.glo_ok X G cg, fun_of F, F.bindsN hb⟩⟩
end L3
namespace L3
open PySem PySem.Spec L2
open PyProof.Rows hiding St
section
variable {ρ : Env} {d : D}
@[simp] theorem maskT_n : maskT [] = [] := rfl
@[simp] theorem maskT_0 : maskT (none :: ρ) = none :: maskT ρ := rfl
@[simp] theorem maskT_s : maskT (some d :: ρ) = (if tz d = true then some d else none) :: maskT ρ := rfl
end
@[simp] theorem dicKeys_f {t : Kd} {kvs : List (KD × D)} {P : List D → Prop} : dicKeys (.dic .fr t kvs) P = P (keyDs kvs) := rfl
@[simp] theorem dicKeys_o {t : Kd} {kvs : List (KD × D)} {P : List D → Prop} : dicKeys (.dic .ow t kvs) P = P (keyDs kvs) := rfl
end L3
/-! contracts and plain facts that the laws share -/
namespace L3
open PySem PySem.Spec L2
open PyProof.Rows hiding St
abbrev enD (fl : List Bool) (P : D → List D → Prop) : En := { nx := fun ρ => P .non (outs fl ρ), rt := fun d ρ => P d (outs fl ρ) }
def isHand (d : D) : Prop := ∃ x y : Int, d = .lst true [.int x, .int y] ∧ 0 ≤ x ∧ 0 ≤ y ∧ y < 2147483587
def sp_hand : DSp := fun ds P _ => ∃ c k : Int, ds = [.int c, .int k] ∧ 0 ≤ k ∧ ∀ h, isHand h → P h [.int c, .int k]
def sp_draw : DSp := fun ds P _ => ∃ h n, ds = [h, .int n] ∧ isHand h ∧ 0 < n ∧ n < 2 ^ 30 ∧ ∀ g h', 0 ≤ g → g < n → isHand h' → P (.int g) [h', .int n]
theorem draw_i {h : D} {n : Int} {P : D → List D → Prop} {EP : Value → List D → Prop} (hh : isHand h) (h0 : 0 < n) (h1 : n < 2 ^ 30) (k : ∀ g h', 0 ≤ g → g < n → isHand h' → P (.int g) [h', .int n]) : sp_draw [h, .int n] P EP := ⟨_, _, rfl, hh, h0, h1, k⟩
def sp_great : DSp := fun ds P _ => ∃ ns : List Int, ds = [.scr ns] ∧ ∀ b : Bool, P (.bl b) [.scr ns]
def sp_cells : DSp := fun ds P _ => ∃ (ns : List Int) (m : Int), ds = [.scr ns, .int m] ∧ 0 ≤ m ∧ ns.length ≤ 64 ∧ ∀ zs : List Int, zs.length ≤ 65 → P (.lst true (enumFrom 0 (zs.map .int))) [.scr ns, .int m]
def sp_letters : DSp := fun ds P _ => ∃ h, ds = [h] ∧ isHand h ∧ ∀ (cs : List Nat) h', isHand h' → 0 < cs.length → cs.length ≤ 26 → (∀ c ∈ cs, c < 128) → P (.str ⟨cs.toArray⟩) [h']
/-- texts of one sign -/
theorem at_chr {cs : List Nat} {g : Int} {P : D → Prop} (h0 : 0 ≤ g) (h1 : g < cs.length) (hl : cs.length ≤ 1000) (hP : ∀ c ∈ cs, P (.str (chr c))) : oIx (.str ⟨cs.toArray⟩) (.int g) P := by
  obtain ⟨c, _, e, hc⟩ := atN (xs := cs) h0 h1
  refine ⟨by show cs.toArray.size ≤ _; simp [szl]; omega, ?_⟩
  show mb (atI cs.toArray.toList g) _
  simp only [List.toList_toArray] 
  rw [e]
  exact hP c hc
abbrev TT := Nat × Nat × Str
def tieD (t : TT) : D := .tup [.int (t.1 : Nat), .int (t.2.1 : Nat), .str t.2.2]
def webD (k : Str) (ts : List TT) : D := .tup [.str k, .tup (ts.map tieD)]
@[simp] theorem fz_tie {t : TT} : fz (tieD t) = true := rfl
@[simp] theorem fzs_ties : ∀ ts : List TT, fzs (ts.map tieD) = true
  | [] => rfl
  | t :: ts => by simp [fzs_ties ts]
@[simp] theorem frzs_ties : ∀ ts : List TT, frzs (ts.map tieD) = ts.map tieD
  | [] => rfl
  | t :: ts => by simp [frzs_ties ts]; rfl
/-- a tie's letter: a text that is not empty -/
def ZOk (z : Str) : Prop := PySem.PyData.strOk z = true ∧ z ≠ Str.ofString ""
structure OkW (n : Nat) (k : Str) (ts : List TT) : Prop where
  len : k.length = n
  small : n ≤ 100
  few : ts.length ≤ n * n
  ok : ∀ t ∈ ts, t.1 < t.2.1 ∧ t.2.1 < n ∧ ZOk t.2.2
  uniq : ts.Pairwise fun s t => ¬ (s.1 = t.1 ∧ s.2.1 = t.2.1)
  asc : ∀ c ∈ k.cps.toList, c < 128
def sp_web : DSp := fun ds P _ => ∃ (h : D) (n : Nat), ds = [h, .int n] ∧ isHand h ∧ n ≤ 100 ∧ ∀ k ts h', isHand h' → OkW n k ts → P (webD k ts) [h', .int n]
def sp_size : DSp := fun ds P _ => ∃ (h : D) (b : Bool), ds = [h, .bl b] ∧ isHand h ∧ ∀ (n : Nat) h', isHand h' → n ≤ 100 → P (.int (n : Nat)) [h', .bl b]
@[simp] theorem sIx_nn {n d : Nat} : HT.sIx n d none = d := rfl
@[simp] theorem sIx_332 : HT.sIx 3 3 (some 2) = 2 := rfl
theorem eqv_two (a b c d : Nat) : PySem.PyData.eqv (toPy (.tup [.int (a : Nat), .int (b : Nat)])) (toPy (.tup [.int (c : Nat), .int (d : Nat)])) = decide (a = c ∧ b = d) := by
  show PySem.PyData.eqvAll _ _ = _
  simp [toPys]
  rw [Bool.eq_iff_iff]; simp; omega
/-! ties by their places -/
def mt (p q : Nat) (t : TT) : Bool := decide ((t.1 = p ∧ t.2.1 = q) ∨ (t.1 = q ∧ t.2.1 = p))
def tieF (ts : List TT) (p q : Nat) : Option Str := (ts.find? (mt p q)).map fun t => t.2.2
def opD : Option Str → D
  | none => .non
  | some z => .str z
def sp_tie : DSp := fun ds P _ => ∃ (k : Str) (ts : List TT) (p q : Nat), ds = [webD k ts, .int (p : Nat), .int (q : Nat)] ∧ P (opD (tieF ts p q)) [webD k ts, .int (p : Nat), .int (q : Nat)]
/-! the ties in a dict -/
def K2 (a b : Nat) : KD := .tup [keyKD (.inl (a : Int)), keyKD (.inl (b : Int))]
theorem K2_inj {a b c d : Nat} : K2 a b = K2 c d ↔ a = c ∧ b = d := by
  simp [K2, keyKD]; omega
def kstep (kv : List (KD × D)) (t : TT) : List (KD × D) := kput (kput kv (K2 t.1 t.2.1) (.str t.2.2)) (K2 t.2.1 t.1) (.str t.2.2)
def kbp (ts : List TT) : List (KD × D) := ts.foldl kstep []
theorem look_kput {α : Type} {kv : List (KD × α)} {k k' : KD} {v : α} : look (kput kv k v) k' = if k = k' then some v else look kv k' := by
  induction kv with
  | nil => simp [kput, look]
  | cons p kv ih =>
    obtain ⟨k0, x⟩ := p
    by_cases h : k0 = k
    · subst h
      by_cases h2 : k0 = k' <;> simp [kput, look, h2]
    · by_cases h2 : k0 = k'
      · subst h2
        have : ¬ k = k0 := fun e => h e.symm
        simp [kput, look, h, this]
      · simp only [kput, if_neg h, look, if_neg h2, ih]
theorem kput_len {α : Type} {kv : List (KD × α)} {k : KD} {v : α} : (kput kv k v).length ≤ kv.length + 1 := by
  induction kv with
  | nil => simp [kput]
  | cons p kv ih =>
    obtain ⟨k0, x⟩ := p
    by_cases h : k0 = k
    · simp [kput, h]
    · simp only [kput, if_neg h, List.length_cons]; omega
theorem kbp_snoc (ts : List TT) (t : TT) : kbp (ts ++ [t]) = kstep (kbp ts) t := by simp [kbp]
theorem kstep_len {kv : List (KD × D)} {t : TT} : (kstep kv t).length ≤ kv.length + 2 := by
  have h1 := kput_len (kv := kv) (k := K2 t.1 t.2.1) (v := D.str t.2.2)
  have h2 := kput_len (kv := kput kv (K2 t.1 t.2.1) (D.str t.2.2)) (k := K2 t.2.1 t.1) (v := D.str t.2.2)
  unfold kstep; omega
theorem kbp_len : ∀ n (ts : List TT), ts.length = n → (kbp ts).length ≤ 2 * n
  | 0, ts, h => by rw [List.length_eq_zero_iff.mp h]; simp [kbp]
  | n + 1, ts, h => by
    have e : ts = ts.dropLast ++ [ts.getLast (by intro z; rw [z] at h; cases h)] := (List.dropLast_concat_getLast _).symm
    rw [e, kbp_snoc]
    have := kbp_len n ts.dropLast (by rw [List.length_dropLast]; omega)
    have := kstep_len (kv := kbp ts.dropLast) (t := ts.getLast (by intro z; rw [z] at h; cases h))
    omega
/-- the kind of the last tie between two places -/
def tieL (ts : List TT) (p q : Nat) : Option Str := (ts.reverse.find? (mt p q)).map fun t => t.2.2
theorem look_kbp (p q : Nat) : ∀ n (ts : List TT), ts.length = n → look (kbp ts) (K2 p q) = (tieL ts p q).map .str
  | 0, ts, h => by rw [List.length_eq_zero_iff.mp h]; rfl
  | n + 1, ts, h => by
    have e : ts = ts.dropLast ++ [ts.getLast (by intro z; rw [z] at h; cases h)] := (List.dropLast_concat_getLast _).symm
    rw [e, kbp_snoc]
    have ih := look_kbp p q n ts.dropLast (by rw [List.length_dropLast]; omega)
    generalize ts.getLast (by intro z; rw [z] at h; cases h) = t at *
    unfold kstep
    rw [look_kput, look_kput, ih]
    unfold tieL
    rw [List.reverse_append]
    simp only [K2_inj, List.reverse_singleton, List.singleton_append, List.find?_cons]
    by_cases hm : mt p q t = true
    · have hm' := hm
      unfold mt at hm'
      simp only [decide_eq_true_eq] at hm'
      simp only [hm]
      rcases hm' with hm' | hm'
      · by_cases h2 : t.2.1 = p ∧ t.1 = q
        · simp [h2]
        · simp [h2, hm']
      · simp [hm']
    · have hm2 : mt p q t = false := by simpa using hm
      unfold mt at hm
      simp only [decide_eq_true_eq] at hm
      simp only [hm2]
      rw [if_neg (by omega), if_neg (by omega)]
theorem tieL_F {n : Nat} {k : Str} {ts : List TT} (h : OkW n k ts) (p q : Nat) : tieL ts p q = tieF ts p q := by
  unfold tieL tieF
  cases e : ts.find? (mt p q) with
  | none =>
    rw [List.find?_eq_none.mpr]
    intro t ht
    exact List.find?_eq_none.mp e t (List.mem_reverse.mp ht)
  | some t =>
    have ht := List.mem_of_find?_eq_some e
    have mtt := List.find?_some e
    cases e2 : ts.reverse.find? (mt p q) with
    | none => exact absurd mtt (List.find?_eq_none.mp e2 t (List.mem_reverse.mpr ht))
    | some s =>
      have hs := List.mem_reverse.mp (List.mem_of_find?_eq_some e2)
      have mts := List.find?_some e2
      have h1 := (h.ok t ht).1
      have h2 := (h.ok s hs).1
      unfold mt at mtt mts
      simp only [decide_eq_true_eq] at mtt mts
      have : s = t := Decidable.byContradiction fun hne => by
        obtain ⟨i, hi, e1⟩ := List.mem_iff_getElem.mp hs
        obtain ⟨j, hj, e2⟩ := List.mem_iff_getElem.mp ht
        have hij : i ≠ j := by rintro rfl; exact hne (e1.symm.trans e2)
        rcases Nat.lt_or_gt_of_ne hij with hlt | hlt
        · have := List.pairwise_iff_getElem.mp h.uniq i j hi hj hlt
          rw [e1, e2] at this
          omega
        · have := List.pairwise_iff_getElem.mp h.uniq j i hj hi hlt
          rw [e1, e2] at this
          omega
      rw [this]
@[simp] theorem keyD_t2 {a b : Int} : keyD .t (.tup [.int a, .int b]) = some (.tup [keyKD (.inl a), keyKD (.inl b)]) := rfl
def sp_kbp : DSp := fun ds P _ => ∃ (k : Str) (ts : List TT), ds = [webD k ts] ∧ ts.length ≤ 1000000 ∧ P (.dic .ow .t (kbp ts)) [webD k ts]
def sp_tie_of : DSp := fun ds P _ => ∃ (n : Nat) (k : Str) (ts : List TT) (p q : Nat), ds = [webD k ts, .int (p : Nat), .int (q : Nat)] ∧ OkW n k ts ∧ P (opD (tieF ts p q)) [webD k ts, .int (p : Nat), .int (q : Nat)]
theorem OkW.lim {n : Nat} {k : Str} {ts : List TT} (h : OkW n k ts) : ts.length ≤ 10000 := Nat.le_trans h.few (Nat.mul_le_mul h.small h.small)
@[simp] theorem fz_web {k : Str} {ts : List TT} : fz (webD k ts) = true := by simp [webD]
@[simp] theorem frz_web {k : Str} {ts : List TT} : frz (webD k ts) = webD k ts := by simp [webD]
theorem frzk_str : ∀ {kvs : List (KD × D)}, (∀ p ∈ kvs, fz p.2 = true) → frzk kvs = kvs
  | [], _ => rfl
  | (k, d) :: kvs, h => by
    show (k, frz d) :: frzk kvs = _
    rw [frz_fz d (h (k, d) (by simp)), frzk_str fun p hp => h p (by simp [hp])]
theorem kput_all {Z : KD × D → Prop} {kvs : List (KD × D)} {k : KD} {d : D} (h : ∀ p ∈ kvs, Z p) (hd : ∀ k, Z (k, d)) : ∀ p ∈ kput kvs k d, Z p := by
  induction kvs with
  | nil => intro p hp; simp [kput] at hp; subst hp; exact hd _
  | cons q kvs ih =>
    obtain ⟨k0, x⟩ := q
    intro p hp
    by_cases e : k0 = k
    · simp [kput, e] at hp
      rcases hp with hp | hp
      · subst hp; exact hd _
      · exact h p (by simp [hp])
    · simp [kput, e] at hp
      rcases hp with hp | hp
      · subst hp; exact h _ (by simp)
      · exact ih (fun p hp => h p (by simp [hp])) p hp
theorem kbp_fz : ∀ (ts : List TT) (kv : List (KD × D)), (∀ p ∈ kv, fz p.2 = true) → ∀ p ∈ ts.foldl kstep kv, fz p.2 = true
  | [], kv, h => h
  | t :: ts, kv, h => kbp_fz ts _ (kput_all (kput_all h fun _ => rfl) fun _ => rfl)
/-- ints in a list -/
def IL (ns : List Int) : List D := ns.map .int
@[simp] theorem fzs_IL (ns : List Int) : fzs (IL ns) = true := fzs_ints ns
@[simp] theorem frzs_IL (ns : List Int) : frzs (IL ns) = IL ns := frzs_ints ns
@[simp] theorem pyOks_IL {n : Nat} (ns : List Int) : pyOks n (IL ns) = true := pyOks_ints ns
@[simp] theorem IL_len (ns : List Int) : (IL ns).length = ns.length := List.length_map _
@[simp] theorem eqvA_IL (a b : List Int) : PySem.PyData.eqvAll (toPys (IL a)) (toPys (IL b)) = decide (a = b) := eqvA_ints a b
theorem IL_at {ns : List Int} {i : Nat} {d : D} (h : (IL ns)[i]? = some d) : ∃ z, ns[i]? = some z ∧ d = .int z := by
  unfold IL at h
  rw [List.getElem?_map] at h
  obtain ⟨z, h1, h2⟩ := Option.map_eq_some_iff.mp h
  exact ⟨z, h1, h2.symm⟩
theorem IL_snoc (ns : List Int) (z : Int) : IL ns ++ [.int z] = IL (ns ++ [z]) := by simp [IL]
def neiF (ts : List TT) (n p : Nat) : List Int := ((List.range n).filter fun q => (tieF ts p q).isSome).map fun q => ((q : Nat) : Int)
theorem neiF_0 (ts : List TT) (p : Nat) : neiF ts 0 p = [] := rfl
theorem neiF_s {ts : List TT} {i p : Nat} {z : Str} (h : tieF ts p i = some z) : neiF ts (i + 1) p = neiF ts i p ++ [((i : Nat) : Int)] := by
  simp [neiF, List.range_succ, List.filter_append, h]
theorem neiF_n {ts : List TT} {i p : Nat} (h : tieF ts p i = none) : neiF ts (i + 1) p = neiF ts i p := by
  simp [neiF, List.range_succ, List.filter_append, h]
theorem neiF_len (ts : List TT) (n p : Nat) : (neiF ts n p).length ≤ n := by
  unfold neiF
  rw [List.length_map]
  exact Nat.le_trans (List.length_filter_le _ _) (by simp)
def sp_nei : DSp := fun ds P _ => ∃ (n : Nat) (k : Str) (ts : List TT) (p : Nat), ds = [webD k ts, .int (p : Nat)] ∧ OkW n k ts ∧ P (.lst true (IL (neiF ts n p))) [webD k ts, .int (p : Nat)]
/-- what is kept between: pairs of two that are alike -/
def pairD (ns : List Int) : D := .lst true [.lst true (IL ns), .lst true (IL ns)]
def HD (hs : List (List Int)) : D := .lst true (hs.map pairD)
def PL (ps : List Nat) : List D := ps.map fun q => .int (q : Nat)
@[simp] theorem fzs_PL : ∀ ps : List Nat, fzs (PL ps) = true
  | [] => rfl
  | p :: ps => by show (fz _ && fzs (PL ps)) = true; simp [fzs_PL ps]
@[simp] theorem frzs_PL : ∀ ps : List Nat, frzs (PL ps) = PL ps
  | [] => rfl
  | p :: ps => by show frz _ :: frzs (PL ps) = _; rw [frzs_PL ps]; rfl
theorem PL_at {ps : List Nat} {i : Nat} {d : D} (h : (PL ps)[i]? = some d) : ∃ q : Nat, d = .int (q : Nat) := by
  unfold PL at h
  rw [List.getElem?_map] at h
  obtain ⟨z, h1, h2⟩ := Option.map_eq_some_iff.mp h
  exact ⟨z, h2.symm⟩
theorem tie_i {k : Str} {ts : List TT} {p q : Nat} {P : D → List D → Prop} {EP : Value → List D → Prop} (h : P (opD (tieF ts p q)) [webD k ts, .int (p : Nat), .int (q : Nat)]) : sp_tie [webD k ts, .int (p : Nat), .int (q : Nat)] P EP := ⟨k, ts, p, q, rfl, h⟩
theorem nei_i {n : Nat} {k : Str} {ts : List TT} {p : Nat} {P : D → List D → Prop} {EP : Value → List D → Prop} (hw : OkW n k ts) (h : P (.lst true (IL (neiF ts n p))) [webD k ts, .int (p : Nat)]) : sp_nei [webD k ts, .int (p : Nat)] P EP := ⟨n, k, ts, p, rfl, hw, h⟩
theorem tieof_i {n : Nat} {k : Str} {ts : List TT} {p q : Nat} {P : D → List D → Prop} {EP : Value → List D → Prop} (hw : OkW n k ts) (h : P (opD (tieF ts p q)) [webD k ts, .int (p : Nat), .int (q : Nat)]) : sp_tie_of [webD k ts, .int (p : Nat), .int (q : Nat)] P EP := ⟨n, k, ts, p, q, rfl, hw, h⟩
@[simp] theorem isi_l {m : Bool} {xs : List D} {P : D → Prop} : oIsi "list" (.lst m xs) P = P (.bl true) := rfl
theorem kit_ib : kitB "int" "bool" = some false := by decide +kernel
@[simp] theorem isi_ib {i : Int} {P : D → Prop} : oIsi "bool" (.int i) P = P (.bl false) := by
  unfold oIsi tyN
  rw [mb_so, kit_ib]; rfl
theorem tieF_strOk {n : Nat} {k : Str} {ts : List TT} (h : OkW n k ts) {p q : Nat} : pyOk 64 (opD (tieF ts p q)) = true := by
  unfold tieF
  cases e : ts.find? (mt p q) with
  | none => rfl
  | some t => exact (h.ok t (List.mem_of_find?_eq_some e)).2.2.1
theorem tieF_self {n : Nat} {k : Str} {ts : List TT} (h : OkW n k ts) (p : Nat) : tieF ts p p = none := by
  unfold tieF
  rw [List.find?_eq_none.mpr]
  · rfl
  · intro t ht
    have := (h.ok t ht).1
    unfold mt; simp; omega
theorem tieF_swap (ts : List TT) (p q : Nat) : tieF ts q p = tieF ts p q := by
  have : mt q p = mt p q := by funext t; unfold mt; rw [Bool.eq_iff_iff]; simp; omega
  unfold tieF; rw [this]
theorem ix_web0 {k : Str} {ts : List TT} {P : D → Prop} : oIx (webD k ts) (.int 0) P = P (.str k) := by simp [webD]
@[simp] theorem frz_op {o : Option Str} : frz (opD o) = opD o := by cases o <;> rfl
@[simp] theorem fz_op {o : Option Str} : fz (opD o) = true := by cases o <;> rfl
def sp_right : DSp := fun ds P _ => ∃ (n : Nat) (k : Str) (ts : List TT) (p : Nat) (ps : List Nat) (m : Bool) (hs : List (List Int)), ds = [webD k ts, .int (p : Nat), .lst m (PL ps), HD hs] ∧ OkW n k ts ∧ hs.length ≤ 100000 ∧
  P (.bl true) [webD k ts, .int (p : Nat), .lst m (PL ps), HD (hs ++ [neiF ts n p])]
theorem enum_at : ∀ {xs : List D} {i j : Nat} {d : D}, (enumFrom i xs)[j]? = some d → ∃ x, xs[j]? = some x ∧ d = .tup [.int ((i + j : Nat)), x]
  | [], i, j, d, h => by simp [enumFrom] at h
  | x :: xs, i, 0, d, h => ⟨x, rfl, by simpa [enumFrom] using h.symm⟩
  | x :: xs, i, j + 1, d, h => by
    obtain ⟨y, h1, h2⟩ := enum_at (xs := xs) (i := i + 1) (j := j) (d := d) (by simpa [enumFrom] using h)
    exact ⟨y, by simpa using h1, by rw [h2, show i + 1 + j = i + (j + 1) from by omega]⟩
theorem enum_len : ∀ (xs : List D) (i : Nat), (enumFrom i xs).length = xs.length
  | [], _ => rfl
  | x :: xs, i => by simp [enumFrom, enum_len xs]
theorem frzs_enum : ∀ (xs : List D) (i : Nat), frzs xs = xs → frzs (enumFrom i xs) = enumFrom i xs
  | [], _, _ => rfl
  | x :: xs, i, h => by
    simp only [frzs_c, List.cons.injEq] at h
    simp [enumFrom, frzs_enum xs _ h.2, h.1]
theorem hand_i {c k : Int} {P : D → List D → Prop} {EP : Value → List D → Prop} (hk : 0 ≤ k) (h : ∀ h, isHand h → P h [.int c, .int k]) : sp_hand [.int c, .int k] P EP := ⟨c, k, rfl, hk, h⟩
theorem great_i {ns : List Int} {P : D → List D → Prop} {EP : Value → List D → Prop} (h : ∀ b : Bool, P (.bl b) [.scr ns]) : sp_great [.scr ns] P EP := ⟨ns, rfl, h⟩
theorem size_i {h : D} {b : Bool} {P : D → List D → Prop} {EP : Value → List D → Prop} (hh : isHand h) (k : ∀ (n : Nat) h', isHand h' → n ≤ 100 → P (.int (n : Nat)) [h', .bl b]) : sp_size [h, .bl b] P EP := ⟨h, b, rfl, hh, k⟩
theorem web_i {h : D} {n : Nat} {P : D → List D → Prop} {EP : Value → List D → Prop} (hh : isHand h) (hn : n ≤ 100) (k : ∀ k ts h', isHand h' → OkW n k ts → P (webD k ts) [h', .int n]) : sp_web [h, .int n] P EP := ⟨h, n, rfl, hh, hn, k⟩
theorem right_i {n : Nat} {k : Str} {ts : List TT} {p : Nat} {ps : List Nat} {m : Bool} {hs : List (List Int)} {P : D → List D → Prop} {EP : Value → List D → Prop} (hw : OkW n k ts) (hl : hs.length ≤ 100000)
  (h : P (.bl true) [webD k ts, .int (p : Nat), .lst m (PL ps), HD (hs ++ [neiF ts n p])]) : sp_right [webD k ts, .int (p : Nat), .lst m (PL ps), HD hs] P EP := ⟨n, k, ts, p, ps, m, hs, rfl, hw, hl, h⟩
theorem rng_PL (n : Nat) : rngD 0 n = PL (List.range n) := by
  rw [rngD_eq]
  unfold PL
  exact List.map_congr_left fun k _ => by rw [Int.zero_add]
theorem PL_snoc (ps : List Nat) (q : Nat) : PL ps ++ [.int (q : Nat)] = PL (ps ++ [q]) := by simp [PL]
theorem PL_two (ps : List Nat) (a b : Nat) : PL ps ++ [.int (a : Nat), .int (b : Nat)] = PL (ps ++ [a, b]) := by simp [PL]
@[simp] theorem PL_len (ps : List Nat) : (PL ps).length = ps.length := List.length_map _
theorem seqW_go {w u : SW} {K : En} {ρ : Env} (h : ∀ K' : En, K'.nx = u K → K'.rt = K.rt → w K' ρ) : seqW w u K ρ := h _ rfl rfl
end L3
namespace L3
open PySem PySem.Spec L2
open PyProof.Rows hiding St
def top (i : Nat) : Stmt := PySem.Challenge.pw_commonweb_k06_whole_cuts_of_cuts.main.body.getD i (.Pass ⟨0, 0, 0, 0⟩)
abbrev st_kinds_by_places : Stmt := top 1
theorem sc_kinds_by_places : FnScope ["web", "found", "place", "other", "kind"] ["web"] (defScope st_kinds_by_places) := ⟨rfl, rfl, rfl, by decide +kernel, rfl, by decide +kernel, by decide +kernel⟩
def rd_kinds_by_places : { wb : SW // ∀ {P : Program} {w : World} {K : PySem.W.Frag} {mg : Str → Option Value} {base : Heap} (k : Nat), RdTy ["web", "found", "place", "other", "kind"] [0] "kinds_by_places" st_kinds_by_places k P w K mg base wb } :=
  ⟨_, fun {P w K mg base} k f cdv A outer s H E hr =>
      (ss_cons (s_set (i := 1) (de_f (f_dnew .t)) sc_kinds_by_places.nd rfl (hT := @nT 1 [0] rfl))
      (ss_cons (s_for PassesOwn.never rfl (i_any (de_k (k_ix ix_seq op2_ix (fun _ _ => rfl) (k_var 0) k_int))) (gt_tup (n := 3) rfl (gts_cons (gt_name (i := 2) sc_kinds_by_places.nd (hT := @nT 2 [0] rfl)) (gts_cons (gt_name (i := 3) sc_kinds_by_places.nd (hT := @nT 3 [0] rfl)) (gts_cons (gt_name (i := 4) sc_kinds_by_places.nd (hT := @nT 4 [0] rfl)) gts_nil))))
       (ss_cons (s_dput (hu_of hr) (e_var 4) (p_var 1) (dk_f (f_tup (l_cons (k_var 2) (l_cons (k_var 3) l_nil)))))
       (ss_one (s_dput (hu_of hr) (e_var 4) (p_var 1) (dk_f (f_tup (l_cons (k_var 3) (l_cons (k_var 2) l_nil))))))))
      (ss_one (s_ret (e_mv 1)))))⟩
abbrev st_tie_of : Stmt := top 2
theorem sc_tie_of : FnScope ["web", "one", "other"] ["web", "one", "other"] (defScope st_tie_of) := ⟨rfl, rfl, rfl, by decide +kernel, rfl, by decide +kernel, by decide +kernel⟩
def rd_tie_of (sp_kinds_by_places : DSp) : { wb : SW // ∀ {P : Program} {w : World} {K : PySem.W.Frag} {mg : Str → Option Value} {base : Heap} (k : Nat) {j_kinds_by_places : Nat} (G_kinds_by_places : Fn P w K mg base CX0 j_kinds_by_places "kinds_by_places" sp_kinds_by_places) (L_kinds_by_places : j_kinds_by_places ≤ k), RdTy ["web", "one", "other"] [0, 1, 2] "tie_of" st_tie_of k P w K mg base wb } :=
  ⟨_, fun {P w K mg base} k _ G_kinds_by_places L_kinds_by_places f cdv A outer s H E hr =>
      (ss_one (s_ret (de_k (k_dget1 (hu_of hr) (dk_e (e_cal (G_kinds_by_places.cal hr L_kinds_by_places) (g_ref 0 g_nil))) (dk_f (f_tup (l_cons (k_var 1) (l_cons (k_var 2) l_nil)))) ⟨rfl, rfl, rfl, rfl⟩))))⟩
abbrev st_neighbours : Stmt := top 3
theorem sc_neighbours : FnScope ["web", "place", "known", "other"] ["web", "place"] (defScope st_neighbours) := ⟨rfl, rfl, rfl, by decide +kernel, rfl, by decide +kernel, by decide +kernel⟩
def rd_neighbours (sp_kinds_by_places : DSp) : { wb : SW // ∀ {P : Program} {w : World} {K : PySem.W.Frag} {mg : Str → Option Value} {base : Heap} (k : Nat) (z_len : mg "len" = none) (z_range : mg "range" = none) {j_kinds_by_places : Nat} (G_kinds_by_places : Fn P w K mg base CX0 j_kinds_by_places "kinds_by_places" sp_kinds_by_places) (L_kinds_by_places : j_kinds_by_places ≤ k), RdTy ["web", "place", "known", "other"] [0, 1] "neighbours" st_neighbours k P w K mg base wb } :=
  ⟨_, fun {P w K mg base} k z_len z_range _ G_kinds_by_places L_kinds_by_places f cdv A outer s H E hr =>
      (ss_cons (s_set (i := 2) (e_cal (G_kinds_by_places.cal hr L_kinds_by_places) (g_ref 0 g_nil)) sc_neighbours.nd rfl (hT := @nT 2 [0, 1] rfl))
      (ss_one (s_ret (e_lc rfl sc_neighbours.nd rfl (i_rng1 (a_cons (de_k (k_blt callr_len opn_len z_len bl_len (l_cons (k_ix ix_seq op2_ix (fun _ _ => rfl) (k_var 0) k_int) l_nil))) a_nil) z_range) (blkOk_by (own := [("other", 3)]) (by kernel_rfl)) rfl (fun _ _ _ _ _ => (gt_name (i := 3) sc_neighbours.nd (hT := nB rfl))) (fun _ _ _ _ _ => (ts_one (t_b (b_din (hu_of hr) (dk_f (f_tup (l_cons (k_var 1) (l_cons (k_var 3) l_nil)))) (k_var 2))))) (fun _ _ _ _ _ => (e_var 3))))))⟩
abbrev st_rows_of_neighbours : Stmt := top 4
theorem sc_rows_of_neighbours : FnScope ["many", "ties", "found", "tie", "place"] ["many", "ties"] (defScope st_rows_of_neighbours) := ⟨rfl, rfl, rfl, by decide +kernel, rfl, by decide +kernel, by decide +kernel⟩
def rd_rows_of_neighbours : { wb : SW // ∀ {P : Program} {w : World} {K : PySem.W.Frag} {mg : Str → Option Value} {base : Heap} (k : Nat) (z_range : mg "range" = none), RdTy ["many", "ties", "found", "tie", "place"] [0, 1] "rows_of_neighbours" st_rows_of_neighbours k P w K mg base wb } :=
  ⟨_, fun {P w K mg base} k z_range f cdv A outer s H E hr =>
      (ss_cons (s_setLc (i := 2) rfl sc_rows_of_neighbours.nd rfl (i_rng1 (a_cons (e_var 0) a_nil) z_range) (blkOk_by (own := [("place", 4)]) (by kernel_rfl)) rfl (fun _ _ _ _ _ => (gt_name (i := 4) sc_rows_of_neighbours.nd (hT := nB rfl))) (fun _ _ _ _ _ => ts_nil) (fun _ _ _ _ _ => (de_f (f_lst l_nil))) (sw_true rfl rfl rfl (by decide +kernel)) (hT := @nT 2 [0, 1] rfl))
      (ss_cons (s_forK 1 PassesOwn.never rfl (gt_name (i := 3) sc_rows_of_neighbours.nd (hT := @nT 3 [1, 0, 1] rfl))
       (ss_cons (s_expr (e_appendP (p_ix (p_var 2) (k_ix ix_seq op2_ix (fun _ _ => rfl) (k_var 3) k_int) (fun _ _ => rfl)) (l_cons (k_ix ix_seq op2_ix (fun _ _ => rfl) (k_var 3) k_int) l_nil)))
       (ss_one (s_expr (e_appendP (p_ix (p_var 2) (k_ix ix_seq op2_ix (fun _ _ => rfl) (k_var 3) k_int) (fun _ _ => rfl)) (l_cons (k_ix ix_seq op2_ix (fun _ _ => rfl) (k_var 3) k_int) l_nil))))))
      (ss_one (s_ret (e_mv 2)))))⟩
abbrev st_come_to : Stmt := top 5
theorem sc_come_to : FnScope ["rows", "place", "met", "waiting", "other"] ["rows", "place"] (defScope st_come_to) := ⟨rfl, rfl, rfl, by decide +kernel, rfl, by decide +kernel, by decide +kernel⟩
def rd_come_to : { wb : SW // ∀ {P : Program} {w : World} {K : PySem.W.Frag} {mg : Str → Option Value} {base : Heap} (k : Nat) (z_sorted : mg "sorted" = none), RdTy ["rows", "place", "met", "waiting", "other"] [0, 1] "come_to" st_come_to k P w K mg base wb } :=
  ⟨_, fun {P w K mg base} k z_sorted f cdv A outer s H E hr =>
      (ss_cons (s_set (i := 2) (de_f (f_disp1 (k_var 1) k_bl)) sc_come_to.nd rfl (hT := @nT 2 [0, 1] rfl))
      (ss_cons (s_set (i := 3) (de_f (f_lst (l_cons (k_var 1) l_nil))) sc_come_to.nd rfl (hT := @nT 3 [0, 1] rfl))
      (ss_cons (s_while PassesOwn.never (t_b (b_cmp (op_neD hr.units) op2_ne (by rfl) (k_var 3) (dk_f (f_lst l_nil))))
       (ss_one (s_for PassesOwn.never rfl (i_any (e_ix ix_seq op2_ix (fun _ _ => rfl) (e_var 0) (e_pop0 (p_var 3)))) (gt_name (i := 4) sc_come_to.nd (hT := @nT 4 [0, 1] rfl))
        (ss_one (s_if (t_b (b_dnotin (hu_of hr) (k_var 4) (k_var 2)))
         (ss_cons (s_dput (hu_of hr) (de_k k_bl) (p_var 2) (k_var 4))
         (ss_one (s_expr (e_append 3 (a_cons (e_var 4) a_nil)))))
         ss_nil)))))
      (ss_one (s_ret (de_f (f_blt (call_sortedDI rfl) opn_sortDI z_sorted bl_sorted (l_cons (k_var 2) l_nil))))))))⟩
abbrev st_parts : Stmt := top 6
theorem sc_parts : FnScope ["web", "rows", "found", "met", "place", "other"] ["web"] (defScope st_parts) := ⟨rfl, rfl, rfl, by decide +kernel, rfl, by decide +kernel, by decide +kernel⟩
def rd_parts (sp_rows_of_neighbours : DSp) (sp_come_to : DSp) : { wb : SW // ∀ {P : Program} {w : World} {K : PySem.W.Frag} {mg : Str → Option Value} {base : Heap} (k : Nat) (z_dict : mg "dict" = none) (z_len : mg "len" = none) (z_range : mg "range" = none) {j_rows_of_neighbours : Nat} (G_rows_of_neighbours : Fn P w K mg base CX0 j_rows_of_neighbours "rows_of_neighbours" sp_rows_of_neighbours) (L_rows_of_neighbours : j_rows_of_neighbours ≤ k) {j_come_to : Nat} (G_come_to : Fn P w K mg base CX0 j_come_to "come_to" sp_come_to) (L_come_to : j_come_to ≤ k), RdTy ["web", "rows", "found", "met", "place", "other"] [0] "parts" st_parts k P w K mg base wb } :=
  ⟨_, fun {P w K mg base} k z_dict z_len z_range _ G_rows_of_neighbours L_rows_of_neighbours _ G_come_to L_come_to f cdv A outer s H E hr =>
      (ss_cons (s_set (i := 1) (e_cal (G_rows_of_neighbours.cal hr L_rows_of_neighbours) (g_val (de_k (k_blt callr_len opn_len z_len bl_len (l_cons (k_ix ix_seq op2_ix (fun _ _ => rfl) (k_var 0) k_int) l_nil))) (g_val (de_k (k_ix ix_seq op2_ix (fun _ _ => rfl) (k_var 0) k_int)) g_nil))) sc_parts.nd rfl (hT := @nT 1 [0] rfl))
      (ss_cons (s_set (i := 2) (de_f (f_lst l_nil)) sc_parts.nd rfl (hT := @nT 2 [0] rfl))
      (ss_cons (s_set (i := 3) (de_f (f_dnew .k)) sc_parts.nd rfl (hT := @nT 3 [0] rfl))
      (ss_cons (s_for PassesOwn.never rfl (i_rng1 (a_cons (de_k (k_blt callr_len opn_len z_len bl_len (l_cons (k_ix ix_seq op2_ix (fun _ _ => rfl) (k_var 0) k_int) l_nil))) a_nil) z_range) (gt_name (i := 4) sc_parts.nd (hT := @nT 4 [0] rfl))
       (ss_one (s_if (t_b (b_dnotin (hu_of hr) (k_var 4) (k_var 3)))
        (ss_cons (s_expr (e_append 2 (a_cons (e_frz (e_cal (G_come_to.cal hr L_come_to) (g_ref 1 (g_ref 4 g_nil)))) a_nil)))
        (ss_one (s_expr (e_dupd 3 (a_cons (e_ty (call_dictP rfl) opn_dictP z_dict bl_dict (a_cons (e_lc rfl sc_parts.nd rfl (i_any (de_k (k_ix ix_seq op2_ix (fun _ _ => rfl) (k_var 2) (k_neg k_int)))) (blkOk_by (own := [("other", 5)]) (by kernel_rfl)) rfl (fun _ _ _ _ _ => (gt_name (i := 5) sc_parts.nd (hT := nB rfl))) (fun _ _ _ _ _ => ts_nil) (fun _ _ _ _ _ => (de_f (f_tup (l_cons (k_var 5) (l_cons k_bl l_nil)))))) a_nil)) a_nil)))))
        ss_nil)))
      (ss_one (s_ret (e_mv 2)))))))⟩
abbrev st_hangs : Stmt := top 7
theorem sc_hangs : FnScope ["web"] ["web"] (defScope st_hangs) := ⟨rfl, rfl, rfl, by decide +kernel, rfl, by decide +kernel, by decide +kernel⟩
def rd_hangs (sp_parts : DSp) : { wb : SW // ∀ {P : Program} {w : World} {K : PySem.W.Frag} {mg : Str → Option Value} {base : Heap} (k : Nat) (z_len : mg "len" = none) {j_parts : Nat} (G_parts : Fn P w K mg base CX0 j_parts "parts" sp_parts) (L_parts : j_parts ≤ k), RdTy ["web"] [0] "hangs" st_hangs k P w K mg base wb } :=
  ⟨_, fun {P w K mg base} k z_len _ G_parts L_parts f cdv A outer s H E hr =>
      (ss_one (s_ret (e_cmp op_le op2_leI (by rfl) (e_blt callr_len (opnf_s opn_len) z_len bl_len (a_cons (e_cal (G_parts.cal hr L_parts) (g_ref 0 g_nil)) a_nil)) (de_k k_int))))⟩
abbrev st_cut : Stmt := top 8
theorem sc_cut : FnScope ["web", "places", "order", "names", "ties", "tie", "name", "place"] ["web", "places"] (defScope st_cut) := ⟨rfl, rfl, rfl, by decide +kernel, rfl, by decide +kernel, by decide +kernel⟩
def rd_cut : { wb : SW // ∀ {P : Program} {w : World} {K : PySem.W.Frag} {mg : Str → Option Value} {base : Heap} (k : Nat) (z_dict : mg "dict" = none) (z_enumerate : mg "enumerate" = none) (z_sorted : mg "sorted" = none) (z_tuple : mg "tuple" = none), RdTy ["web", "places", "order", "names", "ties", "tie", "name", "place"] [0, 1] "cut" st_cut k P w K mg base wb } :=
  ⟨_, fun {P w K mg base} k z_dict z_enumerate z_sorted z_tuple f cdv A outer s H E hr =>
      (ss_cons (s_set (i := 2) (de_f (f_blt (cr_sortA rfl) opn_sortA z_sorted bl_sorted (l_cons (k_var 1) l_nil))) sc_cut.nd rfl (hT := @nT 2 [0, 1] rfl))
      (ss_cons (s_set (i := 3) (e_ty (call_dictP rfl) opn_dictP z_dict bl_dict (a_cons (e_lc rfl sc_cut.nd rfl (i_enumA (a_cons (e_var 2) a_nil) z_enumerate) (blkOk_by (own := [("name", 6), ("place", 7)]) (by kernel_rfl)) rfl (fun _ _ _ _ _ => (gt_tup (n := 2) rfl (gts_cons (gt_name (i := 6) sc_cut.nd (hT := nB rfl)) (gts_cons (gt_name (i := 7) sc_cut.nd (hT := nB rfl)) gts_nil)))) (fun _ _ _ _ _ => ts_nil) (fun _ _ _ _ _ => (de_f (f_tup (l_cons (k_var 7) (l_cons (k_var 6) l_nil)))))) a_nil)) sc_cut.nd rfl (hT := @nT 3 [0, 1] rfl))
      (ss_cons (s_setLc (i := 4) rfl sc_cut.nd rfl (i_any (de_k (k_ix ix_seq op2_ix (fun _ _ => rfl) (k_var 0) k_int))) (blkOk_by (own := [("tie", 5)]) (by kernel_rfl)) rfl (fun _ _ _ _ _ => (gt_name (i := 5) sc_cut.nd (hT := nB rfl))) (fun _ _ _ _ _ => (ts_one (t_b (b_w (b_and (b_din (hu_of hr) (k_ix ix_seq op2_ix (fun _ _ => rfl) (k_var 5) k_int) (k_var 3)) (b_and1 (b_din (hu_of hr) (k_ix ix_seq op2_ix (fun _ _ => rfl) (k_var 5) k_int) (k_var 3)))))))) (fun _ _ _ _ _ => (de_f (f_tup (l_cons (k_dget (hu_of hr) (k_var 3) (k_ix ix_seq op2_ix (fun _ _ => rfl) (k_var 5) k_int) (fun _ _ => rfl)) (l_cons (k_dget (hu_of hr) (k_var 3) (k_ix ix_seq op2_ix (fun _ _ => rfl) (k_var 5) k_int) (fun _ _ => rfl)) (l_cons (k_ix ix_seq op2_ix (fun _ _ => rfl) (k_var 5) k_int) l_nil)))))) (sw_true rfl rfl rfl (by decide +kernel)) (hT := @nT 4 [0, 1] rfl))
      (ss_one (s_ret (e_tup (a_cons (e_join (e_lc rfl sc_cut.nd rfl (i_any (e_var 2)) (blkOk_by (own := [("place", 7)]) (by kernel_rfl)) rfl (fun _ _ _ _ _ => (gt_name (i := 7) sc_cut.nd (hT := nB rfl))) (fun _ _ _ _ _ => ts_nil) (fun _ _ _ _ _ => (de_k (k_ix ix_seq op2_ix (fun _ _ => rfl) (k_ix ix_seq op2_ix (fun _ _ => rfl) (k_var 0) k_int) (k_var 7)))))) (a_cons (de_f (f_ty call_tuple_of opn_tuple z_tuple bl_tuple (l_cons (k_var 4) l_nil))) a_nil))))))))⟩
abbrev st__law_hand : Stmt := top 10
theorem sc__law_hand : FnScope ["cell", "k", "digits"] ["cell", "k"] (defScope st__law_hand) := ⟨rfl, rfl, rfl, by decide +kernel, rfl, by decide +kernel, by decide +kernel⟩
def rd__law_hand : { wb : SW // ∀ {P : Program} {w : World} {K : PySem.W.Frag} {mg : Str → Option Value} {base : Heap} (k : Nat), RdTy ["cell", "k", "digits"] [0, 1] "_law_hand" st__law_hand k P w K mg base wb } :=
  ⟨_, fun {P w K mg base} k f cdv A outer s H E hr =>
      (ss_cons (s_set (i := 2) (de_k k_int) sc__law_hand.nd rfl (hT := @nT 2 [0, 1] rfl))
      (ss_cons (s_if (t_b (b_cmp op_ge op2_geI (by rfl) (k_var 0) (k_bin op_pow op2_pow k_int k_int)))
       (ss_one (s_set (i := 2) (e_var 0) sc__law_hand.nd rfl (hT := @nT 2 [0, 1] rfl)))
       ss_nil)
      (ss_one (s_ret (de_f (f_lst (l_cons (k_var 2) (l_cons (k_bin op_mod op2_mod (dk_f (f_bin opr_mulA op2_mulA (dk_f (f_bin opr_add op2_add (dk_f (f_bin opr_add op2_add (k_bin op_mod op2_mod (k_var 0) k_int) (dk_f (f_bin opr_mulA op2_mulA k_int (k_var 1))))) k_int)) k_int)) k_int) l_nil))))))))⟩
abbrev st__law_draw : Stmt := top 11
theorem sc__law_draw : FnScope ["hand", "limit", "got"] ["hand", "limit"] (defScope st__law_draw) := ⟨rfl, rfl, rfl, by decide +kernel, rfl, by decide +kernel, by decide +kernel⟩
def rd__law_draw : { wb : SW // ∀ {P : Program} {w : World} {K : PySem.W.Frag} {mg : Str → Option Value} {base : Heap} (k : Nat), RdTy ["hand", "limit", "got"] [0, 1] "_law_draw" st__law_draw k P w K mg base wb } :=
  ⟨_, fun {P w K mg base} k f cdv A outer s H E hr =>
      (ss_cons (s_if (t_b (b_cmp op_gt op2_gtI (by rfl) (k_ix ix_seq op2_ix (fun _ _ => rfl) (k_var 0) k_int) k_int))
       (ss_cons (s_set (i := 2) (de_k (k_bin op_mod op2_mod (k_ix ix_seq op2_ix (fun _ _ => rfl) (k_var 0) k_int) (k_var 1))) sc__law_draw.nd rfl (hT := @nT 2 [0, 1] rfl))
       (ss_cons (s_ix (de_k (k_bin op_fdiv op2_div (k_ix ix_seq op2_ix (fun _ _ => rfl) (k_var 0) k_int) (k_var 1))) (p_var 0) k_int)
       (ss_one (s_ret (e_mv 2)))))
       ss_nil)
      (ss_cons (s_ix (de_k (k_bin op_mod op2_mod (dk_f (f_bin opr_add op2_add (dk_f (f_bin opr_add op2_add (dk_f (f_bin opr_mulA op2_mulA (k_ix ix_seq op2_ix (fun _ _ => rfl) (k_var 0) k_int) (k_ix ix_seq op2_ix (fun _ _ => rfl) (k_var 0) k_int))) (dk_f (f_bin opr_mulA op2_mulA k_int (k_ix ix_seq op2_ix (fun _ _ => rfl) (k_var 0) k_int))))) k_int)) k_int)) (p_var 0) k_int)
      (ss_one (s_ret (de_k (k_bin op_mod op2_mod (k_bin op_fdiv op2_div (k_ix ix_seq op2_ix (fun _ _ => rfl) (k_var 0) k_int) k_int) (k_var 1)))))))⟩
abbrev st__law_cells : Stmt := top 12
theorem sc__law_cells : FnScope ["script", "many"] ["script", "many"] (defScope st__law_cells) := ⟨rfl, rfl, rfl, by decide +kernel, rfl, by decide +kernel, by decide +kernel⟩
def rd__law_cells : { wb : SW // ∀ {P : Program} {w : World} {K : PySem.W.Frag} {mg : Str → Option Value} {base : Heap} (k : Nat) (z_enumerate : mg "enumerate" = none) (z_int : mg "int" = none) (z_list : mg "list" = none), RdTy ["script", "many"] [0, 1] "_law_cells" st__law_cells k P w K mg base wb } :=
  ⟨_, fun {P w K mg base} k z_enumerate z_int z_list f cdv A outer s H E hr =>
      (ss_one (s_ret (de_f (f_listEnum rfl (dk_f (f_bin opr_add op2_add (dk_f (f_slice (k_var 0) o_none (o_some (k_var 1)))) (dk_f (f_bin opr_mulA op2_mulA (dk_f (f_lst (l_cons k_int l_nil))) (k_ty call_int1 opn_int1 z_int bl_int (l_cons (k_cmp (op_eqD hr.units) op2_eq (by rfl) (k_var 0) (dk_f (f_lst l_nil))) l_nil)))))) rfl z_list rfl z_enumerate))))⟩
abbrev st__law_great : Stmt := top 13
theorem sc__law_great : FnScope ["script"] ["script"] (defScope st__law_great) := ⟨rfl, rfl, rfl, by decide +kernel, rfl, by decide +kernel, by decide +kernel⟩
def rd__law_great : { wb : SW // ∀ {P : Program} {w : World} {K : PySem.W.Frag} {mg : Str → Option Value} {base : Heap} (k : Nat) (z_sum : mg "sum" = none), RdTy ["script"] [0] "_law_great" st__law_great k P w K mg base wb } :=
  ⟨_, fun {P w K mg base} k z_sum f cdv A outer s H E hr =>
      (ss_one (s_ret (de_k (k_cmp (op_eqD hr.units) op2_eq (by rfl) (k_bin op_mod op2_mod (k_bin op_fdiv op2_div (k_blt (cr_sum rfl) opn_sum z_sum bl_sum (l_cons (k_var 0) l_nil)) k_int) k_int) k_int))))⟩
abbrev st__law_letters : Stmt := top 14
theorem sc__law_letters : FnScope ["hand"] ["hand"] (defScope st__law_letters) := ⟨rfl, rfl, rfl, by decide +kernel, rfl, by decide +kernel, by decide +kernel⟩
def rd__law_letters (sp__law_draw : DSp) : { wb : SW // ∀ {P : Program} {w : World} {K : PySem.W.Frag} {mg : Str → Option Value} {base : Heap} (k : Nat) {j__law_draw : Nat} (G__law_draw : Fn P w K mg base CX0 j__law_draw "_law_draw" sp__law_draw) (L__law_draw : j__law_draw ≤ k), RdTy ["hand"] [0] "_law_letters" st__law_letters k P w K mg base wb } :=
  ⟨_, fun {P w K mg base} k _ G__law_draw L__law_draw f cdv A outer s H E hr =>
      (ss_one (s_ret (e_ix ix_seq op2_ix (fun _ _ => rfl) (de_f (f_lst (l_cons k_str (l_cons k_str (l_cons k_str (l_cons k_str l_nil)))))) (e_cal (G__law_draw.cal hr L__law_draw) (g_ref 0 (g_val (de_k k_int) g_nil))))))⟩
abbrev st__law_web : Stmt := top 15
theorem sc__law_web : FnScope ["hand", "many", "some", "tie_kinds", "often", "kinds", "ties", "place", "other", "k"] ["hand", "many"] (defScope st__law_web) := ⟨rfl, rfl, rfl, by decide +kernel, rfl, by decide +kernel, by decide +kernel⟩
def rd__law_web (sp__law_letters : DSp) (sp__law_draw : DSp) : { wb : SW // ∀ {P : Program} {w : World} {K : PySem.W.Frag} {mg : Str → Option Value} {base : Heap} (k : Nat) (z_len : mg "len" = none) (z_range : mg "range" = none) (z_tuple : mg "tuple" = none) {j__law_letters : Nat} (G__law_letters : Fn P w K mg base CX0 j__law_letters "_law_letters" sp__law_letters) (L__law_letters : j__law_letters ≤ k) {j__law_draw : Nat} (G__law_draw : Fn P w K mg base CX0 j__law_draw "_law_draw" sp__law_draw) (L__law_draw : j__law_draw ≤ k), RdTy ["hand", "many", "some", "tie_kinds", "often", "kinds", "ties", "place", "other", "k"] [0, 1] "_law_web" st__law_web k P w K mg base wb } :=
  ⟨_, fun {P w K mg base} k z_len z_range z_tuple _ G__law_letters L__law_letters _ G__law_draw L__law_draw f cdv A outer s H E hr =>
      (ss_cons (s_set (i := 2) (e_cal (G__law_letters.cal hr L__law_letters) (g_ref 0 g_nil)) sc__law_web.nd rfl (hT := @nT 2 [0, 1] rfl))
      (ss_cons (s_set (i := 3) (e_cal (G__law_letters.cal hr L__law_letters) (g_ref 0 g_nil)) sc__law_web.nd rfl (hT := @nT 3 [0, 1] rfl))
      (ss_cons (s_set (i := 4) (e_bin opr_add op2_add (de_k k_int) (e_cal (G__law_draw.cal hr L__law_draw) (g_ref 0 (g_val (de_k k_int) g_nil)))) sc__law_web.nd rfl (hT := @nT 4 [0, 1] rfl))
      (ss_cons (s_set (i := 5) (e_join (e_lc rfl sc__law_web.nd rfl (i_rng1 (a_cons (e_var 1) a_nil) z_range) (blkOk_by (own := [("k", 9)]) (by kernel_rfl)) rfl (fun _ _ _ _ _ => (gt_name (i := 9) sc__law_web.nd (hT := nB rfl))) (fun _ _ _ _ _ => ts_nil) (fun _ _ _ _ _ => (e_ix ix_seq op2_ix (fun _ _ => rfl) (e_var 2) (e_cal (G__law_draw.cal hr L__law_draw) (g_ref 0 (g_val (de_k (k_blt callr_len opn_len z_len bl_len (l_cons (k_var 2) l_nil))) g_nil))))))) sc__law_web.nd rfl (hT := @nT 5 [0, 1] rfl))
      (ss_cons (s_set (i := 6) (de_f (f_lst l_nil)) sc__law_web.nd rfl (hT := @nT 6 [0, 1] rfl))
      (ss_cons (s_for PassesOwn.never rfl (i_rng1 (a_cons (e_var 1) a_nil) z_range) (gt_name (i := 7) sc__law_web.nd (hT := @nT 7 [0, 1] rfl))
       (ss_one (s_for PassesOwn.never rfl (i_rng2 (a_cons (de_f (f_bin opr_add op2_add (k_var 7) k_int)) (a_cons (e_var 1) a_nil)) z_range) (gt_name (i := 8) sc__law_web.nd (hT := @nT 8 [0, 1] rfl))
        (ss_one (s_if (t_cmp op_lt op2_ltI (by rfl) (e_cal (G__law_draw.cal hr L__law_draw) (g_ref 0 (g_val (de_k k_int) g_nil))) (e_var 4))
         (ss_one (s_expr (e_append 6 (a_cons (e_tup (a_cons (e_var 7) (a_cons (e_mv 8) (a_cons (e_ix ix_seq op2_ix (fun _ _ => rfl) (e_var 3) (e_cal (G__law_draw.cal hr L__law_draw) (g_ref 0 (g_val (de_k (k_blt callr_len opn_len z_len bl_len (l_cons (k_var 3) l_nil))) g_nil)))) a_nil)))) a_nil))))
         ss_nil)))))
      (ss_one (s_ret (de_f (f_tup (l_cons (k_var 5) (l_cons (dk_f (f_ty call_tuple_of opn_tuple z_tuple bl_tuple (l_cons (k_var 6) l_nil))) l_nil))))))))))))⟩
abbrev st__law_size : Stmt := top 16
theorem sc__law_size : FnScope ["hand", "great"] ["hand", "great"] (defScope st__law_size) := ⟨rfl, rfl, rfl, by decide +kernel, rfl, by decide +kernel, by decide +kernel⟩
def rd__law_size (sp__law_draw : DSp) : { wb : SW // ∀ {P : Program} {w : World} {K : PySem.W.Frag} {mg : Str → Option Value} {base : Heap} (k : Nat) {j__law_draw : Nat} (G__law_draw : Fn P w K mg base CX0 j__law_draw "_law_draw" sp__law_draw) (L__law_draw : j__law_draw ≤ k), RdTy ["hand", "great"] [0, 1] "_law_size" st__law_size k P w K mg base wb } :=
  ⟨_, fun {P w K mg base} k _ G__law_draw L__law_draw f cdv A outer s H E hr =>
      (ss_cons (s_if (t_b (b_k (k_var 1)))
       (ss_one (s_ret (e_ix ix_seq op2_ix (fun _ _ => rfl) (e_lst (a_cons (e_bin opr_add op2_add (de_k k_int) (e_cal (G__law_draw.cal hr L__law_draw) (g_ref 0 (g_val (de_k k_int) g_nil)))) (a_cons (e_bin opr_add op2_add (de_k k_int) (e_cal (G__law_draw.cal hr L__law_draw) (g_ref 0 (g_val (de_k k_int) g_nil)))) a_nil))) (e_cal (G__law_draw.cal hr L__law_draw) (g_ref 0 (g_val (de_k k_int) g_nil))))))
       ss_nil)
      (ss_one (s_ret (e_ix ix_seq op2_ix (fun _ _ => rfl) (e_lst (a_cons (e_cal (G__law_draw.cal hr L__law_draw) (g_ref 0 (g_val (de_k k_int) g_nil))) (a_cons (e_cal (G__law_draw.cal hr L__law_draw) (g_ref 0 (g_val (de_k k_int) g_nil))) (a_cons (e_cal (G__law_draw.cal hr L__law_draw) (g_ref 0 (g_val (de_k k_int) g_nil))) a_nil)))) (e_cal (G__law_draw.cal hr L__law_draw) (g_ref 0 (g_val (de_k k_int) g_nil)))))))⟩
abbrev st__law_cuts_right : Stmt := top 17
theorem sc__law_cuts_right : FnScope ["hand", "web", "many", "some", "less", "first", "name", "row", "ones", "place", "one"] ["hand", "web"] (defScope st__law_cuts_right) := ⟨rfl, rfl, rfl, by decide +kernel, rfl, by decide +kernel, by decide +kernel⟩
def rd__law_cuts_right (sp_cut : DSp) (sp_parts : DSp) (sp__law_draw : DSp) (sp_neighbours : DSp) (sp_tie_of : DSp) : { wb : SW // ∀ {P : Program} {w : World} {K : PySem.W.Frag} {mg : Str → Option Value} {base : Heap} (k : Nat) (z_len : mg "len" = none) (z_range : mg "range" = none) {j_cut : Nat} (G_cut : Fn P w K mg base CX0 j_cut "cut" sp_cut) (L_cut : j_cut ≤ k) {j_parts : Nat} (G_parts : Fn P w K mg base CX0 j_parts "parts" sp_parts) (L_parts : j_parts ≤ k) {j__law_draw : Nat} (G__law_draw : Fn P w K mg base CX0 j__law_draw "_law_draw" sp__law_draw) (L__law_draw : j__law_draw ≤ k) {j_neighbours : Nat} (G_neighbours : Fn P w K mg base CX0 j_neighbours "neighbours" sp_neighbours) (L_neighbours : j_neighbours ≤ k) {j_tie_of : Nat} (G_tie_of : Fn P w K mg base CX0 j_tie_of "tie_of" sp_tie_of) (L_tie_of : j_tie_of ≤ k), RdTy ["hand", "web", "many", "some", "less", "first", "name", "row", "ones", "place", "one"] [0, 1] "_law_cuts_right" st__law_cuts_right k P w K mg base wb } :=
  ⟨_, fun {P w K mg base} k z_len z_range _ G_cut L_cut _ G_parts L_parts _ G__law_draw L__law_draw _ G_neighbours L_neighbours _ G_tie_of L_tie_of f cdv A outer s H E hr =>
      (ss_cut (s_set (i := 2) (de_k (k_blt callr_len opn_len z_len bl_len (l_cons (k_ix ix_seq op2_ix (fun _ _ => rfl) (k_var 1) k_int) l_nil))) sc__law_cuts_right.nd rfl (hT := @nT 2 [0, 1] rfl))
      (ss_cut (s_set (i := 3) (e_lc rfl sc__law_cuts_right.nd rfl (i_rng1 (a_cons (e_var 2) a_nil) z_range) (blkOk_by (own := [("place", 9)]) (by kernel_rfl)) rfl (fun _ _ _ _ _ => (gt_name (i := 9) sc__law_cuts_right.nd (hT := nB rfl))) (fun _ _ _ _ _ => (ts_one (t_cmp op_gt op2_gtI (by rfl) (e_cal (G__law_draw.cal hr L__law_draw) (g_ref 0 (g_val (de_k k_int) g_nil))) (de_k k_int)))) (fun _ _ _ _ _ => (e_var 9))) sc__law_cuts_right.nd rfl (hT := @nT 3 [0, 1] rfl))
      (ss_cut (s_setLc (i := 4) rfl sc__law_cuts_right.nd rfl (i_rng1 (a_cons (de_k (k_blt callr_len opn_len z_len bl_len (l_cons (k_var 3) l_nil))) a_nil) z_range) (blkOk_by (own := [("name", 6)]) (by kernel_rfl)) rfl (fun _ _ _ _ _ => (gt_name (i := 6) sc__law_cuts_right.nd (hT := nB rfl))) (fun _ _ _ _ _ => (ts_one (t_cmp op_gt op2_gtI (by rfl) (e_cal (G__law_draw.cal hr L__law_draw) (g_ref 0 (g_val (de_k k_int) g_nil))) (de_k k_int)))) (fun _ _ _ _ _ => (e_var 6)) (sw_true rfl rfl rfl (by decide +kernel)) (hT := @nT 4 [0, 1] rfl))
      (ss_cut (s_set (i := 5) (e_cal (G_cut.cal hr L_cut) (g_ref 1 (g_ref 3 g_nil))) sc__law_cuts_right.nd rfl (hT := @nT 5 [0, 1] rfl))
      (ss_cut (s_if (t_cmp (op_neD hr.units) op2_ne (by rfl) (e_cal (G_cut.cal hr L_cut) (g_ref 5 (g_val (de_f (f_rev (k_var 4))) g_nil))) (e_cal (G_cut.cal hr L_cut) (g_ref 1 (g_val (e_lc rfl sc__law_cuts_right.nd rfl (i_any (e_var 4)) (blkOk_by (own := [("name", 6)]) (by kernel_rfl)) rfl (fun _ _ _ _ _ => (gt_name (i := 6) sc__law_cuts_right.nd (hT := nB rfl))) (fun _ _ _ _ _ => ts_nil) (fun _ _ _ _ _ => (de_k (k_ix ix_seq op2_ix (fun _ _ => rfl) (k_var 3) (k_var 6))))) g_nil))))
       (ss_one (s_ret (de_k k_bl)))
       ss_nil)
      (ss_cut (s_for PassesOwn.never rfl (i_rng1 (a_cons (de_k (k_blt callr_len opn_len z_len bl_len (l_cons (k_var 3) l_nil))) a_nil) z_range) (gt_name (i := 6) sc__law_cuts_right.nd (hT := @nT 6 [0, 1] rfl))
       (ss_cut (s_setLc (i := 7) rfl sc__law_cuts_right.nd rfl (i_any (e_cal (G_neighbours.cal hr L_neighbours) (g_ref 5 (g_ref 6 g_nil)))) (blkOk_by (own := [("one", 10)]) (by kernel_rfl)) rfl (fun _ _ _ _ _ => (gt_name (i := 10) sc__law_cuts_right.nd (hT := nB rfl))) (fun _ _ _ _ _ => ts_nil) (fun _ _ _ _ _ => (de_k (k_ix ix_seq op2_ix (fun _ _ => rfl) (k_var 3) (k_var 10)))) (sw_true rfl rfl rfl (by decide +kernel)) (hT := @nT 7 [0, 1] rfl))
       (ss_cut (s_if (t_cmp (op_neD hr.units) op2_ne (by rfl) (e_var 7) (e_lc rfl sc__law_cuts_right.nd rfl (i_any (e_cal (G_neighbours.cal hr L_neighbours) (g_ref 1 (g_val (de_k (k_ix ix_seq op2_ix (fun _ _ => rfl) (k_var 3) (k_var 6))) g_nil)))) (blkOk_by (own := [("place", 9)]) (by kernel_rfl)) rfl (fun _ _ _ _ _ => (gt_name (i := 9) sc__law_cuts_right.nd (hT := nB rfl))) (fun _ _ _ _ _ => (ts_one (t_b (b_cmp (opr_in (u65 hr)) op2_in (by rfl) (k_var 9) (k_var 3))))) (fun _ _ _ _ _ => (e_var 9))))
        (ss_one (s_ret (de_k k_bl)))
        ss_nil)
       (ss_cut (s_setLc (i := 8) rfl sc__law_cuts_right.nd rfl (i_rng1 (a_cons (de_k (k_blt callr_len opn_len z_len bl_len (l_cons (k_var 3) l_nil))) a_nil) z_range) (blkOk_by (own := [("one", 10)]) (by kernel_rfl)) rfl (fun _ _ _ _ _ => (gt_name (i := 10) sc__law_cuts_right.nd (hT := nB rfl))) (fun _ _ _ _ _ => (ts_one (t_w (t_or (t_b (b_cmp op_lt op2_ltI (by rfl) (k_var 2) k_int)) (t_or1 (t_cmp (op_eqD hr.units) op2_eq (by rfl) (e_cal (G__law_draw.cal hr L__law_draw) (g_ref 0 (g_val (de_k k_int) g_nil))) (de_k k_int))))))) (fun _ _ _ _ _ => (e_var 10)) (sw_true rfl rfl rfl (by decide +kernel)) (hT := @nT 8 [0, 1] rfl))
       (ss_one (s_if (t_cmp (op_neD hr.units) op2_ne (by rfl) (e_lc rfl sc__law_cuts_right.nd rfl (i_any (e_var 8)) (blkOk_by (own := [("one", 10)]) (by kernel_rfl)) rfl (fun _ _ _ _ _ => (gt_name (i := 10) sc__law_cuts_right.nd (hT := nB rfl))) (fun _ _ _ _ _ => (ts_one (t_cmp (op_neD hr.units) op2_ne (by rfl) (e_cal (G_tie_of.cal hr L_tie_of) (g_ref 5 (g_ref 6 (g_ref 10 g_nil)))) (e_cal (G_tie_of.cal hr L_tie_of) (g_ref 1 (g_val (de_k (k_ix ix_seq op2_ix (fun _ _ => rfl) (k_var 3) (k_var 6))) (g_val (de_k (k_ix ix_seq op2_ix (fun _ _ => rfl) (k_var 3) (k_var 10))) g_nil))))))) (fun _ _ _ _ _ => (e_var 10))) (de_f (f_lst l_nil)))
        (ss_one (s_ret (de_k k_bl)))
        ss_nil))))))
      (ss_one (s_ret (e_cmp (op_eqD hr.units) op2_eq (by rfl) (e_cal (G_parts.cal hr L_parts) (g_val (de_f (f_tup (l_cons (k_ix ix_seq op2_ix (fun _ _ => rfl) (k_var 1) k_int) (l_cons (dk_f (f_tup l_nil)) l_nil)))) g_nil)) (e_lc rfl sc__law_cuts_right.nd rfl (i_rng1 (a_cons (e_mv 2) a_nil) z_range) (blkOk_by (own := [("place", 9)]) (by kernel_rfl)) rfl (fun _ _ _ _ _ => (gt_name (i := 9) sc__law_cuts_right.nd (hT := nB rfl))) (fun _ _ _ _ _ => ts_nil) (fun _ _ _ _ _ => (de_f (f_lst (l_cons (k_var 9) l_nil))))))))))))))⟩
abbrev st__law_parts_right : Stmt := top 18
theorem sc__law_parts_right : FnScope ["hand", "web", "told", "one", "other", "tie", "more", "at", "fewer", "part", "place", "left", "rest", "whole", "name"] ["hand", "web"] (defScope st__law_parts_right) := ⟨rfl, rfl, rfl, by decide +kernel, rfl, by decide +kernel, by decide +kernel⟩
def rd__law_parts_right (sp_parts : DSp) (sp__law_draw : DSp) (sp_hangs : DSp) (sp_cut : DSp) : { wb : SW // ∀ {P : Program} {w : World} {K : PySem.W.Frag} {mg : Str → Option Value} {base : Heap} (k : Nat) (z_len : mg "len" = none) (z_max : mg "max" = none) (z_min : mg "min" = none) (z_range : mg "range" = none) (z_sorted : mg "sorted" = none) (z_tuple : mg "tuple" = none) {j_parts : Nat} (G_parts : Fn P w K mg base CX0 j_parts "parts" sp_parts) (L_parts : j_parts ≤ k) {j__law_draw : Nat} (G__law_draw : Fn P w K mg base CX0 j__law_draw "_law_draw" sp__law_draw) (L__law_draw : j__law_draw ≤ k) {j_hangs : Nat} (G_hangs : Fn P w K mg base CX0 j_hangs "hangs" sp_hangs) (L_hangs : j_hangs ≤ k) {j_cut : Nat} (G_cut : Fn P w K mg base CX0 j_cut "cut" sp_cut) (L_cut : j_cut ≤ k), RdTy ["hand", "web", "told", "one", "other", "tie", "more", "at", "fewer", "part", "place", "left", "rest", "whole", "name"] [0, 1] "_law_parts_right" st__law_parts_right k P w K mg base wb } :=
  ⟨_, fun {P w K mg base} k z_len z_max z_min z_range z_sorted z_tuple _ G_parts L_parts _ G__law_draw L__law_draw _ G_hangs L_hangs _ G_cut L_cut f cdv A outer s H E hr =>
      (ss_cut (s_set (i := 2) (e_cal (G_parts.cal hr L_parts) (g_ref 1 g_nil)) sc__law_parts_right.nd rfl (hT := @nT 2 [0, 1] rfl))
      (ss_cut (s_if (t_b (b_cmp op_gt op2_gtI (by rfl) (k_blt callr_len opn_len z_len bl_len (l_cons (k_var 2) l_nil)) k_int))
       (ss_cut (s_set (i := 3) (e_ix ix_seq op2_ix (fun _ _ => rfl) (de_k (k_ix ix_seq op2_ix (fun _ _ => rfl) (k_var 2) k_int)) (e_cal (G__law_draw.cal hr L__law_draw) (g_ref 0 (g_val (de_k (k_blt callr_len opn_len z_len bl_len (l_cons (k_ix ix_seq op2_ix (fun _ _ => rfl) (k_var 2) k_int) l_nil))) g_nil)))) sc__law_parts_right.nd rfl (hT := @nT 3 [0, 1] rfl))
       (ss_cut (s_set (i := 4) (e_ix ix_seq op2_ix (fun _ _ => rfl) (de_k (k_ix ix_seq op2_ix (fun _ _ => rfl) (k_var 2) (k_neg k_int))) (e_cal (G__law_draw.cal hr L__law_draw) (g_ref 0 (g_val (de_k (k_blt callr_len opn_len z_len bl_len (l_cons (k_ix ix_seq op2_ix (fun _ _ => rfl) (k_var 2) (k_neg k_int)) l_nil))) g_nil)))) sc__law_parts_right.nd rfl (hT := @nT 4 [0, 1] rfl))
       (ss_cut (s_set (i := 5) (de_f (f_tup (l_cons (k_blt (call_min2 rfl) opn_min2 z_min bl_min (l_cons (k_var 3) (l_cons (k_var 4) l_nil))) (l_cons (k_blt (call_max2 rfl) opn_max2 z_max bl_max (l_cons (k_var 3) (l_cons (k_var 4) l_nil))) (l_cons k_str l_nil))))) sc__law_parts_right.nd rfl (hT := @nT 5 [0, 1] rfl))
       (ss_cut (s_set (i := 6) (de_f (f_tup (l_cons (k_ix ix_seq op2_ix (fun _ _ => rfl) (k_var 1) k_int) (l_cons (dk_f (f_ty call_tuple_of opn_tuple z_tuple bl_tuple (l_cons (dk_f (f_blt (cr_sortB rfl) opn_sortB z_sorted bl_sorted (l_cons (dk_f (f_bin opr_add op2_add (k_ix ix_seq op2_ix (fun _ _ => rfl) (k_var 1) k_int) (dk_f (f_tup (l_cons (k_var 5) l_nil))))) l_nil))) l_nil))) l_nil)))) sc__law_parts_right.nd rfl (hT := @nT 6 [0, 1] rfl))
       (ss_one (s_if (t_cmp (op_neD hr.units) op2_ne (by rfl) (e_cal (G_parts.cal hr L_parts) (g_ref 6 g_nil)) (de_f (f_bin opr_add op2_add (dk_f (f_lst (l_cons (dk_f (f_blt (cr_sortB rfl) opn_sortB z_sorted bl_sorted (l_cons (dk_f (f_bin opr_add op2_add (k_ix ix_seq op2_ix (fun _ _ => rfl) (k_var 2) k_int) (k_ix ix_seq op2_ix (fun _ _ => rfl) (k_var 2) (k_neg k_int)))) l_nil))) l_nil))) (dk_f (f_slice (k_var 2) (o_some k_int) (o_some (k_neg k_int)))))))
        (ss_one (s_ret (de_k k_bl)))
        ss_nil))))))
       ss_nil)
      (ss_cut (s_if (t_b (b_cmp (op_neD hr.units) op2_ne (by rfl) (k_ix ix_seq op2_ix (fun _ _ => rfl) (k_var 1) k_int) (dk_f (f_tup l_nil))))
       (ss_cut (s_set (i := 7) (e_cal (G__law_draw.cal hr L__law_draw) (g_ref 0 (g_val (de_k (k_blt callr_len opn_len z_len bl_len (l_cons (k_ix ix_seq op2_ix (fun _ _ => rfl) (k_var 1) k_int) l_nil))) g_nil))) sc__law_parts_right.nd rfl (hT := @nT 7 [0, 1] rfl))
       (ss_cut (s_set (i := 8) (e_cal (G_parts.cal hr L_parts) (g_val (de_f (f_tup (l_cons (k_ix ix_seq op2_ix (fun _ _ => rfl) (k_var 1) k_int) (l_cons (dk_f (f_bin opr_add op2_add (dk_f (f_slice (k_ix ix_seq op2_ix (fun _ _ => rfl) (k_var 1) k_int) o_none (o_some (k_var 7)))) (dk_f (f_slice (k_ix ix_seq op2_ix (fun _ _ => rfl) (k_var 1) k_int) (o_some (dk_f (f_bin opr_add op2_add (k_var 7) k_int))) o_none)))) l_nil)))) g_nil)) sc__law_parts_right.nd rfl (hT := @nT 8 [0, 1] rfl))
       (ss_cut (s_if (t_w (t_or (t_b (b_not (b_chain op_le op2_leI op_le op2_leI (k_blt callr_len opn_len z_len bl_len (l_cons (k_var 2) l_nil)) (k_blt callr_len opn_len z_len bl_len (l_cons (k_var 8) l_nil)) (dk_f (f_bin opr_add op2_add (k_blt callr_len opn_len z_len bl_len (l_cons (k_var 2) l_nil)) k_int))))) (t_or1 (t_w (t_and (t_e (e_cal (G_hangs.cal hr L_hangs) (g_ref 1 g_nil))) (t_and1 (t_b (b_cmp op_gt op2_gtI (by rfl) (k_blt callr_len opn_len z_len bl_len (l_cons (k_var 8) l_nil)) k_int))))))))
        (ss_one (s_ret (de_k k_bl)))
        ss_nil)
       (ss_one (s_for PassesOwn.never rfl (i_any (e_var 8)) (gt_name (i := 9) sc__law_parts_right.nd (hT := @nT 9 [0, 1] rfl))
        (ss_cut (s_set (i := 13) (e_ix ix_seq op2_ix (fun _ _ => rfl) (e_lcK 2 rfl sc__law_parts_right.nd rfl (blkOk_by (own := [("one", 3)]) (by kernel_rfl)) rfl (fun _ _ _ _ _ => (gt_name (i := 3) sc__law_parts_right.nd (hT := nB rfl))) (fun _ _ _ _ _ => (ts_one (t_b (b_cmp (opr_in (u65 hr)) op2_in (by rfl) (k_ix ix_seq op2_ix (fun _ _ => rfl) (k_var 9) k_int) (k_var 3))))) (fun _ _ _ _ _ => (e_var 3))) (de_k k_int)) sc__law_parts_right.nd rfl (hT := @nT 13 [0, 1] rfl))
        (ss_one (s_if (t_cmp (op_neD hr.units) op2_ne (by rfl) (e_lcK 9 rfl sc__law_parts_right.nd rfl (blkOk_by (own := [("place", 10)]) (by kernel_rfl)) rfl (fun _ _ _ _ _ => (gt_name (i := 10) sc__law_parts_right.nd (hT := nB rfl))) (fun _ _ _ _ _ => (ts_one (t_b (b_cmp (opr_notIn (u65 hr)) op2_notIn (by rfl) (k_var 10) (k_var 13))))) (fun _ _ _ _ _ => (e_var 10))) (de_f (f_lst l_nil)))
         (ss_one (s_ret (de_k k_bl)))
         ss_nil))))))))
       ss_nil)
      (ss_cut (s_if (t_b (b_cmp (op_neD hr.units) op2_ne (by rfl) (k_var 2) (dk_f (f_lst l_nil))))
       (ss_cut (s_set (i := 10) (e_ix ix_seq op2_ix (fun _ _ => rfl) (de_k (k_ix ix_seq op2_ix (fun _ _ => rfl) (k_var 2) k_int)) (e_cal (G__law_draw.cal hr L__law_draw) (g_ref 0 (g_val (de_k (k_blt callr_len opn_len z_len bl_len (l_cons (k_ix ix_seq op2_ix (fun _ _ => rfl) (k_var 2) k_int) l_nil))) g_nil)))) sc__law_parts_right.nd rfl (hT := @nT 10 [0, 1] rfl))
       (ss_cut (s_set (i := 11) (e_lc rfl sc__law_parts_right.nd rfl (i_rng1 (a_cons (de_k (k_blt callr_len opn_len z_len bl_len (l_cons (k_ix ix_seq op2_ix (fun _ _ => rfl) (k_var 1) k_int) l_nil))) a_nil) z_range) (blkOk_by (own := [("one", 3)]) (by kernel_rfl)) rfl (fun _ _ _ _ _ => (gt_name (i := 3) sc__law_parts_right.nd (hT := nB rfl))) (fun _ _ _ _ _ => (ts_one (t_b (b_cmp (op_neD hr.units) op2_ne (by rfl) (k_var 3) (k_var 10))))) (fun _ _ _ _ _ => (e_var 3))) sc__law_parts_right.nd rfl (hT := @nT 11 [0, 1] rfl))
       (ss_cut (s_set (i := 12) (e_lc rfl sc__law_parts_right.nd rfl (i_any (e_cal (G_parts.cal hr L_parts) (g_val (e_cal (G_cut.cal hr L_cut) (g_ref 1 (g_ref 11 g_nil))) g_nil))) (blkOk_by (own := [("part", 9)]) (by kernel_rfl)) rfl (fun _ _ _ _ _ => (gt_name (i := 9) sc__law_parts_right.nd (hT := nB rfl))) (fun _ _ _ _ _ => ts_nil) (fun _ _ _ _ _ => (e_lcK 9 rfl sc__law_parts_right.nd rfl (blkOk_by (own := [("name", 14)]) (by kernel_rfl)) rfl (fun _ _ _ _ _ => (gt_name (i := 14) sc__law_parts_right.nd (hT := nB rfl))) (fun _ _ _ _ _ => ts_nil) (fun _ _ _ _ _ => (de_k (k_ix ix_seq op2_ix (fun _ _ => rfl) (k_var 11) (k_var 14))))))) sc__law_parts_right.nd rfl (hT := @nT 12 [0, 1] rfl))
       (ss_one (s_if (t_cmp (op_neD hr.units) op2_ne (by rfl) (e_lc rfl sc__law_parts_right.nd rfl (i_any (de_f (f_slice (k_var 2) (o_some k_int) o_none))) (blkOk_by (own := [("part", 9)]) (by kernel_rfl)) rfl (fun _ _ _ _ _ => (gt_name (i := 9) sc__law_parts_right.nd (hT := nB rfl))) (fun _ _ _ _ _ => (ts_one (t_b (b_cmp (opr_notIn (u65 hr)) op2_notIn (by rfl) (k_var 9) (k_var 12))))) (fun _ _ _ _ _ => (e_var 9))) (de_f (f_lst l_nil)))
        (ss_one (s_ret (de_k k_bl)))
        ss_nil)))))
       ss_nil)
      (ss_one (s_ret (de_k k_bl)))))))⟩
abbrev st_law : Stmt := top 19
theorem sc_law : FnScope ["script", "k", "cell", "hand", "web"] ["script"] (defScope st_law) := ⟨rfl, rfl, rfl, by decide +kernel, rfl, by decide +kernel, by decide +kernel⟩
def rd_law (sp__law_cells : DSp) (sp__law_hand : DSp) (sp__law_web : DSp) (sp__law_size : DSp) (sp__law_cuts_right : DSp) (sp__law_parts_right : DSp) (sp__law_great : DSp) : { wb : SW // ∀ {P : Program} {w : World} {K : PySem.W.Frag} {mg : Str → Option Value} {base : Heap} (k : Nat) {j__law_cells : Nat} (G__law_cells : Fn P w K mg base CX0 j__law_cells "_law_cells" sp__law_cells) (L__law_cells : j__law_cells ≤ k) {j__law_hand : Nat} (G__law_hand : Fn P w K mg base CX0 j__law_hand "_law_hand" sp__law_hand) (L__law_hand : j__law_hand ≤ k) {j__law_web : Nat} (G__law_web : Fn P w K mg base CX0 j__law_web "_law_web" sp__law_web) (L__law_web : j__law_web ≤ k) {j__law_size : Nat} (G__law_size : Fn P w K mg base CX0 j__law_size "_law_size" sp__law_size) (L__law_size : j__law_size ≤ k) {j__law_cuts_right : Nat} (G__law_cuts_right : Fn P w K mg base CX0 j__law_cuts_right "_law_cuts_right" sp__law_cuts_right) (L__law_cuts_right : j__law_cuts_right ≤ k) {j__law_parts_right : Nat} (G__law_parts_right : Fn P w K mg base CX0 j__law_parts_right "_law_parts_right" sp__law_parts_right) (L__law_parts_right : j__law_parts_right ≤ k) {j__law_great : Nat} (G__law_great : Fn P w K mg base CX0 j__law_great "_law_great" sp__law_great) (L__law_great : j__law_great ≤ k), RdTy ["script", "k", "cell", "hand", "web"] [0] "law" st_law k P w K mg base wb } :=
  ⟨_, fun {P w K mg base} k _ G__law_cells L__law_cells _ G__law_hand L__law_hand _ G__law_web L__law_web _ G__law_size L__law_size _ G__law_cuts_right L__law_cuts_right _ G__law_parts_right L__law_parts_right _ G__law_great L__law_great f cdv A outer s H E hr =>
      (ss_cut (s_for PassesOwn.never rfl (i_any (e_cal (G__law_cells.cal hr L__law_cells) (g_ref 0 (g_val (de_k k_int) g_nil)))) (gt_tup (n := 2) rfl (gts_cons (gt_name (i := 1) sc_law.nd (hT := @nT 1 [0] rfl)) (gts_cons (gt_name (i := 2) sc_law.nd (hT := @nT 2 [0] rfl)) gts_nil)))
       (ss_cut (s_set (i := 3) (e_cal (G__law_hand.cal hr L__law_hand) (g_ref 2 (g_ref 1 g_nil))) sc_law.nd rfl (hT := @nT 3 [0] rfl))
       (ss_cut (s_set (i := 4) (e_cal (G__law_web.cal hr L__law_web) (g_ref 3 (g_val (e_cal (G__law_size.cal hr L__law_size) (g_ref 3 (g_val (de_k (k_and (k_cmp (op_eqD hr.units) op2_eq (by rfl) (k_var 1) k_int) (k_one (dk_e (e_cal (G__law_great.cal hr L__law_great) (g_ref 0 g_nil)))))) g_nil))) g_nil))) sc_law.nd rfl (hT := @nT 4 [0] rfl))
       (ss_one (s_if (t_w (t_or (t_not (t_e (e_cal (G__law_cuts_right.cal hr L__law_cuts_right) (g_ref 3 (g_ref 4 g_nil))))) (t_or1 (t_not (t_e (e_cal (G__law_parts_right.cal hr L__law_parts_right) (g_ref 3 (g_ref 4 g_nil))))))))
        (ss_one (s_ret (de_k k_bl)))
        ss_nil)))))
      (ss_one (s_ret (de_k k_bl))))⟩
end L3
namespace L3
open PySem PySem.Spec L2
open PyProof.Rows hiding St
theorem wp_hand : ∀ ds P EP, sp_hand ds P EP → rd__law_hand.1 (enD [true, true] P) (startE 3 ds) := by
  rintro _ P EP ⟨c, k, rfl, hk, h⟩
  have hm := Int.emod_nonneg ((c % 2147483587 + 7919 * k + 1) * 48271) (show (2147483587 : Int) ≠ 0 by decide)
  have hl := Int.emod_lt_of_pos ((c % 2147483587 + 7919 * k + 1) * 48271) (show (0 : Int) < 2147483587 by decide)
  simp [rd__law_hand, szl, CPow]
  split
  · exact ⟨.inl ⟨by decide, by decide⟩, .inr ⟨by decide, by decide⟩, h _ ⟨_, _, rfl, by omega, hm, hl⟩⟩
  · exact ⟨.inl ⟨by decide, by decide⟩, .inr ⟨by decide, by decide⟩, h _ ⟨_, _, rfl, by omega, hm, hl⟩⟩
theorem wp_draw : ∀ ds P EP, sp_draw ds P EP → rd__law_draw.1 (enD [true, true] P) (startE 3 ds) := by
  rintro _ P EP ⟨_, n, rfl, ⟨x, y, rfl, hx, hy, hy2⟩, hn, hn2, h⟩
  simp [rd__law_draw]
  split
  · refine ⟨hn, ⟨hn, by omega⟩, h _ _ (Int.emod_nonneg _ (by omega)) (Int.emod_lt_of_pos _ hn) ⟨_, _, rfl, Int.ediv_nonneg hx (by omega), hy, hy2⟩⟩
  · refine ⟨.inl ⟨by omega, by omega⟩, .inl ⟨by decide, by decide⟩, ⟨by decide, by decide⟩, hn, h _ _ (Int.emod_nonneg _ (by omega)) (Int.emod_lt_of_pos _ hn) ⟨_, _, rfl, hx, Int.emod_nonneg _ (by decide), Int.emod_lt_of_pos _ (by decide)⟩⟩
theorem wp_great : ∀ ds P EP, sp_great ds P EP → rd__law_great.1 (enD [true] P) (startE 1 ds) := by
  rintro _ P EP ⟨ns, rfl, h⟩
  simp [rd__law_great, oSum, ofInts, oEq, CDiv, h]
theorem wp_cells : ∀ ds P EP, sp_cells ds P EP → rd__law_cells.1 (enD [true, true] P) (startE 2 ds) := by
  rintro _ P EP ⟨ns, m, rfl, hm, hl, h⟩
  have hE : ∀ zs : List Int, zs.length ≤ 65 → oEnumL (.lst false (zs.map D.int)) fun d => P d [.scr ns, .int m] := fun zs hz => ⟨fzs_ints _, h zs hz⟩
  have hT : ∀ k j : Nat, ((ns.drop k).take j).length ≤ 64 := fun k j => by rw [List.length_take, List.length_drop]; omega
  simp only [rd__law_cells, oSl, oEq]
  cases ns with
  | nil =>
    simp [szl, oRep]
    exact hE [0] (by simp)
  | cons n ns =>
    simp [szl, oRep, ← List.map_take, ← List.map_drop]
    refine ⟨fzs_ints _, by have := hT (HT.sIx (ns.length + 1) 0 none) (HT.sIx (ns.length + 1) (ns.length + 1) (some m) - HT.sIx (ns.length + 1) 0 none); simp at this; omega, ?_⟩
    exact hE _ (by have := hT (HT.sIx (ns.length + 1) 0 none) (HT.sIx (ns.length + 1) (ns.length + 1) (some m) - HT.sIx (ns.length + 1) 0 none); simp at this ⊢; omega)
theorem wp_letters : ∀ ds P EP, sp_letters ds P EP → (rd__law_letters sp_draw).1 (enD [true] P) (startE 1 ds) := by
  rintro _ P EP ⟨x, rfl, hx, h⟩
  simp [rd__law_letters, cal_eq, szl]
  refine draw_i hx (by decide) (by decide) fun g h' h0 h1 hh => ?_
  simp
  have e1 : Str.ofString "a" = ⟨[97].toArray⟩ := by decide +kernel
  have e2 : Str.ofString "ab" = ⟨[97, 98].toArray⟩ := by decide +kernel
  have e3 : Str.ofString "xyz" = ⟨[120, 121, 122].toArray⟩ := by decide +kernel
  have e4 : Str.ofString "abcdefghijklmnopqrstuvwxyz" = ⟨((List.range 26).map (· + 97)).toArray⟩ := by decide +kernel
  rw [e1, e2, e3, e4]
  rcases (show g = 0 ∨ g = 1 ∨ g = 2 ∨ g = 3 by omega) with rfl | rfl | rfl | rfl <;> simp only [at0, at1, at2, at3, mb_so] <;> refine h _ _ hh ?_ ?_ ?_ <;> decide
theorem wp_web : ∀ ds P EP, sp_web ds P EP → (rd__law_web sp_letters sp_draw).1 (enD [true, true] P) (startE 10 ds) := by
  rintro _ P EP ⟨x, n, rfl, hx, hn, h⟩
  simp [rd__law_web, cal_eq]
  refine ⟨x, rfl, hx, fun cs h1 hh1 a1 a2 a3 => ?_⟩
  simp
  refine ⟨h1, rfl, hh1, fun ct h2 hh2 b1 b2 b3 => ?_⟩
  simp
  refine draw_i hh2 (by decide) (by decide) fun g h3 g0 g1 hh3 => ?_
  simp
  have s62 : small62 (n : Int) := ⟨by omega, by omega⟩
  refine ⟨s62, by rw [rngD_len]; simp [szl]; omega, ?_⟩
  refine compD_inv (fun i acc ρ => ∃ (h : D) (ks : List Nat), ρ = [some h, some (.int (n : Nat)), some (.str ⟨cs.toArray⟩), some (.str ⟨ct.toArray⟩), some (.int (1 + g)), none, none, none, none, none] ∧ isHand h ∧ acc = ks.map (fun c => D.str (chr c)) ∧ ks.length = i ∧ ∀ c ∈ ks, c < 128) ⟨h3, [], rfl, hh3, rfl, rfl, by simp⟩ ?_ ?_
  · rintro i d acc ρ hi ⟨h', ks, rfl, hh', rfl, rfl, hks⟩ rest hrest
    simp [szl]
    refine ⟨by omega, draw_i hh' (by omega) (by omega) fun u h4 u0 u1 hh4 => ?_⟩
    obtain ⟨c, _, ec, hc⟩ := atN (xs := cs) u0 (by simpa using u1)
    simp [ec, szl]
    refine ⟨by omega, ?_⟩
    exact hrest _ _ ⟨h4, ks ++ [c], rfl, hh4, by rw [List.map_append]; rfl, by simp, fun c' hc' => by
     rcases List.mem_append.mp hc' with hc' | hc'
     · exact hks c' hc'
     · rw [List.mem_singleton.mp hc']; exact a3 c hc⟩
  · rintro acc ρ ⟨h', ks, rfl, hh', rfl, hl, hks⟩
    rw [rngD_len] at hl
    refine join_chrs (by omega) ?_
    simp
    refine ⟨s62, ?_⟩
    -- the ties: by places
    refine forD_inv (fun i ρ => ∃ (h : D) (ts : List TT) (o7 o8 o9 : Option D), ρ = [some h, some (.int (n : Nat)), some (.str ⟨cs.toArray⟩), some (.str ⟨ct.toArray⟩), some (.int (1 + g)), some (.str ⟨ks.toArray⟩), some (.lst true (ts.map tieD)), o7, o8, o9] ∧ isHand h ∧ ts.length ≤ i * n ∧
      (∀ t ∈ ts, t.1 < i ∧ t.1 < t.2.1 ∧ t.2.1 < n ∧ ZOk t.2.2) ∧ ts.Pairwise fun s t => ¬ (s.1 = t.1 ∧ s.2.1 = t.2.1)) ⟨h', [], _, _, _, rfl, hh', by simp, by simp, .nil⟩ ?_ ?_
    · rintro i d ρ hi ⟨h5, ts, o7, o8, o9, rfl, hh5, hts, hall, hu⟩ rest hrest
      obtain ⟨hi', rfl⟩ := rngD_at0 hi
      simp
      refine ⟨⟨by omega, by omega⟩, s62, ?_⟩
      refine forD_inv (fun j ρ => ∃ (h : D) (ts : List TT) (o8 o9 : Option D), ρ = [some h, some (.int (n : Nat)), some (.str ⟨cs.toArray⟩), some (.str ⟨ct.toArray⟩), some (.int (1 + g)), some (.str ⟨ks.toArray⟩), some (.lst true (ts.map tieD)), some (.int (i : Nat)), o8, o9] ∧ isHand h ∧ ts.length ≤ i * n + j ∧
        (∀ t ∈ ts, (t.1 < i ∨ (t.1 = i ∧ t.2.1 < i + 1 + j)) ∧ t.1 < t.2.1 ∧ t.2.1 < n ∧ ZOk t.2.2) ∧ ts.Pairwise fun s t => ¬ (s.1 = t.1 ∧ s.2.1 = t.2.1)) ⟨h5, ts, _, _, rfl, hh5, by omega, fun t ht => ⟨.inl (hall t ht).1, (hall t ht).2⟩, hu⟩ ?_ ?_
      · rintro j d ρ hj ⟨h6, ts, o8, o9, rfl, hh6, hts, hall, hu⟩ rest2 hrest2
        obtain ⟨hj', rfl⟩ := rngD_at hj
        simp
        refine draw_i hh6 (by decide) (by decide) fun g7 h7 _ _ hh7 => ?_
        simp
        split
        · refine ⟨by simp [szl]; omega, draw_i hh7 (by omega) (by omega) fun u h8 u0 u1 hh8 => ?_⟩
          obtain ⟨c, _, ec, hc⟩ := atN (xs := ct) u0 (by simpa using u1)
          have hij : i * n ≤ 100 * 100 := Nat.mul_le_mul (by omega) hn
          simp [ec, szl]
          refine ⟨by omega, by omega, hrest2 _ ⟨h8, ts ++ [(i, i + 1 + j, chr c)], some .gone, o9, ?_, hh8, by simp; omega, ?_, ?_⟩⟩
          · rw [List.map_append]; rfl
          · intro t ht
            rcases List.mem_append.mp ht with ht | ht
            · exact ⟨by have := (hall t ht).1; omega, (hall t ht).2⟩
            · rw [List.mem_singleton.mp ht]
              refine ⟨.inr ⟨rfl, by show i + 1 + j < i + 1 + (j + 1); omega⟩, by show i < i + 1 + j; omega, by show i + 1 + j < n; omega, ?_⟩
              have := b3 c hc
              exact ⟨by simp [PySem.PyData.strOk, chr]; omega, fun e => by have := congrArg Str.length e; rw [show (Str.ofString "").length = 0 by decide +kernel] at this; simp [chr, Str.length] at this⟩
          · rw [List.pairwise_append]
            refine ⟨hu, List.pairwise_singleton _ _, fun s hs t ht => ?_⟩
            rw [List.mem_singleton.mp ht]
            have := (hall s hs).1
            show ¬ (s.1 = i ∧ s.2.1 = i + 1 + j)
            omega
        · exact hrest2 _ ⟨h7, ts, _, _, rfl, hh7, by omega, fun t ht => ⟨by have := (hall t ht).1; omega, (hall t ht).2⟩, hu⟩
      · rintro ρ ⟨h6, ts, o8, o9, rfl, hh6, hts, hall, hu⟩
        rw [rngD_len] at hts hall
        refine hrest _ ⟨h6, ts, _, _, _, rfl, hh6, ?_, fun t ht => ?_, hu⟩
        · rw [Nat.add_mul]; omega
        · have := (hall t ht).1
          exact ⟨by omega, (hall t ht).2⟩
    · rintro ρ ⟨h6, ts, o7, o8, o9, rfl, hh6, hts, hall, hu⟩
      rw [rngD_len] at hts hall
      simp [fzs_ties, frzs_ties, szl]
      exact h _ _ _ hh6 ⟨by simpa using hl, hn, hts, fun t ht => (hall t ht).2, hu, fun c hc => hks c (by simpa using hc)⟩
/-- the places in some order -/
def sp_order : DSp := fun ds P _ => ∃ (h : D) (n : Nat), ds = [h, .int (n : Nat)] ∧ isHand h ∧ n ≤ 100 ∧ ∀ (ps : List Nat) h', isHand h' → ps.Nodup → ps.length = n → (∀ p ∈ ps, p < n) → P (.lst true (PL ps)) [h', .int (n : Nat)]
theorem PL_get {ps : List Nat} {k : Nat} : (PL ps)[k]? = ps[k]?.map fun q => D.int (q : Nat) := by unfold PL; rw [List.getElem?_map]
theorem PL_erase (ps : List Nat) (k : Nat) : (PL ps).eraseIdx k = PL (ps.eraseIdx k) := by
  unfold PL
  induction ps generalizing k with
  | nil => rfl
  | cons p ps ih => cases k <;> simp [List.eraseIdx, ih]
theorem perm_erase {α : Type} : ∀ (l : List α) (q : Nat) (h : q < l.length), (l[q] :: l.eraseIdx q).Perm l
  | x :: l, 0, _ => List.Perm.refl _
  | x :: l, q + 1, h => by
    have ih := perm_erase l q (by simpa using h)
    exact (List.Perm.swap _ _ _).trans (ih.cons x)
/-- a web as far as it is looked up alone -/
structure OkV (k : Str) (ts : List TT) : Prop where
  len : k.length ≤ 200
  few : ts.length ≤ 100000
  ok : ∀ t ∈ ts, t.1 ≠ t.2.1 ∧ ZOk t.2.2
  lt : ∀ t ∈ ts, t.1 < t.2.1
  asc : ∀ c ∈ k.cps.toList, c < 128
  uniq : ts.Pairwise fun s t => ¬ (s.1 = t.1 ∧ s.2.1 = t.2.1)
def sp_named : DSp := fun ds P _ => ∃ (k : Str) (ts : List TT) (ps : List Nat) (m : Bool), ds = [webD k ts, .lst m (PL ps)] ∧ k.length = ps.length ∧ (∀ c ∈ k.cps.toList, c < 128) ∧ ps.length ≤ 200 ∧ ps.Nodup ∧ (∀ p ∈ ps, p < ps.length) ∧ ts.length ≤ 100000 ∧ (∀ t ∈ ts, t.1 < t.2.1 ∧ t.1 < ps.length ∧ t.2.1 < ps.length ∧ ZOk t.2.2) ∧ (ts.Pairwise fun s t => ¬ (s.1 = t.1 ∧ s.2.1 = t.2.1)) ∧
  ∀ k' ts', OkV k' ts' → P (webD k' ts') [webD k ts, .lst m (PL ps)]
theorem glued_size : ∀ (ps : List Str) (acc : Array Nat), (ps.foldl (fun acc p => acc ++ (Str.ofString "").cps ++ p.cps) acc).size = acc.size + (ps.map (·.length)).sum
  | [], acc => by simp
  | p :: ps, acc => by
    rw [List.foldl_cons, glued_size ps]
    have e : (Str.ofString "").cps = #[] := by decide +kernel
    rw [e]
    simp [Str.length]
    omega
theorem join_len (ps : List Str) : (Txt.join "" ps).length = (ps.map (·.length)).sum := by
  cases ps with
  | nil => decide +kernel
  | cons p ps =>
    show (Builtin.Str.glued "" _).cps.size = _
    unfold Builtin.Str.glued
    simp only [List.drop_succ_cons, List.drop_zero, List.headD_cons]
    rw [glued_size]
    simp [Str.length]
theorem glued_mem : ∀ (ps : List Str) (acc : Array Nat) (c : Nat), c ∈ (ps.foldl (fun acc p => acc ++ (Str.ofString "").cps ++ p.cps) acc) → c ∈ acc ∨ ∃ p ∈ ps, c ∈ p.cps
  | [], acc, c, h => .inl h
  | p :: ps, acc, c, h => by
    rw [List.foldl_cons] at h
    rcases glued_mem ps _ c h with h | ⟨q, hq, h⟩
    · have e : (Str.ofString "").cps = #[] := by decide +kernel
      rw [e] at h
      simp at h
      rcases h with h | h
      · exact .inl h
      · exact .inr ⟨p, by simp, h⟩
    · exact .inr ⟨q, by simp [hq], h⟩
theorem join_asc (ps : List Str) (h : ∀ p ∈ ps, ∀ c ∈ p.cps.toList, c < 128) : ∀ c ∈ (Txt.join "" ps).cps.toList, c < 128 := by
  cases ps with
  | nil => decide +kernel
  | cons p ps =>
    intro c hc
    have hc' : c ∈ (Builtin.Str.glued "" (p :: ps)).cps := Array.mem_toList_iff.mp hc
    unfold Builtin.Str.glued at hc'
    simp only [List.drop_succ_cons, List.drop_zero, List.headD_cons] at hc'
    rcases glued_mem _ _ c hc' with h1 | ⟨q, hq, h1⟩
    · exact h p (by simp) c (by simpa using h1)
    · exact h q (by simp [hq]) c (by simpa using h1)
theorem frzs_strs' : ∀ ps : List Str, frzs (ps.map D.str) = ps.map D.str
  | [] => rfl
  | p :: ps => by simp [frzs_strs' ps]
theorem sum_le1 : ∀ ps : List Str, (∀ p ∈ ps, p.length ≤ 1) → (ps.map (·.length)).sum ≤ ps.length
  | [], _ => by simp
  | p :: ps, h => by
    have h1 := h p (by simp)
    have h2 := sum_le1 ps fun q hq => h q (by simp [hq])
    simp only [List.map_cons, List.sum_cons, List.length_cons]; omega
theorem at_PL {ps : List Nat} {q : Nat} (h : q < ps.length) : atI (PL ps) ((q : Nat) : Int) = some (.int ((ps[q] : Nat) : Int)) := by
  have h1 : (0 : Int) ≤ (q : Int) := by omega
  have h2 : (q : Int) < ((PL ps).length : Int) := by rw [PL_len]; omega
  unfold atI ixN
  rw [if_pos h1, if_pos h2]
  show (PL ps)[(q : Int).toNat]? = _
  rw [Int.toNat_natCast]
  unfold PL
  rw [List.getElem?_map, List.getElem?_eq_getElem h]; rfl
theorem ixN_nat {n q : Nat} (h : q < n) : ixN n ((q : Nat) : Int) = some q := by
  unfold ixN
  rw [if_pos (by omega), if_pos (by omega), Int.toNat_natCast]
theorem perm_map {α β : Type} {f : α → β} {l : List α} {ys : List β} (h : ys.Perm (l.map f)) : ∃ l' : List α, l'.Perm l ∧ ys = l'.map f := by
  generalize e : l.map f = as at h
  induction h generalizing l with
  | nil => exact ⟨[], by rw [List.map_eq_nil_iff.mp e], rfl⟩
  | cons a _ ih =>
    obtain ⟨p, ps', rfl, rfl, e2⟩ := List.map_eq_cons_iff.mp e
    obtain ⟨qs, h1, h2⟩ := ih e2
    exact ⟨p :: qs, h1.cons p, by rw [h2]; rfl⟩
  | swap a b _ =>
    obtain ⟨p, ps', rfl, rfl, e2⟩ := List.map_eq_cons_iff.mp e
    obtain ⟨p2, ps2, rfl, rfl, rfl⟩ := List.map_eq_cons_iff.mp e2
    exact ⟨p2 :: p :: ps2, List.Perm.swap _ _ _, rfl⟩
  | trans _ _ ih1 ih2 =>
    obtain ⟨qs, h1, h2⟩ := ih2 e
    obtain ⟨rs, h3, h4⟩ := ih1 h2.symm
    exact ⟨rs, h3.trans h1, h4⟩
theorem tuOk_tie (t : TT) : tuOk (fun i => i == 2) (tieD t) := ⟨by simp, rfl⟩
/-- a tie called by the order -/
def nm (ps : List Nat) (t : TT) : TT := (min (ps.getD t.1 0) (ps.getD t.2.1 0), max (ps.getD t.1 0) (ps.getD t.2.1 0), t.2.2)
theorem getD_lt {ps : List Nat} {i : Nat} (h : i < ps.length) : ps.getD i 0 = ps[i] := by rw [List.getD_eq_getElem?_getD, List.getElem?_eq_getElem h]; rfl
theorem getD_inj {ps : List Nat} (nd : ps.Nodup) {i j : Nat} (hi : i < ps.length) (hj : j < ps.length) (e : ps.getD i 0 = ps.getD j 0) : i = j := by
  rw [getD_lt hi, getD_lt hj] at e
  exact (List.getElem_inj nd).mp e
theorem nm_lt {ps : List Nat} (nd : ps.Nodup) {t : TT} (h : t.1 < t.2.1) (h1 : t.1 < ps.length) (h2 : t.2.1 < ps.length) : (nm ps t).1 < (nm ps t).2.1 := by
  have : ps.getD t.1 0 ≠ ps.getD t.2.1 0 := fun e => by have := getD_inj nd h1 h2 e; omega
  simp only [nm]; omega
theorem nm_inj {ps : List Nat} (nd : ps.Nodup) {s t : TT} (hs : s.1 < s.2.1) (hs1 : s.1 < ps.length) (hs2 : s.2.1 < ps.length) (ht : t.1 < t.2.1) (ht1 : t.1 < ps.length) (ht2 : t.2.1 < ps.length)
    (e : (nm ps s).1 = (nm ps t).1 ∧ (nm ps s).2.1 = (nm ps t).2.1) : s.1 = t.1 ∧ s.2.1 = t.2.1 := by
  simp only [nm] at e
  have h : (ps.getD s.1 0 = ps.getD t.1 0 ∧ ps.getD s.2.1 0 = ps.getD t.2.1 0) ∨ (ps.getD s.1 0 = ps.getD t.2.1 0 ∧ ps.getD s.2.1 0 = ps.getD t.1 0) := by omega
  rcases h with ⟨a, b⟩ | ⟨a, b⟩
  · exact ⟨getD_inj nd hs1 ht1 a, getD_inj nd hs2 ht2 b⟩
  · have := getD_inj nd hs1 ht2 a
    have := getD_inj nd hs2 ht1 b
    omega
/-- a dict of ties: places either way, unlike; letters -/
structure GoodKV (N : Nat) (kvs : List (KD × D)) : Prop where
  nd : (kvs.map (·.1)).Nodup
  ok : ∀ p ∈ kvs, ∃ (a b : Nat) (z : Str), p = (K2 a b, .str z) ∧ a < b ∧ a < N ∧ b < N ∧ ZOk z
theorem GoodKV.put {N : Nat} {kvs : List (KD × D)} (h : GoodKV N kvs) {a b : Nat} {z : Str} (hab : a < b) (ha : a < N) (hb : b < N) (hz : ZOk z) : GoodKV N (kput kvs (K2 a b) (.str z)) :=
  ⟨kput_nodup h.nd, fun p hp => by
    have : ∀ {kvs : List (KD × D)}, p ∈ kput kvs (K2 a b) (.str z) → p = (K2 a b, .str z) ∨ p ∈ kvs := by
      intro kvs
      induction kvs with
      | nil => intro h; simp [kput] at h; exact .inl h
      | cons q kvs ih =>
        obtain ⟨k0, x⟩ := q
        intro h
        by_cases e : k0 = K2 a b
        · simp only [kput, e, if_true, List.mem_cons] at h
          rcases h with h | h
          · exact .inl h
          · exact .inr (by simp [h])
        · simp only [kput, if_neg e, List.mem_cons] at h
          rcases h with h | h
          · exact .inr (by simp [h])
          · rcases ih h with h | h
            · exact .inl h
            · exact .inr (by simp [h])
    rcases this hp with h1 | h1
    · exact ⟨a, b, z, h1, hab, ha, hb, hz⟩
    · exact h.ok p h1⟩
theorem GoodKV.look {N : Nat} {kvs : List (KD × D)} (h : GoodKV N kvs) {k : KD} (hk : k ∈ kvs.map (·.1)) : ∃ (a b : Nat) (z : Str), k = K2 a b ∧ look kvs k = some (.str z) ∧ a < b ∧ a < N ∧ b < N ∧ ZOk z := by
  obtain ⟨nd, ok⟩ := h
  induction kvs with
  | nil => simp at hk
  | cons q kvs ih =>
    obtain ⟨k0, x⟩ := q
    by_cases e : k0 = k
    · obtain ⟨a, b, z, e1, h1⟩ := ok (k0, x) (by simp)
      cases e1
      exact ⟨a, b, z, e.symm, by simp [L3.look, e], h1⟩
    · have hk' : k ∈ kvs.map (·.1) := by
        rcases List.mem_cons.mp hk with h | h
        · exact absurd h.symm e
        · exact h
      obtain ⟨a, b, z, h1, h2, h3⟩ := ih hk' (List.nodup_cons.mp nd).2 (fun p hp => ok p (by simp [hp]))
      exact ⟨a, b, z, h1, by simp [L3.look, e, h2], h3⟩
theorem GoodKV.drop {N : Nat} {kvs : List (KD × D)} (h : GoodKV N kvs) (k : KD) : GoodKV N (kdrop kvs k) :=
  ⟨h.nd.sublist kdrop_sub, fun p hp => h.ok p (by
    have : ∀ {kvs : List (KD × D)}, p ∈ kdrop kvs k → p ∈ kvs := by
      intro kvs
      induction kvs with
      | nil => intro h; simp [kdrop] at h
      | cons q kvs ih =>
        obtain ⟨k0, x⟩ := q
        intro h
        by_cases e : k0 = k
        · simp only [kdrop, e, if_true] at h; simp [h]
        · simp only [kdrop, if_neg e, List.mem_cons] at h
          rcases h with h | h
          · simp [h]
          · simp [ih h]
    exact this hp)⟩
theorem sIx_some_nat {N d n : Nat} (h : n ≤ N) : HT.sIx N d (some (n : Int)) = n := by
  simp [HT.sIx, show ¬ ((n : Int) < 0) by omega]; omega
theorem PL_len' (ps : List Nat) : (PL ps).length = ps.length := by unfold PL; rw [List.length_map]
theorem fzs_PL' (ps : List Nat) : fzs (PL ps) = true := by
  unfold PL
  induction ps with
  | nil => rfl
  | cons p ps ih => simp [fzs, ih]
/-- the keys as they are walked -/
def kD (p : Nat × Nat) : D := .tup [.int (p.1 : Nat), .int (p.2 : Nat)]
def kk2 (p : Nat × Nat) : KD := K2 p.1 p.2
theorem kk2_inj {p q : Nat × Nat} (h : kk2 p = kk2 q) : p = q := by
  have := K2_inj.mp h
  exact Prod.ext this.1 this.2
theorem GoodKV.keys {N : Nat} {kvs : List (KD × D)} (h : GoodKV N kvs) : ∃ ps : List (Nat × Nat), kvs.map (·.1) = ps.map kk2 ∧ (kvs.map fun p => kdD p.1) = ps.map kD ∧ ps.Nodup := by
  obtain ⟨nd, ok⟩ := h
  induction kvs with
  | nil => exact ⟨[], rfl, rfl, .nil⟩
  | cons q kvs ih =>
    obtain ⟨ps, h1, h2, h3⟩ := ih (List.nodup_cons.mp nd).2 fun p hp => ok p (by simp [hp])
    obtain ⟨a, b, z, e, _⟩ := ok q (by simp)
    subst e
    refine ⟨(a, b) :: ps, by rw [List.map_cons, h1]; rfl, by rw [List.map_cons, h2]; rfl, List.nodup_cons.mpr ⟨fun hm => ?_, h3⟩⟩
    refine (List.nodup_cons.mp nd).1 ?_
    rw [h1]
    exact List.mem_map.mpr ⟨_, hm, rfl⟩
/-- sorted(ties): the keys, once each, rearranged -/
theorem sort_keys {N : Nat} {kvs : List (KD × D)} {P : D → Prop} (h : GoodKV N kvs) (k : ∀ ps : List (Nat × Nat), ps.Nodup → (∀ p ∈ ps, kk2 p ∈ kvs.map (·.1)) → ps.length = kvs.length → P (.lst true (ps.map kD))) : oSortA [.dic .ow .t kvs] P := by
  obtain ⟨ps, h1, h2, h3⟩ := h.keys
  refine .inr (.inr ⟨fun _ => false, rfl, fun p hp => ?_, fun ys hy _ => ?_⟩)
  · have : kdD p.1 ∈ kvs.map fun p => kdD p.1 := List.mem_map.mpr ⟨p, hp, rfl⟩
    rw [h2] at this
    obtain ⟨q, _, e⟩ := List.mem_map.mp this
    rw [← e]
    exact ⟨by simp, rfl⟩
  · rw [h2] at hy
    obtain ⟨qs, hq, rfl⟩ := perm_map hy
    refine k qs (hq.nodup_iff.mpr h3) (fun p hp => ?_) ?_
    · rw [h1]; exact List.mem_map.mpr ⟨p, hq.mem_iff.mp hp, rfl⟩
    · rw [hq.length_eq]
      have := congrArg List.length h1
      simpa using this.symm
@[simp] theorem frzs_kD : ∀ ps : List (Nat × Nat), frzs (ps.map kD) = ps.map kD
  | [] => rfl
  | p :: ps => by simp [frzs_kD ps, kD]
theorem kput_keys_in {kvs : List (KD × D)} {k k' : KD} {v : D} (h : k' ∈ kvs.map (·.1)) : k' ∈ (kput kvs k v).map (·.1) := by
  rw [kput_keys]; split
  · exact h
  · exact List.mem_append_left _ h
theorem kput_len_in {kvs : List (KD × D)} {k : KD} {v : D} (h : k ∈ kvs.map (·.1)) : (kput kvs k v).length = kvs.length := by
  have := congrArg List.length (kput_keys k v kvs)
  rw [if_pos h] at this
  simpa using this
theorem kdrop_keys_in {kvs : List (KD × D)} {k k' : KD} (hne : k' ≠ k) (h : k' ∈ kvs.map (·.1)) : k' ∈ (kdrop kvs k).map (·.1) := by
  induction kvs with
  | nil => simp at h
  | cons q kvs ih =>
    obtain ⟨k0, x⟩ := q
    by_cases e : k0 = k
    · simp only [kdrop, e, if_true]
      rcases List.mem_cons.mp h with h | h
      · exact absurd (h.trans e) hne
      · exact h
    · simp only [kdrop, if_neg e, List.map_cons, List.mem_cons]
      rcases List.mem_cons.mp h with h | h
      · exact .inl h
      · exact .inr (ih h)
theorem kdrop_len {kvs : List (KD × D)} {k : KD} : (kdrop kvs k).length ≤ kvs.length := by
  have := (kdrop_sub (k := k) (l := kvs)).length_le
  simpa using this
theorem ix_web1 {k : Str} {ts : List TT} {P : D → Prop} : oIx (webD k ts) (.int 1) P = P (.tup (ts.map tieD)) := by simp [webD]
theorem uniq_of {tt : List TT} {qs : List (Nat × Nat)} (e : tt.map (fun t => (t.1, t.2.1)) = qs) (nd : qs.Nodup) : tt.Pairwise fun s t => ¬ (s.1 = t.1 ∧ s.2.1 = t.2.1) := by
  subst e
  have h : tt.Pairwise fun s t => (fun t : TT => (t.1, t.2.1)) s ≠ (fun t : TT => (t.1, t.2.1)) t := List.pairwise_map.mp nd
  exact h.imp fun h e => h (Prod.ext e.1 e.2)
def sp_other : DSp := fun ds P _ => ∃ (h : D) (n : Nat) (k : Str) (ts : List TT), ds = [h, webD k ts] ∧ isHand h ∧ OkW n k ts ∧ n ≤ 40 ∧ ∀ k' ts' (ps : List Nat) h', isHand h' → OkV k' ts' → ps.length = n → P (.lst true [webD k' ts', .lst false (PL ps)]) [h', webD k ts]
/-- a lead: pairs of places -/
def LD (ps : List (Nat × Nat)) : List D := ps.map kD
def sp_other' : DSp := sp_other
def sp_webs : DSp := fun ds P _ => ∃ (h : D) (b : Bool), ds = [h, .bl b] ∧ isHand h ∧ ∀ (k : Str) (ts : List TT) (k' : Str) (ts' : List TT) (ps : List Nat) (m : Bool) h', isHand h' → OkV k ts → OkV k' ts' → (ps = [] ∨ ps.length = k.length) → k.length ≤ 40 → P (.lst true [webD k ts, webD k' ts', .lst m (PL ps)]) [h', .bl b]
theorem OkW.okV {n : Nat} {k : Str} {ts : List TT} (h : OkW n k ts) (hn : n ≤ 100) : OkV k ts :=
  ⟨by rw [h.len]; omega, Nat.le_trans h.lim (by decide), fun t ht => ⟨by have := (h.ok t ht).1; omega, (h.ok t ht).2.2⟩, fun t ht => (h.ok t ht).1, h.asc, h.uniq⟩
/-- whether the lead lies: no two of its pairs are alike in one web and unlike in the other -/
def likeP (ts ts' : List TT) (x y : Nat × Nat) : Bool := decide (tieL ts x.1 y.1 = tieL ts' x.2 y.2)
def liesB (ts ts' : List TT) (l : List (Nat × Nat)) : Bool := l.all fun x => l.all fun y => likeP ts ts' x y
theorem tieL_ok {k : Str} {ts : List TT} (h : OkV k ts) {p q : Nat} {z : Str} (e : tieL ts p q = some z) : ZOk z := by
  unfold tieL at e
  obtain ⟨t, ht, rfl⟩ := Option.map_eq_some_iff.mp e
  exact (h.ok t (List.mem_reverse.mp (List.mem_of_find?_eq_some ht))).2
theorem tieL_pyOk {k : Str} {ts : List TT} (h : OkV k ts) {p q : Nat} : pyOk 64 (.str ((tieL ts p q).getD (Str.ofString ""))) = true := by
  cases e : tieL ts p q with
  | none => decide +kernel
  | some z => exact (tieL_ok h e).1
theorem fzs_LD (l : List (Nat × Nat)) : fzs (LD l) = true := by
  unfold LD
  induction l with
  | nil => rfl
  | cons p ps ih => simp [fzs, kD]; exact ih
@[simp] theorem map_op (o : Option Str) : (o.map D.str).getD .non = opD o := by cases o <;> rfl
theorem deq_op (a b : Option Str) : deq (opD a) (opD b) = decide (a = b) := by
  cases a with
  | none => cases b with
    | none => rfl
    | some y => rfl
  | some x => cases b with
    | none => rfl
    | some y => simp [opD]; rw [Bool.eq_iff_iff]; simp
theorem opOk_tieL {k : Str} {ts : List TT} (h : OkV k ts) {p q : Nat} : pyOk 64 (opD (tieL ts p q)) = true := by
  cases e : tieL ts p q with
  | none => rfl
  | some z => exact (tieL_ok h e).1
theorem mt_swap (p q : Nat) : mt q p = mt p q := by funext t; unfold mt; rw [Bool.eq_iff_iff]; simp; omega
theorem tieL_swap (ts : List TT) (p q : Nat) : tieL ts q p = tieL ts p q := by unfold tieL; rw [mt_swap]
theorem tieL_self {k : Str} {ts : List TT} (h : OkV k ts) (p : Nat) : tieL ts p p = none := by
  unfold tieL
  rw [List.find?_eq_none.mpr]
  · rfl
  · intro t ht
    have := (h.ok t (List.mem_reverse.mp ht)).1
    unfold mt; simp; omega
theorem liesB_of {k k' : Str} {ts ts' : List TT} {l : List (Nat × Nat)} (hw : OkV k ts) (hw' : OkV k' ts') (H : ∀ (a b : Nat) (x y : Nat × Nat), b < a → l[a]? = some x → l[b]? = some y → likeP ts ts' y x = true) : liesB ts ts' l = true := by
  unfold liesB
  rw [List.all_eq_true]
  intro x hx
  rw [List.all_eq_true]
  intro y hy
  obtain ⟨a, ha, ea⟩ := List.mem_iff_getElem.mp hx
  obtain ⟨b, hb, eb⟩ := List.mem_iff_getElem.mp hy
  have ga : l[a]? = some x := by rw [List.getElem?_eq_getElem ha, ea]
  have gb : l[b]? = some y := by rw [List.getElem?_eq_getElem hb, eb]
  rcases Nat.lt_trichotomy a b with h | h | h
  · exact H b a _ _ h gb ga
  · subst h
    have : x = y := ea.symm.trans eb
    subst this
    unfold likeP
    rw [tieL_self hw, tieL_self hw']; rfl
  · have := H a b _ _ h ga gb
    unfold likeP at this ⊢
    rwa [tieL_swap ts x.1 y.1, tieL_swap ts' x.2 y.2] at this
def sp_places : DSp := fun ds P _ => ∃ (k : Str) (ts : List TT), ds = [webD k ts] ∧ ts.length ≤ 100000 ∧ P (.dic .ow .t (kbp ts)) [webD k ts]
theorem wp_kplaces : ∀ ds P EP, sp_places ds P EP → rd_kinds_by_places.1 (enD [true] P) (startE 5 ds) := by
  rintro _ P EP ⟨k, ts, rfl, hl, h⟩
  simp [rd_kinds_by_places, webD]
  refine forD_inv (fun i ρ => ∃ o2 o3 o4, ρ = [some (webD k ts), some (.dic .ow .t (kbp (ts.take i))), o2, o3, o4]) ⟨_, _, _, rfl⟩ ?_ ?_
  · rintro i d ρ hi ⟨o2, o3, o4, rfl⟩ rest hrest
    rw [List.getElem?_map] at hi
    obtain ⟨t, ht, rfl⟩ := Option.map_eq_some_iff.mp hi
    have hi' : i < ts.length := (List.getElem?_eq_some_iff.mp ht).1
    have hk := kbp_len i (ts.take i) (by simp; omega)
    have hk2 := kput_len (kv := kbp (ts.take i)) (k := K2 t.1 t.2.1) (v := D.str t.2.2)
    simp only [tieD]
    simp [stDic, szl]
    refine ⟨by omega, by exact (by unfold K2 at hk2; omega), ?_⟩
    have e : kbp (ts.take (i + 1)) = kput (kput (kbp (ts.take i)) (K2 t.1 t.2.1) (.str t.2.2)) (K2 t.2.1 t.1) (.str t.2.2) := by
      rw [List.take_succ, ht]
      simp only [Option.toList_some, kbp_snoc]
      rfl
    rw [e] at hrest
    exact hrest _ ⟨_, _, _, rfl⟩
  · rintro ρ ⟨o2, o3, o4, rfl⟩
    rw [List.length_map, List.take_length]
    simpa [webD] using h
/-- first places rise -/
def Ris (l : List (Nat × Nat)) : Prop := l.Pairwise fun p q => p.1 < q.1
theorem Ris.snoc {l : List (Nat × Nat)} {p : Nat × Nat} (h : Ris l) (k : ∀ q ∈ l, q.1 < p.1) : Ris (l ++ [p]) :=
  List.pairwise_append.mpr ⟨h, List.pairwise_singleton _ _, fun q hq r hr => by rw [List.mem_singleton.mp hr]; exact k q hq⟩
theorem LD_snoc (l : List (Nat × Nat)) (p : Nat × Nat) : LD l ++ [.tup [.int (p.1 : Nat), .int (p.2 : Nat)]] = LD (l ++ [p]) := by simp [LD, kD]
theorem atI_last {α : Type} (xs : List α) (x : α) : atI (xs ++ [x]) (-1) = some x := by
  have h : ¬ (0 : Int) ≤ -1 := by decide
  have h3 : (0 : Int) ≤ -1 + ((xs ++ [x]).length : Int) := by simp only [List.length_append, List.length_singleton]; omega
  unfold atI ixN
  rw [if_neg h, if_pos (by simp only [List.length_append, List.length_singleton]; omega)]
  have e : (-1 + ((xs ++ [x]).length : Int)).toNat = xs.length := by simp only [List.length_append, List.length_singleton]; omega
  rw [e]
  simp
@[simp] theorem LD_len (l : List (Nat × Nat)) : (LD l).length = l.length := by unfold LD; rw [List.length_map]
theorem asInts_PL (ps : List Nat) : asInts (PL ps) = some (ps.map fun q => ((q : Nat) : Int)) := by
  induction ps with
  | nil => rfl
  | cons p ps ih => show (asInts (.int (p : Nat) :: PL ps)) = _; simp [asInts, ih]
theorem erase_map {α β : Type} (f : α → β) : ∀ (l : List α) (j : Nat), (l.map f).eraseIdx j = (l.eraseIdx j).map f
  | [], _ => rfl
  | x :: l, 0 => rfl
  | x :: l, j + 1 => by simp [List.eraseIdx, erase_map f l j]
theorem first_at {α : Type} [DecidableEq α] : ∀ {l : List α} {x : α}, x ∈ l → ∃ j : Nat, l[j]? = some x ∧ ∀ m : Nat, m < j → l[m]? ≠ some x
  | y :: l, x, h => by
    by_cases e : y = x
    · exact ⟨0, by simp [e], fun m hm => by omega⟩
    · have h2 : x ∈ l := by
        rcases List.mem_cons.mp h with h | h
        · exact absurd h.symm e
        · exact h
      obtain ⟨j, h3, h4⟩ := first_at h2
      refine ⟨j + 1, by simpa using h3, fun m hm => ?_⟩
      cases m with
      | zero => simp [e]
      | succ m => simpa using h4 m (by omega)
theorem strOk_1 {c : Nat} (h : c < 128) : pyOk 64 (.str ⟨#[c]⟩) = true := by
  show PySem.PyData.strOk _ = true
  simp [PySem.PyData.strOk]; omega
def sp_lead : DSp := fun ds P _ => ∃ (h : D) (k : Str) (ts : List TT) (k' : Str) (ts' : List TT) (ps : List Nat) (m : Bool), ds = [h, webD k ts, webD k' ts', .lst m (PL ps)] ∧ isHand h ∧ OkV k ts ∧ OkV k' ts' ∧ k.length ≤ 100 ∧ (ps = [] ∨ ps.length = k.length) ∧ ∀ (l : List (Nat × Nat)) h', isHand h' → l.length ≤ 100 → Ris l → P (.lst true (LD l)) [h', webD k ts, webD k' ts', .lst m (PL ps)]
theorem pyOks_PL {n : Nat} (ps : List Nat) : pyOks n (PL ps) = true := pyOks_all fun x hx => by
  unfold PL at hx
  obtain ⟨i, _, rfl⟩ := List.mem_map.mp hx; simp
theorem eqvA_PL_nil (ps : List Nat) : PySem.PyData.eqvAll (toPys (PL ps)) [] = decide (ps = []) := by
  cases ps with
  | nil => rfl
  | cons p ps => show PySem.PyData.eqvAll (toPys (.int (p : Nat) :: PL ps)) [] = _; simp
@[simp] theorem frzs_LD (l : List (Nat × Nat)) : frzs (LD l) = LD l := frzs_kD l
theorem pyOks_LD {n : Nat} (l : List (Nat × Nat)) : pyOks (n + 1) (LD l) = true := pyOks_all fun x hx => by
  unfold LD at hx
  obtain ⟨i, _, rfl⟩ := List.mem_map.mp hx; simp [kD]
theorem webs_i {h : D} {b : Bool} {P : D → List D → Prop} {EP : Value → List D → Prop} (hh : isHand h) (H : ∀ (k : Str) (ts : List TT) (k' : Str) (ts' : List TT) (ps : List Nat) (m : Bool) h', isHand h' → OkV k ts → OkV k' ts' → (ps = [] ∨ ps.length = k.length) → k.length ≤ 40 → P (.lst true [webD k ts, webD k' ts', .lst m (PL ps)]) [h', .bl b]) : sp_webs [h, .bl b] P EP := ⟨h, b, rfl, hh, H⟩
theorem lead_i {h : D} {k : Str} {ts : List TT} {k' : Str} {ts' : List TT} {ps : List Nat} {m : Bool} {P : D → List D → Prop} {EP : Value → List D → Prop} (hh : isHand h) (hw : OkV k ts) (hw' : OkV k' ts') (hk : k.length ≤ 100) (hp : ps = [] ∨ ps.length = k.length)
    (H : ∀ (l : List (Nat × Nat)) h', isHand h' → l.length ≤ 100 → Ris l → P (.lst true (LD l)) [h', webD k ts, webD k' ts', .lst m (PL ps)]) : sp_lead [h, webD k ts, webD k' ts', .lst m (PL ps)] P EP := ⟨h, k, ts, k', ts', ps, m, rfl, hh, hw, hw', hk, hp, H⟩
@[simp] theorem oU_i {f : Int → Int} {i : Int} {P : D → Prop} : oU f (.int i) P = P (.int (f i)) := rfl
theorem LD_drop (l : List (Nat × Nat)) (n : Nat) : (LD l).drop n = LD (l.drop n) := by unfold LD; rw [List.map_drop]
theorem LD_take (l : List (Nat × Nat)) (n : Nat) : (LD l).take n = LD (l.take n) := by unfold LD; rw [List.map_take]
theorem eqvA_LD_refl (l : List (Nat × Nat)) : PySem.PyData.eqvAll (toPys (LD l)) (toPys (LD l)) = true := by
  have h := deq_refl (d := .lst false (LD l)) (by show pyOks 63 (LD l) = true; exact pyOks_LD l)
  exact h
theorem kit_bb : kitB "bool" "bool" = some true := by decide +kernel
@[simp] theorem isi_bb {b : Bool} {P : D → Prop} : oIsi "bool" (.bl b) P = P (.bl true) := by
  unfold oIsi tyN
  rw [mb_so, kit_bb]; rfl
@[simp] theorem deq_bb {a b : Bool} : deq (.bl a) (.bl b) = decide (a = b) := by cases a <;> cases b <;> decide +kernel
/-- places, rising -/
def sortN (ps : List Nat) : List Nat := (sortI (ps.map fun q => ((q : Nat) : Int))).map Int.toNat
theorem sortN_int (ps : List Nat) : (sortI (ps.map fun q => ((q : Nat) : Int))) = (sortN ps).map fun q => ((q : Nat) : Int) := by
  unfold sortN
  rw [List.map_map]
  conv => lhs; rw [← List.map_id (sortI _)]
  refine List.map_congr_left fun z hz => ?_
  obtain ⟨q, _, rfl⟩ := List.mem_map.mp ((sortI_perm _).mem_iff.mp hz)
  simp
theorem sortN_PL (ps : List Nat) : (sortI (ps.map fun q => ((q : Nat) : Int))).map D.int = PL (sortN ps) := by
  rw [sortN_int, List.map_map]; rfl
theorem sortN_perm (ps : List Nat) : (sortN ps).Perm ps := by
  have h := (sortI_perm (ps.map fun q => ((q : Nat) : Int))).map Int.toNat
  rw [List.map_map] at h
  have e : ps.map (Int.toNat ∘ fun q => ((q : Nat) : Int)) = ps := by
    conv => rhs; rw [← List.map_id ps]
    exact List.map_congr_left fun q _ => by simp
  rw [e] at h
  exact h
theorem sortN_lt {ps : List Nat} (h : ps.Nodup) : (sortN ps).Pairwise (· < ·) := by
  have h1 := sortI_up (ps.map fun q => ((q : Nat) : Int))
  rw [sortN_int, List.pairwise_map] at h1
  have h2 : (sortN ps).Nodup := (sortN_perm ps).nodup_iff.mpr h
  have h3 : (sortN ps).Pairwise fun a b => ((a : Nat) : Int) ≤ b ∧ a ≠ b := h1.and h2
  exact h3.imp fun {a b} h => by omega
/-- rows of places -/
def NR (b : Bool) (rs : List (List Nat)) : List D := rs.map fun r => .lst b (PL r)
@[simp] theorem NR_len (b : Bool) (rs : List (List Nat)) : (NR b rs).length = rs.length := by unfold NR; rw [List.length_map]
@[simp] theorem fzs_NR : ∀ rs : List (List Nat), fzs (NR false rs) = true
  | [] => rfl
  | r :: rs => by show fzs (.lst false (PL r) :: NR false rs) = true; simp [fzs_NR rs]
@[simp] theorem frzs_NR (b : Bool) : ∀ rs : List (List Nat), frzs (NR b rs) = NR false rs
  | [] => rfl
  | r :: rs => by show frzs (.lst b (PL r) :: NR b rs) = _; simp [frzs_NR b rs]; rfl
theorem NR_snoc (b : Bool) (rs : List (List Nat)) (r : List Nat) : NR b rs ++ [.lst b (PL r)] = NR b (rs ++ [r]) := by simp [NR]
theorem NR_get (b : Bool) (rs : List (List Nat)) (i : Nat) : (NR b rs)[i]? = rs[i]?.map fun r => .lst b (PL r) := by unfold NR; rw [List.getElem?_map]
theorem atI_nat' {α : Type} {xs : List α} {q : Nat} (h : q < xs.length) : atI xs ((q : Nat) : Int) = some xs[q] := by
  unfold atI ixN
  rw [if_pos (by omega), if_pos (by omega)]
  show xs[(q : Int).toNat]? = _
  rw [Int.toNat_natCast, List.getElem?_eq_getElem h]
theorem at_NR {b : Bool} {rs : List (List Nat)} {q : Nat} (h : q < rs.length) : atI (NR b rs) ((q : Nat) : Int) = some (.lst b (PL rs[q])) := by
  rw [atI_nat' (by rw [NR_len]; exact h)]
  unfold NR
  rw [List.getElem_map]
/-- places met -/
def DM (ms : List Nat) : List (KD × D) := ms.map fun q => (.int ((q : Nat) : Int), .bl true)
theorem look_DM (ms : List Nat) (q : Nat) : (look (DM ms) (.int ((q : Nat) : Int))).isSome = decide (q ∈ ms) := by
  induction ms with
  | nil => rfl
  | cons m ms ih =>
    show (look ((KD.int ((m : Nat) : Int), D.bl true) :: DM ms) _).isSome = _
    by_cases e : m = q
    · subst e; simp [look]
    · have e2 : ¬ (KD.int ((m : Nat) : Int) = KD.int ((q : Nat) : Int)) := by simp; omega
      have e3 : ¬ q = m := fun z => e z.symm
      simp only [look, if_neg e2, ih, List.mem_cons]
      simp [e3]
theorem kput_DM (ms : List Nat) (q : Nat) (h : q ∉ ms) : kput (DM ms) (.int ((q : Nat) : Int)) (.bl true) = DM (ms ++ [q]) := by
  induction ms with
  | nil => rfl
  | cons m ms ih =>
    have e : ¬ m = q := fun z => h (by simp [z])
    have e2 : ¬ (KD.int ((m : Nat) : Int) = KD.int ((q : Nat) : Int)) := by simp; omega
    show kput ((KD.int ((m : Nat) : Int), D.bl true) :: DM ms) _ _ = _
    simp only [kput, if_neg e2, ih (fun z => h (by simp [z]))]
    rfl
theorem kput_DM' (ms : List Nat) (q : Nat) (h : q ∈ ms) : kput (DM ms) (.int ((q : Nat) : Int)) (.bl true) = DM ms := by
  induction ms with
  | nil => simp at h
  | cons m ms ih =>
    show kput ((KD.int ((m : Nat) : Int), D.bl true) :: DM ms) _ _ = _
    by_cases e : m = q
    · subst e; simp [kput]; rfl
    · have e2 : ¬ (KD.int ((m : Nat) : Int) = KD.int ((q : Nat) : Int)) := by simp; omega
      simp only [kput, if_neg e2, ih (by rcases List.mem_cons.mp h with h | h; exact absurd h.symm e; exact h)]
      rfl
@[simp] theorem DM_len (ms : List Nat) : (DM ms).length = ms.length := by unfold DM; rw [List.length_map]
theorem kInts_DM (ms : List Nat) : kInts (DM ms) = some (ms.map fun q => ((q : Nat) : Int)) := by
  induction ms with
  | nil => rfl
  | cons m ms ih => show kInts ((KD.int ((m : Nat) : Int), D.bl true) :: DM ms) = _; simp [kInts, ih]
theorem fzk_DM (ms : List Nat) : fzk (DM ms) = true := by
  induction ms with
  | nil => rfl
  | cons m ms ih => show fzk ((KD.int ((m : Nat) : Int), D.bl true) :: DM ms) = true; simp [fzk, ih]
/-- what one comes to -/
inductive Con (E : Nat → Nat → Prop) (p : Nat) : Nat → Prop
  | rfl : Con E p p
  | step {q r : Nat} : Con E p q → E q r → Con E p r
theorem Con.trans {E : Nat → Nat → Prop} {p q r : Nat} (a : Con E p q) (b : Con E q r) : Con E p r := by
  induction b with
  | rfl => exact a
  | step _ e ih => exact ih.step e
theorem Con.one {E : Nat → Nat → Prop} {p q : Nat} (e : E p q) : Con E p q := .step .rfl e
theorem Con.symm {E : Nat → Nat → Prop} (hs : ∀ a b, E a b → E b a) {p q : Nat} (a : Con E p q) : Con E q p := by
  induction a with
  | rfl => exact .rfl
  | step _ e ih => exact (Con.one (hs _ _ e)).trans ih
theorem Con.mono {E E' : Nat → Nat → Prop} (h : ∀ a b, E a b → E' a b) {p q : Nat} (a : Con E p q) : Con E' p q := by
  induction a with
  | rfl => exact .rfl
  | step _ e ih => exact ih.step (h _ _ e)
theorem Con.closed {E : Nat → Nat → Prop} {S : Nat → Prop} (h : ∀ a b, S a → E a b → S b) {p q : Nat} (hp : S p) (a : Con E p q) : S q := by
  induction a with
  | rfl => exact hp
  | step _ e ih => exact h _ _ ih e
def rowE (rs : List (List Nat)) (q r : Nat) : Prop := ∃ row, rs[q]? = some row ∧ r ∈ row
/-- places that one comes to, rising -/
structure ComeOk (E : Nat → Nat → Prop) (p : Nat) (ps : List Nat) : Prop where
  up : ps.Pairwise (· < ·)
  mem : ∀ q, q ∈ ps ↔ Con E p q
def sp_come : DSp := fun ds P _ => ∃ (m b : Bool) (rs : List (List Nat)) (p : Nat), ds = [.lst m (NR b rs), .int (p : Nat)] ∧ rs.length ≤ 63 ∧ p < rs.length ∧ (∀ r ∈ rs, r.length ≤ 100000 ∧ ∀ q ∈ r, q < rs.length) ∧ ∀ ps m' b', ComeOk (rowE rs) p ps → ps.length ≤ rs.length → P (.lst true (PL ps)) [.lst m' (NR b' rs), .int (p : Nat)]
theorem come_i {m b : Bool} {rs : List (List Nat)} {p : Nat} {P : D → List D → Prop} {EP : Value → List D → Prop} (h1 : rs.length ≤ 63) (h2 : p < rs.length) (h3 : ∀ r ∈ rs, r.length ≤ 100000 ∧ ∀ q ∈ r, q < rs.length) (h : ∀ ps m' b', ComeOk (rowE rs) p ps → ps.length ≤ rs.length → P (.lst true (PL ps)) [.lst m' (NR b' rs), .int (p : Nat)]) : sp_come [.lst m (NR b rs), .int (p : Nat)] P EP := ⟨m, b, rs, p, rfl, h1, h2, h3, h⟩
theorem nd_len {ms : List Nat} {n : Nat} (h : ms.Nodup) (hb : ∀ q ∈ ms, q < n) : ms.length ≤ n := by
  induction n generalizing ms with
  | zero => cases ms with
    | nil => simp
    | cons m ms => exact absurd (hb m (by simp)) (by omega)
  | succ n ih =>
    by_cases c : n ∈ ms
    · have h2 : (ms.erase n).Nodup := h.erase n
      have := ih h2 fun q hq => by
        have h3 := (List.Nodup.mem_erase_iff h).mp hq
        have := hb q h3.2
        have := h3.1
        omega
      rw [List.length_erase_of_mem c] at this
      omega
    · have := ih h fun q hq => by
        have := hb q hq
        have : q ≠ n := fun e => c (e ▸ hq)
        omega
      omega
theorem PL_rev (ws : List Nat) (q : Nat) : PL (ws ++ [q]) = PL ws ++ [.int (q : Nat)] := by simp [PL]
def ComeI (rs : List (List Nat)) (p N : Nat) (ρ : Env) : Prop := ∃ (m b : Bool) (ms ws : List Nat) (o4 : Option D), ρ = [some (.lst m (NR b rs)), some (.int (p : Nat)), some (.dic .ow .k (DM ms)), some (.lst true (PL ws)), o4] ∧ N = (rs.length - ms.length) + ws.length ∧ ws.length ≤ ms.length ∧ ms.Nodup ∧ p ∈ ms ∧ (∀ q ∈ ms, q < rs.length ∧ Con (rowE rs) p q) ∧ (∀ q ∈ ws, q ∈ ms) ∧ (∀ q ∈ ms, q ∉ ws → ∀ r, rowE rs q r → r ∈ ms)
theorem wp_come : ∀ ds P EP, sp_come ds P EP → rd_come_to.1 (enD [true, true] P) (startE 5 ds) := by
  rintro _ P EP ⟨m, b, rs, p, rfl, hn, hp, hrs, h⟩
  unfold rd_come_to
  simp [keyD, flatK, keyKD, szl]
  refine ⟨ComeI rs p, ⟨_, m, b, [p], [p], none, rfl, rfl, by simp, by simp, by simp, fun q hq => by rw [List.mem_singleton.mp hq]; exact ⟨hp, .rfl⟩, by simp, fun q hq hq2 => absurd hq hq2⟩, ?_⟩
  rintro N ρ ⟨m, b, ms, ws, o4, rfl, hN, hwl, hnd, hpm, hms, hws, hcl⟩
  have hml : ms.length ≤ rs.length := nd_len hnd fun q hq => (hms q hq).1
  simp [oNe, pyOks_PL, eqvA_PL_nil]
  split
  · rename_i hw
    subst hw
    simp [oSortDI, one, kInts_DM]
    refine ⟨by omega, ?_⟩
    rw [sortN_PL]
    have hsp := sortN_perm ms
    refine h _ _ _ ⟨sortN_lt hnd, fun q => ?_⟩ (by rw [hsp.length_eq]; exact hml)
    rw [hsp.mem_iff]
    exact ⟨fun hq => (hms q hq).2, fun c => c.closed (S := fun q => q ∈ ms) (fun a b ha e => hcl a ha (by simp) b e) hpm⟩
  · rename_i hw
    obtain ⟨ws, q, rfl⟩ : ∃ ws' q, ws = ws' ++ [q] := ⟨ws.dropLast, ws.getLast hw, (List.dropLast_concat_getLast hw).symm⟩
    have hqm := hws q (by simp)
    have hqn := (hms q hqm).1
    have hN' : N = rs.length - ms.length + ws.length + 1 := by rw [hN]; simp; omega
    have hrow : rs[q]? = some rs[q] := List.getElem?_eq_getElem hqn
    rw [PL_rev]
    simp [oPop, at_NR hqn]
    refine forD_inv (fun j ρ => ∃ (ms ws : List Nat) (o4 : Option D), ρ = [some (.lst false (NR false rs)), some (.int (p : Nat)), some (.dic .ow .k (DM ms)), some (.lst true (PL ws)), o4] ∧ N = (rs.length - ms.length) + ws.length + 1 ∧ ws.length ≤ ms.length ∧ ms.Nodup ∧ p ∈ ms ∧ q ∈ ms ∧ (∀ q ∈ ms, q < rs.length ∧ Con (rowE rs) p q) ∧ (∀ q ∈ ws, q ∈ ms) ∧ (∀ r ∈ rs[q].take j, r ∈ ms) ∧ (∀ r ∈ ms, r ∉ ws → r ≠ q → ∀ s, rowE rs r s → s ∈ ms)) ⟨ms, ws, o4, rfl, hN', by simp at hwl; omega, hnd, hpm, hqm, hms, fun r hr => hws r (by simp [hr]), by simp, fun r hr hr2 hr3 => hcl r hr (by simp [hr2, hr3])⟩ ?_ ?_
    · clear hws hcl hN hN' hwl hnd hpm hqm hms hml hw
      rintro j d ρ hj ⟨ms, ws, o4, rfl, hN, hwl, hnd, hpm, hqm, hms, hws, htk, hcl⟩ rest hrest
      rw [PL_get] at hj
      obtain ⟨r, hr, rfl⟩ := Option.map_eq_some_iff.mp hj
      have hrm := List.mem_of_getElem? hr
      have hrn := (hrs _ (List.getElem_mem hqn)).2 r hrm
      have hml : ms.length ≤ rs.length := nd_len hnd fun q hq => (hms q hq).1
      simp [oDIn, keyD, flatK, keyKD, look_DM]
      have hlk : (look (DM ms) (KD.int ((r : Nat) : Int)) = none) ↔ r ∉ ms := by
        have := look_DM ms r
        cases e : look (DM ms) (KD.int ((r : Nat) : Int)) with
        | none => rw [e] at this; simpa using this
        | some d => rw [e] at this; simpa using this
      have htk2 : rs[q].take (j + 1) = rs[q].take j ++ [r] := by rw [List.take_succ, hr]; rfl
      have hE : rowE rs q r := ⟨_, hrow, hrm⟩
      split
      · rename_i c
        have c := hlk.mp c
        have hml2 : ms.length + 1 ≤ rs.length := by
          have := nd_len (ms := r :: ms) (List.nodup_cons.mpr ⟨c, hnd⟩) fun s hs => by
            rcases List.mem_cons.mp hs with rfl | hs
            · exact hrn
            · exact (hms s hs).1
          simpa using this
        simp [stDic, keyD, flatK, keyKD, szl, oAppend]
        refine ⟨by omega, ?_⟩
        rw [kput_DM ms r c]
        have e5 : PL ws ++ [D.int ((r : Nat) : Int)] = PL (ws ++ [r]) := (PL_rev ws r).symm
        rw [e5]
        refine ⟨by omega, hrest _ ⟨ms ++ [r], ws ++ [r], _, rfl, by simp; omega, by simp; omega, ?_, by simp [hpm], by simp [hqm], fun s hs => ?_, fun s hs => ?_, fun s hs => ?_, fun s hs hs2 hs3 t ht => ?_⟩⟩
        · rw [List.nodup_append]
          refine ⟨hnd, by simp, fun a ha b hb => ?_⟩
          rw [List.mem_singleton.mp hb]
          rintro rfl
          exact c ha
        · rcases List.mem_append.mp hs with hs | hs
          · exact hms s hs
          · rw [List.mem_singleton.mp hs]; exact ⟨hrn, (hms q hqm).2.step hE⟩
        · rcases List.mem_append.mp hs with hs | hs
          · exact List.mem_append_left _ (hws s hs)
          · exact List.mem_append_right _ hs
        · rw [htk2] at hs
          rcases List.mem_append.mp hs with hs | hs
          · exact List.mem_append_left _ (htk s hs)
          · exact List.mem_append_right _ hs
        · simp only [List.mem_append, List.mem_singleton, not_or] at hs2
          rcases List.mem_append.mp hs with hs | hs
          · exact List.mem_append_left _ (hcl s hs hs2.1 hs3 t ht)
          · exact absurd (List.mem_singleton.mp hs) hs2.2
      · rename_i c
        have c : r ∈ ms := Decidable.byContradiction fun z => c (hlk.mpr z)
        refine hrest _ ⟨ms, ws, _, rfl, hN, hwl, hnd, hpm, hqm, hms, hws, fun s hs => ?_, hcl⟩
        rw [htk2] at hs
        rcases List.mem_append.mp hs with hs | hs
        · exact htk s hs
        · rw [List.mem_singleton.mp hs]; exact c
    · rintro ρ ⟨ms, ws, o4, rfl, hN, hwl, hnd, hpm, hqm, hms, hws, htk, hcl⟩
      refine ⟨N - 1, by omega, false, false, ms, ws, _, rfl, by omega, hwl, hnd, hpm, hms, hws, fun r hr hr2 s hs => ?_⟩
      by_cases c : r = q
      · subst c
        obtain ⟨row, h1, h2⟩ := hs
        rw [hrow] at h1
        cases h1
        rw [PL_len, List.take_length] at htk
        exact htk s h2
      · exact hcl r hr hr2 c s hs
def addT (rs : List (List Nat)) (t : TT) : List (List Nat) :=
  let a := rs.set t.1 (rs.getD t.1 [] ++ [t.2.1])
  a.set t.2.1 (a.getD t.2.1 [] ++ [t.1])
def rowsF (n : Nat) (ts : List TT) : List (List Nat) := ts.foldl addT (List.replicate n [])
def sp_rowsn : DSp := fun ds P _ => ∃ (n : Nat) (ts : List TT) (x : D), ds = [.int (n : Nat), x] ∧ (x = .tup (ts.map tieD) ∨ ∃ m, x = .lst m (ts.map tieD)) ∧ n ≤ 100 ∧ ts.length ≤ 100000 ∧ (∀ t ∈ ts, t.1 < n ∧ t.2.1 < n) ∧ P (.lst true (NR true (rowsF n ts))) [.int (n : Nat), x]
theorem addT_len (rs : List (List Nat)) (t : TT) : (addT rs t).length = rs.length := by unfold addT; simp
theorem rowsF_len (n : Nat) (ts : List TT) : (rowsF n ts).length = n := by
  unfold rowsF
  have : ∀ (ts : List TT) (rs : List (List Nat)), (ts.foldl addT rs).length = rs.length := by
    intro ts
    induction ts with
    | nil => intro rs; rfl
    | cons t ts ih => intro rs; rw [List.foldl_cons, ih, addT_len]
  rw [this]; simp
theorem NR_set (b : Bool) (rs : List (List Nat)) (q : Nat) (r : List Nat) : (NR b rs).set q (.lst b (PL r)) = NR b (rs.set q r) := by unfold NR; rw [List.map_set]
def tieE (ts : List TT) (p q : Nat) : Prop := ∃ t ∈ ts, (t.1 = p ∧ t.2.1 = q) ∨ (t.1 = q ∧ t.2.1 = p)
theorem set_getE {rs : List (List Nat)} {p x q r : Nat} (hp : p < rs.length) : rowE (rs.set p (rs.getD p [] ++ [x])) q r ↔ rowE rs q r ∨ (q = p ∧ r = x) := by
  unfold rowE
  by_cases c : q = p
  · subst c
    rw [List.getElem?_set_self hp, List.getElem?_eq_getElem hp]
    have e : rs.getD q [] = rs[q] := by simp [List.getD_eq_getElem?_getD, List.getElem?_eq_getElem hp]
    rw [e]
    constructor
    · rintro ⟨row, h1, h2⟩
      cases h1
      rcases List.mem_append.mp h2 with h2 | h2
      · exact .inl ⟨_, rfl, h2⟩
      · exact .inr ⟨rfl, List.mem_singleton.mp h2⟩
    · rintro (⟨row, h1, h2⟩ | ⟨_, rfl⟩)
      · cases h1
        exact ⟨_, rfl, List.mem_append_left _ h2⟩
      · exact ⟨_, rfl, by simp⟩
  · rw [List.getElem?_set_ne (fun z => c z.symm)]
    constructor
    · exact fun h => .inl h
    · rintro (h | ⟨h, _⟩)
      · exact h
      · exact absurd h c
theorem addT_E {rs : List (List Nat)} {t : TT} {q r : Nat} (h1 : t.1 < rs.length) (h2 : t.2.1 < rs.length) : rowE (addT rs t) q r ↔ rowE rs q r ∨ (t.1 = q ∧ t.2.1 = r) ∨ (t.1 = r ∧ t.2.1 = q) := by
  unfold addT
  simp only
  rw [set_getE (by rw [List.length_set]; exact h2), set_getE h1]
  constructor
  · rintro ((h | ⟨rfl, rfl⟩) | ⟨rfl, rfl⟩)
    · exact .inl h
    · exact .inr (.inl ⟨rfl, rfl⟩)
    · exact .inr (.inr ⟨rfl, rfl⟩)
  · rintro (h | ⟨rfl, rfl⟩ | ⟨rfl, rfl⟩)
    · exact .inl (.inl h)
    · exact .inl (.inr ⟨rfl, rfl⟩)
    · exact .inr ⟨rfl, rfl⟩
theorem rowsF_E {n : Nat} {ts : List TT} (h : ∀ t ∈ ts, t.1 < n ∧ t.2.1 < n) (q r : Nat) : rowE (rowsF n ts) q r ↔ tieE ts q r := by
  have key : ∀ (ts : List TT) (rs : List (List Nat)), rs.length = n → (∀ t ∈ ts, t.1 < n ∧ t.2.1 < n) → (rowE (ts.foldl addT rs) q r ↔ rowE rs q r ∨ tieE ts q r) := by
    intro ts
    induction ts with
    | nil => intro rs _ _; simp [tieE]
    | cons t ts ih =>
      intro rs hl hb
      have h0 := hb t (by simp)
      rw [List.foldl_cons, ih _ (by rw [addT_len]; exact hl) (fun s hs => hb s (by simp [hs])), addT_E (by omega) (by omega)]
      unfold tieE
      constructor
      · rintro ((h | h) | ⟨s, hs, h⟩)
        · exact .inl h
        · exact .inr ⟨t, by simp, h⟩
        · exact .inr ⟨s, by simp [hs], h⟩
      · rintro (h | ⟨s, hs, h⟩)
        · exact .inl (.inl h)
        · rcases List.mem_cons.mp hs with rfl | hs
          · exact .inl (.inr h)
          · exact .inr ⟨s, hs, h⟩
  unfold rowsF
  rw [key ts _ (by simp) h]
  constructor
  · rintro (⟨row, h1, h2⟩ | h)
    · rw [List.getElem?_replicate] at h1
      split at h1
      · cases h1; simp at h2
      · cases h1
    · exact h
  · exact fun h => .inr h
theorem rowsF_b {n : Nat} {ts : List TT} (h : ∀ t ∈ ts, t.1 < n ∧ t.2.1 < n) : ∀ r ∈ rowsF n ts, r.length ≤ 2 * ts.length ∧ ∀ q ∈ r, q < (rowsF n ts).length := by
  have key : ∀ (ts : List TT) (rs : List (List Nat)) (m : Nat), rs.length = n → (∀ t ∈ ts, t.1 < n ∧ t.2.1 < n) → (∀ r ∈ rs, r.length ≤ m) → ∀ r ∈ ts.foldl addT rs, r.length ≤ m + 2 * ts.length := by
    intro ts
    induction ts with
    | nil => intro rs m _ _ h r hr; exact h r hr
    | cons t ts ih =>
      intro rs m hl hb hm r hr
      rw [List.foldl_cons] at hr
      have h0 := hb t (by simp)
      have := ih (addT rs t) (m + 2) (by rw [addT_len]; exact hl) (fun s hs => hb s (by simp [hs])) (fun r hr => by
        unfold addT at hr
        simp only at hr
        have g1 : (rs.getD t.1 []).length ≤ m := by
          rw [List.getD_eq_getElem?_getD, List.getElem?_eq_getElem (by omega)]
          exact hm _ (List.getElem_mem _)
        have hm1 : ∀ r ∈ rs.set t.1 (rs.getD t.1 [] ++ [t.2.1]), r.length ≤ m + 1 := fun r hr => by
          rcases List.mem_or_eq_of_mem_set hr with hr | rfl
          · have := hm r hr; omega
          · simp at g1 ⊢; omega
        rcases List.mem_or_eq_of_mem_set hr with hr | rfl
        · have := hm1 r hr; omega
        · have g2 : ((rs.set t.1 (rs.getD t.1 [] ++ [t.2.1])).getD t.2.1 []).length ≤ m + 1 := by
            rw [List.getD_eq_getElem?_getD, List.getElem?_eq_getElem (by rw [List.length_set]; omega)]
            exact hm1 _ (List.getElem_mem _)
          rw [List.length_append, List.length_singleton]; omega) r hr
      simp; omega
  intro r hr
  refine ⟨?_, fun q hq => ?_⟩
  · have := key ts (List.replicate n []) 0 (by simp) h (fun r hr => by rw [List.eq_of_mem_replicate hr]; simp) r hr
    omega
  · obtain ⟨i, hi, e⟩ := List.getElem_of_mem hr
    have : rowE (rowsF n ts) i q := ⟨r, by rw [List.getElem?_eq_getElem hi, e], hq⟩
    obtain ⟨t, ht, h2⟩ := (rowsF_E h i q).mp this
    have := h t ht
    rw [rowsF_len]
    omega
theorem getS_NR {rs : List (List Nat)} {q : Nat} (h : q < rs.length) : getS (.lst true (NR true rs)) (.at q) = some (.lst true (PL (rs.getD q []))) := by
  show (NR true rs)[q]? = _
  rw [NR_get, List.getElem?_eq_getElem h, List.getD_eq_getElem?_getD, List.getElem?_eq_getElem h]; rfl
theorem putS_NR {rs : List (List Nat)} {q : Nat} {r : List Nat} : putS (.lst true (NR true rs)) (.at q) (.lst true (PL r)) = .lst true (NR true (rs.set q r)) := by
  show D.lst true ((NR true rs).set q _) = _
  rw [NR_set]
theorem wp_rowsn : ∀ ds P EP, sp_rowsn ds P EP → rd_rows_of_neighbours.1 (enD [true, true] P) (startE 5 ds) := by
  rintro _ P EP ⟨n, ts, x, rfl, hx, hn, htl, hts, h⟩
  unfold rd_rows_of_neighbours
  simp [szl]
  refine ⟨⟨by omega, by omega⟩, by rw [rngD_len]; omega, ?_⟩
  refine compD_inv (fun i acc ρ => ρ = [some (.int (n : Nat)), some x, none, none, none] ∧ acc = NR true (List.replicate i [])) ⟨rfl, rfl⟩ ?_ ?_
  · rintro i d acc ρ hi ⟨rfl, rfl⟩ rest hrest
    obtain ⟨hi', rfl⟩ := rngD_at0 hi
    simp
    have e : NR true (List.replicate i []) ++ [D.lst true []] = NR true (List.replicate i [] ++ [[]]) := NR_snoc true _ []
    rw [e]
    exact hrest _ _ ⟨rfl, by rw [List.replicate_succ']⟩
  rintro acc ρ ⟨rfl, rfl⟩
  rw [rngD_len]
  simp
  have hsk : ∀ P : List D → Prop, P (ts.map tieD) → seqK x P := fun P hP => by
    rcases hx with rfl | ⟨m, rfl⟩
    · exact ⟨fzs_ties ts, hP⟩
    · exact ⟨fzs_ties ts, hP⟩
  refine hsk _ ?_
  refine forD_inv (fun j ρ => ∃ (o3 : Option D), ρ = [some (.int (n : Nat)), some .gone, some (.lst true (NR true (rowsF n (ts.take j)))), o3, none]) ⟨_, rfl⟩ ?_ ?_
  · rintro j d ρ hj ⟨o3, rfl⟩ rest hrest
    rw [List.getElem?_map] at hj
    obtain ⟨t, ht, rfl⟩ := Option.map_eq_some_iff.mp hj
    obtain ⟨t1, t2⟩ := hts t (List.mem_of_getElem? ht)
    have hstep : rowsF n (ts.take (j + 1)) = addT (rowsF n (ts.take j)) t := by
      unfold rowsF; rw [List.take_succ, ht, List.foldl_append]; rfl
    have hl := rowsF_len n (ts.take j)
    have hbd : ∀ r ∈ rowsF n (ts.take j), r.length ≤ 200000 := fun r hr => by
      have := (rowsF_b (n := n) (ts := ts.take j) (fun t ht => hts t (List.mem_of_mem_take ht)) r hr).1
      rw [List.length_take] at this; omega
    generalize rowsF n (ts.take j) = rs at *
    simp [tieD, ixK]
    have i1 : ixN (seqLen (.lst true (NR true rs))) ((t.1 : Nat) : Int) = some t.1 := ixN_nat (by show t.1 < (NR true rs).length; rw [NR_len]; omega)
    refine ⟨trivial, ?_⟩
    rw [i1]
    have a1 : t.1 < rs.length := by omega
    have b1 : (rs.getD t.1 []).length < 16777216 := by
      rw [List.getD_eq_getElem?_getD, List.getElem?_eq_getElem a1]
      have := hbd _ (List.getElem_mem a1)
      simp; omega
    simp [getE, getP, getS_NR a1, mutL, oAppend, putE, putP, ← PL_rev, putS_NR, isLst, szl]
    have hb1 : (rs.getD t.1 []).length < 16777216 := b1
    simp at hb1
    refine ⟨hb1, trivial, ?_⟩
    have i2 : ixN (seqLen (.lst true (NR true (rs.set t.1 (rs.getD t.1 [] ++ [t.2.1]))))) ((t.2.1 : Nat) : Int) = some t.2.1 := ixN_nat (by show t.2.1 < (NR true _).length; rw [NR_len, List.length_set]; omega)
    simp at i2
    rw [i2]
    have a2 : t.2.1 < (rs.set t.1 (rs.getD t.1 [] ++ [t.2.1])).length := by rw [List.length_set]; omega
    have gs2 := getS_NR a2
    simp at gs2
    simp [getE, getP, gs2, mutL, oAppend, putE, putP, ← PL_rev, putS_NR, isLst, szl]
    have hb2 : ((rs.set t.1 (rs[t.1]?.getD [] ++ [t.2.1]))[t.2.1]?.getD []).length < 16777216 := by
      rw [List.getElem?_eq_getElem (by rw [List.length_set]; omega)]
      rcases List.mem_or_eq_of_mem_set (List.getElem_mem (l := rs.set t.1 (rs[t.1]?.getD [] ++ [t.2.1])) (by rw [List.length_set]; omega : t.2.1 < _)) with hm | hm
      · have := hbd _ hm; simp; omega
      · rw [Option.getD_some, hm, List.length_append, List.length_singleton]
        rw [List.getElem?_eq_getElem a1] at hb1 ⊢
        have := hbd _ (List.getElem_mem a1)
        simp; omega
    refine ⟨hb2, ?_⟩
    have ea : addT rs t = ((rs.set t.1 (rs[t.1]?.getD [] ++ [t.2.1])).set t.2.1 ((rs.set t.1 (rs[t.1]?.getD [] ++ [t.2.1]))[t.2.1]?.getD [] ++ [t.1])) := by
      unfold addT; simp [List.getD_eq_getElem?_getD]
    rw [← ea]
    exact hrest _ ⟨_, by rw [hstep]⟩
  rintro ρ ⟨o3, rfl⟩
  rw [List.length_map, List.take_length]
  simp
  exact h
theorem rowsn_i {n : Nat} {ts : List TT} {x : D} {P : D → List D → Prop} {EP : Value → List D → Prop} (hx : x = .tup (ts.map tieD) ∨ ∃ m, x = .lst m (ts.map tieD)) (hn : n ≤ 100) (hl : ts.length ≤ 100000) (hts : ∀ t ∈ ts, t.1 < n ∧ t.2.1 < n) (h : P (.lst true (NR true (rowsF n ts))) [.int (n : Nat), x]) : sp_rowsn [.int (n : Nat), x] P EP := ⟨n, ts, x, rfl, hx, hn, hl, hts, h⟩
/-- the parts of a web: their least places, rising; each part all that one comes to from there -/
structure PartsOk (E : Nat → Nat → Prop) (n : Nat) (hs : List Nat) (pss : List (List Nat)) : Prop where
  up : hs.Pairwise (· < ·)
  mem : ∀ h, h ∈ hs ↔ h < n ∧ ∀ q, q < h → ¬ Con E q h
  len : pss.length = hs.length
  all : ∀ (i : Nat) (h : Nat) (ps : List Nat), hs[i]? = some h → pss[i]? = some ps → ComeOk E h ps
/-- a web's ties lie in it -/
structure OkB (k : Str) (ts : List TT) : Prop where
  len : k.length ≤ 60
  few : ts.length ≤ 40000
  bnd : ∀ t ∈ ts, t.1 < k.length ∧ t.2.1 < k.length
def sp_parts : DSp := fun ds P _ => ∃ (k : Str) (ts : List TT), ds = [webD k ts] ∧ OkB k ts ∧ ∀ m hs pss, PartsOk (tieE ts) k.length hs pss → hs.length ≤ k.length → P (.lst m (NR false pss)) [webD k ts]
theorem parts_i {k : Str} {ts : List TT} {P : D → List D → Prop} {EP : Value → List D → Prop} (hw : OkB k ts) (h : ∀ m hs pss, PartsOk (tieE ts) k.length hs pss → hs.length ≤ k.length → P (.lst m (NR false pss)) [webD k ts]) : sp_parts [webD k ts] P EP := ⟨k, ts, rfl, hw, h⟩
def AllCon (E : Nat → Nat → Prop) (n : Nat) : Prop := ∀ q, q < n → Con E 0 q
def sp_hangs : DSp := fun ds P _ => ∃ (k : Str) (ts : List TT), ds = [webD k ts] ∧ OkB k ts ∧ ∀ b : Bool, (b = true ↔ AllCon (tieE ts) k.length) → P (.bl b) [webD k ts]
theorem hangs_i {k : Str} {ts : List TT} {P : D → List D → Prop} {EP : Value → List D → Prop} (hw : OkB k ts) (h : ∀ b : Bool, (b = true ↔ AllCon (tieE ts) k.length) → P (.bl b) [webD k ts]) : sp_hangs [webD k ts] P EP := ⟨k, ts, rfl, hw, h⟩
theorem tieE_symm (ts : List TT) : ∀ a b, tieE ts a b → tieE ts b a := by
  rintro a b ⟨t, ht, h | h⟩
  · exact ⟨t, ht, .inr h⟩
  · exact ⟨t, ht, .inl h⟩
theorem parts_hang {ts : List TT} {n : Nat} {hs : List Nat} {pss : List (List Nat)} (h : PartsOk (tieE ts) n hs pss) : pss.length ≤ 1 ↔ AllCon (tieE ts) n := by
  rw [h.len]
  have least : ∀ q, q < n → ∃ h0 ∈ hs, Con (tieE ts) h0 q ∧ h0 ≤ q := by
    intro q
    induction q using Nat.strongRecOn with
    | ind q ih =>
      intro hq
      by_cases c : ∃ r, r < q ∧ Con (tieE ts) r q
      · obtain ⟨r, hr, hc⟩ := c
        obtain ⟨h0, a, b, d⟩ := ih r hr (by omega)
        exact ⟨h0, a, b.trans hc, by omega⟩
      · exact ⟨q, (h.mem q).mpr ⟨hq, fun r hr hc => c ⟨r, hr, hc⟩⟩, .rfl, by omega⟩
  constructor
  · intro h1 q hq
    have h0m : 0 ∈ hs := (h.mem 0).mpr ⟨by omega, fun q hq => by omega⟩
    obtain ⟨h0, a, b, _⟩ := least q hq
    have : h0 = 0 := by
      cases hs with
      | nil => simp at h0m
      | cons x xs =>
        cases xs with
        | nil => simp at h0m a; omega
        | cons y ys => simp at h1
    subst this
    exact b
  · intro hall
    have hz : ∀ h0 ∈ hs, h0 = 0 := fun h0 hm => by
      have := (h.mem h0).mp hm
      by_cases c : h0 = 0
      · exact c
      · exact absurd (hall h0 this.1) (this.2 0 (by omega))
    cases hs with
    | nil => simp
    | cons x xs =>
      cases xs with
      | nil => simp
      | cons y ys =>
        have a := hz x (by simp)
        have b := hz y (by simp)
        have := (List.pairwise_cons.mp h.up).1 y (by simp)
        omega
theorem con_least (E : Nat → Nat → Prop) : ∀ q, ∃ h, h ≤ q ∧ Con E h q ∧ ∀ r, r < h → ¬ Con E r h := by
  intro q
  induction q using Nat.strongRecOn with
  | ind q ih =>
    by_cases c : ∃ r, r < q ∧ Con E r q
    · obtain ⟨r, hr, hc⟩ := c
      obtain ⟨h, a, b, d⟩ := ih r hr
      exact ⟨h, by omega, b.trans hc, d⟩
    · exact ⟨q, Nat.le_refl _, .rfl, fun r hr hc => c ⟨r, hr, hc⟩⟩
def TP (ps : List Nat) : List D := ps.map fun q => .tup [.int ((q : Nat) : Int), .bl true]
theorem fzs_TP (ps : List Nat) : fzs (TP ps) = true := by
  induction ps with
  | nil => rfl
  | cons p ps ih => show fzs (D.tup [.int ((p : Nat) : Int), .bl true] :: TP ps) = true; simp [ih]
theorem pairs_TP (ps : List Nat) : pairsKV (TP ps) = some (DM ps) := by
  induction ps with
  | nil => rfl
  | cons p ps ih => show pairsKV (D.tup [.int ((p : Nat) : Int), .bl true] :: TP ps) = _; simp [pairsKV, ih, pairKV, keyD, flatK, keyKD]; rfl
theorem TP_snoc (ps : List Nat) (q : Nat) : TP ps ++ [.tup [.int ((q : Nat) : Int), .bl true]] = TP (ps ++ [q]) := by simp [TP]
theorem DM_put (ms : List Nat) : ∀ ps : List Nat, ∃ ns, (DM ps).foldl (fun acc p => kput acc p.1 p.2) (DM ms) = DM ns ∧ (∀ q, q ∈ ns ↔ q ∈ ms ∨ q ∈ ps) ∧ ns.length ≤ ms.length + ps.length
  | [] => ⟨ms, rfl, by simp, by simp⟩
  | p :: ps => by
    show ∃ ns, (DM ps).foldl _ (kput (DM ms) (.int ((p : Nat) : Int)) (.bl true)) = DM ns ∧ _
    by_cases c : p ∈ ms
    · rw [kput_DM' ms p c]
      obtain ⟨ns, h1, h2, h3⟩ := DM_put ms ps
      refine ⟨ns, h1, fun q => ?_, by simp; omega⟩
      rw [h2, List.mem_cons]
      constructor
      · rintro (h | h)
        · exact .inl h
        · exact .inr (.inr h)
      · rintro (h | rfl | h)
        · exact .inl h
        · exact .inl c
        · exact .inr h
    · rw [kput_DM ms p c]
      obtain ⟨ns, h1, h2, h3⟩ := DM_put (ms ++ [p]) ps
      refine ⟨ns, h1, fun q => ?_, by simp at h3 ⊢; omega⟩
      rw [h2, List.mem_cons, List.mem_append, List.mem_singleton, or_assoc]
theorem DM_merge (ps : List Nat) : ∃ ns, mergeD (DM ps) = DM ns ∧ (∀ q, q ∈ ns ↔ q ∈ ps) ∧ ns.length ≤ ps.length := by
  obtain ⟨ns, h1, h2, h3⟩ := DM_put [] ps
  exact ⟨ns, h1, fun q => by rw [h2]; simp, by simpa using h3⟩
theorem wp_hangs : ∀ ds P EP, sp_hangs ds P EP → (rd_hangs (sp_parts := sp_parts)).1 (enD [true] P) (startE 1 ds) := by
  rintro _ P EP ⟨k, ts, rfl, hw, h⟩
  unfold rd_hangs
  simp [cal_eq]
  refine parts_i hw fun m hs pss hp hl => ?_
  simp [oLeI]
  refine h _ ?_
  rw [← parts_hang hp]
  simp
  omega
theorem wp_parts : ∀ ds P EP, sp_parts ds P EP → (rd_parts (sp_rows_of_neighbours := sp_rowsn) (sp_come_to := sp_come)).1 (enD [true] P) (startE 6 ds) := by
  rintro _ P EP ⟨k, ts, rfl, hw, h⟩
  have hk := hw.len
  unfold rd_parts
  simp [cal_eq, ix_web0, ix_web1, szl]
  refine ⟨by omega, rowsn_i (.inl rfl) (by omega) (Nat.le_trans hw.few (by decide)) hw.bnd ?_⟩
  have hE := rowsF_E hw.bnd
  have hB := rowsF_b hw.bnd
  have hL := rowsF_len k.length ts
  generalize rowsF k.length ts = rs at *
  simp [ix_web0, szl]
  have hEE : rowE rs = tieE ts := funext fun a => funext fun b => propext (hE a b)
  have hsy := tieE_symm ts
  refine ⟨by omega, ⟨by omega, by omega⟩, ?_⟩
  refine forD_inv (fun i ρ => ∃ (m b : Bool) (hs : List Nat) (pss : List (List Nat)) (ms : List Nat) (o4 o5 : Option D), ρ = [some (webD k ts), some (.lst m (NR b rs)), some (.lst true (NR false pss)), some (.dic .ow .k (DM ms)), o4, o5] ∧ PartsOk (tieE ts) i hs pss ∧ hs.length ≤ i ∧ ms.length ≤ i * 60 ∧ ∀ q, q ∈ ms ↔ ∃ h ∈ hs, Con (tieE ts) h q) ⟨true, true, [], [], [], none, none, rfl, ⟨.nil, by simp, rfl, by simp⟩, by simp, by simp, by simp⟩ ?_ ?_
  · rintro i d ρ hi ⟨m, b, hs, pss, ms, o4, o5, rfl, hp, hhl, hml, hms⟩ rest hrest
    obtain ⟨hi', rfl⟩ := rngD_at0 hi
    have hlk : (look (DM ms) (KD.int ((i : Nat) : Int)) = none) ↔ i ∉ ms := by
      have := look_DM ms i
      cases e : look (DM ms) (KD.int ((i : Nat) : Int)) with
      | none => rw [e] at this; simpa using this
      | some d => rw [e] at this; simpa using this
    simp [oDIn, keyD, flatK, keyKD]
    split
    · rename_i c
      have c := hlk.mp c
      have hleast : ∀ q, q < i → ¬ Con (tieE ts) q i := fun q hq hc => by
        obtain ⟨h0, a, b, d⟩ := con_least (tieE ts) q
        exact c ((hms i).mpr ⟨h0, (hp.mem h0).mpr ⟨by omega, d⟩, b.trans hc⟩)
      refine come_i (by omega) (by omega) (fun r hr => ⟨Nat.le_trans (hB r hr).1 (by have := hw.few; omega), (hB r hr).2⟩) fun ps m' b' hc hpl => ?_
      rw [hEE] at hc
      have hpl2 := hp.len
      simp [mutL, oAppend, getE, getP, putE, putP, isLst, isDic, szl, atI_last]
      refine ⟨by omega, by omega, ?_⟩
      have eN : NR false pss ++ [D.lst false (PL ps)] = NR false (pss ++ [ps]) := NR_snoc false pss ps
      rw [eN]
      refine compD_inv (fun j acc ρ => ρ = [some (webD k ts), some (.lst m' (NR b' rs)), some (.lst true (NR false (pss ++ [ps]))), some (.dic .ow .k (DM ms)), some (.int (i : Nat)), none] ∧ acc = TP (ps.take j)) ⟨by first | rfl | (cases o5 <;> rfl), rfl⟩ ?_ ?_
      · rintro j d acc ρ hj ⟨rfl, rfl⟩ rest2 hrest2
        rw [PL_get] at hj
        obtain ⟨q, hq, rfl⟩ := Option.map_eq_some_iff.mp hj
        simp
        rw [TP_snoc]
        exact hrest2 _ _ ⟨rfl, by rw [List.take_succ, hq]; rfl⟩
      rintro acc ρ ⟨rfl, rfl⟩
      rw [PL_len, List.take_length]
      obtain ⟨ns, hm1, hm2, hm3⟩ := DM_merge ps
      obtain ⟨ns2, hm4, hm5, hm6⟩ := DM_put ms ns
      simp [oDictP, one, fzs_TP, pairs_TP, hm1, oUpd, fzk_DM, szl, hm4]
      refine ⟨by omega, ?_⟩
      refine hrest _ ⟨m', b', hs ++ [i], pss ++ [ps], ns2, _, _, rfl, ⟨?_, fun h => ?_, by simp [hpl2], fun j h ps2 h1 h2 => ?_⟩, by simp; omega, by omega, fun q => ?_⟩
      · rw [List.pairwise_append]
        refine ⟨hp.up, List.pairwise_singleton _ _, fun a ha b hb => ?_⟩
        rw [List.mem_singleton.mp hb]
        exact ((hp.mem a).mp ha).1
      · rw [List.mem_append, List.mem_singleton, hp.mem]
        constructor
        · rintro (⟨x, y⟩ | rfl)
          · exact ⟨by omega, y⟩
          · exact ⟨by omega, hleast⟩
        · rintro ⟨x, y⟩
          by_cases e : h = i
          · exact .inr e
          · exact .inl ⟨by omega, y⟩
      · by_cases e : j < hs.length
        · rw [List.getElem?_append_left e] at h1
          rw [List.getElem?_append_left (by omega)] at h2
          exact hp.all j h ps2 h1 h2
        · have := (List.getElem?_eq_some_iff.mp h1).1
          rw [List.length_append, List.length_singleton] at this
          have ej : j = hs.length := by omega
          subst ej
          simp at h1
          rw [← hpl2] at h2
          simp at h2
          subst h1 h2
          exact hc
      · rw [hm5, hm2, hms, hc.mem]
        constructor
        · rintro (⟨h, a, b⟩ | h)
          · exact ⟨h, by simp [a], b⟩
          · exact ⟨i, by simp, h⟩
        · rintro ⟨h, a, b⟩
          rcases List.mem_append.mp a with a | a
          · exact .inl ⟨h, a, b⟩
          · rw [List.mem_singleton.mp a] at b; exact .inr b
    · rename_i c
      have c : i ∈ ms := Decidable.byContradiction fun z => c (hlk.mpr z)
      obtain ⟨h0, a, b0⟩ := (hms i).mp c
      refine hrest _ ⟨m, b, hs, pss, ms, _, _, rfl, ⟨hp.up, fun h => ?_, hp.len, hp.all⟩, by omega, by omega, hms⟩
      rw [hp.mem]
      constructor
      · rintro ⟨x, y⟩; exact ⟨by omega, y⟩
      · rintro ⟨x, y⟩
        refine ⟨?_, y⟩
        by_cases e : h = i
        · subst e
          exact absurd b0 (y h0 ((hp.mem h0).mp a).1)
        · omega
  rintro ρ ⟨m, b, hs, pss, ms, o4, o5, rfl, hp, hhl, hml, hms⟩
  rw [rngD_len] at hp hhl
  exact h _ hs pss hp hhl
/-- where a place is led -/
def nameF (l : List (Nat × Nat)) (p : Nat) : Option Nat := (l.find? fun q => decide (q.1 = p)).map (·.2)
def ledB (ts' : List TT) (l : List (Nat × Nat)) (t : TT) : Bool := match nameF l t.1, nameF l t.2.1 with
  | some a, some b => decide (tieL ts' a b = some t.2.2)
  | _, _ => false
def ledT (ts ts' : List TT) (l : List (Nat × Nat)) : List TT := ts.filter (ledB ts' l)
def kvN (l : List (Nat × Nat)) : List (KD × D) := l.foldl (fun acc q => kput acc (keyKD (.inl ((q.1 : Nat) : Int))) (.int (q.2 : Nat))) []
theorem nameF_snoc {l : List (Nat × Nat)} {q : Nat × Nat} (h : Ris (l ++ [q])) (p : Nat) : nameF (l ++ [q]) p = if q.1 = p then some q.2 else nameF l p := by
  unfold nameF
  rw [List.find?_append]
  by_cases e : q.1 = p
  · have : l.find? (fun q => decide (q.1 = p)) = none := by
      rw [List.find?_eq_none]
      intro r hr
      have := (List.pairwise_append.mp h).2.2 r hr q (by simp)
      simp; omega
    simp [this, e]
  · simp [e]
theorem look_kvN : ∀ (n : Nat) (l : List (Nat × Nat)), l.length = n → Ris l → ∀ p : Nat, look (kvN l) (keyKD (.inl ((p : Nat) : Int))) = (nameF l p).map fun a => .int ((a : Nat) : Int)
  | 0, l, h, _, p => by rw [List.length_eq_zero_iff.mp h]; rfl
  | n + 1, l, h, hr, p => by
    have e : l = l.dropLast ++ [l.getLast (by intro z; rw [z] at h; cases h)] := (List.dropLast_concat_getLast _).symm
    have hr' := hr
    rw [e] at hr' ⊢
    rw [nameF_snoc hr']
    have ih := look_kvN n l.dropLast (by rw [List.length_dropLast]; omega) (List.pairwise_append.mp hr').1 p
    generalize l.getLast (by intro z; rw [z] at h; cases h) = q at *
    unfold kvN at ih ⊢
    rw [List.foldl_append, List.foldl_cons, List.foldl_nil, look_kput, ih]
    have ek : (keyKD (.inl ((q.1 : Nat) : Int)) = keyKD (.inl ((p : Nat) : Int))) ↔ q.1 = p := by simp [keyKD]; omega
    by_cases e2 : q.1 = p
    · rw [if_pos (ek.mpr e2), if_pos e2]; rfl
    · rw [if_neg (fun z => e2 (ek.mp z)), if_neg e2]
theorem pairs_LD (l : List (Nat × Nat)) : pairsKV (LD l) = some (l.map fun q => (keyKD (.inl ((q.1 : Nat) : Int)), .int (q.2 : Nat))) := by
  induction l with
  | nil => rfl
  | cons q l ih => show pairsKV (kD q :: LD l) = _; simp [pairsKV, kD, ih, pairKV, keyD, flatK]
theorem merge_LD (l : List (Nat × Nat)) : mergeD (l.map fun q => (keyKD (.inl ((q.1 : Nat) : Int)), .int (q.2 : Nat))) = kvN l := by
  unfold mergeD kvN
  rw [List.foldl_map]
def sp_led : DSp := fun ds P _ => ∃ (k : Str) (ts : List TT) (k' : Str) (ts' : List TT) (m : Bool) (l : List (Nat × Nat)), ds = [webD k ts, webD k' ts', .lst m (LD l)] ∧ OkV k ts ∧ OkV k' ts' ∧ l.length ≤ 1000 ∧ Ris l ∧ P (.lst true ((ledT ts ts' l).map tieD)) [webD k ts, webD k' ts', .lst m (LD l)]
/-! the cut, of any web whose ties lie in it -/
def cutK (k : Str) (qs : List Nat) : Str := ⟨(qs.filterMap fun q => k.cps.toList[q]?).toArray⟩
def cutT (ts : List TT) (l : List (Nat × Nat)) : List TT := ts.filterMap fun t => match nameF l t.1, nameF l t.2.1 with
  | some a, some b => some (a, b, t.2.2)
  | _, _ => none
theorem nameF_zip {qs : List Nat} (h : qs.Pairwise (· < ·)) {p a : Nat} : nameF qs.zipIdx p = some a ↔ a < qs.length ∧ qs.getD a 0 = p := by
  have key : ∀ (qs : List Nat) (n a : Nat), qs.Pairwise (· < ·) → (nameF (qs.zipIdx n) p = some a ↔ n ≤ a ∧ a - n < qs.length ∧ qs.getD (a - n) 0 = p) := by
    intro qs
    induction qs with
    | nil => intro n a _; simp [nameF]
    | cons q qs ih =>
      intro n a h
      obtain ⟨h1, h2⟩ := List.pairwise_cons.mp h
      have ih := ih (n + 1) a h2
      rw [List.zipIdx_cons]
      by_cases e : q = p
      · have e1 : nameF ((q, n) :: qs.zipIdx (n + 1)) p = some n := by unfold nameF; simp [e]
        rw [e1]
        constructor
        · intro z
          have : n = a := by simpa using z
          subst this
          simp [e]
        · rintro ⟨z1, z2, z3⟩
          by_cases ea : a = n
          · rw [ea]
          · obtain ⟨d, hd⟩ : ∃ d, a - n = d + 1 := ⟨a - n - 1, by omega⟩
            rw [hd] at z2 z3
            have z2' : d < qs.length := by simpa using z2
            have z3' : qs.getD d 0 = p := by simpa using z3
            rw [getD_lt z2'] at z3'
            have := h1 _ (List.getElem_mem z2')
            omega
      · have e1 : nameF ((q, n) :: qs.zipIdx (n + 1)) p = nameF (qs.zipIdx (n + 1)) p := by unfold nameF; simp [e]
        rw [e1, ih]
        constructor
        · rintro ⟨z1, z2, z3⟩
          have hd : a - n = (a - (n + 1)) + 1 := by omega
          rw [hd]
          exact ⟨by omega, by simpa using z2, by simpa using z3⟩
        · rintro ⟨z1, z2, z3⟩
          by_cases ea : a = n
          · subst ea
            simp at z3
            exact absurd z3 e
          · have hd : a - n = (a - (n + 1)) + 1 := by omega
            rw [hd] at z2 z3
            exact ⟨by omega, by simpa using z2, by simpa using z3⟩
  have := key qs 0 a h
  simpa using this
theorem sort_PL {m : Bool} {ps : List Nat} {P : D → Prop} (h : P (.lst true (PL (sortN ps)))) : oSortA [.lst m (PL ps)] P := by
  refine .inl ?_
  show ofInts (.lst m (PL ps)) fun ns => P (.lst true ((sortI ns).map D.int))
  unfold ofInts
  simp only [asInts_PL, mb_so, sortN_PL]
  exact h
theorem cutK_len {k : Str} {qs : List Nat} (h : ∀ q ∈ qs, q < k.length) : (cutK k qs).length = qs.length := by
  show (qs.filterMap fun q => k.cps.toList[q]?).toArray.size = _
  rw [List.size_toArray]
  induction qs with
  | nil => rfl
  | cons q qs ih =>
    have hq : q < k.cps.toList.length := by rw [cps_len]; exact h q (by simp)
    rw [List.filterMap_cons, List.getElem?_eq_getElem hq]
    simp only [List.length_cons]
    rw [ih fun p hp => h p (by simp [hp])]
theorem cutK_mem {k : Str} {qs : List Nat} {c : Nat} (h : c ∈ (cutK k qs).cps.toList) : c ∈ k.cps.toList := by
  have h' : c ∈ qs.filterMap fun q => k.cps.toList[q]? := by simpa [cutK] using h
  obtain ⟨q, _, e⟩ := List.mem_filterMap.mp h'
  exact List.mem_of_getElem? e
theorem zip_ris {qs : List Nat} (h : qs.Pairwise (· < ·)) : Ris qs.zipIdx := by
  have e : (qs.zipIdx.map (·.1)) = qs := by simp
  have h2 : (qs.zipIdx.map (·.1)).Pairwise (· < ·) := by rw [e]; exact h
  exact List.pairwise_map.mp h2
def sp_cut : DSp := fun ds P _ => ∃ (k : Str) (ts : List TT) (m : Bool) (ps : List Nat), ds = [webD k ts, .lst m (PL ps)] ∧ k.length ≤ 100 ∧ ts.length ≤ 40000 ∧ ps.Nodup ∧ (∀ p ∈ ps, p < k.length) ∧ ps.length ≤ 100 ∧ P (webD (cutK k (sortN ps)) (cutT ts (sortN ps).zipIdx)) [webD k ts, .lst m (PL ps)]
theorem cut_i {k : Str} {ts : List TT} {m : Bool} {ps : List Nat} {P : D → List D → Prop} {EP : Value → List D → Prop} (h1 : k.length ≤ 100) (h2 : ts.length ≤ 40000) (h3 : ps.Nodup) (h4 : ∀ p ∈ ps, p < k.length) (h : P (webD (cutK k (sortN ps)) (cutT ts (sortN ps).zipIdx)) [webD k ts, .lst m (PL ps)]) : sp_cut [webD k ts, .lst m (PL ps)] P EP := ⟨k, ts, m, ps, rfl, h1, h2, h3, h4, by have := nd_len h3 h4; omega, h⟩
theorem wp_cut : ∀ ds P EP, sp_cut ds P EP → rd_cut.1 (enD [true, true] P) (startE 8 ds) := by
  rintro _ P EP ⟨k, ts, m, ps, rfl, hks, hfew, hnd, hlt, hpl, h⟩
  unfold rd_cut
  simp [ix_web0, ix_web1, szl]
  have hsl := sortN_lt hnd
  have hsp := sortN_perm ps
  have hslt : ∀ q ∈ sortN ps, q < k.length := fun q hq => hlt q (hsp.mem_iff.mp hq)
  have hsn : (sortN ps).length = ps.length := hsp.length_eq
  generalize hqs : sortN ps = qs at *
  refine sort_PL ?_
  rw [hqs]
  simp [enumA]
  refine ⟨by rw [enumD_len, PL_len]; omega, ?_⟩
  refine compD_inv (fun i acc ρ => ρ = [some (webD k ts), some (.lst m (PL ps)), some (.lst false (PL qs)), none, none, none, none, none] ∧ acc = LD (qs.take i).zipIdx) ⟨rfl, rfl⟩ ?_ ?_
  · rintro i d acc ρ hi ⟨rfl, rfl⟩ rest hrest
    obtain ⟨d', hd', rfl⟩ := enumD_get hi
    rw [PL_get] at hd'
    obtain ⟨q, hq, rfl⟩ := Option.map_eq_some_iff.mp hd'
    have hil : i < qs.length := (List.getElem?_eq_some_iff.mp hq).1
    simp
    rw [LD_snoc _ (q, i)]
    have hti : (qs.take i).length = i := by rw [List.length_take]; omega
    exact hrest _ _ ⟨rfl, by rw [List.take_succ, hq, List.zipIdx_append, hti]; simp⟩
  · rintro acc ρ ⟨rfl, rfl⟩
    rw [enumD_len, PL_len, List.take_length]
    have hris := zip_ris hsl
    generalize hL : qs.zipIdx = l at *
    simp [oDictP, fzs_LD, pairs_LD, merge_LD, ix_web1]
    have kI : ∀ p : Nat, keyD .k (.int ((p : Nat) : Int)) = some (keyKD (.inl ((p : Nat) : Int))) := fun p => rfl
    refine ⟨by omega, ?_⟩
    refine compD_inv (fun i acc ρ => ρ = [some (webD k ts), some (.lst m (PL ps)), some (.lst false (PL qs)), some (.dic .ow .k (kvN l)), none, none, none, none] ∧ acc = (cutT (ts.take i) l).map tieD) ⟨rfl, rfl⟩ ?_ ?_
    · rintro i d acc ρ hi ⟨rfl, rfl⟩ rest hrest
      rw [List.getElem?_map] at hi
      obtain ⟨t, ht, rfl⟩ := Option.map_eq_some_iff.mp hi
      have hstep : cutT (ts.take (i + 1)) l = cutT (ts.take i) l ++ cutT [t] l := by
        unfold cutT; rw [List.take_succ, ht, List.filterMap_append]; rfl
      have l1 := look_kvN _ l rfl hris t.1
      have l2 := look_kvN _ l rfl hris t.2.1
      have hno : cutT [t] l = [] → rest ((cutT (ts.take i) l).map tieD) [some (webD k ts), some (.lst m (PL ps)), some (.lst false (PL qs)), some (.dic .ow .k (kvN l)), none, none, none, none] := fun e => hrest _ _ ⟨rfl, by rw [hstep, e, List.append_nil]⟩
      simp [tieD, oDIn, kI, l1]
      cases e1 : nameF l t.1 with
      | none =>
        simp
        exact hno (by unfold cutT; simp [e1])
      | some a =>
        simp [l2]
        cases e2 : nameF l t.2.1 with
        | none =>
          simp
          exact hno (by unfold cutT; simp [e1, e2])
        | some b =>
          rw [e1] at l1; rw [e2] at l2
          simp [oDGet, kI, l1, l2, szl]
          have hr := hrest _ _ ⟨rfl, show (cutT (ts.take i) l).map tieD ++ [tieD (a, b, t.2.2)] = _ by rw [hstep, List.map_append]; congr 1; unfold cutT; simp [e1, e2]⟩
          simpa [tieD] using hr
    · rintro acc ρ ⟨rfl, rfl⟩
      rw [List.length_map, List.take_length]
      simp [szl]
      refine ⟨by omega, ?_⟩
      refine compD_inv (fun i acc ρ => ρ = [some (webD k ts), some (.lst m (PL ps)), some (.lst false (PL qs)), some (.dic .ow .k (kvN l)), some (.lst true ((cutT ts l).map tieD)), none, none, none] ∧ ∃ cs : List Nat, acc = cs.map (fun c => D.str (chr c)) ∧ cs = (qs.take i).filterMap fun q => k.cps.toList[q]?) ⟨rfl, [], rfl, by simp⟩ ?_ ?_
      · rintro i d acc ρ hi ⟨rfl, cs, rfl, hcs⟩ rest hrest
        rw [PL_get] at hi
        obtain ⟨q, hq, rfl⟩ := Option.map_eq_some_iff.mp hi
        have hqk := hslt q (List.mem_of_getElem? hq)
        obtain ⟨c, hc1, hc2, hc3⟩ := atN (xs := k.cps.toList) (i := (q : Int)) (by omega) (by rw [cps_len]; omega)
        have hc1' : k.cps.toList[q]? = some c := by simpa using hc1
        simp [ix_web0, szl]
        refine ⟨by omega, ?_⟩
        rw [hc2]
        exact hrest _ _ ⟨rfl, cs ++ [c], by simp [chr], by rw [List.take_succ, hq, List.filterMap_append, hcs]; congr 1; simp only [Option.toList_some, List.filterMap_cons, hc1', List.filterMap_nil]⟩
      · rintro acc ρ ⟨rfl, cs, rfl, hcs⟩
        rw [PL_len, List.take_length] at hcs
        have hcl : cs.length ≤ qs.length := by rw [hcs]; exact List.length_filterMap_le _ _
        refine join_chrs (by omega) ?_
        simp [fzs_ties, szl]
        subst hcs
        exact h
theorem sorted_ext2 : ∀ {l1 l2 : List Nat}, l1.Pairwise (· < ·) → l2.Pairwise (· < ·) → (∀ x, x ∈ l1 ↔ x ∈ l2) → l1 = l2
  | [], [], _, _, _ => rfl
  | [], y :: ys, _, _, h => by have := (h y).mpr (by simp); simp at this
  | x :: xs, [], _, _, h => by have := (h x).mp (by simp); simp at this
  | x :: xs, y :: ys, h1, h2, h => by
    obtain ⟨a1, a2⟩ := List.pairwise_cons.mp h1
    obtain ⟨b1, b2⟩ := List.pairwise_cons.mp h2
    have e : x = y := Classical.byContradiction fun hne => by
      have hx : x ∈ ys := by
        rcases List.mem_cons.mp ((h x).mp (by simp)) with h | h
        · exact absurd h hne
        · exact h
      have hy : y ∈ xs := by
        rcases List.mem_cons.mp ((h y).mpr (by simp)) with h | h
        · exact absurd h.symm hne
        · exact h
      have := b1 x hx
      have := a1 y hy
      omega
    subst e
    have : xs = ys := sorted_ext2 a2 b2 fun z => by
      constructor
      · intro hz
        rcases List.mem_cons.mp ((h z).mp (List.mem_cons_of_mem _ hz)) with h | h
        · subst h; exact absurd (a1 z hz) (Nat.lt_irrefl _)
        · exact h
      · intro hz
        rcases List.mem_cons.mp ((h z).mpr (List.mem_cons_of_mem _ hz)) with h | h
        · subst h; exact absurd (b1 z hz) (Nat.lt_irrefl _)
        · exact h
    rw [this]
def sp_size40 : DSp := fun ds P _ => ∃ (h : D) (b : Bool), ds = [h, .bl b] ∧ isHand h ∧ ∀ (n : Nat) h', isHand h' → n ≤ 40 → P (.int (n : Nat)) [h', .bl b]
theorem wp_size40 : ∀ ds P EP, sp_size40 ds P EP → (rd__law_size sp_draw).1 (enD [true, true] P) (startE 2 ds) := by
  rintro _ P EP ⟨x, b, rfl, hx, h⟩
  have key : ∀ (i : Int) h', 0 ≤ i → i ≤ 40 → isHand h' → P (.int i) [h', .bl b] := fun i h' h0 h1 hh => by
    have := h i.toNat h' hh (by omega)
    rwa [Int.toNat_of_nonneg h0] at this
  simp [rd__law_size, cal_eq, szl]
  split
  · refine draw_i hx (by decide) (by decide) fun g1 h1 a1 b1 hh1 => ?_
    simp
    refine draw_i hh1 (by decide) (by decide) fun g2 h2 a2 b2 hh2 => ?_
    simp
    refine draw_i hh2 (by decide) (by decide) fun g3 h3 a3 b3 hh3 => ?_
    rcases (show g3 = 0 ∨ g3 = 1 by omega) with rfl | rfl <;> simp
    · exact key _ _ (by omega) (by omega) hh3
    · exact key _ _ (by omega) (by omega) hh3
  · refine draw_i hx (by decide) (by decide) fun g1 h1 a1 b1 hh1 => ?_
    simp
    refine draw_i hh1 (by decide) (by decide) fun g2 h2 a2 b2 hh2 => ?_
    simp
    refine draw_i hh2 (by decide) (by decide) fun g3 h3 a3 b3 hh3 => ?_
    simp
    refine draw_i hh3 (by decide) (by decide) fun g4 h4 a4 b4 hh4 => ?_
    rcases (show g4 = 0 ∨ g4 = 1 ∨ g4 = 2 by omega) with rfl | rfl | rfl <;> simp
    · exact key _ _ (by omega) (by omega) hh4
    · exact key _ _ (by omega) (by omega) hh4
    · exact key _ _ (by omega) (by omega) hh4
def sp_tieo : DSp := fun ds P _ => ∃ (k : Str) (ts : List TT) (p q : Nat), ds = [webD k ts, .int (p : Nat), .int (q : Nat)] ∧ ts.length ≤ 100000 ∧ P (opD (tieL ts p q)) [webD k ts, .int (p : Nat), .int (q : Nat)]
theorem tieo_i {k : Str} {ts : List TT} {p q : Nat} {P : D → List D → Prop} {EP : Value → List D → Prop} (hf : ts.length ≤ 100000) (h : P (opD (tieL ts p q)) [webD k ts, .int (p : Nat), .int (q : Nat)]) : sp_tieo [webD k ts, .int (p : Nat), .int (q : Nat)] P EP := ⟨k, ts, p, q, rfl, hf, h⟩
theorem wp_tieo : ∀ ds P EP, sp_tieo ds P EP → (rd_tie_of (sp_kinds_by_places := sp_places)).1 (enD [true, true, true] P) (startE 3 ds) := by
  rintro _ P EP ⟨k, ts, p, q, rfl, hf, h⟩
  simp [rd_tie_of, cal_eq]
  refine ⟨k, ts, rfl, hf, ?_⟩
  have e : frz (.dic .ow .t (kbp ts)) = .dic .fr .t (kbp ts) := by
    show D.dic .fr .t (frzk (kbp ts)) = _
    rw [frzk_str (kvs := kbp ts) (kbp_fz ts [] (by simp))]
  have e2 : look (kbp ts) (K2 p q) = (tieL ts p q).map .str := look_kbp p q ts.length ts rfl
  unfold K2 at e2
  simp [e, oDGet1, e2]
  cases ez : tieL ts p q <;> rw [ez] at h <;> simpa [opD, szl] using h
/-- whether a pair may follow a lead -/
def okL (k k' : Str) (ts ts' : List TT) (l : List (Nat × Nat)) (p : Nat × Nat) : Bool := decide (k.cps.toList[p.1]? = k'.cps.toList[p.2]?) && l.all fun q => decide (q.2 ≠ p.2) && decide (tieL ts q.1 p.1 = tieL ts' q.2 p.2)
def sp_fits84 : DSp := fun ds P _ => ∃ (k : Str) (ts : List TT) (k' : Str) (ts' : List TT) (m : Bool) (l : List (Nat × Nat)) (p : Nat × Nat), ds = [webD k ts, webD k' ts', .lst m (LD l), kD p] ∧ OkV k ts ∧ OkV k' ts' ∧ p.1 < k.length ∧ p.2 < k'.length ∧ l.length ≤ 1000 ∧ P (.bl (okL k k' ts ts' l p)) [webD k ts, webD k' ts', .lst m (LD l), kD p]
theorem fits84_i {k k' : Str} {ts ts' : List TT} {m : Bool} {l : List (Nat × Nat)} {p : Nat × Nat} {P : D → List D → Prop} {EP : Value → List D → Prop} (hw : OkV k ts) (hw' : OkV k' ts') (h1 : p.1 < k.length) (h2 : p.2 < k'.length) (hl : l.length ≤ 1000) (h : P (.bl (okL k k' ts ts' l p)) [webD k ts, webD k' ts', .lst m (LD l), kD p]) : sp_fits84 [webD k ts, webD k' ts', .lst m (LD l), kD p] P EP := ⟨k, ts, k', ts', m, l, p, rfl, hw, hw', h1, h2, hl, h⟩
/-! neighbours of any web whose ties are not too many -/
def neiL (ts : List TT) (n p : Nat) : List Nat := (List.range n).filter fun q => (tieL ts p q).isSome
def sp_neio : DSp := fun ds P _ => ∃ (k : Str) (ts : List TT) (p : Nat), ds = [webD k ts, .int (p : Nat)] ∧ k.length ≤ 100 ∧ ts.length ≤ 100000 ∧ P (.lst true (PL (neiL ts k.length p))) [webD k ts, .int (p : Nat)]
theorem neio_i {k : Str} {ts : List TT} {p : Nat} {P : D → List D → Prop} {EP : Value → List D → Prop} (hk : k.length ≤ 100) (hf : ts.length ≤ 100000) (h : P (.lst true (PL (neiL ts k.length p))) [webD k ts, .int (p : Nat)]) : sp_neio [webD k ts, .int (p : Nat)] P EP := ⟨k, ts, p, rfl, hk, hf, h⟩
theorem neiL_s {ts : List TT} {i p : Nat} {z : Str} (h : tieL ts p i = some z) : neiL ts (i + 1) p = neiL ts i p ++ [i] := by
  simp [neiL, List.range_succ, List.filter_append, h]
theorem neiL_n {ts : List TT} {i p : Nat} (h : tieL ts p i = none) : neiL ts (i + 1) p = neiL ts i p := by
  simp [neiL, List.range_succ, List.filter_append, h]
theorem PL_snoc6 (ps : List Nat) (q : Nat) : PL ps ++ [.int ((q : Nat) : Int)] = PL (ps ++ [q]) := by unfold PL; simp
theorem wp_neio : ∀ ds P EP, sp_neio ds P EP → (rd_neighbours (sp_kinds_by_places := sp_places)).1 (enD [true, true] P) (startE 4 ds) := by
  rintro _ P EP ⟨k, ts, p, rfl, hk, hf, h⟩
  simp [rd_neighbours, cal_eq]
  refine ⟨k, ts, rfl, hf, ?_⟩
  simp
  have ew : ∀ P : D → Prop, oIx (webD k ts) (.int 0) P = P (.str k) := fun P => by simp [webD]
  rw [ew]
  simp [szl]
  refine ⟨by omega, ⟨by omega, by omega⟩, by rw [rngD_len]; omega, ?_⟩
  refine compD_inv (fun i acc ρ => ρ = [some (webD k ts), some (.int (p : Nat)), some (.dic .ow .t (kbp ts)), none] ∧ acc = PL (neiL ts i p)) ⟨rfl, rfl⟩ ?_ ?_
  · rintro i d acc ρ hi ⟨rfl, rfl⟩ rest hrest
    obtain ⟨hi', rfl⟩ := rngD_at0 hi
    have e2 : look (kbp ts) (K2 p i) = (tieL ts p i).map .str := by rw [look_kbp p i ts.length ts rfl]
    unfold K2 at e2
    simp [oDIn, e2, szl]
    rw [PL_snoc6]
    cases ez : tieL ts p i with
    | none => exact hrest _ _ ⟨rfl, by rw [neiL_n ez]⟩
    | some z => exact hrest _ _ ⟨rfl, by rw [neiL_s ez]⟩
  · rintro acc ρ ⟨rfl, rfl⟩
    rw [rngD_len]
    simpa using h
/-! parts of webs: what one tie more or less, one place less does to them -/
theorem nd_sub6 : ∀ {l1 l2 : List Nat}, l1.Nodup → (∀ x ∈ l1, x ∈ l2) → l1.length ≤ l2.length
  | [], _, _, _ => Nat.zero_le _
  | x :: xs, l2, hn, hs => by
    obtain ⟨h1, h2⟩ := List.nodup_cons.mp hn
    have hx := hs x (by simp)
    have := nd_sub6 (l2 := l2.erase x) h2 fun y hy => by
      have hne : y ≠ x := fun e => h1 (e ▸ hy)
      exact (List.mem_erase_of_ne hne).mpr (hs y (by simp [hy]))
    rw [List.length_erase_of_mem hx] at this
    have := List.length_pos_of_mem hx
    simp only [List.length_cons]
    omega
theorem up_nd {l : List Nat} (h : l.Pairwise (· < ·)) : l.Nodup := h.imp fun z => by omega
theorem PartsOk.uniq {E : Nat → Nat → Prop} {n : Nat} {hs hs' : List Nat} {pss pss' : List (List Nat)} (h : PartsOk E n hs pss) (h' : PartsOk E n hs' pss') : hs = hs' ∧ pss = pss' := by
  have e : hs = hs' := sorted_ext2 h.up h'.up fun x => by rw [h.mem, h'.mem]
  refine ⟨e, ?_⟩
  subst e
  refine List.ext_getElem? fun i => ?_
  by_cases hi : i < hs.length
  · have a1 : i < pss.length := by rw [h.len]; exact hi
    have a2 : i < pss'.length := by rw [h'.len]; exact hi
    have b1 := h.all i hs[i] pss[i] (List.getElem?_eq_getElem hi) (List.getElem?_eq_getElem a1)
    have b2 := h'.all i hs[i] pss'[i] (List.getElem?_eq_getElem hi) (List.getElem?_eq_getElem a2)
    rw [List.getElem?_eq_getElem a1, List.getElem?_eq_getElem a2, sorted_ext2 b1.up b2.up fun x => by rw [b1.mem, b2.mem]]
  · rw [List.getElem?_eq_none (by rw [h.len]; omega), List.getElem?_eq_none (by rw [h'.len]; omega)]
theorem Con.iff {E E' : Nat → Nat → Prop} (h : ∀ a b, E a b ↔ E' a b) {p q : Nat} : Con E p q ↔ Con E' p q := ⟨Con.mono fun a b => (h a b).mp, Con.mono fun a b => (h a b).mpr⟩
theorem ComeOk.iff {E E' : Nat → Nat → Prop} (h : ∀ a b, E a b ↔ E' a b) {p : Nat} {ps : List Nat} (c : ComeOk E p ps) : ComeOk E' p ps := ⟨c.up, fun q => by rw [c.mem, Con.iff h]⟩
theorem PartsOk.iff {E E' : Nat → Nat → Prop} (h : ∀ a b, E a b ↔ E' a b) {n : Nat} {hs : List Nat} {pss : List (List Nat)} (c : PartsOk E n hs pss) : PartsOk E' n hs pss :=
  ⟨c.up, fun x => by rw [c.mem]; exact and_congr_right fun _ => forall_congr' fun q => imp_congr_right fun _ => not_congr (Con.iff h), c.len, fun i x ps a b => (c.all i x ps a b).iff h⟩
/-- no ties: each place for itself -/
theorem con_none {p q : Nat} (h : Con (tieE []) p q) : p = q := by
  induction h with
  | rfl => rfl
  | step _ e _ => obtain ⟨t, ht, _⟩ := e; simp at ht
theorem parts_none (n : Nat) : PartsOk (tieE []) n (List.range n) ((List.range n).map fun q => [q]) := by
  refine ⟨List.pairwise_lt_range, fun h => ?_, by simp, fun i h ps h1 h2 => ?_⟩
  · rw [List.mem_range]
    refine ⟨fun z => ⟨z, fun q hq c => ?_⟩, fun z => z.1⟩
    have := con_none c
    omega
  · rw [List.getElem?_map, h1] at h2
    cases h2
    refine ⟨by simp, fun q => ?_⟩
    rw [List.mem_singleton]
    exact ⟨fun e => e ▸ .rfl, fun c => (con_none c).symm⟩
/-- one edge more -/
def edge (E : Nat → Nat → Prop) (a b x y : Nat) : Prop := E x y ∨ (x = a ∧ y = b) ∨ (x = b ∧ y = a)
theorem edge_sym {E : Nat → Nat → Prop} (hs : ∀ a b, E a b → E b a) {a b : Nat} : ∀ x y, edge E a b x y → edge E a b y x := by
  rintro x y (h | h | h)
  · exact .inl (hs _ _ h)
  · exact .inr (.inr ⟨h.2, h.1⟩)
  · exact .inr (.inl ⟨h.2, h.1⟩)
theorem con_edge {E : Nat → Nat → Prop} {a b x y : Nat} : Con (edge E a b) x y ↔ Con E x y ∨ (Con E x a ∧ Con E b y) ∨ (Con E x b ∧ Con E a y) := by
  have up : ∀ {x y}, Con E x y → Con (edge E a b) x y := fun h => h.mono fun _ _ => .inl
  constructor
  · intro h
    induction h with
    | rfl => exact .inl .rfl
    | step _ e ih =>
      rcases e with e | ⟨rfl, rfl⟩ | ⟨rfl, rfl⟩
      · rcases ih with h | ⟨h1, h2⟩ | ⟨h1, h2⟩
        · exact .inl (h.step e)
        · exact .inr (.inl ⟨h1, h2.step e⟩)
        · exact .inr (.inr ⟨h1, h2.step e⟩)
      · rcases ih with h | ⟨h1, h2⟩ | ⟨h1, h2⟩
        · exact .inr (.inl ⟨h, .rfl⟩)
        · exact .inr (.inl ⟨h1, .rfl⟩)
        · exact .inl h1
      · rcases ih with h | ⟨h1, h2⟩ | ⟨h1, h2⟩
        · exact .inr (.inr ⟨h, .rfl⟩)
        · exact .inl h1
        · exact .inr (.inr ⟨h1, .rfl⟩)
  · rintro (h | ⟨h1, h2⟩ | ⟨h1, h2⟩)
    · exact up h
    · exact ((up h1).step (.inr (.inl ⟨rfl, rfl⟩))).trans (up h2)
    · exact ((up h1).step (.inr (.inr ⟨rfl, rfl⟩))).trans (up h2)
/-- a place's least -/
theorem PartsOk.cover {E : Nat → Nat → Prop} {n : Nat} {hs : List Nat} {pss : List (List Nat)} (h : PartsOk E n hs pss) {q : Nat} (hq : q < n) : ∃ (i : Nat) (hi : i < hs.length) (hp : i < pss.length), Con E hs[i] q ∧ q ∈ pss[i] := by
  obtain ⟨x, h1, h2, h3⟩ := con_least E q
  have hx : x ∈ hs := (h.mem x).mpr ⟨by omega, h3⟩
  obtain ⟨i, hi, rfl⟩ := List.mem_iff_getElem.mp hx
  have hp : i < pss.length := by rw [h.len]; exact hi
  exact ⟨i, hi, hp, h2, ((h.all i _ _ (List.getElem?_eq_getElem hi) (List.getElem?_eq_getElem hp)).mem q).mpr h2⟩
theorem PartsOk.at {E : Nat → Nat → Prop} {n : Nat} {hs : List Nat} {pss : List (List Nat)} (h : PartsOk E n hs pss) {i : Nat} (hp : i < pss.length) (hi : i < hs.length) : ComeOk E hs[i] pss[i] := h.all i _ _ (List.getElem?_eq_getElem hi) (List.getElem?_eq_getElem hp)
theorem PartsOk.same {E : Nat → Nat → Prop} (hE : ∀ a b, E a b → E b a) {n : Nat} {hs : List Nat} {pss : List (List Nat)} (h : PartsOk E n hs pss) {x y : Nat} (hx : x ∈ hs) (hy : y ∈ hs) (c : Con E x y) : x = y := by
  rcases Nat.lt_trichotomy x y with z | z | z
  · exact absurd c (((h.mem y).mp hy).2 x z)
  · exact z
  · exact absurd (c.symm hE) (((h.mem x).mp hx).2 y z)
/-- a tie less: as many parts, or one more -/
theorem parts_fewer {E : Nat → Nat → Prop} (hE : ∀ a b, E a b → E b a) {a b n : Nat} {hs hs' : List Nat} {pss pss' : List (List Nat)} (h : PartsOk (edge E a b) n hs pss) (h' : PartsOk E n hs' pss') :
    pss.length ≤ pss'.length ∧ pss'.length ≤ pss.length + 1 := by
  rw [h.len, h'.len]
  have up : ∀ {x y}, Con E x y → Con (edge E a b) x y := fun h => h.mono fun _ _ => .inl
  constructor
  · refine nd_sub6 (up_nd h.up) fun x hx => ?_
    obtain ⟨h1, h2⟩ := (h.mem x).mp hx
    exact (h'.mem x).mpr ⟨h1, fun q hq c => h2 q hq (up c)⟩
  · have key : ∀ x y, x ∈ hs' → y ∈ hs' → x ∉ hs → y ∉ hs → x = y := by
      have one : ∀ x, x ∈ hs' → x ∉ hs → (Con E a x ∧ ∃ q, q < x ∧ Con E b q) ∨ (Con E b x ∧ ∃ q, q < x ∧ Con E a q) := by
        intro x hx hn
        obtain ⟨h1, h2⟩ := (h'.mem x).mp hx
        have : ∃ q, q < x ∧ Con (edge E a b) q x := Classical.byContradiction fun z => hn ((h.mem x).mpr ⟨h1, fun q hq c => z ⟨q, hq, c⟩⟩)
        obtain ⟨q, hq, c⟩ := this
        rcases con_edge.mp c with c | ⟨c1, c2⟩ | ⟨c1, c2⟩
        · exact absurd c (h2 q hq)
        · exact .inr ⟨c2, q, hq, c1.symm hE⟩
        · exact .inl ⟨c2, q, hq, c1.symm hE⟩
      intro x y hx hy nx ny
      rcases one x hx nx with ⟨c1, q, hq, c2⟩ | ⟨c1, q, hq, c2⟩ <;> rcases one y hy ny with ⟨d1, r, hr, d2⟩ | ⟨d1, r, hr, d2⟩
      · exact h'.same hE hx hy ((c1.symm hE).trans d1)
      · -- x by a, y by b; q < x by b; r < y by a
        have z1 : ¬ q < y := fun z => ((h'.mem y).mp hy).2 q z ((c2.symm hE).trans d1)
        have z2 : ¬ r < x := fun z => ((h'.mem x).mp hx).2 r z ((d2.symm hE).trans c1)
        omega
      · have z1 : ¬ q < y := fun z => ((h'.mem y).mp hy).2 q z ((c2.symm hE).trans d1)
        have z2 : ¬ r < x := fun z => ((h'.mem x).mp hx).2 r z ((d2.symm hE).trans c1)
        omega
      · exact h'.same hE hx hy ((c1.symm hE).trans d1)
    by_cases c : ∃ x ∈ hs', x ∉ hs
    · obtain ⟨x, hx, nx⟩ := c
      have := nd_sub6 (l1 := hs'.erase x) (l2 := hs) ((up_nd h'.up).erase x) fun y hy => by
        have h3 := (List.Nodup.mem_erase_iff (up_nd h'.up)).mp hy
        exact Classical.byContradiction fun ny => h3.1 (key y x h3.2 hx ny nx)
      rw [List.length_erase_of_mem hx] at this
      omega
    · have := nd_sub6 (up_nd h'.up) (l2 := hs) fun y hy => Classical.byContradiction fun ny => c ⟨y, hy, ny⟩
      omega
/-- each part of fewer ties lies in one -/
theorem parts_in {E E' : Nat → Nat → Prop} (hE : ∀ a b, E a b → E b a) (hs2 : ∀ x y, E' x y → E x y) {n : Nat} {hs hs' : List Nat} {pss pss' : List (List Nat)} (h : PartsOk E n hs pss) (h' : PartsOk E' n hs' pss') {i : Nat} (hi : i < pss'.length) :
    ∃ hz : 0 < pss'[i].length, pss'[i][0] < n ∧ ∀ (j : Nat) (hj : j < pss.length), pss'[i][0] ∈ pss[j] → ∀ q ∈ pss'[i], q ∈ pss[j] := by
  have hi' : i < hs'.length := by rw [← h'.len]; exact hi
  have c := h'.at hi hi'
  have hm : hs'[i] ∈ pss'[i] := (c.mem _).mpr .rfl
  have hz : 0 < pss'[i].length := List.length_pos_of_mem hm
  have h0 : Con E' hs'[i] pss'[i][0] := (c.mem _).mp (List.getElem_mem hz)
  have hb : hs'[i] < n := ((h'.mem _).mp (List.getElem_mem hi')).1
  have e0 : pss'[i][0] ≤ hs'[i] := by
    obtain ⟨k, hk, ek⟩ := List.mem_iff_getElem.mp hm
    rcases Nat.eq_zero_or_pos k with rfl | hp
    · omega
    · have := List.pairwise_iff_getElem.mp c.up 0 k hz hk hp
      omega
  refine ⟨hz, by omega, fun j hj hm2 q hq => ?_⟩
  have hj' : j < hs.length := by rw [← h.len]; exact hj
  have d := h.at hj hj'
  rw [d.mem] at hm2 ⊢
  exact hm2.trans (((h0.mono hs2).symm hE).trans (((c.mem q).mp hq).mono hs2))
/-- a tie from the first part to the last -/
theorem parts_more {E : Nat → Nat → Prop} (hE : ∀ a b, E a b → E b a) {n a b : Nat} {hs : List Nat} {pss : List (List Nat)} (h : PartsOk E n hs pss) (h2 : 1 < pss.length)
    (ha : a ∈ pss[0]'(by omega)) (hb : b ∈ pss[pss.length - 1]'(by omega)) :
    PartsOk (edge E a b) n hs.dropLast (sortN (pss[0]'(by omega) ++ pss[pss.length - 1]'(by omega)) :: (pss.drop 1).dropLast) := by
  have hl : hs.length = pss.length := h.len.symm
  have c0 := h.at (i := 0) (by omega) (by omega)
  have c1 := h.at (i := pss.length - 1) (by omega) (by omega)
  have a0 := (c0.mem a).mp ha
  have b0 := (c1.mem b).mp hb
  have up : ∀ {x y}, Con E x y → Con (edge E a b) x y := fun h => h.mono fun _ _ => .inl
  have hlast : ∀ x ∈ hs, x ∉ hs.dropLast → x = hs[pss.length - 1]'(by omega) := by
    intro x hx hn
    obtain ⟨i, hi, rfl⟩ := List.mem_iff_getElem.mp hx
    by_cases c : i < hs.length - 1
    · exact absurd (List.mem_iff_getElem.mpr ⟨i, by rw [List.length_dropLast]; omega, by rw [List.getElem_dropLast]⟩) hn
    · have : i = pss.length - 1 := by omega
      subst this
      rfl
  have hlt : ∀ i, (hi : i < hs.length) → (hj : i < pss.length - 1) → hs[i] < hs[pss.length - 1]'(by omega) := fun i hi hj => List.pairwise_iff_getElem.mp h.up i (pss.length - 1) hi (by omega) hj
  have h01 : hs[0]'(by omega) < hs[pss.length - 1]'(by omega) := hlt 0 (by omega) (by omega)
  have hne0 : ∀ (x : Nat), x ∈ hs → Con E a x → x = hs[0]'(by omega) := fun x hx c => h.same hE hx (List.getElem_mem (by omega)) ((a0.trans c).symm hE)
  have hne1 : ∀ (x : Nat), x ∈ hs → Con E b x → x = hs[pss.length - 1]'(by omega) := fun x hx c => h.same hE hx (List.getElem_mem (by omega)) ((b0.trans c).symm hE)
  refine ⟨List.Pairwise.sublist (List.dropLast_sublist _) h.up, fun x => ?_, ?_, ?_⟩
  · constructor
    · intro hx
      obtain ⟨i, hi, ex⟩ := List.mem_iff_getElem.mp hx
      rw [List.getElem_dropLast] at ex
      rw [List.length_dropLast] at hi
      have hx' : x ∈ hs := (List.dropLast_sublist _).subset hx
      obtain ⟨d1, d2⟩ := (h.mem x).mp hx'
      refine ⟨d1, fun q hq c => ?_⟩
      have hxl : x < hs[pss.length - 1]'(by omega) := by rw [← ex]; exact hlt i (by omega) (by omega)
      rcases con_edge.mp c with c | ⟨c1, c2⟩ | ⟨c1, c2⟩
      · exact d2 q hq c
      · have := hne1 x hx' c2
        omega
      · have e0 := hne0 x hx' c2
        -- q < hs0, q con b
        have : Con E q (hs[pss.length - 1]'(by omega)) := c1.trans (b0.symm hE)
        exact ((h.mem _).mp (List.getElem_mem (by omega : pss.length - 1 < hs.length))).2 q (by omega) this
    · rintro ⟨d1, d2⟩
      have hx : x ∈ hs := (h.mem x).mpr ⟨d1, fun q hq c => d2 q hq (up c)⟩
      refine Classical.byContradiction fun hn => ?_
      have e := hlast x hx hn
      refine d2 (hs[0]'(by omega)) (by omega) (con_edge.mpr (.inr (.inl ⟨a0, ?_⟩)))
      rw [e]
      exact b0.symm hE
  · simp; omega
  · intro i x ps e1 e2
    have hi : i < hs.dropLast.length := by
      refine Classical.byContradiction fun z => ?_
      rw [List.getElem?_eq_none (by omega)] at e1; cases e1
    have hi2 : i < hs.length - 1 := by rw [List.length_dropLast] at hi; exact hi
    rw [List.getElem?_eq_getElem hi, List.getElem_dropLast] at e1
    cases e1
    cases i with
    | zero =>
      cases e2
      refine ⟨sortN_lt ?_, fun q => ?_⟩
      · rw [List.nodup_append]
        refine ⟨up_nd c0.up, up_nd c1.up, fun x hx y hy e => ?_⟩
        subst e
        have := h.same hE (List.getElem_mem (by omega : 0 < hs.length)) (List.getElem_mem (by omega : pss.length - 1 < hs.length)) (((c0.mem x).mp hx).trans (((c1.mem x).mp hy).symm hE))
        omega
      · rw [(sortN_perm _).mem_iff, List.mem_append, c0.mem, c1.mem, con_edge]
        constructor
        · rintro (c | c)
          · exact .inl c
          · exact .inr (.inl ⟨a0, (b0.symm hE).trans c⟩)
        · rintro (c | ⟨d1, d2⟩ | ⟨d1, d2⟩)
          · exact .inl c
          · exact .inr (b0.trans d2)
          · exact .inl (a0.trans d2)
    | succ j =>
      have e3 : ps = pss[j + 1]'(by omega) := by
        rw [List.getElem?_cons_succ, List.getElem?_eq_getElem (by simp; omega), List.getElem_dropLast, List.getElem_drop] at e2
        cases e2
        congr 1
        omega
      subst e3
      have c := h.at (i := j + 1) (by omega) (by omega)
      refine ⟨c.up, fun q => ?_⟩
      rw [c.mem, con_edge]
      constructor
      · exact .inl
      · rintro (c | ⟨d1, d2⟩ | ⟨d1, d2⟩)
        · exact c
        · have e0 := hne0 _ (List.getElem_mem (by omega : j + 1 < hs.length)) (d1.symm hE)
          have := List.pairwise_iff_getElem.mp h.up 0 (j + 1) (by omega) (by omega) (by omega)
          omega
        · have e0 := hne1 _ (List.getElem_mem (by omega : j + 1 < hs.length)) (d1.symm hE)
          have := hlt (j + 1) (by omega) (by omega)
          omega
/-- places left out: the parts that the place is not in are parts of the rest -/
theorem parts_left {E E2 : Nat → Nat → Prop} (hE : ∀ a b, E a b → E b a) {n p : Nat} {e : List Nat} (hbnd : ∀ x y, E x y → y < n) (he : e.Pairwise (· < ·)) (hm : ∀ q, q ∈ e ↔ q < n ∧ q ≠ p)
    (h2 : ∀ i j, E2 i j ↔ i < e.length ∧ j < e.length ∧ E (e.getD i 0) (e.getD j 0)) {hs hs2 : List Nat} {pss pss2 : List (List Nat)} (h : PartsOk E n hs pss) (g : PartsOk E2 e.length hs2 pss2)
    (h0 : 0 < pss.length) (hp : p ∈ pss[0]) (i : Nat) (hi : i < pss.length) (ip : 0 < i) : pss[i] ∈ pss2.map fun part => part.map fun x => e.getD x 0 := by
  have hi' : i < hs.length := by rw [← h.len]; exact hi
  have h0' : 0 < hs.length := by omega
  have c0 := h.at h0 h0'
  have c := h.at hi hi'
  have hlt : hs[0] < hs[i] := List.pairwise_iff_getElem.mp h.up 0 i h0' hi' ip
  obtain ⟨m1, m2⟩ := (h.mem hs[i]).mp (List.getElem_mem hi')
  have hnp : ∀ q, Con E hs[i] q → q ≠ p := by
    rintro q hq rfl
    exact m2 hs[0] hlt (((c0.mem q).mp hp).trans (hq.symm hE))
  have hb : ∀ q, Con E hs[i] q → q < n := fun q hq => by
    cases hq with
    | rfl => exact m1
    | step _ z => exact hbnd _ _ z
  have name : ∀ q, Con E hs[i] q → ∃ x, x < e.length ∧ e.getD x 0 = q := fun q hq => by
    obtain ⟨x, hx, ex⟩ := List.mem_iff_getElem.mp ((hm q).mpr ⟨hb q hq, hnp q hq⟩)
    exact ⟨x, hx, by rw [getD_lt hx]; exact ex⟩
  have lt_of : ∀ {x y}, x < e.length → y < e.length → x < y → e.getD x 0 < e.getD y 0 := fun {x y} hx hy z => by
    rw [getD_lt hx, getD_lt hy]; exact List.pairwise_iff_getElem.mp he x y hx hy z
  have inj : ∀ {x y}, x < e.length → y < e.length → e.getD x 0 = e.getD y 0 → x = y := fun {x y} hx hy z => by
    rcases Nat.lt_trichotomy x y with q | q | q
    · have := lt_of hx hy q; omega
    · exact q
    · have := lt_of hy hx q; omega
  have down : ∀ {x y}, Con E2 x y → Con E (e.getD x 0) (e.getD y 0) := fun {x y} z => by
    induction z with
    | rfl => exact .rfl
    | step _ z ih => exact ih.step ((h2 _ _).mp z).2.2
  obtain ⟨x, hx, ex⟩ := name hs[i] .rfl
  have lift : ∀ q, Con E hs[i] q → ∃ y, y < e.length ∧ e.getD y 0 = q ∧ Con E2 x y := fun q hq => by
    induction hq with
    | rfl => exact ⟨x, hx, ex, .rfl⟩
    | step z s ih =>
      obtain ⟨y, hy, ey, cy⟩ := ih
      obtain ⟨w, hw, ew⟩ := name _ (z.step s)
      exact ⟨w, hw, ew, cy.step ((h2 _ _).mpr ⟨hy, hw, by rw [ey, ew]; exact s⟩)⟩
  have hxs : x ∈ hs2 := (g.mem x).mpr ⟨hx, fun q hq z => by
    have := lt_of (by omega) hx hq
    rw [ex] at this
    have d := down z
    rw [ex] at d
    exact m2 _ this d⟩
  obtain ⟨j, hj, ej⟩ := List.mem_iff_getElem.mp hxs
  have hj2 : j < pss2.length := by rw [g.len]; exact hj
  refine List.mem_map.mpr ⟨pss2[j], List.getElem_mem hj2, ?_⟩
  have d := g.at hj2 hj
  have hlen : ∀ y ∈ pss2[j], y < e.length := fun y hy => by
    have := (d.mem y).mp hy
    cases this with
    | rfl => rw [ej]; exact hx
    | step _ z => exact ((h2 _ _).mp z).2.1
  refine sorted_ext2 ?_ c.up fun q => ?_
  · rw [List.pairwise_map]
    exact d.up.imp_of_mem fun {y z} hy hz w => lt_of (hlen y hy) (hlen z hz) w
  · rw [List.mem_map, c.mem]
    constructor
    · rintro ⟨y, hy, rfl⟩
      have := down ((d.mem y).mp hy)
      rw [ej, ex] at this
      exact this
    · intro hq
      obtain ⟨y, hy, ey, cy⟩ := lift q hq
      exact ⟨y, (d.mem y).mpr (by rw [ej]; exact cy), ey⟩
/-! cuts of cuts -/
theorem cutT_mem6 {ts : List TT} {e : List Nat} (h : e.Pairwise (· < ·)) {t : TT} : t ∈ cutT ts e.zipIdx ↔ ∃ u ∈ ts, t.1 < e.length ∧ t.2.1 < e.length ∧ e.getD t.1 0 = u.1 ∧ e.getD t.2.1 0 = u.2.1 ∧ t.2.2 = u.2.2 := by
  unfold cutT
  rw [List.mem_filterMap]
  constructor
  · rintro ⟨u, hu, e1⟩
    cases ea : nameF e.zipIdx u.1 with
    | none => rw [ea] at e1; simp at e1
    | some a => cases eb : nameF e.zipIdx u.2.1 with
      | none => rw [ea, eb] at e1; simp at e1
      | some b =>
        rw [ea, eb] at e1
        simp at e1
        subst e1
        obtain ⟨a1, a2⟩ := (nameF_zip h).mp ea
        obtain ⟨b1, b2⟩ := (nameF_zip h).mp eb
        exact ⟨u, hu, a1, b1, a2, b2, rfl⟩
  · rintro ⟨u, hu, a1, b1, a2, b2, e3⟩
    refine ⟨u, hu, ?_⟩
    rw [(nameF_zip h).mpr ⟨a1, a2⟩, (nameF_zip h).mpr ⟨b1, b2⟩]
    show some (t.1, t.2.1, u.2.2) = some t
    rw [← e3]
theorem tieE_cut {ts : List TT} {e : List Nat} (h : e.Pairwise (· < ·)) (i j : Nat) : tieE (cutT ts e.zipIdx) i j ↔ i < e.length ∧ j < e.length ∧ tieE ts (e.getD i 0) (e.getD j 0) := by
  constructor
  · rintro ⟨t, ht, hm⟩
    obtain ⟨u, hu, a1, b1, a2, b2, _⟩ := (cutT_mem6 h).mp ht
    rcases hm with ⟨rfl, rfl⟩ | ⟨rfl, rfl⟩
    · exact ⟨a1, b1, u, hu, .inl ⟨a2.symm, b2.symm⟩⟩
    · exact ⟨b1, a1, u, hu, .inr ⟨a2.symm, b2.symm⟩⟩
  · rintro ⟨hi, hj, u, hu, hm⟩
    rcases hm with ⟨x, y⟩ | ⟨x, y⟩
    · exact ⟨(i, j, u.2.2), (cutT_mem6 h).mpr ⟨u, hu, hi, hj, x.symm, y.symm, rfl⟩, .inl ⟨rfl, rfl⟩⟩
    · exact ⟨(j, i, u.2.2), (cutT_mem6 h).mpr ⟨u, hu, hj, hi, x.symm, y.symm, rfl⟩, .inr ⟨rfl, rfl⟩⟩
theorem name_none {e : List Nat} (h : e.Pairwise (· < ·)) {p : Nat} (z : nameF e.zipIdx p = none) : ∀ i, i < e.length → e.getD i 0 ≠ p := fun i hi q => by
  have := (nameF_zip h).mpr ⟨hi, q⟩
  rw [z] at this; cases this
def cut1 (e : List Nat) (t : TT) : Option TT := match nameF e.zipIdx t.1, nameF e.zipIdx t.2.1 with
  | some a, some b => some (a, b, t.2.2)
  | _, _ => none
theorem cutT_1 (ts : List TT) (e : List Nat) : cutT ts e.zipIdx = ts.filterMap (cut1 e) := rfl
theorem find_cut {e : List Nat} (h : e.Pairwise (· < ·)) {i j : Nat} (hi : i < e.length) (hj : j < e.length) : ∀ us : List TT, ((us.filterMap (cut1 e)).find? (mt i j)).map (fun t => t.2.2) = (us.find? (mt (e.getD i 0) (e.getD j 0))).map fun t => t.2.2
  | [] => rfl
  | u :: us => by
    have inj : ∀ {x y}, x < e.length → y < e.length → e.getD x 0 = e.getD y 0 → x = y := fun {x y} hx hy z => getD_inj (up_nd h) hx hy z
    have ih := find_cut h hi hj us
    rw [List.filterMap_cons, List.find?_cons]
    unfold cut1
    cases ea : nameF e.zipIdx u.1 with
    | none =>
      have : mt (e.getD i 0) (e.getD j 0) u = false := by
        have z := name_none h ea
        have := z i hi
        have := z j hj
        unfold mt
        simp only [decide_eq_false_iff_not]
        omega
      rw [this]
      exact ih
    | some a => cases eb : nameF e.zipIdx u.2.1 with
      | none =>
        have : mt (e.getD i 0) (e.getD j 0) u = false := by
          have z := name_none h eb
          have := z i hi
          have := z j hj
          unfold mt
          simp only [decide_eq_false_iff_not]
          omega
        rw [this]
        exact ih
      | some b =>
        obtain ⟨a1, a2⟩ := (nameF_zip h).mp ea
        obtain ⟨b1, b2⟩ := (nameF_zip h).mp eb
        have : mt (e.getD i 0) (e.getD j 0) u = mt i j (a, b, u.2.2) := by
          unfold mt
          rw [← a2, ← b2, decide_eq_decide]
          constructor
          · rintro (⟨x, y⟩ | ⟨x, y⟩)
            · exact .inl ⟨inj a1 hi x, inj b1 hj y⟩
            · exact .inr ⟨inj a1 hj x, inj b1 hi y⟩
          · rintro (⟨x, y⟩ | ⟨x, y⟩)
            · exact .inl ⟨by rw [← x], by rw [← y]⟩
            · exact .inr ⟨by rw [← x], by rw [← y]⟩
        rw [this]
        show ((((a, b, u.2.2) : TT) :: us.filterMap (cut1 e)).find? (mt i j)).map _ = _
        rw [List.find?_cons]
        cases mt i j (a, b, u.2.2) with
        | true => rfl
        | false => exact ih
theorem tieL_cut {ts : List TT} {e : List Nat} (h : e.Pairwise (· < ·)) {i j : Nat} (hi : i < e.length) (hj : j < e.length) : tieL (cutT ts e.zipIdx) i j = tieL ts (e.getD i 0) (e.getD j 0) := by
  unfold tieL
  rw [cutT_1, ← List.filterMap_reverse]
  exact find_cut h hi hj _
theorem name_comp {e l : List Nat} (he : e.Pairwise (· < ·)) (hl : l.Pairwise (· < ·)) (hb : ∀ i ∈ l, i < e.length) (hm : (l.map fun i => e.getD i 0).Pairwise (· < ·)) (p : Nat) :
    nameF (l.map fun i => e.getD i 0).zipIdx p = (nameF e.zipIdx p).bind fun a => nameF l.zipIdx a := by
  refine Option.ext fun x => ?_
  rw [nameF_zip hm, List.length_map]
  have eD : ∀ x, x < l.length → (l.map fun i => e.getD i 0).getD x 0 = e.getD (l.getD x 0) 0 := fun x hx => by
    rw [getD_lt (by rw [List.length_map]; exact hx), List.getElem_map, getD_lt hx]
  have hbx : ∀ x, x < l.length → l.getD x 0 < e.length := fun x hx => by rw [getD_lt hx]; exact hb _ (List.getElem_mem hx)
  constructor
  · rintro ⟨hx, ex⟩
    rw [eD x hx] at ex
    rw [(nameF_zip he).mpr ⟨hbx x hx, ex⟩]
    exact (nameF_zip hl).mpr ⟨hx, rfl⟩
  · intro z
    cases ea : nameF e.zipIdx p with
    | none => rw [ea] at z; cases z
    | some a =>
      rw [ea] at z
      obtain ⟨hx, ex⟩ := (nameF_zip hl).mp z
      obtain ⟨_, e2⟩ := (nameF_zip he).mp ea
      exact ⟨hx, by rw [eD x hx, ex, e2]⟩
theorem map_up {e l : List Nat} (he : e.Pairwise (· < ·)) (hl : l.Pairwise (· < ·)) (hb : ∀ i ∈ l, i < e.length) : (l.map fun i => e.getD i 0).Pairwise (· < ·) := by
  rw [List.pairwise_map]
  refine hl.imp_of_mem fun {x y} hx hy z => ?_
  rw [getD_lt (hb x hx), getD_lt (hb y hy)]
  exact List.pairwise_iff_getElem.mp he x y (hb x hx) (hb y hy) z
theorem cutT_comp {ts : List TT} {e l : List Nat} (he : e.Pairwise (· < ·)) (hl : l.Pairwise (· < ·)) (hb : ∀ i ∈ l, i < e.length) : cutT (cutT ts e.zipIdx) l.zipIdx = cutT ts (l.map fun i => e.getD i 0).zipIdx := by
  rw [cutT_1, cutT_1, cutT_1, List.filterMap_filterMap]
  congr 1
  funext u
  unfold cut1
  rw [name_comp he hl hb (map_up he hl hb), name_comp he hl hb (map_up he hl hb)]
  cases nameF e.zipIdx u.1 with
  | none => rfl
  | some a => cases nameF e.zipIdx u.2.1 with
    | none =>
      show none = _
      simp only [Option.bind_some, Option.bind_none]
      cases nameF l.zipIdx a <;> rfl
    | some b => rfl
theorem cutK_comp {k : Str} {e l : List Nat} (hk : ∀ q ∈ e, q < k.length) (hb : ∀ i ∈ l, i < e.length) : cutK (cutK k e) l = cutK k (l.map fun i => e.getD i 0) := by
  have h1 : ∀ e : List Nat, (∀ q ∈ e, q < k.length) → (e.filterMap fun q => k.cps.toList[q]?) = e.map fun q => k.cps.toList.getD q 0 := by
    intro e
    induction e with
    | nil => intro _; rfl
    | cons q e ih =>
      intro h
      have hq : q < k.cps.toList.length := by rw [cps_len]; exact h q (by simp)
      rw [List.filterMap_cons, List.getElem?_eq_getElem hq]
      simp only [List.map_cons]
      rw [ih fun p hp => h p (by simp [hp]), List.getD_eq_getElem?_getD, List.getElem?_eq_getElem hq]
      rfl
  have h2 : (cutK k e).cps.toList = e.map fun q => k.cps.toList.getD q 0 := by
    show (e.filterMap fun q => k.cps.toList[q]?).toArray.toList = _
    rw [List.toList_toArray, h1 e hk]
  have h3 : (l.filterMap fun q => (cutK k e).cps.toList[q]?) = (l.map fun i => e.getD i 0).filterMap fun q => k.cps.toList[q]? := by
    rw [h1 _ (fun q hq => by
      obtain ⟨i, hi, rfl⟩ := List.mem_map.mp hq
      rw [getD_lt (hb i hi)]
      exact hk _ (List.getElem_mem (hb i hi))), List.map_map, h2]
    clear hk h2
    induction l with
    | nil => rfl
    | cons i l ih =>
      have hi := hb i (by simp)
      rw [List.filterMap_cons, List.getElem?_map, List.getElem?_eq_getElem hi]
      simp only [Option.map_some, List.map_cons, Function.comp]
      rw [ih fun j hj => hb j (by simp [hj]), getD_lt hi]
  show (⟨(l.filterMap fun q => (cutK k e).cps.toList[q]?).toArray⟩ : Str) = ⟨((l.map fun i => e.getD i 0).filterMap fun q => k.cps.toList[q]?).toArray⟩
  rw [h3]
theorem sortN_self {l : List Nat} (h : l.Pairwise (· < ·)) : sortN l = l := sorted_ext2 (sortN_lt (up_nd h)) h fun x => (sortN_perm l).mem_iff
theorem sortN_rev6 {l : List Nat} (h : l.Pairwise (· < ·)) : sortN l.reverse = l := sorted_ext2 (sortN_lt ((List.reverse_perm l).nodup_iff.mpr (up_nd h))) h fun x => by rw [(sortN_perm _).mem_iff, List.mem_reverse]
theorem tieL_lt {k : Str} {ts : List TT} (h : ∀ t ∈ ts, t.1 < k.length ∧ t.2.1 < k.length) {p q : Nat} (z : (tieL ts p q).isSome = true) : q < k.length := by
  unfold tieL at z
  cases e : ts.reverse.find? (mt p q) with
  | none => rw [e] at z; cases z
  | some t =>
    have h1 := List.mem_reverse.mp (List.mem_of_find?_eq_some e)
    have h2 := List.find?_some e
    have h3 := h t h1
    unfold mt at h2
    simp only [decide_eq_true_eq] at h2
    omega
/-- a place's neighbours in the cut -/
theorem nei_cut {k : Str} {ts : List TT} {e : List Nat} (he : e.Pairwise (· < ·)) (hk : ∀ q ∈ e, q < k.length) {i : Nat} (hi : i < e.length) :
    ((neiL (cutT ts e.zipIdx) e.length i).map fun x => e.getD x 0) = (neiL ts k.length (e.getD i 0)).filter fun q => decide (q ∈ e) := by
  unfold neiL
  refine sorted_ext2 (map_up he (List.Pairwise.filter _ List.pairwise_lt_range) fun j hj => List.mem_range.mp (List.mem_filter.mp hj).1) (List.Pairwise.filter _ (List.Pairwise.filter _ List.pairwise_lt_range)) fun x => ?_
  simp only [List.mem_map, List.mem_filter, List.mem_range, decide_eq_true_eq]
  constructor
  · rintro ⟨j, ⟨hj, z⟩, rfl⟩
    rw [tieL_cut he hi hj] at z
    have hm : e.getD j 0 ∈ e := by rw [getD_lt hj]; exact List.getElem_mem hj
    exact ⟨⟨hk _ hm, z⟩, hm⟩
  · rintro ⟨⟨h1, z⟩, hm⟩
    obtain ⟨j, hj, rfl⟩ := List.mem_iff_getElem.mp hm
    refine ⟨j, ⟨hj, ?_⟩, getD_lt hj⟩
    rw [tieL_cut he hi hj, getD_lt hj]
    exact z
theorem any_PL6 (l : List Nat) (s : Nat) : ((PL l).any fun z => deq z (.int (s : Nat))) = decide (s ∈ l) := by
  unfold PL
  rw [List.any_map, Bool.eq_iff_iff, List.any_eq_true, decide_eq_true_eq]
  constructor
  · rintro ⟨x, hx, e⟩
    have : (x : Int) = (s : Int) := by simpa using e
    have : x = s := by omega
    exact this ▸ hx
  · intro h
    exact ⟨s, h, by simp⟩
theorem PL_reverse (l : List Nat) : (PL l).reverse = PL l.reverse := by unfold PL; rw [List.map_reverse]
theorem web_ok {k : Str} {ts : List TT} (hk : ∀ c ∈ k.cps.toList, c < 128) (ht : ∀ t ∈ ts, ZOk t.2.2) : pyOk 64 (webD k ts) = true := by
  have h1 : PySem.PyData.strOk k = true := by
    unfold PySem.PyData.strOk
    rw [Array.all_eq_true]
    intro i hi
    have := hk k.cps[i] (by simp)
    simp
    omega
  have h2 : pyOks 62 (ts.map tieD) = true := pyOks_all fun x hx => by
    obtain ⟨t, ht', rfl⟩ := List.mem_map.mp hx
    have := (ht t ht').1
    show pyOks 61 [.int _, .int _, .str t.2.2] = true
    simp
    exact this
  show pyOks 63 [.str k, .tup (ts.map tieD)] = true
  simp
  exact ⟨h1, h2⟩
def gd6 (e : List Nat) (x : Nat) : Nat := e.getD x 0
theorem gd6_lt {e : List Nat} {i : Nat} (h : i < e.length) : gd6 e i = e[i] := getD_lt h
theorem pyOks_NR {n : Nat} (b : Bool) (rs : List (List Nat)) : pyOks (n + 1) (NR b rs) = true := pyOks_all fun x hx => by
  unfold NR at hx
  obtain ⟨r, _, rfl⟩ := List.mem_map.mp hx
  show pyOks n (PL r) = true
  exact pyOks_PL _
theorem toPys_NR (b : Bool) : ∀ rs : List (List Nat), toPys (NR b rs) = toPys (NR false rs)
  | [] => rfl
  | r :: rs => by show toPys (.lst b (PL r) :: NR b rs) = toPys (.lst false (PL r) :: NR false rs); simp [toPys_NR b rs, toPys, toPy]
theorem deq_NR (m m' b b' : Bool) (rs : List (List Nat)) : deq (.lst m (NR b rs)) (.lst m' (NR b' rs)) = true := by
  have h := deq_refl (d := .lst false (NR false rs)) (by show pyOks 63 (NR false rs) = true; exact pyOks_NR _ _)
  have e : ∀ m b, toPy (.lst m (NR b rs)) = toPy (.lst false (NR false rs)) := fun m b => by
    simp only [toPy, toPys_NR b rs]
  unfold deq at h ⊢
  rw [e m b, e m' b']
  exact h
def OkC6 (k : Str) (ts : List TT) : Prop := OkV k ts ∧ k.length ≤ 60 ∧ ts.length ≤ 10000 ∧ ∀ t ∈ ts, t.1 < k.length ∧ t.2.1 < k.length
def sp_cright : DSp := fun ds P _ => ∃ (h : D) (k : Str) (ts : List TT), ds = [h, webD k ts] ∧ isHand h ∧ OkC6 k ts ∧ ∀ h', isHand h' → P (.bl true) [h', webD k ts]
theorem wp_cright : ∀ ds P EP, sp_cright ds P EP → (rd__law_cuts_right (sp_cut := sp_cut) (sp_parts := sp_parts) (sp__law_draw := sp_draw) (sp_neighbours := sp_neio) (sp_tie_of := sp_tieo)).1 (enD [true, true] P) (startE 11 ds) := by
  rintro _ P EP ⟨h0, k, ts, rfl, hh0, hw, h⟩
  obtain ⟨hv, hk, hf, hb⟩ := hw
  have ix0 : ∀ P : D → Prop, oIx (webD k ts) (.int 0) P = P (.str k) := fun P => by simp [webD]
  unfold rd__law_cuts_right
  simp [cal_eq]
  refine seqW_go fun K1 e1 r1 => ?_
  simp [ix0, szl]
  refine ⟨by omega, ?_⟩
  rw [e1]
  refine seqW_go fun K2 e2 r2 => ?_
  simp
  refine ⟨by unfold small62; omega, by simp [rngD_len, szl]; omega, ?_⟩
  refine compD_inv (fun i acc ρ => ∃ (h' : D) (some_ : List Nat), ρ = [some h', some (webD k ts), some (.int ((k.length : Nat) : Int)), none, none, none, none, none, none, none, none] ∧ isHand h' ∧ acc = PL some_ ∧ some_.Pairwise (· < ·) ∧ (∀ q ∈ some_, q < i)) ⟨h0, [], rfl, hh0, rfl, .nil, by simp⟩ ?_ ?_
  · rintro i d acc ρ hi ⟨h1, ss, rfl, hh1, rfl, hup, hlt⟩ rest hrest
    obtain ⟨hi', rfl⟩ := rngD_at0 hi
    simp
    refine draw_i hh1 (by decide) (by decide) fun g h2 g0 g1 hh2 => ?_
    simp
    split
    · refine hrest _ _ ⟨h2, ss ++ [i], rfl, hh2, by rw [PL_snoc], ?_, ?_⟩
      · rw [List.pairwise_append]
        exact ⟨hup, List.pairwise_singleton _ _, fun x hx y hy => by rw [List.mem_singleton.mp hy]; exact hlt x hx⟩
      · intro q hq
        rcases List.mem_append.mp hq with hq | hq
        · have := hlt q hq; omega
        · rw [List.mem_singleton.mp hq]; omega
    · exact hrest _ _ ⟨h2, ss, rfl, hh2, rfl, hup, fun q hq => by have := hlt q hq; omega⟩
  rintro acc ρ ⟨h1, e, rfl, hh1, rfl, he, hlt⟩
  rw [rngD_len] at hlt
  have hel : e.length ≤ k.length := nd_len (up_nd he) hlt
  simp
  rw [e2]
  refine seqW_go fun K3 e3 r3 => ?_
  simp [szl]
  refine ⟨by unfold small62; omega, by rw [rngD_len]; omega, ?_⟩
  refine compD_inv (fun i acc ρ => ∃ (h' : D) (less : List Nat), ρ = [some h', some (webD k ts), some (.int ((k.length : Nat) : Int)), some (.lst true (PL e)), none, none, none, none, none, none, none] ∧ isHand h' ∧ acc = PL less ∧ less.Pairwise (· < ·) ∧ (∀ q ∈ less, q < i)) ⟨h1, [], rfl, hh1, rfl, .nil, by simp⟩ ?_ ?_
  · rintro i d acc ρ hi ⟨h1, ss, rfl, hh1, rfl, hup, hlt2⟩ rest hrest
    obtain ⟨hi', rfl⟩ := rngD_at0 hi
    simp
    refine draw_i hh1 (by decide) (by decide) fun g h2 g0 g1 hh2 => ?_
    simp
    split
    · refine hrest _ _ ⟨h2, ss ++ [i], rfl, hh2, by rw [PL_snoc], ?_, ?_⟩
      · rw [List.pairwise_append]
        exact ⟨hup, List.pairwise_singleton _ _, fun x hx y hy => by rw [List.mem_singleton.mp hy]; exact hlt2 x hx⟩
      · intro q hq
        rcases List.mem_append.mp hq with hq | hq
        · have := hlt2 q hq; omega
        · rw [List.mem_singleton.mp hq]; omega
    · exact hrest _ _ ⟨h2, ss, rfl, hh2, rfl, hup, fun q hq => by have := hlt2 q hq; omega⟩
  clear hh1 h1
  rintro acc ρ ⟨h1, l, rfl, hh1, rfl, hl, hlb⟩
  rw [rngD_len] at hlb
  simp
  rw [e3]
  -- the first cut
  refine seqW_go fun K4 e4 r4 => ?_
  simp
  refine cut_i (by omega) (by omega) (up_nd he) hlt ?_
  rw [sortN_self he]
  simp
  rw [e4]
  have hK1 : (cutK k e).length = e.length := cutK_len hlt
  have hfe : (cutT ts e.zipIdx).length ≤ ts.length := List.length_filterMap_le _ _
  -- the cut of the cut
  refine seqW_go fun K5 e5 r5 => ?_
  simp
  simp [lstD, PL_reverse]
  refine cut_i (by rw [hK1]; omega) (by omega) ((List.reverse_perm l).nodup_iff.mpr (up_nd hl)) (fun q hq => by rw [hK1]; exact hlb q (List.mem_reverse.mp hq)) ?_
  have hcK : cutK (cutK k e) l = cutK k (l.map (gd6 e)) := cutK_comp hlt hlb
  have hcT : cutT (cutT ts e.zipIdx) l.zipIdx = cutT ts (l.map (gd6 e)).zipIdx := cutT_comp he hl hlb
  have hmu : (l.map (gd6 e)).Pairwise (· < ·) := map_up he hl hlb
  have hmb : ∀ q ∈ l.map (gd6 e), q < k.length := fun q hq => by
    obtain ⟨i, hi, rfl⟩ := List.mem_map.mp hq
    rw [gd6_lt (hlb i hi)]
    exact hlt _ (List.getElem_mem _)
  rw [sortN_rev6 hl, hcK, hcT]
  simp
  have hll : l.length ≤ e.length := nd_len (up_nd hl) hlb
  have hwk : pyOk 64 (webD (cutK k (l.map (gd6 e))) (cutT ts (l.map (gd6 e)).zipIdx)) = true := web_ok (fun c hc => hv.asc c (cutK_mem hc)) fun t ht => by
    obtain ⟨u, hu, _, _, _, _, e5⟩ := (cutT_mem6 hmu).mp ht
    rw [e5]; exact (hv.ok u hu).2
  refine ⟨by simp [szl]; omega, ?_⟩
  refine compD_inv (fun i acc ρ => ρ = [some h1, some (webD k ts), some (.int ((k.length : Nat) : Int)), some (.lst true (PL e)), some (.lst false (PL l)), some (webD (cutK k e) (cutT ts e.zipIdx)), none, none, none, none, none] ∧ acc = PL ((l.map (gd6 e)).take i)) ⟨rfl, rfl⟩ ?_ ?_
  · rintro i d acc ρ hi ⟨rfl, rfl⟩ rest hrest
    have hil : i < l.length := Classical.byContradiction fun z => by rw [List.getElem?_eq_none (by rw [PL_len]; omega)] at hi; cases hi
    rw [PL_get, List.getElem?_eq_getElem hil] at hi
    cases hi
    have hie := hlb _ (List.getElem_mem hil)
    simp [szl]
    rw [at_PL hie]
    simp
    rw [← gd6_lt hie, PL_snoc]
    refine hrest _ _ ⟨rfl, ?_⟩
    rw [List.take_succ_eq_append_getElem (by rw [List.length_map]; exact hil), List.getElem_map]
  rintro acc ρ ⟨rfl, rfl⟩
  rw [PL_len, show l.length = (l.map (gd6 e)).length by rw [List.length_map], List.take_length]
  simp
  refine cut_i (by omega) (by omega) (up_nd hmu) hmb ?_
  rw [sortN_self hmu]
  simp [oNe, hwk, deq_refl hwk]
  rw [e5]
  -- the loop over the names
  refine seqW_cut (fun ρ => ∃ (h' : D) (o6 o7 o8 : Option D) (m : Bool), ρ = [some h', some (webD k ts), some (.int ((k.length : Nat) : Int)), some (.lst m (PL e)), some (.lst false (PL l)), some (webD (cutK k e) (cutT ts e.zipIdx)), o6, o7, o8, none, none] ∧ isHand h') ?_ ?_
  · intro K6 r6 _ _ hK6
    simp [szl]
    refine ⟨by unfold small62; omega, ?_⟩
    refine forD_inv (fun i ρ => ∃ (h' : D) (o6 o7 o8 : Option D) (m : Bool), ρ = [some h', some (webD k ts), some (.int ((k.length : Nat) : Int)), some (.lst m (PL e)), some (.lst false (PL l)), some (webD (cutK k e) (cutT ts e.zipIdx)), o6, o7, o8, none, none] ∧ isHand h') ⟨_, _, _, _, _, rfl, hh1⟩ ?_ ?_
    · clear hh1 h1 
      rintro i d ρ hi ⟨h1, o6, o7, o8, m, rfl, hh1⟩ rest hrest
      obtain ⟨hi', rfl⟩ := rngD_at0 hi
      simp
      refine seqW_go fun K7 e7 r7 => ?_
      simp
      refine neio_i (by rw [hK1]; omega) (by omega) ?_
      rw [hK1]
      simp
      refine ⟨by have : (neiL (cutT ts e.zipIdx) e.length i).length ≤ e.length := by
                   unfold neiL; exact Nat.le_trans (List.length_filter_le _ _) (by rw [List.length_range]; omega)
                 omega, ?_⟩
      obtain ⟨ns, hns⟩ : ∃ ns, ns = neiL (cutT ts e.zipIdx) e.length i := ⟨_, rfl⟩
      rw [← hns]
      have hnb : ∀ x ∈ ns, x < e.length := fun x hx => by
        rw [hns] at hx; exact List.mem_range.mp (List.mem_filter.mp hx).1
      have hcn : ns.map (gd6 e) = (neiL ts k.length e[i]).filter fun q => decide (q ∈ e) := by
        rw [hns, ← gd6_lt hi']; exact nei_cut he hlt hi'
      refine compD_inv (fun j acc ρ => ρ = [some h1, some (webD k ts), some (.int ((k.length : Nat) : Int)), some (.lst m (PL e)), some (.lst false (PL l)), some (webD (cutK k e) (cutT ts e.zipIdx)), some (.int (i : Nat)), o7, o8, none, none] ∧ acc = PL ((ns.map (gd6 e)).take j)) ⟨rfl, rfl⟩ ?_ ?_
      · rintro j d acc ρ hj ⟨rfl, rfl⟩ rest2 hrest2
        have hil : j < ns.length := Classical.byContradiction fun z => by rw [List.getElem?_eq_none (by rw [PL_len]; omega)] at hj; cases hj
        rw [PL_get, List.getElem?_eq_getElem hil] at hj
        cases hj
        have hie := hnb _ (List.getElem_mem hil)
        simp [szl]
        rw [at_PL hie]
        simp
        rw [← gd6_lt hie, PL_snoc]
        refine hrest2 _ _ ⟨rfl, ?_⟩
        rw [List.take_succ_eq_append_getElem (by rw [List.length_map]; exact hil), List.getElem_map]
      rintro acc ρ ⟨rfl, rfl⟩
      rw [PL_len, show ns.length = (ns.map (gd6 e)).length by rw [List.length_map], List.take_length, hcn]
      simp
      rw [e7]
      refine seqW_go fun K8 e8 r8 => ?_
      simp
      rw [at_PL hi']
      simp
      refine neio_i (by omega) (by omega) ?_
      simp
      obtain ⟨ks, hks⟩ : ∃ ks, ks = neiL ts k.length e[i] := ⟨_, rfl⟩
      rw [← hks]
      have hkl : ks.length ≤ k.length := by
        rw [hks]; unfold neiL; exact Nat.le_trans (List.length_filter_le _ _) (by rw [List.length_range]; omega)
      have hin : ∀ (q : Nat) (m : Bool) (P : D → Prop), P (.bl (decide (q ∈ e))) → oIn false (.int (q : Nat)) (.lst m (PL e)) P := fun q m P hP => by
        refine ⟨rfl, pyOks_PL _, ?_⟩
        show P (.bl ((PL e).any fun z => deq z (.int (q : Nat))))
        rw [any_PL6]; exact hP
      obtain ⟨fs, hfs⟩ : ∃ fs : List Nat, fs = ks.filter fun q => decide (q ∈ e) := ⟨_, rfl⟩
      have hpf : pyOk 64 (.lst false (PL fs)) = true := by show pyOks 63 (PL fs) = true; exact pyOks_PL _
      rw [← hfs]
      refine ⟨by omega, ?_⟩
      refine compD_inv (fun j acc ρ => ρ = [some h1, some (webD k ts), some (.int ((k.length : Nat) : Int)), some (.lst m (PL e)), some (.lst false (PL l)), some (webD (cutK k e) (cutT ts e.zipIdx)), some (.int (i : Nat)), some (.lst false (PL fs)), o8, none, none] ∧ acc = PL ((ks.take j).filter fun q => decide (q ∈ e))) ⟨rfl, rfl⟩ ?_ ?_
      · rintro j d acc ρ hj ⟨rfl, rfl⟩ rest2 hrest2
        have hil : j < ks.length := Classical.byContradiction fun z => by rw [List.getElem?_eq_none (by rw [PL_len]; omega)] at hj; cases hj
        rw [PL_get, List.getElem?_eq_getElem hil] at hj
        cases hj
        simp
        refine hin _ _ _ ?_
        simp only [bb_bl]
        have et : (ks.take (j + 1)).filter (fun q => decide (q ∈ e)) = (ks.take j).filter (fun q => decide (q ∈ e)) ++ (if ks[j] ∈ e then [ks[j]] else []) := by
          rw [List.take_succ_eq_append_getElem hil, List.filter_append]
          congr 1
          split <;> rename_i hc <;> simp [hc]
        by_cases hc : ks[j] ∈ e
        · rw [if_pos hc] at et
          simp [hc]
          rw [PL_snoc]
          exact hrest2 _ _ ⟨rfl, by rw [et]⟩
        · rw [if_neg hc, List.append_nil] at et
          simp [hc]
          exact hrest2 _ _ ⟨rfl, by rw [et]⟩
      rintro acc ρ ⟨rfl, rfl⟩
      rw [PL_len, List.take_length, ← hfs]
      have hdf : deq (.lst false (PL fs)) (.lst true (PL fs)) = true := deq_refl hpf
      have hne : ∀ P : D → Prop, P (.bl false) → oNe (.lst false (PL fs)) (.lst true (PL fs)) P := fun P hP => ⟨hpf, hpf, by rw [hdf]; exact hP⟩
      refine hne _ ?_
      simp
      rw [e8]
      refine seqW_go fun K9 e9 r9 => ?_
      simp [szl]
      refine ⟨by unfold small62; omega, by rw [rngD_len]; omega, ?_⟩
      refine compD_inv (fun j acc ρ => ∃ (h' : D) (os : List Nat), ρ = [some h', some (webD k ts), some (.int ((k.length : Nat) : Int)), some (.lst m (PL e)), some (.lst false (PL l)), some (webD (cutK k e) (cutT ts e.zipIdx)), some (.int (i : Nat)), some (.lst false (PL fs)), o8, none, none] ∧ isHand h' ∧ acc = PL os ∧ os.length ≤ j ∧ ∀ q ∈ os, q < j) ⟨_, [], rfl, hh1, rfl, by simp, by simp⟩ ?_ ?_
      · clear hh1 h1
        rintro j d acc ρ hj ⟨h1, os, rfl, hh1, rfl, hol, hob⟩ rest2 hrest2
        obtain ⟨hj', rfl⟩ := rngD_at0 hj
        have hyes : ∀ h2, isHand h2 → rest2 (PL os ++ [.int (j : Nat)]) ([some h2, some (webD k ts), some (.int ((k.length : Nat) : Int)), some (.lst m (PL e)), some (.lst false (PL l)), some (webD (cutK k e) (cutT ts e.zipIdx)), some (.int (i : Nat)), some (.lst false (PL fs)), o8, none, none]) := fun h2 hh2 => by
          rw [PL_snoc]
          refine hrest2 _ _ ⟨h2, _, rfl, hh2, rfl, by simp; omega, fun q hq => ?_⟩
          rcases List.mem_append.mp hq with hq | hq
          · have := hob q hq; omega
          · rw [List.mem_singleton.mp hq]; omega
        simp [szl]
        split
        · exact hyes _ hh1
        · refine draw_i hh1 (by decide) (by decide) fun g h2 g0 g1 hh2 => ?_
          simp [oEq]
          split
          · exact hyes _ hh2
          · exact hrest2 _ _ ⟨h2, os, rfl, hh2, rfl, by omega, fun q hq => by have := hob q hq; omega⟩
      clear hh1 h1
      rintro acc ρ ⟨h1, os, rfl, hh1, rfl, hol, hob⟩
      rw [rngD_len] at hol hob
      simp
      rw [e9]
      simp [szl]
      refine ⟨by omega, ?_⟩
      refine compD_inv (fun j acc ρ => ρ = [some h1, some (webD k ts), some (.int ((k.length : Nat) : Int)), some (.lst m (PL e)), some (.lst false (PL l)), some (webD (cutK k e) (cutT ts e.zipIdx)), some (.int (i : Nat)), some (.lst false (PL fs)), some (.lst false (PL os)), none, none] ∧ acc = []) ⟨rfl, rfl⟩ ?_ ?_
      · rintro j d acc ρ hj ⟨rfl, rfl⟩ rest2 hrest2
        have hil : j < os.length := Classical.byContradiction fun z => by rw [List.getElem?_eq_none (by rw [PL_len]; omega)] at hj; cases hj
        rw [PL_get, List.getElem?_eq_getElem hil] at hj
        cases hj
        have hoj := hob _ (List.getElem_mem hil)
        simp
        refine tieo_i (by omega) ?_
        simp
        rw [at_PL hi', at_PL hoj]
        simp
        refine tieo_i (by omega) ?_
        simp
        have e1 : tieL (cutT ts e.zipIdx) i os[j] = tieL ts e[i] e[os[j]] := by
          rw [tieL_cut he hi' hoj, getD_lt hi', getD_lt hoj]
        rw [e1]
        refine ⟨opOk_tieL hv, opOk_tieL hv, ?_⟩
        rw [deq_refl (opOk_tieL hv)]
        simp
        exact hrest2 _ _ ⟨rfl, rfl⟩
      · rintro acc ρ ⟨rfl, rfl⟩
        simp [oNe]
        exact hrest _ ⟨_, _, _, _, _, rfl, hh1⟩
    · rintro ρ ⟨h1, o6, o7, o8, m, rfl, hh1⟩
      exact hK6 _ ⟨_, _, _, _, _, rfl, hh1⟩
  clear hh1 h1
  rintro _ ⟨h1, o6, o7, o8, m, rfl, hh1⟩
  simp
  rw [ix0]
  refine ⟨rfl, by simp [szl], ?_⟩
  have ew : D.tup [.str k, .tup []] = webD k [] := rfl
  rw [ew]
  refine parts_i ⟨hk, by simp, by simp⟩ fun m2 hs pss hp hl2 => ?_
  obtain ⟨_, rfl⟩ := hp.uniq (parts_none k.length)
  simp
  refine ⟨by unfold small62; omega, by rw [rngD_len, szl]; omega, ?_⟩
  refine compD_inv (fun j acc ρ => ρ = [some h1, some (webD k ts), some .gone, some (.lst m (PL e)), some (.lst false (PL l)), some (webD (cutK k e) (cutT ts e.zipIdx)), o6, o7, o8, none, none] ∧ acc = NR true ((List.range j).map fun q => [q])) ⟨rfl, rfl⟩ ?_ ?_
  · rintro j d acc ρ hj ⟨rfl, rfl⟩ rest2 hrest2
    obtain ⟨hj', rfl⟩ := rngD_at0 hj
    simp [szl]
    refine hrest2 _ _ ⟨rfl, ?_⟩
    rw [List.range_succ, List.map_append]
    exact NR_snoc true _ [j]
  rintro acc ρ ⟨rfl, rfl⟩
  rw [rngD_len]
  simp
  refine ⟨pyOks_NR _ _, pyOks_NR _ _, ?_⟩
  rw [deq_NR]
  exact h h1 hh1
theorem cool1_0 {o : Option D} {ρ : Env} : cool1 (o :: ρ) 0 = (o.map frz) :: ρ := by
  unfold cool1
  cases o <;> rfl
theorem sIx_neg1 {n d : Nat} (h : 1 ≤ n) : HT.sIx n d (some (-1)) = n - 1 := by
  show (if (-1 : Int) < 0 then ((-1 : Int) + n).toNat else min ((-1 : Int).toNat) n) = n - 1
  rw [if_pos (by omega)]
  omega
theorem sort_ties6 {xs : List D} {tt : List TT} {P : D → Prop} (hx : xs = tt.map tieD) (h : ∀ tb : List TT, tb.Perm tt → P (.lst true (tb.map tieD))) : oSortB [.tup xs] P := by
  subst hx
  refine .inr ⟨fun i => i == 2, fzs_ties tt, fun x hx => ?_, fun ys hp hs => ?_⟩
  · obtain ⟨t, _, rfl⟩ := List.mem_map.mp hx
    exact tuOk_tie t
  · obtain ⟨tb, h1, rfl⟩ := perm_map hp
    exact h tb h1
theorem tieE_edge {ts tb : List TT} {t : TT} (h : ∀ x, x ∈ tb ↔ x ∈ ts ∨ x = t) (x y : Nat) : tieE tb x y ↔ edge (tieE ts) t.1 t.2.1 x y := by
  constructor
  · rintro ⟨u, hu, hm⟩
    rcases (h u).mp hu with hu | rfl
    · exact .inl ⟨u, hu, hm⟩
    · rcases hm with ⟨rfl, rfl⟩ | ⟨rfl, rfl⟩
      · exact .inr (.inl ⟨rfl, rfl⟩)
      · exact .inr (.inr ⟨rfl, rfl⟩)
  · rintro (⟨u, hu, hm⟩ | ⟨rfl, rfl⟩ | ⟨rfl, rfl⟩)
    · exact ⟨u, (h u).mpr (.inl hu), hm⟩
    · exact ⟨t, (h t).mpr (.inr rfl), .inl ⟨rfl, rfl⟩⟩
    · exact ⟨t, (h t).mpr (.inr rfl), .inr ⟨rfl, rfl⟩⟩
theorem edge_swap {E : Nat → Nat → Prop} {a b : Nat} (x y : Nat) : edge E a b x y ↔ edge E b a x y := by
  unfold edge
  constructor <;> rintro (h | h | h)
  · exact .inl h
  · exact .inr (.inr h)
  · exact .inr (.inl h)
  · exact .inl h
  · exact .inr (.inr h)
  · exact .inr (.inl h)
theorem PartsOk.bnd {ts : List TT} {n : Nat} (hb : ∀ t ∈ ts, t.1 < n ∧ t.2.1 < n) {hs : List Nat} {pss : List (List Nat)} (h : PartsOk (tieE ts) n hs pss) {i : Nat} (hi : i < pss.length) : 0 < pss[i].length ∧ ∀ q ∈ pss[i], q < n := by
  have hi' : i < hs.length := by rw [← h.len]; exact hi
  have c := h.at hi hi'
  refine ⟨List.length_pos_of_mem ((c.mem _).mpr .rfl), fun q hq => ?_⟩
  cases (c.mem q).mp hq with
  | rfl => exact ((h.mem _).mp (List.getElem_mem hi')).1
  | step _ e =>
    obtain ⟨t, ht, hm⟩ := e
    have := hb t ht
    omega
theorem pyOks_ties6 {n : Nat} {ts : List TT} (h : ∀ t ∈ ts, ZOk t.2.2) : pyOks (n + 2) (ts.map tieD) = true := pyOks_all fun x hx => by
  obtain ⟨t, ht, rfl⟩ := List.mem_map.mp hx
  have := (h t ht).1
  show pyOks (n + 1) [.int _, .int _, .str t.2.2] = true
  simp
  exact this
theorem deq_nil6 (ts : List TT) : deq (.tup (ts.map tieD)) (.tup []) = decide (ts = []) := by
  cases ts with
  | nil => rfl
  | cons t ts => show PySem.PyData.eqvAll (toPys (tieD t :: ts.map tieD)) [] = _; simp
theorem slT_lo6 {xs : List D} {q : Nat} {P : D → Prop} (hz : fzs xs = true) (h : q ≤ xs.length) (k : P (.tup (xs.take q))) : oSl (.tup xs) none (some (q : Int)) P := by
  refine ⟨hz, ?_⟩
  rw [sIx_some_nat h]
  exact k
theorem slT_hi6 {xs : List D} {q : Nat} {P : D → Prop} (hz : fzs xs = true) (h : q + 1 ≤ xs.length) (k : P (.tup (xs.drop (q + 1)))) : oSl (.tup xs) (some ((q : Int) + 1)) none P := by
  refine ⟨hz, ?_⟩
  rw [show ((q : Int) + 1) = ((q + 1 : Nat) : Int) from by omega, sIx_some_nat h]
  rw [List.take_of_length_le (by rw [List.length_drop]; exact Nat.le_refl _)]
  exact k
def sp_pright : DSp := fun ds P _ => ∃ (h : D) (k : Str) (ts : List TT), ds = [h, webD k ts] ∧ isHand h ∧ OkC6 k ts ∧ ∀ h', isHand h' → P (.bl true) [h', webD k ts]
theorem wp_pright : ∀ ds P EP, sp_pright ds P EP → (rd__law_parts_right (sp_parts := sp_parts) (sp__law_draw := sp_draw) (sp_hangs := sp_hangs) (sp_cut := sp_cut)).1 (enD [true, true] P) (startE 15 ds) := by
  rintro _ P EP ⟨h0, k, ts, rfl, hh0, hw, h⟩
  obtain ⟨hv, hk, hf, hb⟩ := hw
  have ix0 : ∀ P : D → Prop, oIx (webD k ts) (.int 0) P = P (.str k) := fun P => by simp [webD]
  have ix1 : ∀ P : D → Prop, oIx (webD k ts) (.int 1) P = P (.tup (ts.map tieD)) := fun P => by simp [webD]
  unfold rd__law_parts_right
  simp [cal_eq]
  refine seqW_go fun K1 e1 r1 => ?_
  simp
  refine parts_i ⟨hk, by omega, hb⟩ fun m hs pss hp hl => ?_
  simp
  rw [e1]
  have hsl : pss.length = hs.length := hp.len
  have hpl : ∀ i, (hi : i < pss.length) → pss[i].length ≤ k.length := fun i hi => nd_len (up_nd (hp.at hi (by omega)).up) (hp.bnd hb hi).2
  refine seqW_cut (fun ρ => ∃ (h' : D) (o3 o4 o5 o6 : Option D) (m : Bool), ρ = [some h', some (webD k ts), some (.lst m (NR false pss)), o3, o4, o5, o6, none, none, none, none, none, none, none, none] ∧ isHand h') ?_ ?_
  · intro K2 r2 _ _ hK2
    simp [szl]
    split
    · rename_i hgt
      have z0 : 0 < pss.length := by omega
      have z1 : pss.length - 1 < pss.length := by omega
      obtain ⟨p0, b0⟩ := hp.bnd hb z0
      obtain ⟨p1, b1⟩ := hp.bnd hb z1
      have l0 := hpl 0 z0
      have l1 := hpl _ z1
      have aNR0 : ∀ b, atI (NR b pss) 0 = some (.lst b (PL pss[0])) := fun b => at_NR (q := 0) z0
      have aNR1 : ∀ b, atI (NR b pss) (-1) = some (.lst b (PL pss[pss.length - 1])) := fun b => by
        have e : atI (NR b pss) (-1) = atI (NR b pss) ((pss.length - 1 : Nat) : Int) := by
          unfold atI ixN
          rw [NR_len, if_neg (by omega), if_pos (by omega), if_pos (by omega), if_pos (by omega)]
          simp
          try congr 1
          try omega
        rw [e]
        exact at_NR z1
      refine seqW_go fun K3 e3 r3 => ?_
      simp
      rw [aNR0]
      simp
      refine draw_i hh0 (by omega) (by omega) fun g h1 g0 g1 hh1 => ?_
      obtain ⟨q, rfl⟩ := Int.eq_ofNat_of_zero_le g0
      have hq : q < pss[0].length := by omega
      simp
      rw [at_PL hq]
      simp
      rw [e3]
      refine seqW_go fun K4 e4 r4 => ?_
      simp
      rw [aNR1]
      simp [szl]
      refine draw_i hh1 (by omega) (by omega) fun g h2 g0 g1 hh2 => ?_
      obtain ⟨r, rfl⟩ := Int.eq_ofNat_of_zero_le g0
      have hr : r < pss[pss.length - 1].length := by omega
      simp
      rw [at_PL hr]
      simp
      rw [e4]
      refine seqW_go fun K5 e5 r5 => ?_
      obtain ⟨a, ha⟩ : ∃ a, a = pss[0][q] := ⟨_, rfl⟩
      obtain ⟨b, hbb⟩ : ∃ b, b = pss[pss.length - 1][r] := ⟨_, rfl⟩
      have ham : a ∈ pss[0] := by rw [ha]; exact List.getElem_mem _
      have hbm : b ∈ pss[pss.length - 1] := by rw [hbb]; exact List.getElem_mem _
      rw [← ha, ← hbb]
      have hab : a < k.length := b0 a ham
      have hbk : b < k.length := b1 b hbm
      obtain ⟨t, ht⟩ : ∃ t : TT, t = (min a b, max a b, Str.ofString "q") := ⟨_, rfl⟩
      have hmin : ∀ P : D → Prop, P (.int ((min a b : Nat) : Int)) → oMin2 [.int ((a : Nat) : Int), .int ((b : Nat) : Int)] P := fun P hP => by
        have e : (if ((b : Nat) : Int) < ((a : Nat) : Int) then ((b : Nat) : Int) else ((a : Nat) : Int)) = ((min a b : Nat) : Int) := by split <;> omega
        show P (.int (if ((b : Nat) : Int) < ((a : Nat) : Int) then ((b : Nat) : Int) else ((a : Nat) : Int)))
        rw [e]; exact hP
      have hmax : ∀ P : D → Prop, P (.int ((max a b : Nat) : Int)) → oMax2 [.int ((a : Nat) : Int), .int ((b : Nat) : Int)] P := fun P hP => by
        have e : (if ((b : Nat) : Int) > ((a : Nat) : Int) then ((b : Nat) : Int) else ((a : Nat) : Int)) = ((max a b : Nat) : Int) := by split <;> omega
        show P (.int (if ((b : Nat) : Int) > ((a : Nat) : Int) then ((b : Nat) : Int) else ((a : Nat) : Int)))
        rw [e]; exact hP
      simp [szl]
      refine hmin _ (hmax _ ?_)
      have htD : D.tup [.int ((min a b : Nat) : Int), .int ((max a b : Nat) : Int), .str (Str.ofString "q")] = tieD t := by rw [ht]; rfl
      rw [htD]
      refine ⟨⟨rfl, rfl⟩, ?_⟩
      rw [e5]
      refine seqW_go fun K6 e6 r6 => ?_
      simp [szl]
      rw [ix0, ix1]
      simp [szl]
      refine ⟨rfl, by omega, sort_ties6 (tt := ts ++ [t]) (by rw [frz_fz _ (fz_tie)]; rw [show ts.map tieD ++ [tieD t] = (ts ++ [t]).map tieD by simp]; exact frzs_ties _) fun tb htb => ?_⟩
      simp [oTuple]
      have hw6 : D.tup [.str k, .tup (tb.map tieD)] = webD k tb := rfl
      rw [hw6, e6]
      have htm : ∀ x, x ∈ tb ↔ x ∈ ts ∨ x = t := fun x => by rw [htb.mem_iff]; simp
      have hOk : OkB k tb := ⟨hk, by rw [htb.length_eq]; simp; omega, fun x hx => by
        rcases (htm x).mp hx with hx | rfl
        · exact hb x hx
        · rw [ht]
          show min a b < k.length ∧ max a b < k.length
          omega⟩
      have hmore := parts_more (tieE_symm ts) hp (by omega) ham hbm
      have hE : ∀ x y, edge (tieE ts) a b x y ↔ tieE tb x y := fun x y => by
        rw [tieE_edge htm, ht]
        show edge (tieE ts) a b x y ↔ edge (tieE ts) (min a b) (max a b) x y
        rcases Nat.le_total a b with z | z
        · rw [Nat.min_eq_left z, Nat.max_eq_right z]
        · rw [Nat.min_eq_right z, Nat.max_eq_left z]
          exact edge_swap x y
      simp
      refine parts_i hOk fun m3 hs3 pss3 hp3 hl3 => ?_
      obtain ⟨_, rfl⟩ := hp3.uniq (hmore.iff hE)
      simp [szl]
      rw [aNR0, aNR1]
      simp [szl]
      have hpp : frzs (PL pss[0] ++ PL pss[pss.length - 1]) = PL (pss[0] ++ pss[pss.length - 1]) := by
        rw [show PL pss[0] ++ PL pss[pss.length - 1] = PL (pss[0] ++ pss[pss.length - 1]) by unfold PL; rw [List.map_append]]
        exact frzs_PL _
      rw [hpp]
      obtain ⟨sl, hsl2⟩ : ∃ sl, sl = sortN (pss[0] ++ pss[pss.length - 1]) := ⟨_, rfl⟩
      rw [← hsl2]
      refine ⟨by omega, .inl (sort_PL ?_)⟩
      rw [← hsl2]
      simp
      have hslc : ∀ P : D → Prop, P (.lst true (NR false pss.tail.dropLast)) → oSl (.lst m (NR false pss)) (some 1) (some (-1)) P := fun P hP => by
        refine ⟨fzs_NR _, ?_⟩
        rw [NR_len, show (some (1 : Int)) = some ((1 : Nat) : Int) from rfl, sIx_some_nat (show 1 ≤ pss.length by omega), sIx_neg1 (by omega)]
        have e : ((NR false pss).drop 1).take (pss.length - 1 - 1) = NR false pss.tail.dropLast := by
          unfold NR
          rw [← List.map_drop, ← List.map_take, List.drop_one, List.dropLast_eq_take, List.length_tail]
        rw [e]; exact hP
      refine hslc _ ?_
      simp [szl]
      have eNR : D.lst false (PL sl) :: NR false pss.tail.dropLast = NR false (sl :: pss.tail.dropLast) := rfl
      rw [eNR]
      refine ⟨by omega, pyOks_NR _ _, pyOks_NR _ _, ?_⟩
      rw [deq_NR]
      simp
      exact hK2 _ ⟨_, _, _, _, _, _, rfl, hh2⟩
    · exact hK2 _ ⟨_, _, _, _, _, _, rfl, hh0⟩
  clear hh0
  rintro _ ⟨h1, o3, o4, o5, o6, m, rfl, hh1⟩
  refine seqW_cut (fun ρ => ∃ (h' : D) (o3 o4 o5 o6 o7 o8 o9 o13 : Option D) (m : Bool), ρ = [some h', some (webD k ts), some (.lst m (NR false pss)), o3, o4, o5, o6, o7, o8, o9, none, none, none, o13, none] ∧ isHand h') ?_ ?_
  · intro K2 r2 _ _ hK2
    have hnil : ∀ P : D → Prop, P (.bl (!decide (ts = []))) → oNe (.tup (ts.map tieD)) (.tup []) P := fun P hP => by
      refine ⟨by show pyOks 63 (ts.map tieD) = true; exact pyOks_ties6 fun t ht => (hv.ok t ht).2, rfl, ?_⟩
      rw [deq_nil6]; exact hP
    simp
    rw [ix1]
    refine hnil _ ?_
    simp
    split
    · exact hK2 _ ⟨_, _, _, _, _, _, _, _, _, _, rfl, hh1⟩
    · rename_i hne
      have htl : 0 < ts.length := List.length_pos_iff.mpr hne
      refine seqW_go fun K3 e3 r3 => ?_
      simp [szl]
      rw [ix1]
      simp [szl]
      refine draw_i hh1 (by omega) (by omega) fun g h2 g0 g1 hh2 => ?_
      obtain ⟨q, rfl⟩ := Int.eq_ofNat_of_zero_le g0
      have hq : q < ts.length := by omega
      simp
      rw [e3]
      refine seqW_go fun K4 e4 r4 => ?_
      simp
      rw [ix0, ix1]
      refine slT_lo6 (fzs_ties ts) (by rw [List.length_map]; omega) ?_
      rw [ix1]
      refine slT_hi6 (q := q) (fzs_ties ts) (by rw [List.length_map]; omega) ?_
      obtain ⟨fw, hfw⟩ : ∃ fw, fw = ts.take q ++ ts.drop (q + 1) := ⟨_, rfl⟩
      have htt : (ts.map tieD).take q = (ts.take q).map tieD := (List.map_take ..).symm
      have htd : (ts.map tieD).drop (q + 1) = (ts.drop (q + 1)).map tieD := (List.map_drop ..).symm
      have hta : (ts.take q).map tieD ++ (ts.drop (q + 1)).map tieD = fw.map tieD := by rw [hfw, List.map_append]
      rw [htt, htd]
      simp only [frz, frzs_ties]
      have hadd : ∀ P : D → Prop, P (.tup (fw.map tieD)) → oAdd (.tup ((ts.take q).map tieD)) (.tup ((ts.drop (q + 1)).map tieD)) P := fun P hP => by
        refine ⟨fzs_ties _, fzs_ties _, ?_, by rw [hta]; exact hP⟩
        rw [List.length_map, List.length_map, List.length_take, List.length_drop, szl]; omega
      refine hadd _ ?_
      simp [szl]
      have hww : D.tup [.str k, .tup (fw.map tieD)] = webD k fw := rfl
      rw [hww]
      have hfm : ∀ x, x ∈ ts ↔ x ∈ fw ∨ x = ts[q] := fun x => by
        have e : ts = ts.take q ++ ts[q] :: ts.drop (q + 1) := by rw [← List.drop_eq_getElem_cons hq, List.take_append_drop]
        rw [hfw]
        conv => lhs; rw [e]
        simp only [List.mem_append, List.mem_cons]
        constructor
        · rintro (h | h | h)
          · exact .inl (.inl h)
          · exact .inr h
          · exact .inl (.inr h)
        · rintro ((h | h) | h)
          · exact .inl h
          · exact .inr (.inr h)
          · exact .inr (.inl h)
      have hfl : fw.length ≤ ts.length := by rw [hfw, List.length_append, List.length_take, List.length_drop]; omega
      have hfb : ∀ x ∈ fw, x.1 < k.length ∧ x.2.1 < k.length := fun x hx => hb x ((hfm x).mpr (.inl hx))
      refine parts_i ⟨hk, by omega, hfb⟩ fun m8 hs8 qss hq8 hl8 => ?_
      have hp2 : PartsOk (edge (tieE fw) ts[q].1 ts[q].2.1) k.length hs pss := hp.iff fun x y => tieE_edge hfm x y
      obtain ⟨hle1, hle2⟩ := parts_fewer (tieE_symm fw) hp2 hq8
      simp
      rw [e4]
      refine seqW_go fun K5 e5 r5 => ?_
      simp [szl]
      rw [if_pos hle1, if_pos (by omega)]
      refine hangs_i ⟨hk, by omega, hb⟩ fun bh hbh => ?_
      have hq8l : qss.length ≤ k.length := by have := hq8.len; omega
      have hgo : ∀ (K : En), (bh = true → qss.length ≤ 2) := fun _ z => by
        have := (parts_hang hp).mpr (hbh.mp z)
        omega
      have hfin : K5.nx [some h2, some (webD k ts), some (.lst m (NR false pss)), o3, o4, o5, o6, some (.int (q : Nat)), some (.lst m8 (NR false qss)), none, none, none, none, none, none] := by
        rw [e5]
        simp [szl]
        refine forD_inv (fun i ρ => ∃ (o3 o9 o13 : Option D) (m : Bool), ρ = [some h2, some (webD k ts), some (.lst m (NR false pss)), o3, o4, o5, o6, some (.int (q : Nat)), some (.lst false (NR false qss)), o9, none, none, none, o13, none]) ⟨_, _, _, _, rfl⟩ ?_ ?_
        · clear o3
          rintro i d ρ hi ⟨o3, o9, o13, m, rfl⟩ rest hrest
          have hil : i < qss.length := Classical.byContradiction fun z => by rw [List.getElem?_eq_none (by rw [NR_len]; omega)] at hi; cases hi
          rw [NR_get, List.getElem?_eq_getElem hil] at hi
          cases hi
          obtain ⟨hz, hzn, hsub⟩ := parts_in (tieE_symm ts) (fun x y e => (tieE_edge hfm x y).mpr (.inl e)) hp hq8 hil
          obtain ⟨i0, _, hi0, _, hmem0⟩ := hp.cover hzn
          obtain ⟨part, hpt⟩ : ∃ part, part = qss[i] := ⟨_, rfl⟩
          obtain ⟨x0, hx0⟩ : ∃ x0, x0 = qss[i][0] := ⟨_, rfl⟩
          have hpl8 : part.length ≤ 60 := by
            rw [hpt]
            have := nd_len (up_nd (hq8.at hil (by rw [← hq8.len]; exact hil)).up) (hq8.bnd hfb hil).2
            omega
          have hat0 : atI (PL part) 0 = some (.int ((x0 : Nat) : Int)) := by rw [hx0, hpt]; exact at_PL (q := 0) hz
          rw [← hx0] at hsub hmem0
          simp
          refine seqW_go fun K6 e6 r6 => ?_
          simp [lcK, cool1_0, szl]
          rw [← hpt]
          have hpl60 : pss.length ≤ 60 := by omega
          refine ⟨by omega, ?_⟩
          have hin : ∀ (l : List Nat) (x : Nat) (neg m : Bool) (P : D → Prop), P (.bl (if neg then !decide (x ∈ l) else decide (x ∈ l))) → oIn neg (.int (x : Nat)) (.lst m (PL l)) P := fun l x neg m P hP => by
            refine ⟨rfl, pyOks_PL _, ?_⟩
            rw [any_PL6]
            cases neg <;> exact hP
          refine compD_inv (fun j acc ρ => ρ = [some h2, some (webD k ts), some .gone, none, o4, o5, o6, some (.int (q : Nat)), some (.lst false (NR false qss)), some (.lst false (PL part)), none, none, none, o13, none] ∧ acc = NR false ((pss.take j).filter fun l => decide (x0 ∈ l))) ⟨rfl, rfl⟩ ?_ ?_
          · rintro j d acc ρ hj ⟨rfl, rfl⟩ rest2 hrest2
            have hjl : j < pss.length := Classical.byContradiction fun z => by rw [List.getElem?_eq_none (by rw [NR_len]; omega)] at hj; cases hj
            rw [NR_get, List.getElem?_eq_getElem hjl] at hj
            cases hj
            have et : (pss.take (j + 1)).filter (fun l => decide (x0 ∈ l)) = (pss.take j).filter (fun l => decide (x0 ∈ l)) ++ (if x0 ∈ pss[j] then [pss[j]] else []) := by
              rw [List.take_succ_eq_append_getElem hjl, List.filter_append]
              congr 1
              split <;> rename_i hc <;> simp [hc]
            simp
            rw [hat0]
            simp
            refine hin _ _ _ _ _ ?_
            by_cases hc : x0 ∈ pss[j]
            · rw [if_pos hc] at et
              simp [hc]
              rw [NR_snoc]
              exact hrest2 _ _ ⟨rfl, by rw [et]⟩
            · rw [if_neg hc, List.append_nil] at et
              simp [hc]
              exact hrest2 _ _ ⟨rfl, by rw [et]⟩
          rintro acc ρ ⟨rfl, rfl⟩
          rw [NR_len, List.take_length]
          obtain ⟨cs, hcs⟩ : ∃ cs, cs = pss.filter fun l => decide (x0 ∈ l) := ⟨_, rfl⟩
          rw [← hcs]
          have hcl : 0 < cs.length := List.length_pos_of_mem (a := pss[i0]) (by rw [hcs]; exact List.mem_filter.mpr ⟨List.getElem_mem _, by simpa using hmem0⟩)
          have hw0 := List.mem_filter.mp (by rw [← hcs]; exact List.getElem_mem hcl : cs[0] ∈ pss.filter fun l => decide (x0 ∈ l))
          obtain ⟨wh, hwh⟩ : ∃ wh, wh = cs[0] := ⟨_, rfl⟩
          rw [← hwh] at hw0
          have hsub2 : ∀ x ∈ part, x ∈ wh := fun x hx => by
            obtain ⟨j, hj, ej⟩ := List.mem_iff_getElem.mp hw0.1
            have h3 : x0 ∈ pss[j] := by rw [ej]; simpa using hw0.2
            rw [← ej]
            exact hsub j hj h3 x (by rw [← hpt]; exact hx)
          have hat : atI (NR false cs) 0 = some (.lst false (PL wh)) := by rw [hwh]; exact at_NR (q := 0) hcl
          refine ⟨by simp, ?_⟩
          rw [hat]
          simp
          rw [e6]
          simp [lcK, szl]
          refine ⟨by omega, ?_⟩
          refine compD_inv (fun j acc ρ => ρ = [some h2, some (webD k ts), some (.lst m (NR false pss)), Option.map frz o3, o4, o5, o6, some (.int (q : Nat)), some (.lst false (NR false qss)), some .gone, none, none, none, some (.lst false (PL wh)), none] ∧ acc = []) ⟨rfl, rfl⟩ ?_ ?_
          · rintro j d acc ρ hj ⟨rfl, rfl⟩ rest2 hrest2
            have hjl : j < part.length := Classical.byContradiction fun z => by rw [List.getElem?_eq_none (by rw [PL_len]; omega)] at hj; cases hj
            rw [PL_get, List.getElem?_eq_getElem hjl] at hj
            cases hj
            simp
            refine hin _ _ _ _ _ ?_
            have := hsub2 part[j] (List.getElem_mem _)
            simp [this]
            exact hrest2 _ _ ⟨rfl, rfl⟩
          rintro acc ρ ⟨rfl, rfl⟩
          simp [oNe]
          exact hrest _ ⟨_, _, _, _, rfl⟩
        · rintro ρ ⟨o3, o9, o13, m, rfl⟩
          exact hK2 _ ⟨_, _, _, _, _, _, _, _, _, _, rfl, hh2⟩
      cases bh with
      | false => simp; exact hfin
      | true =>
        have := hgo K5 rfl
        simp [szl]
        rw [if_neg (by omega)]
        exact hfin
  clear hh1
  rintro _ ⟨h1, o3, o4, o5, o6, o7, o8, o9, o13, m, rfl, hh1⟩
  refine seqW_cut (fun ρ => ∃ (h' : D) (o2 o3 o4 o5 o6 o7 o8 o9 o10 o11 o12 o13 o14 : Option D), ρ = [some h', some (webD k ts), o2, o3, o4, o5, o6, o7, o8, o9, o10, o11, o12, o13, o14] ∧ isHand h') ?_ ?_
  · intro K2 r2 _ _ hK2
    have hnil : ∀ P : D → Prop, P (.bl (!decide (pss = []))) → oNe (.lst m (NR false pss)) (.lst false []) P := fun P hP => by
      refine ⟨pyOks_NR _ _, rfl, ?_⟩
      have e : deq (.lst m (NR false pss)) (.lst false []) = decide (pss = []) := by
        cases pss with
        | nil => rfl
        | cons r rs => show PySem.PyData.eqvAll (toPys (D.lst false (PL r) :: NR false rs)) [] = _; simp
      rw [e]; exact hP
    simp
    refine hnil _ ?_
    simp
    split
    · exact hK2 _ ⟨_, _, _, _, _, _, _, _, _, _, _, _, _, _, rfl, hh1⟩
    · rename_i hne
      have z0 : 0 < pss.length := List.length_pos_iff.mpr hne
      obtain ⟨p0, b0⟩ := hp.bnd hb z0
      have l0 := hpl 0 z0
      have aNR0 : ∀ b, atI (NR b pss) 0 = some (.lst b (PL pss[0])) := fun b => at_NR (q := 0) z0
      refine seqW_go fun K3 e3 r3 => ?_
      simp
      rw [aNR0]
      simp [szl]
      refine draw_i hh1 (by omega) (by omega) fun g h2 g0 g1 hh2 => ?_
      obtain ⟨q, rfl⟩ := Int.eq_ofNat_of_zero_le g0
      have hq : q < pss[0].length := by omega
      simp
      rw [at_PL hq]
      simp
      rw [e3]
      obtain ⟨pl, hplc⟩ : ∃ pl, pl = pss[0][q] := ⟨_, rfl⟩
      have hpm : pl ∈ pss[0] := by rw [hplc]; exact List.getElem_mem _
      rw [← hplc]
      refine seqW_go fun K4 e4 r4 => ?_
      simp
      rw [ix0]
      simp [szl, cool1_0]
      refine ⟨by omega, by unfold small62; omega, by rw [rngD_len]; omega, ?_⟩
      refine compD_inv (fun i acc ρ => ρ = [some h2, some (webD k ts), some (.lst m (NR false pss)), none, o4, o5, o6, o7, o8, o9, some (.int (pl : Nat)), none, none, o13, none] ∧ acc = PL ((List.range i).filter fun x => !decide (x = pl))) ⟨rfl, rfl⟩ ?_ ?_
      · rintro i d acc ρ hi ⟨rfl, rfl⟩ rest2 hrest2
        obtain ⟨hi', rfl⟩ := rngD_at0 hi
        have et : (List.range (i + 1)).filter (fun x => !decide (x = pl)) = (List.range i).filter (fun x => !decide (x = pl)) ++ (if i ≠ pl then [i] else []) := by
          rw [List.range_succ, List.filter_append]
          congr 1
          split <;> rename_i hc <;> simp [hc]
        simp [oNe]
        by_cases hc : i = pl
        · rw [if_neg (by simp [hc]), List.append_nil] at et
          rw [if_pos (by omega)]
          exact hrest2 _ _ ⟨rfl, by rw [et]⟩
        · rw [if_pos hc] at et
          rw [if_neg (by omega), PL_snoc]
          exact hrest2 _ _ ⟨rfl, by rw [et]⟩
      rintro acc ρ ⟨rfl, rfl⟩
      rw [rngD_len]
      obtain ⟨e, hedef⟩ : ∃ e, e = (List.range k.length).filter fun x => !decide (x = pl) := ⟨_, rfl⟩
      rw [← hedef]
      have he : e.Pairwise (· < ·) := by rw [hedef]; exact List.Pairwise.filter _ List.pairwise_lt_range
      have hme : ∀ x, x ∈ e ↔ x < k.length ∧ x ≠ pl := fun x => by rw [hedef, List.mem_filter, List.mem_range]; simp
      have hek : ∀ x ∈ e, x < k.length := fun x hx => ((hme x).mp hx).1
      have hel : e.length ≤ k.length := nd_len (up_nd he) hek
      simp
      rw [e4]
      refine seqW_go fun K5 e5 r5 => ?_
      simp
      refine cut_i (by omega) (by omega) (up_nd he) hek ?_
      rw [sortN_self he]
      simp
      have hK1 : (cutK k e).length = e.length := cutK_len hek
      have hfe : (cutT ts e.zipIdx).length ≤ ts.length := List.length_filterMap_le _ _
      refine parts_i ⟨by omega, by omega, fun t ht => by
        obtain ⟨_, _, h5, h6, _⟩ := (cutT_mem6 he).mp ht
        rw [hK1]; exact ⟨h5, h6⟩⟩ fun m4 hs2 pss2 hp4 hl4 => ?_
      rw [hK1] at hp4 hl4
      have hleft := fun (i : Nat) (hi : i < pss.length) (ip : 0 < i) => parts_left (tieE_symm ts) (n := k.length) (fun x y z => by
        obtain ⟨t, ht, hm⟩ := z
        have := hb t ht
        omega) he hme (tieE_cut he) hp hp4 z0 hpm i hi ip
      have hqs : pss2.length ≤ e.length := by have := hp4.len; omega
      simp [szl, cool1_0]
      have hcb : ∀ t ∈ cutT ts e.zipIdx, t.1 < e.length ∧ t.2.1 < e.length := fun t ht => by
        obtain ⟨_, _, h5, h6, _⟩ := (cutT_mem6 he).mp ht
        exact ⟨h5, h6⟩
      refine ⟨by omega, ?_⟩
      refine compD_inv (fun j acc ρ => ρ = [some h2, some (webD k ts), some (.lst m (NR false pss)), Option.map frz o3, o4, o5, o6, o7, o8, none, some (.int (pl : Nat)), some (.lst true (PL e)), none, o13, none] ∧ acc = NR true ((pss2.map fun part => part.map (gd6 e)).take j)) ⟨rfl, rfl⟩ ?_ ?_
      · rintro j d acc ρ hj ⟨rfl, rfl⟩ rest2 hrest2
        have hjl : j < pss2.length := Classical.byContradiction fun z => by rw [List.getElem?_eq_none (by rw [NR_len]; omega)] at hj; cases hj
        rw [NR_get, List.getElem?_eq_getElem hjl] at hj
        cases hj
        obtain ⟨part, hpt⟩ : ∃ part, part = pss2[j] := ⟨_, rfl⟩
        have hpb : ∀ x ∈ part, x < e.length := by rw [hpt]; exact (hp4.bnd hcb hjl).2
        have hpl2 : part.length ≤ e.length := by
          rw [hpt] at hpb ⊢
          exact nd_len (up_nd (hp4.at hjl (by rw [← hp4.len]; exact hjl)).up) hpb
        rw [← hpt]
        simp [lcK, szl]
        refine ⟨by omega, ?_⟩
        refine compD_inv (fun i acc ρ => ρ = [some h2, some (webD k ts), some (.lst m (NR false pss)), Option.map frz o3, o4, o5, o6, o7, o8, some .gone, some (.int (pl : Nat)), some (.lst true (PL e)), none, o13, none] ∧ acc = PL ((part.map (gd6 e)).take i)) ⟨rfl, rfl⟩ ?_ ?_
        · rintro i d acc ρ hi ⟨rfl, rfl⟩ rest3 hrest3
          have hil : i < part.length := Classical.byContradiction fun z => by rw [List.getElem?_eq_none (by rw [PL_len]; omega)] at hi; cases hi
          rw [PL_get, List.getElem?_eq_getElem hil] at hi
          cases hi
          have hie := hpb _ (List.getElem_mem hil)
          simp
          rw [at_PL hie]
          simp
          rw [← gd6_lt hie, PL_snoc]
          refine hrest3 _ _ ⟨rfl, ?_⟩
          rw [List.take_succ_eq_append_getElem (by rw [List.length_map]; exact hil), List.getElem_map]
        rintro acc ρ ⟨rfl, rfl⟩
        rw [PL_len, show part.length = (part.map (gd6 e)).length by rw [List.length_map], List.take_length]
        simp
        rw [NR_snoc]
        refine hrest2 _ _ ⟨rfl, ?_⟩
        rw [List.take_succ_eq_append_getElem (by rw [List.length_map]; exact hjl), List.getElem_map, hpt]
      rintro acc ρ ⟨rfl, rfl⟩
      obtain ⟨RS, hRS⟩ : ∃ RS, RS = pss2.map fun part => part.map (gd6 e) := ⟨_, rfl⟩
      rw [NR_len, ← hRS, show pss2.length = RS.length by rw [hRS, List.length_map], List.take_length]
      have hlf : ∀ (i : Nat) (hi : i < pss.length), 0 < i → pss[i] ∈ RS := fun i hi ip => by rw [hRS]; exact hleft i hi ip
      simp
      rw [e5]
      have hslc : ∀ P : D → Prop, P (.lst true (NR false pss.tail)) → oSl (.lst m (NR false pss)) (some 1) none P := fun P hP => by
        refine ⟨fzs_NR _, ?_⟩
        rw [NR_len, show (some (1 : Int)) = some ((1 : Nat) : Int) from rfl, sIx_some_nat (show 1 ≤ pss.length by omega)]
        have e : ((NR false pss).drop 1).take (HT.sIx pss.length pss.length none - 1) = NR false pss.tail := by
          rw [sIx_nn]
          unfold NR
          rw [← List.map_drop, ← List.map_take, List.drop_one, List.take_of_length_le (by rw [List.length_tail]; omega)]
        rw [e]; exact hP
      simp
      refine hslc _ ?_
      simp [szl, cool1_0]
      refine ⟨by omega, ?_⟩
      have hin : ∀ (l : List Nat) (P : D → Prop), l ∈ RS → P (.bl false) → oIn true (.lst false (PL l)) (.lst true (NR true RS)) P := fun l P hl hP => by
        refine ⟨by show pyOks _ (PL l) = true; exact pyOks_PL _, pyOks_NR _ _, ?_⟩
        have e : ((NR true RS).any fun z => deq z (.lst false (PL l))) = true := by
          rw [List.any_eq_true]
          refine ⟨.lst true (PL l), List.mem_map.mpr ⟨l, hl, rfl⟩, ?_⟩
          exact deq_refl (d := .lst false (PL l)) (by show pyOks 63 (PL l) = true; exact pyOks_PL _)
        rw [e]; exact hP
      refine compD_inv (fun j acc ρ => ρ = [some h2, some (webD k ts), some (.lst m (NR false pss)), Option.map frz o3, o4, o5, o6, o7, o8, none, some (.int (pl : Nat)), some (.lst true (PL e)), some (.lst true (NR true RS)), o13, none] ∧ acc = []) ⟨rfl, rfl⟩ ?_ ?_
      · rintro j d acc ρ hj ⟨rfl, rfl⟩ rest2 hrest2
        have hjl : j < pss.tail.length := Classical.byContradiction fun z => by rw [List.getElem?_eq_none (by rw [NR_len]; omega)] at hj; cases hj
        have hj2 : j + 1 < pss.length := by rw [List.length_tail] at hjl; omega
        rw [NR_get, List.getElem?_eq_getElem hjl] at hj
        cases hj
        have hm2 : pss.tail[j] ∈ RS := by rw [List.getElem_tail]; exact hlf (j + 1) hj2 (by omega)
        simp
        refine hin _ _ (by simpa using hm2) ?_
        simp
        exact hrest2 _ _ ⟨rfl, rfl⟩
      rintro acc ρ ⟨rfl, rfl⟩
      simp [oNe]
      exact hK2 _ ⟨_, _, _, _, _, _, _, _, _, _, _, _, _, _, rfl, hh2⟩
  rintro _ ⟨h1, o2, o3, o4, o5, o6, o7, o8, o9, o10, o11, o12, o13, o14, rfl, hh1⟩
  simp
  exact h h1 hh1
theorem OkW.c6 {n : Nat} {k : Str} {ts : List TT} (h : OkW n k ts) (hn : n ≤ 40) : OkC6 k ts :=
  ⟨h.okV (by omega), by have := h.len; omega, by have := h.lim; omega, fun t ht => by have := h.ok t ht; have := h.len; omega⟩
theorem cright_i {h0 : D} {k : Str} {ts : List TT} {P : D → List D → Prop} {EP : Value → List D → Prop} (hh : isHand h0) (hw : OkC6 k ts) (h : ∀ h', isHand h' → P (.bl true) [h', webD k ts]) : sp_cright [h0, webD k ts] P EP := ⟨h0, k, ts, rfl, hh, hw, h⟩
theorem pright_i {h0 : D} {k : Str} {ts : List TT} {P : D → List D → Prop} {EP : Value → List D → Prop} (hh : isHand h0) (hw : OkC6 k ts) (h : ∀ h', isHand h' → P (.bl true) [h', webD k ts]) : sp_pright [h0, webD k ts] P EP := ⟨h0, k, ts, rfl, hh, hw, h⟩
theorem wp_law : ∀ ds P EP, spLaw ds P EP → (rd_law (sp__law_cells := sp_cells) (sp__law_hand := sp_hand) (sp__law_web := sp_web) (sp__law_size := sp_size40) (sp__law_cuts_right := sp_cright) (sp__law_parts_right := sp_pright) (sp__law_great := sp_great)).1 (enD [true] P) (startE 5 ds) := by
  rintro _ P EP ⟨ns, rfl, hl, _, h⟩
  unfold rd_law
  simp [cal_eq, szl]
  refine seqW_cut (fun ρ => ∃ (o1 o2 o3 o4 : Option D), ρ = [some (.scr ns), o1, o2, o3, o4]) ?_ ?_
  · intro K0 r0 _ _ hK
    simp
    refine ⟨ns, 16, rfl, by decide, by omega, fun zs hz => ?_⟩
    simp
    rw [frzs_enum _ _ (frzs_ints zs)]
    refine forD_inv (fun i ρ => ∃ (o1 o2 o3 o4 : Option D), ρ = [some (.scr ns), o1, o2, o3, o4]) ⟨_, _, _, _, rfl⟩ ?_ ?_
    · rintro i d ρ hi ⟨o1, o2, o3, o4, rfl⟩ rest hrest
      obtain ⟨x, hx, rfl⟩ := enum_at hi
      obtain ⟨z, _, rfl⟩ := IL_at (ns := zs) hx
      simp
      refine seqW_go fun K1 e1 r1 => ?_
      simp
      refine hand_i (by omega) fun h1 hh1 => ?_
      simp
      rw [e1]
      refine seqW_go fun K2 e2 r2 => ?_
      have fin : ∀ (h4 : D) (k : Str) (ts : List TT), isHand h4 → OkC6 k ts → K2.nx [some (.scr ns), some (.int (i : Nat)), some (.int z), some h4, some (webD k ts)] := fun h4 k ts hh4 hw => by
        rw [e2]
        simp
        refine cright_i hh4 hw fun h5 hh5 => ?_
        simp
        refine pright_i hh5 hw fun h6 hh6 => ?_
        simp
        exact hrest _ ⟨_, _, _, _, rfl⟩
      simp [oEq]
      split
      all_goals first | (refine great_i fun b => ?_; simp; refine ⟨h1, b, rfl, hh1, fun n h2 hh2 hn => ?_⟩) | refine ⟨h1, false, rfl, hh1, fun n h2 hh2 hn => ?_⟩
      all_goals
        simp
        refine web_i hh2 (by omega) fun k ts h4 hh4 hw => ?_
        simp
        exact fin h4 k ts hh4 (hw.c6 hn)
    · rintro ρ ⟨o1, o2, o3, o4, rfl⟩
      exact hK _ ⟨_, _, _, _, rfl⟩
  rintro _ ⟨o1, o2, o3, o4, rfl⟩
  simp
  exact h _
end L3
namespace L3
open PySem PySem.Spec L2
open PyProof.Rows hiding St
def dd_kinds_by_places : He.DefD := ⟨("kinds_by_places", none), "kinds_by_places", "kinds_by_places", defArgs st_kinds_by_places, defBody st_kinds_by_places, defScope st_kinds_by_places, [], []⟩
def dd_rows_of_neighbours : He.DefD := ⟨("rows_of_neighbours", none), "rows_of_neighbours", "rows_of_neighbours", defArgs st_rows_of_neighbours, defBody st_rows_of_neighbours, defScope st_rows_of_neighbours, [], []⟩
def dd_come_to : He.DefD := ⟨("come_to", none), "come_to", "come_to", defArgs st_come_to, defBody st_come_to, defScope st_come_to, [], []⟩
def dd_cut : He.DefD := ⟨("cut", none), "cut", "cut", defArgs st_cut, defBody st_cut, defScope st_cut, [], []⟩
def dd__law_hand : He.DefD := ⟨("_law_hand", none), "_law_hand", "_law_hand", defArgs st__law_hand, defBody st__law_hand, defScope st__law_hand, [], []⟩
def dd__law_draw : He.DefD := ⟨("_law_draw", none), "_law_draw", "_law_draw", defArgs st__law_draw, defBody st__law_draw, defScope st__law_draw, [], []⟩
def dd__law_cells : He.DefD := ⟨("_law_cells", none), "_law_cells", "_law_cells", defArgs st__law_cells, defBody st__law_cells, defScope st__law_cells, [], []⟩
def dd__law_great : He.DefD := ⟨("_law_great", none), "_law_great", "_law_great", defArgs st__law_great, defBody st__law_great, defScope st__law_great, [], []⟩
def dd_tie_of : He.DefD := ⟨("tie_of", none), "tie_of", "tie_of", defArgs st_tie_of, defBody st_tie_of, defScope st_tie_of, [], []⟩
def dd_neighbours : He.DefD := ⟨("neighbours", none), "neighbours", "neighbours", defArgs st_neighbours, defBody st_neighbours, defScope st_neighbours, [], []⟩
def dd_parts : He.DefD := ⟨("parts", none), "parts", "parts", defArgs st_parts, defBody st_parts, defScope st_parts, [], []⟩
def dd__law_letters : He.DefD := ⟨("_law_letters", none), "_law_letters", "_law_letters", defArgs st__law_letters, defBody st__law_letters, defScope st__law_letters, [], []⟩
def dd__law_size : He.DefD := ⟨("_law_size", none), "_law_size", "_law_size", defArgs st__law_size, defBody st__law_size, defScope st__law_size, [], []⟩
def dd_hangs : He.DefD := ⟨("hangs", none), "hangs", "hangs", defArgs st_hangs, defBody st_hangs, defScope st_hangs, [], []⟩
def dd__law_web : He.DefD := ⟨("_law_web", none), "_law_web", "_law_web", defArgs st__law_web, defBody st__law_web, defScope st__law_web, [], []⟩
def dd__law_cuts_right : He.DefD := ⟨("_law_cuts_right", none), "_law_cuts_right", "_law_cuts_right", defArgs st__law_cuts_right, defBody st__law_cuts_right, defScope st__law_cuts_right, [], []⟩
def dd__law_parts_right : He.DefD := ⟨("_law_parts_right", none), "_law_parts_right", "_law_parts_right", defArgs st__law_parts_right, defBody st__law_parts_right, defScope st__law_parts_right, [], []⟩
def dd_law : He.DefD := ⟨("law", none), "law", "law", defArgs st_law, defBody st_law, defScope st_law, [], []⟩
def fnL_0 : List He.DefD := [dd_kinds_by_places, dd_rows_of_neighbours, dd_come_to, dd_cut, dd__law_hand, dd__law_draw, dd__law_cells, dd__law_great, dd_tie_of, dd_neighbours, dd_parts, dd__law_letters, dd__law_size, dd_hangs, dd__law_web, dd__law_cuts_right, dd__law_parts_right, dd_law]
def fnL : List He.DefD := fnL_0
def faL_0 : List He.Fa := [.glo "kinds_by_places", .glo "rows_of_neighbours", .glo "come_to", .glo "cut", .glo "_law_hand", .glo "_law_draw", .glo "_law_cells", .glo "_law_great", .glo "tie_of", .glo "neighbours", .glo "parts", .glo "_law_letters", .glo "_law_size", .glo "hangs", .glo "_law_web", .glo "_law_cuts_right", .glo "_law_parts_right", .glo "law", .free "dict", .free "enumerate", .free "int", .free "len", .free "list", .free "max", .free "min", .free "range", .free "sorted", .free "sum", .free "tuple"]
def faL : List He.Fa := faL_0
def nmL_0 : List PySem.Str := ["kinds_by_places", "tie_of", "neighbours", "rows_of_neighbours", "come_to", "parts", "hangs", "cut", "_law_hand", "_law_draw", "_law_cells", "_law_great", "_law_letters", "_law_web", "_law_size", "_law_cuts_right", "_law_parts_right"]
def nmL : List PySem.Str := nmL_0
abbrev hR : PySem.W.OpenRow := PySem.W.OpenLaw.row PySem.Challenge.rw_commonweb_k06_whole_cuts_of_cuts
abbrev hk : PySem.W.Hook := He.hookD 4 faL fnL
def ob (s : PySem.W.SharedT) : He.AlD := He.obsDG 4 faL fnL (HandSHeadRun.getT s)
theorem ob_eq (s : PySem.W.SharedT) : ob s = hk.obs s.abs := He.obsDG_eq (HandSHeadRun.getT_eq s)
theorem run (w : World) : HandSHeadRun.RunEq hR (PySem.W.view hR.prog [19]) hk ob 4000 nmL w := by
  intro os
  kernel_rfl
set_option maxHeartbeats 0 in
theorem facts {P : Program} {w : World} {K : PySem.W.Frag} {h : Heap} {mg : Str → Option Value} {f : Addr} (X : K.In h) (G : h.Ns mainGlobals mg) (hfa : mg ("law" : Str) = some (.ref f)) (c : He.SaysD faL fnL K) :
    ∃ fd : FuncData, (∀ (s : Shared) (v : Value), BindsTo s fd ⟨[v], []⟩ [("script", v)]) ∧ ∀ base : Heap, K.In base → base.Ns mainGlobals mg → FnOk P w K mg base CX0 5 f fd ["script"] (spV K spLaw) := by
  obtain ⟨fd_kinds_by_places, F_kinds_by_places⟩ := c.def_ 0 (d := dd_kinds_by_places) rfl
  have D_kinds_by_places : Df K mg "kinds_by_places" "kinds_by_places" st_kinds_by_places ["web"] := df_of X G (c.fact 0 (f := .glo "kinds_by_places") rfl) F_kinds_by_places fun _ _ _ _ _ _ us hl => match us, hl with | [_], _ => rfl
  obtain ⟨fd_rows_of_neighbours, F_rows_of_neighbours⟩ := c.def_ 1 (d := dd_rows_of_neighbours) rfl
  have D_rows_of_neighbours : Df K mg "rows_of_neighbours" "rows_of_neighbours" st_rows_of_neighbours ["many", "ties"] := df_of X G (c.fact 1 (f := .glo "rows_of_neighbours") rfl) F_rows_of_neighbours fun _ _ _ _ _ _ us hl => match us, hl with | [_, _], _ => rfl
  obtain ⟨fd_come_to, F_come_to⟩ := c.def_ 2 (d := dd_come_to) rfl
  have D_come_to : Df K mg "come_to" "come_to" st_come_to ["rows", "place"] := df_of X G (c.fact 2 (f := .glo "come_to") rfl) F_come_to fun _ _ _ _ _ _ us hl => match us, hl with | [_, _], _ => rfl
  obtain ⟨fd_cut, F_cut⟩ := c.def_ 3 (d := dd_cut) rfl
  have D_cut : Df K mg "cut" "cut" st_cut ["web", "places"] := df_of X G (c.fact 3 (f := .glo "cut") rfl) F_cut fun _ _ _ _ _ _ us hl => match us, hl with | [_, _], _ => rfl
  obtain ⟨fd__law_hand, F__law_hand⟩ := c.def_ 4 (d := dd__law_hand) rfl
  have D__law_hand : Df K mg "_law_hand" "_law_hand" st__law_hand ["cell", "k"] := df_of X G (c.fact 4 (f := .glo "_law_hand") rfl) F__law_hand fun _ _ _ _ _ _ us hl => match us, hl with | [_, _], _ => rfl
  obtain ⟨fd__law_draw, F__law_draw⟩ := c.def_ 5 (d := dd__law_draw) rfl
  have D__law_draw : Df K mg "_law_draw" "_law_draw" st__law_draw ["hand", "limit"] := df_of X G (c.fact 5 (f := .glo "_law_draw") rfl) F__law_draw fun _ _ _ _ _ _ us hl => match us, hl with | [_, _], _ => rfl
  obtain ⟨fd__law_cells, F__law_cells⟩ := c.def_ 6 (d := dd__law_cells) rfl
  have D__law_cells : Df K mg "_law_cells" "_law_cells" st__law_cells ["script", "many"] := df_of X G (c.fact 6 (f := .glo "_law_cells") rfl) F__law_cells fun _ _ _ _ _ _ us hl => match us, hl with | [_, _], _ => rfl
  obtain ⟨fd__law_great, F__law_great⟩ := c.def_ 7 (d := dd__law_great) rfl
  have D__law_great : Df K mg "_law_great" "_law_great" st__law_great ["script"] := df_of X G (c.fact 7 (f := .glo "_law_great") rfl) F__law_great fun _ _ _ _ _ _ us hl => match us, hl with | [_], _ => rfl
  obtain ⟨fd_tie_of, F_tie_of⟩ := c.def_ 8 (d := dd_tie_of) rfl
  have D_tie_of : Df K mg "tie_of" "tie_of" st_tie_of ["web", "one", "other"] := df_of X G (c.fact 8 (f := .glo "tie_of") rfl) F_tie_of fun _ _ _ _ _ _ us hl => match us, hl with | [_, _, _], _ => rfl
  obtain ⟨fd_neighbours, F_neighbours⟩ := c.def_ 9 (d := dd_neighbours) rfl
  have D_neighbours : Df K mg "neighbours" "neighbours" st_neighbours ["web", "place"] := df_of X G (c.fact 9 (f := .glo "neighbours") rfl) F_neighbours fun _ _ _ _ _ _ us hl => match us, hl with | [_, _], _ => rfl
  obtain ⟨fd_parts, F_parts⟩ := c.def_ 10 (d := dd_parts) rfl
  have D_parts : Df K mg "parts" "parts" st_parts ["web"] := df_of X G (c.fact 10 (f := .glo "parts") rfl) F_parts fun _ _ _ _ _ _ us hl => match us, hl with | [_], _ => rfl
  obtain ⟨fd__law_letters, F__law_letters⟩ := c.def_ 11 (d := dd__law_letters) rfl
  have D__law_letters : Df K mg "_law_letters" "_law_letters" st__law_letters ["hand"] := df_of X G (c.fact 11 (f := .glo "_law_letters") rfl) F__law_letters fun _ _ _ _ _ _ us hl => match us, hl with | [_], _ => rfl
  obtain ⟨fd__law_size, F__law_size⟩ := c.def_ 12 (d := dd__law_size) rfl
  have D__law_size : Df K mg "_law_size" "_law_size" st__law_size ["hand", "great"] := df_of X G (c.fact 12 (f := .glo "_law_size") rfl) F__law_size fun _ _ _ _ _ _ us hl => match us, hl with | [_, _], _ => rfl
  obtain ⟨fd_hangs, F_hangs⟩ := c.def_ 13 (d := dd_hangs) rfl
  have D_hangs : Df K mg "hangs" "hangs" st_hangs ["web"] := df_of X G (c.fact 13 (f := .glo "hangs") rfl) F_hangs fun _ _ _ _ _ _ us hl => match us, hl with | [_], _ => rfl
  obtain ⟨fd__law_web, F__law_web⟩ := c.def_ 14 (d := dd__law_web) rfl
  have D__law_web : Df K mg "_law_web" "_law_web" st__law_web ["hand", "many"] := df_of X G (c.fact 14 (f := .glo "_law_web") rfl) F__law_web fun _ _ _ _ _ _ us hl => match us, hl with | [_, _], _ => rfl
  obtain ⟨fd__law_cuts_right, F__law_cuts_right⟩ := c.def_ 15 (d := dd__law_cuts_right) rfl
  have D__law_cuts_right : Df K mg "_law_cuts_right" "_law_cuts_right" st__law_cuts_right ["hand", "web"] := df_of X G (c.fact 15 (f := .glo "_law_cuts_right") rfl) F__law_cuts_right fun _ _ _ _ _ _ us hl => match us, hl with | [_, _], _ => rfl
  obtain ⟨fd__law_parts_right, F__law_parts_right⟩ := c.def_ 16 (d := dd__law_parts_right) rfl
  have D__law_parts_right : Df K mg "_law_parts_right" "_law_parts_right" st__law_parts_right ["hand", "web"] := df_of X G (c.fact 16 (f := .glo "_law_parts_right") rfl) F__law_parts_right fun _ _ _ _ _ _ us hl => match us, hl with | [_, _], _ => rfl
  obtain ⟨fd_law, F_law⟩ := c.def_ 17 (d := dd_law) rfl
  have z_dict : mg "dict" = none := He.free_ok X G (c.fact 18 (f := .free "dict") rfl)
  have z_enumerate : mg "enumerate" = none := He.free_ok X G (c.fact 19 (f := .free "enumerate") rfl)
  have z_int : mg "int" = none := He.free_ok X G (c.fact 20 (f := .free "int") rfl)
  have z_len : mg "len" = none := He.free_ok X G (c.fact 21 (f := .free "len") rfl)
  have z_list : mg "list" = none := He.free_ok X G (c.fact 22 (f := .free "list") rfl)
  have z_max : mg "max" = none := He.free_ok X G (c.fact 23 (f := .free "max") rfl)
  have z_min : mg "min" = none := He.free_ok X G (c.fact 24 (f := .free "min") rfl)
  have z_range : mg "range" = none := He.free_ok X G (c.fact 25 (f := .free "range") rfl)
  have z_sorted : mg "sorted" = none := He.free_ok X G (c.fact 26 (f := .free "sorted") rfl)
  have z_sum : mg "sum" = none := He.free_ok X G (c.fact 27 (f := .free "sum") rfl)
  have z_tuple : mg "tuple" = none := He.free_ok X G (c.fact 28 (f := .free "tuple") rfl)
  have e := hfa.symm.trans (He.glo_ok X G (c.fact 17 (f := .glo "law") rfl))
  cases e
  have b := FunD.bindsA (ps := ["script"]) F_law fun _ _ _ _ _ _ us hl => match us, hl with | [_], _ => rfl
  refine ⟨fd_law, fun s v => b s [v] rfl, fun base _ _ => ?_⟩
  have G_kinds_by_places : Fn P w K mg base CX0 1 "kinds_by_places" sp_places := D_kinds_by_places.fn sc_kinds_by_places rfl rfl (hT_of (by decide)) ((rd_kinds_by_places).2 0) (by first | (rintro _ _ _ ⟨rfl, _⟩; rfl) | (rintro _ _ _ ⟨_, rfl, _⟩; rfl) | (rintro _ _ _ ⟨_, _, rfl, _⟩; rfl) | (rintro _ _ _ ⟨_, _, _, rfl, _⟩; rfl) | (rintro _ _ _ ⟨_, _, _, _, rfl, _⟩; rfl) | (rintro _ _ _ ⟨_, _, _, _, _, rfl, _⟩; rfl) | (rintro _ _ _ ⟨_, _, _, _, _, _, rfl, _⟩; rfl) | (rintro _ _ _ ⟨_, _, _, _, _, _, _, rfl, _⟩; rfl) | (rintro _ _ _ ⟨_, _, _, _, _, _, _, _, rfl, _⟩; rfl) | (rintro _ _ _ ⟨_, _, _, _, _, _, _, _, _, rfl, _⟩; rfl) | (rintro _ _ _ ⟨_, _, _, _, _, _, _, _, _, _, rfl, _⟩; rfl) | (rintro _ _ _ ⟨_, _, _, _, _, _, _, _, _, _, _, rfl, _⟩; rfl) | (rintro _ _ _ ⟨_, _, _, _, _, _, _, _, _, _, _, _, rfl, _⟩; rfl) | (rintro _ _ _ ⟨_, _, _, _, _, _, _, _, _, _, _, _, _, rfl, _⟩; rfl) | (rintro _ _ _ ⟨_, _, _, _, _, _, _, _, _, _, _, _, _, _, rfl, _⟩; rfl) | (rintro _ _ _ ⟨_, _, _, _, _, _, _, _, _, _, _, _, _, _, _, rfl, _⟩; rfl) | (rintro _ _ _ ⟨_, _, _, _, _, _, _, _, _, _, _, _, _, _, _, _, rfl, _⟩; rfl) | (rintro _ _ _ ⟨_, _, _, _, _, _, _, _, _, _, _, _, _, _, _, _, _, rfl, _⟩; rfl) | (rintro _ _ _ ⟨_, _, _, _, _, _, _, _, _, _, _, _, _, _, _, _, _, _, rfl, _⟩; rfl) | (rintro _ _ _ ⟨_, _, _, _, _, _, _, _, _, _, _, _, _, _, _, _, _, _, _, rfl, _⟩; rfl) | (rintro _ _ _ ⟨_, _, _, _, _, _, _, _, _, _, _, _, _, _, _, _, _, _, _, _, rfl, _⟩; rfl) | (rintro _ _ _ ⟨_, _, _, _, _, _, _, _, _, _, _, _, _, _, _, _, _, _, _, _, _, rfl, _⟩; rfl) | (rintro _ _ _ ⟨_, _, _, _, _, _, _, _, _, _, _, _, _, _, _, _, _, _, _, _, _, _, rfl, _⟩; rfl) | (rintro _ _ _ ⟨_, _, _, _, _, _, _, _, _, _, _, _, _, _, _, _, _, _, _, _, _, _, _, rfl, _⟩; rfl) | (rintro _ _ _ ⟨_, _, _, _, _, _, _, _, _, _, _, _, _, _, _, _, _, _, _, _, _, _, _, _, rfl, _⟩; rfl) | (rintro _ _ _ ⟨_, _, _, _, _, _, _, _, _, _, _, _, _, _, _, _, _, _, _, _, _, _, _, _, _, rfl, _⟩; rfl)) wp_kplaces
  have G_rows_of_neighbours : Fn P w K mg base CX0 1 "rows_of_neighbours" sp_rowsn := D_rows_of_neighbours.fn sc_rows_of_neighbours rfl rfl (hT_of (by decide)) ((rd_rows_of_neighbours).2 0 z_range) (by first | (rintro _ _ _ ⟨rfl, _⟩; rfl) | (rintro _ _ _ ⟨_, rfl, _⟩; rfl) | (rintro _ _ _ ⟨_, _, rfl, _⟩; rfl) | (rintro _ _ _ ⟨_, _, _, rfl, _⟩; rfl) | (rintro _ _ _ ⟨_, _, _, _, rfl, _⟩; rfl) | (rintro _ _ _ ⟨_, _, _, _, _, rfl, _⟩; rfl) | (rintro _ _ _ ⟨_, _, _, _, _, _, rfl, _⟩; rfl) | (rintro _ _ _ ⟨_, _, _, _, _, _, _, rfl, _⟩; rfl) | (rintro _ _ _ ⟨_, _, _, _, _, _, _, _, rfl, _⟩; rfl) | (rintro _ _ _ ⟨_, _, _, _, _, _, _, _, _, rfl, _⟩; rfl) | (rintro _ _ _ ⟨_, _, _, _, _, _, _, _, _, _, rfl, _⟩; rfl) | (rintro _ _ _ ⟨_, _, _, _, _, _, _, _, _, _, _, rfl, _⟩; rfl) | (rintro _ _ _ ⟨_, _, _, _, _, _, _, _, _, _, _, _, rfl, _⟩; rfl) | (rintro _ _ _ ⟨_, _, _, _, _, _, _, _, _, _, _, _, _, rfl, _⟩; rfl) | (rintro _ _ _ ⟨_, _, _, _, _, _, _, _, _, _, _, _, _, _, rfl, _⟩; rfl) | (rintro _ _ _ ⟨_, _, _, _, _, _, _, _, _, _, _, _, _, _, _, rfl, _⟩; rfl) | (rintro _ _ _ ⟨_, _, _, _, _, _, _, _, _, _, _, _, _, _, _, _, rfl, _⟩; rfl) | (rintro _ _ _ ⟨_, _, _, _, _, _, _, _, _, _, _, _, _, _, _, _, _, rfl, _⟩; rfl) | (rintro _ _ _ ⟨_, _, _, _, _, _, _, _, _, _, _, _, _, _, _, _, _, _, rfl, _⟩; rfl) | (rintro _ _ _ ⟨_, _, _, _, _, _, _, _, _, _, _, _, _, _, _, _, _, _, _, rfl, _⟩; rfl) | (rintro _ _ _ ⟨_, _, _, _, _, _, _, _, _, _, _, _, _, _, _, _, _, _, _, _, rfl, _⟩; rfl) | (rintro _ _ _ ⟨_, _, _, _, _, _, _, _, _, _, _, _, _, _, _, _, _, _, _, _, _, rfl, _⟩; rfl) | (rintro _ _ _ ⟨_, _, _, _, _, _, _, _, _, _, _, _, _, _, _, _, _, _, _, _, _, _, rfl, _⟩; rfl) | (rintro _ _ _ ⟨_, _, _, _, _, _, _, _, _, _, _, _, _, _, _, _, _, _, _, _, _, _, _, rfl, _⟩; rfl) | (rintro _ _ _ ⟨_, _, _, _, _, _, _, _, _, _, _, _, _, _, _, _, _, _, _, _, _, _, _, _, rfl, _⟩; rfl) | (rintro _ _ _ ⟨_, _, _, _, _, _, _, _, _, _, _, _, _, _, _, _, _, _, _, _, _, _, _, _, _, rfl, _⟩; rfl)) wp_rowsn
  have G_come_to : Fn P w K mg base CX0 1 "come_to" sp_come := D_come_to.fn sc_come_to rfl rfl (hT_of (by decide)) ((rd_come_to).2 0 z_sorted) (by first | (rintro _ _ _ ⟨rfl, _⟩; rfl) | (rintro _ _ _ ⟨_, rfl, _⟩; rfl) | (rintro _ _ _ ⟨_, _, rfl, _⟩; rfl) | (rintro _ _ _ ⟨_, _, _, rfl, _⟩; rfl) | (rintro _ _ _ ⟨_, _, _, _, rfl, _⟩; rfl) | (rintro _ _ _ ⟨_, _, _, _, _, rfl, _⟩; rfl) | (rintro _ _ _ ⟨_, _, _, _, _, _, rfl, _⟩; rfl) | (rintro _ _ _ ⟨_, _, _, _, _, _, _, rfl, _⟩; rfl) | (rintro _ _ _ ⟨_, _, _, _, _, _, _, _, rfl, _⟩; rfl) | (rintro _ _ _ ⟨_, _, _, _, _, _, _, _, _, rfl, _⟩; rfl) | (rintro _ _ _ ⟨_, _, _, _, _, _, _, _, _, _, rfl, _⟩; rfl) | (rintro _ _ _ ⟨_, _, _, _, _, _, _, _, _, _, _, rfl, _⟩; rfl) | (rintro _ _ _ ⟨_, _, _, _, _, _, _, _, _, _, _, _, rfl, _⟩; rfl) | (rintro _ _ _ ⟨_, _, _, _, _, _, _, _, _, _, _, _, _, rfl, _⟩; rfl) | (rintro _ _ _ ⟨_, _, _, _, _, _, _, _, _, _, _, _, _, _, rfl, _⟩; rfl) | (rintro _ _ _ ⟨_, _, _, _, _, _, _, _, _, _, _, _, _, _, _, rfl, _⟩; rfl) | (rintro _ _ _ ⟨_, _, _, _, _, _, _, _, _, _, _, _, _, _, _, _, rfl, _⟩; rfl) | (rintro _ _ _ ⟨_, _, _, _, _, _, _, _, _, _, _, _, _, _, _, _, _, rfl, _⟩; rfl) | (rintro _ _ _ ⟨_, _, _, _, _, _, _, _, _, _, _, _, _, _, _, _, _, _, rfl, _⟩; rfl) | (rintro _ _ _ ⟨_, _, _, _, _, _, _, _, _, _, _, _, _, _, _, _, _, _, _, rfl, _⟩; rfl) | (rintro _ _ _ ⟨_, _, _, _, _, _, _, _, _, _, _, _, _, _, _, _, _, _, _, _, rfl, _⟩; rfl) | (rintro _ _ _ ⟨_, _, _, _, _, _, _, _, _, _, _, _, _, _, _, _, _, _, _, _, _, rfl, _⟩; rfl) | (rintro _ _ _ ⟨_, _, _, _, _, _, _, _, _, _, _, _, _, _, _, _, _, _, _, _, _, _, rfl, _⟩; rfl) | (rintro _ _ _ ⟨_, _, _, _, _, _, _, _, _, _, _, _, _, _, _, _, _, _, _, _, _, _, _, rfl, _⟩; rfl) | (rintro _ _ _ ⟨_, _, _, _, _, _, _, _, _, _, _, _, _, _, _, _, _, _, _, _, _, _, _, _, rfl, _⟩; rfl) | (rintro _ _ _ ⟨_, _, _, _, _, _, _, _, _, _, _, _, _, _, _, _, _, _, _, _, _, _, _, _, _, rfl, _⟩; rfl)) wp_come
  have G_cut : Fn P w K mg base CX0 1 "cut" sp_cut := D_cut.fn sc_cut rfl rfl (hT_of (by decide)) ((rd_cut).2 0 z_dict z_enumerate z_sorted z_tuple) (by first | (rintro _ _ _ ⟨rfl, _⟩; rfl) | (rintro _ _ _ ⟨_, rfl, _⟩; rfl) | (rintro _ _ _ ⟨_, _, rfl, _⟩; rfl) | (rintro _ _ _ ⟨_, _, _, rfl, _⟩; rfl) | (rintro _ _ _ ⟨_, _, _, _, rfl, _⟩; rfl) | (rintro _ _ _ ⟨_, _, _, _, _, rfl, _⟩; rfl) | (rintro _ _ _ ⟨_, _, _, _, _, _, rfl, _⟩; rfl) | (rintro _ _ _ ⟨_, _, _, _, _, _, _, rfl, _⟩; rfl) | (rintro _ _ _ ⟨_, _, _, _, _, _, _, _, rfl, _⟩; rfl) | (rintro _ _ _ ⟨_, _, _, _, _, _, _, _, _, rfl, _⟩; rfl) | (rintro _ _ _ ⟨_, _, _, _, _, _, _, _, _, _, rfl, _⟩; rfl) | (rintro _ _ _ ⟨_, _, _, _, _, _, _, _, _, _, _, rfl, _⟩; rfl) | (rintro _ _ _ ⟨_, _, _, _, _, _, _, _, _, _, _, _, rfl, _⟩; rfl) | (rintro _ _ _ ⟨_, _, _, _, _, _, _, _, _, _, _, _, _, rfl, _⟩; rfl) | (rintro _ _ _ ⟨_, _, _, _, _, _, _, _, _, _, _, _, _, _, rfl, _⟩; rfl) | (rintro _ _ _ ⟨_, _, _, _, _, _, _, _, _, _, _, _, _, _, _, rfl, _⟩; rfl) | (rintro _ _ _ ⟨_, _, _, _, _, _, _, _, _, _, _, _, _, _, _, _, rfl, _⟩; rfl) | (rintro _ _ _ ⟨_, _, _, _, _, _, _, _, _, _, _, _, _, _, _, _, _, rfl, _⟩; rfl) | (rintro _ _ _ ⟨_, _, _, _, _, _, _, _, _, _, _, _, _, _, _, _, _, _, rfl, _⟩; rfl) | (rintro _ _ _ ⟨_, _, _, _, _, _, _, _, _, _, _, _, _, _, _, _, _, _, _, rfl, _⟩; rfl) | (rintro _ _ _ ⟨_, _, _, _, _, _, _, _, _, _, _, _, _, _, _, _, _, _, _, _, rfl, _⟩; rfl) | (rintro _ _ _ ⟨_, _, _, _, _, _, _, _, _, _, _, _, _, _, _, _, _, _, _, _, _, rfl, _⟩; rfl) | (rintro _ _ _ ⟨_, _, _, _, _, _, _, _, _, _, _, _, _, _, _, _, _, _, _, _, _, _, rfl, _⟩; rfl) | (rintro _ _ _ ⟨_, _, _, _, _, _, _, _, _, _, _, _, _, _, _, _, _, _, _, _, _, _, _, rfl, _⟩; rfl) | (rintro _ _ _ ⟨_, _, _, _, _, _, _, _, _, _, _, _, _, _, _, _, _, _, _, _, _, _, _, _, rfl, _⟩; rfl) | (rintro _ _ _ ⟨_, _, _, _, _, _, _, _, _, _, _, _, _, _, _, _, _, _, _, _, _, _, _, _, _, rfl, _⟩; rfl)) wp_cut
  have G__law_hand : Fn P w K mg base CX0 1 "_law_hand" sp_hand := D__law_hand.fn sc__law_hand rfl rfl (hT_of (by decide)) ((rd__law_hand).2 0) (by first | (rintro _ _ _ ⟨rfl, _⟩; rfl) | (rintro _ _ _ ⟨_, rfl, _⟩; rfl) | (rintro _ _ _ ⟨_, _, rfl, _⟩; rfl) | (rintro _ _ _ ⟨_, _, _, rfl, _⟩; rfl) | (rintro _ _ _ ⟨_, _, _, _, rfl, _⟩; rfl) | (rintro _ _ _ ⟨_, _, _, _, _, rfl, _⟩; rfl) | (rintro _ _ _ ⟨_, _, _, _, _, _, rfl, _⟩; rfl) | (rintro _ _ _ ⟨_, _, _, _, _, _, _, rfl, _⟩; rfl) | (rintro _ _ _ ⟨_, _, _, _, _, _, _, _, rfl, _⟩; rfl) | (rintro _ _ _ ⟨_, _, _, _, _, _, _, _, _, rfl, _⟩; rfl) | (rintro _ _ _ ⟨_, _, _, _, _, _, _, _, _, _, rfl, _⟩; rfl) | (rintro _ _ _ ⟨_, _, _, _, _, _, _, _, _, _, _, rfl, _⟩; rfl) | (rintro _ _ _ ⟨_, _, _, _, _, _, _, _, _, _, _, _, rfl, _⟩; rfl) | (rintro _ _ _ ⟨_, _, _, _, _, _, _, _, _, _, _, _, _, rfl, _⟩; rfl) | (rintro _ _ _ ⟨_, _, _, _, _, _, _, _, _, _, _, _, _, _, rfl, _⟩; rfl) | (rintro _ _ _ ⟨_, _, _, _, _, _, _, _, _, _, _, _, _, _, _, rfl, _⟩; rfl) | (rintro _ _ _ ⟨_, _, _, _, _, _, _, _, _, _, _, _, _, _, _, _, rfl, _⟩; rfl) | (rintro _ _ _ ⟨_, _, _, _, _, _, _, _, _, _, _, _, _, _, _, _, _, rfl, _⟩; rfl) | (rintro _ _ _ ⟨_, _, _, _, _, _, _, _, _, _, _, _, _, _, _, _, _, _, rfl, _⟩; rfl) | (rintro _ _ _ ⟨_, _, _, _, _, _, _, _, _, _, _, _, _, _, _, _, _, _, _, rfl, _⟩; rfl) | (rintro _ _ _ ⟨_, _, _, _, _, _, _, _, _, _, _, _, _, _, _, _, _, _, _, _, rfl, _⟩; rfl) | (rintro _ _ _ ⟨_, _, _, _, _, _, _, _, _, _, _, _, _, _, _, _, _, _, _, _, _, rfl, _⟩; rfl) | (rintro _ _ _ ⟨_, _, _, _, _, _, _, _, _, _, _, _, _, _, _, _, _, _, _, _, _, _, rfl, _⟩; rfl) | (rintro _ _ _ ⟨_, _, _, _, _, _, _, _, _, _, _, _, _, _, _, _, _, _, _, _, _, _, _, rfl, _⟩; rfl) | (rintro _ _ _ ⟨_, _, _, _, _, _, _, _, _, _, _, _, _, _, _, _, _, _, _, _, _, _, _, _, rfl, _⟩; rfl) | (rintro _ _ _ ⟨_, _, _, _, _, _, _, _, _, _, _, _, _, _, _, _, _, _, _, _, _, _, _, _, _, rfl, _⟩; rfl)) wp_hand
  have G__law_draw : Fn P w K mg base CX0 1 "_law_draw" sp_draw := D__law_draw.fn sc__law_draw rfl rfl (hT_of (by decide)) ((rd__law_draw).2 0) (by first | (rintro _ _ _ ⟨rfl, _⟩; rfl) | (rintro _ _ _ ⟨_, rfl, _⟩; rfl) | (rintro _ _ _ ⟨_, _, rfl, _⟩; rfl) | (rintro _ _ _ ⟨_, _, _, rfl, _⟩; rfl) | (rintro _ _ _ ⟨_, _, _, _, rfl, _⟩; rfl) | (rintro _ _ _ ⟨_, _, _, _, _, rfl, _⟩; rfl) | (rintro _ _ _ ⟨_, _, _, _, _, _, rfl, _⟩; rfl) | (rintro _ _ _ ⟨_, _, _, _, _, _, _, rfl, _⟩; rfl) | (rintro _ _ _ ⟨_, _, _, _, _, _, _, _, rfl, _⟩; rfl) | (rintro _ _ _ ⟨_, _, _, _, _, _, _, _, _, rfl, _⟩; rfl) | (rintro _ _ _ ⟨_, _, _, _, _, _, _, _, _, _, rfl, _⟩; rfl) | (rintro _ _ _ ⟨_, _, _, _, _, _, _, _, _, _, _, rfl, _⟩; rfl) | (rintro _ _ _ ⟨_, _, _, _, _, _, _, _, _, _, _, _, rfl, _⟩; rfl) | (rintro _ _ _ ⟨_, _, _, _, _, _, _, _, _, _, _, _, _, rfl, _⟩; rfl) | (rintro _ _ _ ⟨_, _, _, _, _, _, _, _, _, _, _, _, _, _, rfl, _⟩; rfl) | (rintro _ _ _ ⟨_, _, _, _, _, _, _, _, _, _, _, _, _, _, _, rfl, _⟩; rfl) | (rintro _ _ _ ⟨_, _, _, _, _, _, _, _, _, _, _, _, _, _, _, _, rfl, _⟩; rfl) | (rintro _ _ _ ⟨_, _, _, _, _, _, _, _, _, _, _, _, _, _, _, _, _, rfl, _⟩; rfl) | (rintro _ _ _ ⟨_, _, _, _, _, _, _, _, _, _, _, _, _, _, _, _, _, _, rfl, _⟩; rfl) | (rintro _ _ _ ⟨_, _, _, _, _, _, _, _, _, _, _, _, _, _, _, _, _, _, _, rfl, _⟩; rfl) | (rintro _ _ _ ⟨_, _, _, _, _, _, _, _, _, _, _, _, _, _, _, _, _, _, _, _, rfl, _⟩; rfl) | (rintro _ _ _ ⟨_, _, _, _, _, _, _, _, _, _, _, _, _, _, _, _, _, _, _, _, _, rfl, _⟩; rfl) | (rintro _ _ _ ⟨_, _, _, _, _, _, _, _, _, _, _, _, _, _, _, _, _, _, _, _, _, _, rfl, _⟩; rfl) | (rintro _ _ _ ⟨_, _, _, _, _, _, _, _, _, _, _, _, _, _, _, _, _, _, _, _, _, _, _, rfl, _⟩; rfl) | (rintro _ _ _ ⟨_, _, _, _, _, _, _, _, _, _, _, _, _, _, _, _, _, _, _, _, _, _, _, _, rfl, _⟩; rfl) | (rintro _ _ _ ⟨_, _, _, _, _, _, _, _, _, _, _, _, _, _, _, _, _, _, _, _, _, _, _, _, _, rfl, _⟩; rfl)) wp_draw
  have G__law_cells : Fn P w K mg base CX0 1 "_law_cells" sp_cells := D__law_cells.fn sc__law_cells rfl rfl (hT_of (by decide)) ((rd__law_cells).2 0 z_enumerate z_int z_list) (by first | (rintro _ _ _ ⟨rfl, _⟩; rfl) | (rintro _ _ _ ⟨_, rfl, _⟩; rfl) | (rintro _ _ _ ⟨_, _, rfl, _⟩; rfl) | (rintro _ _ _ ⟨_, _, _, rfl, _⟩; rfl) | (rintro _ _ _ ⟨_, _, _, _, rfl, _⟩; rfl) | (rintro _ _ _ ⟨_, _, _, _, _, rfl, _⟩; rfl) | (rintro _ _ _ ⟨_, _, _, _, _, _, rfl, _⟩; rfl) | (rintro _ _ _ ⟨_, _, _, _, _, _, _, rfl, _⟩; rfl) | (rintro _ _ _ ⟨_, _, _, _, _, _, _, _, rfl, _⟩; rfl) | (rintro _ _ _ ⟨_, _, _, _, _, _, _, _, _, rfl, _⟩; rfl) | (rintro _ _ _ ⟨_, _, _, _, _, _, _, _, _, _, rfl, _⟩; rfl) | (rintro _ _ _ ⟨_, _, _, _, _, _, _, _, _, _, _, rfl, _⟩; rfl) | (rintro _ _ _ ⟨_, _, _, _, _, _, _, _, _, _, _, _, rfl, _⟩; rfl) | (rintro _ _ _ ⟨_, _, _, _, _, _, _, _, _, _, _, _, _, rfl, _⟩; rfl) | (rintro _ _ _ ⟨_, _, _, _, _, _, _, _, _, _, _, _, _, _, rfl, _⟩; rfl) | (rintro _ _ _ ⟨_, _, _, _, _, _, _, _, _, _, _, _, _, _, _, rfl, _⟩; rfl) | (rintro _ _ _ ⟨_, _, _, _, _, _, _, _, _, _, _, _, _, _, _, _, rfl, _⟩; rfl) | (rintro _ _ _ ⟨_, _, _, _, _, _, _, _, _, _, _, _, _, _, _, _, _, rfl, _⟩; rfl) | (rintro _ _ _ ⟨_, _, _, _, _, _, _, _, _, _, _, _, _, _, _, _, _, _, rfl, _⟩; rfl) | (rintro _ _ _ ⟨_, _, _, _, _, _, _, _, _, _, _, _, _, _, _, _, _, _, _, rfl, _⟩; rfl) | (rintro _ _ _ ⟨_, _, _, _, _, _, _, _, _, _, _, _, _, _, _, _, _, _, _, _, rfl, _⟩; rfl) | (rintro _ _ _ ⟨_, _, _, _, _, _, _, _, _, _, _, _, _, _, _, _, _, _, _, _, _, rfl, _⟩; rfl) | (rintro _ _ _ ⟨_, _, _, _, _, _, _, _, _, _, _, _, _, _, _, _, _, _, _, _, _, _, rfl, _⟩; rfl) | (rintro _ _ _ ⟨_, _, _, _, _, _, _, _, _, _, _, _, _, _, _, _, _, _, _, _, _, _, _, rfl, _⟩; rfl) | (rintro _ _ _ ⟨_, _, _, _, _, _, _, _, _, _, _, _, _, _, _, _, _, _, _, _, _, _, _, _, rfl, _⟩; rfl) | (rintro _ _ _ ⟨_, _, _, _, _, _, _, _, _, _, _, _, _, _, _, _, _, _, _, _, _, _, _, _, _, rfl, _⟩; rfl)) wp_cells
  have G__law_great : Fn P w K mg base CX0 1 "_law_great" sp_great := D__law_great.fn sc__law_great rfl rfl (hT_of (by decide)) ((rd__law_great).2 0 z_sum) (by first | (rintro _ _ _ ⟨rfl, _⟩; rfl) | (rintro _ _ _ ⟨_, rfl, _⟩; rfl) | (rintro _ _ _ ⟨_, _, rfl, _⟩; rfl) | (rintro _ _ _ ⟨_, _, _, rfl, _⟩; rfl) | (rintro _ _ _ ⟨_, _, _, _, rfl, _⟩; rfl) | (rintro _ _ _ ⟨_, _, _, _, _, rfl, _⟩; rfl) | (rintro _ _ _ ⟨_, _, _, _, _, _, rfl, _⟩; rfl) | (rintro _ _ _ ⟨_, _, _, _, _, _, _, rfl, _⟩; rfl) | (rintro _ _ _ ⟨_, _, _, _, _, _, _, _, rfl, _⟩; rfl) | (rintro _ _ _ ⟨_, _, _, _, _, _, _, _, _, rfl, _⟩; rfl) | (rintro _ _ _ ⟨_, _, _, _, _, _, _, _, _, _, rfl, _⟩; rfl) | (rintro _ _ _ ⟨_, _, _, _, _, _, _, _, _, _, _, rfl, _⟩; rfl) | (rintro _ _ _ ⟨_, _, _, _, _, _, _, _, _, _, _, _, rfl, _⟩; rfl) | (rintro _ _ _ ⟨_, _, _, _, _, _, _, _, _, _, _, _, _, rfl, _⟩; rfl) | (rintro _ _ _ ⟨_, _, _, _, _, _, _, _, _, _, _, _, _, _, rfl, _⟩; rfl) | (rintro _ _ _ ⟨_, _, _, _, _, _, _, _, _, _, _, _, _, _, _, rfl, _⟩; rfl) | (rintro _ _ _ ⟨_, _, _, _, _, _, _, _, _, _, _, _, _, _, _, _, rfl, _⟩; rfl) | (rintro _ _ _ ⟨_, _, _, _, _, _, _, _, _, _, _, _, _, _, _, _, _, rfl, _⟩; rfl) | (rintro _ _ _ ⟨_, _, _, _, _, _, _, _, _, _, _, _, _, _, _, _, _, _, rfl, _⟩; rfl) | (rintro _ _ _ ⟨_, _, _, _, _, _, _, _, _, _, _, _, _, _, _, _, _, _, _, rfl, _⟩; rfl) | (rintro _ _ _ ⟨_, _, _, _, _, _, _, _, _, _, _, _, _, _, _, _, _, _, _, _, rfl, _⟩; rfl) | (rintro _ _ _ ⟨_, _, _, _, _, _, _, _, _, _, _, _, _, _, _, _, _, _, _, _, _, rfl, _⟩; rfl) | (rintro _ _ _ ⟨_, _, _, _, _, _, _, _, _, _, _, _, _, _, _, _, _, _, _, _, _, _, rfl, _⟩; rfl) | (rintro _ _ _ ⟨_, _, _, _, _, _, _, _, _, _, _, _, _, _, _, _, _, _, _, _, _, _, _, rfl, _⟩; rfl) | (rintro _ _ _ ⟨_, _, _, _, _, _, _, _, _, _, _, _, _, _, _, _, _, _, _, _, _, _, _, _, rfl, _⟩; rfl) | (rintro _ _ _ ⟨_, _, _, _, _, _, _, _, _, _, _, _, _, _, _, _, _, _, _, _, _, _, _, _, _, rfl, _⟩; rfl)) wp_great
  have G_tie_of : Fn P w K mg base CX0 2 "tie_of" sp_tieo := D_tie_of.fn sc_tie_of rfl rfl (hT_of (by decide)) ((rd_tie_of (sp_kinds_by_places := sp_places)).2 1 G_kinds_by_places (by first | decide | omega)) (by first | (rintro _ _ _ ⟨rfl, _⟩; rfl) | (rintro _ _ _ ⟨_, rfl, _⟩; rfl) | (rintro _ _ _ ⟨_, _, rfl, _⟩; rfl) | (rintro _ _ _ ⟨_, _, _, rfl, _⟩; rfl) | (rintro _ _ _ ⟨_, _, _, _, rfl, _⟩; rfl) | (rintro _ _ _ ⟨_, _, _, _, _, rfl, _⟩; rfl) | (rintro _ _ _ ⟨_, _, _, _, _, _, rfl, _⟩; rfl) | (rintro _ _ _ ⟨_, _, _, _, _, _, _, rfl, _⟩; rfl) | (rintro _ _ _ ⟨_, _, _, _, _, _, _, _, rfl, _⟩; rfl) | (rintro _ _ _ ⟨_, _, _, _, _, _, _, _, _, rfl, _⟩; rfl) | (rintro _ _ _ ⟨_, _, _, _, _, _, _, _, _, _, rfl, _⟩; rfl) | (rintro _ _ _ ⟨_, _, _, _, _, _, _, _, _, _, _, rfl, _⟩; rfl) | (rintro _ _ _ ⟨_, _, _, _, _, _, _, _, _, _, _, _, rfl, _⟩; rfl) | (rintro _ _ _ ⟨_, _, _, _, _, _, _, _, _, _, _, _, _, rfl, _⟩; rfl) | (rintro _ _ _ ⟨_, _, _, _, _, _, _, _, _, _, _, _, _, _, rfl, _⟩; rfl) | (rintro _ _ _ ⟨_, _, _, _, _, _, _, _, _, _, _, _, _, _, _, rfl, _⟩; rfl) | (rintro _ _ _ ⟨_, _, _, _, _, _, _, _, _, _, _, _, _, _, _, _, rfl, _⟩; rfl) | (rintro _ _ _ ⟨_, _, _, _, _, _, _, _, _, _, _, _, _, _, _, _, _, rfl, _⟩; rfl) | (rintro _ _ _ ⟨_, _, _, _, _, _, _, _, _, _, _, _, _, _, _, _, _, _, rfl, _⟩; rfl) | (rintro _ _ _ ⟨_, _, _, _, _, _, _, _, _, _, _, _, _, _, _, _, _, _, _, rfl, _⟩; rfl) | (rintro _ _ _ ⟨_, _, _, _, _, _, _, _, _, _, _, _, _, _, _, _, _, _, _, _, rfl, _⟩; rfl) | (rintro _ _ _ ⟨_, _, _, _, _, _, _, _, _, _, _, _, _, _, _, _, _, _, _, _, _, rfl, _⟩; rfl) | (rintro _ _ _ ⟨_, _, _, _, _, _, _, _, _, _, _, _, _, _, _, _, _, _, _, _, _, _, rfl, _⟩; rfl) | (rintro _ _ _ ⟨_, _, _, _, _, _, _, _, _, _, _, _, _, _, _, _, _, _, _, _, _, _, _, rfl, _⟩; rfl) | (rintro _ _ _ ⟨_, _, _, _, _, _, _, _, _, _, _, _, _, _, _, _, _, _, _, _, _, _, _, _, rfl, _⟩; rfl) | (rintro _ _ _ ⟨_, _, _, _, _, _, _, _, _, _, _, _, _, _, _, _, _, _, _, _, _, _, _, _, _, rfl, _⟩; rfl)) wp_tieo
  have G_neighbours : Fn P w K mg base CX0 2 "neighbours" sp_neio := D_neighbours.fn sc_neighbours rfl rfl (hT_of (by decide)) ((rd_neighbours (sp_kinds_by_places := sp_places)).2 1 z_len z_range G_kinds_by_places (by first | decide | omega)) (by first | (rintro _ _ _ ⟨rfl, _⟩; rfl) | (rintro _ _ _ ⟨_, rfl, _⟩; rfl) | (rintro _ _ _ ⟨_, _, rfl, _⟩; rfl) | (rintro _ _ _ ⟨_, _, _, rfl, _⟩; rfl) | (rintro _ _ _ ⟨_, _, _, _, rfl, _⟩; rfl) | (rintro _ _ _ ⟨_, _, _, _, _, rfl, _⟩; rfl) | (rintro _ _ _ ⟨_, _, _, _, _, _, rfl, _⟩; rfl) | (rintro _ _ _ ⟨_, _, _, _, _, _, _, rfl, _⟩; rfl) | (rintro _ _ _ ⟨_, _, _, _, _, _, _, _, rfl, _⟩; rfl) | (rintro _ _ _ ⟨_, _, _, _, _, _, _, _, _, rfl, _⟩; rfl) | (rintro _ _ _ ⟨_, _, _, _, _, _, _, _, _, _, rfl, _⟩; rfl) | (rintro _ _ _ ⟨_, _, _, _, _, _, _, _, _, _, _, rfl, _⟩; rfl) | (rintro _ _ _ ⟨_, _, _, _, _, _, _, _, _, _, _, _, rfl, _⟩; rfl) | (rintro _ _ _ ⟨_, _, _, _, _, _, _, _, _, _, _, _, _, rfl, _⟩; rfl) | (rintro _ _ _ ⟨_, _, _, _, _, _, _, _, _, _, _, _, _, _, rfl, _⟩; rfl) | (rintro _ _ _ ⟨_, _, _, _, _, _, _, _, _, _, _, _, _, _, _, rfl, _⟩; rfl) | (rintro _ _ _ ⟨_, _, _, _, _, _, _, _, _, _, _, _, _, _, _, _, rfl, _⟩; rfl) | (rintro _ _ _ ⟨_, _, _, _, _, _, _, _, _, _, _, _, _, _, _, _, _, rfl, _⟩; rfl) | (rintro _ _ _ ⟨_, _, _, _, _, _, _, _, _, _, _, _, _, _, _, _, _, _, rfl, _⟩; rfl) | (rintro _ _ _ ⟨_, _, _, _, _, _, _, _, _, _, _, _, _, _, _, _, _, _, _, rfl, _⟩; rfl) | (rintro _ _ _ ⟨_, _, _, _, _, _, _, _, _, _, _, _, _, _, _, _, _, _, _, _, rfl, _⟩; rfl) | (rintro _ _ _ ⟨_, _, _, _, _, _, _, _, _, _, _, _, _, _, _, _, _, _, _, _, _, rfl, _⟩; rfl) | (rintro _ _ _ ⟨_, _, _, _, _, _, _, _, _, _, _, _, _, _, _, _, _, _, _, _, _, _, rfl, _⟩; rfl) | (rintro _ _ _ ⟨_, _, _, _, _, _, _, _, _, _, _, _, _, _, _, _, _, _, _, _, _, _, _, rfl, _⟩; rfl) | (rintro _ _ _ ⟨_, _, _, _, _, _, _, _, _, _, _, _, _, _, _, _, _, _, _, _, _, _, _, _, rfl, _⟩; rfl) | (rintro _ _ _ ⟨_, _, _, _, _, _, _, _, _, _, _, _, _, _, _, _, _, _, _, _, _, _, _, _, _, rfl, _⟩; rfl)) wp_neio
  have G_parts : Fn P w K mg base CX0 2 "parts" sp_parts := D_parts.fn sc_parts rfl rfl (hT_of (by decide)) ((rd_parts (sp_rows_of_neighbours := sp_rowsn) (sp_come_to := sp_come)).2 1 z_dict z_len z_range G_rows_of_neighbours (by first | decide | omega) G_come_to (by first | decide | omega)) (by first | (rintro _ _ _ ⟨rfl, _⟩; rfl) | (rintro _ _ _ ⟨_, rfl, _⟩; rfl) | (rintro _ _ _ ⟨_, _, rfl, _⟩; rfl) | (rintro _ _ _ ⟨_, _, _, rfl, _⟩; rfl) | (rintro _ _ _ ⟨_, _, _, _, rfl, _⟩; rfl) | (rintro _ _ _ ⟨_, _, _, _, _, rfl, _⟩; rfl) | (rintro _ _ _ ⟨_, _, _, _, _, _, rfl, _⟩; rfl) | (rintro _ _ _ ⟨_, _, _, _, _, _, _, rfl, _⟩; rfl) | (rintro _ _ _ ⟨_, _, _, _, _, _, _, _, rfl, _⟩; rfl) | (rintro _ _ _ ⟨_, _, _, _, _, _, _, _, _, rfl, _⟩; rfl) | (rintro _ _ _ ⟨_, _, _, _, _, _, _, _, _, _, rfl, _⟩; rfl) | (rintro _ _ _ ⟨_, _, _, _, _, _, _, _, _, _, _, rfl, _⟩; rfl) | (rintro _ _ _ ⟨_, _, _, _, _, _, _, _, _, _, _, _, rfl, _⟩; rfl) | (rintro _ _ _ ⟨_, _, _, _, _, _, _, _, _, _, _, _, _, rfl, _⟩; rfl) | (rintro _ _ _ ⟨_, _, _, _, _, _, _, _, _, _, _, _, _, _, rfl, _⟩; rfl) | (rintro _ _ _ ⟨_, _, _, _, _, _, _, _, _, _, _, _, _, _, _, rfl, _⟩; rfl) | (rintro _ _ _ ⟨_, _, _, _, _, _, _, _, _, _, _, _, _, _, _, _, rfl, _⟩; rfl) | (rintro _ _ _ ⟨_, _, _, _, _, _, _, _, _, _, _, _, _, _, _, _, _, rfl, _⟩; rfl) | (rintro _ _ _ ⟨_, _, _, _, _, _, _, _, _, _, _, _, _, _, _, _, _, _, rfl, _⟩; rfl) | (rintro _ _ _ ⟨_, _, _, _, _, _, _, _, _, _, _, _, _, _, _, _, _, _, _, rfl, _⟩; rfl) | (rintro _ _ _ ⟨_, _, _, _, _, _, _, _, _, _, _, _, _, _, _, _, _, _, _, _, rfl, _⟩; rfl) | (rintro _ _ _ ⟨_, _, _, _, _, _, _, _, _, _, _, _, _, _, _, _, _, _, _, _, _, rfl, _⟩; rfl) | (rintro _ _ _ ⟨_, _, _, _, _, _, _, _, _, _, _, _, _, _, _, _, _, _, _, _, _, _, rfl, _⟩; rfl) | (rintro _ _ _ ⟨_, _, _, _, _, _, _, _, _, _, _, _, _, _, _, _, _, _, _, _, _, _, _, rfl, _⟩; rfl) | (rintro _ _ _ ⟨_, _, _, _, _, _, _, _, _, _, _, _, _, _, _, _, _, _, _, _, _, _, _, _, rfl, _⟩; rfl) | (rintro _ _ _ ⟨_, _, _, _, _, _, _, _, _, _, _, _, _, _, _, _, _, _, _, _, _, _, _, _, _, rfl, _⟩; rfl)) wp_parts
  have G__law_letters : Fn P w K mg base CX0 2 "_law_letters" sp_letters := D__law_letters.fn sc__law_letters rfl rfl (hT_of (by decide)) ((rd__law_letters (sp__law_draw := sp_draw)).2 1 G__law_draw (by first | decide | omega)) (by first | (rintro _ _ _ ⟨rfl, _⟩; rfl) | (rintro _ _ _ ⟨_, rfl, _⟩; rfl) | (rintro _ _ _ ⟨_, _, rfl, _⟩; rfl) | (rintro _ _ _ ⟨_, _, _, rfl, _⟩; rfl) | (rintro _ _ _ ⟨_, _, _, _, rfl, _⟩; rfl) | (rintro _ _ _ ⟨_, _, _, _, _, rfl, _⟩; rfl) | (rintro _ _ _ ⟨_, _, _, _, _, _, rfl, _⟩; rfl) | (rintro _ _ _ ⟨_, _, _, _, _, _, _, rfl, _⟩; rfl) | (rintro _ _ _ ⟨_, _, _, _, _, _, _, _, rfl, _⟩; rfl) | (rintro _ _ _ ⟨_, _, _, _, _, _, _, _, _, rfl, _⟩; rfl) | (rintro _ _ _ ⟨_, _, _, _, _, _, _, _, _, _, rfl, _⟩; rfl) | (rintro _ _ _ ⟨_, _, _, _, _, _, _, _, _, _, _, rfl, _⟩; rfl) | (rintro _ _ _ ⟨_, _, _, _, _, _, _, _, _, _, _, _, rfl, _⟩; rfl) | (rintro _ _ _ ⟨_, _, _, _, _, _, _, _, _, _, _, _, _, rfl, _⟩; rfl) | (rintro _ _ _ ⟨_, _, _, _, _, _, _, _, _, _, _, _, _, _, rfl, _⟩; rfl) | (rintro _ _ _ ⟨_, _, _, _, _, _, _, _, _, _, _, _, _, _, _, rfl, _⟩; rfl) | (rintro _ _ _ ⟨_, _, _, _, _, _, _, _, _, _, _, _, _, _, _, _, rfl, _⟩; rfl) | (rintro _ _ _ ⟨_, _, _, _, _, _, _, _, _, _, _, _, _, _, _, _, _, rfl, _⟩; rfl) | (rintro _ _ _ ⟨_, _, _, _, _, _, _, _, _, _, _, _, _, _, _, _, _, _, rfl, _⟩; rfl) | (rintro _ _ _ ⟨_, _, _, _, _, _, _, _, _, _, _, _, _, _, _, _, _, _, _, rfl, _⟩; rfl) | (rintro _ _ _ ⟨_, _, _, _, _, _, _, _, _, _, _, _, _, _, _, _, _, _, _, _, rfl, _⟩; rfl) | (rintro _ _ _ ⟨_, _, _, _, _, _, _, _, _, _, _, _, _, _, _, _, _, _, _, _, _, rfl, _⟩; rfl) | (rintro _ _ _ ⟨_, _, _, _, _, _, _, _, _, _, _, _, _, _, _, _, _, _, _, _, _, _, rfl, _⟩; rfl) | (rintro _ _ _ ⟨_, _, _, _, _, _, _, _, _, _, _, _, _, _, _, _, _, _, _, _, _, _, _, rfl, _⟩; rfl) | (rintro _ _ _ ⟨_, _, _, _, _, _, _, _, _, _, _, _, _, _, _, _, _, _, _, _, _, _, _, _, rfl, _⟩; rfl) | (rintro _ _ _ ⟨_, _, _, _, _, _, _, _, _, _, _, _, _, _, _, _, _, _, _, _, _, _, _, _, _, rfl, _⟩; rfl)) wp_letters
  have G__law_size : Fn P w K mg base CX0 2 "_law_size" sp_size40 := D__law_size.fn sc__law_size rfl rfl (hT_of (by decide)) ((rd__law_size (sp__law_draw := sp_draw)).2 1 G__law_draw (by first | decide | omega)) (by first | (rintro _ _ _ ⟨rfl, _⟩; rfl) | (rintro _ _ _ ⟨_, rfl, _⟩; rfl) | (rintro _ _ _ ⟨_, _, rfl, _⟩; rfl) | (rintro _ _ _ ⟨_, _, _, rfl, _⟩; rfl) | (rintro _ _ _ ⟨_, _, _, _, rfl, _⟩; rfl) | (rintro _ _ _ ⟨_, _, _, _, _, rfl, _⟩; rfl) | (rintro _ _ _ ⟨_, _, _, _, _, _, rfl, _⟩; rfl) | (rintro _ _ _ ⟨_, _, _, _, _, _, _, rfl, _⟩; rfl) | (rintro _ _ _ ⟨_, _, _, _, _, _, _, _, rfl, _⟩; rfl) | (rintro _ _ _ ⟨_, _, _, _, _, _, _, _, _, rfl, _⟩; rfl) | (rintro _ _ _ ⟨_, _, _, _, _, _, _, _, _, _, rfl, _⟩; rfl) | (rintro _ _ _ ⟨_, _, _, _, _, _, _, _, _, _, _, rfl, _⟩; rfl) | (rintro _ _ _ ⟨_, _, _, _, _, _, _, _, _, _, _, _, rfl, _⟩; rfl) | (rintro _ _ _ ⟨_, _, _, _, _, _, _, _, _, _, _, _, _, rfl, _⟩; rfl) | (rintro _ _ _ ⟨_, _, _, _, _, _, _, _, _, _, _, _, _, _, rfl, _⟩; rfl) | (rintro _ _ _ ⟨_, _, _, _, _, _, _, _, _, _, _, _, _, _, _, rfl, _⟩; rfl) | (rintro _ _ _ ⟨_, _, _, _, _, _, _, _, _, _, _, _, _, _, _, _, rfl, _⟩; rfl) | (rintro _ _ _ ⟨_, _, _, _, _, _, _, _, _, _, _, _, _, _, _, _, _, rfl, _⟩; rfl) | (rintro _ _ _ ⟨_, _, _, _, _, _, _, _, _, _, _, _, _, _, _, _, _, _, rfl, _⟩; rfl) | (rintro _ _ _ ⟨_, _, _, _, _, _, _, _, _, _, _, _, _, _, _, _, _, _, _, rfl, _⟩; rfl) | (rintro _ _ _ ⟨_, _, _, _, _, _, _, _, _, _, _, _, _, _, _, _, _, _, _, _, rfl, _⟩; rfl) | (rintro _ _ _ ⟨_, _, _, _, _, _, _, _, _, _, _, _, _, _, _, _, _, _, _, _, _, rfl, _⟩; rfl) | (rintro _ _ _ ⟨_, _, _, _, _, _, _, _, _, _, _, _, _, _, _, _, _, _, _, _, _, _, rfl, _⟩; rfl) | (rintro _ _ _ ⟨_, _, _, _, _, _, _, _, _, _, _, _, _, _, _, _, _, _, _, _, _, _, _, rfl, _⟩; rfl) | (rintro _ _ _ ⟨_, _, _, _, _, _, _, _, _, _, _, _, _, _, _, _, _, _, _, _, _, _, _, _, rfl, _⟩; rfl) | (rintro _ _ _ ⟨_, _, _, _, _, _, _, _, _, _, _, _, _, _, _, _, _, _, _, _, _, _, _, _, _, rfl, _⟩; rfl)) wp_size40
  have G_hangs : Fn P w K mg base CX0 3 "hangs" sp_hangs := D_hangs.fn sc_hangs rfl rfl (hT_of (by decide)) ((rd_hangs (sp_parts := sp_parts)).2 2 z_len G_parts (by first | decide | omega)) (by first | (rintro _ _ _ ⟨rfl, _⟩; rfl) | (rintro _ _ _ ⟨_, rfl, _⟩; rfl) | (rintro _ _ _ ⟨_, _, rfl, _⟩; rfl) | (rintro _ _ _ ⟨_, _, _, rfl, _⟩; rfl) | (rintro _ _ _ ⟨_, _, _, _, rfl, _⟩; rfl) | (rintro _ _ _ ⟨_, _, _, _, _, rfl, _⟩; rfl) | (rintro _ _ _ ⟨_, _, _, _, _, _, rfl, _⟩; rfl) | (rintro _ _ _ ⟨_, _, _, _, _, _, _, rfl, _⟩; rfl) | (rintro _ _ _ ⟨_, _, _, _, _, _, _, _, rfl, _⟩; rfl) | (rintro _ _ _ ⟨_, _, _, _, _, _, _, _, _, rfl, _⟩; rfl) | (rintro _ _ _ ⟨_, _, _, _, _, _, _, _, _, _, rfl, _⟩; rfl) | (rintro _ _ _ ⟨_, _, _, _, _, _, _, _, _, _, _, rfl, _⟩; rfl) | (rintro _ _ _ ⟨_, _, _, _, _, _, _, _, _, _, _, _, rfl, _⟩; rfl) | (rintro _ _ _ ⟨_, _, _, _, _, _, _, _, _, _, _, _, _, rfl, _⟩; rfl) | (rintro _ _ _ ⟨_, _, _, _, _, _, _, _, _, _, _, _, _, _, rfl, _⟩; rfl) | (rintro _ _ _ ⟨_, _, _, _, _, _, _, _, _, _, _, _, _, _, _, rfl, _⟩; rfl) | (rintro _ _ _ ⟨_, _, _, _, _, _, _, _, _, _, _, _, _, _, _, _, rfl, _⟩; rfl) | (rintro _ _ _ ⟨_, _, _, _, _, _, _, _, _, _, _, _, _, _, _, _, _, rfl, _⟩; rfl) | (rintro _ _ _ ⟨_, _, _, _, _, _, _, _, _, _, _, _, _, _, _, _, _, _, rfl, _⟩; rfl) | (rintro _ _ _ ⟨_, _, _, _, _, _, _, _, _, _, _, _, _, _, _, _, _, _, _, rfl, _⟩; rfl) | (rintro _ _ _ ⟨_, _, _, _, _, _, _, _, _, _, _, _, _, _, _, _, _, _, _, _, rfl, _⟩; rfl) | (rintro _ _ _ ⟨_, _, _, _, _, _, _, _, _, _, _, _, _, _, _, _, _, _, _, _, _, rfl, _⟩; rfl) | (rintro _ _ _ ⟨_, _, _, _, _, _, _, _, _, _, _, _, _, _, _, _, _, _, _, _, _, _, rfl, _⟩; rfl) | (rintro _ _ _ ⟨_, _, _, _, _, _, _, _, _, _, _, _, _, _, _, _, _, _, _, _, _, _, _, rfl, _⟩; rfl) | (rintro _ _ _ ⟨_, _, _, _, _, _, _, _, _, _, _, _, _, _, _, _, _, _, _, _, _, _, _, _, rfl, _⟩; rfl) | (rintro _ _ _ ⟨_, _, _, _, _, _, _, _, _, _, _, _, _, _, _, _, _, _, _, _, _, _, _, _, _, rfl, _⟩; rfl)) wp_hangs
  have G__law_web : Fn P w K mg base CX0 3 "_law_web" sp_web := D__law_web.fn sc__law_web rfl rfl (hT_of (by decide)) ((rd__law_web (sp__law_letters := sp_letters) (sp__law_draw := sp_draw)).2 2 z_len z_range z_tuple G__law_letters (by first | decide | omega) G__law_draw (by first | decide | omega)) (by first | (rintro _ _ _ ⟨rfl, _⟩; rfl) | (rintro _ _ _ ⟨_, rfl, _⟩; rfl) | (rintro _ _ _ ⟨_, _, rfl, _⟩; rfl) | (rintro _ _ _ ⟨_, _, _, rfl, _⟩; rfl) | (rintro _ _ _ ⟨_, _, _, _, rfl, _⟩; rfl) | (rintro _ _ _ ⟨_, _, _, _, _, rfl, _⟩; rfl) | (rintro _ _ _ ⟨_, _, _, _, _, _, rfl, _⟩; rfl) | (rintro _ _ _ ⟨_, _, _, _, _, _, _, rfl, _⟩; rfl) | (rintro _ _ _ ⟨_, _, _, _, _, _, _, _, rfl, _⟩; rfl) | (rintro _ _ _ ⟨_, _, _, _, _, _, _, _, _, rfl, _⟩; rfl) | (rintro _ _ _ ⟨_, _, _, _, _, _, _, _, _, _, rfl, _⟩; rfl) | (rintro _ _ _ ⟨_, _, _, _, _, _, _, _, _, _, _, rfl, _⟩; rfl) | (rintro _ _ _ ⟨_, _, _, _, _, _, _, _, _, _, _, _, rfl, _⟩; rfl) | (rintro _ _ _ ⟨_, _, _, _, _, _, _, _, _, _, _, _, _, rfl, _⟩; rfl) | (rintro _ _ _ ⟨_, _, _, _, _, _, _, _, _, _, _, _, _, _, rfl, _⟩; rfl) | (rintro _ _ _ ⟨_, _, _, _, _, _, _, _, _, _, _, _, _, _, _, rfl, _⟩; rfl) | (rintro _ _ _ ⟨_, _, _, _, _, _, _, _, _, _, _, _, _, _, _, _, rfl, _⟩; rfl) | (rintro _ _ _ ⟨_, _, _, _, _, _, _, _, _, _, _, _, _, _, _, _, _, rfl, _⟩; rfl) | (rintro _ _ _ ⟨_, _, _, _, _, _, _, _, _, _, _, _, _, _, _, _, _, _, rfl, _⟩; rfl) | (rintro _ _ _ ⟨_, _, _, _, _, _, _, _, _, _, _, _, _, _, _, _, _, _, _, rfl, _⟩; rfl) | (rintro _ _ _ ⟨_, _, _, _, _, _, _, _, _, _, _, _, _, _, _, _, _, _, _, _, rfl, _⟩; rfl) | (rintro _ _ _ ⟨_, _, _, _, _, _, _, _, _, _, _, _, _, _, _, _, _, _, _, _, _, rfl, _⟩; rfl) | (rintro _ _ _ ⟨_, _, _, _, _, _, _, _, _, _, _, _, _, _, _, _, _, _, _, _, _, _, rfl, _⟩; rfl) | (rintro _ _ _ ⟨_, _, _, _, _, _, _, _, _, _, _, _, _, _, _, _, _, _, _, _, _, _, _, rfl, _⟩; rfl) | (rintro _ _ _ ⟨_, _, _, _, _, _, _, _, _, _, _, _, _, _, _, _, _, _, _, _, _, _, _, _, rfl, _⟩; rfl) | (rintro _ _ _ ⟨_, _, _, _, _, _, _, _, _, _, _, _, _, _, _, _, _, _, _, _, _, _, _, _, _, rfl, _⟩; rfl)) wp_web
  have G__law_cuts_right : Fn P w K mg base CX0 3 "_law_cuts_right" sp_cright := D__law_cuts_right.fn sc__law_cuts_right rfl rfl (hT_of (by decide)) ((rd__law_cuts_right (sp_cut := sp_cut) (sp_parts := sp_parts) (sp__law_draw := sp_draw) (sp_neighbours := sp_neio) (sp_tie_of := sp_tieo)).2 2 z_len z_range G_cut (by first | decide | omega) G_parts (by first | decide | omega) G__law_draw (by first | decide | omega) G_neighbours (by first | decide | omega) G_tie_of (by first | decide | omega)) (by first | (rintro _ _ _ ⟨rfl, _⟩; rfl) | (rintro _ _ _ ⟨_, rfl, _⟩; rfl) | (rintro _ _ _ ⟨_, _, rfl, _⟩; rfl) | (rintro _ _ _ ⟨_, _, _, rfl, _⟩; rfl) | (rintro _ _ _ ⟨_, _, _, _, rfl, _⟩; rfl) | (rintro _ _ _ ⟨_, _, _, _, _, rfl, _⟩; rfl) | (rintro _ _ _ ⟨_, _, _, _, _, _, rfl, _⟩; rfl) | (rintro _ _ _ ⟨_, _, _, _, _, _, _, rfl, _⟩; rfl) | (rintro _ _ _ ⟨_, _, _, _, _, _, _, _, rfl, _⟩; rfl) | (rintro _ _ _ ⟨_, _, _, _, _, _, _, _, _, rfl, _⟩; rfl) | (rintro _ _ _ ⟨_, _, _, _, _, _, _, _, _, _, rfl, _⟩; rfl) | (rintro _ _ _ ⟨_, _, _, _, _, _, _, _, _, _, _, rfl, _⟩; rfl) | (rintro _ _ _ ⟨_, _, _, _, _, _, _, _, _, _, _, _, rfl, _⟩; rfl) | (rintro _ _ _ ⟨_, _, _, _, _, _, _, _, _, _, _, _, _, rfl, _⟩; rfl) | (rintro _ _ _ ⟨_, _, _, _, _, _, _, _, _, _, _, _, _, _, rfl, _⟩; rfl) | (rintro _ _ _ ⟨_, _, _, _, _, _, _, _, _, _, _, _, _, _, _, rfl, _⟩; rfl) | (rintro _ _ _ ⟨_, _, _, _, _, _, _, _, _, _, _, _, _, _, _, _, rfl, _⟩; rfl) | (rintro _ _ _ ⟨_, _, _, _, _, _, _, _, _, _, _, _, _, _, _, _, _, rfl, _⟩; rfl) | (rintro _ _ _ ⟨_, _, _, _, _, _, _, _, _, _, _, _, _, _, _, _, _, _, rfl, _⟩; rfl) | (rintro _ _ _ ⟨_, _, _, _, _, _, _, _, _, _, _, _, _, _, _, _, _, _, _, rfl, _⟩; rfl) | (rintro _ _ _ ⟨_, _, _, _, _, _, _, _, _, _, _, _, _, _, _, _, _, _, _, _, rfl, _⟩; rfl) | (rintro _ _ _ ⟨_, _, _, _, _, _, _, _, _, _, _, _, _, _, _, _, _, _, _, _, _, rfl, _⟩; rfl) | (rintro _ _ _ ⟨_, _, _, _, _, _, _, _, _, _, _, _, _, _, _, _, _, _, _, _, _, _, rfl, _⟩; rfl) | (rintro _ _ _ ⟨_, _, _, _, _, _, _, _, _, _, _, _, _, _, _, _, _, _, _, _, _, _, _, rfl, _⟩; rfl) | (rintro _ _ _ ⟨_, _, _, _, _, _, _, _, _, _, _, _, _, _, _, _, _, _, _, _, _, _, _, _, rfl, _⟩; rfl) | (rintro _ _ _ ⟨_, _, _, _, _, _, _, _, _, _, _, _, _, _, _, _, _, _, _, _, _, _, _, _, _, rfl, _⟩; rfl)) wp_cright
  have G__law_parts_right : Fn P w K mg base CX0 4 "_law_parts_right" sp_pright := D__law_parts_right.fn sc__law_parts_right rfl rfl (hT_of (by decide)) ((rd__law_parts_right (sp_parts := sp_parts) (sp__law_draw := sp_draw) (sp_hangs := sp_hangs) (sp_cut := sp_cut)).2 3 z_len z_max z_min z_range z_sorted z_tuple G_parts (by first | decide | omega) G__law_draw (by first | decide | omega) G_hangs (by first | decide | omega) G_cut (by first | decide | omega)) (by first | (rintro _ _ _ ⟨rfl, _⟩; rfl) | (rintro _ _ _ ⟨_, rfl, _⟩; rfl) | (rintro _ _ _ ⟨_, _, rfl, _⟩; rfl) | (rintro _ _ _ ⟨_, _, _, rfl, _⟩; rfl) | (rintro _ _ _ ⟨_, _, _, _, rfl, _⟩; rfl) | (rintro _ _ _ ⟨_, _, _, _, _, rfl, _⟩; rfl) | (rintro _ _ _ ⟨_, _, _, _, _, _, rfl, _⟩; rfl) | (rintro _ _ _ ⟨_, _, _, _, _, _, _, rfl, _⟩; rfl) | (rintro _ _ _ ⟨_, _, _, _, _, _, _, _, rfl, _⟩; rfl) | (rintro _ _ _ ⟨_, _, _, _, _, _, _, _, _, rfl, _⟩; rfl) | (rintro _ _ _ ⟨_, _, _, _, _, _, _, _, _, _, rfl, _⟩; rfl) | (rintro _ _ _ ⟨_, _, _, _, _, _, _, _, _, _, _, rfl, _⟩; rfl) | (rintro _ _ _ ⟨_, _, _, _, _, _, _, _, _, _, _, _, rfl, _⟩; rfl) | (rintro _ _ _ ⟨_, _, _, _, _, _, _, _, _, _, _, _, _, rfl, _⟩; rfl) | (rintro _ _ _ ⟨_, _, _, _, _, _, _, _, _, _, _, _, _, _, rfl, _⟩; rfl) | (rintro _ _ _ ⟨_, _, _, _, _, _, _, _, _, _, _, _, _, _, _, rfl, _⟩; rfl) | (rintro _ _ _ ⟨_, _, _, _, _, _, _, _, _, _, _, _, _, _, _, _, rfl, _⟩; rfl) | (rintro _ _ _ ⟨_, _, _, _, _, _, _, _, _, _, _, _, _, _, _, _, _, rfl, _⟩; rfl) | (rintro _ _ _ ⟨_, _, _, _, _, _, _, _, _, _, _, _, _, _, _, _, _, _, rfl, _⟩; rfl) | (rintro _ _ _ ⟨_, _, _, _, _, _, _, _, _, _, _, _, _, _, _, _, _, _, _, rfl, _⟩; rfl) | (rintro _ _ _ ⟨_, _, _, _, _, _, _, _, _, _, _, _, _, _, _, _, _, _, _, _, rfl, _⟩; rfl) | (rintro _ _ _ ⟨_, _, _, _, _, _, _, _, _, _, _, _, _, _, _, _, _, _, _, _, _, rfl, _⟩; rfl) | (rintro _ _ _ ⟨_, _, _, _, _, _, _, _, _, _, _, _, _, _, _, _, _, _, _, _, _, _, rfl, _⟩; rfl) | (rintro _ _ _ ⟨_, _, _, _, _, _, _, _, _, _, _, _, _, _, _, _, _, _, _, _, _, _, _, rfl, _⟩; rfl) | (rintro _ _ _ ⟨_, _, _, _, _, _, _, _, _, _, _, _, _, _, _, _, _, _, _, _, _, _, _, _, rfl, _⟩; rfl) | (rintro _ _ _ ⟨_, _, _, _, _, _, _, _, _, _, _, _, _, _, _, _, _, _, _, _, _, _, _, _, _, rfl, _⟩; rfl)) wp_pright
  exact fn_d (fun_of F_law) sc_law (by first | (rintro _ _ _ ⟨rfl, _⟩; rfl) | (rintro _ _ _ ⟨_, rfl, _⟩; rfl) | (rintro _ _ _ ⟨_, _, rfl, _⟩; rfl) | (rintro _ _ _ ⟨_, _, _, rfl, _⟩; rfl) | (rintro _ _ _ ⟨_, _, _, _, rfl, _⟩; rfl) | (rintro _ _ _ ⟨_, _, _, _, _, rfl, _⟩; rfl) | (rintro _ _ _ ⟨_, _, _, _, _, _, rfl, _⟩; rfl) | (rintro _ _ _ ⟨_, _, _, _, _, _, _, rfl, _⟩; rfl) | (rintro _ _ _ ⟨_, _, _, _, _, _, _, _, rfl, _⟩; rfl) | (rintro _ _ _ ⟨_, _, _, _, _, _, _, _, _, rfl, _⟩; rfl) | (rintro _ _ _ ⟨_, _, _, _, _, _, _, _, _, _, rfl, _⟩; rfl) | (rintro _ _ _ ⟨_, _, _, _, _, _, _, _, _, _, _, rfl, _⟩; rfl) | (rintro _ _ _ ⟨_, _, _, _, _, _, _, _, _, _, _, _, rfl, _⟩; rfl) | (rintro _ _ _ ⟨_, _, _, _, _, _, _, _, _, _, _, _, _, rfl, _⟩; rfl) | (rintro _ _ _ ⟨_, _, _, _, _, _, _, _, _, _, _, _, _, _, rfl, _⟩; rfl) | (rintro _ _ _ ⟨_, _, _, _, _, _, _, _, _, _, _, _, _, _, _, rfl, _⟩; rfl) | (rintro _ _ _ ⟨_, _, _, _, _, _, _, _, _, _, _, _, _, _, _, _, rfl, _⟩; rfl) | (rintro _ _ _ ⟨_, _, _, _, _, _, _, _, _, _, _, _, _, _, _, _, _, rfl, _⟩; rfl) | (rintro _ _ _ ⟨_, _, _, _, _, _, _, _, _, _, _, _, _, _, _, _, _, _, rfl, _⟩; rfl) | (rintro _ _ _ ⟨_, _, _, _, _, _, _, _, _, _, _, _, _, _, _, _, _, _, _, rfl, _⟩; rfl) | (rintro _ _ _ ⟨_, _, _, _, _, _, _, _, _, _, _, _, _, _, _, _, _, _, _, _, rfl, _⟩; rfl) | (rintro _ _ _ ⟨_, _, _, _, _, _, _, _, _, _, _, _, _, _, _, _, _, _, _, _, _, rfl, _⟩; rfl) | (rintro _ _ _ ⟨_, _, _, _, _, _, _, _, _, _, _, _, _, _, _, _, _, _, _, _, _, _, rfl, _⟩; rfl) | (rintro _ _ _ ⟨_, _, _, _, _, _, _, _, _, _, _, _, _, _, _, _, _, _, _, _, _, _, _, rfl, _⟩; rfl) | (rintro _ _ _ ⟨_, _, _, _, _, _, _, _, _, _, _, _, _, _, _, _, _, _, _, _, _, _, _, _, rfl, _⟩; rfl) | (rintro _ _ _ ⟨_, _, _, _, _, _, _, _, _, _, _, _, _, _, _, _, _, _, _, _, _, _, _, _, _, rfl, _⟩; rfl)) rfl rfl (hT_of (by decide)) (fun cdv A outer s H E hr => (rd_law (sp__law_cells := sp_cells) (sp__law_hand := sp_hand) (sp__law_web := sp_web) (sp__law_size := sp_size40) (sp__law_cuts_right := sp_cright) (sp__law_parts_right := sp_pright) (sp__law_great := sp_great)).2 4 G__law_cells (by first | decide | omega) G__law_hand (by first | decide | omega) G__law_web (by first | decide | omega) G__law_size (by first | decide | omega) G__law_cuts_right (by first | decide | omega) G__law_parts_right (by first | decide | omega) G__law_great (by first | decide | omega) _ cdv A outer s H E hr) wp_law
end L3
open PySem PySem.W PySem.Calls PyProof.Rows
set_option maxHeartbeats 0 in
theorem PySem.Challenge.cw_commonweb_k06_whole_cuts_of_cuts_holds : PySem.Challenge.rw_commonweb_k06_whole_cuts_of_cuts.Holds := by
  w_on; o_law
  refine HandSHeadRun.head_any (r := OpenLaw.row PySem.Challenge.rw_commonweb_k06_whole_cuts_of_cuts) (q := view (OpenLaw.row PySem.Challenge.rw_commonweb_k06_whole_cuts_of_cuts).prog [19]) (H := L3.hk) (ob := L3.ob) (M := 4000) (loose := L3.nmL) (d := HandSHeadRun.topDef (OpenLaw.row PySem.Challenge.rw_commonweb_k06_whole_cuts_of_cuts).prog 19) (kwd := []) L3.ob_eq
    (by kernel_rfl) (fun s => by kernel_rfl) L3.run (by kernel_rfl) (by kernel_rfl) (by kernel_rfl) (by rfl) (by first | assumption | decide +kernel) (by decide +kernel) ⟨rfl, rfl, rfl, rfl, rfl, by decide +kernel⟩ ?hw ?hc
  case hw => w_witness2
  case hc =>
    refine L3.walk_ofEB (l := PySem.Challenge.rw_commonweb_k06_whole_cuts_of_cuts) (n := 63) (k := 5) (x := "script") (CX := L2.CX0) rfl (by decide) (by kernel_rfl) ⟨rfl, by decide, by decide, rfl⟩ ?F (fun _ _ _ _ z => z)
    intro w mg fa h Y G hmg0
    obtain ⟨K, KX, c⟩ := Y
    have hmg : mg ("law" : PySem.Str) = some (.ref fa) := by
      have e : (HandSHeadRun.topDef (OpenLaw.row PySem.Challenge.rw_commonweb_k06_whole_cuts_of_cuts).prog 19).name = ("law" : PySem.Str) := by kernel_rfl
      rw [← e]
      exact hmg0
    obtain ⟨fd, hb, hF⟩ := L3.facts (P := (PySem.Challenge.rw_commonweb_k06_whole_cuts_of_cuts).prog) (w := w) KX G hmg c
    exact ⟨K, fd, L3.spV K L3.spLaw, KX, hb, fun H a ns hl hbits _ hS => L3.law_start hl hbits hS, hF⟩
