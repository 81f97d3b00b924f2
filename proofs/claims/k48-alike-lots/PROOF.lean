import PyProof.Rows.All
import Wide.All
import OpenK.AllK
import Wide.FinOn
import HandS.ForMost
import HandS.Exc
import HandS.ForExc
import HandS.Zip
import HandS.WideBits
import HandS.Wide
import HandS.TupAny
import HandS.TupMul
import HandS.IsInst
import HandS.Conv
import HandS.Deep
import HandS.Style
import OpenK.KMore
import HandS.WordsExc
import HandS.EndBits
import KE.IntBitsLaws
import KE.BitLaws
import HandS.SortInts
import KE.GoesEnum
import KE.GoesMore
import KE.SortData
import PySem.Challenge.RW_eachmeets_k48_whole_alike_and_firm_lots
set_option Elab.async false
set_option linter.all false
set_option maxRecDepth 100000
/-! PV: values, ownership, the relation to the abstract heap of HandS. -/
namespace PV
open PySem PySem.Spec PyProof.Rows L2

/-- a value: lists, dicts, instances bear whether they are owned (o) -/
inductive Val where
  | gone | non | bl (b : Bool) | int (i : Int) | str (x : Str)
  | tup (xs : List Val) | lst (o : Bool) (xs : List Val)
  | scr (ns : List Int)
  | dic (o : Bool) (ks vs : List Val)
  | ins (o : Bool) (n : Str) (ns : List Str) (vs : List Val)
  deriving Inhabited

abbrev Cnt := Addr → Nat
abbrev AP := Addr → Prop
structure Gl where
  K : PySem.W.Frag
  mg : Str → Option Value
def one (a : Addr) : Cnt := fun b => if b = a then 1 else 0
theorem one_same (a : Addr) : one a a = 1 := if_pos rfl
theorem one_ne {a b : Addr} (h : b ≠ a) : one a b = 0 := if_neg h

def keyVal : Key → Val
  | .inl i => .int i
  | .inr x => .str x
def dObj (H : Hp) (a : Addr) (ks : List Val) (ys : List V) : Prop :=
  (∃ kvs : List (Key × V), H a = some (.dK kvs) ∧ ks = kvs.map (fun p => keyVal p.1) ∧ ys = kvs.map (·.2)) ∨
  (∃ kvs : List (List Key × V), H a = some (.dT kvs) ∧ ks = kvs.map (fun p => .tup (p.1.map keyVal)) ∧ ys = kvs.map (·.2))
/-- a list of the module's own top -/
def KL (K : PySem.W.Frag) (a : Addr) (xs : List V) : Prop :=
  ∃ (o : Obj) (its : Array Value) (n : Nat), K.lookup a = some o ∧ o.cls = .type "list" ∧ o.dict = none ∧ o.data = .seq its n ∧ its.size ≤ sizeLine ∧ Vals xs its.toList
/-- the script -/
def sObj (K : PySem.W.Frag) (H : Hp) (Z : AP) (a : Addr) (ys : List V) : Prop :=
  (H a = some (.lst ys) ∧ Z a) ∨ (∃ o, H a = some (.frz o (.lst ys))) ∨ KL K a ys
def own1 (o : Bool) (a : Addr) (d c : Cnt) : Prop := ∀ b, c b = d b + (if o then one a b else 0)

mutual
def R (g : Gl) (H : Hp) (Z : AP) : Val → V → Cnt → Prop
  | .gone, _, c => ∀ a, c a = 0
  | .non, x, c => x = .non ∧ ∀ a, c a = 0
  | .bl b, x, c => x = .bl b ∧ ∀ a, c a = 0
  | .int i, x, c => x = .int i ∧ ∀ a, c a = 0
  | .str s, x, c => x = .str s ∧ ∀ a, c a = 0
  | .tup xs, x, c => ∃ a ys, x = .ref a ∧ SqT g.K H a ys ∧ Rs g H Z xs ys c
  | .scr ns, x, c => ∃ a, x = .ref a ∧ sObj g.K H Z a (ns.map V.int) ∧ ∀ a, c a = 0
  | .lst o xs, x, c => ∃ a ys d, x = .ref a ∧ H a = some (.lst ys) ∧ (o = false → Z a) ∧ Rs g H Z xs ys d ∧ own1 o a d c
  | .dic o ks vs, x, c => ∃ a ys d, x = .ref a ∧ dObj H a ks ys ∧ (o = false → Z a) ∧ Rs g H Z vs ys d ∧ own1 o a d c
  | .ins o n ns vs, x, c => ∃ a C dx fs d, x = .ref a ∧ g.mg n = some (.ref C) ∧ H a = some (.ins C dx fs) ∧ ns = fs.map (·.1) ∧ (o = false → Z a) ∧ Rs g H Z vs (fs.map (·.2)) d ∧ own1 o a d c
def Rs (g : Gl) (H : Hp) (Z : AP) : List Val → List V → Cnt → Prop
  | [], ys, c => ys = [] ∧ ∀ a, c a = 0
  | x :: xs, ys, c => ∃ y zs c1 c2, ys = y :: zs ∧ R g H Z x y c1 ∧ Rs g H Z xs zs c2 ∧ ∀ a, c a = c1 a + c2 a
end
mutual
def own : Val → Bool
  | .tup xs => owns xs
  | .lst o xs => o || owns xs
  | .dic o _ vs => o || owns vs
  | .ins o _ _ vs => o || owns vs
  | _ => false
def owns : List Val → Bool
  | [] => false
  | x :: xs => own x || owns xs
end
mutual
def frz : Val → Val
  | .tup xs => .tup (frzs xs)
  | .lst _ xs => .lst false (frzs xs)
  | .dic _ ks vs => .dic false ks (frzs vs)
  | .ins _ n ns vs => .ins false n ns (frzs vs)
  | .gone => .gone
  | .scr ns => .scr ns
  | .non => .non
  | .bl b => .bl b
  | .int i => .int i
  | .str s => .str s
def frzs : List Val → List Val
  | [] => []
  | x :: xs => frz x :: frzs xs
end
theorem frzs_eq (xs : List Val) : frzs xs = xs.map frz := by
  induction xs with
  | nil => rfl
  | cons x xs ih => rw [frzs, ih, List.map_cons]
theorem owns_any (xs : List Val) : owns xs = xs.any own := by
  induction xs with
  | nil => rfl
  | cons x xs ih => rw [owns, ih, List.any_cons]

section
variable {g : Gl} {H H' : Hp} {Z Z' : AP}
/-- counts alike -/
theorem own1_eq {o : Bool} {a : Addr} {d c c' : Cnt} (h : own1 o a d c) (e : ∀ a, c' a = c a) : own1 o a d c' := fun b => by rw [e, h]
mutual
theorem R_eq : ∀ (v : Val) (x : V) (c c' : Cnt), (∀ a, c' a = c a) → R g H Z v x c → R g H Z v x c'
  | .gone, x, c, c', e, h => by simp only [R] at h ⊢; exact fun a => (e a).trans (h a)
  | .non, x, c, c', e, h => by simp only [R] at h ⊢; exact ⟨h.1, fun a => (e a).trans (h.2 a)⟩
  | .bl _, x, c, c', e, h => by simp only [R] at h ⊢; exact ⟨h.1, fun a => (e a).trans (h.2 a)⟩
  | .int _, x, c, c', e, h => by simp only [R] at h ⊢; exact ⟨h.1, fun a => (e a).trans (h.2 a)⟩
  | .str _, x, c, c', e, h => by simp only [R] at h ⊢; exact ⟨h.1, fun a => (e a).trans (h.2 a)⟩
  | .tup xs, x, c, c', e, h => by
    simp only [R] at h ⊢
    obtain ⟨a, ys, h1, h2, h3⟩ := h
    exact ⟨a, ys, h1, h2, Rs_eq xs ys c c' e h3⟩
  | .scr ns, x, c, c', e, h => by
    simp only [R] at h ⊢
    obtain ⟨a, h1, h2, h3⟩ := h
    exact ⟨a, h1, h2, fun a => (e a).trans (h3 a)⟩
  | .lst o xs, x, c, c', e, h => by
    simp only [R] at h ⊢
    obtain ⟨a, ys, d, h1, h2, h3, h4, h5⟩ := h
    exact ⟨a, ys, d, h1, h2, h3, h4, own1_eq h5 e⟩
  | .dic o ks vs, x, c, c', e, h => by
    simp only [R] at h ⊢
    obtain ⟨a, ys, d, h1, h2, h3, h4, h5⟩ := h
    exact ⟨a, ys, d, h1, h2, h3, h4, own1_eq h5 e⟩
  | .ins o n ns vs, x, c, c', e, h => by
    simp only [R] at h ⊢
    obtain ⟨a, C, dx, fs, d, h1, h2, h3, h4, h5, h6, h7⟩ := h
    exact ⟨a, C, dx, fs, d, h1, h2, h3, h4, h5, h6, own1_eq h7 e⟩
theorem Rs_eq : ∀ (xs : List Val) (ys : List V) (c c' : Cnt), (∀ a, c' a = c a) → Rs g H Z xs ys c → Rs g H Z xs ys c'
  | [], ys, c, c', e, h => by simp only [Rs] at h ⊢; exact ⟨h.1, fun a => (e a).trans (h.2 a)⟩
  | x :: xs, ys, c, c', e, h => by
    simp only [Rs] at h ⊢
    obtain ⟨y, zs, c1, c2, h1, h2, h3, h4⟩ := h
    exact ⟨y, zs, c1, c2, h1, h2, h3, fun a => (e a).trans (h4 a)⟩
end
mutual
/-- what is owned can be written -/
theorem R_own : ∀ (v : Val) (x : V) (c : Cnt) (a : Addr), R g H Z v x c → c a ≠ 0 → ∃ o, H a = some o ∧ Mut (some o)
  | .gone, x, c, a, h, n => by simp only [R] at h; exact absurd (h a) n
  | .non, x, c, a, h, n => by simp only [R] at h; exact absurd (h.2 a) n
  | .bl _, x, c, a, h, n => by simp only [R] at h; exact absurd (h.2 a) n
  | .int _, x, c, a, h, n => by simp only [R] at h; exact absurd (h.2 a) n
  | .str _, x, c, a, h, n => by simp only [R] at h; exact absurd (h.2 a) n
  | .tup xs, x, c, a, h, n => by
    simp only [R] at h
    obtain ⟨b, ys, h1, h2, h3⟩ := h
    exact Rs_own xs ys c a h3 n
  | .scr ns, x, c, a, h, n => by simp only [R] at h; obtain ⟨b, h1, h2, h3⟩ := h; exact absurd (h3 a) n
  | .lst o xs, x, c, a, h, n => by
    simp only [R] at h
    obtain ⟨b, ys, d, h1, h2, hz, h3, h4⟩ := h
    by_cases hd : d a = 0
    · cases o with
      | false => exact absurd ((h4 a).trans (by simp [hd])) n
      | true =>
        by_cases e : a = b
        · subst e; exact ⟨_, h2, trivial⟩
        · exact absurd ((h4 a).trans (by simp [hd, one_ne e])) n
    · exact Rs_own xs ys d a h3 hd
  | .dic o ks vs, x, c, a, h, n => by
    simp only [R] at h
    obtain ⟨b, ys, d, h1, h2, h3, h4, h5⟩ := h
    by_cases hd : d a = 0
    · cases o with
      | false => exact absurd ((h5 a).trans (by simp [hd])) n
      | true =>
        by_cases e : a = b
        · subst e
          rcases h2 with ⟨kvs, q, _⟩ | ⟨kvs, q, _⟩
          · exact ⟨_, q, trivial⟩
          · exact ⟨_, q, trivial⟩
        · exact absurd ((h5 a).trans (by simp [hd, one_ne e])) n
    · exact Rs_own vs ys d a h4 hd
  | .ins o n' ns vs, x, c, a, h, n => by
    simp only [R] at h
    obtain ⟨b, C, dx, fs, d, h1, h2, h3, h4, h5, h6, h7⟩ := h
    by_cases hd : d a = 0
    · cases o with
      | false => exact absurd ((h7 a).trans (by simp [hd])) n
      | true =>
        by_cases e : a = b
        · subst e; exact ⟨_, h3, trivial⟩
        · exact absurd ((h7 a).trans (by simp [hd, one_ne e])) n
    · exact Rs_own vs (fs.map (·.2)) d a h6 hd
theorem Rs_own : ∀ (xs : List Val) (ys : List V) (c : Cnt) (a : Addr), Rs g H Z xs ys c → c a ≠ 0 → ∃ o, H a = some o ∧ Mut (some o)
  | [], ys, c, a, h, n => by simp only [Rs] at h; exact absurd (h.2 a) n
  | x :: xs, ys, c, a, h, n => by
    simp only [Rs] at h
    obtain ⟨y, zs, c1, c2, h1, h2, h3, h4⟩ := h
    by_cases e : c1 a = 0
    · exact Rs_own xs zs c2 a h3 fun z => n (by rw [h4, e, z])
    · exact R_own x y c1 a h2 e
end
/-- what a relation leans on is kept -/
def Kept (H : Hp) (Z : AP) (c : Cnt) (H' : Hp) (Z' : AP) : Prop :=
  (∀ a o, H a = some o → (c a ≠ 0 ∨ Z a ∨ ¬ Mut (some o)) → H' a = some o) ∧ ∀ a, Z a → Z' a
theorem Kept.less {c d : Cnt} (k : Kept H Z c H' Z') (h : ∀ a, d a ≠ 0 → c a ≠ 0) : Kept H Z d H' Z' :=
  ⟨fun a o e q => k.1 a o e (q.imp (h a) id), k.2⟩
theorem SqT_kept {K : PySem.W.Frag} {a : Addr} {ys : List V} {c : Cnt} (k : Kept H Z c H' Z') (h : SqT K H a ys) : SqT K H' a ys := by
  rcases h with (h | ⟨o, h⟩) | h
  · exact .inl (.inl (k.1 a _ h (.inr (.inr fun z => z))))
  · exact .inl (.inr ⟨o, k.1 a _ h (.inr (.inr fun z => z))⟩)
  · exact .inr h
theorem sObj_kept {K : PySem.W.Frag} {a : Addr} {ys : List V} {c : Cnt} (k : Kept H Z c H' Z') (h : sObj K H Z a ys) : sObj K H' Z' a ys := by
  rcases h with ⟨h, hz⟩ | ⟨o, h⟩ | h
  · exact .inl ⟨k.1 a _ h (.inr (.inl hz)), k.2 a hz⟩
  · exact .inr (.inl ⟨o, k.1 a _ h (.inr (.inr fun z => z))⟩)
  · exact .inr (.inr h)
theorem sObj.sq {K : PySem.W.Frag} {a : Addr} {ys : List V} (h : sObj K H Z a ys) : SqL K H a ys := by
  rcases h with ⟨h, hz⟩ | ⟨o, h⟩ | h
  · exact .inl (.inl h)
  · exact .inl (.inr ⟨o, h⟩)
  · exact .inr h
theorem own1_pos {o : Bool} {a : Addr} {d c : Cnt} (h : own1 o a d c) (b : Addr) (n : d b ≠ 0) : c b ≠ 0 := by
  rw [h b]; omega
theorem own1_self {a : Addr} {d c : Cnt} (h : own1 true a d c) : c a ≠ 0 := by
  rw [h a]; simp [one_same]
theorem dObj_kept {a : Addr} {ks : List Val} {ys : List V} {c : Cnt} (k : Kept H Z c H' Z') (hc : c a ≠ 0 ∨ Z a) (h : dObj H a ks ys) : dObj H' a ks ys := by
  rcases h with ⟨kvs, h, r⟩ | ⟨kvs, h, r⟩
  · exact .inl ⟨kvs, k.1 a _ h (hc.imp id .inl), r⟩
  · exact .inr ⟨kvs, k.1 a _ h (hc.imp id .inl), r⟩
mutual
theorem R_kept : ∀ (v : Val) (x : V) (c : Cnt), Kept H Z c H' Z' → R g H Z v x c → R g H' Z' v x c
  | .gone, x, c, k, h => by simp only [R] at h ⊢; exact h
  | .non, x, c, k, h => by simp only [R] at h ⊢; exact h
  | .bl _, x, c, k, h => by simp only [R] at h ⊢; exact h
  | .int _, x, c, k, h => by simp only [R] at h ⊢; exact h
  | .str _, x, c, k, h => by simp only [R] at h ⊢; exact h
  | .tup xs, x, c, k, h => by
    simp only [R] at h ⊢
    obtain ⟨b, ys, h1, h2, h3⟩ := h
    exact ⟨b, ys, h1, SqT_kept k h2, Rs_kept xs ys c k h3⟩
  | .scr ns, x, c, k, h => by
    simp only [R] at h ⊢
    obtain ⟨b, h1, h2, h3⟩ := h
    exact ⟨b, h1, sObj_kept k h2, h3⟩
  | .lst o xs, x, c, k, h => by
    simp only [R] at h ⊢
    obtain ⟨b, ys, d, h1, h2, hz, h3, h4⟩ := h
    refine ⟨b, ys, d, h1, k.1 b _ h2 ?_, fun e => k.2 b (hz e), Rs_kept xs ys d (k.less (own1_pos h4)) h3, h4⟩
    cases o with
    | true => exact .inl (own1_self h4)
    | false => exact .inr (.inl (hz rfl))
  | .dic o ks vs, x, c, k, h => by
    simp only [R] at h ⊢
    obtain ⟨b, ys, d, h1, h2, h3, h4, h5⟩ := h
    refine ⟨b, ys, d, h1, dObj_kept k ?_ h2, fun e => k.2 b (h3 e), Rs_kept vs ys d (k.less (own1_pos h5)) h4, h5⟩
    cases o with
    | true => exact .inl (own1_self h5)
    | false => exact .inr (h3 rfl)
  | .ins o n ns vs, x, c, k, h => by
    simp only [R] at h ⊢
    obtain ⟨b, C, dx, fs, d, h1, h2, h3, h4, h5, h6, h7⟩ := h
    refine ⟨b, C, dx, fs, d, h1, h2, k.1 b _ h3 ?_, h4, fun e => k.2 b (h5 e), Rs_kept vs _ d (k.less (own1_pos h7)) h6, h7⟩
    cases o with
    | true => exact .inl (own1_self h7)
    | false => exact .inr (.inl (h5 rfl))
theorem Rs_kept : ∀ (xs : List Val) (ys : List V) (c : Cnt), Kept H Z c H' Z' → Rs g H Z xs ys c → Rs g H' Z' xs ys c
  | [], ys, c, k, h => by simp only [Rs] at h ⊢; exact h
  | x :: xs, ys, c, k, h => by
    simp only [Rs] at h ⊢
    obtain ⟨y, zs, c1, c2, h1, h2, h3, h4⟩ := h
    exact ⟨y, zs, c1, c2, h1, R_kept x y c1 (k.less fun a n => by rw [h4]; omega) h2, Rs_kept xs zs c2 (k.less fun a n => by rw [h4]; omega) h3, h4⟩
end
mutual
/-- what was owned is frozen -/
theorem R_frz : ∀ (v : Val) (x : V) (c : Cnt), (∀ a, c a ≠ 0 → Z' a) → (∀ a, Z a → Z' a) → R g H Z v x c → R g H Z' (frz v) x (fun _ => 0)
  | .gone, x, c, hc, hz, h => by simp only [R, frz] at h ⊢; intros; trivial
  | .non, x, c, hc, hz, h => by simp only [R, frz] at h ⊢; exact ⟨h.1, fun _ => trivial⟩
  | .bl _, x, c, hc, hz, h => by simp only [R, frz] at h ⊢; exact ⟨h.1, fun _ => trivial⟩
  | .int _, x, c, hc, hz, h => by simp only [R, frz] at h ⊢; exact ⟨h.1, fun _ => trivial⟩
  | .str _, x, c, hc, hz, h => by simp only [R, frz] at h ⊢; exact ⟨h.1, fun _ => trivial⟩
  | .tup xs, x, c, hc, hz, h => by
    simp only [R, frz] at h ⊢
    obtain ⟨b, ys, h1, h2, h3⟩ := h
    exact ⟨b, ys, h1, h2, Rs_frz xs ys c hc hz h3⟩
  | .scr ns, x, c, hc, hz, h => by
    simp only [R, frz] at h ⊢
    obtain ⟨b, h1, h2, h3⟩ := h
    exact ⟨b, h1, sObj_kept (c := c) ⟨fun _ _ e _ => e, hz⟩ h2, fun _ => trivial⟩
  | .lst o xs, x, c, hc, hz, h => by
    simp only [R, frz] at h ⊢
    obtain ⟨b, ys, d, h1, h2, h3, h4, h5⟩ := h
    refine ⟨b, ys, fun _ => 0, h1, h2, fun _ => ?_, Rs_frz xs ys d (fun a n => hc a (own1_pos h5 a n)) hz h4, fun _ => rfl⟩
    cases o with
    | true => exact hc b (own1_self h5)
    | false => exact hz b (h3 rfl)
  | .dic o ks vs, x, c, hc, hz, h => by
    simp only [R, frz] at h ⊢
    obtain ⟨b, ys, d, h1, h2, h3, h4, h5⟩ := h
    refine ⟨b, ys, fun _ => 0, h1, h2, fun _ => ?_, Rs_frz vs ys d (fun a n => hc a (own1_pos h5 a n)) hz h4, fun _ => rfl⟩
    cases o with
    | true => exact hc b (own1_self h5)
    | false => exact hz b (h3 rfl)
  | .ins o n ns vs, x, c, hc, hz, h => by
    simp only [R, frz] at h ⊢
    obtain ⟨b, C, dx, fs, d, h1, h2, h3, h4, h5, h6, h7⟩ := h
    refine ⟨b, C, dx, fs, fun _ => 0, h1, h2, h3, h4, fun _ => ?_, Rs_frz vs _ d (fun a n => hc a (own1_pos h7 a n)) hz h6, fun _ => rfl⟩
    cases o with
    | true => exact hc b (own1_self h7)
    | false => exact hz b (h5 rfl)
theorem Rs_frz : ∀ (xs : List Val) (ys : List V) (c : Cnt), (∀ a, c a ≠ 0 → Z' a) → (∀ a, Z a → Z' a) → Rs g H Z xs ys c → Rs g H Z' (frzs xs) ys (fun _ => 0)
  | [], ys, c, hc, hz, h => by simp only [Rs, frzs] at h ⊢; exact ⟨h.1, fun _ => trivial⟩
  | x :: xs, ys, c, hc, hz, h => by
    simp only [Rs, frzs] at h ⊢
    obtain ⟨y, zs, c1, c2, h1, h2, h3, h4⟩ := h
    exact ⟨y, zs, _, _, h1, R_frz x y c1 (fun a n => hc a (by rw [h4]; omega)) hz h2, Rs_frz xs zs c2 (fun a n => hc a (by rw [h4]; omega)) hz h3, fun _ => rfl⟩
end
mutual
theorem own_zero : ∀ (v : Val) (x : V) (c : Cnt), own v = false → R g H Z v x c → ∀ a, c a = 0
  | .gone, x, c, o, h => by simp only [R] at h; exact h
  | .non, x, c, o, h => by simp only [R] at h; exact h.2
  | .bl _, x, c, o, h => by simp only [R] at h; exact h.2
  | .int _, x, c, o, h => by simp only [R] at h; exact h.2
  | .str _, x, c, o, h => by simp only [R] at h; exact h.2
  | .tup xs, x, c, o, h => by
    simp only [R] at h
    obtain ⟨b, ys, h1, h2, h3⟩ := h
    exact owns_zero xs ys c (by simpa [own] using o) h3
  | .scr _, x, c, o, h => by simp only [R] at h; obtain ⟨b, h1, h2, h3⟩ := h; exact h3
  | .lst w xs, x, c, o, h => by
    simp only [R] at h
    obtain ⟨b, ys, d, h1, h2, hz, h3, h4⟩ := h
    obtain ⟨e, o⟩ : w = false ∧ owns xs = false := by simpa [own] using o
    subst e
    exact fun a => (h4 a).trans (by simp [owns_zero xs ys d o h3 a])
  | .dic w ks vs, x, c, o, h => by
    simp only [R] at h
    obtain ⟨b, ys, d, h1, h2, h3, h4, h5⟩ := h
    obtain ⟨e, o⟩ : w = false ∧ owns vs = false := by simpa [own] using o
    subst e
    exact fun a => (h5 a).trans (by simp [owns_zero vs ys d o h4 a])
  | .ins w n ns vs, x, c, o, h => by
    simp only [R] at h
    obtain ⟨b, C, dx, fs, d, h1, h2, h3, h4, h5, h6, h7⟩ := h
    obtain ⟨e, o⟩ : w = false ∧ owns vs = false := by simpa [own] using o
    subst e
    exact fun a => (h7 a).trans (by simp [owns_zero vs _ d o h6 a])
theorem owns_zero : ∀ (xs : List Val) (ys : List V) (c : Cnt), owns xs = false → Rs g H Z xs ys c → ∀ a, c a = 0
  | [], ys, c, o, h => by simp only [Rs] at h; exact h.2
  | x :: xs, ys, c, o, h => by
    simp only [Rs] at h
    obtain ⟨y, zs, c1, c2, h1, h2, h3, h4⟩ := h
    obtain ⟨o1, o2⟩ : own x = false ∧ owns xs = false := by simpa [owns] using o
    exact fun a => (h4 a).trans (by rw [own_zero x y c1 o1 h2 a, owns_zero xs zs c2 o2 h3 a])
end
mutual
theorem frz_own : ∀ v : Val, own v = false → frz v = v
  | .gone, o => rfl
  | .scr _, o => rfl
  | .non, o => rfl
  | .bl _, o => rfl
  | .int _, o => rfl
  | .str _, o => rfl
  | .tup xs, o => by rw [frz, frzs_own xs (by simpa [own] using o)]
  | .lst w xs, o => by
    obtain ⟨e, o⟩ : w = false ∧ owns xs = false := by simpa [own] using o
    rw [frz, frzs_own xs o, e]
  | .dic w ks vs, o => by
    obtain ⟨e, o⟩ : w = false ∧ owns vs = false := by simpa [own] using o
    rw [frz, frzs_own vs o, e]
  | .ins w n ns vs, o => by
    obtain ⟨e, o⟩ : w = false ∧ owns vs = false := by simpa [own] using o
    rw [frz, frzs_own vs o, e]
theorem frzs_own : ∀ xs : List Val, owns xs = false → frzs xs = xs
  | [], _ => rfl
  | x :: xs, o => by
    obtain ⟨o1, o2⟩ : own x = false ∧ owns xs = false := by simpa [owns] using o
    rw [frzs, frz_own x o1, frzs_own xs o2]
end
mutual
theorem own_frz : ∀ v : Val, own (frz v) = false
  | .gone => rfl
  | .scr _ => rfl
  | .non => rfl
  | .bl _ => rfl
  | .int _ => rfl
  | .str _ => rfl
  | .tup xs => by rw [frz, own, owns_frzs xs]
  | .lst w xs => by rw [frz, own, owns_frzs xs]; rfl
  | .dic w ks vs => by rw [frz, own, owns_frzs vs]; rfl
  | .ins w n ns vs => by rw [frz, own, owns_frzs vs]; rfl
theorem owns_frzs : ∀ xs : List Val, owns (frzs xs) = false
  | [] => rfl
  | x :: xs => by rw [frzs, owns, own_frz x, owns_frzs xs]; rfl
end
theorem Rs_len : ∀ {xs : List Val} {ys : List V} {c : Cnt}, Rs g H Z xs ys c → ys.length = xs.length
  | [], ys, c, h => by simp only [Rs] at h; rw [h.1]; rfl
  | x :: xs, ys, c, h => by
    simp only [Rs] at h
    obtain ⟨y, zs, c1, c2, h1, h2, h3, h4⟩ := h
    rw [h1, List.length_cons, List.length_cons, Rs_len h3]
theorem Rs_append : ∀ {xs xs' : List Val} {ys ys' : List V} {c c' d : Cnt}, Rs g H Z xs ys c → Rs g H Z xs' ys' c' → (∀ a, d a = c a + c' a) → Rs g H Z (xs ++ xs') (ys ++ ys') d
  | [], xs', ys, ys', c, c', d, h, h', e => by
    simp only [Rs] at h
    rw [h.1]
    exact Rs_eq xs' ys' c' d (fun a => by rw [e, h.2, Nat.zero_add]) h'
  | x :: xs, xs', ys, ys', c, c', d, h, h', e => by
    simp only [Rs] at h
    obtain ⟨y, zs, c1, c2, h1, h2, h3, h4⟩ := h
    rw [h1]
    show Rs g H Z (x :: (xs ++ xs')) (y :: (zs ++ ys')) d
    simp only [Rs]
    exact ⟨y, _, c1, fun a => c2 a + c' a, rfl, h2, Rs_append h3 h' fun _ => rfl, fun a => by rw [e, h4, Nat.add_assoc]⟩
theorem Rs_split : ∀ {xs xs' : List Val} {ys : List V} {d : Cnt}, Rs g H Z (xs ++ xs') ys d → ∃ zs zs' c c', ys = zs ++ zs' ∧ Rs g H Z xs zs c ∧ Rs g H Z xs' zs' c' ∧ ∀ a, d a = c a + c' a
  | [], xs', ys, d, h => ⟨[], ys, fun _ => 0, d, rfl, by simp only [Rs]; exact ⟨trivial, fun _ => trivial⟩, h, fun a => (Nat.zero_add _).symm⟩
  | x :: xs, xs', ys, d, h => by
    have h : Rs g H Z (x :: (xs ++ xs')) ys d := h
    simp only [Rs] at h
    obtain ⟨y, zs, c1, c2, h1, h2, h3, h4⟩ := h
    obtain ⟨zs1, zs2, d1, d2, e1, r1, r2, e2⟩ := Rs_split h3
    refine ⟨y :: zs1, zs2, fun a => c1 a + d1 a, d2, by rw [h1, e1]; rfl, ?_, r2, fun a => by rw [h4, e2, Nat.add_assoc]⟩
    simp only [Rs]
    exact ⟨y, zs1, c1, d1, rfl, h2, r1, fun _ => rfl⟩
theorem Rs_one {x : Val} {y : V} {c : Cnt} (h : R g H Z x y c) : Rs g H Z [x] [y] c := by
  simp only [Rs]
  exact ⟨y, [], c, fun _ => 0, rfl, h, ⟨rfl, fun _ => rfl⟩, fun _ => rfl⟩
theorem Rs_nil : Rs g H Z [] [] (fun _ => 0) := by simp only [Rs]; exact ⟨trivial, fun _ => trivial⟩
/-- one item taken out, another put there -/
theorem Rs_at {xs : List Val} {ys : List V} {c : Cnt} {i : Nat} {x : Val} (h : Rs g H Z xs ys c) (e : xs[i]? = some x) :
    ∃ y cx cr, ys[i]? = some y ∧ R g H Z x y cx ∧ (∀ a, c a = cx a + cr a) ∧
      ∀ {H' : Hp} {Z' : AP} {x' : Val} {y' : V} {c' d : Cnt}, Kept H Z cr H' Z' → R g H' Z' x' y' c' → (∀ a, d a = c' a + cr a) → Rs g H' Z' (xs.set i x') (ys.set i y') d := by
  obtain ⟨hi, ex⟩ := List.getElem?_eq_some_iff.mp e
  have ex' : xs = xs.take i ++ (x :: xs.drop (i + 1)) := by rw [← ex, List.getElem_cons_drop, List.take_append_drop]
  rw [ex'] at h
  obtain ⟨z1, z2, c1, c2, e1, r1, r2, e2⟩ := Rs_split h
  simp only [Rs] at r2
  obtain ⟨y, z3, c3, c4, e3, r3, r4, e4⟩ := r2
  have l1 : z1.length = i := by rw [Rs_len r1, List.length_take]; omega
  subst e1 e3
  refine ⟨y, c3, fun a => c1 a + c4 a, by rw [List.getElem?_append_right (by omega), l1, Nat.sub_self]; rfl, r3, fun a => by have e5 := e2 a; have e6 := e4 a; show c a = c3 a + (c1 a + c4 a); omega, ?_⟩
  intro H' Z' x' y' c' d k r' ed
  have s1 : xs.set i x' = xs.take i ++ (x' :: xs.drop (i + 1)) := by
    rw [List.set_eq_take_append_cons_drop, if_pos hi]
  have s2 : (z1 ++ y :: z3).set i y' = z1 ++ (y' :: z3) := by
    rw [List.set_append_right _ _ (by omega), l1, Nat.sub_self]; rfl
  rw [s1, s2]
  refine Rs_append (Rs_kept _ _ c1 (k.less fun a n => by show c1 a + c4 a ≠ 0; omega) r1) (c' := fun a => c' a + c4 a) ?_ fun a => by have e5 : d a = c' a + (c1 a + c4 a) := ed a; show d a = c1 a + (c' a + c4 a); omega
  simp only [Rs]
  exact ⟨y', z3, c', c4, rfl, r', Rs_kept _ _ c4 (k.less fun a n => by show c1 a + c4 a ≠ 0; omega) r4, fun _ => rfl⟩
end
end PV

namespace PV
open PySem PySem.Spec PyProof.Rows L2
/-! ### steps of the state -/
def Good (H : Hp) (Z : AP) (t : Cnt) : Prop := ∀ a, t a ≤ 1 ∧ (t a ≠ 0 → ¬ Z a ∧ ∃ o, H a = some o ∧ Mut (some o)) ∧ (Z a → H a ≠ none)
structure Step (H : Hp) (Z : AP) (t : Cnt) (H' : Hp) (Z' : AP) (t' : Cnt) : Prop where
  keep : ∀ a o, H a = some o → t a = 0 → H' a = some o
  dom : ∀ a, H a ≠ none → H' a ≠ none
  zin : ∀ a, Z a → Z' a
  zout : ∀ a, Z' a → Z a ∨ t a ≠ 0 ∨ H a = none
  own : ∀ a, H a ≠ none → t' a ≤ t a
  good : Good H' Z' t'
section
variable {g : Gl} {H H1 H2 H' : Hp} {Z Z1 Z2 Z' : AP} {t t1 t2 t' u : Cnt}
theorem Step.refl (h : Good H Z t) : Step H Z t H Z t := ⟨fun _ _ e _ => e, fun _ e => e, fun _ e => e, fun _ e => .inl e, fun _ _ => Nat.le_refl _, h⟩
theorem Good.eq (h : Good H Z t) (e : ∀ a, t' a = t a) : Good H Z t' := fun a => by rw [e a]; exact h a
theorem Step.eq (h : Step H Z t H' Z' t1) (e : ∀ a, t2 a = t1 a) : Step H Z t H' Z' t2 :=
  ⟨h.keep, h.dom, h.zin, h.zout, fun a n => by rw [e a]; exact h.own a n, h.good.eq e⟩
theorem Step.eqL (h : Step H Z t H' Z' t') (e : ∀ a, t1 a = t a) : Step H Z t1 H' Z' t' :=
  ⟨fun a o q z => h.keep a o q (by rw [← e a]; exact z), h.dom, h.zin, fun a z => by rw [e a]; exact h.zout a z, fun a n => by rw [e a]; exact h.own a n, h.good⟩
theorem Step.trans (a : Step H Z t H1 Z1 t1) (b : Step H1 Z1 t1 H2 Z2 t2) : Step H Z t H2 Z2 t2 where
  keep := fun x o e z => b.keep x o (a.keep x o e z) (by have := a.own x (by rw [e]; simp); omega)
  dom := fun x n => b.dom x (a.dom x n)
  zin := fun x z => b.zin x (a.zin x z)
  zout := fun x z => by
    rcases b.zout x z with z | z | z
    · exact a.zout x z
    · by_cases e : H x = none
      · exact .inr (.inr e)
      · exact .inr (.inl (by have := a.own x e; omega))
    · exact .inr (.inr (Classical.byContradiction fun n => a.dom x n z))
  own := fun x n => Nat.le_trans (b.own x (a.dom x n)) (a.own x n)
  good := b.good
theorem Good.less (h : Good H Z t) (e : ∀ a, u a ≤ t a) : Good H Z u := fun a => ⟨Nat.le_trans (e a) (h a).1, fun n => (h a).2.1 (by have := e a; omega), (h a).2.2⟩
/-- what was owned is dropped -/
theorem Step.drop (h : Step H Z t H' Z' t') (e : ∀ a, u a ≤ t' a) : Step H Z t H' Z' u :=
  ⟨h.keep, h.dom, h.zin, h.zout, fun a n => Nat.le_trans (e a) (h.own a n), h.good.less e⟩
theorem Good.free (h : Good H Z t) {a : Addr} (n : H a = none) : t a = 0 ∧ ¬ Z a :=
  ⟨Classical.byContradiction fun q => (by obtain ⟨_, o, e, _⟩ := (h a).2.1 q; rw [n] at e; cases e), fun z => (h a).2.2 z n⟩
/-- the frame rule -/
theorem Step.frame (h : Step H Z t H' Z' t') (gd : Good H Z (fun a => t a + u a)) : Step H Z (fun a => t a + u a) H' Z' (fun a => t' a + u a) := by
  have key : ∀ a, t' a + u a ≤ 1 ∧ (u a ≠ 0 → t' a = 0 ∧ t a = 0) := fun a => by
    by_cases e : H a = none
    · have z : t a + u a = 0 := (gd.free e).1
      have := (h.good a).1
      exact ⟨by omega, fun n => by omega⟩
    · have z : t a + u a ≤ 1 := (gd a).1
      have := h.own a e
      exact ⟨by omega, fun n => by omega⟩
  refine ⟨fun a o e z => h.keep a o e (by have z : t a + u a = 0 := z; omega), h.dom, h.zin, fun a z => ?_, fun a n => by show t' a + u a ≤ t a + u a; have := h.own a n; omega, fun a => ⟨(key a).1, fun n => ?_, (h.good a).2.2⟩⟩
  · rcases h.zout a z with q | q | q
    · exact .inl q
    · exact .inr (.inl (by show t a + u a ≠ 0; omega))
    · exact .inr (.inr q)
  · have n : t' a + u a ≠ 0 := n
    by_cases hu : u a = 0
    · exact (h.good a).2.1 (by omega)
    · have ht := (key a).2 hu
      obtain ⟨nz, o, eo, mo⟩ := (gd a).2.1 (show t a + u a ≠ 0 by omega)
      refine ⟨fun z => ?_, o, h.keep a o eo ht.2, mo⟩
      rcases h.zout a z with q | q | q
      · exact nz q
      · exact q ht.2
      · rw [eo] at q; cases q
theorem Step.kept (h : Step H Z t H' Z' t') (gd : Good H Z (fun a => t a + u a)) : Kept H Z u H' Z' := by
  refine ⟨fun a o e q => h.keep a o e ?_, h.zin⟩
  have g1 : t a + u a ≤ 1 := (gd a).1
  rcases q with q | q | q
  · omega
  · have z : ¬ (t a + u a ≠ 0) := fun n => ((gd a).2.1 n).1 q
    omega
  · have z : ¬ (t a + u a ≠ 0) := fun n => by
      obtain ⟨_, o', e', m⟩ := (gd a).2.1 n
      rw [e] at e'; cases e'; exact q m
    omega
/-- all is kept -/
def Same' (H H' : Hp) : Prop := ∀ a o, H a = some o → H' a = some o
theorem Same'.kept (h : Same' H H') (z : ∀ a, Z a → Z' a) : Kept H Z u H' Z' := ⟨fun a o e _ => h a o e, z⟩
/-- new objects alone -/
structure New (H : Hp) (Z : AP) (H' : Hp) (Z' : AP) (r : Cnt) : Prop where
  same : Same' H H'
  zin : ∀ a, Z a → Z' a
  zout : ∀ a, Z' a → Z a ∨ H a = none
  own : ∀ a, r a ≤ 1 ∧ (r a ≠ 0 → H a = none ∧ ¬ Z' a ∧ ∃ o, H' a = some o ∧ Mut (some o))
  zdom : ∀ a, Z' a → H' a ≠ none
theorem New.refl (hz : ∀ a, Z a → H a ≠ none) : New H Z H Z (fun _ => 0) := ⟨fun _ _ e => e, fun _ z => z, fun _ z => .inl z, fun a => ⟨Nat.zero_le _, fun n => absurd rfl n⟩, hz⟩
theorem New.step (n : New H Z H' Z' u) (gd : Good H Z t) : Step H Z t H' Z' (fun a => t a + u a) := by
  have nt : ∀ a, u a ≠ 0 → t a = 0 := fun a q => (gd.free ((n.own a).2 q).1).1
  refine ⟨fun a o e _ => n.same a o e, fun a q => ?_, n.zin, fun a z => (n.zout a z).imp id .inr, fun a q => ?_, fun a => ⟨?_, fun q => ?_, n.zdom a⟩⟩
  · cases e : H a with
    | none => exact absurd e q
    | some o => rw [n.same a o e]; simp
  · show t a + u a ≤ t a
    by_cases z : u a = 0
    · omega
    · exact absurd ((n.own a).2 z).1 q
  · show t a + u a ≤ 1
    have := (gd a).1; have := (n.own a).1; have := nt a
    omega
  · have q : t a + u a ≠ 0 := q
    by_cases z : u a = 0
    · obtain ⟨nz, o, e, m⟩ := (gd a).2.1 (by omega)
      refine ⟨fun z' => ?_, o, n.same a o e, m⟩
      rcases n.zout a z' with y | y
      · exact nz y
      · rw [e] at y; cases y
    · exact ((n.own a).2 z).2
/-- one new object, owned, that stands for itself -/
theorem New.put {o : HO} {p : Addr} (hp : H p = none) (hz : ∀ a, Z a → H a ≠ none) (m : Mut (some o)) : New H Z (upd H p o) Z (one p) := by
  refine ⟨fun a x e => by rw [upd_ne (ne_of_none e hp)]; exact e, fun _ z => z, fun _ z => .inl z, fun a => ?_, fun a z => ?_⟩
  · by_cases e : a = p
    · subst e
      exact ⟨by rw [one_same]; exact Nat.le_refl _, fun _ => ⟨hp, fun z => hz a z hp, o, upd_same, m⟩⟩
    · exact ⟨by rw [one_ne e]; exact Nat.zero_le _, fun n => absurd (one_ne e) n⟩
  · by_cases e : a = p
    · subst e; rw [upd_same]; simp
    · rw [upd_ne e]; exact hz a z
/-- one new object that is none's (a tuple) -/
theorem New.lay {o : HO} {p : Addr} (hp : H p = none) (hz : ∀ a, Z a → H a ≠ none) : New H Z (upd H p o) Z (fun _ => 0) := by
  refine ⟨fun a x e => by rw [upd_ne (ne_of_none e hp)]; exact e, fun _ z => z, fun _ z => .inl z, fun a => ⟨Nat.zero_le _, fun n => absurd rfl n⟩, fun a z => ?_⟩
  by_cases e : a = p
  · subst e; rw [upd_same]; simp
  · rw [upd_ne e]; exact hz a z
theorem Good.zd (h : Good H Z t) : ∀ a, Z a → H a ≠ none := fun a => (h a).2.2
end
/-! ### the frame -/
abbrev Env := List Val
def SR (g : Gl) (H : Hp) (Z : AP) (σ : L2.St) (env : Env) (c : Cnt) : Prop :=
  ∃ ys : List V, Rs g H Z env ys c ∧ σ.length = env.length ∧ ∀ (i : Nat) v y, env[i]? = some v → v ≠ .gone → ys[i]? = some y → σ[i]? = some (some y)
section
variable {g : Gl} {H H' : Hp} {Z Z' : AP} {σ : L2.St} {env : Env} {c d : Cnt}
theorem SR.kept (h : SR g H Z σ env c) (k : Kept H Z c H' Z') : SR g H' Z' σ env c := by
  obtain ⟨ys, r, l, a⟩ := h
  exact ⟨ys, Rs_kept _ _ _ k r, l, a⟩
theorem SR.eq (h : SR g H Z σ env c) (e : ∀ a, d a = c a) : SR g H Z σ env d := by
  obtain ⟨ys, r, l, a⟩ := h
  exact ⟨ys, Rs_eq _ _ _ _ e r, l, a⟩
/-- a slot taken out, another value (or none) put there -/
theorem SR.at {i : Nat} {v : Val} (h : SR g H Z σ env c) (e : env[i]? = some v) (n : v ≠ .gone) :
    ∃ y cx cr, σ[i]? = some (some y) ∧ R g H Z v y cx ∧ (∀ a, c a = cx a + cr a) ∧
      (∀ {H' : Hp} {Z' : AP} {x' : Val} {c' d : Cnt}, Kept H Z cr H' Z' → R g H' Z' x' y c' → (∀ a, d a = c' a + cr a) → SR g H' Z' σ (env.set i x') d) := by
  obtain ⟨ys, r, l, al⟩ := h
  obtain ⟨y, cx, cr, e1, r1, e2, k⟩ := Rs_at r e
  refine ⟨y, cx, cr, al i v y e n e1, r1, e2, ?_⟩
  intro H' Z' x' c' d kp r' ed
  have hi : i < env.length := (List.getElem?_eq_some_iff.mp e).1
  refine ⟨ys.set i y, k kp r' ed, by rw [List.length_set]; exact l, fun j w z ej nw ez => ?_⟩
  by_cases hj : j = i
  · subst hj
    rw [List.getElem?_set_self (by rw [Rs_len r]; exact hi)] at ez
    cases ez
    exact al j v y e n e1
  · rw [List.getElem?_set_ne (Ne.symm hj)] at ej ez
    exact al j w z ej nw ez
/-- a name is stored -/
theorem SR.set {i : Nat} {x : Val} {y : V} {cx : Cnt} (h : SR g H Z σ env c) (hi : i < env.length) (r' : R g H Z x y cx) :
    ∃ d, SR g H Z (σ.set i (some y)) (env.set i x) d ∧ ∀ a, d a ≤ c a + cx a := by
  obtain ⟨ys, r, l, al⟩ := h
  obtain ⟨y0, c0, cr, e1, r1, e2, k⟩ := Rs_at r (List.getElem?_eq_getElem hi)
  refine ⟨fun a => cx a + cr a, ⟨ys.set i y, k (⟨fun _ _ e _ => e, fun _ z => z⟩) r' fun _ => rfl, by rw [List.length_set, List.length_set]; exact l, fun j w z ej nw ez => ?_⟩, fun a => by have := e2 a; show cx a + cr a ≤ _; omega⟩
  by_cases hj : j = i
  · subst hj
    rw [List.getElem?_set_self (by rw [Rs_len r]; exact hi)] at ez
    cases ez
    rw [List.getElem?_set_self (by rw [l]; exact hi)]
  · rw [List.getElem?_set_ne (Ne.symm hj)] at ej ez
    rw [List.getElem?_set_ne (Ne.symm hj)]
    exact al j w z ej nw ez
theorem SR.len (h : SR g H Z σ env c) : σ.length = env.length := let ⟨_, _, l, _⟩ := h; l
end
end PV

namespace PV
open PySem PySem.Spec PyProof.Rows L2
/-! ### denotations -/
abbrev M (α : Type) := Option (Except Str α × Env)
def bnd {α β : Type} (r : M α) (k : α → Env → M β) : M β :=
  match r with
  | some (.ok a, env) => k a env
  | some (.error x, env) => some (.error x, env)
  | none => none
abbrev ok {α : Type} (a : α) (env : Env) : M α := some (.ok a, env)
theorem bnd_ok {α β : Type} (a : α) (env : Env) (k : α → Env → M β) : bnd (ok a env) k = k a env := rfl
abbrev DE := Env → M Val
abbrev DA := Env → M (List Val)
abbrev DT := Env → M Bool
inductive Out where
  | nx | rt (v : Val) | bk | ct
abbrev DS := Env → M Out
abbrev gl (X : Cx) : Gl := ⟨X.K, X.mg⟩
/-! ### what is to be shown behind a part -/
section
variable {α β α' β' : Type}
abbrev Rel (α β : Type) := Hp → AP → α → β → Cnt → Prop
/-- relations that live on what is kept -/
structure RelOk (rel : Rel α β) : Prop where
  kept : ∀ {H H' Z Z' v x c}, rel H Z v x c → Kept H Z c H' Z' → rel H' Z' v x c
def Post (g : Gl) (W : WX) (rel : Rel α β) (σ : L2.St) (q m : Bool) (H : Hp) (Z : AP) (t : Cnt) (r : M α) (Q : β → Hp → Prop) : Prop :=
  match r with
  | some (.ok v, env') => ∀ (V : β) (H' : Hp) (Z' : AP) (c' cv cx : Cnt), SR g H' Z' σ env' c' → rel H' Z' v V cv → (m = false → ∀ a, cx a = cv a) → Step H Z t H' Z' (fun a => c' a + cx a) → (q = true → Same' H H') → Q V H'
  | some (.error x, env') => ∀ (H' : Hp) (Z' : AP) (c' : Cnt) (C : Addr) (d : Option Addr), g.mg x = some (.ref C) → SR g H' Z' σ env' c' → Step H Z t H' Z' c' → W (.ref C) d σ H'
  | none => False
/-- the state behind a part, for what follows -/
structure At (g : Gl) (rel : Rel α β) (σ : L2.St) (q m : Bool) (H1 : Hp) (Z1 : AP) (c1 : Cnt) (v : α) (env2 : Env) (V : β) (H2 : Hp) (Z2 : AP) (c2 cv cx : Cnt) : Prop where
  sr : SR g H2 Z2 σ env2 c2
  rl : rel H2 Z2 v V cv
  m0 : m = false → ∀ a, cx a = cv a
  st : Step H1 Z1 c1 H2 Z2 (fun a => c2 a + cx a)
  q1 : q = true → Same' H1 H2
theorem Good.comm {H : Hp} {Z : AP} {c u : Cnt} (h : Good H Z (fun a => c a + u a)) : Good H Z c := h.less fun a => Nat.le_add_right _ _
/-- one part, then the rest: u is what else is owned meanwhile -/
theorem seq {g : Gl} {W : WX} {rel : Rel α β} {rel' : Rel α' β'} {σ : L2.St} {q m q' m' : Bool} {H H1 : Hp} {Z Z1 : AP} {t c1 u : Cnt} {r : M α} {k : α → Env → M α'} {Q : β' → Hp → Prop}
    (hs : Step H Z t H1 Z1 (fun a => c1 a + u a)) (h : Post g W rel' σ q' m' H Z t (bnd r k) Q) :
    Post g W rel σ q m H1 Z1 c1 r (fun V H2 => ∃ v env2 Z2 c2 cv cx, r = ok v env2 ∧ At g rel σ q m H1 Z1 c1 v env2 V H2 Z2 c2 cv cx ∧
      Step H Z t H2 Z2 (fun a => (c2 a + cx a) + u a) ∧ Post g W rel' σ q' m' H Z t (k v env2) Q) := by
  match r, h with
  | none, h => exact h
  | some (.ok v, env2), h =>
    intro V H2 Z2 c2 cv cx sr rl m0 st q1
    exact ⟨v, env2, Z2, c2, cv, cx, rfl, ⟨sr, rl, m0, st, q1⟩, hs.trans (st.frame hs.good), h⟩
  | some (.error x, env2), h =>
    intro H2 Z2 c2 C d hC sr st
    exact h H2 Z2 c2 C d hC sr ((hs.trans (st.frame hs.good)).drop fun a => Nat.le_add_right _ _)
/-- the value of a part stays while another one is walked -/
theorem At.stay {g : Gl} {rel : Rel α β} (R0 : RelOk rel) {σ : L2.St} {q m q2 m2 : Bool} {H1 H2 H3 : Hp} {Z1 Z2 Z3 : AP} {c1 c2 cv cx c3 cw cy : Cnt} {v : α} {env2 env3 : Env} {V : β} {rel2 : Rel α' β'} {w : α'} {W' : β'}
    (a : At g rel σ q m H1 Z1 c1 v env2 V H2 Z2 c2 cv cx) (b : At g rel2 σ q2 m2 H2 Z2 c2 w env3 W' H3 Z3 c3 cw cy) (h : m = false ∨ q2 = true) : rel H3 Z3 v V cv := by
  rcases h with h | h
  · refine R0.kept a.rl (Kept.less (c := cx) (b.st.kept a.st.good) fun x n => ?_)
    rw [a.m0 h]; exact n
  · exact R0.kept a.rl ((b.q1 h).kept b.st.zin)
end
theorem R_ok (g : Gl) : RelOk (R g) := ⟨fun h k => R_kept _ _ _ k h⟩
theorem Rs_ok (g : Gl) : RelOk (Rs g) := ⟨fun h k => Rs_kept _ _ _ k h⟩
def relB : Rel Bool Bool := fun _ _ b b' c => b' = b ∧ ∀ a, c a = 0
theorem relB_ok : RelOk relB := ⟨fun h _ => h⟩
/-! ### the judgements -/
def tE (g : Gl) (W : WX) (q m : Bool) (d : DE) : TE := fun σ H Q => ∃ Z env c, SR g H Z σ env c ∧ Good H Z c ∧ Post g W (R g) σ q m H Z c (d env) Q
def tA' (g : Gl) (W : WX) (q m : Bool) (d : DA) : TA := fun σ H Q => ∃ Z env c, SR g H Z σ env c ∧ Good H Z c ∧ Post g W (Rs g) σ q m H Z c (d env) Q
def tT' (g : Gl) (W : WX) (q : Bool) (d : DT) : TT := fun σ H Q => ∃ Z env c, SR g H Z σ env c ∧ Good H Z c ∧ Post g W relB σ q false H Z c (d env) Q
structure VE (X : Cx) (W : WX) (q m : Bool) (e : Expr) (d : DE) : Prop where
  pe : PE X e (tE (gl X) W q m d)
structure VA (X : Cx) (W : WX) (q m : Bool) (es : List Expr) (d : DA) : Prop where
  pa : PA X es (tA' (gl X) W q m d)
structure VT (X : Cx) (W : WX) (q : Bool) (e : Expr) (d : DT) : Prop where
  pt : PT X e (tT' (gl X) W q d)
section
variable {X : Cx} {e : Expr}
theorem PE.weak {t t' : TE} (h : PE X e t) (w : ∀ σ H Q, t' σ H Q → t σ H Q) : PE X e t' := ⟨fun pins s σ H Q I q => h.run pins s σ H Q I (w σ H Q q)⟩
theorem PT.weak {t t' : TT} (h : PT X e t) (w : ∀ σ H Q, t' σ H Q → t σ H Q) : PT X e t' := ⟨fun pins s σ H Q I q => h.run pins s σ H Q I (w σ H Q q)⟩
theorem PA.weak {es : List Expr} {t t' : TA} (h : PA X es t) (w : ∀ σ H Q, t' σ H Q → t σ H Q) : PA X es t' := ⟨fun pos pins s σ H Q I q => h.run pos pins s σ H Q I (w σ H Q q)⟩
theorem PS.weak {st : Stmt} {t t' : TS} (h : PS X st t) (w : ∀ D σ H, t' D σ H → t D σ H) : PS X st t' := ⟨fun pins s σ H D I q => h.run pins s σ H D I (w D σ H q)⟩
theorem PSs.weak {st : List Stmt} {t t' : TS} (h : PSs X st t) (w : ∀ D σ H, t' D σ H → t D σ H) : PSs X st t' := ⟨fun pins s σ H D I q => h.run pins s σ H D I (w D σ H q)⟩
/-- new objects at the end of a pure operation -/
theorem fin {g : Gl} {W : WX} {σ : L2.St} {q m : Bool} {H Hn H' : Hp} {Z Zn Z' : AP} {t s cn cr : Cnt} {env : Env} {v : Val} {V : V} {Q : VK}
    (hs : Step H Z t Hn Zn s) (hl : ∀ a, cn a ≤ s a) (sr : SR g Hn Zn σ env cn) (hq : q = true → Same' H Hn) (n : New Hn Zn H' Z' cr) (r : R g H' Z' v V cr) (h : Post g W (R g) σ q m H Z t (ok v env) Q) : Q V H' := by
  have gd : Good Hn Zn cn := hs.good.less hl
  refine h V H' Z' cn cr cr (sr.kept (n.same.kept n.zin)) r (fun _ _ => rfl) ((hs.drop hl).trans (n.step gd)) fun e => fun a o x => n.same a o (hq e a o x)
theorem Post.mono {α β : Type} {g : Gl} {W : WX} {rel : Rel α β} {σ : L2.St} {q m : Bool} {H : Hp} {Z : AP} {t : Cnt} {r : M α} {Q Q' : β → Hp → Prop} (h : Post g W rel σ q m H Z t r Q) (k : ∀ V H', Q V H' → Q' V H') : Post g W rel σ q m H Z t r Q' := by
  match r, h with
  | none, h => exact h
  | some (.error x, env'), h => exact h
  | some (.ok v, env'), h => exact fun V H' Z' c' cv cx sr rl m0 st q1 => k V H' (h V H' Z' c' cv cx sr rl m0 st q1)
end
end PV

namespace PV
open PySem PySem.Spec PyProof.Rows L2
/-! ### rules: names, constants, pure operations -/
def getv (env : Env) (i : Nat) : Option Val := match env[i]? with
  | some .gone => none
  | r => r
theorem getv_some {env : Env} {i : Nat} {v : Val} (h : getv env i = some v) : env[i]? = some v ∧ v ≠ .gone := by
  unfold getv at h
  cases e : env[i]? with
  | none => rw [e] at h; cases h
  | some w =>
    rw [e] at h
    cases w <;> first | (cases h; exact ⟨rfl, fun q => nomatch q⟩) | cases h
def lift {α : Type} (o : Option α) (env : Env) : M α := match o with
  | some a => ok a env
  | none => none
def dC (v : Val) : DE := fun env => ok v env
def dVar (i : Nat) : DE := fun env => lift (getv env i) env
def dFrz (i : Nat) : DE := fun env => bnd (lift (getv env i) env) fun v e => ok (frz v) (e.set i (frz v))
def dMov (i : Nat) : DE := fun env => bnd (lift (getv env i) env) fun v e => ok v (e.set i .gone)
def dUn (G : Val → Option Val) (d : DE) : DE := fun env => bnd (d env) fun v e => lift (G v) e
def dBin (G : Val → Val → Option Val) (da db : DE) : DE := fun env => bnd (da env) fun v e1 => bnd (db e1) fun w e2 => lift (G v w) e2
def dNil : DA := fun env => ok [] env
def dCons (da : DE) (dr : DA) : DA := fun env => bnd (da env) fun v e1 => bnd (dr e1) fun vs e2 => ok (v :: vs) e2
def dPure (G : List Val → Option Val) (d : DA) : DE := fun env => bnd (d env) fun vs e => lift (G vs) e
section
variable {X : Cx} {W : WX} {e a b : Expr} {es : List Expr} {pos : Pos} {q m qa qb ma mb : Bool} {da db : DE} {dr : DA}
theorem zero_add' (c : Cnt) : ∀ a, (fun a => c a + 0) a = c a := fun _ => rfl
/-- a value at once -/
theorem v_now {σ : L2.St} {H : Hp} {Q : VK} {v : Val} {V : V} {t : TE} (hR : ∀ H Z, R (gl X) H Z v V (fun _ => 0)) (ht : ∀ Q, Q V H → t σ H Q) (h : tE (gl X) W true false (dC v) σ H Q) : t σ H Q := by
  obtain ⟨Z, env, c, sr, gd, h⟩ := h
  exact ht Q (h V H Z c (fun _ => 0) (fun _ => 0) sr (hR H Z) (fun _ _ => rfl) (Step.refl gd) fun _ _ _ e => e)
theorem v_int {i : Int} {j : Nat} : VE X W true false (.Constant (.int i) j pos) (dC (.int i)) :=
  ⟨PE.weak pe_int fun σ H Q h => v_now (fun _ _ => by simp only [R]; exact ⟨trivial, fun _ => trivial⟩) (fun _ q => q) h⟩
theorem v_bl {i : Bool} {j : Nat} : VE X W true false (.Constant (.bool i) j pos) (dC (.bl i)) :=
  ⟨PE.weak pe_bl fun σ H Q h => v_now (fun _ _ => by simp only [R]; exact ⟨trivial, fun _ => trivial⟩) (fun _ q => q) h⟩
theorem v_non {j : Nat} : VE X W true false (.Constant .none j pos) (dC .non) :=
  ⟨PE.weak pe_non fun σ H Q h => v_now (fun _ _ => by simp only [R]; exact ⟨trivial, fun _ => trivial⟩) (fun _ q => q) h⟩
theorem v_str {i : Str} {j : Nat} : VE X W true false (.Constant (.str i) j pos) (dC (.str i)) :=
  ⟨PE.weak pe_str fun σ H Q h => v_now (fun _ _ => by simp only [R]; exact ⟨trivial, fun _ => trivial⟩) (fun _ q => q) h⟩
/-- a module's number or text -/
theorem v_gint {x : Str} {i : Int} {t : Tok} (hg : L2.Gl X x) (hm : X.mg x = some (.int i t)) (hd : (x == ("__debug__" : Str)) = false := by decide) : VE X W true false (.Name x pos) (dC (.int i)) :=
  ⟨PE.weak (pe_glob (v := .int i) hg hm ⟨t, rfl⟩ hd) fun σ H Q h => v_now (fun _ _ => by simp only [R]; exact ⟨trivial, fun _ => trivial⟩) (fun _ q => q) h⟩
/-- a name, read where it stands -/
theorem v_var {i : Nat} {x : Str} (hN : X.N[i]? = some x) (hv : Vis X.env.scope x) (hd : (x == ("__debug__" : Str)) = false := by decide) (hcd : (x == ("__classdict__" : Str)) = false := by decide) : VE X W true true (.Name x pos) (dVar i) := by
  refine ⟨PE.weak (pe_var hN hv hd hcd) fun σ H Q h => ?_⟩
  obtain ⟨Z, env, c, sr, gd, h⟩ := h
  cases e : getv env i with
  | none => simp only [dVar, e, lift] at h; exact h.elim
  | some v =>
    simp only [dVar, e, lift] at h
    obtain ⟨e1, e2⟩ := getv_some e
    obtain ⟨y, cx, cr, es, ry, ec, _⟩ := sr.at e1 e2
    exact ⟨y, es, h y H Z c cx (fun _ => 0) sr ry (fun q => nomatch q) (Step.refl gd) fun _ _ _ e => e⟩
/-- a name, told elsewhere too: what it holds is frozen -/
theorem v_frz {i : Nat} {x : Str} (hN : X.N[i]? = some x) (hv : Vis X.env.scope x) (hd : (x == ("__debug__" : Str)) = false := by decide) (hcd : (x == ("__classdict__" : Str)) = false := by decide) : VE X W true false (.Name x pos) (dFrz i) := by
  refine ⟨PE.weak (pe_var hN hv hd hcd) fun σ H Q h => ?_⟩
  obtain ⟨Z, env, c, sr, gd, h⟩ := h
  cases e : getv env i with
  | none => simp only [dFrz, e, lift] at h; exact h.elim
  | some v =>
    simp only [dFrz, e, lift] at h
    obtain ⟨e1, e2⟩ := getv_some e
    obtain ⟨y, cx, cr, es, ry, ec, k⟩ := sr.at e1 e2
    let Z' : AP := fun a => Z a ∨ cx a ≠ 0
    have rz : R (gl X) H Z' (frz v) y (fun _ => 0) := R_frz v y cx (fun a n => .inr n) (fun a z => .inl z) ry
    refine ⟨y, es, h y H Z' cr (fun _ => 0) (fun _ => 0) (k (Z' := Z') ⟨fun _ _ e _ => e, fun a z => .inl z⟩ rz fun a => (Nat.zero_add _).symm) rz (fun _ _ => rfl) ?_ fun _ _ _ e => e⟩
    refine ⟨fun _ _ e _ => e, fun _ e => e, fun _ z => .inl z, fun a z => z.imp id fun n => .inl (by rw [ec]; omega), fun a _ => by have := ec a; show cr a + 0 ≤ c a; omega, fun a => ⟨by have := ec a; have := (gd a).1; show cr a + 0 ≤ 1; omega, fun n => ?_, fun z => ?_⟩⟩
    · have n : cr a + 0 ≠ 0 := n
      have e4 := ec a
      have e5 := (gd a).1
      obtain ⟨nz, o⟩ := (gd a).2.1 (by omega)
      exact ⟨fun z => z.elim nz fun n2 => by omega, o⟩
    · rcases z with z | z
      · exact (gd a).2.2 z
      · have e4 := ec a
        obtain ⟨_, o, eo, _⟩ := (gd a).2.1 (by omega)
        rw [eo]; simp
/-- a name that is given away -/
theorem v_mov {i : Nat} {x : Str} (hN : X.N[i]? = some x) (hv : Vis X.env.scope x) (hd : (x == ("__debug__" : Str)) = false := by decide) (hcd : (x == ("__classdict__" : Str)) = false := by decide) : VE X W true false (.Name x pos) (dMov i) := by
  refine ⟨PE.weak (pe_var hN hv hd hcd) fun σ H Q h => ?_⟩
  obtain ⟨Z, env, c, sr, gd, h⟩ := h
  cases e : getv env i with
  | none => simp only [dMov, e, lift] at h; exact h.elim
  | some v =>
    simp only [dMov, e, lift] at h
    obtain ⟨e1, e2⟩ := getv_some e
    obtain ⟨y, cx, cr, es, ry, ec, k⟩ := sr.at e1 e2
    refine ⟨y, es, h y H Z cr cx cx (k (x' := .gone) (c' := fun _ => 0) ⟨fun _ _ e _ => e, fun a z => z⟩ (by simp only [R]; intros; trivial) fun a => (Nat.zero_add _).symm) ry (fun _ _ => rfl) ((Step.refl gd).eq fun a => by have := ec a; show cr a + cx a = c a; omega) fun _ _ _ e => e⟩
/-! pure operations -/
def Pure1 (g : Gl) (r : V → Hp → VK → Prop) (G : Val → Option Val) : Prop := ∀ v res, G v = some res → ∀ H Z x c Q, R g H Z v x c → (∀ a, Z a → H a ≠ none) →
  (∀ y H' Z' cr, New H Z H' Z' cr → R g H' Z' res y cr → Q y H') → r x H Q
def Pure2 (g : Gl) (r : R2) (G : Val → Val → Option Val) : Prop := ∀ v w res, G v w = some res → ∀ H Z x y c d Q, R g H Z v x c → R g H Z w y d → (∀ a, Z a → H a ≠ none) →
  (∀ z H' Z' cr, New H Z H' Z' cr → R g H' Z' res z cr → Q z H') → r x y H Q
def PureN (g : Gl) (r : List V → Hp → VK → Prop) (G : List Val → Option Val) : Prop := ∀ vs res, G vs = some res → ∀ H Z xs c Q, Rs g H Z vs xs c → (∀ a, Z a → H a ≠ none) →
  (∀ y H' Z' cr, New H Z H' Z' cr → R g H' Z' res y cr → Q y H') → r xs H Q
theorem lift_some {α β : Type} {g : Gl} {rel : Rel α β} {σ : L2.St} {H : Hp} {Z : AP} {t : Cnt} {o : Option α} {env : Env} {Q : β → Hp → Prop} (h : Post g W rel σ q m H Z t (lift o env) Q) : ∃ a, o = some a ∧ Post g W rel σ q m H Z t (ok a env) Q := by
  cases o with
  | none => exact h.elim
  | some a => exact ⟨a, rfl, h⟩
theorem run1 {α β : Type} {rel' : Rel α β} {ta : TE} {k : Val → Env → M α} {σ : L2.St} {H : Hp} {Q : β → Hp → Prop} {q' m' : Bool} (ha : ∀ Q, tE (gl X) W qa ma da σ H Q → ta σ H Q) {K : VK}
    (h : ∃ Z env c, SR (gl X) H Z σ env c ∧ Good H Z c ∧ Post (gl X) W rel' σ q' m' H Z c (bnd (da env) k) Q)
    (hk : ∀ {Z c V H2 Z2 c2 cv cx v env env2}, At (gl X) (R (gl X)) σ qa ma H Z c v env2 V H2 Z2 c2 cv cx → da env = ok v env2 → Post (gl X) W rel' σ q' m' H Z c (k v env2) Q → K V H2) : ta σ H K := by
  obtain ⟨Z, env, c, sr, gd, h⟩ := h
  refine ha _ ⟨Z, env, c, sr, gd, ?_⟩
  have s0 : Step H Z c H Z (fun a => c a + (fun _ => 0) a) := Step.refl gd
  exact (seq (rel := R (gl X)) (q := qa) (m := ma) s0 h).mono fun V H2 ⟨v, env2, Z2, c2, cv, cx, e, a, st, h2⟩ => hk a e h2
theorem v_un {op : UnaryOp} {r : V → Hp → VK → Prop} {G : Val → Option Val} (ho : UnR X (unaryOp op) r) (hp : Pure1 (gl X) r G) (ha : VE X W qa ma a da) : VE X W qa false (.UnaryOp op a pos) (dUn G da) := by
  refine ⟨PE.weak (pe_un ho ha.pe) fun σ H Q h => ?_⟩
  refine run1 (fun _ z => z) h fun a e h2 => ?_
  obtain ⟨res, e2, h3⟩ := lift_some h2
  exact hp _ _ e2 _ _ _ _ Q a.rl a.st.good.zd fun y H' Z' cr n ry => fin a.st (fun _ => Nat.le_add_right _ _) a.sr a.q1 n ry h3
/-- two operands -/
theorem run2 {α β : Type} {rel' : Rel α β} {ta tb : TE} {k : Val → Val → Env → M α} {σ : L2.St} {H : Hp} {Q : β → Hp → Prop} {q' m' : Bool} (ha : ∀ Q, tE (gl X) W qa ma da σ H Q → ta σ H Q) (hb : ∀ H Q, tE (gl X) W qb mb db σ H Q → tb σ H Q)
    (hm : ma = false ∨ qb = true) {K : V → V → Hp → Prop}
    (h : ∃ Z env c, SR (gl X) H Z σ env c ∧ Good H Z c ∧ Post (gl X) W rel' σ q' m' H Z c (bnd (da env) fun v e1 => bnd (db e1) fun w e2 => k v w e2) Q)
    (hk : ∀ {Z c s V U H2 Z2 c2 cv cw v w env2}, SR (gl X) H2 Z2 σ env2 c2 → R (gl X) H2 Z2 v V cv → R (gl X) H2 Z2 w U cw → Step H Z c H2 Z2 s → (∀ a, c2 a ≤ s a) → ((qa && qb) = true → Same' H H2) → Post (gl X) W rel' σ q' m' H Z c (k v w env2) Q → K V U H2) :
    ta σ H fun x H1 => tb σ H1 fun y H2 => K x y H2 := by
  refine run1 ha h fun {Z c V H2 Z2 c2 cv cx v env env2} a e h2 => ?_
  refine hb _ _ ⟨Z2, env2, c2, a.sr, a.st.good.comm, ?_⟩
  refine (seq (rel := R (gl X)) (q := qb) (m := mb) a.st h2).mono fun U H3 ⟨w, env3, Z3, c3, cw, cy, e, b, st, h3⟩ => ?_
  refine hk b.sr (a.stay (R_ok _) b hm) b.rl st (fun x => by show c3 x ≤ (c3 x + cy x) + cx x; omega) (fun z => ?_) h3
  have z := Bool.and_eq_true_iff.mp z
  exact fun x o y => b.q1 z.2 x o (a.q1 z.1 x o y)
theorem v_bin {op : Operator} {r : R2} {G : Val → Val → Option Val} (ho : OpR X (binaryOp op) r) (hp : Pure2 (gl X) r G) (ha : VE X W qa ma a da) (hb : VE X W qb mb b db) (hm : ma = false ∨ qb = true := by first | exact .inl rfl | exact .inr rfl) :
    VE X W (qa && qb) false (.BinOp a op b pos) (dBin G da db) := by
  refine ⟨PE.weak (pe_op ho ha.pe hb.pe) fun σ H Q h => ?_⟩
  refine run2 (fun _ z => z) (fun _ _ z => z) hm h fun sr rv rw st hl hq h2 => ?_
  obtain ⟨res, e2, h3⟩ := lift_some h2
  exact hp _ _ _ e2 _ _ _ _ _ _ Q rv rw st.good.zd fun y H' Z' cr n ry => fin st hl sr hq n ry h3
theorem v_cmp {op : CmpOp} {r : R2} {G : Val → Val → Option Val} (ho : OpR X (compareOp op) r) (hp : Pure2 (gl X) r G) (ha : VE X W qa ma a da) (hb : VE X W qb mb b db) (hm' : behindInMarks op b = false) (hm : ma = false ∨ qb = true := by first | exact .inl rfl | exact .inr rfl) :
    VE X W (qa && qb) false (.Compare a [op] [b] pos) (dBin G da db) := by
  refine ⟨PE.weak (pe_cmpR ho ha.pe hb.pe hm') fun σ H Q h => ?_⟩
  refine run2 (fun _ z => z) (fun _ _ z => z) hm h fun sr rv rw st hl hq h2 => ?_
  obtain ⟨res, e2, h3⟩ := lift_some h2
  exact hp _ _ _ e2 _ _ _ _ _ _ Q rv rw st.good.zd fun y H' Z' cr n ry => fin st hl sr hq n ry h3
/-! lists of arguments -/
theorem v_nil : VA X W true false [] dNil := by
  refine ⟨PA.weak pa_nil fun σ H Q h => ?_⟩
  obtain ⟨Z, env, c, sr, gd, h⟩ := h
  exact h [] H Z c (fun _ => 0) (fun _ => 0) sr Rs_nil (fun _ _ => rfl) (Step.refl gd) fun _ _ _ e => e
theorem v_cons (ha : VE X W qa ma a da) (hr : VA X W qb mb es dr) (hs : starEach (a :: es) X.env = (false, eval a X.env) :: starEach es X.env := by rfl) (hm : ma = false ∨ qb = true := by first | exact .inl rfl | exact .inr rfl) :
    VA X W (qa && qb) (ma || mb) (a :: es) (dCons da dr) := by
  refine ⟨PA.weak (pa_cons ha.pe hr.pa hs) fun σ H Q h => ?_⟩
  refine run1 (fun _ z => z) h fun {Z c V H2 Z2 c2 cv cx v env env2} a e h2 => ?_
  refine ⟨Z2, env2, c2, a.sr, a.st.good.comm, ?_⟩
  refine (seq (rel := Rs (gl X)) (q := qb) (m := mb) a.st h2).mono fun U H3 ⟨w, env3, Z3, c3, cw, cy, e, b, st, h3⟩ => ?_
  refine h3 (V :: U) H3 Z3 c3 (fun x => cv x + cw x) (fun x => cx x + cy x) b.sr ?_ (fun z => ?_) (st.eq fun x => by show c3 x + (cx x + cy x) = (c3 x + cy x) + cx x; omega) fun z => ?_
  · simp only [Rs]
    exact ⟨V, U, cv, cw, rfl, a.stay (R_ok _) b hm, b.rl, fun _ => rfl⟩
  · obtain ⟨z1, z2⟩ := Bool.or_eq_false_iff.mp z
    exact fun x => by show cx x + cy x = cv x + cw x; rw [a.m0 z1, b.m0 z2]
  · have z := Bool.and_eq_true_iff.mp z
    exact fun x o y => b.q1 z.2 x o (a.q1 z.1 x o y)
theorem runA {α β : Type} {rel' : Rel α β} {ta : TA} {k : List Val → Env → M α} {σ : L2.St} {H : Hp} {Q : β → Hp → Prop} {q' m' : Bool} (ha : ∀ Q, tA' (gl X) W qa ma dr σ H Q → ta σ H Q) {K : List V → Hp → Prop}
    (h : ∃ Z env c, SR (gl X) H Z σ env c ∧ Good H Z c ∧ Post (gl X) W rel' σ q' m' H Z c (bnd (dr env) k) Q)
    (hk : ∀ {Z c V H2 Z2 c2 cv cx v env env2}, At (gl X) (Rs (gl X)) σ qa ma H Z c v env2 V H2 Z2 c2 cv cx → dr env = ok v env2 → Post (gl X) W rel' σ q' m' H Z c (k v env2) Q → K V H2) : ta σ H K := by
  obtain ⟨Z, env, c, sr, gd, h⟩ := h
  refine ha _ ⟨Z, env, c, sr, gd, ?_⟩
  have s0 : Step H Z c H Z (fun a => c a + (fun _ => 0) a) := Step.refl gd
  exact (seq (rel := Rs (gl X)) (q := qa) (m := ma) s0 h).mono fun V H2 ⟨v, env2, Z2, c2, cv, cx, e, a, st, h2⟩ => hk a e h2
/-- a call of a built-in function, of a built-in class -/
theorem v_blt {x : Str} {id' : String} {p : Pos} {r : List V → Hp → VK → Prop} {G : List Val → Option Val} (hc : CallR X (.builtin id') r) (hp : PureN (gl X) r G) (hg : L2.Gl X x) (hm : X.mg x = none) (hv : bootBuiltins x = some (.builtin id')) (ha : VA X W qa ma (a :: es) dr)
    (hn : x ≠ "__name__" := by decide) (hdb : (x == ("__debug__" : Str)) = false := by decide) (h1 : starEach (a :: es) X.env = (false, eval a X.env) :: starEach es X.env := by rfl) (h2 : (backTo pos (starEach es X.env)).any (·.1) = false := by rfl) :
    VE X W qa false (.Call (.Name x p) (a :: es) [] pos) (dPure G dr) := by
  refine ⟨PE.weak (pe_callB hc hg hm hv ha.pa hn hdb h1 h2) fun σ H Q h => ?_⟩
  refine runA (fun _ z => z) h fun a e h2 => ?_
  obtain ⟨res, e2, h3⟩ := lift_some h2
  exact hp _ _ e2 _ _ _ _ Q a.rl a.st.good.zd fun y H' Z' cr n ry => fin a.st (fun _ => Nat.le_add_right _ _) a.sr a.q1 n ry h3
theorem v_blty {x : Str} {T : String} {p : Pos} {r : List V → Hp → VK → Prop} {G : List Val → Option Val} (hc : CallR X (.type T) r) (hp : PureN (gl X) r G) (hg : L2.Gl X x) (hm : X.mg x = none) (hv : bootBuiltins x = some (.type T)) (ha : VA X W qa ma (a :: es) dr)
    (hn : x ≠ "__name__" := by decide) (hdb : (x == ("__debug__" : Str)) = false := by decide) (h1 : starEach (a :: es) X.env = (false, eval a X.env) :: starEach es X.env := by rfl) (h2 : (backTo pos (starEach es X.env)).any (·.1) = false := by rfl) :
    VE X W qa false (.Call (.Name x p) (a :: es) [] pos) (dPure G dr) := by
  refine ⟨PE.weak (pe_callTy hc hg hm hv ha.pa hn hdb h1 h2) fun σ H Q h => ?_⟩
  refine runA (fun _ z => z) h fun a e h2 => ?_
  obtain ⟨res, e2, h3⟩ := lift_some h2
  exact hp _ _ e2 _ _ _ _ Q a.rl a.st.good.zd fun y H' Z' cr n ry => fin a.st (fun _ => Nat.le_add_right _ _) a.sr a.q1 n ry h3
end
end PV

namespace PV
open PySem PySem.Spec PyProof.Rows L2
/-! ### displays, tests -/
def small (n : Nat) : Bool := decide (n ≤ 16777216)
def gTup (vs : List Val) : Option Val := if small vs.length then some (.tup vs) else none
def gLst (vs : List Val) : Option Val := if small vs.length then some (.lst true vs) else none
def dTup (d : DA) : DE := fun env => bnd (d env) fun vs e => lift (gTup (frzs vs)) e
def dLst (d : DA) : DE := fun env => bnd (d env) fun vs e => lift (gLst vs) e
theorem small_line {n : Nat} (h : small n = true) : n ≤ sizeLine := by rw [sizeLine_eq]; exact of_decide_eq_true h
section
variable {X : Cx} {W : WX} {e a b : Expr} {es : List Expr} {pos : Pos} {q m qa qb qc ma mb : Bool} {da db : DE} {dr : DA} {dt : DT}
/-- a list display: what is in it is owned by it -/
theorem v_lst (ha : VA X W qa false es dr) : VE X W qa false (.List es pos) (dLst dr) := by
  refine ⟨PE.weak (pe_lst ha.pa) fun σ H Q h => ?_⟩
  refine runA (fun _ z => z) h fun {Z c V H2 Z2 c2 cv cx v env env2} a e h2 => ?_
  obtain ⟨res, e2, h3⟩ := lift_some h2
  unfold gLst at e2
  split at e2
  · rename_i hz
    cases e2
    refine ⟨by rw [Rs_len a.rl]; exact small_line hz, fun p hp => ?_⟩
    have n : New H2 Z2 (upd H2 p (.lst V)) Z2 (one p) := New.put hp a.st.good.zd trivial
    have st := a.st.trans (n.step a.st.good)
    refine h3 (.ref p) _ Z2 c2 (fun x => cv x + one p x) (fun x => cv x + one p x) (a.sr.kept (n.same.kept n.zin)) ?_ (fun _ _ => rfl) (st.eq fun x => by show c2 x + (cv x + one p x) = (c2 x + cx x) + one p x; rw [a.m0 rfl]; omega) fun z x o y => n.same x o (a.q1 z x o y)
    simp only [R]
    exact ⟨p, V, cv, rfl, upd_same, (fun q => nomatch q), Rs_kept _ _ _ (n.same.kept n.zin) a.rl, fun _ => rfl⟩
  · cases e2
/-- a tuple display: what is in it is frozen -/
theorem v_tup {k : Nat} (ha : VA X W qa false es dr) : VE X W qa false (.Tuple es k pos) (dTup dr) := by
  refine ⟨PE.weak (pe_tup ha.pa) fun σ H Q h => ?_⟩
  refine runA (fun _ z => z) h fun {Z c V H2 Z2 c2 cv cx v env env2} a e h2 => ?_
  obtain ⟨res, e2, h3⟩ := lift_some h2
  unfold gTup at e2
  split at e2
  · rename_i hz
    cases e2
    have hz : small v.length = true := by rw [frzs_eq, List.length_map] at hz; exact hz
    refine ⟨by rw [Rs_len a.rl]; exact small_line hz, fun p hp => ?_⟩
    have n : New H2 Z2 (upd H2 p (.tup V)) Z2 (fun _ => 0) := New.lay hp a.st.good.zd
    have st := a.st.trans (n.step a.st.good)
    let Z3 : AP := fun x => Z2 x ∨ cv x ≠ 0
    have gd := a.st.good
    have k3 : Kept H2 Z2 c2 (upd H2 p (.tup V)) Z3 := ⟨fun x o y _ => n.same x o y, fun x z => .inl z⟩
    have k4 : Kept H2 Z3 (fun _ => 0) (upd H2 p (.tup V)) Z3 := ⟨fun x o y _ => n.same x o y, fun x z => z⟩
    refine h3 (.ref p) _ Z3 c2 (fun _ => 0) (fun _ => 0) (a.sr.kept k3) ?_ (fun _ _ => rfl) ?_ fun z x o y => n.same x o (a.q1 z x o y)
    · simp only [R]
      exact ⟨p, V, rfl, .inl (.inl upd_same), Rs_kept _ _ _ k4 (Rs_frz _ _ _ (fun x y => .inr y) (fun x y => .inl y) a.rl)⟩
    · have e1 : ∀ x, cx x = cv x := a.m0 rfl
      refine a.st.trans ⟨fun x o y _ => n.same x o y, fun x y => ?_, fun x z => .inl z, fun x z => z.imp id fun y => .inl (by show c2 x + cx x ≠ 0; rw [e1]; omega), fun x _ => by show c2 x + 0 ≤ c2 x + cx x; omega, fun x => ⟨?_, fun y => ?_, fun y => ?_⟩⟩
      · cases y2 : H2 x with
        | none => exact absurd y2 y
        | some o => rw [n.same x o y2]; simp
      · have : c2 x + cx x ≤ 1 := (gd x).1; show c2 x + 0 ≤ 1; omega
      · have y : c2 x + 0 ≠ 0 := y
        obtain ⟨nz, o, eo, mo⟩ := (gd x).2.1 (by show c2 x + cx x ≠ 0; omega)
        have : c2 x + cx x ≤ 1 := (gd x).1
        exact ⟨fun z => z.elim nz fun y2 => by rw [← e1] at y2; omega, o, n.same x o eo, mo⟩
      · rcases y with y | y
        · exact n.zdom x y
        · obtain ⟨nz, o, eo, mo⟩ := (gd x).2.1 (by show c2 x + cx x ≠ 0; rw [e1]; omega)
          rw [n.same x o eo]; simp
  · cases e2
/-! tests -/
def gBl : Val → Option Bool
  | .bl b => some b
  | _ => none
/-- truth -/
def gTru : Val → Option Bool
  | .bl b => some b
  | .non => some false
  | .int i => some (i != 0)
  | .lst _ xs => some (!xs.isEmpty)
  | .tup xs => some (!xs.isEmpty)
  | _ => none
def dTst (d : DE) : DT := fun env => bnd (d env) fun v e => lift (gTru v) e
def dNot (d : DT) : DT := fun env => bnd (d env) fun b e => ok (!b) e
def dAnd (d1 d2 : DT) : DT := fun env => bnd (d1 env) fun b e => if b = true then d2 e else ok false e
def dOr (d1 d2 : DT) : DT := fun env => bnd (d1 env) fun b e => if b = true then ok true e else d2 e
/-- a bool as a value, by tests -/
def dVal (d : DT) : DE := fun env => bnd (d env) fun b e => ok (.bl b) e
def dIf (d : DT) (d1 d2 : DE) : DE := fun env => bnd (d env) fun b e => if b = true then d1 e else d2 e
theorem isEmpty_len {α β : Type} {xs : List α} {ys : List β} (h : ys.length = xs.length) : (!ys.isEmpty) = !xs.isEmpty := by
  cases xs <;> cases ys <;> simp_all
theorem tru_of {g : Gl} {H : Hp} {Z : AP} {v : Val} {x : V} {c : Cnt} {b : Bool} (h : gTru v = some b) (r : R g H Z v x c) : TruV g.K x H b := by
  cases v with
  | bl k => simp only [R] at r; cases h; rw [r.1]; exact rfl
  | non => simp only [R] at r; cases h; rw [r.1]; exact rfl
  | int i => simp only [R] at r; cases h; rw [r.1]; exact rfl
  | lst o xs =>
    simp only [R] at r
    obtain ⟨a, ys, d, rfl, h2, _, h3, _⟩ := r
    cases h
    exact .inl ⟨ys, .inl (.inl h2), (isEmpty_len (Rs_len h3)).symm⟩
  | tup xs =>
    simp only [R] at r
    obtain ⟨a, ys, rfl, h2, h3⟩ := r
    cases h
    exact .inr (.inl ⟨ys, h2, (isEmpty_len (Rs_len h3)).symm⟩)
  | _ => cases h
theorem runT {α β : Type} {rel' : Rel α β} {ta : TT} {k : Bool → Env → M α} {σ : L2.St} {H : Hp} {Q : β → Hp → Prop} {q' m' : Bool} (ha : ∀ Q, tT' (gl X) W qa dt σ H Q → ta σ H Q) {K : Bool → Hp → Prop}
    (h : ∃ Z env c, SR (gl X) H Z σ env c ∧ Good H Z c ∧ Post (gl X) W rel' σ q' m' H Z c (bnd (dt env) k) Q)
    (hk : ∀ {Z c H2 Z2 c2 v env env2}, SR (gl X) H2 Z2 σ env2 c2 → Step H Z c H2 Z2 c2 → (qa = true → Same' H H2) → dt env = ok v env2 → Post (gl X) W rel' σ q' m' H Z c (k v env2) Q → K v H2) : ta σ H K := by
  obtain ⟨Z, env, c, sr, gd, h⟩ := h
  refine ha _ ⟨Z, env, c, sr, gd, ?_⟩
  have s0 : Step H Z c H Z (fun a => c a + (fun _ => 0) a) := Step.refl gd
  refine (seq (rel := relB) (q := qa) (m := false) s0 h).mono fun V H2 ⟨v, env2, Z2, c2, cv, cx, e, a, st, h2⟩ => ?_
  obtain ⟨e1, e2⟩ := a.rl
  subst e1
  exact hk a.sr (a.st.drop fun x => Nat.le_add_right _ _) a.q1 e h2
/-- the end of a test -/
theorem finT {α β : Type} {g : Gl} {σ : L2.St} {q m : Bool} {H Hn : Hp} {Z Zn : AP} {t s cn : Cnt} {env : Env} {b : Bool} {Q : Bool → Hp → Prop}
    (hs : Step H Z t Hn Zn s) (hl : ∀ a, cn a ≤ s a) (sr : SR g Hn Zn σ env cn) (hq : q = true → Same' H Hn) (h : Post g W relB σ q m H Z t (ok b env) Q) : Q b Hn :=
  h b Hn Zn cn (fun _ => 0) (fun _ => 0) sr ⟨rfl, fun _ => rfl⟩ (fun _ _ => rfl) (hs.drop hl) hq
theorem v_tst (ha : VE X W qa ma a da) (he : ∀ whole, isTrue a X.env whole = (do let v ← whole; standAt a.pos; holding [v] (truthy v)) := by intro _; rfl) : VT X W qa a (dTst da) := by
  refine ⟨PT.weak (pt_truth ha.pe he) fun σ H Q h => ?_⟩
  refine run1 (fun _ z => z) h fun a e h2 => ?_
  obtain ⟨res, e2, h3⟩ := lift_some h2
  exact ⟨res, tru_of e2 a.rl, finT (α := Unit) (β := Unit) a.st (fun _ => Nat.le_add_right _ _) a.sr a.q1 h3⟩
/-- a comparison as a test -/
theorem v_tcmp {op : CmpOp} {r : R2} {G : Val → Val → Option Val} (ho : OpR X (compareOp op) r) (hp : Pure2 (gl X) r G) (ha : VE X W qa ma a da) (hb : VE X W qb mb b db) (hm' : behindInMarks op b = false) (hG : ∀ v w r, G v w = some r → ∃ b, r = .bl b) (hm : ma = false ∨ qb = true := by first | exact .inl rfl | exact .inr rfl) :
    VT X W (qa && qb) (.Compare a [op] [b] pos) (dTst (dBin G da db)) := by
  refine ⟨PT.weak (pt_cmpR ho ha.pe hb.pe hm') fun σ H Q h => ?_⟩
  have h' : ∃ Z env c, SR (gl X) H Z σ env c ∧ Good H Z c ∧ Post (gl X) W relB σ (qa && qb) false H Z c (bnd (da env) fun v e1 => bnd (db e1) fun w e2 => bnd (lift (G v w) e2) fun v e => lift (gTru v) e) Q := by
    obtain ⟨Z, env, c, sr, gd, h⟩ := h
    refine ⟨Z, env, c, sr, gd, ?_⟩
    unfold dTst dBin at h
    cases ea : da env with
    | none => rw [ea] at h; exact h
    | some p =>
      obtain ⟨p, e1⟩ := p
      rw [ea] at h
      cases p with
      | error x => exact h
      | ok v =>
        simp only [bnd] at h ⊢
        cases eb : db e1 with
        | none => rw [eb] at h; exact h
        | some p =>
          obtain ⟨p, e2⟩ := p
          rw [eb] at h
          cases p <;> exact h
  refine run2 (fun _ z => z) (fun _ _ z => z) hm h' fun {Z c s V U H2 Z2 c2 cv cw v w env2} sr rv rw st hl hq h2 => ?_
  obtain ⟨res, e2⟩ : ∃ res, G v w = some res := by
    cases e : G v w with
    | none => rw [e] at h2; exact h2.elim
    | some res => exact ⟨res, rfl⟩
  rw [e2] at h2
  obtain ⟨k, rfl⟩ := hG _ _ _ e2
  have h3 : Post (gl X) W relB _ _ _ _ _ _ (ok k _) Q := h2
  refine hp _ _ _ e2 _ _ _ _ _ _ _ rv rw st.good.zd fun y H' Z' cr n ry => ?_
  have rk := ry
  simp only [R] at rk
  refine ⟨k, rk.1, ?_⟩
  have gd := st.good.less hl
  exact finT (α := Unit) (β := Unit) ((st.drop hl).trans (n.step gd)) (fun x => Nat.le_add_right _ _) (sr.kept (n.same.kept n.zin)) (fun z x o y => n.same x o (hq z x o y)) h3
theorem v_not (ha : VT X W qa a dt) : VT X W qa (.UnaryOp .Not a pos) (dNot dt) := by
  refine ⟨PT.weak (pt_not ha.pt) fun σ H Q h => ?_⟩
  exact runT (fun _ z => z) h fun sr st hq e h2 => finT (α := Unit) (β := Unit) st (fun _ => Nat.le_refl _) sr hq h2
end
end PV

namespace PV
open PySem PySem.Spec PyProof.Rows L2
/-! ### and, or, if-expressions -/
structure VW (X : Cx) (W : WX) (q : Bool) (e : Expr) (d : DT) : Prop where
  pw : PW X e (tT' (gl X) W q d)
def dAndV (d1 d2 : DE) : DE := fun env => bnd (d1 env) fun v e => bnd (lift (gBl v) e) fun b e => if b = true then d2 e else ok (.bl false) e
def dOrV (d1 d2 : DE) : DE := fun env => bnd (d1 env) fun v e => bnd (lift (gBl v) e) fun b e => if b = true then ok (.bl true) e else d2 e
def gNot : Val → Option Val
  | .bl b => some (.bl (!b))
  | _ => none
section
variable {α β : Type} {g : Gl} {W : WX} {rel : Rel α β} {σ : L2.St} {q m q' m' : Bool} {H H1 : Hp} {Z Z1 : AP} {t t1 : Cnt} {r : M α} {Q : β → Hp → Prop}
theorem Post.from (h : Post g W rel σ q m H Z t r Q) (st : Step H Z t H1 Z1 t1) (hq : q = true → Same' H H1 ∧ q' = true) (hm : m = false → m' = false) : Post g W rel σ q' m' H1 Z1 t1 r Q := by
  match r, h with
  | none, h => exact h
  | some (.error x, env'), h => exact fun H' Z' c' C d hC sr st' => h H' Z' c' C d hC sr (st.trans st')
  | some (.ok v, env'), h => exact fun V H' Z' c' cv cx sr rl m0 st' q1 => h V H' Z' c' cv cx sr rl (fun z => m0 (hm z)) (st.trans st') fun z a o e => q1 (hq z).2 a o ((hq z).1 a o e)
end
section
variable {X : Cx} {W : WX} {e a b : Expr} {es : List Expr} {pos : Pos} {q m qa qb qc ma mb : Bool} {da db : DE} {dr : DA} {dt du : DT}
theorem VW.vt (h : VW X W q e dt) : VT X W q e dt := ⟨h.pw.pt⟩
theorem PW.weak {t t' : TT} (h : PW X e t) (w : ∀ σ H Q, t' σ H Q → t σ H Q) : PW X e t' := ⟨fun wh pins s σ H Q I q => h.run wh pins s σ H Q I (w σ H Q q)⟩
theorem v_and1 (h : VT X W qa a dt) : VW X W qa (.BoolOp .And [a] pos) dt := ⟨pw_and1 h.pt⟩
theorem v_or1 (h : VT X W qa a dt) : VW X W qa (.BoolOp .Or [a] pos) dt := ⟨pw_or1 h.pt⟩
theorem runT2 {σ : L2.St} {H : Hp} {Q : Bool → Hp → Prop} {ta tb : TT} (ha : ∀ Q, tT' (gl X) W qa dt σ H Q → ta σ H Q) (hb : ∀ H Q, tT' (gl X) W qb du σ H Q → tb σ H Q) {k : Bool → Bool}
    (h : tT' (gl X) W (qa && qb) (fun env => bnd (dt env) fun b e => if k b = true then du e else ok b e) σ H Q) : ta σ H fun c H1 => if k c = true then tb σ H1 Q else Q c H1 := by
  refine runT ha h fun {Z c H2 Z2 c2 v env env2} sr st hq e h2 => ?_
  by_cases z : k v = true
  · rw [if_pos z] at h2 ⊢
    exact hb _ _ ⟨Z2, env2, c2, sr, st.good, h2.from st (fun z => ⟨hq (Bool.and_eq_true_iff.mp z).1, (Bool.and_eq_true_iff.mp z).2⟩) id⟩
  · rw [if_neg z] at h2 ⊢
    exact finT (α := Unit) (β := Unit) st (fun _ => Nat.le_refl _) sr (fun z => hq (Bool.and_eq_true_iff.mp z).1) h2
theorem v_and {rest : List Expr} (h : VT X W qa a dt) (h2 : VW X W qb (.BoolOp .And (b :: rest) pos) du) : VW X W (qa && qb) (.BoolOp .And (a :: b :: rest) pos) (dAnd dt du) := by
  refine ⟨PW.weak (pw_and h.pt h2.pw) fun σ H Q h => ?_⟩
  have h' : tT' (gl X) W (qa && qb) (fun env => bnd (dt env) fun b e => if b = true then du e else ok b e) σ H Q := by
    obtain ⟨Z, env, c, sr, gd, h⟩ := h
    refine ⟨Z, env, c, sr, gd, ?_⟩
    unfold dAnd at h
    have e : (fun (b : Bool) (e : Env) => if b = true then du e else ok b e) = fun (b : Bool) (e : Env) => if b = true then du e else ok false e := by
      funext b e; cases b <;> rfl
    rw [e]; exact h
  have := runT2 (k := id) (fun _ z => z) (fun _ _ z => z) h' (ta := tT' (gl X) W qa dt) (tb := tT' (gl X) W qb du)
  have e : (fun (c : Bool) (H1 : Hp) => if id c = true then tT' (gl X) W qb du σ H1 Q else Q c H1) = fun c H1 => if c = true then tT' (gl X) W qb du σ H1 Q else Q false H1 := by
    funext c H1; cases c <;> rfl
  rw [e] at this
  exact this
theorem v_or {rest : List Expr} (h : VT X W qa a dt) (h2 : VW X W qb (.BoolOp .Or (b :: rest) pos) du) : VW X W (qa && qb) (.BoolOp .Or (a :: b :: rest) pos) (dOr dt du) := by
  refine ⟨PW.weak (pw_or h.pt h2.pw) fun σ H Q h => ?_⟩
  have h' : tT' (gl X) W (qa && qb) (fun env => bnd (dt env) fun b e => if (!b) = true then du e else ok b e) σ H Q := by
    obtain ⟨Z, env, c, sr, gd, h⟩ := h
    refine ⟨Z, env, c, sr, gd, ?_⟩
    unfold dOr at h
    have e : (fun (b : Bool) (e : Env) => if (!b) = true then du e else ok b e) = fun (b : Bool) (e : Env) => if b = true then ok true e else du e := by
      funext b e; cases b <;> rfl
    rw [e]; exact h
  have := runT2 (k := not) (fun _ z => z) (fun _ _ z => z) h' (ta := tT' (gl X) W qa dt) (tb := tT' (gl X) W qb du)
  have e : (fun (c : Bool) (H1 : Hp) => if (!c) = true then tT' (gl X) W qb du σ H1 Q else Q c H1) = fun c H1 => if c = true then Q true H1 else tT' (gl X) W qb du σ H1 Q := by
    funext c H1; cases c <;> rfl
  rw [e] at this
  exact this
theorem gBl_of {g : Gl} {H : Hp} {Z : AP} {v : Val} {x : V} {c : Cnt} {b : Bool} (h : gBl v = some b) (r : R g H Z v x c) : v = .bl b ∧ x = .bl b := by
  cases v with
  | bl k => simp only [R] at r; cases h; exact ⟨rfl, r.1⟩
  | _ => cases h
theorem R_bl {g : Gl} {H : Hp} {Z : AP} {b : Bool} : R g H Z (.bl b) (.bl b) (fun _ => 0) := by simp only [R]; exact ⟨trivial, fun _ => trivial⟩
/-- and, or as values -/
theorem v_one {op} (h : VE X W q m a da) : VE X W q m (.BoolOp op [a] pos) da := ⟨pe_one h.pe⟩
theorem fin0 {g : Gl} {W : WX} {σ : L2.St} {q m : Bool} {H Hn : Hp} {Z Zn : AP} {t s cn : Cnt} {env : Env} {v : Val} {V : V} {Q : VK}
    (hs : Step H Z t Hn Zn s) (hl : ∀ a, cn a ≤ s a) (sr : SR g Hn Zn σ env cn) (hq : q = true → Same' H Hn) (r : R g Hn Zn v V (fun _ => 0)) (h : Post g W (R g) σ q m H Z t (ok v env) Q) : Q V Hn :=
  fin hs hl sr hq (New.refl hs.good.zd) r h
theorem v_andV {rest : List Expr} (h : VE X W qa ma a da) (h2 : VE X W qb mb (.BoolOp .And (b :: rest) pos) db) : VE X W (qa && qb) mb (.BoolOp .And (a :: b :: rest) pos) (dAndV da db) := by
  refine ⟨PE.weak (pe_and h.pe h2.pe) fun σ H Q h => ?_⟩
  refine run1 (fun _ z => z) h fun {Z c V H2 Z2 c2 cv cx v env env2} a e h2 => ?_
  cases eb : gBl v with
  | none => rw [eb] at h2; exact h2.elim
  | some k =>
    rw [eb] at h2
    obtain ⟨e1, e2⟩ := gBl_of eb a.rl
    refine ⟨k, e2, ?_⟩
    have h2 : Post (gl X) W _ _ _ _ _ _ _ (if k = true then db env2 else ok (.bl false) env2) Q := h2
    cases k with
    | true =>
      rw [if_pos rfl] at h2 ⊢
      exact ⟨Z2, env2, c2, a.sr, a.st.good.comm, h2.from (a.st.drop fun x => Nat.le_add_right _ _) (fun z => ⟨a.q1 (Bool.and_eq_true_iff.mp z).1, (Bool.and_eq_true_iff.mp z).2⟩) id⟩
    | false =>
      rw [if_neg (by decide)] at h2 ⊢
      exact fin0 a.st (fun _ => Nat.le_add_right _ _) a.sr (fun z => a.q1 (Bool.and_eq_true_iff.mp z).1) R_bl h2
theorem v_orV {rest : List Expr} (h : VE X W qa ma a da) (h2 : VE X W qb mb (.BoolOp .Or (b :: rest) pos) db) : VE X W (qa && qb) mb (.BoolOp .Or (a :: b :: rest) pos) (dOrV da db) := by
  refine ⟨PE.weak (pe_or h.pe h2.pe) fun σ H Q h => ?_⟩
  refine run1 (fun _ z => z) h fun {Z c V H2 Z2 c2 cv cx v env env2} a e h2 => ?_
  cases eb : gBl v with
  | none => rw [eb] at h2; exact h2.elim
  | some k =>
    rw [eb] at h2
    obtain ⟨e1, e2⟩ := gBl_of eb a.rl
    refine ⟨k, e2, ?_⟩
    have h2 : Post (gl X) W _ _ _ _ _ _ _ (if k = true then ok (.bl true) env2 else db env2) Q := h2
    cases k with
    | false =>
      rw [if_neg (by decide)] at h2 ⊢
      exact ⟨Z2, env2, c2, a.sr, a.st.good.comm, h2.from (a.st.drop fun x => Nat.le_add_right _ _) (fun z => ⟨a.q1 (Bool.and_eq_true_iff.mp z).1, (Bool.and_eq_true_iff.mp z).2⟩) id⟩
    | true =>
      rw [if_pos rfl] at h2 ⊢
      exact fin0 a.st (fun _ => Nat.le_add_right _ _) a.sr (fun z => a.q1 (Bool.and_eq_true_iff.mp z).1) R_bl h2
theorem v_notV (h : VE X W qa ma a da) : VE X W qa false (.UnaryOp .Not a pos) (dUn gNot da) := by
  refine ⟨PE.weak (pe_not h.pe) fun σ H Q h => ?_⟩
  refine run1 (fun _ z => z) h fun {Z c V H2 Z2 c2 cv cx v env env2} a e h2 => ?_
  obtain ⟨res, e2, h3⟩ := lift_some h2
  cases v with
  | bl k =>
    have e4 := a.rl
    simp only [R] at e4
    cases e2
    exact ⟨k, e4.1, fin0 a.st (fun _ => Nat.le_add_right _ _) a.sr a.q1 R_bl h3⟩
  | _ => cases e2
theorem v_if {c : Expr} (hc : VT X W qc c dt) (ha : VE X W qa ma a da) (hb : VE X W qb mb b db) : VE X W (qc && qa && qb) (ma || mb) (.IfExp c a b pos) (dIf dt da db) := by
  refine ⟨PE.weak (pe_ifExp hc.pt ha.pe hb.pe) fun σ H Q h => ?_⟩
  refine runT (fun _ z => z) h fun {Z c H2 Z2 c2 v env env2} sr st hq e h2 => ?_
  have hq3 : (qc && qa && qb) = true → Same' H H2 ∧ (qa = true ∧ qb = true) := fun z => by
    simp only [Bool.and_eq_true] at z
    exact ⟨hq z.1.1, z.1.2, z.2⟩
  cases v with
  | true =>
    rw [if_pos rfl] at h2 ⊢
    exact ⟨Z2, env2, c2, sr, st.good, h2.from st (fun z => ⟨(hq3 z).1, (hq3 z).2.1⟩) fun z => (Bool.or_eq_false_iff.mp z).1⟩
  | false =>
    rw [if_neg (by decide)] at h2 ⊢
    exact ⟨Z2, env2, c2, sr, st.good, h2.from st (fun z => ⟨(hq3 z).1, (hq3 z).2.2⟩) fun z => (Bool.or_eq_false_iff.mp z).2⟩
end
/-! ### statements -/
def Pr (pr : List Nat) (σ σ' : L2.St) : Prop := ∀ i ∈ pr, σ'[i]? = σ[i]?
theorem Pr.refl {pr : List Nat} {σ : L2.St} : Pr pr σ σ := fun _ _ => rfl
theorem Pr.trans {pr : List Nat} {σ σ1 σ2 : L2.St} (a : Pr pr σ σ1) (b : Pr pr σ1 σ2) : Pr pr σ σ2 := fun i h => (b i h).trans (a i h)
theorem Pr.set {pr : List Nat} {σ : L2.St} {i : Nat} {v : Option V} (h : i ∉ pr) : Pr pr σ (σ.set i v) := fun j hj => by
  rw [List.getElem?_set_ne]
  exact fun e => h (e ▸ hj)
def PostS (g : Gl) (W : WX) (pr : List Nat) (σ : L2.St) (H : Hp) (Z : AP) (t : Cnt) (r : M Out) (D : Ends) : Prop :=
  match r with
  | some (.ok .nx, env') => ∀ (σ' : L2.St) (H' : Hp) (Z' : AP) (c' : Cnt), Pr pr σ σ' → SR g H' Z' σ' env' c' → Step H Z t H' Z' c' → D.nx σ' H'
  | some (.ok .bk, env') => ∀ (σ' : L2.St) (H' : Hp) (Z' : AP) (c' : Cnt), Pr pr σ σ' → SR g H' Z' σ' env' c' → Step H Z t H' Z' c' → D.bk σ' H'
  | some (.ok .ct, env') => ∀ (σ' : L2.St) (H' : Hp) (Z' : AP) (c' : Cnt), Pr pr σ σ' → SR g H' Z' σ' env' c' → Step H Z t H' Z' c' → D.ct σ' H'
  | some (.ok (.rt v), env') => ∀ (V : V) (σ' : L2.St) (H' : Hp) (Z' : AP) (c' cv : Cnt), Pr pr σ σ' → SR g H' Z' σ' env' c' → R g H' Z' v V cv → Step H Z t H' Z' (fun a => c' a + cv a) → D.rt V H'
  | some (.error x, env') => ∀ (σ' : L2.St) (H' : Hp) (Z' : AP) (c' : Cnt) (C : Addr) (d : Option Addr), g.mg x = some (.ref C) → Pr pr σ σ' → SR g H' Z' σ' env' c' → Step H Z t H' Z' c' → W (.ref C) d σ' H'
  | none => False
def tS (g : Gl) (W : WX) (pr : List Nat) (d : DS) : TS := fun D σ H => ∃ Z env c, SR g H Z σ env c ∧ Good H Z c ∧ PostS g W pr σ H Z c (d env) D
structure VS (X : Cx) (W : WX) (pr : List Nat) (st : Stmt) (d : DS) : Prop where
  ps : PS X st (tS (gl X) W pr d)
structure VSs (X : Cx) (W : WX) (pr : List Nat) (st : List Stmt) (d : DS) : Prop where
  ps : PSs X st (tS (gl X) W pr d)
theorem PostS.from {g : Gl} {W : WX} {pr : List Nat} {σ σ1 : L2.St} {H H1 : Hp} {Z Z1 : AP} {t t1 : Cnt} {r : M Out} {D : Ends} (h : PostS g W pr σ H Z t r D) (st : Step H Z t H1 Z1 t1) (p : Pr pr σ σ1) : PostS g W pr σ1 H1 Z1 t1 r D := by
  match r, h with
  | none, h => exact h
  | some (.error x, env'), h => exact fun σ' H' Z' c' C d hC p' sr st' => h σ' H' Z' c' C d hC (p.trans p') sr (st.trans st')
  | some (.ok .nx, env'), h => exact fun σ' H' Z' c' p' sr st' => h σ' H' Z' c' (p.trans p') sr (st.trans st')
  | some (.ok .bk, env'), h => exact fun σ' H' Z' c' p' sr st' => h σ' H' Z' c' (p.trans p') sr (st.trans st')
  | some (.ok .ct, env'), h => exact fun σ' H' Z' c' p' sr st' => h σ' H' Z' c' (p.trans p') sr (st.trans st')
  | some (.ok (.rt v), env'), h => exact fun V σ' H' Z' c' cv p' sr rv st' => h V σ' H' Z' c' cv (p.trans p') sr rv (st.trans st')
def dSkip : DS := fun env => ok .nx env
def dSeq (d1 d2 : DS) : DS := fun env => match d1 env with
  | some (.ok .nx, e) => d2 e
  | r => r
def dSet (i : Nat) (d : DE) : DS := fun env => bnd (d env) fun v e => ok .nx (e.set i v)
def dRet (d : DE) : DS := fun env => bnd (d env) fun v e => ok (.rt v) e
def dRet0 : DS := fun env => ok (.rt .non) env
def dDo (d : DE) : DS := fun env => bnd (d env) fun _ e => ok .nx e
def dIfS (d : DT) (d1 d2 : DS) : DS := fun env => bnd (d env) fun b e => if b = true then d1 e else d2 e
def dBrk : DS := fun env => ok .bk env
def dCnt : DS := fun env => ok .ct env
def dAug (G : Val → Val → Option Val) (i : Nat) (d : DE) : DS := fun env => bnd (lift (getv env i) env) fun v e0 => if own v = true then none else bnd (d e0) fun w e => bnd (lift (G v w) e) fun r e => ok .nx (e.set i r)
theorem SR.set' {g : Gl} {H : Hp} {Z : AP} {σ : L2.St} {env : Env} {c : Cnt} (i : Nat) {x : Val} {y : V} {cx : Cnt} (h : SR g H Z σ env c) (r' : R g H Z x y cx) :
    ∃ d, SR g H Z (σ.set i (some y)) (env.set i x) d ∧ ∀ a, d a ≤ c a + cx a := by
  by_cases hi : i < env.length
  · exact h.set hi r'
  · refine ⟨c, ?_, fun a => Nat.le_add_right _ _⟩
    rw [List.set_eq_of_length_le (by rw [h.len]; omega), List.set_eq_of_length_le (by omega)]
    exact h
section
variable {X : Cx} {W : WX} {pr : List Nat} {e : Expr} {st : Stmt} {rest : List Stmt} {pos : Pos} {q m : Bool} {d : DE} {dt : DT} {d1 d2 : DS}
theorem v_sdone : VSs X W pr [] dSkip := by
  refine ⟨PSs.weak pss_nil fun D σ H h => ?_⟩
  obtain ⟨Z, env, c, sr, gd, h⟩ := h
  exact h σ H Z c Pr.refl sr (Step.refl gd)
theorem v_sone (h : VS X W pr st d1) : VSs X W pr [st] d1 := ⟨pss_one h.ps⟩
theorem v_seq (h1 : VS X W pr st d1) (h2 : VSs X W pr rest d2) : VSs X W pr (st :: rest) (dSeq d1 d2) := by
  refine ⟨PSs.weak (pss_cons h1.ps h2.ps) fun D σ H h => ?_⟩
  obtain ⟨Z, env, c, sr, gd, h⟩ := h
  refine ⟨Z, env, c, sr, gd, ?_⟩
  unfold dSeq at h
  match d1 env, h with
  | none, h => exact h
  | some (.error x, env'), h => exact h
  | some (.ok .nx, env'), h => exact fun σ' H' Z' c' p sr' st => ⟨Z', env', c', sr', st.good, h.from st p⟩
  | some (.ok .bk, env'), h => exact h
  | some (.ok .ct, env'), h => exact h
  | some (.ok (.rt v), env'), h => exact h
/-- an expression, then a statement's end -/
theorem runS0 {te : TE} {k : Val → Env → M Out} {σ : L2.St} {H : Hp} {Z : AP} {env : Env} {c : Cnt} {D : Ends} (ha : ∀ Q, tE (gl X) W q m d σ H Q → te σ H Q) {K : VK}
    (sr : SR (gl X) H Z σ env c) (gd : Good H Z c) (h : PostS (gl X) W pr σ H Z c (bnd (d env) k) D)
    (hk : ∀ {V H2 Z2 c2 cv cx v env2}, At (gl X) (R (gl X)) σ q m H Z c v env2 V H2 Z2 c2 cv cx → d env = ok v env2 → PostS (gl X) W pr σ H Z c (k v env2) D → K V H2) : te σ H K := by
  refine ha _ ⟨Z, env, c, sr, gd, ?_⟩
  revert hk
  generalize d env = r at h
  intro hk
  match r, h with
  | none, h => exact h
  | some (.error x, env'), h => exact fun H' Z' c' C dd hC sr' st' => h σ H' Z' c' C dd hC Pr.refl sr' st'
  | some (.ok v, env'), h => exact fun V H' Z' c' cv cx sr' rl m0 st' q1 => hk ⟨sr', rl, m0, st', q1⟩ rfl h
theorem runS {te : TE} {k : Val → Env → M Out} {σ : L2.St} {H : Hp} {D : Ends} (ha : ∀ Q, tE (gl X) W q m d σ H Q → te σ H Q) {K : VK}
    (h : ∃ Z env c, SR (gl X) H Z σ env c ∧ Good H Z c ∧ PostS (gl X) W pr σ H Z c (bnd (d env) k) D)
    (hk : ∀ {Z c V H2 Z2 c2 cv cx v env env2}, At (gl X) (R (gl X)) σ q m H Z c v env2 V H2 Z2 c2 cv cx → d env = ok v env2 → PostS (gl X) W pr σ H Z c (k v env2) D → K V H2) : te σ H K := by
  obtain ⟨Z, env, c, sr, gd, h⟩ := h
  exact runS0 ha sr gd h hk
theorem v_set {i : Nat} {x : Str} {pos' : Pos} (he : VE X W q false e d) (hN : X.N.Nodup) (hi : X.N[i]? = some x) (hx : Loc X.env.scope x) (hp : i ∉ pr := by decide) (hs : swapsWith e (some (.Name x pos')) pos.line X.env = pure false := by rfl) (hf : X.fn x = true ∨ X.env.scope.names.lookup x = some .local := by first | exact .inl rfl | exact .inr rfl | assumption) :
    VS X W pr (.Assign [.Name x pos'] e pos) (dSet i d) := by
  refine ⟨PS.weak (ps_set hN hi hx he.pe hs hf) fun D σ H h => ?_⟩
  refine runS (fun _ z => z) h fun {Z c V H2 Z2 c2 cv cx v env env2} a e h2 => ?_
  obtain ⟨d', sr', hl⟩ := a.sr.set' i a.rl
  exact h2 _ H2 Z2 d' (Pr.set hp) sr' (a.st.drop fun x => by rw [a.m0 rfl]; exact hl x)
theorem v_ret (he : VE X W q false e d) : VS X W pr (.Return (some e) pos) (dRet d) := by
  refine ⟨PS.weak (ps_ret he.pe) fun D σ H h => ?_⟩
  refine runS (fun _ z => z) h fun {Z c V H2 Z2 c2 cv cx v env env2} a e h2 => ?_
  exact h2 V σ H2 Z2 c2 cv Pr.refl a.sr a.rl (a.st.eq fun x => by show c2 x + cv x = c2 x + cx x; rw [a.m0 rfl])
theorem v_ret0 : VS X W pr (.Return none pos) dRet0 := by
  refine ⟨PS.weak ps_retN fun D σ H h => ?_⟩
  obtain ⟨Z, env, c, sr, gd, h⟩ := h
  exact h .non σ H Z c (fun _ => 0) Pr.refl sr (by simp only [R]; exact ⟨trivial, fun _ => trivial⟩) (Step.refl gd)
theorem v_do (he : VE X W q m e d) (hs : swapsWith e none pos.line X.env = pure false := by rfl) : VS X W pr (.Expr e pos) (dDo d) := by
  refine ⟨PS.weak (ps_expr he.pe hs) fun D σ H h => ?_⟩
  refine runS (fun _ z => z) h fun {Z c V H2 Z2 c2 cv cx v env env2} a e h2 => ?_
  exact h2 σ H2 Z2 c2 Pr.refl a.sr (a.st.drop fun x => Nat.le_add_right _ _)
theorem v_pass : VS X W pr (.Pass pos) dSkip := by
  refine ⟨PS.weak ps_pass fun D σ H h => ?_⟩
  obtain ⟨Z, env, c, sr, gd, h⟩ := h
  exact h σ H Z c Pr.refl sr (Step.refl gd)
theorem v_break : VS X W pr (.Break pos) dBrk := by
  refine ⟨PS.weak ps_break fun D σ H h => ?_⟩
  obtain ⟨Z, env, c, sr, gd, h⟩ := h
  exact h σ H Z c Pr.refl sr (Step.refl gd)
theorem v_cont : VS X W pr (.Continue pos) dCnt := by
  refine ⟨PS.weak ps_continue fun D σ H h => ?_⟩
  obtain ⟨Z, env, c, sr, gd, h⟩ := h
  exact h σ H Z c Pr.refl sr (Step.refl gd)
theorem v_ifs {c : Expr} {xs ys : List Stmt} (hc : VT X W q c dt) (h1 : VSs X W pr xs d1) (h2 : VSs X W pr ys d2) : VS X W pr (.If c xs ys pos) (dIfS dt d1 d2) := by
  refine ⟨PS.weak (ps_if hc.pt h1.ps h2.ps) fun D σ H h => ?_⟩
  obtain ⟨Z, env, c, sr, gd, h⟩ := h
  refine ⟨Z, env, c, sr, gd, ?_⟩
  unfold dIfS at h
  match dt env, h with
  | none, h => exact h
  | some (.error x, env'), h => exact fun H' Z' c' C dd hC sr' st' => h σ H' Z' c' C dd hC Pr.refl sr' st'
  | some (.ok v, env'), h =>
    intro V H' Z' c' cv cx sr' rl m0 st' q1
    obtain ⟨e1, e2⟩ := rl
    subst e1
    have h : PostS (gl X) W pr σ H Z c (if V = true then d1 env' else d2 env') D := h
    have st2 := st'.drop (u := c') fun x => Nat.le_add_right _ _
    cases V with
    | true => rw [if_pos rfl] at h ⊢; exact ⟨Z', env', c', sr', st2.good, h.from st2 Pr.refl⟩
    | false => rw [if_neg (by decide)] at h ⊢; exact ⟨Z', env', c', sr', st2.good, h.from st2 Pr.refl⟩
theorem R_step0 {g : Gl} {H H' : Hp} {Z Z' : AP} {t t' c : Cnt} {v : Val} {V : V} (o : own v = false) (r : R g H Z v V c) (st : Step H Z t H' Z' t') (gd : Good H Z t) : R g H' Z' v V (fun _ => 0) := by
  have z := own_zero v V c o r
  exact R_kept _ _ _ (st.kept (u := fun _ => 0) (gd.eq fun _ => rfl)) (R_eq _ _ _ _ (fun a => (z a).symm) r)
theorem v_aug {i : Nat} {x : Str} {op : Operator} {r : R2} {G : Val → Val → Option Val} {pos' : Pos} (ho : PIp X op r) (hp : Pure2 (gl X) r G) (he : VE X W q m e d) (hN : X.N.Nodup) (hi : X.N[i]? = some x) (hx : Loc X.env.scope x) (hpr : i ∉ pr := by decide) (hf : X.fn x = true ∨ X.env.scope.names.lookup x = some .local := by first | exact .inl rfl | exact .inr rfl | assumption) :
    VS X W pr (.AugAssign (.Name x pos') op e pos) (dAug G i d) := by
  refine ⟨PS.weak (ps_aug hN hi hx he.pe ho hf) fun D σ H h => ?_⟩
  obtain ⟨Z, env, c, sr, gd, h⟩ := h
  cases e : getv env i with
  | none => simp only [dAug, e, lift] at h; exact h.elim
  | some v =>
    simp only [dAug, e, lift, bnd] at h
    by_cases o : own v = true
    · rw [if_pos o] at h; exact h.elim
    · rw [if_neg o] at h
      have o : own v = false := by simpa using o
      obtain ⟨e1, e2⟩ := getv_some e
      obtain ⟨y, cx, cr, es, ry, ec, _⟩ := sr.at e1 e2
      refine ⟨y, es, ?_⟩
      refine runS0 (d := d) (fun _ z => z) sr gd h fun {V H2 Z2 c2 cv cx' w env2} a ew h2 => ?_
      have ry2 : R (gl X) H2 Z2 v y (fun _ => 0) := R_step0 o ry a.st gd
      cases eg : G v w with
      | none => rw [eg] at h2; exact h2.elim
      | some res =>
        rw [eg] at h2
        refine hp _ _ _ eg _ _ _ _ _ _ _ ry2 a.rl a.st.good.zd fun z H' Z' cr n rz => ?_
        have gd2 := a.st.good.comm
        obtain ⟨d', sr', hl⟩ := (a.sr.kept (n.same.kept n.zin)).set' i rz
        refine h2 _ H' Z' d' (Pr.set hpr) sr' (((a.st.drop (u := c2) fun x => Nat.le_add_right _ _).trans (n.step gd2)).drop hl)
end
end PV

namespace PV
open PySem PySem.Spec PyProof.Rows L2
/-! ### defs and calls -/
abbrev Fn := List Val → Option (Except Str Val × List Val)
def fins (np : Nat) (pr : List Nat) (e : Env) : List Val := (List.range np).map fun i => if i ∈ pr then e.getD i .gone else .gone
@[irreducible] def mkFn (np ns : Nat) (pr : List Nat) (d : DS) : Fn := fun vs =>
  if vs.length = np then
    match d (vs ++ List.replicate (ns - np) .gone) with
    | some (.ok (.rt v), e) => some (.ok v, fins np pr e)
    | some (.ok .nx, e) => some (.ok .non, fins np pr e)
    | some (.error x, e) => some (.error x, fins np pr e)
    | _ => none
  else none
def PostF (g : Gl) (H : Hp) (Z : AP) (c : Cnt) (Vs : List V) (r : Option (Except Str Val × List Val)) (Q : VK) (E : XK) : Prop :=
  match r with
  | some (.ok v, fs) => ∀ (x : V) (H' : Hp) (Z' : AP) (cf cv : Cnt), Rs g H' Z' fs Vs cf → R g H' Z' v x cv → Step H Z c H' Z' (fun a => cf a + cv a) → Q x H'
  | some (.error x, fs) => ∀ (H' : Hp) (Z' : AP) (cf : Cnt) (C : Addr) (d : Option Addr), g.mg x = some (.ref C) → Rs g H' Z' fs Vs cf → Step H Z c H' Z' cf → E (.ref C) d H'
  | none => False
def spOf (g : Gl) (np : Nat) (F : Fn) : Sp := fun Vs H Q E => ∃ Z vs c, vs.length = np ∧ (∀ v ∈ vs, v ≠ .gone) ∧ Rs g H Z vs Vs c ∧ Good H Z c ∧ PostF g H Z c Vs (F vs) Q E
section
variable {g : Gl} {H : Hp} {Z : AP}
theorem R_gone {x : V} : R g H Z .gone x (fun _ => 0) := by simp only [R]; intros; trivial
theorem Rs_gones : ∀ (ys : List V), Rs g H Z (List.replicate ys.length .gone) ys (fun _ => 0)
  | [] => Rs_nil
  | y :: ys => by
    show Rs g H Z (.gone :: List.replicate ys.length .gone) (y :: ys) _
    simp only [Rs]
    exact ⟨y, ys, _, _, rfl, R_gone, Rs_gones ys, fun _ => rfl⟩
/-- the state at a def's entry -/
theorem SR_start {N : List Str} {vs : List Val} {Vs : List V} {c : Cnt} (h : Rs g H Z vs Vs c) (hn : vs.length ≤ N.length) : SR g H Z (L2.start N Vs) (vs ++ List.replicate (N.length - vs.length) .gone) c := by
  have hl := Rs_len h
  refine ⟨Vs ++ List.replicate (N.length - vs.length) .non, Rs_append h (c' := fun _ => 0) ?_ (fun _ => rfl), ?_, fun i v y e1 e2 e3 => ?_⟩
  · have := Rs_gones (g := g) (H := H) (Z := Z) (List.replicate (N.length - vs.length) V.non)
    rw [List.length_replicate] at this
    exact this
  · unfold L2.start
    rw [List.length_append, List.length_append, List.length_map, List.length_replicate, List.length_replicate, hl]
  · unfold L2.start
    by_cases hi : i < vs.length
    · rw [List.getElem?_append_left (by rw [hl]; exact hi)] at e3
      rw [List.getElem?_append_left (by rw [List.length_map, hl]; exact hi), List.getElem?_map, e3]
      rfl
    · rw [List.getElem?_append_right (by omega)] at e1
      rw [List.getElem?_replicate] at e1
      split at e1
      · cases e1; exact absurd rfl e2
      · cases e1
/-- the values of the lent parameters behind the body -/
theorem Rs_fins {pr : List Nat} {σ' : L2.St} {env : Env} {Vs : List V} {c : Cnt} (sr : SR g H Z σ' env c) (np : Nat) (hl : Vs.length = np) (hp : ∀ i ∈ pr, ∀ y, Vs[i]? = some y → σ'[i]? = some (some y)) :
    ∃ cf, Rs g H Z (fins np pr env) Vs cf ∧ ∀ a, cf a ≤ c a := by
  -- by the places from the left
  obtain ⟨ys, r, l, al⟩ := sr
  have key : ∀ (n : Nat) (k : Nat) (env' : Env) (ys' zs : List V) (c' : Cnt), Rs g H Z env' ys' c' → (∀ j, env'[j]? = env[k + j]?) → (∀ j, ys'[j]? = ys[k + j]?) → (∀ j, zs[j]? = Vs[k + j]?) → zs.length = n →
      ∃ cf, Rs g H Z ((List.range' k n).map fun i => if i ∈ pr then env.getD i .gone else .gone) zs cf ∧ ∀ a, cf a ≤ c' a := by
    intro n
    induction n with
    | zero =>
      intro k env' ys' zs c' r' h1 h2 h3 h4
      cases zs with
      | nil => exact ⟨_, Rs_nil, fun a => Nat.zero_le _⟩
      | cons z zs => cases h4
    | succ n ih =>
      intro k env' ys' zs c' r' h1 h2 h3 h4
      cases zs with
      | nil => cases h4
      | cons z zs =>
        have hz : Vs[k]? = some z := by have := h3 0; simpa using this.symm
        have h3' : ∀ j, zs[j]? = Vs[k + 1 + j]? := fun j => by have := h3 (j + 1); rw [show k + (j + 1) = k + 1 + j by omega] at this; simpa using this
        cases env' with
        | nil =>
          have he : ∀ j, env[k + j]? = none := fun j => by rw [← h1 j]; rfl
          obtain ⟨cf, r2, l2⟩ := ih (k + 1) [] ys' zs c' r' (fun j => by rw [show k + 1 + j = k + (j + 1) by omega, he]; rfl) (fun j => by
            simp only [Rs] at r'; rw [r'.1, show k + 1 + j = k + (j + 1) by omega, ← h2 (j + 1), r'.1]; simp) h3' (by simpa using h4)
          refine ⟨cf, ?_, l2⟩
          rw [List.range'_succ, List.map_cons]
          have hd : env.getD k .gone = .gone := by
            have := he 0
            rw [List.getD_eq_getElem?_getD, show k = k + 0 by rfl, this]; rfl
          simp only [Rs]
          refine ⟨z, zs, fun _ => 0, cf, rfl, ?_, r2, fun a => (Nat.zero_add _).symm⟩
          split
          · rw [hd]; exact R_gone
          · exact R_gone
        | cons v env' =>
          simp only [Rs] at r'
          obtain ⟨y, ys2, c1, c2, e1, r1, r2, e2⟩ := r'
          subst e1
          have hv : env[k]? = some v := by have := h1 0; simpa using this.symm
          have hy : ys[k]? = some y := by have := h2 0; simpa using this.symm
          obtain ⟨cf, r3, l3⟩ := ih (k + 1) env' ys2 zs c2 r2 (fun j => by have := h1 (j + 1); rw [show k + (j + 1) = k + 1 + j by omega] at this; simpa using this)
            (fun j => by have := h2 (j + 1); rw [show k + (j + 1) = k + 1 + j by omega] at this; simpa using this) h3' (by simpa using h4)
          rw [List.range'_succ, List.map_cons]
          have hd : env.getD k .gone = v := by rw [List.getD_eq_getElem?_getD, hv]; rfl
          by_cases hk : k ∈ pr
          · by_cases hg : v = .gone
            · refine ⟨cf, ?_, fun a => by have := l3 a; have := e2 a; omega⟩
              simp only [Rs]
              refine ⟨z, zs, fun _ => 0, cf, rfl, ?_, r3, fun a => (Nat.zero_add _).symm⟩
              rw [if_pos hk, hd, hg]; exact R_gone
            · have e3 := al k v y hv hg hy
              rw [hp k hk z hz] at e3
              have e4 : z = y := Option.some.inj (Option.some.inj e3)
              subst e4
              refine ⟨fun a => c1 a + cf a, ?_, fun a => by have := l3 a; have := e2 a; show c1 a + cf a ≤ c' a; omega⟩
              simp only [Rs]
              refine ⟨z, zs, c1, cf, rfl, ?_, r3, fun a => rfl⟩
              rw [if_pos hk, hd]; exact r1
          · refine ⟨cf, ?_, fun a => by have := l3 a; have := e2 a; omega⟩
            simp only [Rs]
            refine ⟨z, zs, fun _ => 0, cf, rfl, ?_, r3, fun a => (Nat.zero_add _).symm⟩
            rw [if_neg hk]; exact R_gone
  obtain ⟨cf, r2, l2⟩ := key np 0 env ys Vs c r (fun j => by rw [Nat.zero_add]) (fun j => by rw [Nat.zero_add]) (fun j => by rw [Nat.zero_add]) hl
  exact ⟨cf, by unfold fins; rw [List.range_eq_range']; exact r2, l2⟩
end
/-- THE RULE for a def -/
theorem v_fn {P : Program} {w : World} {K : PySem.W.Frag} {mg : Str → Option Value} {base : Heap} {x qual : Str} {st : Stmt} {f : Addr} {fd : FuncData} {N ps : List Str} {k : Nat} {pr : List Nat} {d : DS} (F : Fun K x qual st f fd) (S : FnScope N ps (defScope st))
    (hpr : ∀ i ∈ pr, i < ps.length)
    (body : ∀ (cdv : Value) (A : Around) (outer : List PySem.Env) (s : Shared) (H : Hp) (E : XK), Room k (A.deeper (envOfC qual (defScope st) s.heap.objs.size f cdv)) →
      Takes (cxOf (L2.CX P w) P w K mg base N qual (defScope st) f cdv A outer s H E) (fun cls d _ H => E cls d H) →
      PassesOwn (model P w) (A.deeper (envOfC qual (defScope st) s.heap.objs.size f cdv)) (envOfC qual (defScope st) s.heap.objs.size f cdv) (cxOf (L2.CX P w) P w K mg base N qual (defScope st) f cdv A outer s H E).xe →
      VSs (cxOf (L2.CX P w) P w K mg base N qual (defScope st) f cdv A outer s H E) (fun cls d _ H => E cls d H) pr (defBody st) d) :
    FnOk P w K mg base (L2.CX P w) (k + 1) f fd ps (spOf ⟨K, mg⟩ ps.length (mkFn ps.length N.length pr d)) := by
  refine F.okX S (fun Vs H Q E h => ?_) fun cdv A outer s H Vs Q E hr h => ?_
  · obtain ⟨Z, vs, c, hl, hg, r, gd, h⟩ := h
    rw [Rs_len r, hl]
  · obtain ⟨Z, vs, c, hl, hg, r, gd, h⟩ := h
    have tk : Takes (cxOf (L2.CX P w) P w K mg base N qual (defScope st) f cdv A outer s H E) (fun cls d _ H => E cls d H) := takes_of rfl rfl rfl rfl
    have hb := body cdv A outer s H E hr tk (passes_of (X := cxOf (L2.CX P w) P w K mg base N qual (defScope st) f cdv A outer s H E) rfl)
    refine ⟨_, hb.ps, ?_⟩
    have hNl : ps.length ≤ N.length := by rw [← S.pre, List.length_take]; exact Nat.min_le_right _ _
    have sr := SR_start (N := N) r (by rw [hl]; exact hNl)
    rw [hl] at sr
    refine ⟨Z, _, c, sr, gd, ?_⟩
    unfold mkFn at h
    rw [if_pos hl] at h
    have fin : ∀ {σ' : L2.St} {H' : Hp} {Z' : AP} {env' : PV.Env} {c' : Cnt}, Pr pr (L2.start N Vs) σ' → SR ⟨K, mg⟩ H' Z' σ' env' c' → ∃ cf, Rs ⟨K, mg⟩ H' Z' (fins ps.length pr env') Vs cf ∧ ∀ a, cf a ≤ c' a := fun {σ' H' Z' env' c'} p sr' => by
      refine Rs_fins sr' ps.length (by rw [Rs_len r, hl]) fun i hi y ey => ?_
      rw [p i hi]
      unfold L2.start
      have hlt : i < Vs.length := (List.getElem?_eq_some_iff.mp ey).1
      rw [List.getElem?_append_left (by rw [List.length_map]; exact hlt), List.getElem?_map, ey]
      rfl
    show PostS _ _ _ _ _ _ _ (d (vs ++ List.replicate (N.length - ps.length) .gone)) _
    generalize d (vs ++ List.replicate (N.length - ps.length) .gone) = rr at h ⊢
    match rr, h with
    | none, h => exact h
    | some (.error x, env'), h =>
      intro σ' H' Z' c' C dd hC p sr' st'
      obtain ⟨cf, rf, lf⟩ := fin p sr'
      exact h H' Z' cf C dd hC rf (st'.drop lf)
    | some (.ok .bk, env'), h => exact h.elim
    | some (.ok .ct, env'), h => exact h.elim
    | some (.ok .nx, env'), h =>
      intro σ' H' Z' c' p sr' st'
      obtain ⟨cf, rf, lf⟩ := fin p sr'
      exact h .non H' Z' cf (fun _ => 0) rf (by simp only [R]; exact ⟨trivial, fun _ => trivial⟩) (st'.drop lf)
    | some (.ok (.rt v), env'), h =>
      intro V σ' H' Z' c' cv p sr' rv st'
      obtain ⟨cf, rf, lf⟩ := fin p sr'
      exact h V H' Z' cf cv rf rv (st'.drop fun a => by have := lf a; show cf a + cv a ≤ c' a + cv a; omega)
theorem v_fnN {P : Program} {w : World} {K : PySem.W.Frag} {mg : Str → Option Value} {base : Heap} {x qual : Str} {st : Stmt} {f : Addr} {fd : FuncData} {N ps : List Str} {k np ns : Nat} {pr : List Nat} {d : DS} (F : Fun K x qual st f fd) (S : FnScope N ps (defScope st)) (hnp : ps.length = np) (hns : N.length = ns)
    (hpr : ∀ i ∈ pr, i < np)
    (body : ∀ (cdv : Value) (A : Around) (outer : List PySem.Env) (s : Shared) (H : Hp) (E : XK), Room k (A.deeper (envOfC qual (defScope st) s.heap.objs.size f cdv)) →
      Takes (cxOf (L2.CX P w) P w K mg base N qual (defScope st) f cdv A outer s H E) (fun cls d _ H => E cls d H) →
      PassesOwn (model P w) (A.deeper (envOfC qual (defScope st) s.heap.objs.size f cdv)) (envOfC qual (defScope st) s.heap.objs.size f cdv) (cxOf (L2.CX P w) P w K mg base N qual (defScope st) f cdv A outer s H E).xe →
      VSs (cxOf (L2.CX P w) P w K mg base N qual (defScope st) f cdv A outer s H E) (fun cls d _ H => E cls d H) pr (defBody st) d) :
    FnOk P w K mg base (L2.CX P w) (k + 1) f fd ps (spOf ⟨K, mg⟩ np (mkFn np ns pr d)) := by
  subst hnp hns
  exact v_fn F S hpr body
end PV

namespace PV
open PySem PySem.Spec PyProof.Rows L2
/-! calls -/
theorem mkFn_len {np ns : Nat} {pr : List Nat} {d : DS} : ∀ vs r, mkFn np ns pr d vs = some r → vs.length = np := fun vs r h => by
  unfold mkFn at h
  split at h
  · assumption
  · cases h
abbrev AVal := Sum Nat Val
def relA (g : Gl) (σ : L2.St) (H : Hp) (Z : AP) : List AVal → List V → Cnt → Prop
  | [], ys, c => ys = [] ∧ ∀ a, c a = 0
  | .inl i :: r, ys, c => ∃ y zs, ys = y :: zs ∧ σ[i]? = some (some y) ∧ relA g σ H Z r zs c
  | .inr v :: r, ys, c => ∃ y zs c1 c2, ys = y :: zs ∧ R g H Z v y c1 ∧ relA g σ H Z r zs c2 ∧ ∀ a, c a = c1 a + c2 a
theorem relA_kept {g : Gl} {σ : L2.St} {H H' : Hp} {Z Z' : AP} : ∀ {as : List AVal} {ys : List V} {c : Cnt}, relA g σ H Z as ys c → Kept H Z c H' Z' → relA g σ H' Z' as ys c
  | [], _, _, h, _ => h
  | .inl i :: r, _, _, ⟨y, zs, e, es, h⟩, k => ⟨y, zs, e, es, relA_kept h k⟩
  | .inr v :: r, _, _, ⟨y, zs, c1, c2, e, rv, h, ec⟩, k => ⟨y, zs, c1, c2, e, R_kept _ _ _ (k.less fun a n => by rw [ec]; omega) rv, relA_kept h (k.less fun a n => by rw [ec]; omega), ec⟩
theorem relA_ok (g : Gl) (σ : L2.St) : RelOk (relA g σ) := ⟨fun h k => relA_kept h k⟩
abbrev DG := Env → M (List AVal)
def tG (g : Gl) (W : WX) (q : Bool) (d : DG) : TA := fun σ H Q => ∃ Z env c, SR g H Z σ env c ∧ Good H Z c ∧ Post g W (relA g σ) σ q false H Z c (d env) Q
structure VG (X : Cx) (W : WX) (q : Bool) (es : List Expr) (d : DG) : Prop where
  pa : PA X es (tG (gl X) W q d)
def dGNil : DG := fun env => ok [] env
def dGCons (da : DE) (dr : DG) : DG := fun env => bnd (da env) fun v e1 => bnd (dr e1) fun vs e2 => ok (.inr v :: vs) e2
def dGLend (i : Nat) (dr : DG) : DG := fun env => bnd (lift (getv env i) env) fun _ e => bnd (dr e) fun vs e2 => ok (.inl i :: vs) e2
/-- the lent names are taken out -/
def takeAll : List AVal → Env → Option (List Val × Env)
  | [], e => some ([], e)
  | .inr v :: r, e => match takeAll r e with
    | some (vs, e') => some (v :: vs, e')
    | none => none
  | .inl i :: r, e => match getv e i with
    | some v => match takeAll r (e.set i .gone) with
      | some (vs, e') => some (v :: vs, e')
      | none => none
    | none => none
def putAll : List AVal → List Val → Env → Env
  | .inl i :: r, f :: fs, e => putAll r fs (e.set i f)
  | .inr _ :: r, _ :: fs, e => putAll r fs e
  | _, _, e => e
def callF (F : Fn) (as : List AVal) (e : Env) : M Val :=
  match takeAll as e with
  | none => none
  | some (vs, e1) => if vs.any (fun v => match v with | .gone => true | _ => false) = true then none else match F vs with
    | some (.ok r, fs) => ok r (putAll as fs e1)
    | some (.error x, fs) => some (.error x, putAll as fs e1)
    | none => none
def dCall (F : Fn) (d : DG) : DE := fun env => bnd (d env) fun as e => callF F as e
section
variable {g : Gl} {σ : L2.St} {H : Hp} {Z : AP}
theorem takeAll_ok : ∀ {as : List AVal} {e e1 : Env} {vs : List Val} {Vs : List V} {c ca : Cnt}, takeAll as e = some (vs, e1) → SR g H Z σ e c → relA g σ H Z as Vs ca →
    ∃ c1 cv, SR g H Z σ e1 c1 ∧ Rs g H Z vs Vs cv ∧ ∀ a, c1 a + cv a = c a + ca a
  | [], e, e1, vs, Vs, c, ca, h, sr, r => by
    cases h
    obtain ⟨e2, e3⟩ := r
    subst e2
    exact ⟨c, fun _ => 0, sr, Rs_nil, fun a => by rw [e3]⟩
  | .inr v :: as, e, e1, vs, Vs, c, ca, h, sr, r => by
    obtain ⟨y, zs, c1, c2, e2, rv, r2, e3⟩ := r
    unfold takeAll at h
    split at h
    · rename_i vs' e' h'
      cases h
      obtain ⟨c3, cv, sr', rs, e4⟩ := takeAll_ok h' sr r2
      refine ⟨c3, fun a => c1 a + cv a, sr', ?_, fun a => by have := e4 a; have := e3 a; show c3 a + (c1 a + cv a) = _; omega⟩
      simp only [Rs]
      exact ⟨y, zs, c1, cv, e2, rv, rs, fun _ => rfl⟩
    · cases h
  | .inl i :: as, e, e1, vs, Vs, c, ca, h, sr, r => by
    obtain ⟨y, zs, e2, es, r2⟩ := r
    unfold takeAll at h
    split at h
    · rename_i v hv
      split at h
      · rename_i vs' e' h'
        cases h
        obtain ⟨g1, g2⟩ := getv_some hv
        obtain ⟨y', cx, cr, es', ry, ec, k⟩ := sr.at g1 g2
        rw [es] at es'
        have e5 : y = y' := Option.some.inj (Option.some.inj es')
        subst e5
        have sr1 : SR g H Z σ (e.set i .gone) cr := k (x' := .gone) (c' := fun _ => 0) ⟨fun _ _ e _ => e, fun _ z => z⟩ R_gone fun a => (Nat.zero_add _).symm
        obtain ⟨c3, cv, sr', rs, e4⟩ := takeAll_ok h' sr1 r2
        refine ⟨c3, fun a => cx a + cv a, sr', ?_, fun a => by have := e4 a; have := ec a; show c3 a + (cx a + cv a) = _; omega⟩
        simp only [Rs]
        exact ⟨y, zs, cx, cv, e2, ry, rs, fun _ => rfl⟩
      · cases h
    · cases h
theorem set_same {σ : L2.St} {i : Nat} {y : V} (h : σ[i]? = some (some y)) : σ.set i (some y) = σ := by
  obtain ⟨hi, e⟩ := List.getElem?_eq_some_iff.mp h
  rw [← e, List.set_getElem_self]
theorem putAll_ok : ∀ {as : List AVal} {e : Env} {fs : List Val} {Vs : List V} {c cf ca : Cnt} {H0 : Hp} {Z0 : AP}, SR g H Z σ e c → relA g σ H0 Z0 as Vs ca → Rs g H Z fs Vs cf →
    ∃ d, SR g H Z σ (putAll as fs e) d ∧ ∀ a, d a ≤ c a + cf a
  | [], e, fs, Vs, c, cf, ca, H0, Z0, sr, r, rf => ⟨c, by unfold putAll; exact sr, fun a => Nat.le_add_right _ _⟩
  | .inr v :: as, e, [], Vs, c, cf, ca, H0, Z0, sr, r, rf => ⟨c, by unfold putAll; exact sr, fun a => Nat.le_add_right _ _⟩
  | .inl i :: as, e, [], Vs, c, cf, ca, H0, Z0, sr, r, rf => ⟨c, by unfold putAll; exact sr, fun a => Nat.le_add_right _ _⟩
  | .inr v :: as, e, f :: fs, Vs, c, cf, ca, H0, Z0, sr, r, rf => by
    obtain ⟨y, zs, c1, c2, e2, rv, r2, e3⟩ := r
    simp only [Rs] at rf
    obtain ⟨y', zs', d1, d2, e4, rf1, rf2, e5⟩ := rf
    rw [e2] at e4
    cases e4
    obtain ⟨d, sr', hd⟩ := putAll_ok sr r2 rf2
    exact ⟨d, by rw [putAll]; exact sr', fun a => by have := hd a; have := e5 a; omega⟩
  | .inl i :: as, e, f :: fs, Vs, c, cf, ca, H0, Z0, sr, r, rf => by
    obtain ⟨y, zs, e2, es, r2⟩ := r
    simp only [Rs] at rf
    obtain ⟨y', zs', d1, d2, e4, rf1, rf2, e5⟩ := rf
    rw [e2] at e4
    cases e4
    obtain ⟨d0, sr0, h0⟩ := sr.set' i rf1
    rw [set_same es] at sr0
    obtain ⟨d, sr', hd⟩ := putAll_ok sr0 r2 rf2
    exact ⟨d, by rw [putAll]; exact sr', fun a => by have := hd a; have := e5 a; have := h0 a; omega⟩
end
section
variable {X : Cx} {W : WX} {a e : Expr} {es : List Expr} {pos : Pos} {qa qb : Bool} {da : DE} {dr : DG}
theorem v_gnil : VG X W true [] dGNil := by
  refine ⟨PA.weak pa_nil fun σ H Q h => ?_⟩
  obtain ⟨Z, env, c, sr, gd, h⟩ := h
  exact h [] H Z c (fun _ => 0) (fun _ => 0) sr ⟨rfl, fun _ => rfl⟩ (fun _ _ => rfl) (Step.refl gd) fun _ _ _ e => e
theorem v_gcons (ha : VE X W qa false a da) (hr : VG X W qb es dr) (hs : starEach (a :: es) X.env = (false, eval a X.env) :: starEach es X.env := by rfl) : VG X W (qa && qb) (a :: es) (dGCons da dr) := by
  refine ⟨PA.weak (pa_cons ha.pe hr.pa hs) fun σ H Q h => ?_⟩
  refine run1 (fun _ z => z) h fun {Z c V H2 Z2 c2 cv cx v env env2} a e h2 => ?_
  refine ⟨Z2, env2, c2, a.sr, a.st.good.comm, ?_⟩
  refine (seq (rel := relA (gl X) σ) (q := qb) (m := false) a.st h2).mono fun U H3 ⟨w, env3, Z3, c3, cw, cy, e, b, st, h3⟩ => ?_
  refine h3 (V :: U) H3 Z3 c3 (fun x => cv x + cw x) (fun x => cx x + cy x) b.sr ?_ (fun _ x => by show cx x + cy x = cv x + cw x; rw [a.m0 rfl, b.m0 rfl]) (st.eq fun x => by show c3 x + (cx x + cy x) = (c3 x + cy x) + cx x; omega) fun z => ?_
  · exact ⟨V, U, cv, cw, rfl, a.stay (R_ok _) b (.inl rfl), b.rl, fun _ => rfl⟩
  · have z := Bool.and_eq_true_iff.mp z
    exact fun x o y => b.q1 z.2 x o (a.q1 z.1 x o y)
/-- a name that is lent -/
theorem v_glend {i : Nat} {x : Str} {p : Pos} (hN : X.N[i]? = some x) (hv : Vis X.env.scope x) (hr : VG X W qb es dr) (hs : starEach (.Name x p :: es) X.env = (false, eval (.Name x p) X.env) :: starEach es X.env := by rfl) (hd : (x == ("__debug__" : Str)) = false := by decide) (hcd : (x == ("__classdict__" : Str)) = false := by decide) :
    VG X W qb (.Name x p :: es) (dGLend i dr) := by
  refine ⟨PA.weak (pa_cons (pe_var hN hv hd hcd) hr.pa hs) fun σ H Q h => ?_⟩
  obtain ⟨Z, env, c, sr, gd, h⟩ := h
  cases e : getv env i with
  | none => simp only [dGLend, e, lift] at h; exact h.elim
  | some v =>
    simp only [dGLend, e, lift] at h
    obtain ⟨e1, e2⟩ := getv_some e
    obtain ⟨y, cx, cr, es', ry, ec, k⟩ := sr.at e1 e2
    refine ⟨y, es', Z, env, c, sr, gd, ?_⟩
    have h : Post (gl X) W (relA (gl X) σ) σ qb false H Z c (bnd (dr env) fun vs e2 => ok (.inl i :: vs) e2) Q := h
    have s0 : Step H Z c H Z (fun a => c a + (fun _ => 0) a) := Step.refl gd
    refine (seq (rel := relA (gl X) σ) (q := qb) (m := false) s0 h).mono fun U H3 ⟨w, env3, Z3, c3, cw, cy, e, b, st, h3⟩ => ?_
    exact h3 (y :: U) H3 Z3 c3 cw cy b.sr ⟨y, U, rfl, es', b.rl⟩ b.m0 b.st b.q1
theorem takeAll_len : ∀ {as : List AVal} {e e1 : Env} {vs : List Val}, takeAll as e = some (vs, e1) → vs.length = as.length
  | [], e, e1, vs, h => by cases h; rfl
  | .inr v :: as, e, e1, vs, h => by
    unfold takeAll at h
    split at h
    · rename_i vs' e' h'
      cases h
      rw [List.length_cons, List.length_cons, takeAll_len h']
    · cases h
  | .inl i :: as, e, e1, vs, h => by
    unfold takeAll at h
    split at h
    · split at h
      · rename_i vs' e' h'
        cases h
        rw [List.length_cons, List.length_cons, takeAll_len h']
      · cases h
    · cases h
theorem relA_len {g : Gl} {σ : L2.St} {H : Hp} {Z : AP} : ∀ {as : List AVal} {ys : List V} {c : Cnt}, relA g σ H Z as ys c → ys.length = as.length
  | [], _, _, h => by rw [h.1]; rfl
  | .inl i :: r, _, _, ⟨y, zs, e, es, h⟩ => by rw [e, List.length_cons, List.length_cons, relA_len h]
  | .inr v :: r, _, _, ⟨y, zs, c1, c2, e, rv, h, ec⟩ => by rw [e, List.length_cons, List.length_cons, relA_len h]
/-- what a call wants, from the wish behind it -/
theorem call_post {g : Gl} {W : WX} {σ : L2.St} {H H2 : Hp} {Z Z2 : AP} {c c2 ca : Cnt} {np : Nat} {F : Fn} {as : List AVal} {Vs : List V} {env2 : Env} {Q : VK}
    (st : Step H Z c H2 Z2 (fun a => c2 a + ca a)) (sr : SR g H2 Z2 σ env2 c2) (ra : relA g σ H2 Z2 as Vs ca) (hF : ∀ vs r, F vs = some r → vs.length = np) (h : Post g W (R g) σ false false H Z c (callF F as env2) Q) : spOf g np F Vs H2 Q (WE W σ) := by
  unfold callF at h
  cases et : takeAll as env2 with
  | none => rw [et] at h; exact h.elim
  | some p =>
    obtain ⟨vs, e1⟩ := p
    rw [et] at h
    dsimp only at h
    split at h
    · exact h.elim
    · rename_i hg
      obtain ⟨c1, cv, sr1, rs, ec⟩ := takeAll_ok et sr ra
      have gd : Good H2 Z2 (fun a => c1 a + cv a) := st.good.eq fun a => by show c1 a + cv a = c2 a + ca a; rw [ec]
      have gd' : Good H2 Z2 (fun a => cv a + c1 a) := gd.eq fun a => by show cv a + c1 a = c1 a + cv a; omega
      have st1 : Step H Z c H2 Z2 (fun a => cv a + c1 a) := st.eq fun a => by show cv a + c1 a = c2 a + ca a; have := ec a; omega
      refine ⟨Z2, vs, cv, ?_, fun v hv e => ?_, rs, gd'.comm, ?_⟩
      · cases er : F vs with
        | none => rw [er] at h; exact h.elim
        | some r => exact hF vs r er
      · subst e
        exact hg (List.any_eq_true.mpr ⟨_, hv, rfl⟩)
      · generalize F vs = r at h ⊢
        match r, h with
        | none, h => exact h
        | some (.ok v, fs), h =>
          intro x H' Z' cf cv' rf rv stc
          have kp : Kept H2 Z2 c1 H' Z' := stc.kept (u := c1) gd'
          obtain ⟨d, srd, hd⟩ := putAll_ok (sr1.kept kp) ra rf
          refine h x H' Z' d cv' cv' srd rv (fun _ _ => rfl) ((st1.trans (stc.frame gd')).drop fun a => ?_) (fun z => nomatch z)
          have := hd a
          show d a + cv' a ≤ (cf a + cv' a) + c1 a
          omega
        | some (.error x, fs), h =>
          intro H' Z' cf C dd hC rf stc
          have kp : Kept H2 Z2 c1 H' Z' := stc.kept (u := c1) gd'
          obtain ⟨d, srd, hd⟩ := putAll_ok (sr1.kept kp) ra rf
          exact h H' Z' d C dd hC srd ((st1.trans (stc.frame gd')).drop fun a => by have := hd a; show d a ≤ cf a + c1 a; omega)
theorem runG {X : Cx} {W : WX} {q q' : Bool} {d : DG} {α β : Type} {rel' : Rel α β} {ta : TA} {k : List AVal → Env → M α} {σ : L2.St} {H : Hp} {Q : β → Hp → Prop} {m' : Bool} (ha : ∀ Q, tG (gl X) W q d σ H Q → ta σ H Q) {K : List V → Hp → Prop}
    (h : ∃ Z env c, SR (gl X) H Z σ env c ∧ Good H Z c ∧ Post (gl X) W rel' σ q' m' H Z c (bnd (d env) k) Q)
    (hk : ∀ {Z c V H2 Z2 c2 cv cx v env env2}, At (gl X) (relA (gl X) σ) σ q false H Z c v env2 V H2 Z2 c2 cv cx → d env = ok v env2 → Post (gl X) W rel' σ q' m' H Z c (k v env2) Q → K V H2) : ta σ H K := by
  obtain ⟨Z, env, c, sr, gd, h⟩ := h
  refine ha _ ⟨Z, env, c, sr, gd, ?_⟩
  have s0 : Step H Z c H Z (fun a => c a + (fun _ => 0) a) := Step.refl gd
  exact (seq (rel := relA (gl X) σ) (q := q) (m := false) s0 h).mono fun V H2 ⟨v, env2, Z2, c2, cv, cx, e, a, st, h2⟩ => hk a e h2
/-- a call of a def of the text -/
theorem v_call {k np : Nat} {f : Addr} {fd : FuncData} {ps : List Str} {F : Fn} {x : Str} {p : Pos} (Fk : FnOk X.prog X.w X.K X.mg X.base (L2.CX X.prog X.w) k f fd ps (spOf (gl X) np F)) (hnp : ps.length = np) (hr : Room k X.A) (tk : Takes X W) (hg : L2.Gl X x) (hm : X.mg x = some (.ref f)) (hk : PySem.W.keepIn X.K (.ref f) = true) (hb : Binds X.K fd ps [])
    (ha : VG X W qa (a :: es) dr) (hF : ∀ vs r, F vs = some r → vs.length = np) (hdb : (x == ("__debug__" : Str)) = false := by decide) (he : starEach (a :: es) X.env = (false, eval a X.env) :: starEach es X.env := by rfl) (hpl : (backTo pos (starEach es X.env)).any (·.1) = false := by rfl) :
    VE X W false false (.Call (.Name x p) (a :: es) [] pos) (dCall F dr) := by
  subst hnp
  refine ⟨PE.weak (pe_callS Fk hr hg hm hk hb (passAt tk) ha.pa hdb he hpl) fun σ H Q h => ?_⟩
  refine runG (fun _ z => z) h fun {Z c V H2 Z2 c2 cv cx v env env2} a e h2 => ?_
  exact call_post (a.st.eq fun x => by show c2 x + cv x = c2 x + cx x; rw [a.m0 rfl]) a.sr a.rl hF h2
end
end PV

namespace PV
open PySem PySem.Spec PyProof.Rows L2
/-! ### targets -/
/-- the slots that are not in wr are kept -/
def Wr (wr : List Nat) (σ σ' : L2.St) : Prop := σ'.length = σ.length ∧ ∀ i, i ∉ wr → σ'[i]? = σ[i]?
theorem Wr.pr {wr pr : List Nat} {σ σ' : L2.St} (h : Wr wr σ σ') (d : ∀ i ∈ pr, i ∉ wr) : Pr pr σ σ' := fun i hi => h.2 i (d i hi)
theorem Wr.trans {wr : List Nat} {σ σ1 σ2 : L2.St} (a : Wr wr σ σ1) (b : Wr wr σ1 σ2) : Wr wr σ σ2 := ⟨b.1.trans a.1, fun i h => (b.2 i h).trans (a.2 i h)⟩
abbrev Tgt := Val → Env → Option Env
def tGt {α β : Type} (g : Gl) (rel : Rel α β) (wr : List Nat) (tg : α → Env → Option Env) : β → L2.St → Hp → (L2.St → Hp → Prop) → Prop := fun x σ H Q =>
  ∃ (Z : AP) (v : α) (env env1 : Env) (c cv : Cnt), SR g H Z σ env c ∧ rel H Z v x cv ∧ tg v env = some env1 ∧ ∀ σ1 d, Wr wr σ σ1 → SR g H Z σ1 env1 d → (∀ a, d a ≤ c a + cv a) → Q σ1 H
structure VTg (X : Cx) (wr : List Nat) (e : Expr) (tg : Tgt) : Prop where
  pg : PG X e (tGt (gl X) (R (gl X)) wr tg)
structure VTgs (X : Cx) (wr : List Nat) (es : List Expr) (tg : List Val → Env → Option Env) : Prop where
  pg : PGs X es (tGt (gl X) (Rs (gl X)) wr tg)
theorem VTg.ex {X : Cx} {wr : List Nat} {e : Expr} {tg : Tgt} (h : VTg X wr e tg) : ∃ t : TG, PG X e t ∧ ∀ (x : V) (σ : L2.St) (H : Hp) (Z : AP) (v : Val) (env env1 : Env) (c cv : Cnt) (Q : L2.St → Hp → Prop), SR (gl X) H Z σ env c → R (gl X) H Z v x cv → tg v env = some env1 →
    (∀ σ1 d, Wr wr σ σ1 → SR (gl X) H Z σ1 env1 d → (∀ a, d a ≤ c a + cv a) → Q σ1 H) → t x σ H Q :=
  ⟨_, h.pg, fun x σ H Z v env env1 c cv Q a b c' d => ⟨Z, v, env, env1, c, cv, a, b, c', d⟩⟩
theorem VTgs.ex {X : Cx} {wr : List Nat} {es : List Expr} {tg : List Val → Env → Option Env} (h : VTgs X wr es tg) : ∃ t : TGs, PGs X es t ∧ ∀ (xs : List V) (σ : L2.St) (H : Hp) (Z : AP) (vs : List Val) (env env1 : Env) (c cv : Cnt) (Q : L2.St → Hp → Prop), SR (gl X) H Z σ env c → Rs (gl X) H Z vs xs cv → tg vs env = some env1 →
    (∀ σ1 d, Wr wr σ σ1 → SR (gl X) H Z σ1 env1 d → (∀ a, d a ≤ c a + cv a) → Q σ1 H) → t xs σ H Q :=
  ⟨_, h.pg, fun x σ H Z v env env1 c cv Q a b c' d => ⟨Z, v, env, env1, c, cv, a, b, c', d⟩⟩
theorem VTg.of {X : Cx} {wr : List Nat} {e : Expr} {tg : Tgt} {t : TG} (p : PG X e t) (k : ∀ (x : V) (σ : L2.St) (H : Hp) (Z : AP) (v : Val) (env env1 : Env) (c cv : Cnt) (Q : L2.St → Hp → Prop), SR (gl X) H Z σ env c → R (gl X) H Z v x cv → tg v env = some env1 →
    (∀ σ1 d, Wr wr σ σ1 → SR (gl X) H Z σ1 env1 d → (∀ a, d a ≤ c a + cv a) → Q σ1 H) → t x σ H Q) : VTg X wr e tg :=
  ⟨⟨fun pins s σ H x u Q I r h => by
    obtain ⟨Z, v, env, env1, c, cv, a, b, c', d⟩ := h
    exact p.run pins s σ H x u Q I r (k x σ H Z v env env1 c cv Q a b c' d)⟩⟩
theorem VTgs.of {X : Cx} {wr : List Nat} {es : List Expr} {tg : List Val → Env → Option Env} {t : TGs} (p : PGs X es t) (k : ∀ (xs : List V) (σ : L2.St) (H : Hp) (Z : AP) (vs : List Val) (env env1 : Env) (c cv : Cnt) (Q : L2.St → Hp → Prop), SR (gl X) H Z σ env c → Rs (gl X) H Z vs xs cv → tg vs env = some env1 →
    (∀ σ1 d, Wr wr σ σ1 → SR (gl X) H Z σ1 env1 d → (∀ a, d a ≤ c a + cv a) → Q σ1 H) → t xs σ H Q) : VTgs X wr es tg :=
  ⟨⟨fun pins s σ H x u Q I r h => by
    obtain ⟨Z, v, env, env1, c, cv, a, b, c', d⟩ := h
    exact p.run pins s σ H x u Q I r (k x σ H Z v env env1 c cv Q a b c' d)⟩⟩
def tgN (i : Nat) : Tgt := fun v e => some (e.set i v)
def tgsNil : List Val → Env → Option Env := fun vs e => match vs with
  | [] => some e
  | _ => none
def tgsCons (t : Tgt) (r : List Val → Env → Option Env) : List Val → Env → Option Env := fun vs e => match vs with
  | v :: vs => (t v e).bind (r vs)
  | [] => none
def tgT (r : List Val → Env → Option Env) : Tgt := fun v e => match v with
  | .tup vs => r vs e
  | _ => none
section
variable {X : Cx} {wr : List Nat} {e : Expr} {es : List Expr} {pos : Pos} {t : Tgt} {r : List Val → PV.Env → Option PV.Env}
theorem v_tgN {i : Nat} {x : Str} (hN : X.N.Nodup) (hi : X.N[i]? = some x) (hx : Loc X.env.scope x) (hp : i ∈ wr := by decide) (hf : X.fn x = true ∨ X.env.scope.names.lookup x = some .local := by first | exact .inl rfl | exact .inr rfl | assumption) : VTg X wr (.Name x pos) (tgN i) := by
  refine .of (pg_name hN hi hx hf) fun x σ H Z v env env1 c cv Q sr rv e k => ?_
  cases e
  obtain ⟨d, sr', hd⟩ := sr.set' i rv
  exact k _ d ⟨List.length_set, fun j hj => by rw [List.getElem?_set_ne]; exact fun q => hj (q ▸ hp)⟩ sr' hd
theorem v_tgsNil : VTgs X wr [] tgsNil := by
  refine .of pgs_nil fun xs σ H Z vs env env1 c cv Q sr rv e k => ?_
  cases vs with
  | nil =>
    cases e
    simp only [Rs] at rv
    exact ⟨rv.1, k σ c ⟨rfl, fun _ _ => rfl⟩ sr fun a => Nat.le_add_right _ _⟩
  | cons => cases e
theorem v_tgsCons (h1 : VTg X wr e t) (h2 : VTgs X wr es r) (hs : (assignEach (e :: es) X.env).map (·.2) = assign e X.env :: (assignEach es X.env).map (·.2) := by rfl) : VTgs X wr (e :: es) (tgsCons t r) := by
  obtain ⟨t1, p1, k1⟩ := h1.ex
  obtain ⟨t2, p2, k2⟩ := h2.ex
  refine .of (pgs_cons p1 p2 hs) fun xs σ H Z vs env env1 c cv Q sr rv e k => ?_
  cases vs with
  | nil => cases e
  | cons v vs =>
    simp only [Rs] at rv
    obtain ⟨y, zs, c1, c2, e1, r1, r2, e2⟩ := rv
    have e : (t v env).bind (r vs) = some env1 := e
    obtain ⟨env2, e3, e4⟩ := Option.bind_eq_some_iff.mp e
    refine ⟨y, zs, e1, k1 y σ H Z v env env2 c c1 _ sr r1 e3 fun σ1 d p sr1 hd => ?_⟩
    refine k2 zs σ1 H Z vs env2 env1 d c2 _ sr1 r2 e4 fun σ2 d2 p2 sr2 hd2 => k σ2 d2 (p.trans p2) sr2 fun a => ?_
    have := hd a; have := hd2 a; have := e2 a
    omega
theorem v_tgT {k n : Nat} (hc : X.calm = true) (h : VTgs X wr es r) (hr : ∀ vs env env1, r vs env = some env1 → vs.length = n) (hn : (assignEach es X.env).length = n := by rfl) (hst : (assignEach es X.env).findIdx? (·.1) = none := by rfl) : VTg X wr (.Tuple es k pos) (tgT r) := by
  obtain ⟨t1, p1, k1⟩ := h.ex
  refine .of (pg_tup hc p1 hn hst) fun x σ H Z v env env1 c cv Q sr rv e k => ?_
  cases v with
  | tup vs =>
    simp only [R] at rv
    obtain ⟨a, ys, rfl, hs, rs⟩ := rv
    exact ⟨a, ys, rfl, hs, by rw [Rs_len rs, hr vs env env1 e], k1 ys σ H Z vs env env1 c cv Q sr rs e k⟩
  | _ => cases e
theorem tgs_len0 : ∀ vs env env1, tgsNil vs env = some env1 → vs.length = 0 := fun vs env env1 h => by
  cases vs with
  | nil => rfl
  | cons => cases h
theorem tgs_lenS {n : Nat} (h : ∀ vs env env1, r vs env = some env1 → vs.length = n) : ∀ vs env env1, tgsCons t r vs env = some env1 → vs.length = n + 1 := fun vs env env1 e => by
  cases vs with
  | nil => cases e
  | cons v vs =>
    have e : (t v env).bind (r vs) = some env1 := e
    obtain ⟨env2, e3, e4⟩ := Option.bind_eq_some_iff.mp e
    rw [List.length_cons, h vs env2 env1 e4]
end
/-! ### what is walked -/
/-- the iterator J walks the items; Pd: its source stands; u: what the source owns -/
structure Wk (g : Gl) (J : It) (Pd : Hp → AP → Prop) (u : Cnt) (its : List Val) : Prop where
  go : ∀ i H Z, i < its.length → Pd H Z → J.go i H
  stop : ∀ i H Z, its.length ≤ i → Pd H Z → J.stop i H
  yld : ∀ i H Z x H' v, its[i]? = some v → Pd H Z → (∀ a, Z a → H a ≠ none) → J.yld i H x H' → New H Z H' Z (fun _ => 0) ∧ R g H' Z v x (fun _ => 0)
  kept : ∀ {H Z H' Z'}, Pd H Z → Kept H Z u H' Z' → Pd H' Z'
abbrev DI := Env → M (List Val)
structure VI (X : Cx) (W : WX) (tg iter : Expr) (d : DI) : Prop where
  ex : ∃ wi : TI, PI X tg iter wi ∧ ∀ (σ : L2.St) (H : Hp) (Z : AP) (env : Env) (c : Cnt) (Rr : It → Hp → Prop), SR (gl X) H Z σ env c → Good H Z c →
    Post (gl X) W (fun H' Z' (its : List Val) (J : It) u => (∀ a, u a = 0) ∧ ∃ Pd, Wk (gl X) J Pd (fun _ => 0) its ∧ Pd H' Z') σ false true H Z c (d env) Rr → wi σ H Rr
/-! ### for -/
def forL (tg : Tgt) (body : DS) : List Val → Env → M Out
  | [], e => ok .nx e
  | v :: r, e => match tg v e with
    | none => none
    | some e1 => match body e1 with
      | some (.ok .nx, e2) => forL tg body r e2
      | some (.ok .ct, e2) => forL tg body r e2
      | some (.ok .bk, e2) => ok .nx e2
      | res => res
def dFor (src : DI) (tg : Tgt) (body : DS) : DS := fun env => bnd (src env) fun its e => forL tg body its e
section
variable {X : Cx} {W : WX} {pr wr : List Nat} {tge iter : Expr} {sts : List Stmt} {pos : Pos} {src : DI} {tg : Tgt} {body : DS}
/-- the loop over what is walked; u: the source's own; D: what is wanted behind the loop with u back -/
theorem for_core {g : Gl} {J : It} {Pd : Hp → AP → Prop} {u : Cnt} {its : List Val} {σ : L2.St} {H H1 : Hp} {Z Z1 : AP} {t c1 : Cnt} {env1 : Env} {D D' : Ends} {gt : TG} {tb : TS}
    (hgt : ∀ (x : V) (σ : L2.St) (H : Hp) (Z : AP) (v : Val) (env env1 : Env) (c cv : Cnt) (Q : L2.St → Hp → Prop), SR g H Z σ env c → R g H Z v x cv → tg v env = some env1 → (∀ σ1 d, Wr wr σ σ1 → SR g H Z σ1 env1 d → (∀ a, d a ≤ c a + cv a) → Q σ1 H) → gt x σ H Q) (hw : ∀ i ∈ pr, i ∉ wr)
    (htb : ∀ D σ H, tS g W pr body D σ H → tb D σ H) (wk : Wk g J Pd u its) (pd : Pd H1 Z1) (sr : SR g H1 Z1 σ env1 c1) (st : Step H Z t H1 Z1 (fun a => c1 a + u a))
    (hrt : D'.rt = D.rt)
    (h : ∀ (r : M Out), forL tg body its env1 = r → ∀ (σ2 : L2.St) (H2 : Hp) (Z2 : AP) (c2 : Cnt), Pd H2 Z2 → Pr pr σ σ2 → Step H Z t H2 Z2 (fun a => c2 a + u a) →
      match r with
      | none => False
      | some (.ok .nx, e2) => SR g H2 Z2 σ2 e2 c2 → D'.nx σ2 H2
      | some (.ok (.rt v), e2) => ∀ V c3 cv, (∀ a, c2 a = c3 a + cv a) → SR g H2 Z2 σ2 e2 c3 → R g H2 Z2 v V cv → D'.rt V H2
      | some (.error x, e2) => SR g H2 Z2 σ2 e2 c2 → ∀ C d, g.mg x = some (.ref C) → W (.ref C) d σ2 H2
      | _ => False) :
    ∃ Wi : Nat → Nat → L2.St → Hp → Prop, (∃ m, Wi 0 m σ H1) ∧ ∀ i m σ H, Wi i m σ H →
      (J.stop i H ∧ D'.nx σ H) ∨ (J.go i H ∧ ∃ N : L2.St → Hp → Prop, (∀ σ' H', N σ' H' → ∃ m', m' < m ∧ Wi (i + 1) m' σ' H') ∧ ∀ x H', J.yld i H x H' → gt x σ H' fun σ2 H2 => tb { D' with nx := N, ct := N, bk := D'.nx } σ2 H2) := by
  obtain ⟨T, hT⟩ : ∃ T, forL tg body its env1 = T := ⟨_, rfl⟩
  replace h := fun r (e : T = r) => h r (hT.trans e)
  refine ⟨fun i m σ2 H2 => m = its.length - i ∧ i ≤ its.length ∧ ∃ Z2 e2 c2, Pr pr σ σ2 ∧ SR g H2 Z2 σ2 e2 c2 ∧ Pd H2 Z2 ∧ Step H Z t H2 Z2 (fun a => c2 a + u a) ∧ forL tg body (its.drop i) e2 = T,
    ⟨its.length, by simp, Nat.zero_le _, Z1, env1, c1, Pr.refl, sr, pd, st, by simpa using hT⟩, ?_⟩
  rintro i m σ2 H2 ⟨rfl, hi, Z2, e2, c2, p2, sr2, pd2, st2, ef⟩
  by_cases hlt : i < its.length
  · refine .inr ⟨wk.go i H2 Z2 hlt pd2, fun σ3 H3 => i + 1 ≤ its.length ∧ ∃ Z3 e3 c3, Pr pr σ σ3 ∧ SR g H3 Z3 σ3 e3 c3 ∧ Pd H3 Z3 ∧ Step H Z t H3 Z3 (fun a => c3 a + u a) ∧ forL tg body (its.drop (i + 1)) e3 = T,
      fun σ3 H3 h3 => ⟨its.length - (i + 1), by omega, rfl, h3⟩, fun x H3 y => ?_⟩
    have hv : its[i]? = some its[i] := List.getElem?_eq_getElem hlt
    obtain ⟨n, rv⟩ := wk.yld i H2 Z2 x H3 its[i] hv pd2 st2.good.zd y
    have gd2 : Good H2 Z2 c2 := st2.good.comm
    have st3 : Step H Z t H3 Z2 (fun a => c2 a + u a) := (st2.trans (n.step st2.good)).eq fun a => rfl
    have sr3 := sr2.kept (n.same.kept n.zin)
    have pd3 := wk.kept pd2 (n.same.kept n.zin)
    rw [List.drop_eq_getElem_cons hlt] at ef
    unfold forL at ef
    cases et : tg its[i] e2 with
    | none =>
      rw [et] at ef
      exact (h none ef.symm σ2 H2 Z2 c2 pd2 p2 st2).elim
    | some e3 =>
      rw [et] at ef
      dsimp only at ef
      refine hgt x σ2 H3 Z2 its[i] e2 e3 c2 (fun _ => 0) _ sr3 rv et fun σ4 d4 p4' sr4 h4 => ?_
      have p4 : Pr pr σ2 σ4 := p4'.pr hw
      have st4 : Step H Z t H3 Z2 (fun a => d4 a + u a) := st3.drop fun a => by have := h4 a; show d4 a + u a ≤ c2 a + u a; omega
      refine htb _ _ _ ⟨Z2, e3, d4, sr4, st4.good.comm, ?_⟩
      -- the body's end
      have go : ∀ {σ5 : L2.St} {H5 : Hp} {Z5 : AP} {c5 : Cnt}, Pr pr σ4 σ5 → Step H3 Z2 d4 H5 Z5 c5 → Pr pr σ σ5 ∧ Pd H5 Z5 ∧ Step H Z t H5 Z5 (fun a => c5 a + u a) := fun {σ5 H5 Z5 c5} p5 s5 =>
        ⟨(p2.trans p4).trans p5, wk.kept pd3 (s5.kept st4.good), st4.trans (s5.frame st4.good)⟩
      revert ef
      generalize body e3 = rb
      intro ef
      match rb, ef with
      | none, ef => exact (h none ef.symm σ2 H2 Z2 c2 pd2 p2 st2).elim
      | some (.error x, e5), ef =>
        intro σ5 H5 Z5 c5 C d hC p5 sr5 s5
        obtain ⟨p6, pd6, st6⟩ := go p5 s5
        exact h _ ef.symm σ5 H5 Z5 c5 pd6 p6 st6 sr5 C d hC
      | some (.ok .nx, e5), ef =>
        intro σ5 H5 Z5 c5 p5 sr5 s5
        obtain ⟨p6, pd6, st6⟩ := go p5 s5
        exact ⟨hlt, Z5, e5, c5, p6, sr5, pd6, st6, ef⟩
      | some (.ok .ct, e5), ef =>
        intro σ5 H5 Z5 c5 p5 sr5 s5
        obtain ⟨p6, pd6, st6⟩ := go p5 s5
        exact ⟨hlt, Z5, e5, c5, p6, sr5, pd6, st6, ef⟩
      | some (.ok .bk, e5), ef =>
        intro σ5 H5 Z5 c5 p5 sr5 s5
        obtain ⟨p6, pd6, st6⟩ := go p5 s5
        exact h _ ef.symm σ5 H5 Z5 c5 pd6 p6 st6 sr5
      | some (.ok (.rt v), e5), ef =>
        intro V σ5 H5 Z5 c5 cv p5 sr5 rv5 s5
        obtain ⟨p6, pd6, st6⟩ := go p5 s5
        exact h _ ef.symm σ5 H5 Z5 (fun a => c5 a + cv a) pd6 p6 st6 V c5 cv (fun _ => rfl) sr5 rv5
  · have e : i = its.length := by omega
    subst e
    rw [List.drop_length] at ef
    exact .inl ⟨wk.stop _ H2 Z2 (Nat.le_refl _) pd2, h _ ef.symm σ2 H2 Z2 c2 pd2 p2 st2 sr2⟩
theorem forL_no : ∀ (its : List Val) (env e : PV.Env), forL tg body its env ≠ ok .bk e ∧ forL tg body its env ≠ ok .ct e
  | [], env, e => ⟨fun h => (by unfold forL at h; cases h), fun h => (by unfold forL at h; cases h)⟩
  | v :: r, env, e => by
    unfold forL
    cases tg v env with
    | none => exact ⟨fun h => (nomatch h), fun h => (nomatch h)⟩
    | some e1 =>
      dsimp only
      match body e1 with
      | none => exact ⟨fun h => (nomatch h), fun h => (nomatch h)⟩
      | some (.error x, e5) => exact ⟨fun h => (nomatch h), fun h => (nomatch h)⟩
      | some (.ok .nx, e5) => exact forL_no r e5 e
      | some (.ok .ct, e5) => exact forL_no r e5 e
      | some (.ok .bk, e5) => exact ⟨fun h => (nomatch h), fun h => (nomatch h)⟩
      | some (.ok (.rt v), e5) => exact ⟨fun h => (nomatch h), fun h => (nomatch h)⟩
theorem v_for (hp : PassesOwn (model X.prog X.w) X.A X.env X.xe) (hc : X.calm = true) (hi : VI X W tge iter src) (ht : VTg X wr tge tg) (hb : VSs X W pr sts body) (hw : ∀ i ∈ pr, i ∉ wr := by decide) (hs : ∀ x, foldedSetIterable iter X.env x = pure x := by intro _; rfl) :
    VS X W pr (.For tge iter sts [] pos) (dFor src tg body) := by
  obtain ⟨wi, pi, ki⟩ := hi.ex
  obtain ⟨gt, pg, kg⟩ := ht.ex
  refine ⟨PS.weak (ps_for hp hc pi pg hb.ps hs) fun D σ H h => ?_⟩
  obtain ⟨Z, env, c, sr, gd, h⟩ := h
  refine ki σ H Z env c _ sr gd ?_
  unfold dFor at h
  generalize src env = r at h
  match r, h with
  | none, h => exact h
  | some (.error x, env'), h => exact fun H' Z' c' C d hC sr' st' => h σ H' Z' c' C d hC Pr.refl sr' st'
  | some (.ok its, env'), h =>
    intro J H1 Z1 c1 cv cx sr1 rl _ st1 _
    obtain ⟨_, Pd, wk, pd⟩ := rl
    have st1' : Step H Z c H1 Z1 (fun a => c1 a + (fun _ => 0) a) := st1.drop fun a => Nat.add_le_add_left (Nat.zero_le _) _
    have h : PostS (gl X) W pr σ H Z c (forL tg body its env') D := h
    refine for_core (D := D) kg hw (fun _ _ _ z => z) wk pd sr1 st1' rfl fun r er σ2 H2 Z2 c2 pd2 p2 st2 => ?_
    rw [er] at h
    match r, h with
    | none, h => exact h
    | some (.error x, e2), h => exact fun sr2 C d hC => h σ2 H2 Z2 c2 C d hC p2 sr2 st2
    | some (.ok .nx, e2), h => exact fun sr2 => h σ2 H2 Z2 c2 p2 sr2 st2
    | some (.ok .bk, e2), h => exact absurd er (forL_no _ _ _).1
    | some (.ok .ct, e2), h => exact absurd er (forL_no _ _ _).2
    | some (.ok (.rt v), e2), h => exact fun V c3 cv ec sr2 rv => h V σ2 H2 Z2 c3 cv p2 sr2 rv (st2.eq fun a => by show c3 a + cv a = c2 a + 0; have := ec a; omega)
end
end PV

namespace PV
open PySem PySem.Spec PyProof.Rows L2
/-! ### what is walked: ranges, lists, tuples, zip -/
theorem Step.freeze {H H2 : Hp} {Z Z2 : AP} {t c2 cx : Cnt} (st : Step H Z t H2 Z2 (fun a => c2 a + cx a)) : Step H Z t H2 (fun a => Z2 a ∨ cx a ≠ 0) c2 := by
  have gd := st.good
  refine st.trans ⟨fun _ _ e _ => e, fun _ n => n, fun _ z => .inl z, fun a z => z.imp id fun n => .inl (by show c2 a + cx a ≠ 0; omega), fun a _ => by show c2 a ≤ c2 a + cx a; omega, fun a => ⟨?_, fun n => ?_, fun z => ?_⟩⟩
  · have : c2 a + cx a ≤ 1 := (gd a).1
    omega
  · have g1 : c2 a + cx a ≤ 1 := (gd a).1
    obtain ⟨nz, o⟩ := (gd a).2.1 (show c2 a + cx a ≠ 0 by omega)
    exact ⟨fun z => z.elim nz fun n2 => by omega, o⟩
  · rcases z with z | z
    · exact (gd a).2.2 z
    · obtain ⟨_, o, eo, _⟩ := (gd a).2.1 (show c2 a + cx a ≠ 0 by omega)
      rw [eo]; simp
theorem kept_freeze {H : Hp} {Z : AP} {u cx : Cnt} : Kept H Z u H (fun a => Z a ∨ cx a ≠ 0) := ⟨fun _ _ e _ => e, fun _ z => .inl z⟩
theorem Rs_get {g : Gl} {H : Hp} {Z : AP} {xs : List Val} {ys : List V} {i : Nat} {v : Val} {y : V} (h : Rs g H Z xs ys (fun _ => 0)) (e : xs[i]? = some v) (e2 : ys[i]? = some y) : R g H Z v y (fun _ => 0) := by
  obtain ⟨y', cx, cr, ey, r, ec, _⟩ := Rs_at h e
  rw [e2] at ey
  cases ey
  exact R_eq _ _ _ _ (fun a => by have := ec a; omega) r
theorem Rs_some {g : Gl} {H : Hp} {Z : AP} {xs : List Val} {ys : List V} {c : Cnt} {i : Nat} (h : Rs g H Z xs ys c) (hi : i < xs.length) : ∃ y, ys[i]? = some y :=
  ⟨ys[i]'(by rw [Rs_len h]; exact hi), List.getElem?_eq_getElem _⟩
section
variable {g : Gl}
theorem wk_range {K : PySem.W.Frag} (lo : Int) (n : Nat) : Wk g (Itr lo n) (fun _ _ => True) (fun _ => 0) ((List.range n).map fun k : Nat => .int (lo + (k : Int))) where
  go := fun i H Z hi _ => by show i < n; simpa using hi
  stop := fun i H Z hi _ => by show n ≤ i; simpa using hi
  yld := fun i H Z x H' v e _ hz y => by
    obtain ⟨e1, e2⟩ := y
    subst e1 e2
    refine ⟨New.refl hz, ?_⟩
    rw [List.getElem?_map] at e
    cases e3 : (List.range n)[i]? with
    | none => rw [e3] at e; cases e
    | some k =>
      rw [e3] at e
      obtain ⟨h1, h2⟩ := List.getElem?_eq_some_iff.mp e3
      rw [List.getElem_range] at h2
      subst h2
      cases e
      simp only [R]
      exact ⟨trivial, fun _ => trivial⟩
  kept := fun h _ => trivial
/-- a list that stands frozen -/
def PdL (g : Gl) (a : Addr) (its : List Val) (H : Hp) (Z : AP) : Prop := ∃ ys, H a = some (.lst ys) ∧ Z a ∧ Rs g H Z its ys (fun _ => 0)
def PdT (g : Gl) (a : Addr) (its : List Val) (H : Hp) (Z : AP) : Prop := ∃ ys, SqT g.K H a ys ∧ Rs g H Z its ys (fun _ => 0)
theorem sqL_lst {K : PySem.W.Frag} {H : Hp} {a : Addr} {ys zs : List V} (h : H a = some (.lst ys)) (q : ∀ xs, SqL K H a xs → xs = zs) : ys = zs := q ys (.inl (.inl h))
theorem wk_list (a : Addr) (its : List Val) : Wk g (Itl g.K a) (PdL g a its) (fun _ => 0) its where
  go := fun i H Z hi ⟨ys, h1, h2, h3⟩ => by
    obtain ⟨y, ey⟩ := Rs_some h3 hi
    exact ⟨ys, y, .inl (.inl h1), ey⟩
  stop := fun i H Z hi ⟨ys, h1, h2, h3⟩ => ⟨ys, .inl (.inl h1), by rw [Rs_len h3]; exact hi⟩
  yld := fun i H Z x H' v e ⟨ys, h1, h2, h3⟩ hz y => by
    obtain ⟨e1, e2⟩ := y
    subst e1
    exact ⟨New.refl hz, Rs_get h3 e (e2 ys (.inl (.inl h1)))⟩
  kept := fun ⟨ys, h1, h2, h3⟩ k => ⟨ys, k.1 a _ h1 (.inr (.inl h2)), k.2 a h2, Rs_kept _ _ _ k h3⟩
theorem wk_tup (a : Addr) (its : List Val) : Wk g (Itt g.K a) (PdT g a its) (fun _ => 0) its where
  go := fun i H Z hi ⟨ys, h1, h3⟩ => by
    obtain ⟨y, ey⟩ := Rs_some h3 hi
    exact ⟨ys, y, h1, ey⟩
  stop := fun i H Z hi ⟨ys, h1, h3⟩ => ⟨ys, h1, by rw [Rs_len h3]; exact hi⟩
  yld := fun i H Z x H' v e ⟨ys, h1, h3⟩ hz y => by
    obtain ⟨e1, e2⟩ := y
    subst e1
    exact ⟨New.refl hz, Rs_get h3 e (e2 ys h1)⟩
  kept := fun ⟨ys, h1, h3⟩ k => ⟨ys, SqT_kept k h1, Rs_kept _ _ _ k h3⟩
end
def rngOk (j : Int) : Bool := decide (-(2 ^ 62) ≤ j ∧ j < 2 ^ 62)
def gRng1 : List Val → Option (List Val)
  | [.int j] => if rngOk j then some ((List.range j.toNat).map fun k : Nat => .int (k : Int)) else none
  | _ => none
def gRng2 : List Val → Option (List Val)
  | [.int i, .int j] => if rngOk i && rngOk j then some ((List.range (j - i).toNat).map fun k : Nat => .int (i + (k : Int))) else none
  | _ => none
def dRng1 (d : DA) : DI := fun env => bnd (d env) fun vs e => lift (gRng1 vs) e
def dRng2 (d : DA) : DI := fun env => bnd (d env) fun vs e => lift (gRng2 vs) e
/-- what a list or a tuple has -/
def gIts : Val → Option (List Val)
  | .lst _ xs => some (frzs xs)
  | .tup xs => some (frzs xs)
  | _ => none
def dIts (d : DE) : DI := fun env => bnd (d env) fun v e => lift (gIts v) e
def zipV : List Val → List Val → List Val
  | x :: xs, y :: ys => .tup [x, y] :: zipV xs ys
  | _, _ => []
def gZip : List Val → Option (List Val)
  | [.lst _ xs, .lst _ ys] => some (zipV (frzs xs) (frzs ys))
  | [.tup xs, .tup ys] => some (zipV (frzs xs) (frzs ys))
  | _ => none
def dZip (d : DA) : DI := fun env => bnd (d env) fun vs e => lift (gZip vs) e
section
variable {X : Cx} {W : WX} {tg l : Expr} {tl : TE}
/-- a list or a tuple -/
def iSeq (K : PySem.W.Frag) (tl : TE) : TI := fun σ H R => tl σ H fun x H1 => ∃ a, x = .ref a ∧ (((∃ xs, SqL K H1 a xs) ∧ R (Itl K a) H1) ∨ ((∃ xs, SqT K H1 a xs) ∧ R (Itt K a) H1))
theorem pi_seq (hl : PE X l tl) : PI X tg l (iSeq X.K tl) := by
  refine ⟨fun pins s σ H Rr I h => thn (hl.run pins s σ H _ I h) ?_⟩
  rintro v s1 ⟨x, H1, I1, r1, a, rfl, hh⟩
  cases r1
  have fr : ∀ b ∈ [s1.heap.objs.size], FpOk X pins H1 b := fun b hb => by
    cases List.mem_singleton.mp hb
    exact I1.fpOk (Nat.le_refl _) (I1.hok.fresh (Nat.le_refl _))
  rcases hh with ⟨⟨xs, hx⟩, q⟩ | ⟨⟨xs, hx⟩, q⟩
  · obtain ⟨its, _, pl, _⟩ := I1.list hx
    apply wpAny_pyIter_list pl.isList
    exact ⟨_, _, _, _, H1, rfl, I1.kept (t' := s1.toks) (fun b o e => Heap.get?_push_of_some _ e), turn_list a _, ⟨_, Heap.get?_push_size _ rfl, rfl, rfl⟩, fr, q⟩
  · obtain ⟨its, _, pt, _⟩ := I1.tuple hx
    apply wpAny_pyIter_tuple (show s1.heap.IsTuple a its.toArray from pt)
    exact ⟨_, _, _, _, H1, rfl, I1.kept (t' := s1.toks) (fun b o e => Heap.get?_push_of_some _ e), turn_tuple a _, ⟨_, Heap.get?_push_size _ rfl, rfl, rfl⟩, fr, q⟩
end
section
variable {X : Cx} {W : WX} {tg a b : Expr} {es : List Expr} {pos p : Pos} {q m : Bool} {d : DE} {dr : DA}
/-- the end of a source -/
theorem src_end {g : Gl} {σ : L2.St} {H H2 : Hp} {Z Z2 : AP} {c c2 : Cnt} {env2 : PV.Env} {its : List Val} {J : It} {Pd : Hp → AP → Prop} {Rr : It → Hp → Prop} (st : Step H Z c H2 Z2 c2) (sr : SR g H2 Z2 σ env2 c2) (wk : Wk g J Pd (fun _ => 0) its) (pd : Pd H2 Z2)
    (h : Post g W (fun H' Z' (its : List Val) (J : It) u => (∀ a, u a = 0) ∧ ∃ Pd, Wk g J Pd (fun _ => 0) its ∧ Pd H' Z') σ false true H Z c (ok its env2) Rr) : Rr J H2 :=
  h J H2 Z2 c2 (fun _ => 0) (fun _ => 0) sr ⟨fun _ => rfl, Pd, wk, pd⟩ (fun z => nomatch z) (st.eq fun _ => rfl) fun z => nomatch z
theorem v_rng1 (hg : L2.Gl X "range") (hm : X.mg "range" = none) (ha : VA X W q m [a] dr) (hs : starEach [a] X.env = [(false, eval a X.env)] := by rfl) : VI X W tg (.Call (.Name "range" p) [a] [] pos) (dRng1 dr) := by
  refine ⟨_, pi_range1 hg hm ha.pa hs, fun σ H Z env c Rr sr gd h => ?_⟩
  refine runA (rel' := fun H' Z' (its : List Val) (J : It) u => (∀ a, u a = 0) ∧ ∃ Pd, Wk (gl X) J Pd (fun _ => 0) its ∧ Pd H' Z') (fun _ z => z) ⟨Z, env, c, sr, gd, h⟩ fun {Z c V H2 Z2 c2 cv cx v env env2} a e h2 => ?_
  obtain ⟨its, e1, h3⟩ := lift_some h2
  unfold gRng1 at e1
  split at e1
  · rename_i j
    split at e1
    · rename_i hj
      cases e1
      have hj := of_decide_eq_true hj
      have r := a.rl
      simp only [Rs, R] at r
      obtain ⟨y, zs, c3, c4, e4, ⟨e5, _⟩, ⟨e6, _⟩, _⟩ := r
      refine ⟨j, by rw [e4, e5, e6], hj.1, hj.2, ?_⟩
      have wk := wk_range (g := gl X) (K := X.K) 0 j.toNat
      simp only [Int.zero_add] at wk
      exact src_end (a.st.drop fun _ => Nat.le_add_right _ _) a.sr wk trivial h3
    · cases e1
  · cases e1
theorem v_rng2 (hg : L2.Gl X "range") (hm : X.mg "range" = none) (ha : VA X W q m [a, b] dr) (hs : starEach [a, b] X.env = [(false, eval a X.env), (false, eval b X.env)] := by rfl) (hs2 : starEach [b] X.env = [(false, eval b X.env)] := by rfl) : VI X W tg (.Call (.Name "range" p) [a, b] [] pos) (dRng2 dr) := by
  refine ⟨_, pi_range2 hg hm ha.pa hs hs2, fun σ H Z env c Rr sr gd h => ?_⟩
  refine runA (rel' := fun H' Z' (its : List Val) (J : It) u => (∀ a, u a = 0) ∧ ∃ Pd, Wk (gl X) J Pd (fun _ => 0) its ∧ Pd H' Z') (fun _ z => z) ⟨Z, env, c, sr, gd, h⟩ fun {Z c V H2 Z2 c2 cv cx v env env2} a e h2 => ?_
  obtain ⟨its, e1, h3⟩ := lift_some h2
  unfold gRng2 at e1
  split at e1
  · rename_i i j
    split at e1
    · rename_i hj
      cases e1
      have hj := Bool.and_eq_true_iff.mp hj
      have hi := of_decide_eq_true hj.1
      have hj := of_decide_eq_true hj.2
      have r := a.rl
      simp only [Rs, R] at r
      obtain ⟨y, zs, c3, c4, e4, ⟨e5, _⟩, ⟨y2, zs2, c5, c6, e7, ⟨e8, _⟩, ⟨e9, _⟩, _⟩, _⟩ := r
      refine ⟨i, j, by rw [e4, e5, e7, e8, e9], ⟨hi.1, hi.2, hj.1, hj.2⟩, ?_⟩
      exact src_end (a.st.drop fun _ => Nat.le_add_right _ _) a.sr (wk_range (g := gl X) (K := X.K) i (j - i).toNat) trivial h3
    · cases e1
  · cases e1
theorem v_its (ha : VE X W q false a d) : VI X W tg a (dIts d) := by
  refine ⟨_, pi_seq ha.pe, fun σ H Z env c Rr sr gd h => ?_⟩
  refine run1 (rel' := fun H' Z' (its : List Val) (J : It) u => (∀ a, u a = 0) ∧ ∃ Pd, Wk (gl X) J Pd (fun _ => 0) its ∧ Pd H' Z') (fun _ z => z) ⟨Z, env, c, sr, gd, h⟩ fun {Z c V H2 Z2 c2 cv cx v env env2} a e h2 => ?_
  obtain ⟨its, e1, h3⟩ := lift_some h2
  have ec : ∀ a, cx a = cv a := a.m0 rfl
  have st := a.st.freeze
  have sr2 := a.sr.kept (kept_freeze (cx := cx) (u := c2))
  cases v with
  | lst o xs =>
    cases e1
    have r := a.rl
    simp only [R] at r
    obtain ⟨l, ys, dd, rfl, h1, hz, hr, ho⟩ := r
    refine ⟨l, rfl, .inl ⟨⟨ys, .inl (.inl h1)⟩, ?_⟩⟩
    refine src_end st sr2 (wk_list l (frzs xs)) ⟨ys, h1, ?_, Rs_frz xs ys dd (fun x n => .inr (by rw [ec]; exact own1_pos ho x n)) (fun x z => .inl z) hr⟩ h3
    cases o with
    | true => exact .inr (by rw [ec]; exact own1_self ho)
    | false => exact .inl (hz rfl)
  | tup xs =>
    cases e1
    have r := a.rl
    simp only [R] at r
    obtain ⟨l, ys, rfl, h1, hr⟩ := r
    refine ⟨l, rfl, .inr ⟨⟨ys, h1⟩, ?_⟩⟩
    exact src_end st sr2 (wk_tup l (frzs xs)) ⟨ys, h1, Rs_frz xs ys cv (fun x n => .inr (by rw [ec]; exact n)) (fun x z => .inl z) hr⟩ h3
  | _ => cases e1
theorem zipV_len : ∀ xs ys : List Val, (zipV xs ys).length = min xs.length ys.length
  | [], _ => by simp [zipV]
  | _ :: _, [] => by simp [zipV]
  | x :: xs, y :: ys => by rw [zipV, List.length_cons, zipV_len xs ys, List.length_cons, List.length_cons]; omega
theorem zipV_get : ∀ {xs ys : List Val} {i : Nat} {v : Val}, (zipV xs ys)[i]? = some v → ∃ x y, xs[i]? = some x ∧ ys[i]? = some y ∧ v = .tup [x, y]
  | [], _, i, v, h => by simp [zipV] at h
  | _ :: _, [], i, v, h => by simp [zipV] at h
  | x :: xs, y :: ys, 0, v, h => by simp [zipV] at h; exact ⟨x, y, rfl, rfl, h.symm⟩
  | x :: xs, y :: ys, i + 1, v, h => by simpa using zipV_get (xs := xs) (ys := ys) (i := i) (v := v) (by simpa [zipV] using h)
theorem pair_new {g : Gl} {H : Hp} {Z : AP} {T : Addr} {x y : V} {v w : Val} (hz : ∀ a, Z a → H a ≠ none) (nT : H T = none) (r1 : R g H Z v x (fun _ => 0)) (r2 : R g H Z w y (fun _ => 0)) :
    New H Z (upd H T (.tup [x, y])) Z (fun _ => 0) ∧ R g (upd H T (.tup [x, y])) Z (.tup [v, w]) (.ref T) (fun _ => 0) := by
  have n : New H Z (upd H T (.tup [x, y])) Z (fun _ => 0) := New.lay nT hz
  have k : Kept H Z (fun _ => 0) (upd H T (.tup [x, y])) Z := n.same.kept n.zin
  refine ⟨n, ?_⟩
  simp only [R]
  refine ⟨T, [x, y], rfl, .inl (.inl upd_same), ?_⟩
  simp only [Rs]
  exact ⟨x, [y], _, _, rfl, R_kept _ _ _ k r1, ⟨y, [], _, fun _ => 0, rfl, R_kept _ _ _ k r2, ⟨rfl, fun _ => rfl⟩, fun _ => rfl⟩, fun _ => rfl⟩
theorem wk_zipL {g : Gl} (a b : Addr) (xs ys : List Val) : Wk g (Itz g.K a b) (fun H Z => PdL g a xs H Z ∧ PdL g b ys H Z) (fun _ => 0) (zipV xs ys) where
  go := fun i H Z hi ⟨⟨zs, h1, h2, h3⟩, ⟨ws, k1, k2, k3⟩⟩ => by
    rw [zipV_len] at hi
    obtain ⟨y, ey⟩ := Rs_some h3 (show i < xs.length by omega)
    obtain ⟨z, ez⟩ := Rs_some k3 (show i < ys.length by omega)
    exact ⟨zs, ws, y, z, .inl (.inl h1), .inl (.inl k1), ey, ez⟩
  stop := fun i H Z hi ⟨⟨zs, h1, h2, h3⟩, ⟨ws, k1, k2, k3⟩⟩ => by
    rw [zipV_len] at hi
    exact ⟨zs, ws, .inl (.inl h1), .inl (.inl k1), by rw [Rs_len h3, Rs_len k3]; omega⟩
  yld := fun i H Z x H' v e ⟨⟨zs, h1, h2, h3⟩, ⟨ws, k1, k2, k3⟩⟩ hz y => by
    obtain ⟨T, p, q, e1, nT, e2, e3, e4⟩ := y
    subst e1 e2
    obtain ⟨v1, v2, e5, e6, e7⟩ := zipV_get e
    subst e7
    exact pair_new hz nT (Rs_get h3 e5 (e3 zs (.inl (.inl h1)))) (Rs_get k3 e6 (e4 ws (.inl (.inl k1))))
  kept := fun ⟨p, q⟩ k => ⟨(wk_list (g := g) a xs).kept p k, (wk_list (g := g) b ys).kept q k⟩
theorem wk_zipT {g : Gl} (a b : Addr) (xs ys : List Val) : Wk g (RZ.ItzT g.K a b) (fun H Z => PdT g a xs H Z ∧ PdT g b ys H Z) (fun _ => 0) (zipV xs ys) where
  go := fun i H Z hi ⟨⟨zs, h1, h3⟩, ⟨ws, k1, k3⟩⟩ => by
    rw [zipV_len] at hi
    obtain ⟨y, ey⟩ := Rs_some h3 (show i < xs.length by omega)
    obtain ⟨z, ez⟩ := Rs_some k3 (show i < ys.length by omega)
    exact ⟨zs, ws, y, z, h1, k1, ey, ez⟩
  stop := fun i H Z hi ⟨⟨zs, h1, h3⟩, ⟨ws, k1, k3⟩⟩ => by
    rw [zipV_len] at hi
    exact ⟨zs, ws, h1, k1, by rw [Rs_len h3, Rs_len k3]; omega⟩
  yld := fun i H Z x H' v e ⟨⟨zs, h1, h3⟩, ⟨ws, k1, k3⟩⟩ hz y => by
    obtain ⟨T, p, q, e1, nT, e2, e3, e4⟩ := y
    subst e1 e2
    obtain ⟨v1, v2, e5, e6, e7⟩ := zipV_get e
    subst e7
    exact pair_new hz nT (Rs_get h3 e5 (e3 zs h1)) (Rs_get k3 e6 (e4 ws k1))
  kept := fun ⟨p, q⟩ k => ⟨(wk_tup (g := g) a xs).kept p k, (wk_tup (g := g) b ys).kept q k⟩
/-- a list that is frozen now -/
theorem pdL_of {g : Gl} {H : Hp} {Z Z' : AP} {o : Bool} {xs : List Val} {x : V} {c : Cnt} (hc : ∀ a, c a ≠ 0 → Z' a) (hz : ∀ a, Z a → Z' a) (r : R g H Z (.lst o xs) x c) : ∃ a, x = .ref a ∧ PdL g a (frzs xs) H Z' := by
  simp only [R] at r
  obtain ⟨l, ys, d, e, h1, hf, hr, ho⟩ := r
  refine ⟨l, e, ys, h1, ?_, Rs_frz xs ys d (fun a n => hc a (own1_pos ho a n)) hz hr⟩
  cases o with
  | true => exact hc l (own1_self ho)
  | false => exact hz l (hf rfl)
theorem pdT_of {g : Gl} {H : Hp} {Z Z' : AP} {xs : List Val} {x : V} {c : Cnt} (hc : ∀ a, c a ≠ 0 → Z' a) (hz : ∀ a, Z a → Z' a) (r : R g H Z (.tup xs) x c) : ∃ a, x = .ref a ∧ PdT g a (frzs xs) H Z' := by
  simp only [R] at r
  obtain ⟨l, ys, e, h1, hr⟩ := r
  exact ⟨l, e, ys, h1, Rs_frz xs ys c hc hz hr⟩
theorem Rs_two {g : Gl} {H : Hp} {Z : AP} {v w : Val} {ys : List V} {c : Cnt} (r : Rs g H Z [v, w] ys c) : ∃ x y c1 c2, ys = [x, y] ∧ R g H Z v x c1 ∧ R g H Z w y c2 ∧ ∀ a, c a = c1 a + c2 a := by
  simp only [Rs] at r
  obtain ⟨x, zs, c1, c2, e1, r1, ⟨y, zs2, c3, c4, e2, r2, ⟨e3, h3⟩, h4⟩, h5⟩ := r
  refine ⟨x, y, c1, c3, by rw [e1, e2, e3], r1, r2, fun a => by rw [h5, h4, h3]; omega⟩
theorem v_zip {elts : List Expr} {kk : Nat} {tpos : Pos} (hg : L2.Gl X "zip") (hm : X.mg "zip" = none) (ha : VA X W q false [a, b] dr) (hs : starEach [a, b] X.env = (false, eval a X.env) :: starEach [b] X.env := by rfl) (hpl : (backTo pos (starEach [b] X.env)).any (·.1) = false := by rfl) : VI X W (.Tuple elts kk tpos) (.Call (.Name "zip" p) [a, b] [] pos) (dZip dr) := by
  refine ⟨_, RZ.pi_zipA hg hm ha.pa hs hpl, fun σ H Z env c Rr sr gd h => ?_⟩
  refine runA (rel' := fun H' Z' (its : List Val) (J : It) u => (∀ a, u a = 0) ∧ ∃ Pd, Wk (gl X) J Pd (fun _ => 0) its ∧ Pd H' Z') (fun _ z => z) ⟨Z, env, c, sr, gd, h⟩ fun {Z c V H2 Z2 c2 cv cx v env env2} a e h2 => ?_
  obtain ⟨its, e1, h3⟩ := lift_some h2
  have ec : ∀ a, cx a = cv a := a.m0 rfl
  have st := a.st.freeze
  have sr2 := a.sr.kept (kept_freeze (cx := cx) (u := c2))
  unfold gZip at e1
  split at e1
  · rename_i o xs o' ys
    cases e1
    obtain ⟨x, y, c3, c4, e4, r1, r2, e5⟩ := Rs_two a.rl
    have f1 : ∀ z, c3 z ≠ 0 → Z2 z ∨ cx z ≠ 0 := fun z n => .inr (by rw [ec, e5]; omega)
    have f2 : ∀ z, c4 z ≠ 0 → Z2 z ∨ cx z ≠ 0 := fun z n => .inr (by rw [ec, e5]; omega)
    obtain ⟨l1, e6, p1⟩ := pdL_of (Z' := fun z => Z2 z ∨ cx z ≠ 0) f1 (fun z h => .inl h) r1
    obtain ⟨l2, e7, p2⟩ := pdL_of (Z' := fun z => Z2 z ∨ cx z ≠ 0) f2 (fun z h => .inl h) r2
    obtain ⟨zs, h1, _⟩ := id p1
    obtain ⟨ws, k1, _⟩ := id p2
    exact ⟨l1, l2, zs, ws, by rw [e4, e6, e7], .inl ⟨.inl (.inl h1), .inl (.inl k1), src_end st sr2 (wk_zipL l1 l2 _ _) ⟨p1, p2⟩ h3⟩⟩
  · rename_i xs ys
    cases e1
    obtain ⟨x, y, c3, c4, e4, r1, r2, e5⟩ := Rs_two a.rl
    have f1 : ∀ z, c3 z ≠ 0 → Z2 z ∨ cx z ≠ 0 := fun z n => .inr (by rw [ec, e5]; omega)
    have f2 : ∀ z, c4 z ≠ 0 → Z2 z ∨ cx z ≠ 0 := fun z n => .inr (by rw [ec, e5]; omega)
    obtain ⟨l1, e6, p1⟩ := pdT_of (Z' := fun z => Z2 z ∨ cx z ≠ 0) f1 (fun z h => .inl h) r1
    obtain ⟨l2, e7, p2⟩ := pdT_of (Z' := fun z => Z2 z ∨ cx z ≠ 0) f2 (fun z h => .inl h) r2
    obtain ⟨zs, h1, _⟩ := id p1
    obtain ⟨ws, k1, _⟩ := id p2
    exact ⟨l1, l2, zs, ws, by rw [e4, e6, e7], .inr ⟨h1, k1, src_end st sr2 (wk_zipT l1 l2 _ _) ⟨p1, p2⟩ h3⟩⟩
  · cases e1
end
end PV

namespace PV
open PySem PySem.Spec PyProof.Rows L2
/-! ### comprehensions -/
def wipeE : List Nat → Env → Env
  | [], e => e
  | i :: r, e => (wipeE r e).set i .gone
def restE : List Nat → Env → Env → Env
  | [], _, e2 => e2
  | i :: r, e, e2 => (restE r e e2).set i (e.getD i .gone)
theorem wipeE_len : ∀ (vs : List Nat) (e : Env), (wipeE vs e).length = e.length
  | [], _ => rfl
  | i :: r, e => by rw [wipeE, List.length_set, wipeE_len r e]
theorem restE_len : ∀ (vs : List Nat) (e e2 : Env), (restE vs e e2).length = e2.length
  | [], _, _ => rfl
  | i :: r, e, e2 => by rw [restE, List.length_set, restE_len r e e2]
theorem wipeE_in : ∀ {vs : List Nat} {e : Env} {j : Nat}, j ∈ vs → j < e.length → (wipeE vs e)[j]? = some .gone
  | i :: r, e, j, h, hl => by
    unfold wipeE
    by_cases hj : i = j
    · subst hj
      rw [List.getElem?_set_self (by rw [wipeE_len]; exact hl)]
    · rw [List.getElem?_set_ne hj]
      exact wipeE_in ((List.mem_cons.mp h).resolve_left fun q => hj q.symm) hl
theorem wipeE_out : ∀ {vs : List Nat} {e : Env} {j : Nat}, j ∉ vs → (wipeE vs e)[j]? = e[j]?
  | [], _, _, _ => rfl
  | i :: r, e, j, h => by
    simp only [List.mem_cons, not_or] at h
    rw [wipeE, List.getElem?_set_ne (fun q => h.1 q.symm), wipeE_out h.2]
theorem restE_in : ∀ {vs : List Nat} {e e2 : Env} {j : Nat}, j ∈ vs → j < e2.length → (restE vs e e2)[j]? = some (e.getD j .gone)
  | i :: r, e, e2, j, h, hl => by
    unfold restE
    by_cases hj : i = j
    · subst hj
      rw [List.getElem?_set_self (by rw [restE_len]; exact hl)]
    · rw [List.getElem?_set_ne hj]
      exact restE_in ((List.mem_cons.mp h).resolve_left fun q => hj q.symm) hl
theorem restE_out : ∀ {vs : List Nat} {e e2 : Env} {j : Nat}, j ∉ vs → (restE vs e e2)[j]? = e2[j]?
  | [], _, _, _, _ => rfl
  | i :: r, e, e2, j, h => by
    simp only [List.mem_cons, not_or] at h
    rw [restE, List.getElem?_set_ne (fun q => h.1 q.symm), restE_out h.2]
/-- by places: those of p, the others gone -/
def msk (p : Nat → Bool) : List Val → List Val
  | [] => []
  | v :: r => (if p 0 = true then v else .gone) :: msk (fun i => p (i + 1)) r
def mrg (p : Nat → Bool) {α : Type} : List α → List α → List α
  | v :: r, w :: s => (if p 0 = true then v else w) :: mrg (fun i => p (i + 1)) r s
  | _, _ => []
theorem msk_get : ∀ (p : Nat → Bool) (e : List Val) (j : Nat), (msk p e)[j]? = e[j]?.map fun v => if p j = true then v else .gone
  | _, [], j => by simp [msk]
  | p, v :: r, 0 => by simp [msk]
  | p, v :: r, j + 1 => by simp [msk, msk_get (fun i => p (i + 1)) r j]
theorem mrg_get {α : Type} : ∀ (p : Nat → Bool) (e s : List α), e.length = s.length → ∀ j, (mrg p e s)[j]? = if p j = true then e[j]? else s[j]?
  | _, [], [], _, j => by simp [mrg]
  | p, v :: r, w :: s, h, 0 => by simp [mrg]; split <;> rfl
  | p, v :: r, w :: s, h, j + 1 => by simp [mrg, mrg_get (fun i => p (i + 1)) r s (by simpa using h) j]
section
variable {g : Gl} {H H' : Hp} {Z Z' : AP}
theorem Rs_msk : ∀ (e : List Val) (ys : List V) (c : Cnt) (p : Nat → Bool), Rs g H Z e ys c → ∃ c1 c2, Rs g H Z (msk p e) ys c1 ∧ Rs g H Z (msk (fun i => !p i) e) ys c2 ∧ ∀ a, c a = c1 a + c2 a
  | [], ys, c, p, h => by
    simp only [Rs] at h
    rw [h.1]
    exact ⟨fun _ => 0, fun _ => 0, Rs_nil, Rs_nil, h.2⟩
  | v :: r, ys, c, p, h => by
    simp only [Rs] at h
    obtain ⟨y, zs, d1, d2, e1, r1, r2, e2⟩ := h
    obtain ⟨c1, c2, h1, h2, ec⟩ := Rs_msk r zs d2 (fun i => p (i + 1)) r2
    subst e1
    unfold msk
    by_cases hp : p 0 = true
    · refine ⟨fun a => d1 a + c1 a, c2, ?_, ?_, fun a => by have := ec a; have := e2 a; show c a = d1 a + c1 a + c2 a; omega⟩
      · simp only [Rs]
        exact ⟨y, zs, d1, c1, rfl, by rw [if_pos hp]; exact r1, h1, fun _ => rfl⟩
      · simp only [Rs]
        exact ⟨y, zs, fun _ => 0, c2, rfl, by simp only [hp]; exact R_gone, h2, fun a => (Nat.zero_add _).symm⟩
    · refine ⟨c1, fun a => d1 a + c2 a, ?_, ?_, fun a => by have := ec a; have := e2 a; show c a = c1 a + (d1 a + c2 a); omega⟩
      · simp only [Rs]
        exact ⟨y, zs, fun _ => 0, c1, rfl, by rw [if_neg hp]; exact R_gone, h1, fun a => (Nat.zero_add _).symm⟩
      · simp only [Rs]
        have hp : p 0 = false := by simpa using hp
        exact ⟨y, zs, d1, c2, rfl, by simp only [hp]; exact r1, h2, fun _ => rfl⟩
theorem Rs_mrg : ∀ (e1 e2 : List Val) (ys zs : List V) (c1 c2 : Cnt) (p : Nat → Bool), e1.length = e2.length → Rs g H Z (msk p e1) ys c1 → Rs g H Z (msk (fun i => !p i) e2) zs c2 → ∃ d, Rs g H Z (mrg p e1 e2) (mrg p ys zs) d ∧ ∀ a, d a ≤ c1 a + c2 a
  | [], [], ys, zs, c1, c2, p, hl, h1, h2 => by
    simp only [msk, Rs] at h1 h2
    rw [h1.1, h2.1]
    exact ⟨fun _ => 0, Rs_nil, fun _ => Nat.zero_le _⟩
  | v :: e1, w :: e2, ys, zs, c1, c2, p, hl, h1, h2 => by
    simp only [msk, Rs] at h1 h2
    obtain ⟨y, ys', d1, d2, q1, r1, s1, t1⟩ := h1
    obtain ⟨z, zs', f1, f2, q2, r2, s2, t2⟩ := h2
    subst q1 q2
    obtain ⟨d, rd, hd⟩ := Rs_mrg e1 e2 ys' zs' d2 f2 (fun i => p (i + 1)) (by simpa using hl) s1 s2
    unfold mrg
    by_cases hp : p 0 = true
    · rw [if_pos hp] at r1
      refine ⟨fun a => d1 a + d a, ?_, fun a => by have := hd a; have := t1 a; have := t2 a; show d1 a + d a ≤ _; omega⟩
      simp only [Rs]
      exact ⟨y, _, d1, d, by rw [if_pos hp], by rw [if_pos hp]; exact r1, rd, fun _ => rfl⟩
    · have hp' : p 0 = false := by simpa using hp
      simp only [hp'] at r2
      refine ⟨fun a => f1 a + d a, ?_, fun a => by have := hd a; have := t1 a; have := t2 a; show f1 a + d a ≤ _; omega⟩
      simp only [Rs]
      exact ⟨z, _, f1, d, by rw [if_neg hp], by rw [if_neg hp]; exact r2, rd, fun _ => rfl⟩
theorem wipe_msk (vs : List Nat) (e : Env) : wipeE vs e = msk (fun i => !vs.contains i) e := by
  apply List.ext_getElem?
  intro j
  rw [msk_get]
  by_cases h : j ∈ vs
  · by_cases hl : j < e.length
    · rw [wipeE_in h hl, List.getElem?_eq_getElem hl]
      simp [h]
    · rw [List.getElem?_eq_none (by rw [wipeE_len]; omega), List.getElem?_eq_none (by omega)]
      rfl
  · rw [wipeE_out h]
    cases e[j]? with
    | none => rfl
    | some v => simp [h]
theorem rest_mrg (vs : List Nat) (e e2 : Env) (hl : e.length = e2.length) : restE vs e e2 = mrg (fun i => vs.contains i) e e2 := by
  apply List.ext_getElem?
  intro j
  rw [mrg_get _ _ _ hl]
  by_cases h : j ∈ vs
  · by_cases hj : j < e2.length
    · rw [restE_in h hj, List.getD_eq_getElem?_getD, List.getElem?_eq_getElem (by omega)]
      simp [h]
    · rw [List.getElem?_eq_none (by rw [restE_len]; omega), List.getElem?_eq_none (l := e) (by omega), List.getElem?_eq_none (l := e2) (by omega)]
      simp
  · rw [restE_out h]
    simp [h]
/-- the own names of a block taken out, and what they held kept apart -/
def Hid (g : Gl) (vs : List Nat) (σ : L2.St) (env : Env) (ch : Cnt) (H : Hp) (Z : AP) : Prop :=
  ∃ ys, Rs g H Z (msk (fun i => vs.contains i) env) ys ch ∧ σ.length = env.length ∧ ∀ (i : Nat) v y, env[i]? = some v → v ≠ .gone → ys[i]? = some y → σ[i]? = some (some y)
theorem Hid.kept {vs : List Nat} {σ : L2.St} {env : Env} {ch : Cnt} (h : Hid g vs σ env ch H Z) (k : Kept H Z ch H' Z') : Hid g vs σ env ch H' Z' := by
  obtain ⟨ys, r, l, a⟩ := h
  exact ⟨ys, Rs_kept _ _ _ k r, l, a⟩
theorem SR.wipe {vs : List Nat} {σ : L2.St} {env : Env} {c : Cnt} (h : SR g H Z σ env c) : ∃ c1 ch, SR g H Z (L2.wipe σ vs) (wipeE vs env) c1 ∧ Hid g vs σ env ch H Z ∧ ∀ a, c a = c1 a + ch a := by
  obtain ⟨ys, r, l, al⟩ := h
  obtain ⟨ch, c1, r1, r2, ec⟩ := Rs_msk env ys c (fun i => vs.contains i) r
  refine ⟨c1, ch, ⟨ys, by rw [wipe_msk]; exact r2, by rw [wipe_length, wipeE_len]; exact l, fun i v y e1 e2 e3 => ?_⟩, ⟨ys, r1, l, al⟩, fun a => by have := ec a; omega⟩
  by_cases hi : i ∈ vs
  · have hl : i < env.length := by rw [← wipeE_len vs env]; exact (List.getElem?_eq_some_iff.mp e1).1
    rw [wipeE_in hi hl] at e1
    cases e1
    exact absurd rfl e2
  · rw [wipeE_out hi] at e1
    rw [wipe_out hi]
    exact al i v y e1 e2 e3
theorem wipeE_idem (vs : List Nat) (e : Env) : wipeE vs (wipeE vs e) = wipeE vs e := by
  apply List.ext_getElem?
  intro j
  by_cases h : j ∈ vs
  · by_cases hl : j < e.length
    · rw [wipeE_in h (by rw [wipeE_len]; exact hl), wipeE_in h hl]
    · rw [List.getElem?_eq_none (by rw [wipeE_len, wipeE_len]; omega), List.getElem?_eq_none (by rw [wipeE_len]; omega)]
  · rw [wipeE_out h]
theorem SR.unwipe {vs : List Nat} {σ : L2.St} {env e2 : Env} {c2 ch : Cnt} (h : SR g H Z (L2.wipe σ vs) (wipeE vs e2) c2) (hd : Hid g vs σ env ch H Z) : ∃ d, SR g H Z σ (restE vs env (wipeE vs e2)) d ∧ ∀ a, d a ≤ c2 a + ch a := by
  obtain ⟨ys, r, l, al⟩ := h
  obtain ⟨zs, r', l', al'⟩ := hd
  have hl : env.length = (wipeE vs e2).length := by rw [← l', ← l, wipe_length]
  have r2 : Rs g H Z (msk (fun i => !vs.contains i) (wipeE vs e2)) ys c2 := by rw [← wipe_msk, wipeE_idem]; exact r
  obtain ⟨d, rd, hd⟩ := Rs_mrg env (wipeE vs e2) zs ys ch c2 (fun i => vs.contains i) hl r' r2
  have lz : zs.length = env.length := by
    have := Rs_len r'
    rw [this]
    have e := congrArg List.length (show msk (fun i => vs.contains i) env = msk (fun i => vs.contains i) env from rfl)
    clear e
    have : ∀ (p : Nat → Bool) (l : List Val), (msk p l).length = l.length := by
      intro p l
      induction l generalizing p with
      | nil => rfl
      | cons v r ih => rw [msk, List.length_cons, List.length_cons, ih]
    exact this _ _
  have ly : ys.length = (wipeE vs e2).length := Rs_len r
  refine ⟨d, ⟨_, by rw [rest_mrg _ _ _ hl]; exact rd, by rw [restE_len, ← hl, l'], fun i v y e1 e3 e4 => ?_⟩, fun a => by have := hd a; omega⟩
  rw [mrg_get _ _ _ (by rw [lz, ly, hl])] at e4
  by_cases hi : i ∈ vs
  · have hj : i < (wipeE vs e2).length := by rw [← restE_len vs env (wipeE vs e2)]; exact (List.getElem?_eq_some_iff.mp e1).1
    rw [restE_in hi hj, List.getD_eq_getElem?_getD, List.getElem?_eq_getElem (by omega)] at e1
    simp only [List.contains_iff_mem.mpr hi] at e4
    exact al' i v y (by rw [List.getElem?_eq_getElem (by omega)]; exact e1) e3 e4
  · rw [restE_out hi] at e1
    have hc : vs.contains i = false := by simpa using hi
    simp only [hc] at e4
    have := al i v y e1 e3 e4
    rwa [wipe_out hi] at this
end
theorem wipe_eq {σ1 σ2 : L2.St} : ∀ {vs : List Nat}, σ2.length = σ1.length → (∀ j, j ∉ vs → σ2[j]? = σ1[j]?) → L2.wipe σ2 vs = L2.wipe σ1 vs := by
  intro vs hl h
  apply List.ext_getElem?
  intro j
  have key : ∀ (σ : L2.St) (vs : List Nat), j ∈ vs → j < σ.length → (L2.wipe σ vs)[j]? = some none := by
    intro σ vs
    induction vs with
    | nil => intro h; cases h
    | cons i r ih =>
      intro hm hj
      unfold L2.wipe
      by_cases hij : i = j
      · subst hij
        rw [List.getElem?_set_self (by rw [wipe_length]; exact hj)]
      · rw [List.getElem?_set_ne hij]
        exact ih ((List.mem_cons.mp hm).resolve_left fun q => hij q.symm) hj
  by_cases hj : j ∈ vs
  · by_cases hlt : j < σ1.length
    · rw [key σ1 vs hj hlt, key σ2 vs hj (by omega)]
    · rw [List.getElem?_eq_none (by rw [wipe_length]; omega), List.getElem?_eq_none (by rw [wipe_length]; omega)]
  · rw [wipe_out hj, wipe_out hj, h j hj]
end PV

namespace PV
open PySem PySem.Spec PyProof.Rows L2
/-! ### the comprehension's rule -/
def compL (tg : Tgt) (tests : DT) (elt : DE) (vs : List Nat) : List Val → Env → M (List Val)
  | [], e => ok [] e
  | v :: r, e => match tg v e with
    | none => none
    | some e1 => bnd (tests e1) fun b e2 => if b = true then bnd (elt e2) fun x e3 => bnd (compL tg tests elt vs r (wipeE vs e3)) fun xs e4 => ok (x :: xs) e4 else compL tg tests elt vs r (wipeE vs e2)
def compE (vs : List Nat) (e : Env) (r : M (List Val)) : M Val := match r with
  | some (.ok xs, e2) => if small xs.length = true then ok (.lst true xs) (restE vs e e2) else none
  | _ => none
def dComp (src : DI) (tg : Tgt) (tests : DT) (elt : DE) (vs : List Nat) : DE := fun env => bnd (src env) fun its e => compE vs e (compL tg tests elt vs its (wipeE vs e))
def W0 : WX := fun _ _ _ _ => False
structure VTs (X : Cx) (W : WX) (ifs : List Expr) (d : DT) : Prop where
  pt : PTs X ifs (tT' (gl X) W false d)
def dYes : DT := fun env => ok true env
section
variable {g : Gl} {H : Hp} {Z : AP} {t c : Cnt} {D : Addr} {o : HO}
theorem kept_upd (gd : Good H Z t) (hD : t D ≠ 0) (hc : c D = 0) : Kept H Z c (upd H D o) Z := by
  refine ⟨fun a x e q => ?_, fun _ z => z⟩
  rw [upd_ne]
  · exact e
  · intro h
    subst h
    obtain ⟨nz, o', eo, mo⟩ := (gd a).2.1 hD
    rw [e] at eo
    cases eo
    rcases q with q | q | q
    · exact q hc
    · exact nz q
    · exact q mo
theorem step_upd (gd : Good H Z t) (hD : t D ≠ 0) (m : Mut (some o)) : Step H Z t (upd H D o) Z t := by
  refine ⟨fun a x e z => ?_, fun a n => ?_, fun _ z => z, fun _ z => .inl z, fun _ _ => Nat.le_refl _, fun a => ⟨(gd a).1, fun n => ?_, fun z => ?_⟩⟩
  · rw [upd_ne]
    · exact e
    · intro h; subst h; exact hD z
  · by_cases h : a = D
    · subst h; rw [upd_same]; simp
    · rw [upd_ne h]; exact n
  · obtain ⟨nz, o', eo, mo⟩ := (gd a).2.1 n
    refine ⟨nz, ?_⟩
    by_cases h : a = D
    · subst h; exact ⟨o, upd_same, m⟩
    · exact ⟨o', by rw [upd_ne h]; exact eo, mo⟩
  · by_cases h : a = D
    · subst h; rw [upd_same]; simp
    · rw [upd_ne h]; exact (gd a).2.2 z
end
section
variable {X : Cx} {W : WX} {q : Bool} {a : Expr}
theorem v_yes : VTs X W [] dYes := by
  refine ⟨⟨fun pins s σ H Q I h => pts_nil.run pins s σ H Q I ?_⟩⟩
  obtain ⟨Z, env, c, sr, gd, h⟩ := h
  exact h true H Z c (fun _ => 0) (fun _ => 0) sr ⟨rfl, fun _ => rfl⟩ (fun _ _ => rfl) (Step.refl gd) fun z => nomatch z
theorem v_tone {dt : DT} (h : VT X W q a dt) : VTs X W [a] dt := by
  refine ⟨⟨fun pins s σ H Q I h2 => (pts_one h.pt).run pins s σ H Q I ?_⟩⟩
  obtain ⟨Z, env, c, sr, gd, h2⟩ := h2
  exact ⟨Z, env, c, sr, gd, h2.from (Step.refl gd) (fun z => nomatch z) id⟩
end
/-- the loop of a comprehension -/
theorem comp_core {g : Gl} {J : It} {Pd : Hp → AP → Prop} {its : List Val} {vs : List Nat} {tg : Tgt} {tests : DT} {elt : DE} {qe : Bool} {σ : L2.St} {H H1 : Hp} {Z Z1 : AP} {t c1 : Cnt} {env1 eF : Env} {T : List Val} {D : Addr} {gt : TG} {tt : TT} {te : TE} {Qd : VK}
    (hgt : ∀ (x : V) (σ : L2.St) (H : Hp) (Z : AP) (v : Val) (env env1 : Env) (c cv : Cnt) (Q : L2.St → Hp → Prop), SR g H Z σ env c → R g H Z v x cv → tg v env = some env1 → (∀ σ1 d, Wr vs σ σ1 → SR g H Z σ1 env1 d → (∀ a, d a ≤ c a + cv a) → Q σ1 H) → gt x σ H Q)
    (htt : ∀ σ H Q, tT' g W0 false tests σ H Q → tt σ H Q) (hte : ∀ σ H Q, tE g W0 qe false elt σ H Q → te σ H Q)
    (wk : Wk g J Pd (fun _ => 0) its) (pd : Pd H1 Z1) (sr : SR g H1 Z1 σ env1 c1) (st : Step H Z t H1 Z1 c1)
    (hT : compL tg tests elt vs its (wipeE vs env1) = ok T eF) (hs : small T.length = true) (nD : H1 D = none)
    (h : ∀ (H2 : Hp) (Z2 : AP) (c2 cD : Cnt), SR g H2 Z2 σ (restE vs env1 eF) c2 → R g H2 Z2 (.lst true T) (.ref D) cD → Step H Z t H2 Z2 (fun a => c2 a + cD a) → Qd (.ref D) H2) :
    ∃ Wi : Nat → Nat → Hp → Prop, (∃ m, Wi 0 m (upd H1 D (.lst []))) ∧ ∀ i m H, Wi i m H →
      (J.stop i H ∧ Qd (.ref D) H) ∨ (J.go i H ∧ ∃ Nx : Hp → Prop, (∀ H', Nx H' → ∃ m', m' < m ∧ Wi (i + 1) m' H') ∧ ∀ x H', J.yld i H x H' → gt x (L2.wipe σ vs) H' fun σ2 H2 => L2.wipe σ2 vs = L2.wipe σ vs ∧ tt σ2 H2 fun b H3 =>
        if b = true then te σ2 H3 fun y H4 => ∃ acc, H4 D = some (.lst acc) ∧ acc.length < sizeLine ∧ Nx (upd H4 D (.lst (acc ++ [y]))) else Nx H3) := by
  obtain ⟨c0, ch, sr0, hid, ec⟩ := sr.wipe (vs := vs)
  -- the invariant
  let Inv' : Nat → Hp → Prop := fun i H2 => i ≤ its.length ∧ ∃ (Z2 : AP) (e2 : Env) (c2 cD : Cnt) (xs rest : List Val), SR g H2 Z2 (L2.wipe σ vs) (wipeE vs e2) c2 ∧ Hid g vs σ env1 ch H2 Z2 ∧ Pd H2 Z2 ∧ R g H2 Z2 (.lst true xs) (.ref D) cD ∧
    Step H Z t H2 Z2 (fun a => c2 a + (ch a + cD a)) ∧ compL tg tests elt vs (its.drop i) (wipeE vs e2) = ok rest eF ∧ xs ++ rest = T
  refine ⟨fun i m H2 => m = its.length - i ∧ Inv' i H2, ⟨its.length, by simp, Nat.zero_le _, ?_⟩, ?_⟩
  · have n : New H1 Z1 (upd H1 D (.lst [])) Z1 (one D) := New.put nD st.good.zd trivial
    have k : ∀ c, Kept H1 Z1 c (upd H1 D (.lst [])) Z1 := fun c => n.same.kept n.zin
    refine ⟨Z1, env1, c0, one D, [], T, sr0.kept (k _), hid.kept (k _), wk.kept pd (k _), ?_, (st.trans (n.step st.good)).eq fun a => by have := ec a; show c0 a + (ch a + one D a) = c1 a + one D a; omega, by simpa using hT, rfl⟩
    simp only [R]
    exact ⟨D, [], fun _ => 0, rfl, upd_same, (fun z => nomatch z), Rs_nil, fun b => by show one D b = 0 + one D b; omega⟩
  · rintro i m H2 ⟨rfl, hi, Z2, e2, c2, cD, xs, rest, sr2, hid2, pd2, rD, st2, eL, eT⟩
    by_cases hlt : i < its.length
    · refine .inr ⟨wk.go i H2 Z2 hlt pd2, fun H3 => Inv' (i + 1) H3, fun H3 h3 => ⟨its.length - (i + 1), by omega, rfl, h3⟩, fun x H3 y => ?_⟩
      have hv : its[i]? = some its[i] := List.getElem?_eq_getElem hlt
      obtain ⟨n, rv⟩ := wk.yld i H2 Z2 x H3 its[i] hv pd2 st2.good.zd y
      have k3 : ∀ c, Kept H2 Z2 c H3 Z2 := fun c => n.same.kept n.zin
      have st3 : Step H Z t H3 Z2 (fun a => c2 a + (ch a + cD a)) := (st2.trans (n.step st2.good)).eq fun a => rfl
      rw [List.drop_eq_getElem_cons hlt] at eL
      unfold compL at eL
      cases et : tg its[i] (wipeE vs e2) with
      | none => rw [et] at eL; cases eL
      | some e3 =>
        rw [et] at eL
        dsimp only at eL
        refine hgt x _ H3 Z2 its[i] (wipeE vs e2) e3 c2 (fun _ => 0) _ (sr2.kept (k3 _)) rv et fun σ4 d4 w4 sr4 h4 => ?_
        obtain ⟨l4, w4⟩ := w4
        refine ⟨?_, ?_⟩
        · rw [wipe_eq (σ1 := L2.wipe σ vs) l4 w4]
          exact wipe_eq (wipe_length _ _) fun j hj => wipe_out hj
        have u4 : Step H Z t H3 Z2 (fun a => d4 a + (ch a + cD a)) := st3.drop fun a => by have := h4 a; show d4 a + (ch a + cD a) ≤ c2 a + (ch a + cD a); omega
        refine htt _ _ _ ⟨Z2, e3, d4, sr4, u4.good.comm, ?_⟩
        generalize tests e3 = rb at eL
        match rb, eL with
        | none, eL => cases eL
        | some (.error x, e5), eL => cases eL
        | some (.ok b, e5), eL =>
          intro V H5 Z5 c5 cv5 cx5 sr5 rl5 _ s5 _
          obtain ⟨eV, _⟩ := rl5
          subst eV
          have s5' := (s5.drop (u := c5) fun a => Nat.le_add_right _ _)
          have st5 : Step H Z t H5 Z5 (fun a => c5 a + (ch a + cD a)) := u4.trans (s5'.frame u4.good)
          have k5 : Kept H3 Z2 (fun a => ch a + cD a) H5 Z5 := s5'.kept u4.good
          have hid5 : Hid g vs σ env1 ch H5 Z5 := (hid2.kept (k3 _)).kept (k5.less fun a n => by show ch a + cD a ≠ 0; omega)
          have pd5 : Pd H5 Z5 := wk.kept (wk.kept pd2 (k3 _)) (k5.less fun a n => absurd rfl n)
          have rD5 : R g H5 Z5 (.lst true xs) (.ref D) cD := R_kept _ _ _ (k5.less fun a n => by show ch a + cD a ≠ 0; omega) (R_kept _ _ _ (k3 _) rD)
          have eL : (if V = true then bnd (elt e5) fun x e3 => bnd (compL tg tests elt vs (its.drop (i + 1)) (wipeE vs e3)) fun xs e4 => ok (x :: xs) e4 else compL tg tests elt vs (its.drop (i + 1)) (wipeE vs e5)) = ok rest eF := eL
          have wp : ∀ {e : Env} {c' : Cnt} {H' : Hp} {Z' : AP}, SR g H' Z' σ4 e c' → ∃ c6, SR g H' Z' (L2.wipe σ vs) (wipeE vs e) c6 ∧ ∀ a, c6 a ≤ c' a := fun {e c' H' Z'} s => by
            obtain ⟨c6, ch6, s6, _, e6⟩ := s.wipe (vs := vs)
            refine ⟨c6, ?_, fun a => by have := e6 a; omega⟩
            rw [wipe_eq (σ1 := L2.wipe σ vs) l4 w4, wipe_eq (wipe_length _ _) fun j hj => wipe_out hj] at s6
            exact s6
          cases V with
          | false =>
            rw [if_neg (by decide)] at eL ⊢
            obtain ⟨c6, s6, l6⟩ := wp sr5
            exact ⟨hlt, Z5, e5, c6, cD, xs, rest, s6, hid5, pd5, rD5, st5.drop fun a => by have := l6 a; show c6 a + _ ≤ c5 a + _; omega, eL, eT⟩
          | true =>
            rw [if_pos rfl] at eL ⊢
            refine hte _ _ _ ⟨Z5, e5, c5, sr5, st5.good.comm, ?_⟩
            generalize elt e5 = re at eL
            match re, eL with
            | none, eL => cases eL
            | some (.error x, e7), eL => cases eL
            | some (.ok w, e7), eL =>
              intro y7 H7 Z7 c7 cv7 cx7 sr7 rl7 m7 s7 _
              have m7 := m7 rfl
              have st7 : Step H Z t H7 Z7 (fun a => (c7 a + cx7 a) + (ch a + cD a)) := st5.trans (s7.frame st5.good)
              have k7 : Kept H5 Z5 (fun a => ch a + cD a) H7 Z7 := s7.kept st5.good
              have hid7 : Hid g vs σ env1 ch H7 Z7 := hid5.kept (k7.less fun a n => by show ch a + cD a ≠ 0; omega)
              have pd7 : Pd H7 Z7 := wk.kept pd5 (k7.less fun a n => absurd rfl n)
              have rD7 : R g H7 Z7 (.lst true xs) (.ref D) cD := R_kept _ _ _ (k7.less fun a n => by show ch a + cD a ≠ 0; omega) rD5
              have rD8 := rD7
              simp only [R] at rD8
              obtain ⟨D', ys, dd, eD, hD, _, rs, ho⟩ := rD8
              cases eD
              -- the rest
              have eL : bnd (compL tg tests elt vs (its.drop (i + 1)) (wipeE vs e7)) (fun xs e4 => ok (w :: xs) e4) = ok rest eF := eL
              obtain ⟨rest', er, eR⟩ : ∃ rest', compL tg tests elt vs (its.drop (i + 1)) (wipeE vs e7) = ok rest' eF ∧ rest = w :: rest' := by
                generalize compL tg tests elt vs (its.drop (i + 1)) (wipeE vs e7) = rr at eL
                match rr, eL with
                | some (.ok l, e8), eL => cases eL; exact ⟨l, rfl, rfl⟩
              have hlen : ys.length < sizeLine := by
                rw [Rs_len rs]
                have := small_line hs
                rw [← eT, eR, List.length_append, List.length_cons] at this
                omega
              refine ⟨ys, hD, hlen, hlt, Z7, e7, ?_⟩
              obtain ⟨c9, s9, l9⟩ := wp sr7
              have tD : (fun a => (c7 a + cx7 a) + (ch a + cD a)) D ≠ 0 := by
                have := own1_self ho
                show (c7 D + cx7 D) + (ch D + cD D) ≠ 0
                omega
              have gdD : (c7 D + cx7 D) + (ch D + cD D) ≤ 1 := (st7.good D).1
              have cD1 : cD D ≠ 0 := own1_self ho
              have kp : ∀ c' : Cnt, c' D = 0 → Kept H7 Z7 c' (upd H7 D (.lst (ys ++ [y7]))) Z7 := fun c' hc => kept_upd st7.good tD hc
              have e9 := m7 D
              have hoD := ho D
              rw [if_pos rfl, one_same] at hoD
              refine ⟨c9, fun a => cD a + cv7 a, xs ++ [w], rest', s9.kept (kp _ (by have := l9 D; omega)), hid7.kept (kp _ (by omega)), wk.kept pd7 (kp _ rfl), ?_, ?_, er, by rw [← eT, eR]; simp⟩
              · simp only [R]
                refine ⟨D, ys ++ [y7], fun a => dd a + cv7 a, rfl, upd_same, (fun z => nomatch z), Rs_append (Rs_kept _ _ _ (kp dd (by omega)) rs) (Rs_one (R_kept _ _ _ (kp cv7 (by omega)) rl7)) fun _ => rfl, fun b => ?_⟩
                have := ho b
                show cD b + cv7 b = dd b + cv7 b + _
                omega
              · refine (st7.trans (step_upd (o := .lst (ys ++ [y7])) st7.good tD trivial)).drop fun a => ?_
                have := l9 a
                have := m7 a
                show c9 a + (ch a + (cD a + cv7 a)) ≤ (c7 a + cx7 a) + (ch a + cD a)
                omega
    · have e : i = its.length := by omega
      subst e
      rw [List.drop_length] at eL
      cases eL
      rw [List.append_nil] at eT
      subst eT
      obtain ⟨d, sru, hu⟩ := sr2.unwipe hid2
      exact .inl ⟨wk.stop _ H2 Z2 (Nat.le_refl _) pd2, h H2 Z2 d cD sru rD (st2.drop fun a => by have := hu a; show d a + cD a ≤ c2 a + (ch a + cD a); omega)⟩
section
variable {X : Cx} {W : WX} {wr : List Nat} {tge iter elt : Expr} {ifs : List Expr} {scope : Scope} {own : List (Str × Nat)} {pos : Pos} {src : DI} {tg : Tgt} {tests : DT} {de : DE} {qe : Bool}
theorem comp_read {wi : TI} {gt : TG} {σ : L2.St} {H : Hp} {Q : VK} {tt : TT} {te : TE}
    (ki : ∀ (σ : L2.St) (H : Hp) (Z : AP) (env : PV.Env) (c : Cnt) (Rr : It → Hp → Prop), SR (gl X) H Z σ env c → Good H Z c →
      Post (gl X) W (fun H' Z' (its : List Val) (J : It) u => (∀ a, u a = 0) ∧ ∃ Pd, Wk (gl X) J Pd (fun _ => 0) its ∧ Pd H' Z') σ false true H Z c (src env) Rr → wi σ H Rr)
    (hgt : ∀ (x : V) (σ : L2.St) (H : Hp) (Z : AP) (v : Val) (env env1 : PV.Env) (c cv : Cnt) (Q : L2.St → Hp → Prop), SR (gl X) H Z σ env c → R (gl X) H Z v x cv → tg v env = some env1 → (∀ σ1 d, Wr (own.map (·.2)) σ σ1 → SR (gl X) H Z σ1 env1 d → (∀ a, d a ≤ c a + cv a) → Q σ1 H) → gt x σ H Q)
    (htt : ∀ σ H Q, tT' (gl X) W0 false tests σ H Q → tt σ H Q) (hte : ∀ σ H Q, tE (gl X) W0 qe false de σ H Q → te σ H Q)
    (h : tE (gl X) W false false (dComp src tg tests de (own.map (·.2))) σ H Q) : tLc wi gt tt te (own.map (·.2)) σ H Q := by
  obtain ⟨Z, env, c, sr, gd, h⟩ := h
  refine ki σ H Z env c _ sr gd ?_
  unfold dComp at h
  generalize src env = r at h
  match r, h with
  | none, h => exact h
  | some (.error x, env'), h => exact h
  | some (.ok its, env'), h =>
    intro J H1 Z1 c1 cv cx sr1 rl _ st1 _ D nD
    obtain ⟨_, Pd, wk, pd⟩ := rl
    have st1' : Step H Z c H1 Z1 c1 := st1.drop fun a => Nat.le_add_right _ _
    have h : Post (gl X) W (R (gl X)) σ false false H Z c (compE (own.map (·.2)) env' (compL tg tests de (own.map (·.2)) its (wipeE (own.map (·.2)) env'))) Q := h
    generalize eL : compL tg tests de (own.map (·.2)) its (wipeE (own.map (·.2)) env') = rr at h
    match rr, h with
    | none, h => exact h.elim
    | some (.error x, e2), h => exact h.elim
    | some (.ok T, e2), h =>
      unfold compE at h
      dsimp only at h
      split at h
      · rename_i hs
        refine comp_core hgt htt hte wk pd sr1 st1' eL hs nD fun H2 Z2 c2 cD sr2 rD st2 => ?_
        exact h (.ref D) H2 Z2 c2 cD cD sr2 rD (fun _ _ => rfl) st2 fun z => nomatch z
      · exact h.elim
/-- [e for x in xs if ..] -/
theorem v_comp (hc : X.calm = true) (hN : X.N.Nodup) (hi : VI X W tge iter src) (hok : BlkOk X.N X.env.scope scope own)
    (hg : ∀ (s : Shared) (H : Hp) (C : Addr) (cl : List (Str × Addr)) (fp : List Addr), VTg (X.blk s H scope (compEnvC scope cl C X.env) fp) (own.map (·.2)) tge tg)
    (ht : ∀ (s : Shared) (H : Hp) (C : Addr) (cl : List (Str × Addr)) (fp : List Addr), VTs (X.blk s H scope (compEnvC scope cl C X.env) fp) W0 ifs tests)
    (he : ∀ (s : Shared) (H : Hp) (C : Addr) (cl : List (Str × Addr)) (fp : List Addr), VE (X.blk s H scope (compEnvC scope cl C X.env) fp) W0 qe false elt de)
    (hs : ∀ x, foldedSetIterable iter X.env x = pure x := by intro _; rfl) :
    VE X W false false (.ListComp elt [⟨tge, iter, ifs, 0⟩] scope pos) (dComp src tg tests de (own.map (·.2))) := by
  obtain ⟨wi, pi, ki⟩ := hi.ex
  exact ⟨PE.weak (pe_lc (g := tGt (gl X) (R (gl X)) (own.map (·.2)) tg) (tt := tT' (gl X) W0 false tests) (te := tE (gl X) W0 qe false de) hc hN pi hok (fun s H C cl fp => (hg s H C cl fp).pg) (fun s H C cl fp => (ht s H C cl fp).pt) (fun s H C cl fp => (he s H C cl fp).pe) hs) fun σ H Q h =>
    comp_read (gt := tGt (gl X) (R (gl X)) (own.map (·.2)) tg) (tt := tT' (gl X) W0 false tests) (te := tE (gl X) W0 qe false de) ki (fun x σ H Z v env env1 c cv Q a b c' d => ⟨Z, v, env, env1, c, cv, a, b, c', d⟩) (fun _ _ _ z => z) (fun _ _ _ z => z) h⟩
/-- name = [..] where the store comes first -/
theorem v_setComp {pr : List Nat} {i : Nat} {y : Str} {py spos : Pos} (hc : X.calm = true) (hN : X.N.Nodup) (hy : X.N[i]? = some y) (hyl : X.env.scope.names.lookup y = some .local) (hsw : swapsWith (.ListComp elt [⟨tge, iter, ifs, 0⟩] scope pos) (some (.Name y py)) spos.line X.env = pure true)
    (hi : VI X W tge iter src) (hok : BlkOk X.N X.env.scope scope own)
    (hg : ∀ (s : Shared) (H : Hp) (C : Addr) (cl : List (Str × Addr)) (fp : List Addr), VTg (X.blk s H scope (compEnvC scope cl C X.env) fp) (own.map (·.2)) tge tg)
    (ht : ∀ (s : Shared) (H : Hp) (C : Addr) (cl : List (Str × Addr)) (fp : List Addr), VTs (X.blk s H scope (compEnvC scope cl C X.env) fp) W0 ifs tests)
    (he : ∀ (s : Shared) (H : Hp) (C : Addr) (cl : List (Str × Addr)) (fp : List Addr), VE (X.blk s H scope (compEnvC scope cl C X.env) fp) W0 qe false elt de)
    (hp : i ∉ pr := by decide) (hs : ∀ x, foldedSetIterable iter X.env x = pure x := by intro _; rfl) :
    VS X W pr (.Assign [.Name y py] (.ListComp elt [⟨tge, iter, ifs, 0⟩] scope pos) spos) (dSet i (dComp src tg tests de (own.map (·.2)))) := by
  obtain ⟨wi, pi, ki⟩ := hi.ex
  refine ⟨PS.weak (ps_setLc (g := tGt (gl X) (R (gl X)) (own.map (·.2)) tg) (tt := tT' (gl X) W0 false tests) (te := tE (gl X) W0 qe false de) hc hN hy hyl hsw pi hok (fun s H C cl fp => (hg s H C cl fp).pg) (fun s H C cl fp => (ht s H C cl fp).pt) (fun s H C cl fp => (he s H C cl fp).pe) hs) fun D σ H h => ?_⟩
  refine runS (X := X) (W := W) (pr := pr) (d := dComp src tg tests de (List.map (fun x : Str × Nat => x.2) own)) (q := false) (m := false) (fun _ h => comp_read (gt := tGt (gl X) (R (gl X)) (own.map (·.2)) tg) (tt := tT' (gl X) W0 false tests) (te := tE (gl X) W0 qe false de) ki (fun x σ H Z v env env1 c cv Q a b c' d => ⟨Z, v, env, env1, c, cv, a, b, c', d⟩) (fun _ _ _ z => z) (fun _ _ _ z => z) h) h fun {Z c V H2 Z2 c2 cv cx v env env2} a e h2 => ?_
  obtain ⟨d', sr', hl⟩ := a.sr.set' i a.rl
  exact h2 _ H2 Z2 d' (Pr.set hp) sr' (a.st.drop fun x => by rw [a.m0 rfl]; exact hl x)
end
end PV

namespace PV
open PySem PySem.Spec PyProof.Rows L2
/-! ### operations by values -/
def gII (C : Int → Int → Bool) (f : Int → Int → Int) : Val → Val → Option Val
  | .int i, .int j => if C i j = true then some (.int (f i j)) else none
  | _, _ => none
def gIB (f : Int → Int → Bool) : Val → Val → Option Val
  | .int i, .int j => some (.bl (f i j))
  | _, _ => none
section
variable {g : Gl} {H : Hp} {Z : AP}
theorem R_int {i : Int} : R g H Z (.int i) (.int i) (fun _ => 0) := by simp only [R]; exact ⟨trivial, fun _ => trivial⟩
theorem R_str {s : Str} : R g H Z (.str s) (.str s) (fun _ => 0) := by simp only [R]; exact ⟨trivial, fun _ => trivial⟩
theorem R_non : R g H Z .non .non (fun _ => 0) := by simp only [R]; exact ⟨trivial, fun _ => trivial⟩
theorem int_of {i : Int} {x : V} {c : Cnt} (h : R g H Z (.int i) x c) : x = .int i := by simp only [R] at h; exact h.1
theorem bl_of {i : Bool} {x : V} {c : Cnt} (h : R g H Z (.bl i) x c) : x = .bl i := by simp only [R] at h; exact h.1
theorem str_of {i : Str} {x : V} {c : Cnt} (h : R g H Z (.str i) x c) : x = .str i := by simp only [R] at h; exact h.1
theorem tup_of {xs : List Val} {x : V} {c : Cnt} (h : R g H Z (.tup xs) x c) : ∃ a ys, x = .ref a ∧ SqT g.K H a ys ∧ Rs g H Z xs ys c := by simp only [R] at h; exact h
theorem lst_of {o : Bool} {xs : List Val} {x : V} {c : Cnt} (h : R g H Z (.lst o xs) x c) : ∃ a ys d, x = .ref a ∧ H a = some (.lst ys) ∧ (o = false → Z a) ∧ Rs g H Z xs ys d ∧ own1 o a d c := by simp only [R] at h; exact h
theorem p2_II {C : Int → Int → Prop} {C' : Int → Int → Bool} {f : Int → Int → Int} (hC : ∀ i j, C' i j = true → C i j) : Pure2 g (rI C fun i j => .int (f i j)) (gII C' f) := by
  intro v w res e H Z x y c d Q rv rw hz k
  unfold gII at e
  split at e
  · rename_i i j
    split at e
    · rename_i hc
      cases e
      exact ⟨i, j, int_of rv, int_of rw, hC i j hc, k _ H Z _ (New.refl hz) R_int⟩
    · cases e
  · cases e
theorem p2_II0 {f : Int → Int → Int} : Pure2 g (rI0 fun i j => .int (f i j)) (gII (fun _ _ => true) f) := by
  intro v w res e H Z x y c d Q rv rw hz k
  unfold gII at e
  split at e
  · rename_i i j
    cases e
    exact ⟨i, j, int_of rv, int_of rw, k _ H Z _ (New.refl hz) R_int⟩
  · cases e
theorem p2_IB {f : Int → Int → Bool} : Pure2 g (rI0 fun i j => .bl (f i j)) (gIB f) := by
  intro v w res e H Z x y c d Q rv rw hz k
  unfold gIB at e
  split at e
  · rename_i i j
    cases e
    exact ⟨i, j, int_of rv, int_of rw, k _ H Z _ (New.refl hz) R_bl⟩
  · cases e
theorem gIB_bl {f : Int → Int → Bool} : ∀ v w r, gIB f v w = some r → ∃ b, r = .bl b := by
  intro v w r e
  unfold gIB at e
  split at e
  · cases e; exact ⟨_, rfl⟩
  · cases e
end
/-! == -/
mutual
def toD : Val → Option PyData
  | .non => some .none
  | .bl b => some (.bool b)
  | .int i => some (.int i)
  | .str s => some (.str s)
  | .tup xs => (toDs xs).map .tuple
  | .lst _ xs => (toDs xs).map .list
  | .scr ns => some (.list (ns.map .int))
  | _ => none
def toDs : List Val → Option (List PyData)
  | [] => some []
  | x :: xs => match toD x, toDs xs with
    | some d, some ds => some (d :: ds)
    | _, _ => none
end
section
variable {g : Gl} {H : Hp} {Z : AP}
theorem dp_ints {K : PySem.W.Frag} : ∀ ns : List Int, DpAll K H (ns.map V.int) (ns.map PyData.int)
  | [] => .nil
  | n :: ns => .cons (.int n) (dp_ints ns)
mutual
theorem toD_dp : ∀ (v : Val) (x : V) (c : Cnt) (d : PyData), toD v = some d → R g H Z v x c → Dp g.K H x d
  | .gone, x, c, d, e, r => by cases e
  | .non, x, c, d, e, r => by simp only [R] at r; cases e; rw [r.1]; exact .non
  | .bl b, x, c, d, e, r => by simp only [R] at r; cases e; rw [r.1]; exact .bl b
  | .int b, x, c, d, e, r => by simp only [R] at r; cases e; rw [r.1]; exact .int b
  | .str b, x, c, d, e, r => by simp only [R] at r; cases e; rw [r.1]; exact .str b
  | .scr ns, x, c, d, e, r => by simp only [R] at r; cases e; obtain ⟨a, rfl, h, _⟩ := r; exact .lst h.sq (dp_ints ns)
  | .tup xs, x, c, d, e, r => by
    simp only [R] at r
    obtain ⟨a, ys, rfl, h, rs⟩ := r
    simp only [toD, Option.map_eq_some_iff] at e
    obtain ⟨ds, e1, rfl⟩ := e
    exact .tup h (toDs_dp xs ys c ds e1 rs)
  | .lst o xs, x, c, d, e, r => by
    simp only [R] at r
    obtain ⟨a, ys, dd, rfl, h, hz, rs, ho⟩ := r
    simp only [toD, Option.map_eq_some_iff] at e
    obtain ⟨ds, e1, rfl⟩ := e
    exact .lst (.inl (.inl h)) (toDs_dp xs ys dd ds e1 rs)
  | .dic _ _ _, x, c, d, e, r => by cases e
  | .ins _ _ _ _, x, c, d, e, r => by cases e
theorem toDs_dp : ∀ (vs : List Val) (xs : List V) (c : Cnt) (ds : List PyData), toDs vs = some ds → Rs g H Z vs xs c → DpAll g.K H xs ds
  | [], xs, c, ds, e, r => by simp only [Rs] at r; cases e; rw [r.1]; exact .nil
  | v :: vs, xs, c, ds, e, r => by
    simp only [Rs] at r
    obtain ⟨y, zs, c1, c2, rfl, r1, r2, _⟩ := r
    unfold toDs at e
    split at e
    · rename_i d ds' e1 e2
      cases e
      exact .cons (toD_dp v y c1 d e1 r1) (toDs_dp vs zs c2 ds' e2 r2)
    · cases e
end
end
def gEqB (v w : Val) : Option Bool := match toD v, toD w with
  | some d, some e => if SeqAt.shaped d && SeqAt.shaped e then some (PyData.eqv d e) else none
  | _, _ => none
def gEq (v w : Val) : Option Val := (gEqB v w).map .bl
def gNe (v w : Val) : Option Val := (gEqB v w).map fun b => .bl (!b)
theorem gEq_bl : ∀ v w r, gEq v w = some r → ∃ b, r = .bl b := fun v w r e => by
  unfold gEq at e
  obtain ⟨b, _, rfl⟩ := Option.map_eq_some_iff.mp e
  exact ⟨_, rfl⟩
theorem gNe_bl : ∀ v w r, gNe v w = some r → ∃ b, r = .bl b := fun v w r e => by
  unfold gNe at e
  obtain ⟨b, _, rfl⟩ := Option.map_eq_some_iff.mp e
  exact ⟨_, rfl⟩
theorem gEqB_some {v w : Val} {b : Bool} (h : gEqB v w = some b) : ∃ d e, toD v = some d ∧ toD w = some e ∧ SeqAt.shaped d = true ∧ SeqAt.shaped e = true ∧ b = PyData.eqv d e := by
  unfold gEqB at h
  split at h
  · rename_i d e h1 h2
    split at h
    · rename_i h3
      cases h
      have h3 := Bool.and_eq_true_iff.mp h3
      exact ⟨d, e, h1, h2, h3.1, h3.2, rfl⟩
    · cases h
  · cases h
theorem p2_eq {g : Gl} : Pure2 g (rEqD g.K) gEq := by
  intro v w res e H Z x y c d Q rv rw hz k
  unfold gEq at e
  obtain ⟨b, hb, rfl⟩ := Option.map_eq_some_iff.mp e
  obtain ⟨d1, e1, h1, h2, h3, h4, rfl⟩ := gEqB_some hb
  exact ⟨d1, e1, toD_dp v x c d1 h1 rv, toD_dp w y d e1 h2 rw, h3, h4, k _ H Z _ (New.refl hz) R_bl⟩
theorem p2_ne {g : Gl} : Pure2 g (rNeD g.K) gNe := by
  intro v w res e H Z x y c d Q rv rw hz k
  unfold gNe at e
  obtain ⟨b, hb, rfl⟩ := Option.map_eq_some_iff.mp e
  obtain ⟨d1, e1, h1, h2, h3, h4, rfl⟩ := gEqB_some hb
  exact ⟨d1, e1, toD_dp v x c d1 h1 rv, toD_dp w y d e1 h2 rw, h3, h4, k _ H Z _ (New.refl hz) R_bl⟩
/-! is None -/
def isNon : Val → Bool
  | .non => true
  | _ => false
def gIsN (neg : Bool) : Val → Val → Option Val
  | .gone, _ => none
  | .non, .non => some (.bl (!neg))
  | _, .non => some (.bl neg)
  | _, _ => none
theorem gIsN_bl {neg : Bool} : ∀ v w r, gIsN neg v w = some r → ∃ b, r = .bl b := fun v w r e => by
  unfold gIsN at e
  split at e <;> first | (cases e; exact ⟨_, rfl⟩) | cases e
theorem isN_of {g : Gl} {H : Hp} {Z : AP} {v : Val} {x : V} {c : Cnt} (r : R g H Z v x c) (h1 : v ≠ .gone) : decide (x = .non) = isNon v := by
  cases v with
  | gone => exact absurd rfl h1
  | non => simp only [R] at r; rw [r.1]; rfl
  | bl b => simp only [R] at r; rw [r.1]; rfl
  | int b => simp only [R] at r; rw [r.1]; rfl
  | str b => simp only [R] at r; rw [r.1]; rfl
  | tup xs => simp only [R] at r; obtain ⟨a, ys, rfl, _⟩ := r; rfl
  | scr xs => simp only [R] at r; obtain ⟨a, rfl, _⟩ := r; rfl
  | lst o xs => simp only [R] at r; obtain ⟨a, ys, d, rfl, _⟩ := r; rfl
  | dic o ks vs => simp only [R] at r; obtain ⟨a, ys, d, rfl, _⟩ := r; rfl
  | ins o n ns vs => simp only [R] at r; obtain ⟨a, C, dx, fs, d, rfl, _⟩ := r; rfl
theorem gIsN_some {neg : Bool} {v w res : Val} (h : gIsN neg v w = some res) : v ≠ .gone ∧ w = .non ∧ res = .bl (if neg then !(isNon v) else (isNon v)) := by
  cases w <;> cases v <;> simp_all [gIsN, isNon] <;> cases neg <;> simp_all
theorem p2_isN {g : Gl} : Pure2 g (fun x y H Q => y = .non ∧ Q (.bl (decide (x = .non))) H) (gIsN false) := by
  intro v w res e H Z x y c d Q rv rw hz k
  obtain ⟨h1, rfl, rfl⟩ := gIsN_some e
  simp only [R] at rw
  refine ⟨rw.1, ?_⟩
  rw [isN_of rv h1]
  exact k _ H Z _ (New.refl hz) R_bl
theorem p2_notN {g : Gl} : Pure2 g (fun x y H Q => y = .non ∧ Q (.bl (!decide (x = .non))) H) (gIsN true) := by
  intro v w res e H Z x y c d Q rv rw hz k
  obtain ⟨h1, rfl, rfl⟩ := gIsN_some e
  simp only [R] at rw
  refine ⟨rw.1, ?_⟩
  rw [isN_of rv h1]
  exact k _ H Z _ (New.refl hz) R_bl
/-! in, among flat things -/
def flatD : Val → Bool
  | .non => true
  | .bl _ => true
  | .int _ => true
  | .str _ => true
  | _ => false
def flV : Val → V
  | .bl b => .bl b
  | .int i => .int i
  | .str s => .str s
  | _ => .non
theorem flV_of {g : Gl} {H : Hp} {Z : AP} {v : Val} {x : V} {c : Cnt} (h : flatD v = true) (r : R g H Z v x c) : x = flV v := by
  cases v <;> first | (cases h; done) | (simp only [R] at r; exact r.1)
theorem flVs_of {g : Gl} {H : Hp} {Z : AP} : ∀ {vs : List Val} {xs : List V} {c : Cnt}, vs.all flatD = true → Rs g H Z vs xs c → xs = vs.map flV
  | [], xs, c, h, r => by simp only [Rs] at r; rw [r.1]; rfl
  | v :: vs, xs, c, h, r => by
    simp only [Rs] at r
    obtain ⟨y, zs, c1, c2, rfl, r1, r2, _⟩ := r
    have h := Bool.and_eq_true_iff.mp (show (flatD v && vs.all flatD) = true from h)
    rw [flV_of h.1 r1, flVs_of h.2 r2]
    rfl
theorem flatV_of {v : Val} (h : flatD v = true) : flatV (flV v) = true := by
  cases v <;> first | (cases h; done) | rfl
def gItems : Val → Option (List Val)
  | .lst _ xs => some xs
  | .tup xs => some xs
  | _ => none
/-- x in xs -/
def gIn (neg : Bool) (v w : Val) : Option Val := match gItems w with
  | some xs => if flatD v && xs.all flatD then some (.bl (if neg then !inV (flV v) (xs.map flV) else inV (flV v) (xs.map flV))) else none
  | none => none
theorem gIn_bl {neg : Bool} : ∀ v w r, gIn neg v w = some r → ∃ b, r = .bl b := fun v w r e => by
  unfold gIn at e
  split at e
  · split at e
    · cases e; exact ⟨_, rfl⟩
    · cases e
  · cases e
theorem p2_in {g : Gl} {neg : Bool} : Pure2 g (rIn g.K neg) (gIn neg) := by
  intro v w res e H Z x y c d Q rv rw hz k
  unfold gIn at e
  split at e
  · rename_i xs hx
    split at e
    · rename_i hf
      cases e
      have hf := Bool.and_eq_true_iff.mp hf
      have fin : ∀ {ys : List V}, ys = xs.map flV → flatV x = true ∧ ys.all flatV = true ∧ Q (.bl (if neg then !inV x ys else inV x ys)) H := fun {ys} e => by
        subst e
        rw [flV_of hf.1 rv]
        refine ⟨flatV_of hf.1, ?_, k _ H Z _ (New.refl hz) R_bl⟩
        rw [List.all_map]
        exact List.all_eq_true.mpr fun z hz' => flatV_of (List.all_eq_true.mp hf.2 z hz')
      cases w with
      | lst o zs =>
        cases hx
        obtain ⟨a, ys, dd, rfl, h, _, rs, _⟩ := lst_of rw
        exact ⟨a, ys, rfl, .inl (.inl (.inl h)), fin (flVs_of hf.2 rs)⟩
      | tup zs =>
        cases hx
        obtain ⟨a, ys, rfl, h, rs⟩ := tup_of rw
        exact ⟨a, ys, rfl, .inr h, fin (flVs_of hf.2 rs)⟩
      | _ => cases hx
    · cases e
  · cases e
end PV

namespace PV
open PySem PySem.Spec PyProof.Rows L2
def big : Int := 1000000000000000000000000000000000000000000000000000000000000
def cDivW (i j : Int) : Bool := decide (0 < j ∧ j < big)
def cMod (i j : Int) : Bool := decide (0 < j)
def cPow (i j : Int) : Bool := decide (0 ≤ j ∧ j ≤ 1000000 ∧ i.natAbs < 18446744073709551616)
def cMul (i j : Int) : Bool := decide ((Builtin.Int.intBits i : Int) + (Builtin.Int.intBits j : Int) ≤ 134217728)
def cShl (i j : Int) : Bool := decide (0 ≤ j ∧ (Builtin.Int.intBits i : Int) + j ≤ 134217728)
def cShr (i j : Int) : Bool := decide (0 ≤ j)
def gAdd : Val → Val → Option Val
  | .int i, .int j => some (.int (i + j))
  | .str s, .str t => if small (s.length + t.length) then some (.str (s ++ t)) else none
  | .tup xs, .tup ys => if small (xs.length + ys.length) && !owns xs && !owns ys then some (.tup (xs ++ ys)) else none
  | .lst _ xs, .lst _ ys => if small (xs.length + ys.length) && !owns xs && !owns ys then some (.lst true (xs ++ ys)) else none
  | _, _ => none
def gMul : Val → Val → Option Val
  | .int i, .int j => if cMul i j = true then some (.int (i * j)) else none
  | .lst _ xs, .int k => if decide (-9223372036854775808 ≤ k ∧ k < 9223372036854775808) && small (xs.length * k.toNat) && !owns xs then some (.lst true (List.replicate k.toNat xs).flatten) else none
  | _, _ => none
abbrev rAdd (K : PySem.W.Frag) : R2 := fun x y H Q => (rI0 fun i j => .int (i + j)) x y H Q ∨ ((fun x y H Q => ∃ i j, x = .str i ∧ y = .str j ∧ i.length + j.length ≤ sizeLine ∧ Q (.str (i ++ j)) H : R2) x y H Q ∨ (rCatA K x y H Q ∨ rCat x y H Q))
abbrev rMul : R2 := fun x y H Q => (rI CMulX fun i j => .int (i * j)) x y H Q ∨ rRep x y H Q
section
variable {X : Cx}
theorem o_add : OpR X (binaryOp .Add) (rAdd X.K) := .or op_add (.or op_add_str (.or op_catA op_cat))
theorem o_mul : OpR X (binaryOp .Mult) rMul := .or op_mulX op_rep
end
section
variable {g : Gl} {H : Hp} {Z : AP}
theorem Rs_zero {xs : List Val} {ys : List V} {c : Cnt} (o : owns xs = false) (r : Rs g H Z xs ys c) : Rs g H Z xs ys (fun _ => 0) := Rs_eq _ _ _ _ (fun a => (owns_zero _ _ _ o r a).symm) r
theorem R_zero {v : Val} {x : V} {c : Cnt} (o : own v = false) (r : R g H Z v x c) : R g H Z v x (fun _ => 0) := R_eq _ _ _ _ (fun a => (own_zero _ _ _ o r a).symm) r
/-- a new list, a new tuple of things that nobody owns -/
theorem new_lst {xs : List Val} {ys : List V} {p : Addr} (hp : H p = none) (hz : ∀ a, Z a → H a ≠ none) (r : Rs g H Z xs ys (fun _ => 0)) : New H Z (upd H p (.lst ys)) Z (one p) ∧ R g (upd H p (.lst ys)) Z (.lst true xs) (.ref p) (one p) := by
  have n : New H Z (upd H p (.lst ys)) Z (one p) := New.put hp hz trivial
  refine ⟨n, ?_⟩
  simp only [R]
  exact ⟨p, ys, fun _ => 0, rfl, upd_same, (fun q => nomatch q), Rs_kept _ _ _ (n.same.kept n.zin) r, fun b => by show one p b = 0 + one p b; omega⟩
theorem new_tup {xs : List Val} {ys : List V} {p : Addr} (hp : H p = none) (hz : ∀ a, Z a → H a ≠ none) (r : Rs g H Z xs ys (fun _ => 0)) : New H Z (upd H p (.tup ys)) Z (fun _ => 0) ∧ R g (upd H p (.tup ys)) Z (.tup xs) (.ref p) (fun _ => 0) := by
  have n : New H Z (upd H p (.tup ys)) Z (fun _ => 0) := New.lay hp hz
  refine ⟨n, ?_⟩
  simp only [R]
  exact ⟨p, ys, rfl, .inl (.inl upd_same), Rs_kept _ _ _ (n.same.kept n.zin) r⟩
theorem R_tup {xs : List Val} {ys : List V} {a : Addr} (h : SqT g.K H a ys) (r : Rs g H Z xs ys (fun _ => 0)) : R g H Z (.tup xs) (.ref a) (fun _ => 0) := by simp only [R]; exact ⟨a, ys, rfl, h, r⟩
theorem Rs_app0 {xs xs' : List Val} {ys ys' : List V} (h : Rs g H Z xs ys (fun _ => 0)) (h' : Rs g H Z xs' ys' (fun _ => 0)) : Rs g H Z (xs ++ xs') (ys ++ ys') (fun _ => 0) := Rs_append h h' fun _ => rfl
end
theorem p2_add {g : Gl} : Pure2 g (rAdd g.K) gAdd := by
  intro v w res e H Z x y c d Q rv rw hz k
  unfold gAdd at e
  split at e
  · rename_i i j
    cases e
    exact .inl ⟨i, j, int_of rv, int_of rw, k _ H Z _ (New.refl hz) R_int⟩
  · rename_i s t
    split at e
    · rename_i hs
      cases e
      exact .inr (.inl ⟨s, t, str_of rv, str_of rw, small_line hs, k _ H Z _ (New.refl hz) R_str⟩)
    · cases e
  · rename_i xs ys
    split at e
    · rename_i hs
      cases e
      simp only [Bool.and_eq_true, Bool.not_eq_true'] at hs
      obtain ⟨⟨hs, o1⟩, o2⟩ := hs
      obtain ⟨a, xs', rfl, h1, r1⟩ := tup_of rv
      obtain ⟨b, ys', rfl, h2, r2⟩ := tup_of rw
      have r1 := Rs_zero o1 r1
      have r2 := Rs_zero o2 r2
      refine .inr (.inr (.inl ⟨a, b, xs', ys', rfl, rfl, h1, h2, by rw [Rs_len r1, Rs_len r2]; exact small_line hs, fun e => ?_, fun _ e => ?_, fun _ _ p hp => ?_⟩))
      · have e2 : xs = [] := List.eq_nil_of_length_eq_zero (by rw [← Rs_len r1, e]; rfl)
        subst e2
        exact k _ H Z _ (New.refl hz) (R_tup h2 r2)
      · have e2 : ys = [] := List.eq_nil_of_length_eq_zero (by rw [← Rs_len r2, e]; rfl)
        subst e2
        rw [List.append_nil] at k
        exact k _ H Z _ (New.refl hz) (R_tup h1 r1)
      · obtain ⟨n, rn⟩ := new_tup hp hz (Rs_app0 r1 r2)
        exact k _ _ Z _ n rn
    · cases e
  · rename_i o xs o' ys
    split at e
    · rename_i hs
      cases e
      simp only [Bool.and_eq_true, Bool.not_eq_true'] at hs
      obtain ⟨⟨hs, o1⟩, o2⟩ := hs
      obtain ⟨a, xs', d1, rfl, h1, _, r1, _⟩ := lst_of rv
      obtain ⟨b, ys', d2, rfl, h2, _, r2, _⟩ := lst_of rw
      have r1 := Rs_zero o1 r1
      have r2 := Rs_zero o2 r2
      refine .inr (.inr (.inr ⟨a, b, xs', ys', rfl, rfl, h1, h2, by rw [Rs_len r1, Rs_len r2]; exact small_line hs, fun p hp => ?_⟩))
      obtain ⟨n, rn⟩ := new_lst hp hz (Rs_app0 r1 r2)
      exact k _ _ Z _ n rn
    · cases e
  · cases e
theorem Rs_rep {g : Gl} {H : Hp} {Z : AP} {xs : List Val} {ys : List V} (h : Rs g H Z xs ys (fun _ => 0)) : ∀ n : Nat, Rs g H Z (List.replicate n xs).flatten (List.replicate n ys).flatten (fun _ => 0)
  | 0 => Rs_nil
  | n + 1 => by
    rw [List.replicate_succ, List.replicate_succ, List.flatten_cons, List.flatten_cons]
    exact Rs_app0 h (Rs_rep h n)
theorem p2_mul {g : Gl} : Pure2 g rMul gMul := by
  intro v w res e H Z x y c d Q rv rw hz k
  unfold gMul at e
  split at e
  · rename_i i j
    split at e
    · rename_i hc
      cases e
      exact .inl ⟨i, j, int_of rv, int_of rw, (by have h := of_decide_eq_true hc; exact h), k _ H Z _ (New.refl hz) R_int⟩
    · cases e
  · rename_i o xs n
    split at e
    · rename_i hs
      cases e
      simp only [Bool.and_eq_true, Bool.not_eq_true', decide_eq_true_eq] at hs
      obtain ⟨⟨hb, hs⟩, o1⟩ := hs
      obtain ⟨a, xs', d1, rfl, h1, _, r1, _⟩ := lst_of rv
      have r1 := Rs_zero o1 r1
      refine .inr ⟨a, n, xs', rfl, int_of rw, h1, hb.1, hb.2, by rw [Rs_len r1]; exact small_line hs, fun p hp => ?_⟩
      obtain ⟨m, rn⟩ := new_lst hp hz (Rs_rep r1 n.toNat)
      exact k _ _ Z _ m rn
    · cases e
  · cases e
theorem cDivW_ok : ∀ i j, cDivW i j = true → CDivW i j := fun i j h => by
  have h := of_decide_eq_true h
  unfold big at h
  refine ⟨h.1, Nat.lt_of_lt_of_le (Nat.log2_lt (by omega) |>.mpr (show j.natAbs < 2 ^ 200 from Nat.lt_trans (show j.natAbs < 1000000000000000000000000000000000000000000000000000000000000 by omega) (by decide))) (by decide)⟩
theorem cMod_ok : ∀ i j, cMod i j = true → (fun _ j : Int => 0 < j) i j := fun i j h => of_decide_eq_true h
theorem cPow_ok : ∀ i j, cPow i j = true → CPow i j := fun i j h => by have h := of_decide_eq_true h; exact h
theorem cShl_ok : ∀ i j, cShl i j = true → CShl i j := fun i j h => by have h := of_decide_eq_true h; exact h
theorem cShr_ok : ∀ i j, cShr i j = true → (fun _ j : Int => 0 ≤ j) i j := fun i j h => of_decide_eq_true h
/-! ### built-in functions -/
def toInts : List Val → Option (List Int)
  | [] => some []
  | .int i :: r => (toInts r).map (i :: ·)
  | _ => none
def toBls : List Val → Option (List Bool)
  | [] => some []
  | .bl i :: r => (toBls r).map (i :: ·)
  | _ => none
section
variable {g : Gl} {H : Hp} {Z : AP}
theorem ints_of : ∀ {xs : List Val} {ys : List V} {c : Cnt} {ns : List Int}, toInts xs = some ns → Rs g H Z xs ys c → ys = ns.map V.int
  | [], ys, c, ns, e, r => by simp only [Rs] at r; cases e; exact r.1
  | v :: xs, ys, c, ns, e, r => by
    cases v with
    | int i =>
      unfold toInts at e
      obtain ⟨ms, e1, rfl⟩ := Option.map_eq_some_iff.mp e
      simp only [Rs] at r
      obtain ⟨y, zs, c1, c2, rfl, r1, r2, _⟩ := r
      rw [int_of r1, ints_of e1 r2]
      rfl
    | _ => cases e
theorem bls_of : ∀ {xs : List Val} {ys : List V} {c : Cnt} {ns : List Bool}, toBls xs = some ns → Rs g H Z xs ys c → ys = ns.map V.bl
  | [], ys, c, ns, e, r => by simp only [Rs] at r; cases e; exact r.1
  | v :: xs, ys, c, ns, e, r => by
    cases v with
    | bl i =>
      unfold toBls at e
      obtain ⟨ms, e1, rfl⟩ := Option.map_eq_some_iff.mp e
      simp only [Rs] at r
      obtain ⟨y, zs, c1, c2, rfl, r1, r2, _⟩ := r
      rw [bl_of r1, bls_of e1 r2]
      rfl
    | _ => cases e
theorem Rs_1 {v : Val} {xs : List V} {c : Cnt} (r : Rs g H Z [v] xs c) : ∃ x, xs = [x] ∧ R g H Z v x c := by
  simp only [Rs] at r
  obtain ⟨y, zs, c1, c2, rfl, r1, ⟨rfl, h2⟩, h3⟩ := r
  exact ⟨y, rfl, R_eq _ _ _ _ (fun a => by rw [h3, h2]; rfl) r1⟩
end
def gLen : List Val → Option Val
  | [.lst _ xs] => some (.int xs.length)
  | [.tup xs] => some (.int xs.length)
  | [.scr ns] => some (.int ns.length)
  | _ => none
theorem pn_len {g : Gl} : PureN g (fun xs H Q => ∃ p ys, xs = [.ref p] ∧ (SqL g.K H p ys ∨ SqT g.K H p ys) ∧ Q (.int ys.length) H) gLen := by
  intro vs res e H Z xs c Q r hz k
  unfold gLen at e
  split at e
  · cases e
    obtain ⟨x, rfl, r1⟩ := Rs_1 r
    obtain ⟨a, ys, d, rfl, h, _, rs, _⟩ := lst_of r1
    exact ⟨a, ys, rfl, .inl (.inl (.inl h)), by rw [Rs_len rs]; exact k _ H Z _ (New.refl hz) R_int⟩
  · cases e
    obtain ⟨x, rfl, r1⟩ := Rs_1 r
    obtain ⟨a, ys, rfl, h, rs⟩ := tup_of r1
    exact ⟨a, ys, rfl, .inr h, by rw [Rs_len rs]; exact k _ H Z _ (New.refl hz) R_int⟩
  · rename_i ns
    cases e
    obtain ⟨x, rfl, r1⟩ := Rs_1 r
    simp only [R] at r1
    obtain ⟨a, rfl, h, _⟩ := r1
    exact ⟨a, _, rfl, .inl h.sq, by rw [List.length_map]; exact k _ H Z _ (New.refl hz) R_int⟩
  · cases e
def gSum : List Val → Option Val
  | [.lst _ xs] => (toInts xs).map fun ns => .int ns.sum
  | _ => none
theorem pn_sum {g : Gl} : PureN g (rSum g.K) gSum := by
  intro vs res e H Z xs c Q r hz k
  unfold gSum at e
  split at e
  · obtain ⟨ns, e1, rfl⟩ := Option.map_eq_some_iff.mp e
    obtain ⟨x, rfl, r1⟩ := Rs_1 r
    obtain ⟨a, ys, d, rfl, h, _, rs, _⟩ := lst_of r1
    exact ⟨a, ns, rfl, by rw [← ints_of e1 rs]; exact .inl (.inl h), k _ H Z _ (New.refl hz) R_int⟩
  · cases e
def gAll : List Val → Option Val
  | [.lst _ xs] => (toBls xs).map fun ns => .bl (ns.all id)
  | _ => none
def gAny : List Val → Option Val
  | [.lst _ xs] => (toBls xs).map fun ns => .bl (ns.any id)
  | _ => none
theorem pn_all {g : Gl} : PureN g (rAll g.K) gAll := by
  intro vs res e H Z xs c Q r hz k
  unfold gAll at e
  split at e
  · obtain ⟨ns, e1, rfl⟩ := Option.map_eq_some_iff.mp e
    obtain ⟨x, rfl, r1⟩ := Rs_1 r
    obtain ⟨a, ys, d, rfl, h, _, rs, _⟩ := lst_of r1
    exact ⟨a, ns, rfl, by rw [← bls_of e1 rs]; exact .inl (.inl h), k _ H Z _ (New.refl hz) R_bl⟩
  · cases e
theorem pn_any {g : Gl} : PureN g (rAny g.K) gAny := by
  intro vs res e H Z xs c Q r hz k
  unfold gAny at e
  split at e
  · obtain ⟨ns, e1, rfl⟩ := Option.map_eq_some_iff.mp e
    obtain ⟨x, rfl, r1⟩ := Rs_1 r
    obtain ⟨a, ys, d, rfl, h, _, rs, _⟩ := lst_of r1
    exact ⟨a, ns, rfl, by rw [← bls_of e1 rs]; exact .inl (.inl h), k _ H Z _ (New.refl hz) R_bl⟩
  · cases e
def gMax2 : List Val → Option Val
  | [.int i, .int j] => some (.int (if j > i then j else i))
  | _ => none
def gMin2 : List Val → Option Val
  | [.int i, .int j] => some (.int (if j < i then j else i))
  | _ => none
theorem pn_max2 {g : Gl} : PureN g (fun xs H Q => ∃ i j, xs = [.int i, .int j] ∧ Q (.int (if j > i then j else i)) H) gMax2 := by
  intro vs res e H Z xs c Q r hz k
  unfold gMax2 at e
  split at e
  · rename_i i j
    cases e
    obtain ⟨x, y, c1, c2, rfl, r1, r2, _⟩ := Rs_two r
    exact ⟨i, j, by rw [int_of r1, int_of r2], k _ H Z _ (New.refl hz) R_int⟩
  · cases e
theorem pn_min2 {g : Gl} : PureN g (fun xs H Q => ∃ i j, xs = [.int i, .int j] ∧ Q (.int (if j < i then j else i)) H) gMin2 := by
  intro vs res e H Z xs c Q r hz k
  unfold gMin2 at e
  split at e
  · rename_i i j
    cases e
    obtain ⟨x, y, c1, c2, rfl, r1, r2, _⟩ := Rs_two r
    exact ⟨i, j, by rw [int_of r1, int_of r2], k _ H Z _ (New.refl hz) R_int⟩
  · cases e
def gInt : List Val → Option Val
  | [.int i] => some (.int i)
  | [.bl b] => some (.int (if b then 1 else 0))
  | _ => none
theorem pn_int {g : Gl} : PureN g (fun xs H Q => (∃ i, xs = [.int i] ∧ Q (.int i) H) ∨ ∃ k, xs = [.bl k] ∧ Q (.int (if k then 1 else 0)) H) gInt := by
  intro vs res e H Z xs c Q r hz k
  unfold gInt at e
  split at e
  · rename_i i
    cases e
    obtain ⟨x, rfl, r1⟩ := Rs_1 r
    exact .inl ⟨i, by rw [int_of r1], k _ H Z _ (New.refl hz) R_int⟩
  · rename_i b
    cases e
    obtain ⟨x, rfl, r1⟩ := Rs_1 r
    exact .inr ⟨b, by rw [bl_of r1], k _ H Z _ (New.refl hz) R_int⟩
  · cases e
/-- list(xs), tuple(xs) of things that nobody owns -/
def gList : List Val → Option Val
  | [.lst _ xs] => if owns xs then none else some (.lst true xs)
  | [.tup xs] => if owns xs then none else some (.lst true xs)
  | _ => none
def gTuple : List Val → Option Val
  | [.lst _ xs] => if owns xs then none else some (.tup xs)
  | [.tup xs] => if owns xs then none else some (.tup xs)
  | _ => none
theorem pn_list {g : Gl} : PureN g (fun xs H Q => ∃ p ys, xs = [.ref p] ∧ (SqL g.K H p ys ∨ SqT g.K H p ys) ∧ ∀ l, H l = none → Q (.ref l) (upd H l (.lst ys))) gList := by
  intro vs res e H Z xs c Q r hz k
  unfold gList at e
  split at e
  · split at e
    · cases e
    · rename_i o
      cases e
      obtain ⟨x, rfl, r1⟩ := Rs_1 r
      obtain ⟨a, ys, d, rfl, h, _, rs, _⟩ := lst_of r1
      refine ⟨a, ys, rfl, .inl (.inl (.inl h)), fun p hp => ?_⟩
      obtain ⟨m, rn⟩ := new_lst hp hz (Rs_zero (by simpa using o) rs)
      exact k _ _ Z _ m rn
  · split at e
    · cases e
    · rename_i o
      cases e
      obtain ⟨x, rfl, r1⟩ := Rs_1 r
      obtain ⟨a, ys, rfl, h, rs⟩ := tup_of r1
      refine ⟨a, ys, rfl, .inr h, fun p hp => ?_⟩
      obtain ⟨m, rn⟩ := new_lst hp hz (Rs_zero (by simpa using o) rs)
      exact k _ _ Z _ m rn
  · cases e
theorem pn_tuple {g : Gl} : PureN g (fun xs H Q => ∃ p ys, xs = [.ref p] ∧ ((SqL g.K H p ys ∧ ∀ l, H l = none → Q (.ref l) (upd H l (.tup ys))) ∨ (SqT g.K H p ys ∧ Q (.ref p) H))) gTuple := by
  intro vs res e H Z xs c Q r hz k
  unfold gTuple at e
  split at e
  · split at e
    · cases e
    · rename_i o
      cases e
      obtain ⟨x, rfl, r1⟩ := Rs_1 r
      obtain ⟨a, ys, d, rfl, h, _, rs, _⟩ := lst_of r1
      refine ⟨a, ys, rfl, .inl ⟨.inl (.inl h), fun p hp => ?_⟩⟩
      obtain ⟨m, rn⟩ := new_tup hp hz (Rs_zero (by simpa using o) rs)
      exact k _ _ Z _ m rn
  · split at e
    · cases e
    · rename_i o
      cases e
      obtain ⟨x, rfl, r1⟩ := Rs_1 r
      obtain ⟨a, ys, rfl, h, rs⟩ := tup_of r1
      exact ⟨a, ys, rfl, .inr ⟨h, k _ H Z _ (New.refl hz) (R_tup h (Rs_zero (by simpa using o) rs))⟩⟩
  · cases e
/-! isinstance of a built-in class -/
def tyName : Val → Option String
  | .non => some "NoneType"
  | .bl _ => some "bool"
  | .int _ => some "int"
  | .str _ => some "str"
  | .tup _ => some "tuple"
  | .lst _ _ => some "list"
  | .scr _ => none
  | .dic _ _ _ => some "dict"
  | _ => none
def isSub (t T : String) : Bool := t == T || (t == "bool" && T == "int")
def gIsi (T : String) (v : Val) : Option Val := (tyName v).map fun t => .bl (isSub t T)
theorem tyx_of {g : Gl} {H : Hp} {Z : AP} {v : Val} {x : V} {c : Cnt} {t : String} (e : tyName v = some t) (r : R g H Z v x c) : TyX g.K H x (.type t) := by
  cases v with
  | non => cases e; simp only [R] at r; rw [r.1]; exact .base .non
  | bl b => cases e; simp only [R] at r; rw [r.1]; exact .base (.bl b)
  | int b => cases e; simp only [R] at r; rw [r.1]; exact .base (.int b)
  | str b => cases e; simp only [R] at r; rw [r.1]; exact .base (.str b)
  | tup xs =>
    cases e
    obtain ⟨a, ys, rfl, h, rs⟩ := tup_of r
    rcases h with (h | ⟨o, h⟩) | ⟨o, its, n, hk, hc, _⟩
    · exact .base (.tup h)
    · exact .fTuple h
    · exact .kTuple hk hc
  | lst o xs =>
    cases e
    obtain ⟨a, ys, d, rfl, h, _, rs, _⟩ := lst_of r
    exact .base (.lst h)
  | dic o ks vs =>
    cases e
    simp only [R] at r
    obtain ⟨a, ys, d, rfl, h, _⟩ := r
    rcases h with ⟨kvs, h, _⟩ | ⟨kvs, h, _⟩
    · exact .base (.dK h)
    · exact .base (.dT h)
  | _ => cases e
def tyKnown (T : String) : Bool := ["int", "bool", "str", "tuple", "list", "dict"].contains T
theorem kit_sub {K : PySem.W.Frag} {v : Val} {t T : String} (e : tyName v = some t) (h : tyKnown T = true) : PySem.W.kitOne K (.type t) (.type T) = some (isSub t T) := by
  refine kit_ty ?_
  have ht : t ∈ ["NoneType", "bool", "int", "str", "tuple", "list", "dict"] := by
    cases v <;> cases e <;> decide
  have hT : T ∈ ["int", "bool", "str", "tuple", "list", "dict"] := List.contains_iff_mem.mp h
  have key : ∀ t ∈ ["NoneType", "bool", "int", "str", "tuple", "list", "dict"], ∀ T ∈ ["int", "bool", "str", "tuple", "list", "dict"], kitB t T = some (isSub t T) := by decide +kernel
  exact key t ht T hT
section
variable {X : Cx} {W : WX} {a : Expr} {q m : Bool} {d : DE} {p p2 pos : Pos}
theorem v_isi {T : Str} {T' : String} (hg : L2.Gl X "isinstance") (hm : X.mg "isinstance" = none) (hg2 : L2.Gl X T) (hm2 : X.mg T = none) (hv2 : bootBuiltins T = some (.type T')) (hk : tyKnown T' = true) (ha : VE X W q m a d)
    (hn : T ≠ "__name__" := by decide) (hdb : (T == ("__debug__" : Str)) = false := by decide) (hs : starEach [a, .Name T p2] X.env = (false, eval a X.env) :: starEach [.Name T p2] X.env := by rfl) :
    VE X W q false (.Call (.Name "isinstance" p) [a, .Name T p2] [] pos) (dUn (gIsi T') d) := by
  have hb : PE X (.Name T p2) (tC (.ty T')) := pe_bltn hg2 hm2 hv2 rfl hn hdb
  refine ⟨PE.weak (pe_callB call_isi hg hm (by decide +kernel) (pa_cons ha.pe (pa_cons hb pa_nil) hs) (by decide) (by decide) hs rfl) fun σ H Q h => ?_⟩
  refine run1 (fun _ z => z) h fun {Z c V H2 Z2 c2 cv cx v env env2} a e h2 => ?_
  obtain ⟨res, e2, h3⟩ := lift_some h2
  unfold gIsi at e2
  obtain ⟨t, e3, rfl⟩ := Option.map_eq_some_iff.mp e2
  exact ⟨V, .ty T', .type t, .type T', isSub t T', rfl, .ty T', tyx_of e3 a.rl, kit_sub e3 hk, fin a.st (fun _ => Nat.le_add_right _ _) a.sr a.q1 (New.refl a.st.good.zd) R_bl h3⟩
end
end PV

namespace PV
open PySem PySem.Spec PyProof.Rows L2
/-! ### chains, subscripts, slices -/
def dChain (f f' : Int → Int → Bool) (da db dc : DE) : DE := fun env => bnd (da env) fun v e1 => bnd (db e1) fun w e2 => match v, w with
  | .int i, .int j => if f i j = true then bnd (dc e2) fun u e3 => lift (gIB f' (.int j) u) e3 else ok (.bl false) e2
  | _, _ => none
def gIx : Val → Val → Option Val
  | .lst _ xs, .int i => atI xs i
  | .tup xs, .int i => atI xs i
  | .scr ns, .int i => (atI ns i).map .int
  | _, _ => none
def noOwn (v : Val) : Option Val := if own v = true then none else some v
def cutL {α : Type} (xs : List α) (lo hi : Option Int) : List α := (xs.drop (HT.sIx xs.length 0 lo)).take (HT.sIx xs.length xs.length hi - HT.sIx xs.length 0 lo)
def gSl (v : Val) (lo hi : Option Int) : Option Val := match v with
  | .lst _ xs => if owns xs then none else some (.lst true (cutL xs lo hi))
  | .tup xs => if owns xs then none else some (.tup (cutL xs lo hi))
  | .scr ns => some (.lst true ((cutL ns lo hi).map .int))
  | _ => none
abbrev DO := Env → M (Option Int)
def dPart (d : DE) : DO := fun env => bnd (d env) fun v e => match v with
  | .int i => ok (some i) e
  | _ => none
def dNoPart : DO := fun env => ok none env
def dSl (d : DE) (dl dh : DO) : DE := fun env => bnd (d env) fun v e1 => bnd (dl e1) fun l e2 => bnd (dh e2) fun h e3 => lift (gSl v l h) e3
def relO : Rel (Option Int) (Option Int) := fun _ _ o o' c => o' = o ∧ ∀ a, c a = 0
def tO' (g : Gl) (W : WX) (q : Bool) (d : DO) : TO := fun σ H Q => ∃ Z env c, SR g H Z σ env c ∧ Good H Z c ∧ Post g W relO σ q false H Z c (d env) Q
structure VO (X : Cx) (W : WX) (q : Bool) (e : Option Expr) (d : DO) : Prop where
  po : PO X e (tO' (gl X) W q d)
section
variable {g : Gl} {H : Hp} {Z : AP}
theorem Rs_take0 : ∀ {xs : List Val} {ys : List V} (n : Nat), Rs g H Z xs ys (fun _ => 0) → Rs g H Z (xs.take n) (ys.take n) (fun _ => 0) := fun {xs ys} n r => by
  have e : xs = xs.take n ++ xs.drop n := (List.take_append_drop n xs).symm
  rw [e] at r
  obtain ⟨z1, z2, c1, c2, e1, r1, r2, e2⟩ := Rs_split r
  subst e1
  have l1 : z1.length = (xs.take n).length := Rs_len r1
  have : (z1 ++ z2).take n = z1 := by
    by_cases h : n ≤ xs.length
    · rw [List.length_take, Nat.min_eq_left h] at l1
      rw [← l1, List.take_left]
    · have l2 : z2.length = 0 := by rw [Rs_len r2, List.length_drop]; omega
      rw [List.eq_nil_of_length_eq_zero l2, List.append_nil, List.take_of_length_le]
      rw [l1, List.length_take]; omega
  rw [this]
  exact Rs_eq _ _ _ _ (fun a => by have := e2 a; omega) r1
theorem Rs_drop0 : ∀ {xs : List Val} {ys : List V} (n : Nat), Rs g H Z xs ys (fun _ => 0) → Rs g H Z (xs.drop n) (ys.drop n) (fun _ => 0) := fun {xs ys} n r => by
  have e : xs = xs.take n ++ xs.drop n := (List.take_append_drop n xs).symm
  rw [e] at r
  obtain ⟨z1, z2, c1, c2, e1, r1, r2, e2⟩ := Rs_split r
  subst e1
  have l1 : z1.length = (xs.take n).length := Rs_len r1
  have : (z1 ++ z2).drop n = z2 := by
    by_cases h : n ≤ xs.length
    · rw [List.length_take, Nat.min_eq_left h] at l1
      rw [← l1, List.drop_left]
    · have l2 : z2.length = 0 := by rw [Rs_len r2, List.length_drop]; omega
      rw [List.eq_nil_of_length_eq_zero l2, List.append_nil, List.drop_eq_nil_of_le]
      rw [l1, List.length_take]; omega
  rw [this]
  exact Rs_eq _ _ _ _ (fun a => by have := e2 a; omega) r2
theorem Rs_cut {xs : List Val} {ys : List V} (lo hi : Option Int) (r : Rs g H Z xs ys (fun _ => 0)) : Rs g H Z (cutL xs lo hi) (cutV ys lo hi) (fun _ => 0) := by
  unfold cutL cutV
  rw [Rs_len r]
  exact Rs_take0 _ (Rs_drop0 _ r)
theorem atI_rel {xs : List Val} {ys : List V} {c : Cnt} {i : Int} {v : Val} (r : Rs g H Z xs ys c) (e : atI xs i = some v) : ∃ y cx, atI ys i = some y ∧ R g H Z v y cx := by
  unfold atI at e ⊢
  obtain ⟨j, e1, e2⟩ := Option.bind_eq_some_iff.mp e
  obtain ⟨y, cx, cr, ey, ry, _⟩ := Rs_at r e2
  exact ⟨y, cx, by rw [Rs_len r, e1]; exact ey, ry⟩
theorem Rs_ints : ∀ ns : List Int, Rs g H Z (ns.map .int) (ns.map V.int) (fun _ => 0)
  | [] => Rs_nil
  | n :: ns => by
    show Rs g H Z (.int n :: ns.map .int) (.int n :: ns.map V.int) _
    simp only [Rs]
    exact ⟨_, _, _, _, rfl, R_int, Rs_ints ns, fun _ => rfl⟩
end
section
variable {X : Cx} {W : WX} {a b c' : Expr} {q m qa qb qc ma mb mc : Bool} {d da db dc : DE} {dl dh : DO} {lo hi : Option Expr} {p2 pos : Pos}
theorem rd_chain {f f' : Int → Int → Bool} {σ : L2.St} {H : Hp} {Q : VK} (hm : ma = false ∨ qb = true) (h : tE (gl X) W (qa && qb && qc) false (dChain f f' da db dc) σ H Q) :
    tChain (rI0 fun i j => .bl (f i j)) (rI0 fun i j => .bl (f' i j)) (tE (gl X) W qa ma da) (tE (gl X) W qb mb db) (tE (gl X) W qc mc dc) σ H Q := by
  refine run2 (fun _ z => z) (fun _ _ z => z) hm h fun {Z c s V U H2 Z2 c2 cv cw v w env2} sr rv rw st hl hq h2 => ?_
  have hq' : (qa && qb && qc) = true → Same' H H2 := fun z => hq (Bool.and_eq_true_iff.mp z).1
  cases v with
  | int i =>
    cases w with
    | int j =>
      dsimp only at h2
      refine ⟨i, j, int_of rv, int_of rw, f i j, rfl, ?_⟩
      have ej := int_of rw
      by_cases hf : f i j = true
      · rw [if_pos hf] at h2 ⊢
        have st2 := st.drop hl
        refine ⟨Z2, env2, c2, sr, st2.good, ?_⟩
        have s0 : Step H Z c H2 Z2 (fun a => c2 a + (fun _ => 0) a) := st2
        refine (seq (rel := R (gl X)) (q := qc) (m := mc) s0 h2).mono fun V3 H3 ⟨u, env3, Z3, c3, cu, cx, e, at3, st3, h3⟩ => ?_
        cases u with
        | int k =>
          refine ⟨j, k, ej, int_of at3.rl, ?_⟩
          exact fin0 st3 (fun x => by show c3 x ≤ (c3 x + cx x) + 0; omega) at3.sr (fun z x o y => at3.q1 (Bool.and_eq_true_iff.mp z).2 x o (hq' z x o y)) R_bl h3
        | _ => exact h3.elim
      · rw [if_neg hf] at h2 ⊢
        exact fin0 st hl sr hq' R_bl h2
    | _ => exact h2.elim
  | _ => exact h2.elim
theorem v_chain {op op' : CmpOp} {f f' : Int → Int → Bool} (ho : OpR X (compareOp op) (rI0 fun i j => .bl (f i j))) (ho' : OpR X (compareOp op') (rI0 fun i j => .bl (f' i j))) (ha : VE X W qa ma a da) (hb : VE X W qb mb b db) (hc : VE X W qc mc c' dc)
    (hm : ma = false ∨ qb = true := by first | exact .inl rfl | exact .inr rfl) (h1 : lastMarks [op, op'] [b, c'] = false := by rfl) : VE X W (qa && qb && qc) false (.Compare a [op, op'] [b, c'] pos) (dChain f f' da db dc) := by
  exact ⟨PE.weak (pe_chain ho ho' ha.pe hb.pe hc.pe h1) fun σ H Q h => rd_chain hm h⟩
/-- a[b], what is there is looked at -/
theorem v_ixP (ha : VE X W qa ma a da) (hb : VE X W qb mb b db) (hs : PlainIx b := by intro _ _; rfl) (hm : ma = false ∨ qb = true := by first | exact .inl rfl | exact .inr rfl) : VE X W (qa && qb) true (.Subscript a b pos) (dBin gIx da db) := by
  refine ⟨PE.weak (pe_ix (ix_list.or ix_tup) ha.pe hb.pe hs) fun σ H Q h => ?_⟩
  refine run2 (fun _ z => z) (fun _ _ z => z) hm h fun {Z c s V U H2 Z2 c2 cv cw v w env2} sr rv rw st hl hq h2 => ?_
  obtain ⟨res, e2, h3⟩ := lift_some h2
  have done : ∀ {y : L2.V} {cx : Cnt}, R (gl X) H2 Z2 res y cx → Q y H2 := fun {y cx} ry => h3 y H2 Z2 c2 cx (fun _ => 0) sr ry (fun z => nomatch z) (st.drop hl) hq
  unfold gIx at e2
  split at e2
  · rename_i o xs i
    obtain ⟨l, ys, dd, rfl, hh, _, rs, _⟩ := lst_of rv
    obtain ⟨y, cx, ey, ry⟩ := atI_rel rs e2
    exact .inl ⟨l, ys, i, y, rfl, int_of rw, .inl (.inl hh), ey, done ry⟩
  · rename_i xs i
    obtain ⟨l, ys, rfl, hh, rs⟩ := tup_of rv
    obtain ⟨y, cx, ey, ry⟩ := atI_rel rs e2
    exact .inr ⟨l, ys, i, y, rfl, int_of rw, hh, ey, done ry⟩
  · rename_i ns i
    have rv' := rv
    simp only [R] at rv'
    obtain ⟨l, rfl, hh, _⟩ := rv'
    obtain ⟨n, e3, rfl⟩ := Option.map_eq_some_iff.mp e2
    refine .inl ⟨l, _, i, .int n, rfl, int_of rw, hh.sq, ?_, done R_int⟩
    unfold atI at e3 ⊢
    obtain ⟨j, e4, e5⟩ := Option.bind_eq_some_iff.mp e3
    rw [List.length_map, e4]
    show (ns.map V.int)[j]? = _
    rw [List.getElem?_map, e5]
    rfl
  · cases e2
/-- something that nobody owns, looked at or not -/
theorem v_own (ha : VE X W q m a d) : VE X W q false a (dUn noOwn d) := by
  refine ⟨PE.weak ha.pe fun σ H Q h => ?_⟩
  refine run1 (fun _ z => z) h fun {Z c V H2 Z2 c2 cv cx v env env2} a e h2 => ?_
  obtain ⟨res, e2, h3⟩ := lift_some h2
  unfold noOwn at e2
  split at e2
  · cases e2
  · rename_i o
    cases e2
    exact fin0 a.st (fun _ => Nat.le_add_right _ _) a.sr a.q1 (R_zero (by simpa using o) a.rl) h3
theorem v_ponone : VO X W true none dNoPart := by
  refine ⟨⟨fun pins s σ H Q I h => po_none.run pins s σ H Q I ?_⟩⟩
  obtain ⟨Z, env, c, sr, gd, h⟩ := h
  exact h none H Z c (fun _ => 0) (fun _ => 0) sr ⟨rfl, fun _ => rfl⟩ (fun _ _ => rfl) (Step.refl gd) fun _ _ _ e => e
theorem v_posome (ha : VE X W q m a d) : VO X W q (some a) (dPart d) := by
  refine ⟨⟨fun pins s σ H Q I h => (po_some ha.pe).run pins s σ H Q I ?_⟩⟩
  refine run1 (fun _ z => z) h fun {Z c V H2 Z2 c2 cv cx v env env2} a e h2 => ?_
  cases v with
  | int i => exact ⟨i, int_of a.rl, h2 (some i) H2 Z2 c2 (fun _ => 0) (fun _ => 0) a.sr ⟨rfl, fun _ => rfl⟩ (fun _ _ => rfl) (a.st.drop fun _ => Nat.le_add_right _ _) a.q1⟩
  | _ => exact h2.elim
theorem cut_whole {α : Type} {xs : List α} {lo hi : Option Int} (h : HT.sIx xs.length 0 lo = 0 ∧ HT.sIx xs.length xs.length hi = xs.length) : cutL xs lo hi = xs := by
  unfold cutL
  rw [h.1, h.2, List.drop_zero, Nat.sub_zero, List.take_length]
/-- a[lo:hi] -/
theorem v_slice {ql qh : Bool} (ha : VE X W qa ma a da) (hl : VO X W ql lo dl) (hh : VO X W qh hi dh) (hm : ma = false ∨ (ql && qh) = true := by first | exact .inl rfl | exact .inr rfl) :
    VE X W (qa && ql && qh) false (.Subscript a (.Slice lo hi none p2) pos) (dSl da dl dh) := by
  refine ⟨PE.weak (pe_slice (sl_list.or sl_tupA) ha.pe hl.po hh.po) fun σ H Q h => ?_⟩
  refine run1 (fun _ z => z) h fun {Z c V H2 Z2 c2 cv cx v env env2} a2 e h2 => ?_
  refine ⟨Z2, env2, c2, a2.sr, a2.st.good.comm, ?_⟩
  refine (seq (rel := relO) (q := ql) (m := false) a2.st h2).mono fun o3 H3 ⟨o, env3, Z3, c3, cu, cy, e3, a3, st3, h3⟩ => ?_
  refine ⟨Z3, env3, c3, a3.sr, a3.st.good.comm, ?_⟩
  have st3' : Step H Z c H3 Z3 (fun x => c3 x + (cy x + cx x)) := st3.eq fun x => by show c3 x + (cy x + cx x) = (c3 x + cy x) + cx x; omega
  refine (seq (rel := relO) (q := qh) (m := false) st3' h3).mono fun o4 H4 ⟨o', env4, Z4, c4, cu4, cy4, e4, a4, st4, h4⟩ => ?_
  obtain ⟨eo, _⟩ := a3.rl
  obtain ⟨eo', _⟩ := a4.rl
  subst eo eo'
  obtain ⟨res, e5, h5⟩ := lift_some h4
  have rv : R (gl X) H4 Z4 v V cv := by
    have r3 := a2.stay (R_ok _) a3 (hm.imp id fun z => (Bool.and_eq_true_iff.mp z).1)
    rcases hm with hm | hm
    · refine R_kept _ _ _ (Kept.less (c := fun x => cy x + cx x) (a4.st.kept st3'.good) fun x n => ?_) r3
      rw [← a2.m0 hm x] at n
      show cy x + cx x ≠ 0
      omega
    · exact R_kept _ _ _ ((a4.q1 (Bool.and_eq_true_iff.mp hm).2).kept a4.st.zin) r3
  have hq : (qa && ql && qh) = true → Same' H H4 := fun z => by
    simp only [Bool.and_eq_true] at z
    exact fun x o y => a4.q1 z.2 x o (a3.q1 z.1.2 x o (a2.q1 z.1.1 x o y))
  have hle : ∀ x, c4 x ≤ (c4 x + cy4 x) + (cy x + cx x) := fun x => by omega
  have hz := st4.good.zd
  cases v with
  | lst o0 xs0 =>
    unfold gSl at e5
    dsimp only at e5
    split at e5
    · cases e5
    · rename_i o1
      cases e5
      obtain ⟨l, ys, dd, rfl, hh, _, rs, _⟩ := lst_of rv
      refine .inl ⟨l, ys, rfl, .inl (.inl hh), fun p hp => ?_⟩
      obtain ⟨n, rn⟩ := new_lst hp hz (Rs_cut o3 o4 (Rs_zero (by simpa using o1) rs))
      exact fin st4 hle a4.sr hq n rn h5
  | tup xs0 =>
    unfold gSl at e5
    dsimp only at e5
    split at e5
    · cases e5
    · rename_i o1
      cases e5
      obtain ⟨l, ys, rfl, hh, rs⟩ := tup_of rv
      have rs := Rs_zero (by simpa using o1) rs
      refine .inr ⟨l, ys, rfl, hh, fun hw => ?_, fun hw p hp => ?_⟩
      · rw [Rs_len rs] at hw
        rw [cut_whole hw] at h5
        exact fin0 st4 hle a4.sr hq (R_tup hh rs) h5
      · obtain ⟨n, rn⟩ := new_tup hp hz (Rs_cut o3 o4 rs)
        exact fin st4 hle a4.sr hq n rn h5
  | scr ns =>
    cases e5
    simp only [R] at rv
    obtain ⟨l, rfl, hh, _⟩ := rv
    refine .inl ⟨l, _, rfl, hh.sq, fun p hp => ?_⟩
    have e6 : cutV (ns.map V.int) o3 o4 = (cutL ns o3 o4).map V.int := by
      unfold cutV cutL
      rw [List.length_map, List.map_take, List.map_drop]
    rw [e6]
    obtain ⟨n, rn⟩ := new_lst hp hz (Rs_ints (cutL ns o3 o4))
    exact fin st4 hle a4.sr hq n rn h5
  | _ => cases e5
/-! list(range(..)), tuple(range(..)) -/
def gRgL : Val → Option Val
  | .int j => if decide (0 ≤ j ∧ j ≤ 16777216) then some (.lst true ((List.range j.toNat).map fun k : Nat => .int (k : Int))) else none
  | _ => none
def gRgT : Val → Option Val
  | .int j => if decide (0 ≤ j ∧ j ≤ 16777216) then some (.tup ((List.range j.toNat).map fun k : Nat => .int (k : Int))) else none
  | _ => none
theorem rg_ints (j : Int) : (rgV 0 j) = ((List.range j.toNat).map fun k : Nat => (k : Int)).map V.int := by
  unfold rgV
  rw [List.map_map, Int.sub_zero]
  apply List.map_congr_left
  intro k _
  show V.int (0 + (k : Int)) = _
  rw [Int.zero_add]; rfl
theorem v_listRg {p p3 pos2 : Pos} (hc : X.calm = true) (hg : L2.Gl X "list") (hm : X.mg "list" = none) (hg2 : L2.Gl X "range") (hm2 : X.mg "range" = none) (ha : VE X W q m a d)
    (hs : starEach [a] X.env = (false, eval a X.env) :: starEach [] X.env := by rfl) : VE X W q false (.Call (.Name "list" p) [.Call (.Name "range" p3) [a] [] pos2] [] pos) (dUn gRgL d) := by
  refine ⟨PE.weak (pe_listRg hc hg hm (prg_1 hg2 hm2 ha.pe hs)) fun σ H Q h => ?_⟩
  refine run1 (fun _ z => z) h fun {Z c V H2 Z2 c2 cv cx v env env2} a e h2 => ?_
  obtain ⟨res, e2, h3⟩ := lift_some h2
  cases v with
  | int j =>
    unfold gRgL at e2
    dsimp only at e2
    split at e2
    · rename_i hj
      have hj := of_decide_eq_true hj
      cases e2
      refine ⟨j, int_of a.rl, .of_le (by omega) (by omega) (by omega) (by omega), fun p hp => ?_⟩
      rw [rg_ints]
      obtain ⟨n, rn⟩ := new_lst hp a.st.good.zd (Rs_ints (g := gl X) ((List.range j.toNat).map fun k : Nat => (k : Int)))
      rw [show (List.range j.toNat).map (fun k : Nat => Val.int (k : Int)) = ((List.range j.toNat).map fun k : Nat => (k : Int)).map Val.int from by rw [List.map_map]; rfl] at h3
      exact fin a.st (fun _ => Nat.le_add_right _ _) a.sr a.q1 n rn h3
    · cases e2
  | _ => cases e2
theorem v_tupRg {p p3 pos2 : Pos} (hc : X.calm = true) (hg : L2.Gl X "tuple") (hm : X.mg "tuple" = none) (hg2 : L2.Gl X "range") (hm2 : X.mg "range" = none) (ha : VE X W q m a d)
    (hs : starEach [a] X.env = (false, eval a X.env) :: starEach [] X.env := by rfl) : VE X W q false (.Call (.Name "tuple" p) [.Call (.Name "range" p3) [a] [] pos2] [] pos) (dUn gRgT d) := by
  refine ⟨PE.weak (pe_tupRg hc hg hm (prg_1 hg2 hm2 ha.pe hs)) fun σ H Q h => ?_⟩
  refine run1 (fun _ z => z) h fun {Z c V H2 Z2 c2 cv cx v env env2} a e h2 => ?_
  obtain ⟨res, e2, h3⟩ := lift_some h2
  cases v with
  | int j =>
    unfold gRgT at e2
    dsimp only at e2
    split at e2
    · rename_i hj
      have hj := of_decide_eq_true hj
      cases e2
      refine ⟨j, int_of a.rl, .of_le (by omega) (by omega) (by omega) (by omega), fun p hp => ?_⟩
      rw [rg_ints]
      obtain ⟨n, rn⟩ := new_tup hp a.st.good.zd (Rs_ints (g := gl X) ((List.range j.toNat).map fun k : Nat => (k : Int)))
      rw [show (List.range j.toNat).map (fun k : Nat => Val.int (k : Int)) = ((List.range j.toNat).map fun k : Nat => (k : Int)).map Val.int from by rw [List.map_map]; rfl] at h3
      exact fin a.st (fun _ => Nat.le_add_right _ _) a.sr a.q1 n rn h3
    · cases e2
  | _ => cases e2
/-! what is never reached -/
def dNever : DS := fun _ => none
theorem v_never {pr : List Nat} {st : Stmt} : VS X W pr st dNever := ⟨PS.weak ps_never fun D σ H ⟨_, _, _, _, _, h⟩ => h.elim⟩
end
end PV

namespace PV
open PySem PySem.Spec PyProof.Rows L2
/-! ### places, and what is changed there -/
def getP : Val → List Val → Option Val
  | v, [] => some v
  | .lst _ xs, .int i :: r => (atI xs i).bind (getP · r)
  | _, _ => none
def stepV (H : Hp) (x : V) (k : Val) : Option V := match x, k with
  | .ref a, .int i => match H a with
    | some (.lst ys) => atI ys i
    | _ => none
  | _, _ => none
def walkV (H : Hp) : V → List Val → Option V
  | x, [] => some x
  | x, k :: r => (stepV H x k).bind (walkV H · r)
theorem stepV_lst {H : Hp} {a : Addr} {ys : List V} {i : Int} (h : H a = some (.lst ys)) : stepV H (.ref a) (.int i) = atI ys i := by
  unfold stepV
  simp only [h]
/-- the list at a place is changed by f -/
def modP (f : List Val → Option (List Val × Val)) : Val → List Val → Option (Val × Val)
  | .lst true xs, [] => (f xs).map fun r => (.lst true r.1, r.2)
  | .lst true xs, .int i :: r => match ixN xs.length i with
    | some j => match xs[j]? with
      | some w => (modP f w r).map fun q => (.lst true (xs.set j q.1), q.2)
      | none => none
    | none => none
  | _, _ => none
section
variable {g : Gl} {H : Hp} {Z : AP}
theorem atI_some {α : Type} {xs : List α} {i : Int} {x : α} (h : atI xs i = some x) : ∃ j, ixN xs.length i = some j ∧ xs[j]? = some x := by
  unfold atI at h
  exact Option.bind_eq_some_iff.mp h
theorem getP_ok : ∀ (p : List Val) (v w : Val) (x : V) (c : Cnt), R g H Z v x c → getP v p = some w → ∃ y cy, walkV H x p = some y ∧ R g H Z w y cy
  | [], v, w, x, c, r, e => by
    unfold getP at e
    cases e
    exact ⟨x, c, rfl, r⟩
  | k :: p, v, w, x, c, r, e => by
    unfold getP at e
    split at e
    · rename_i h; cases h
    · rename_i o xs i r' h
      cases h
      obtain ⟨a, ys, d, rfl, h1, _, rs, _⟩ := lst_of r
      obtain ⟨u, e1, e2⟩ := Option.bind_eq_some_iff.mp e
      obtain ⟨y, cx, ey, ry⟩ := atI_rel rs e1
      obtain ⟨z, cz, ez, rz⟩ := getP_ok p u w y cx ry e2
      refine ⟨z, cz, ?_, rz⟩
      unfold walkV
      rw [stepV_lst h1, ey]
      exact ez
    · cases e
theorem walk_same {H' : Hp} (h : Same' H H') : ∀ (p : List Val) (x y : V), walkV H x p = some y → walkV H' x p = some y
  | [], x, y, e => e
  | k :: p, x, y, e => by
    unfold walkV at e ⊢
    obtain ⟨z, e1, e2⟩ := Option.bind_eq_some_iff.mp e
    refine Option.bind_eq_some_iff.mpr ⟨z, ?_, walk_same h p z y e2⟩
    unfold stepV at e1 ⊢
    split at e1
    · rename_i a i
      split at e1
      · rename_i ys hy
        rw [h _ _ hy]
        exact e1
      · cases e1
    · cases e1
theorem mod_ok {f : List Val → Option (List Val × Val)} : ∀ (p : List Val) (v : Val) (x : V) (c : Cnt) (v' b : Val), R g H Z v x c → modP f v p = some (v', b) →
    ∃ l xs ys d cr xs', walkV H x p = some (.ref l) ∧ H l = some (.lst ys) ∧ Rs g H Z xs ys d ∧ f xs = some (xs', b) ∧ (∀ a, c a = d a + one l a + cr a) ∧
      ∀ (H' : Hp) (Z' : AP) (ys' : List V) (d' : Cnt), Kept H Z cr H' Z' → H' l = some (.lst ys') → Rs g H' Z' xs' ys' d' → R g H' Z' v' x (fun a => d' a + one l a + cr a)
  | [], v, x, c, v', b, r, e => by
    unfold modP at e
    split at e
    · rename_i xs _
      obtain ⟨q, e1, e2⟩ := Option.map_eq_some_iff.mp e
      obtain ⟨xs', b'⟩ := q
      cases e2
      obtain ⟨l, ys, d, rfl, h1, _, rs, ho⟩ := lst_of r
      refine ⟨l, xs, ys, d, fun _ => 0, xs', rfl, h1, rs, e1, fun a => by rw [ho a, if_pos rfl]; rfl, fun H' Z' ys' d' k h2 r2 => ?_⟩
      simp only [R]
      exact ⟨l, ys', d', rfl, h2, (fun q => nomatch q), r2, fun a => by show d' a + one l a + 0 = d' a + one l a; rfl⟩
    · rename_i h; cases h
    · cases e
  | k :: p, v, x, c, v', b, r, e => by
    unfold modP at e
    split at e
    · rename_i h; cases h
    · rename_i xs i r' h
      cases h
      split at e
      · rename_i j hj
        split at e
        · rename_i w hw
          obtain ⟨q, e1, e2⟩ := Option.map_eq_some_iff.mp e
          obtain ⟨w', b'⟩ := q
          cases e2
          obtain ⟨a, ys, d, rfl, h1, _, rs, ho⟩ := lst_of r
          obtain ⟨y, cx, cr1, ey, ry, ec, kk⟩ := Rs_at rs hw
          obtain ⟨l, xs2, ys2, d2, cr2, xs2', w1, w2, w3, w4, w5, w6⟩ := mod_ok p w y cx w' _ ry e1
          refine ⟨l, xs2, ys2, d2, fun z => cr2 z + (cr1 z + one a z), xs2', ?_, w2, w3, w4, fun z => ?_, fun H' Z' ys' d' kp h2 r2 => ?_⟩
          · unfold walkV
            rw [stepV_lst h1]
            have : atI ys i = some y := by unfold atI; rw [Rs_len rs, hj]; exact ey
            rw [this]
            exact w1
          · have := ho z; have := ec z; have := w5 z
            rw [if_pos rfl] at *
            show c z = d2 z + one l z + (cr2 z + (cr1 z + one a z))
            omega
          · have r3 := w6 H' Z' ys' d' (kp.less fun z n => by show cr2 z + (cr1 z + one a z) ≠ 0; omega) h2 r2
            have r4 := kk (d := fun z => (d' z + one l z + cr2 z) + cr1 z) (kp.less fun z n => by show cr2 z + (cr1 z + one a z) ≠ 0; omega) r3 fun _ => rfl
            have e5 : ys.set j y = ys := by
              obtain ⟨hi, e⟩ := List.getElem?_eq_some_iff.mp ey
              rw [← e, List.set_getElem_self]
            rw [e5] at r4
            have h6 : H' a = some (.lst ys) := kp.1 a _ h1 (.inl (by show cr2 a + (cr1 a + one a a) ≠ 0; rw [one_same]; omega))
            simp only [R]
            exact ⟨a, ys, _, rfl, h6, (fun q => nomatch q), r4, fun z => by show d' z + one l z + (cr2 z + (cr1 z + one a z)) = d' z + one l z + cr2 z + cr1 z + one a z; omega⟩
        · cases e
      · cases e
    · cases e
/-- the same within a frame -/
theorem mod_env {f : List Val → Option (List Val × Val)} {σ : L2.St} {env : Env} {c u : Cnt} {i : Nat} {v v' b : Val} {p : List Val} (sr : SR g H Z σ env c) (gd : Good H Z (fun a => c a + u a)) (e : getv env i = some v) (m : modP f v p = some (v', b)) :
    ∃ x l xs ys d xs', σ[i]? = some (some x) ∧ walkV H x p = some (.ref l) ∧ H l = some (.lst ys) ∧ Rs g H Z xs ys d ∧ f xs = some (xs', b) ∧ d l = 0 ∧ u l = 0 ∧ (∀ a, d a ≤ c a) ∧ (∀ o : HO, Mut (some o) → Step H Z (fun a => c a + u a) (upd H l o) Z (fun a => c a + u a)) ∧ (∀ o cc, cc l = 0 → Kept H Z cc (upd H l o) Z) ∧
      ∀ (ys' : List V) (d' : Cnt), Rs g (upd H l (.lst ys')) Z xs' ys' d' → ∃ c', SR g (upd H l (.lst ys')) Z σ (env.set i v') c' ∧ ∀ a, c' a + d a = c a + d' a := by
  obtain ⟨g1, g2⟩ := getv_some e
  obtain ⟨x, cx, cr0, es, rx, ec, k⟩ := sr.at g1 g2
  obtain ⟨l, xs, ys, d, cr, xs', w1, w2, w3, w4, w5, w6⟩ := mod_ok p v x cx v' b rx m
  have hl : c l + u l ≤ 1 := (gd l).1
  have e1 := ec l
  have e2 := w5 l
  rw [one_same] at e2
  have gt : (fun a => c a + u a) l ≠ 0 := by show c l + u l ≠ 0; omega
  refine ⟨x, l, xs, ys, d, xs', es, w1, w2, w3, w4, by omega, by omega, fun a => by have := ec a; have := w5 a; omega, fun o mo => step_upd gd gt mo, fun o cc hc => kept_upd gd gt hc, fun ys' d' r' => ?_⟩
  have r3 := w6 (upd H l (.lst ys')) Z ys' d' (kept_upd gd gt (by omega)) upd_same r'
  refine ⟨fun a => (d' a + one l a + cr a) + cr0 a, k (kept_upd gd gt (by omega)) r3 fun _ => rfl, fun a => ?_⟩
  have := ec a; have := w5 a
  show (d' a + one l a + cr a) + cr0 a + d a = c a + d' a
  omega
end
/-! the place as an expression -/
def relP (g : Gl) (σ : L2.St) (i : Nat) : Rel (List Val) V := fun H _ p V c => (∃ x, σ[i]? = some (some x) ∧ walkV H x p = some V) ∧ ∀ a, c a = 0
abbrev DP := Env → M (List Val)
def tP (g : Gl) (W : WX) (q : Bool) (i : Nat) (d : DP) : TE := fun σ H Q => ∃ Z env c, SR g H Z σ env c ∧ Good H Z c ∧ Post g W (relP g σ i) σ q false H Z c (d env) Q
structure VP (X : Cx) (W : WX) (q z : Bool) (i : Nat) (e : Expr) (d : DP) : Prop where
  pe : PE X e (tP (gl X) W q i d)
  z0 : z = true → ∀ env p e', d env = ok p e' → p = []
def dP0 (i : Nat) : DP := fun env => bnd (lift (getv env i) env) fun _ e => ok [] e
/-- the place i, then a number in it -/
def dPS (i : Nat) (dp : DP) (dk : DE) : DP := fun env => bnd (dp env) fun p e1 => bnd (dk e1) fun k e2 => lift ((getv e2 i).bind fun v => (getP v (p ++ [k])).bind fun _ => some (p ++ [k])) e2
theorem getP_snoc : ∀ (p : List Val) (v w : Val) (k : Val), getP v (p ++ [k]) = some w → ∃ u, getP v p = some u ∧ getP u [k] = some w
  | [], v, w, k, h => ⟨v, by unfold getP; rfl, h⟩
  | k0 :: p, v, w, k, h => by
    rw [List.cons_append] at h
    unfold getP at h
    split at h
    · rename_i h0; cases h0
    · rename_i o xs i r h0
      cases h0
      obtain ⟨u, e1, e2⟩ := Option.bind_eq_some_iff.mp h
      obtain ⟨u2, e3, e4⟩ := getP_snoc p u w k e2
      refine ⟨u2, ?_, e4⟩
      unfold getP
      rw [e1]
      exact e3
    · cases h
theorem walk_snoc {H : Hp} : ∀ (p : List Val) (x y z : V) (k : Val), walkV H x p = some y → stepV H y k = some z → walkV H x (p ++ [k]) = some z
  | [], x, y, z, k, h, h2 => by
    cases h
    show (stepV H x k).bind _ = _
    rw [h2]; rfl
  | k0 :: p, x, y, z, k, h, h2 => by
    rw [List.cons_append]
    unfold walkV at h ⊢
    obtain ⟨u, e1, e2⟩ := Option.bind_eq_some_iff.mp h
    rw [e1]
    exact walk_snoc p u y z k e2 h2
section
variable {X : Cx} {W : WX} {a b e : Expr} {es : List Expr} {q m qa qb ma mb z : Bool} {da db de : DE} {dr : DA} {dp : DP} {dk : DE} {i : Nat} {pos apos cpos : Pos}
theorem v_p0 {x : Str} (hN : X.N[i]? = some x) (hv : Vis X.env.scope x) (hd : (x == ("__debug__" : Str)) = false := by decide) (hcd : (x == ("__classdict__" : Str)) = false := by decide) : VP X W true true i (.Name x pos) (dP0 i) := by
  refine ⟨PE.weak (pe_var hN hv hd hcd) fun σ H Q h => ?_, fun _ env p e' h => ?_⟩
  · obtain ⟨Z, env, c, sr, gd, h⟩ := h
    cases e : getv env i with
    | none => simp only [dP0, e, lift] at h; exact h.elim
    | some v =>
      simp only [dP0, e, lift] at h
      obtain ⟨e1, e2⟩ := getv_some e
      obtain ⟨y, cx, cr, es, ry, ec, _⟩ := sr.at e1 e2
      exact ⟨y, es, h y H Z c (fun _ => 0) (fun _ => 0) sr ⟨⟨y, es, rfl⟩, fun _ => rfl⟩ (fun _ _ => rfl) (Step.refl gd) fun _ _ _ e => e⟩
  · unfold dP0 at h
    cases e : getv env i with
    | none => rw [e] at h; cases h
    | some v => rw [e] at h; cases h; rfl
theorem runP {α β : Type} {rel' : Rel α β} {te : TE} {k : List Val → Env → M α} {σ : L2.St} {H : Hp} {Q : β → Hp → Prop} {q' m' : Bool} (ha : ∀ Q, tP (gl X) W qa i dp σ H Q → te σ H Q) {K : VK}
    (h : ∃ Z env c, SR (gl X) H Z σ env c ∧ Good H Z c ∧ Post (gl X) W rel' σ q' m' H Z c (bnd (dp env) k) Q)
    (hk : ∀ {Z c V H2 Z2 c2 cv cx p env env2}, At (gl X) (relP (gl X) σ i) σ qa false H Z c p env2 V H2 Z2 c2 cv cx → dp env = ok p env2 → Post (gl X) W rel' σ q' m' H Z c (k p env2) Q → K V H2) : te σ H K := by
  obtain ⟨Z, env, c, sr, gd, h⟩ := h
  refine ha _ ⟨Z, env, c, sr, gd, ?_⟩
  have s0 : Step H Z c H Z (fun a => c a + (fun _ => 0) a) := Step.refl gd
  exact (seq (rel := relP (gl X) σ i) (q := qa) (m := false) s0 h).mono fun V H2 ⟨v, env2, Z2, c2, cv, cx, e, a, st, h2⟩ => hk a e h2
theorem v_pS (ha : VP X W qa z i a dp) (hb : VE X W true mb b dk) (hs : PlainIx b := by intro _ _; rfl) : VP X W qa false i (.Subscript a b pos) (dPS i dp dk) := by
  refine ⟨PE.weak (pe_ix ix_list ha.pe hb.pe hs) fun σ H Q h => ?_, fun q => nomatch q⟩
  refine runP (fun _ z => z) h fun {Z c V H2 Z2 c2 cv cx p env env2} a e h2 => ?_
  refine ⟨Z2, env2, c2, a.sr, a.st.good.comm, ?_⟩
  refine (seq (rel := R (gl X)) (q := true) (m := mb) a.st h2).mono fun U H3 ⟨w, env3, Z3, c3, cw, cy, e2, b, st, h3⟩ => ?_
  obtain ⟨res, e3, h4⟩ := lift_some h3
  obtain ⟨v, e4, e5⟩ := Option.bind_eq_some_iff.mp e3
  obtain ⟨w2, e6, e7⟩ := Option.bind_eq_some_iff.mp e5
  cases e7
  obtain ⟨⟨x, es, ew⟩, zc⟩ := a.rl
  obtain ⟨g1, g2⟩ := getv_some e4
  obtain ⟨y, cx', cr, es', ry, ec, _⟩ := b.sr.at g1 g2
  rw [es] at es'
  have e8 : x = y := Option.some.inj (Option.some.inj es')
  subst e8
  obtain ⟨u, e9, e10⟩ := getP_snoc p v w2 w e6
  obtain ⟨y2, cy2, ey2, ry2⟩ := getP_ok p v u x cx' ry e9
  have ew3 := walk_same (b.q1 rfl) p x V ew
  rw [ew3] at ey2
  cases ey2
  obtain ⟨y3, cy3, ey3, ry3⟩ := getP_ok [w] u w2 V cy2 ry2 e10
  unfold getP at e10
  split at e10
  · rename_i h; cases h
  · rename_i o xs k r h
    cases h
    obtain ⟨l, ys, dd, rfl, h1, _, rs, _⟩ := lst_of ry2
    have e11 : stepV H3 (.ref l) (.int k) = some y3 := by
      unfold walkV at ey3
      obtain ⟨y4, e12, e13⟩ := Option.bind_eq_some_iff.mp ey3
      cases e13
      exact e12
    have e12 := e11
    rw [stepV_lst h1] at e12
    refine ⟨l, ys, k, y3, rfl, int_of b.rl, .inl (.inl h1), e12, ?_⟩
    refine h4 y3 H3 Z3 c3 (fun _ => 0) (fun _ => 0) b.sr ⟨⟨x, es, walk_snoc p x (.ref l) y3 (.int k) ew3 e11⟩, fun _ => rfl⟩ (fun _ _ => rfl) (st.drop fun x => by show c3 x + 0 ≤ (c3 x + cy x) + cx x; omega) fun q1 x o y => b.q1 rfl x o (a.q1 q1 x o y)
  · cases e10
/-! methods that change a list -/
def MutR (g : Gl) (r : V → List V → Hp → VK → Prop) (F : List Val → List Val → Option (List Val × Val)) : Prop := ∀ (xs vs xs' : List Val) (b : Val), F vs xs = some (xs', b) →
  ∀ (H : Hp) (Z : AP) (l : Addr) (ys vs' : List V) (d cv : Cnt), H l = some (.lst ys) → Rs g H Z xs ys d → Rs g H Z vs vs' cv → d l = 0 → cv l = 0 →
    ∃ ys' bV, (∀ (H' : Hp) (Z' : AP), Kept H Z (fun a => d a + cv a) H' Z' → ∃ d' cb, Rs g H' Z' xs' ys' d' ∧ R g H' Z' b bV cb ∧ ∀ a, d' a + cb a ≤ d a + cv a) ∧
      ∀ Q, Q bV (upd H l (.lst ys')) → r (.ref l) vs' H Q
def modE (f : List Val → Option (List Val × Val)) (i : Nat) (p : List Val) (e : Env) : M Val := match getv e i with
  | some v => match modP f v p with
    | some (v', b) => ok b (e.set i v')
    | none => none
  | none => none
def isL (e : Env) (i : Nat) (p : List Val) : Option Unit := match (getv e i).bind (getP · p) with
  | some (.lst _ _) => some ()
  | _ => none
def dMut (F : List Val → List Val → Option (List Val × Val)) (i : Nat) (dp : DP) (dr : DA) : DE := fun env => bnd (dp env) fun p e1 => bnd (lift (isL e1 i p) e1) fun _ e1 => bnd (dr e1) fun vs e2 => modE (F vs) i p e2
theorem tyV_lst {K : PySem.W.Frag} {H : Hp} {l : Addr} {ys : List V} (h : H l = some (.lst ys)) : tyV K "list" (.ref l) H := .inl ⟨rfl, ys, .inl (.inl h)⟩
theorem isL_ok {g : Gl} {σ : L2.St} {H : Hp} {Z : AP} {env : Env} {c : Cnt} {x V : V} {p : List Val} (h : isL env i p = some ()) (sr : SR g H Z σ env c) (es : σ[i]? = some (some x)) (ew : walkV H x p = some V) : tyV g.K "list" V H := by
  unfold isL at h
  split at h
  · rename_i o xs e
    obtain ⟨v, e1, e2⟩ := Option.bind_eq_some_iff.mp e
    obtain ⟨g1, g2⟩ := getv_some e1
    obtain ⟨y, cx', cr, es', ry, ec, _⟩ := sr.at g1 g2
    rw [es] at es'
    have e8 : x = y := Option.some.inj (Option.some.inj es')
    subst e8
    obtain ⟨y2, cy2, ey2, ry2⟩ := getP_ok p v _ x cx' ry e2
    rw [ew] at ey2
    cases ey2
    obtain ⟨l, ys, dd, rfl, h1, _⟩ := lst_of ry2
    exact tyV_lst h1
  · cases h
/-- the change itself -/
theorem mod_fin {g : Gl} {W : WX} {r : V → List V → Hp → VK → Prop} {F : List Val → List Val → Option (List Val × Val)} (hF : MutR g r F) {σ : L2.St} {H H3 : Hp} {Z Z3 : AP} {c c3 cw : Cnt} {env3 : Env} {x V : V} {p w : List Val} {U : List L2.V} {Q : VK} {m : Bool}
    (st' : Step H Z c H3 Z3 (fun a => c3 a + cw a)) (sr : SR g H3 Z3 σ env3 c3) (rw' : Rs g H3 Z3 w U cw) (es1 : σ[i]? = some (some x)) (ew3 : walkV H3 x p = some V) (h3 : Post g W (R g) σ false m H Z c (modE (F w) i p env3) Q) : r V U H3 Q := by
  unfold modE at h3
  cases eg : getv env3 i with
  | none => rw [eg] at h3; exact h3.elim
  | some v =>
    rw [eg] at h3
    dsimp only at h3
    cases em : modP (F w) v p with
    | none => rw [em] at h3; exact h3.elim
    | some r2 =>
      obtain ⟨v', b⟩ := r2
      rw [em] at h3
      dsimp only at h3
      obtain ⟨x', l, xs, ys, d, xs', es2, w1, w2, w3, w4, dl, ul, dle, stp, kpt, fin⟩ := mod_env (f := F w) sr st'.good eg em
      rw [es1] at es2
      have e8 : x = x' := Option.some.inj (Option.some.inj es2)
      subst e8
      rw [w1] at ew3
      cases ew3
      obtain ⟨ys', bV, g1, g2⟩ := hF xs w xs' b w4 H3 Z3 l ys U d cw w2 w3 rw' dl ul
      refine g2 Q ?_
      obtain ⟨d', cb, r1, r2, le⟩ := g1 (upd H3 l (.lst ys')) Z3 (kpt _ _ (by rw [dl, ul]))
      obtain ⟨c', sr', ec'⟩ := fin ys' d' r1
      refine h3 bV _ Z3 c' cb cb sr' r2 (fun _ _ => rfl) ((st'.trans (stp (.lst ys') trivial)).drop fun a => ?_) (fun q => nomatch q)
      have := ec' a; have := le a; have := dle a
      show c' a + cb a ≤ c3 a + cw a
      omega
theorem lift_some2 {α β γ : Type} {g : Gl} {rel : Rel α β} {σ : L2.St} {H : Hp} {Z : AP} {t : Cnt} {o : Option γ} {k : γ → Env → M α} {env : Env} {Q : β → Hp → Prop} (h : Post g W rel σ q m H Z t (bnd (lift o env) k) Q) : ∃ a, o = some a ∧ Post g W rel σ q m H Z t (k a env) Q := by
  cases o with
  | none => exact h.elim
  | some a => exact ⟨a, rfl, h⟩
theorem v_mut {id : String} {name : Str} {r : V → List V → Hp → VK → Prop} {F : List Val → List Val → Option (List Val × Val)} (slot : Slot "list" name id) (hty : typeOf (.builtin id) = pure (.type "method_descriptor")) (hmt : MtR X id r) (hF : MutR (gl X) r F)
    (ha : VP X W qa z i a dp) (hr : VA X W qb false (e :: es) dr) (hm : z = true ∨ qb = true := by first | exact .inl rfl | exact .inr rfl)
    (hbase : attributeBase a name X.env (eval a X.env) = eval a X.env := by rfl)
    (hfew : ((backTo cpos (starEach (e :: es) X.env)).all (fun x => !x.1) && (backToKw cpos (keywordEach [] X.env)).all (fun x => x.1.isSome)
      && decide ((e :: es).length + ([] : List Keyword).length + (if ([] : List Keyword).isEmpty then 0 else 1) < 30)) = true := by rfl)
    (hline : (apos.endLine == cpos.line) = true := by rfl) (hs : starEach (e :: es) X.env = (false, eval e X.env) :: starEach es X.env := by rfl) (hplain : (backTo cpos (starEach es X.env)).any (·.1) = false := by rfl) :
    VE X W false false (.Call (.Attribute a name apos) (e :: es) [] cpos) (dMut F i dp dr) := by
  refine ⟨PE.weak (pe_bm PySem.F.plainAttrs_list slot hty hmt ha.pe hr.pa hbase hfew hline hs hplain) fun σ H Q h => ?_⟩
  refine runP (fun _ z => z) h fun {Z c V H2 Z2 c2 cv cx p env env2} at1 e1 h2 => ?_
  obtain ⟨_, el, h2⟩ := lift_some2 h2
  obtain ⟨⟨x, es1, ew⟩, zc⟩ := at1.rl
  refine ⟨isL_ok el at1.sr es1 ew, Z2, env2, c2, at1.sr, at1.st.good.comm, ?_⟩
  refine (seq (rel := Rs (gl X)) (q := qb) (m := false) at1.st h2).mono fun U H3 ⟨w, env3, Z3, c3, cw, cy, e2, at2, st, h3⟩ => ?_
  have ew3 : walkV H3 x p = some V := by
    rcases hm with hm | hm
    · have e9 := ha.z0 hm _ _ _ e1
      subst e9
      exact ew
    · exact walk_same (at2.q1 hm) p x V ew
  exact mod_fin hF (st.drop fun a => by show c3 a + cw a ≤ (c3 a + cy a) + cx a; rw [at2.m0 rfl]; omega) at2.sr at2.rl es1 ew3 h3
theorem v_mut0 {id : String} {name : Str} {r : V → List V → Hp → VK → Prop} {F : List Val → List Val → Option (List Val × Val)} (slot : Slot "list" name id) (hty : typeOf (.builtin id) = pure (.type "method_descriptor")) (hmt : MtR X id r) (hF : MutR (gl X) r F)
    (ha : VP X W qa z i a dp) (hbase : attributeBase a name X.env (eval a X.env) = eval a X.env := by rfl) (hline : (apos.endLine == cpos.line) = true := by rfl) :
    VE X W false false (.Call (.Attribute a name apos) [] [] cpos) (dMut F i dp dNil) := by
  refine ⟨PE.weak (pe_bm0 PySem.F.plainAttrs_list slot hty hmt ha.pe hbase hline) fun σ H Q h => ?_⟩
  refine runP (fun _ z => z) h fun {Z c V H2 Z2 c2 cv cx p env env2} at1 e1 h2 => ?_
  obtain ⟨_, el, h2⟩ := lift_some2 h2
  obtain ⟨⟨x, es1, ew⟩, zc⟩ := at1.rl
  refine ⟨isL_ok el at1.sr es1 ew, ?_⟩
  exact mod_fin hF (cw := fun _ => 0) (at1.st.drop fun a => by show c2 a + 0 ≤ c2 a + cx a; omega) at1.sr Rs_nil es1 ew h2
theorem seqS {α β : Type} {rel : Rel α β} {g : Gl} {pr : List Nat} {σ : L2.St} {H H1 : Hp} {Z Z1 : AP} {t c1 u : Cnt} {r : M α} {k : α → Env → M Out} {D : Ends}
    (hs : Step H Z t H1 Z1 (fun a => c1 a + u a)) (h : PostS g W pr σ H Z t (bnd r k) D) :
    Post g W rel σ q m H1 Z1 c1 r (fun V H2 => ∃ v env2 Z2 c2 cv cx, r = ok v env2 ∧ At g rel σ q m H1 Z1 c1 v env2 V H2 Z2 c2 cv cx ∧
      Step H Z t H2 Z2 (fun a => (c2 a + cx a) + u a) ∧ PostS g W pr σ H Z t (k v env2) D) := by
  match r, h with
  | none, h => exact h
  | some (.ok v, env2), h =>
    intro V H2 Z2 c2 cv cx sr rl m0 st q1
    exact ⟨v, env2, Z2, c2, cv, cx, rfl, ⟨sr, rl, m0, st, q1⟩, hs.trans (st.frame hs.good), h⟩
  | some (.error x, env2), h =>
    intro H2 Z2 c2 C d hC sr st
    exact h σ H2 Z2 c2 C d hC Pr.refl sr ((hs.trans (st.frame hs.good)).drop fun a => Nat.le_add_right _ _)
/-- name[..] = e -/
def dSt (F : List Val → List Val → Option (List Val × Val)) (i : Nat) (de : DE) (dp : DP) (dk : DE) : DS := fun env => bnd (de env) fun v e1 => bnd (dp e1) fun p e2 => bnd (dk e2) fun k e3 => bnd (lift (noOwn k) e3) fun k e3 => bnd (modE (F [k, v]) i p e3) fun _ e4 => ok .nx e4
def rSt (r : V → V → V → Hp → (Hp → Prop) → Prop) : V → List V → Hp → VK → Prop := fun x vs H Q => ∃ k v, vs = [k, v] ∧ r x k v H (Q .non)
theorem v_store {pr : List Nat} {k : Expr} {t : TSet} {F : List Val → List Val → Option (List Val × Val)} {tpos : Pos} (hset : PSet X t) (hF : MutR (gl X) (rSt t) F) (he : VE X W q false e de) (ha : VP X W true z i a dp) (hk : VE X W true mb k dk)
    (hs : swapsWithSole [.Subscript a k tpos] e pos.line X.env = pure false := by rfl) (hw : swappedStores [.Subscript a k tpos] e X.env = pure none := by rfl) (h1 : (assignEach [.Subscript a k tpos] X.env).map (·.2) = [assign (.Subscript a k tpos) X.env] := by rfl)
    (hx : ∀ v, assign (.Subscript a k tpos) X.env v = (do
      let ov ← holding [v] (eval a X.env)
      let iv ← holding [v, ov] (eval k X.env)
      standAt tpos
      holding [v, ov, iv] (setItem ov iv v)
      release [v, ov, iv] []) := by intro _; rfl) : VS X W pr (.Assign [.Subscript a k tpos] e pos) (dSt F i de dp dk) := by
  refine ⟨PS.weak (ps_asg he.pe (pg_sub ha.pe hk.pe hset hx) hs hw h1) fun D σ H h => ?_⟩
  obtain ⟨Z, env, c, sr, gd, h⟩ := h
  refine runS0 (d := de) (fun _ z => z) sr gd h fun {V H2 Z2 c2 cv cx v env2} at1 e1 h2 => ?_
  refine ⟨Z2, env2, c2, at1.sr, at1.st.good.comm, ?_⟩
  refine (seqS (rel := relP (gl X) σ i) (q := true) (m := false) at1.st h2).mono fun O H3 ⟨p, env3, Z3, c3, cp, cy, e2, at2, st3, h3⟩ => ?_
  refine ⟨Z3, env3, c3, at2.sr, at2.st.good.comm, ?_⟩
  have st3' : Step H Z c H3 Z3 (fun x => c3 x + (cy x + cx x)) := st3.eq fun x => by show c3 x + (cy x + cx x) = (c3 x + cy x) + cx x; omega
  refine (seqS (rel := R (gl X)) (q := true) (m := mb) st3' h3).mono fun K H4 ⟨kv, env4, Z4, c4, ck, cz, e4, at3, st4, h4⟩ => ?_
  obtain ⟨⟨x, es1, ew⟩, zc⟩ := at2.rl
  have rv : R (gl X) H4 Z4 v V cv := by
    have r3 := at1.stay (R_ok _) at2 (.inr rfl)
    exact R_kept _ _ _ ((at3.q1 rfl).kept at3.st.zin) r3
  have ew4 : walkV H4 x p = some O := walk_same (at3.q1 rfl) p x O ew
  have h4 : ∃ k2, noOwn kv = some k2 ∧ PostS (gl X) W pr σ H Z c (bnd (modE (F [k2, v]) i p env4) fun _ e4 => ok .nx e4) D := by
    cases en : noOwn kv with
    | none => rw [en] at h4; exact h4.elim
    | some k2 => rw [en] at h4; exact ⟨k2, rfl, h4⟩
  obtain ⟨k2, en, h4⟩ := h4
  unfold noOwn at en
  split at en
  · cases en
  · rename_i o
    cases en
    have rk := R_zero (by simpa using o) at3.rl
    have rkv : Rs (gl X) H4 Z4 [kv, v] [K, V] cv := by
      simp only [Rs]
      exact ⟨K, [V], _, cv, rfl, rk, ⟨V, [], cv, fun _ => 0, rfl, rv, ⟨rfl, fun _ => rfl⟩, fun _ => rfl⟩, fun a => (Nat.zero_add _).symm⟩
    have s0 : Step H Z c H Z (fun a => c a + (fun _ => 0) a) := Step.refl gd
    have h5 : Post (gl X) W (R (gl X)) σ false false H Z c (modE (F [kv, v]) i p env4) (fun _ H' => D.nx σ H') :=
      (seqS (rel := R (gl X)) (q := false) (m := false) s0 h4).mono fun V5 H5 ⟨v5, env5, Z5, c5, cv5, cx5, e5, at5, st5, h5⟩ =>
        h5 σ H5 Z5 c5 Pr.refl at5.sr (st5.drop fun a => by show c5 a ≤ (c5 a + cx5 a) + 0; omega)
    obtain ⟨k', v', e6, q⟩ := mod_fin hF (st4.drop fun a => by show c4 a + cv a ≤ (c4 a + cz a) + (cy a + cx a); rw [at1.m0 rfl]; omega) at3.sr rkv es1 ew4 h5
    cases e6
    exact q
end
/-! ### the changes -/
def fAppend (vs xs : List Val) : Option (List Val × Val) := match vs with
  | [v] => if small (xs.length + 1) then some (xs ++ [v], .non) else none
  | _ => none
def fPop (vs xs : List Val) : Option (List Val × Val) := match vs with
  | [] => match xs[xs.length - 1]? with
    | some v => some (xs.dropLast, v)
    | none => none
  | [.int i] => match ixN xs.length i with
    | some j => match xs[j]? with
      | some v => if rngOk i then some (xs.eraseIdx j, v) else none
      | none => none
    | none => none
  | _ => none
def fExtend (vs xs : List Val) : Option (List Val × Val) := match vs with
  | [.lst _ ys] => if small (xs.length + ys.length) then some (xs ++ ys, .non) else none
  | _ => none
def fSet (vs xs : List Val) : Option (List Val × Val) := match vs with
  | [.int i, v] => (ixN xs.length i).map fun j => (xs.set j v, .non)
  | _ => none
section
variable {g : Gl}
theorem Rs_1' {H : Hp} {Z : AP} {v : Val} {x : V} {c : Cnt} (r : R g H Z v x c) : Rs g H Z [v] [x] c := by
  simp only [Rs]
  exact ⟨x, [], c, fun _ => 0, rfl, r, ⟨rfl, fun _ => rfl⟩, fun _ => rfl⟩
theorem mr_append : MutR g rAppend fAppend := by
  intro xs vs xs' b h H Z l ys vs' d cv hl rs rv dl ul
  unfold fAppend at h
  split at h
  · rename_i v
    split at h
    · rename_i hs
      cases h
      obtain ⟨V, rfl, r1⟩ := Rs_1 rv
      refine ⟨ys ++ [V], .non, fun H' Z' k => ⟨fun a => d a + cv a, fun _ => 0, ?_, R_non, fun _ => Nat.le_refl _⟩, fun Q q => ⟨l, ys, V, rfl, rfl, hl, ?_, q⟩⟩
      · exact Rs_append (Rs_kept _ _ _ (k.less fun a n => by show d a + cv a ≠ 0; omega) rs) (Rs_1' (R_kept _ _ _ (k.less fun a n => by show d a + cv a ≠ 0; omega) r1)) fun _ => rfl
      · have := small_line hs
        rw [Rs_len rs]; omega
    · cases h
  · cases h
theorem mr_extend : MutR g rExtend fExtend := by
  intro xs vs xs' b h H Z l ys vs' d cv hl rs rv dl ul
  unfold fExtend at h
  split at h
  · rename_i o zs
    split at h
    · rename_i hs
      cases h
      obtain ⟨V, rfl, r1⟩ := Rs_1 rv
      obtain ⟨a2, ws, d2, rfl, h2, _, r2, ho⟩ := lst_of r1
      refine ⟨ys ++ ws, .non, fun H' Z' k => ⟨fun a => d a + d2 a, fun _ => 0, ?_, R_non, fun a => by have := ho a; show d a + d2 a + 0 ≤ _; omega⟩, fun Q q => ⟨l, a2, ys, ws, rfl, rfl, hl, h2, by rw [Rs_len rs, Rs_len r2]; exact small_line hs, q⟩⟩
      exact Rs_append (Rs_kept _ _ _ (k.less fun a n => by show d a + cv a ≠ 0; omega) rs) (Rs_kept _ _ _ (k.less fun a n => by have := ho a; show d a + cv a ≠ 0; omega) r2) fun _ => rfl
    · cases h
  · cases h
theorem Rs_erase {H : Hp} {Z : AP} : ∀ {xs : List Val} {ys : List V} {c : Cnt} (j : Nat) (v : Val), Rs g H Z xs ys c → xs[j]? = some v → ∃ y cx cr, ys[j]? = some y ∧ R g H Z v y cx ∧ Rs g H Z (xs.eraseIdx j) (ys.eraseIdx j) cr ∧ ∀ a, c a = cx a + cr a
  | [], ys, c, j, v, r, e => by simp at e
  | x :: xs, ys, c, 0, v, r, e => by
    simp only [Rs] at r
    obtain ⟨y, zs, c1, c2, rfl, r1, r2, ec⟩ := r
    cases e
    exact ⟨y, c1, c2, rfl, r1, r2, ec⟩
  | x :: xs, ys, c, j + 1, v, r, e => by
    simp only [Rs] at r
    obtain ⟨y, zs, c1, c2, rfl, r1, r2, ec⟩ := r
    obtain ⟨y2, cx, cr, e1, e2, e3, e4⟩ := Rs_erase j v r2 e
    refine ⟨y2, cx, fun a => c1 a + cr a, e1, e2, ?_, fun a => by have := ec a; have := e4 a; show c a = cx a + (c1 a + cr a); omega⟩
    show Rs g H Z (x :: xs.eraseIdx j) (y :: zs.eraseIdx j) _
    simp only [Rs]
    exact ⟨y, _, c1, cr, rfl, r1, e3, fun _ => rfl⟩
theorem mr_pop : MutR g rPop fun vs xs => if vs.isEmpty then fPop vs xs else none := by
  intro xs vs xs' b h H Z l ys vs' d cv hl rs rv dl ul
  cases vs with
  | cons => cases h
  | nil =>
    simp only [List.isEmpty_nil, if_true] at h
    unfold fPop at h
    dsimp only at h
    split at h
    · rename_i v e
      cases h
      simp only [Rs] at rv
      obtain ⟨y, cx, cr, e1, r1, r2, ec⟩ := Rs_erase _ _ rs e
      have e3 : ∀ {α : Type} (l : List α), l.eraseIdx (l.length - 1) = l.dropLast := fun l => by
        cases l with
        | nil => rfl
        | cons x l => exact List.eraseIdx_eq_dropLast (by simp)
      rw [← Rs_len rs, e3 ys] at r2
      rw [Rs_len rs, e3 xs] at r2
      refine ⟨ys.dropLast, y, fun H' Z' k => ⟨cr, cx, Rs_kept _ _ _ (k.less fun a n => by have := ec a; show d a + cv a ≠ 0; omega) r2, R_kept _ _ _ (k.less fun a n => by have := ec a; show d a + cv a ≠ 0; omega) r1, fun a => by have := ec a; omega⟩, fun Q q => ⟨l, ys, y, rfl, rv.1, hl, by rw [Rs_len rs]; exact e1, q⟩⟩
    · cases h
theorem mr_popAt : MutR g rPopAt fun vs xs => if vs.isEmpty then none else fPop vs xs := by
  intro xs vs xs' b h H Z l ys vs' d cv hl rs rv dl ul
  cases vs with
  | nil => cases h
  | cons v0 vs =>
    simp only [List.isEmpty_cons] at h
    unfold fPop at h
    split at h
    · cases h
    · split at h
      · rename_i h0; cases h0
      · rename_i i h0
        cases h0
        split at h
        · rename_i j hj
          split at h
          · rename_i v e
            split at h
            · rename_i hr
              cases h
              obtain ⟨V, rfl, rV⟩ := Rs_1 rv
              obtain ⟨y, cx, cr, e1, r1, r2, ec⟩ := Rs_erase _ _ rs e
              have hr := of_decide_eq_true hr
              obtain ⟨s1, s2, s3, s4⟩ := ixN_seq hj
              refine ⟨ys.eraseIdx j, y, fun H' Z' k => ⟨cr, cx, Rs_kept _ _ _ (k.less fun a n => by have := ec a; show d a + cv a ≠ 0; omega) r2, R_kept _ _ _ (k.less fun a n => by have := ec a; show d a + cv a ≠ 0; omega) r1, fun a => by have := ec a; omega⟩,
                fun Q q => ⟨l, ys, i, j, y, rfl, by rw [int_of rV], hl, by omega, by omega, by rw [Rs_len rs]; exact s1, e1, q⟩⟩
            · cases h
          · cases h
        · cases h
      · cases h
theorem mr_set : MutR g (rSt rSetL) fSet := by
  intro xs vs xs' b h H Z l ys vs' d cv hl rs rv dl ul
  unfold fSet at h
  split at h
  · rename_i i v
    obtain ⟨j, hj, e⟩ := Option.map_eq_some_iff.mp h
    cases e
    obtain ⟨K, V, c1, c2, rfl, r1, r2, ec⟩ := Rs_two rv
    obtain ⟨s1, s2, s3, s4⟩ := ixN_seq hj
    obtain ⟨y, cx, cr, e1, e2, e3, k2⟩ := Rs_at rs (List.getElem?_eq_getElem s2)
    refine ⟨ys.set j V, .non, fun H' Z' k => ⟨fun a => c2 a + cr a, fun _ => 0, k2 (k.less fun a n => by have := e3 a; show d a + cv a ≠ 0; omega) (R_kept _ _ _ (k.less fun a n => by have := ec a; show d a + cv a ≠ 0; omega) r2) fun _ => rfl, R_non, fun a => by have := ec a; have := e3 a; show c2 a + cr a + 0 ≤ _; omega⟩,
      fun Q q => ⟨K, V, rfl, l, ys, i, j, rfl, int_of r1, hl, by rw [Rs_len rs]; exact hj, q⟩⟩
  · cases h
end
end PV

namespace PV
open PySem PySem.Spec PyProof.Rows L2
/-! ### parallel assignments, keywords, more operations -/
def dPar2 (i j : Nat) (d : DA) : DS := fun env => bnd (d env) fun vs e => match vs with
  | [v, w] => ok .nx ((e.set i v).set j w)
  | _ => none
def dPar3 (i j l : Nat) (d : DA) : DS := fun env => bnd (d env) fun vs e => match vs with
  | [u, v, w] => ok .nx (((e.set i u).set j v).set l w)
  | _ => none
def dAsg (tg : Tgt) (d : DE) : DS := fun env => bnd (d env) fun v e => match tg v e with
  | some e2 => ok .nx e2
  | none => none
section
variable {X : Cx} {W : WX} {pr : List Nat} {e a b : Expr} {es : List Expr} {pos : Pos} {q m : Bool} {d : DE} {dr : DA}
theorem runSA {ta : TA} {k : List Val → Env → M Out} {σ : L2.St} {H : Hp} {D : Ends} (ha : ∀ Q, tA' (gl X) W q m dr σ H Q → ta σ H Q) {K : List V → Hp → Prop}
    (h : ∃ Z env c, SR (gl X) H Z σ env c ∧ Good H Z c ∧ PostS (gl X) W pr σ H Z c (bnd (dr env) k) D)
    (hk : ∀ {Z c V H2 Z2 c2 cv cx v env env2}, At (gl X) (Rs (gl X)) σ q m H Z c v env2 V H2 Z2 c2 cv cx → dr env = ok v env2 → PostS (gl X) W pr σ H Z c (k v env2) D → K V H2) : ta σ H K := by
  obtain ⟨Z, env, c, sr, gd, h⟩ := h
  refine ha _ ⟨Z, env, c, sr, gd, ?_⟩
  have s0 : Step H Z c H Z (fun a => c a + (fun _ => 0) a) := Step.refl gd
  exact (seqS (rel := Rs (gl X)) (q := q) (m := m) s0 h).mono fun V H2 ⟨v, env2, Z2, c2, cv, cx, e, a, st, h2⟩ => hk a e h2
theorem v_par2 {i j : Nat} {x y : Str} {px py pt : Pos} {kt k2 pt2} (hc : X.calm = true) (hN : X.N.Nodup) (ha : VA X W q false [a, b] dr) (hi : X.N[i]? = some x) (hj : X.N[j]? = some y) (hij : i ≠ j)
    (hx : X.env.scope.names.lookup x = some .local) (hy : X.env.scope.names.lookup y = some .local)
    (hw : swappedStores [.Tuple [.Name x px, .Name y py] kt pt] (.Tuple [a, b] k2 pt2) X.env = pure (some [x, y]))
    (hp : i ∉ pr := by decide) (hp2 : j ∉ pr := by decide)
    (hs : swapsWithSole [.Tuple [.Name x px, .Name y py] kt pt] (.Tuple [a, b] k2 pt2) pos.line X.env = pure false := by rfl) :
    VS X W pr (.Assign [.Tuple [.Name x px, .Name y py] kt pt] (.Tuple [a, b] k2 pt2) pos) (dPar2 i j dr) := by
  refine ⟨PS.weak (ps_par hc hN hi hj hij hx hy ha.pa hw hs) fun D σ H h => ?_⟩
  refine runSA (fun _ z => z) h fun {Z c V H2 Z2 c2 cv cx v env env2} at1 e1 h2 => ?_
  split at h2
  · rename_i u w
    obtain ⟨V1, V2, c3, c4, rfl, r1, r2, ec⟩ := Rs_two at1.rl
    obtain ⟨d1, sr1, l1⟩ := at1.sr.set' i r1
    obtain ⟨d2, sr2, l2⟩ := sr1.set' j r2
    refine ⟨V1, V2, rfl, h2 _ H2 Z2 d2 ((Pr.set hp).trans (Pr.set hp2)) sr2 (at1.st.drop fun x => ?_)⟩
    have := l1 x; have := l2 x; have := ec x
    rw [at1.m0 rfl]
    omega
  · exact h2.elim
theorem v_par3 {a1 a2 a3 : Expr} {i j l : Nat} {x y z : Str} {px py pz pt : Pos} {kt k2 pt2} (hc : X.calm = true) (hN : X.N.Nodup) (ha : VA X W q false [a1, a2, a3] dr) (hi : X.N[i]? = some x) (hj : X.N[j]? = some y) (hl : X.N[l]? = some z) (hij : i ≠ j) (hil : i ≠ l) (hjl : j ≠ l)
    (hx : X.env.scope.names.lookup x = some .local) (hy : X.env.scope.names.lookup y = some .local) (hz : X.env.scope.names.lookup z = some .local)
    (hw : swappedStores [.Tuple [.Name x px, .Name y py, .Name z pz] kt pt] (.Tuple [a1, a2, a3] k2 pt2) X.env = pure (some [x, y, z]))
    (hp : i ∉ pr := by decide) (hp2 : j ∉ pr := by decide) (hp3 : l ∉ pr := by decide)
    (hs : swapsWithSole [.Tuple [.Name x px, .Name y py, .Name z pz] kt pt] (.Tuple [a1, a2, a3] k2 pt2) pos.line X.env = pure false := by rfl) :
    VS X W pr (.Assign [.Tuple [.Name x px, .Name y py, .Name z pz] kt pt] (.Tuple [a1, a2, a3] k2 pt2) pos) (dPar3 i j l dr) := by
  refine ⟨PS.weak (ps_par3 hc hN hi hj hl hij hil hjl hx hy hz ha.pa hw hs) fun D σ H h => ?_⟩
  refine runSA (fun _ z => z) h fun {Z c V H2 Z2 c2 cv cx v env env2} at1 e1 h2 => ?_
  split at h2
  · rename_i u v w
    have rr := at1.rl
    simp only [Rs] at rr
    obtain ⟨V1, _, c3, _, e3, r1, ⟨V2, _, c4, _, e4, r2, ⟨V3, _, c5, _, e5, r3, ⟨e6, z6⟩, s3⟩, s2⟩, s1⟩ := rr
    subst e6 e5 e4 e3
    obtain ⟨d1, sr1, l1⟩ := at1.sr.set' i r1
    obtain ⟨d2, sr2, l2⟩ := sr1.set' j r2
    obtain ⟨d3, sr3, l3⟩ := sr2.set' l r3
    refine ⟨V1, V2, V3, rfl, h2 _ H2 Z2 d3 (((Pr.set hp).trans (Pr.set hp2)).trans (Pr.set hp3)) sr3 (at1.st.drop fun x => ?_)⟩
    have := l1 x; have := l2 x; have := l3 x; have := s1 x; have := s2 x; have := s3 x
    rw [at1.m0 rfl]
    omega
  · exact h2.elim
/-- target = e, the value whole -/
theorem v_asg {tge : Expr} {wr : List Nat} {tg : Tgt} (he : VE X W q false e d) (ht : VTg X wr tge tg) (hw' : ∀ i ∈ pr, i ∉ wr := by decide) (hs : swapsWithSole [tge] e pos.line X.env = pure false := by rfl) (hw : swappedStores [tge] e X.env = pure none := by rfl)
    (h1 : (assignEach [tge] X.env).map (·.2) = [assign tge X.env] := by rfl) : VS X W pr (.Assign [tge] e pos) (dAsg tg d) := by
  refine ⟨PS.weak (ps_asg he.pe ht.pg hs hw h1) fun D σ H h => ?_⟩
  refine runS (fun _ z => z) h fun {Z c V H2 Z2 c2 cv cx v env env2} at1 e1 h2 => ?_
  cases et : tg v env2 with
  | none => rw [et] at h2; exact h2.elim
  | some e2 =>
    rw [et] at h2
    exact ⟨Z2, v, env2, e2, c2, cv, at1.sr, at1.rl, et, fun σ1 d1 w1 sr1 l1 => h2 σ1 H2 Z2 d1 (w1.pr hw') sr1 (at1.st.drop fun x => by rw [at1.m0 rfl]; exact l1 x)⟩
end
/-! keyword calls -/
def pick {α : Type} : List Nat → List α → List α
  | [], _ => []
  | k :: r, xs => match xs[k]? with
    | some x => x :: pick r (xs.eraseIdx k)
    | none => []
/-- the picks take everything once -/
def pickOk : List Nat → Nat → Bool
  | [], n => n == 0
  | k :: r, n => decide (k < n) && pickOk r (n - 1)
theorem relA_erase {g : Gl} {σ : L2.St} {H : Hp} {Z : AP} : ∀ {as : List AVal} {ys : List V} {c : Cnt} (j : Nat) (v : AVal), relA g σ H Z as ys c → as[j]? = some v → ∃ y cx cr, ys[j]? = some y ∧ relA g σ H Z [v] [y] cx ∧ relA g σ H Z (as.eraseIdx j) (ys.eraseIdx j) cr ∧ ∀ a, c a = cx a + cr a
  | [], ys, c, j, v, r, e => by simp at e
  | .inl i :: as, ys, c, 0, v, ⟨y, zs, e1, es, h⟩, e => by
    cases e
    subst e1
    exact ⟨y, fun _ => 0, c, rfl, ⟨y, [], rfl, es, rfl, fun _ => rfl⟩, h, fun a => (Nat.zero_add _).symm⟩
  | .inr w :: as, ys, c, 0, v, ⟨y, zs, c1, c2, e1, rv, h, ec⟩, e => by
    cases e
    subst e1
    exact ⟨y, c1, c2, rfl, ⟨y, [], c1, fun _ => 0, rfl, rv, ⟨rfl, fun _ => rfl⟩, fun _ => rfl⟩, h, ec⟩
  | .inl i :: as, ys, c, j + 1, v, ⟨y, zs, e1, es, h⟩, e => by
    subst e1
    obtain ⟨y2, cx, cr, a1, a2, a3, a4⟩ := relA_erase j v h e
    exact ⟨y2, cx, cr, a1, a2, ⟨y, _, rfl, es, a3⟩, a4⟩
  | .inr w :: as, ys, c, j + 1, v, ⟨y, zs, c1, c2, e1, rv, h, ec⟩, e => by
    subst e1
    obtain ⟨y2, cx, cr, a1, a2, a3, a4⟩ := relA_erase j v h e
    exact ⟨y2, cx, fun a => c1 a + cr a, a1, a2, ⟨y, _, c1, cr, rfl, rv, a3, fun _ => rfl⟩, fun a => by have := ec a; have := a4 a; show c a = cx a + (c1 a + cr a); omega⟩
theorem relA_pick {g : Gl} {σ : L2.St} {H : Hp} {Z : AP} : ∀ (ks : List Nat) {as : List AVal} {ys : List V} {c : Cnt}, pickOk ks as.length = true → relA g σ H Z as ys c → relA g σ H Z (pick ks as) (pick ks ys) c
  | [], as, ys, c, h, r => by
    have : as = [] := List.eq_nil_of_length_eq_zero (by simpa [pickOk] using h)
    subst this
    exact ⟨rfl, r.2⟩
  | k :: ks, as, ys, c, h, r => by
    unfold pickOk at h
    obtain ⟨h1, h2⟩ := Bool.and_eq_true_iff.mp h
    have h1 := of_decide_eq_true h1
    have e : as[k]? = some as[k] := List.getElem?_eq_getElem h1
    obtain ⟨y, cx, cr, a1, a2, a3, a4⟩ := relA_erase k as[k] r e
    have r2 := relA_pick ks (by rw [List.length_eraseIdx, if_pos h1]; exact h2) a3
    unfold pick
    rw [e, a1]
    dsimp only
    cases hh : as[k] with
    | inl i =>
      rw [hh] at a2
      obtain ⟨y', zs, e1, es, e2, z⟩ := a2
      cases e1
      exact ⟨y, _, rfl, es, by
        have : ∀ a, cr a = c a := fun a => by have := a4 a; have := z a; omega
        have e3 : cr = c := funext this
        rw [← e3]; exact r2⟩
    | inr w =>
      rw [hh] at a2
      obtain ⟨y', zs, c1, c2, e1, rv, ⟨e2, z⟩, e3⟩ := a2
      cases e1
      exact ⟨y, _, c1, cr, rfl, rv, r2, fun a => by have := a4 a; have := z a; have := e3 a; omega⟩
theorem vals_erase : ∀ {xs : List V} {us : List Value} (j : Nat), Vals xs us → Vals (xs.eraseIdx j) (us.eraseIdx j)
  | _, _, _, .nil => .nil
  | _, _, 0, .cons _ t => t
  | _, _, j + 1, .cons r t => .cons r (vals_erase j t)
theorem vals_pick : ∀ (ks : List Nat) {xs : List V} {us : List Value}, Vals xs us → Vals (pick ks xs) (pick ks us)
  | [], xs, us, r => .nil
  | k :: ks, xs, us, r => by
    unfold pick
    cases e : xs[k]? with
    | none =>
      have : us[k]? = none := by
        rw [List.getElem?_eq_none_iff] at e ⊢
        rw [← r.length]; exact e
      rw [this]; exact .nil
    | some x =>
      obtain ⟨u, eu, ru⟩ := r.get e
      rw [eu]
      exact .cons ru (vals_pick ks (vals_erase k r))
def KB (K : PySem.W.Frag) (fd : FuncData) (ps ks : List Str) (π : List Nat) : Prop := ∀ (s : Shared) (us ws : List Value), K.In s.heap → ws.length = ks.length → us.length + ws.length = ps.length → BindsTo s fd ⟨us, ks.zip ws⟩ (ps.zip (pick π (us ++ ws)))
section
variable {X : Cx} {W : WX} {k : Nat} {f : Addr} {fd : FuncData} {ps ks : List Str} {sp : Sp} {E : L2.St → XK} {x : Str} {p pos kpos : Pos} {e : Expr} {es : List Expr} {kws : List Keyword} {t tk : TA} {π : List Nat}
theorem pe_callKS0 (F : FnOk X.prog X.w X.K X.mg X.base (L2.CX X.prog X.w) k f fd ps sp) (hr : Room k X.A) (hg : L2.Gl X x) (hm : X.mg x = some (.ref f)) (hk : PySem.W.keepIn X.K (.ref f) = true) (hb : KB X.K fd ps ks π) (hx : ∀ σ, PassesAt (L2.CX X.prog X.w) X σ (E σ))
    (hkw : PK X kws tk) (hkl : ks.length = ps.length) (hall : (backToKw pos (keywordEach kws X.env)).all (·.1.isSome) = true := by rfl) (hks : (backToKw pos (keywordEach kws X.env)).filterMap (·.1) = ks := by rfl)
    (hdb : (x == ("__debug__" : Str)) = false := by decide)
    (hpl : ((backTo pos (starEach [] X.env)).any (·.1) || (backToKw pos (keywordEach kws X.env)).any (·.1.isNone)) = false := by rfl) :
    PE X (.Call (.Name x p) [] kws pos) (fun σ H Q => tk σ H fun zs H2 => zs.length = ps.length ∧ sp (pick π zs) H2 Q (E σ)) := by
  refine ⟨fun pins s σ H Q I h => ?_⟩
  refine wpAny_Call_Name_kw (ld_glob I hg hm ?_ hdb)
  refine PySem.W.callWith_KW0 (h₀ := X.base) I.ok.mod.kin hk hall (thn (hkw.run pos pins s σ H _ I h) fun ws s2 ⟨zs, H2, I2, rz, ql, q2⟩ => ⟨I2.kIn, ?_⟩) hpl
  rw [hks]
  have hl : ws.length = ps.length := by rw [← rz.length]; exact ql
  have b := hb s2 [] ws I2.kIn (by rw [hl, hkl]) (by simpa using hl)
  refine wpAny_call (codeAny_mono (F.run X.A X.stack s2 H2 ⟨[], ks.zip ws⟩ (pick π ws) (pick π zs) Q (E σ) hr I2.env0 b (vals_pick π rz) q2) fun r s' hq => ?_)
  cases r with
  | error e => exact hx σ pins H2 s2 e s' I2 hq
  | ok fl =>
    cases fl with
    | ret u => exact I2.after hq
    | next => exact False.elim hq
    | brk => exact False.elim hq
    | cont => exact False.elim hq
theorem pe_callKS (F : FnOk X.prog X.w X.K X.mg X.base (L2.CX X.prog X.w) k f fd ps sp) (hr : Room k X.A) (hg : L2.Gl X x) (hm : X.mg x = some (.ref f)) (hk : PySem.W.keepIn X.K (.ref f) = true) (hb : KB X.K fd ps ks π) (hx : ∀ σ, PassesAt (L2.CX X.prog X.w) X σ (E σ))
    (ha : PA X (e :: es) t) (hkw : PK X kws tk) (hall : (backToKw pos (keywordEach kws X.env)).all (·.1.isSome) = true := by rfl) (hks : (backToKw pos (keywordEach kws X.env)).filterMap (·.1) = ks := by rfl)
    (hdb : (x == ("__debug__" : Str)) = false := by decide) (he : starEach (e :: es) X.env = (false, eval e X.env) :: starEach es X.env := by rfl)
    (hpl : ((backTo pos (starEach (e :: es) X.env)).any (·.1) || (backToKw pos (keywordEach kws X.env)).any (·.1.isNone)) = false := by rfl) :
    PE X (.Call (.Name x p) (e :: es) kws pos) (fun σ H Q => t σ H fun vs H1 => tk σ H1 fun zs H2 => (vs.length + zs.length = ps.length ∧ zs.length = ks.length) ∧ sp (pick π (vs ++ zs)) H2 Q (E σ)) := by
  refine ⟨fun pins s σ H Q I h => ?_⟩
  refine wpAny_Call_Name_kw (ld_glob I hg hm ?_ hdb)
  refine PySem.W.callWith_KW (h₀ := X.base) I.ok.mod.kin hk hall (thn (ha.run pos pins s σ H _ I h) fun us s1 ⟨vs, H1, I1, r, q⟩ => ?_) hpl he
  refine thn (hkw.run pos pins s1 σ H1 _ I1 q) fun ws s2 ⟨zs, H2, I2, rz, ⟨l1, l2⟩, q2⟩ => ⟨I2.kIn, ?_⟩
  rw [hks]
  have b := hb s2 us ws I2.kIn (by rw [← rz.length]; exact l2) (by rw [← r.length, ← rz.length]; exact l1)
  refine wpAny_call (codeAny_mono (F.run X.A X.stack s2 H2 ⟨us, ks.zip ws⟩ (pick π (us ++ ws)) (pick π (vs ++ zs)) Q (E σ) hr I2.env0 b (vals_pick π (r.append rz)) q2) fun r s' hq => ?_)
  cases r with
  | error e => exact hx σ pins H2 s2 e s' I2 hq
  | ok fl =>
    cases fl with
    | ret u => exact I2.after hq
    | next => exact False.elim hq
    | brk => exact False.elim hq
    | cont => exact False.elim hq
end
structure VGK (X : Cx) (W : WX) (q : Bool) (kws : List Keyword) (d : DG) : Prop where
  pk : PK X kws (tG (gl X) W q d)
def dCallK (F : Fn) (n m : Nat) (π : List Nat) (d dk : DG) : DE := fun env => bnd (d env) fun as e => bnd (dk e) fun bs e2 => if as.length == n && bs.length == m && pickOk π (n + m) then callF F (pick π (as ++ bs)) e2 else none
theorem PK.weak {X : Cx} {kws : List Keyword} {t t' : TA} (h : PK X kws t) (w : ∀ σ H Q, t' σ H Q → t σ H Q) : PK X kws t' := ⟨fun pos pins s σ H Q I q => h.run pos pins s σ H Q I (w σ H Q q)⟩
section
variable {X : Cx} {W : WX} {qa qb m : Bool} {k : Nat} {f : Addr} {fd : FuncData} {ps ks : List Str} {x : Str} {p pos kpos : Pos} {e a : Expr} {es : List Expr} {kws : List Keyword} {π : List Nat} {da : DE} {dr dk : DG} {nm : Option Str}
theorem v_gknil : VGK X W true [] dGNil := ⟨PK.weak pk_nil fun σ H Q h => by
  obtain ⟨Z, env, c, sr, gd, h⟩ := h
  exact h [] H Z c (fun _ => 0) (fun _ => 0) sr ⟨rfl, fun _ => rfl⟩ (fun _ _ => rfl) (Step.refl gd) fun _ _ _ e => e⟩
theorem v_gkcons (ha : VE X W qa false a da) (hr : VGK X W qb kws dr) : VGK X W (qa && qb) (⟨nm, a, kpos⟩ :: kws) (dGCons da dr) := by
  refine ⟨PK.weak (pk_cons ha.pe hr.pk) fun σ H Q h => ?_⟩
  refine run1 (fun _ z => z) h fun {Z c V H2 Z2 c2 cv cx v env env2} a e h2 => ?_
  refine ⟨Z2, env2, c2, a.sr, a.st.good.comm, ?_⟩
  refine (seq (rel := relA (gl X) σ) (q := qb) (m := false) a.st h2).mono fun U H3 ⟨w, env3, Z3, c3, cw, cy, e, b, st, h3⟩ => ?_
  refine h3 (V :: U) H3 Z3 c3 (fun x => cv x + cw x) (fun x => cx x + cy x) b.sr ⟨V, U, cv, cw, rfl, a.stay (R_ok _) b (.inl rfl), b.rl, fun _ => rfl⟩ (fun _ x => by show cx x + cy x = cv x + cw x; rw [a.m0 rfl, b.m0 rfl]) (st.eq fun x => by show c3 x + (cx x + cy x) = (c3 x + cy x) + cx x; omega) fun z => ?_
  have z := Bool.and_eq_true_iff.mp z
  exact fun x o y => b.q1 z.2 x o (a.q1 z.1 x o y)
theorem v_gklend {i : Nat} (hN : X.N[i]? = some x) (hv : Vis X.env.scope x) (hr : VGK X W qb kws dr) (hd : (x == ("__debug__" : Str)) = false := by decide) (hcd : (x == ("__classdict__" : Str)) = false := by decide) :
    VGK X W qb (⟨nm, .Name x p, kpos⟩ :: kws) (dGLend i dr) := by
  refine ⟨PK.weak (pk_cons (pe_var hN hv hd hcd) hr.pk) fun σ H Q h => ?_⟩
  obtain ⟨Z, env, c, sr, gd, h⟩ := h
  cases e : getv env i with
  | none => simp only [dGLend, e, lift] at h; exact h.elim
  | some v =>
    simp only [dGLend, e, lift] at h
    obtain ⟨e1, e2⟩ := getv_some e
    obtain ⟨y, cx, cr, es', ry, ec, k⟩ := sr.at e1 e2
    refine ⟨y, es', Z, env, c, sr, gd, ?_⟩
    have h : Post (gl X) W (relA (gl X) σ) σ qb false H Z c (bnd (dr env) fun vs e2 => ok (.inl i :: vs) e2) Q := h
    have s0 : Step H Z c H Z (fun a => c a + (fun _ => 0) a) := Step.refl gd
    refine (seq (rel := relA (gl X) σ) (q := qb) (m := false) s0 h).mono fun U H3 ⟨w, env3, Z3, c3, cw, cy, e, b, st, h3⟩ => ?_
    exact h3 (y :: U) H3 Z3 c3 cw cy b.sr ⟨y, U, rfl, es', b.rl⟩ b.m0 b.st b.q1
theorem relA_append {g : Gl} {σ : L2.St} {H : Hp} {Z : AP} : ∀ {as bs : List AVal} {ys zs : List V} {c d : Cnt}, relA g σ H Z as ys c → relA g σ H Z bs zs d → relA g σ H Z (as ++ bs) (ys ++ zs) (fun a => c a + d a)
  | [], bs, ys, zs, c, d, h, h2 => by
    obtain ⟨e, z⟩ := h
    subst e
    have : (fun a => c a + d a) = d := funext fun a => by rw [z]; omega
    rw [this]; exact h2
  | .inl i :: r, bs, ys, zs, c, d, ⟨y, zs', e, es, h⟩, h2 => by
    subst e
    exact ⟨y, zs' ++ zs, rfl, es, relA_append h h2⟩
  | .inr v :: r, bs, ys, zs, c, d, ⟨y, zs', c1, c2, e, rv, h, ec⟩, h2 => by
    subst e
    exact ⟨y, zs' ++ zs, c1, fun a => c2 a + d a, rfl, rv, relA_append h h2, fun a => by show c a + d a = c1 a + (c2 a + d a); have := ec a; omega⟩
theorem v_callK0 {F : Fn} {np : Nat} (Fk : FnOk X.prog X.w X.K X.mg X.base (L2.CX X.prog X.w) k f fd ps (spOf (gl X) np F)) (hnp : ps.length = np) (hr : Room k X.A) (tk : Takes X W) (hg : L2.Gl X x) (hm : X.mg x = some (.ref f)) (hk : PySem.W.keepIn X.K (.ref f) = true) (hb : KB X.K fd ps ks π)
    (ha : VGK X W qa kws dk) (hF : ∀ vs r, F vs = some r → vs.length = np) (hkl : ks.length = ps.length) (hall : (backToKw pos (keywordEach kws X.env)).all (·.1.isSome) = true := by rfl) (hks : (backToKw pos (keywordEach kws X.env)).filterMap (·.1) = ks := by rfl)
    (hdb : (x == ("__debug__" : Str)) = false := by decide)
    (hpl : ((backTo pos (starEach [] X.env)).any (·.1) || (backToKw pos (keywordEach kws X.env)).any (·.1.isNone)) = false := by rfl) :
    VE X W false false (.Call (.Name x p) [] kws pos) (dCallK F 0 ps.length π dGNil dk) := by
  subst hnp
  refine ⟨PE.weak (pe_callKS0 Fk hr hg hm hk hb (passAt tk) ha.pk hkl hall hks hdb hpl) fun σ H Q h => ?_⟩
  refine runG (fun _ z => z) h fun {Z c V H2 Z2 c2 cv cx v env env2} a e h2 => ?_
  by_cases hh : (([] : List AVal).length == 0 && v.length == ps.length && pickOk π (0 + ps.length)) = true
  · rw [if_pos hh] at h2
    simp only [Bool.and_eq_true, beq_iff_eq] at hh
    obtain ⟨⟨_, h4⟩, h5⟩ := hh
    rw [Nat.zero_add] at h5
    refine ⟨by rw [relA_len a.rl]; exact h4, ?_⟩
    exact call_post (a.st.eq fun x => by show c2 x + cv x = c2 x + cx x; rw [a.m0 rfl]) a.sr (relA_pick π (by rw [h4]; exact h5) a.rl) hF h2
  · rw [if_neg hh] at h2
    exact h2.elim
theorem v_callK {F : Fn} {np : Nat} (Fk : FnOk X.prog X.w X.K X.mg X.base (L2.CX X.prog X.w) k f fd ps (spOf (gl X) np F)) (hnp : ps.length = np) (hr : Room k X.A) (tk : Takes X W) (hg : L2.Gl X x) (hm : X.mg x = some (.ref f)) (hk : PySem.W.keepIn X.K (.ref f) = true) (hb : KB X.K fd ps ks π)
    (ha : VG X W qb (e :: es) dr) (hkw : VGK X W qa kws dk) (hF : ∀ vs r, F vs = some r → vs.length = np) {n : Nat} (hn : n + ks.length = ps.length) (hall : (backToKw pos (keywordEach kws X.env)).all (·.1.isSome) = true := by rfl) (hks : (backToKw pos (keywordEach kws X.env)).filterMap (·.1) = ks := by rfl)
    (hdb : (x == ("__debug__" : Str)) = false := by decide) (he : starEach (e :: es) X.env = (false, eval e X.env) :: starEach es X.env := by rfl)
    (hpl : ((backTo pos (starEach (e :: es) X.env)).any (·.1) || (backToKw pos (keywordEach kws X.env)).any (·.1.isNone)) = false := by rfl) :
    VE X W false false (.Call (.Name x p) (e :: es) kws pos) (dCallK F n ks.length π dr dk) := by
  subst hnp
  refine ⟨PE.weak (pe_callKS Fk hr hg hm hk hb (passAt tk) ha.pa hkw.pk hall hks hdb he hpl) fun σ H Q h => ?_⟩
  refine runG (fun _ z => z) h fun {Z c V H2 Z2 c2 cv cx v env env2} a e h2 => ?_
  refine ⟨Z2, env2, c2, a.sr, a.st.good.comm, ?_⟩
  refine (seq (rel := relA (gl X) σ) (q := qa) (m := false) a.st h2).mono fun U H3 ⟨w, env3, Z3, c3, cw, cy, e, b, st, h3⟩ => ?_
  by_cases hh : (v.length == n && w.length == ks.length && pickOk π (n + ks.length)) = true
  · rw [if_pos hh] at h3
    simp only [Bool.and_eq_true, beq_iff_eq] at hh
    obtain ⟨⟨h4, h5⟩, h6⟩ := hh
    refine ⟨⟨by rw [relA_len a.rl, relA_len b.rl, h4, h5]; exact hn, by rw [relA_len b.rl]; exact h5⟩, ?_⟩
    refine call_post (st.eq fun x => ?_) b.sr (relA_pick π (by rw [List.length_append, h4, h5]; exact h6) (relA_append (a.stay (relA_ok _ _) b (.inl rfl)) b.rl)) hF h3
    show c3 x + (cv x + cw x) = (c3 x + cy x) + cx x
    rw [a.m0 rfl, b.m0 rfl]; omega
  · rw [if_neg hh] at h3
    exact h3.elim
end
end PV

namespace PV
open PySem PySem.Spec PyProof.Rows L2
/-! ### tests of chains, isinstance of several classes, tuples repeated -/
theorem tst_of {g : Gl} {W : WX} {q : Bool} {d : DE} {σ : L2.St} {H : Hp} {Q : Bool → Hp → Prop} (hb : ∀ env v env', d env = ok v env' → ∃ b, v = .bl b) (h : tT' g W q (dTst d) σ H Q) : tE g W q false d σ H fun x H' => ∃ k, x = .bl k ∧ Q k H' := by
  obtain ⟨Z, env, c, sr, gd, h⟩ := h
  refine ⟨Z, env, c, sr, gd, ?_⟩
  unfold dTst at h
  generalize hd : d env = r at h
  match r, h with
  | none, h => exact h
  | some (.error x, env'), h => exact h
  | some (.ok v, env'), h =>
    obtain ⟨b, rfl⟩ := hb _ _ _ hd
    intro V H' Z' c' cv cx sr' rl m0 st q1
    have e := bl_of rl
    subst e
    exact ⟨b, rfl, h b H' Z' c' (fun _ => 0) (fun _ => 0) sr' ⟨rfl, fun _ => rfl⟩ (fun _ _ => rfl) (st.drop fun a => Nat.le_add_right _ _) q1⟩
theorem chain_bl {f f' : Int → Int → Bool} {da db dc : DE} : ∀ env v env', dChain f f' da db dc env = ok v env' → ∃ b, v = .bl b := by
  intro env v env' h
  unfold dChain at h
  match ha : da env, h with
  | none, h => cases h
  | some (.error x, e), h => cases h
  | some (.ok v1, e1), h =>
    simp only [bnd] at h
    match hb : db e1, h with
    | none, h => cases h
    | some (.error x, e), h => cases h
    | some (.ok v2, e2), h =>
      dsimp only at h
      split at h
      · split at h
        · match hc : dc e2, h with
          | none, h => cases h
          | some (.error x, e), h => cases h
          | some (.ok v3, e3), h =>
            dsimp only at h
            cases v3 with
            | int k => cases h; exact ⟨_, rfl⟩
            | _ => cases h
        · cases h; exact ⟨_, rfl⟩
      · cases h
section
variable {X : Cx} {W : WX} {a b c' e : Expr} {es : List Expr} {q m qa qb qc ma mb mc : Bool} {d da db dc : DE} {p p2 pos tpos : Pos}
theorem v_tchain {op op' : CmpOp} {f f' : Int → Int → Bool} (ho : OpR X (compareOp op) (rI0 fun i j => .bl (f i j))) (ho' : OpR X (compareOp op') (rI0 fun i j => .bl (f' i j))) (ha : VE X W qa ma a da) (hb : VE X W qb mb b db) (hc : VE X W qc mc c' dc)
    (hm : ma = false ∨ qb = true := by first | exact .inl rfl | exact .inr rfl) (h1 : lastMarks [op, op'] [b, c'] = false := by rfl) : VT X W (qa && qb && qc) (.Compare a [op, op'] [b, c'] pos) (dTst (dChain f f' da db dc)) :=
  ⟨PT.weak (pt_chain ho ho' ha.pe hb.pe hc.pe h1) fun σ H Q h => rd_chain hm (tst_of chain_bl h)⟩
/-! isinstance(a, (T1, T2, ..)) -/
structure VTy (X : Cx) (es : List Expr) (Ts : List String) : Prop where
  pa : PA X es (fun _ H Q => Q (Ts.map V.ty) H)
theorem v_tynil : VTy X [] [] := ⟨PA.weak pa_nil fun _ _ _ h => h⟩
theorem v_tycons {T : Str} {T' : String} {Ts : List String} (hg2 : L2.Gl X T) (hm2 : X.mg T = none) (hv2 : bootBuiltins T = some (.type T')) (hr : VTy X es Ts) (hn : T ≠ "__name__" := by decide) (hdb : (T == ("__debug__" : Str)) = false := by decide)
    (hs : starEach (.Name T p :: es) X.env = (false, eval (.Name T p) X.env) :: starEach es X.env := by rfl) : VTy X (.Name T p :: es) (T' :: Ts) :=
  ⟨PA.weak (pa_cons (pe_bltn (v := .ty T') hg2 hm2 hv2 rfl hn hdb) hr.pa hs) fun _ _ _ h => h⟩
def gIsiT (Ts : List String) (v : Val) : Option Val := (tyName v).map fun t => .bl (Ts.any (isSub t))
theorem kit_any {K : PySem.W.Frag} {v : Val} {t : String} (e : tyName v = some t) : ∀ Ts : List String, Ts.all tyKnown = true → PySem.W.kitAny K (.type t) (Ts.map Value.type) = some (Ts.any (isSub t))
  | [], _ => rfl
  | T :: Ts, h => by
    have h := Bool.and_eq_true_iff.mp (show (tyKnown T && Ts.all tyKnown) = true from h)
    show (match PySem.W.kitOne K (.type t) (.type T) with
      | some true => some true
      | some false => PySem.W.kitAny K (.type t) (Ts.map Value.type)
      | none => none) = _
    rw [kit_sub e h.1, List.any_cons]
    cases isSub t T with
    | true => rfl
    | false => exact kit_any e Ts h.2
theorem paired_ty : ∀ Ts : List String, Paired ClsV (Ts.map V.ty) (Ts.map Value.type)
  | [] => .nil
  | T :: Ts => .cons (.ty T) (paired_ty Ts)
theorem v_isiT {Ts : List String} {k : Nat} (hg : L2.Gl X "isinstance") (hm : X.mg "isinstance" = none) (ht : VTy X es Ts) (hk : Ts.all tyKnown = true) (hl : Ts.length ≤ 1000) (ha : VE X W q m a d)
    (hs : starEach [a, .Tuple es k tpos] X.env = (false, eval a X.env) :: starEach [.Tuple es k tpos] X.env := by rfl) (hs2 : starEach [.Tuple es k tpos] X.env = (false, eval (.Tuple es k tpos) X.env) :: starEach [] X.env := by rfl) (hpl : (backTo pos (starEach [.Tuple es k tpos] X.env)).any (·.1) = false := by rfl) :
    VE X W q false (.Call (.Name "isinstance" p) [a, .Tuple es k tpos] [] pos) (dUn (gIsiT Ts) d) := by
  refine ⟨PE.weak (pe_callB call_isiT hg hm (by decide +kernel) (pa_cons ha.pe (pa_cons (pe_tup ht.pa) pa_nil hs2) hs) (by decide) (by decide) hs hpl) fun σ H Q h => ?_⟩
  refine run1 (fun _ z => z) h fun {Z c V H2 Z2 c2 cv cx v env env2} a e h2 => ?_
  obtain ⟨res, e2, h3⟩ := lift_some h2
  unfold gIsiT at e2
  obtain ⟨t, e3, rfl⟩ := Option.map_eq_some_iff.mp e2
  refine ⟨by rw [List.length_map]; exact small_line (by unfold small; exact decide_eq_true (by omega)), fun tp hp => ?_⟩
  have n : New H2 Z2 (upd H2 tp (.tup (Ts.map L2.V.ty))) Z2 (fun _ => 0) := New.lay hp a.st.good.zd
  refine ⟨V, tp, _, .type t, _, _, rfl, upd_same, paired_ty Ts, tyx_of e3 (R_kept _ _ _ (n.same.kept n.zin) a.rl), kit_any e3 Ts hk, ?_⟩
  exact fin a.st (fun _ => Nat.le_add_right _ _) a.sr a.q1 n R_bl h3
/-! a tuple times a number -/
def gMulT : Val → Val → Option Val
  | .tup xs, .int k => if decide (2 ≤ k ∧ k ≤ 1000 ∧ xs.length ≤ 1000) && !xs.isEmpty && !owns xs then some (.tup (List.replicate k.toNat xs).flatten) else none
  | v, w => gMul v w
abbrev rMulT (K : PySem.W.Frag) : R2 := fun x y H Q => rRepT K x y H Q ∨ rMul x y H Q
theorem o_mulT : OpR X (binaryOp .Mult) (rMulT X.K) := .or op_repT o_mul
end
theorem p2_mulT {g : Gl} : Pure2 g (rMulT g.K) gMulT := by
  intro v w res e H Z x y c d Q rv rw hz k
  unfold gMulT at e
  split at e
  · rename_i xs n
    split at e
    · rename_i hs
      cases e
      simp only [Bool.and_eq_true, Bool.not_eq_true', decide_eq_true_eq] at hs
      obtain ⟨⟨⟨h1, h2, h3⟩, h4⟩, o1⟩ := hs
      obtain ⟨a, ys, rfl, hh, rs⟩ := tup_of rv
      have rs := Rs_zero o1 rs
      have hl := Rs_len rs
      refine .inl ⟨a, n, ys, rfl, int_of rw, hh, fun e => ?_, h1, h2, by omega, fun p hp => ?_⟩
      · subst e
        have : xs = [] := List.eq_nil_of_length_eq_zero hl.symm
        subst this
        cases h4
      · obtain ⟨m, rn⟩ := new_tup hp hz (Rs_rep rs n.toNat)
        exact k _ _ Z _ m rn
    · cases e
  · exact .inr (p2_mul _ _ _ e _ _ _ _ _ _ _ rv rw hz k)
end PV

namespace PV
open PySem PySem.Spec PyProof.Rows L2
/-! ### a tuple once -/
theorem tuple_mul1 (l : Addr) (items : Array Value) (n : Nat) (dd : Option Addr) (sl : Array (Option Value)) (x : Int) (u : Tok) (c0 : (decide (x < -(2 ^ 63)) || decide (x ≥ 2 ^ 63)) = false) (c1 : (items.isEmpty || x == 1) = true) :
    Meets (Builtin.«tuple.__mul__» ⟨[.ref l, .int x u], []⟩) (fun _ R s => s.heap.get? l = some { cls := .type "tuple", dict := dd, data := .seq items n, slots := sl } ∧
      R (.ok (.ret (Value.ref l))) s) :=
  .of_wp fun prog w A R s h => by
    obtain ⟨hp, g, d, tk, os⟩ := s
    obtain ⟨hl, h⟩ := h
    have f1 := AutoSeq1.idx_int
    wp_walk using wpAny_loadPart' hl
    refine wpAny_ite_false (decide_eq_false (by rw [c0]; exact Bool.false_ne_true)) ?_
    wp_walk using wpAny_loadPart' hl
    exact ⟨_, rfl, h⟩
def rRep1 (K : PySem.W.Frag) : R2 := fun x y H Q => ∃ l k xs, x = .ref l ∧ y = .int k ∧ SqT K H l xs ∧ (k = 1 ∨ (xs = [] ∧ -1000 ≤ k ∧ k ≤ 1000)) ∧ Q (.ref l) H
section
variable {X : Cx}
theorem op_rep1 : OpR X (binaryOp .Mult) (rRep1 X.K) := by
  intro pins s σ H x y v u Q I rx ry h
  obtain ⟨l, k, xs, rfl, rfl, hT, hk, q⟩ := h
  cases rx
  obtain ⟨t, rfl⟩ := ry
  obtain ⟨its, r, ⟨⟨cls, dd, data, sl⟩, ho, hc, n, hd⟩, hs⟩ := I.tuple hT
  simp only at hc hd
  subst hc hd
  have c0 : (decide (k < -(2 ^ 63)) || decide (k ≥ 2 ^ 63)) = false := by
    rw [decide_eq_false (by omega), decide_eq_false (by omega)] <;> rfl
  have c1 : (its.toArray.isEmpty || k == 1) = true := by
    rcases hk with rfl | ⟨rfl, _⟩
    · simp
    · cases r; rfl
  exact wpAny_binaryOp_repeat_ref (T := "tuple") (U := "int") (by decide) ⟨_, ho, rfl⟩ (fun s' => typeIs_int s' k t) noFill_tuple_mul F.fills_int_mul F.slot_int_rmul repeat_tuple F.slot_int_index.lookup
    (call_meets F.slot_int_rmul (typeIs_int s k t) F.entry_int_rmul (F.args_int_rmul_2 _ _) (int_rmul_tuple k t l its.toArray n dd sl)
      ⟨ho, rfl, ⟨_, ho, rfl⟩, call_meets F.slot_tuple_mul ⟨_, ho, rfl⟩ F.entry_tuple_mul (F.args_tuple_mul_2 _ _) (tuple_mul1 l its.toArray n dd sl k t c0 c1) ⟨ho, ⟨.ref l, H, I, rfl, q⟩⟩⟩)
def gMulU : Val → Val → Option Val
  | .tup xs, .int k => if decide (k = 1) && !owns xs then some (.tup xs) else gMulT (.tup xs) (.int k)
  | v, w => gMulT v w
abbrev rMulU (K : PySem.W.Frag) : R2 := fun x y H Q => rRep1 K x y H Q ∨ rMulT K x y H Q
theorem o_mulU : OpR X (binaryOp .Mult) (rMulU X.K) := .or op_rep1 o_mulT
end
theorem p2_mulU {g : Gl} : Pure2 g (rMulU g.K) gMulU := by
  intro v w res e H Z x y c d Q rv rw hz k
  unfold gMulU at e
  split at e
  · rename_i xs n
    split at e
    · rename_i hs
      cases e
      simp only [Bool.and_eq_true, Bool.not_eq_true', decide_eq_true_eq] at hs
      obtain ⟨h1, o1⟩ := hs
      obtain ⟨a, ys, rfl, hh, rs⟩ := tup_of rv
      exact .inl ⟨a, n, ys, rfl, int_of rw, hh, .inl h1, k _ H Z _ (New.refl hz) (R_tup hh (Rs_zero o1 rs))⟩
    · exact .inr (p2_mulT _ _ _ e _ _ _ _ _ _ _ rv rw hz k)
  · exact .inr (p2_mulT _ _ _ e _ _ _ _ _ _ _ rv rw hz k)
end PV

namespace PV
open PySem PySem.Spec PyProof.Rows L2
/-! ### names for the printer -/
def gSub := gII (fun _ _ => true) fun i j => i - j
def gDiv := gII cDivW fun i j => i / j
def gMod := gII cMod fun i j => i % j
def gPow := gII cPow fun i j => i ^ j.toNat
def gShl := gII cShl fun i j => i * 2 ^ j.toNat
def gShr := gII cShr fun i j => i / 2 ^ j.toNat
def gBAnd := gII (fun _ _ => true) fun i j => Builtin.bitAnd i j
def gBOr := gII (fun _ _ => true) fun i j => Builtin.bitOr i j
def gBXor := gII (fun _ _ => true) fun i j => Builtin.bitXor i j
def gLt := gIB fun i j => decide (i < j)
def gLe := gIB fun i j => decide (i ≤ j)
def gGt := gIB fun i j => decide (j < i)
def gGe := gIB fun i j => decide (j ≤ i)
def gNeg : Val → Option Val
  | .int i => some (.int (-i))
  | _ => none
section
variable {g : Gl}
theorem p2_sub : Pure2 g (rI0 fun i j => .int (i - j)) gSub := p2_II0
theorem p2_div : Pure2 g (rI CDivW fun i j => .int (i / j)) gDiv := p2_II cDivW_ok
theorem p2_mod : Pure2 g (rI (fun _ j => 0 < j) fun i j => .int (i % j)) gMod := p2_II cMod_ok
theorem p2_pow : Pure2 g (rI CPow fun i j => .int (i ^ j.toNat)) gPow := p2_II cPow_ok
theorem p2_shl : Pure2 g (rI CShl fun i j => .int (i * 2 ^ j.toNat)) gShl := p2_II cShl_ok
theorem p2_shr : Pure2 g (rI (fun _ j => 0 ≤ j) fun i j => .int (i / 2 ^ j.toNat)) gShr := p2_II cShr_ok
theorem p2_band : Pure2 g (rI0 fun i j => .int (Builtin.bitAnd i j)) gBAnd := p2_II0
theorem p2_bor : Pure2 g (rI0 fun i j => .int (Builtin.bitOr i j)) gBOr := p2_II0
theorem p2_bxor : Pure2 g (rI0 fun i j => .int (Builtin.bitXor i j)) gBXor := p2_II0
theorem p2_lt : Pure2 g (rI0 fun i j => .bl (decide (i < j))) gLt := p2_IB
theorem p2_le : Pure2 g (rI0 fun i j => .bl (decide (i ≤ j))) gLe := p2_IB
theorem p2_gt : Pure2 g (rI0 fun i j => .bl (decide (j < i))) gGt := p2_IB
theorem p2_ge : Pure2 g (rI0 fun i j => .bl (decide (j ≤ i))) gGe := p2_IB
theorem gLt_bl : ∀ v w r, gLt v w = some r → ∃ b, r = .bl b := gIB_bl
theorem gLe_bl : ∀ v w r, gLe v w = some r → ∃ b, r = .bl b := gIB_bl
theorem gGt_bl : ∀ v w r, gGt v w = some r → ∃ b, r = .bl b := gIB_bl
theorem gGe_bl : ∀ v w r, gGe v w = some r → ∃ b, r = .bl b := gIB_bl
theorem p1_neg : Pure1 g (rU fun i => .int (-i)) gNeg := by
  intro v res e H Z x c Q r hz k
  cases v with
  | int i =>
    cases e
    exact ⟨i, int_of r, k _ H Z _ (New.refl hz) R_int⟩
  | _ => cases e
end
theorem bt_int : bootBuiltins "int" = some (.type "int") := by decide +kernel
theorem bt_bool : bootBuiltins "bool" = some (.type "bool") := by decide +kernel
theorem bt_str : bootBuiltins "str" = some (.type "str") := by decide +kernel
theorem bt_tuple : bootBuiltins "tuple" = some (.type "tuple") := by decide +kernel
theorem bt_list : bootBuiltins "list" = some (.type "list") := by decide +kernel
theorem bt_dict : bootBuiltins "dict" = some (.type "dict") := by decide +kernel
theorem bt_len : bootBuiltins "len" = some (.builtin "len") := by decide +kernel
theorem bt_sum : bootBuiltins "sum" = some (.builtin "sum") := by decide +kernel
theorem bt_all : bootBuiltins "all" = some (.builtin "all") := by decide +kernel
theorem bt_any : bootBuiltins "any" = some (.builtin "any") := by decide +kernel
theorem bt_max : bootBuiltins "max" = some (.builtin "max") := by decide +kernel
theorem bt_min : bootBuiltins "min" = some (.builtin "min") := by decide +kernel
theorem bt_isinstance : bootBuiltins "isinstance" = some (.builtin "isinstance") := by decide +kernel
theorem bt_sorted : bootBuiltins "sorted" = some (.builtin "sorted") := by decide +kernel
theorem bt_abs : bootBuiltins "abs" = some (.builtin "abs") := by decide +kernel
theorem bt_repr : bootBuiltins "repr" = some (.builtin "repr") := by decide +kernel
theorem bt_divmod : bootBuiltins "divmod" = some (.builtin "divmod") := by decide +kernel
theorem hu64 {A : Around} {k : Nat} (hr : Room k A) : A.units + 64 < cLine := by have := hr.un; omega
def fPop0 (vs xs : List Val) : Option (List Val × Val) := if vs.isEmpty then fPop vs xs else none
def fPop1 (vs xs : List Val) : Option (List Val × Val) := if vs.isEmpty then none else fPop vs xs
theorem mr_pop0 {g : Gl} : MutR g rPop fPop0 := mr_pop
theorem mr_pop1 {g : Gl} : MutR g rPopAt fPop1 := mr_popAt
theorem takes0 {X : Cx} : Takes X W0 := fun u s' ⟨a, B, sI, pins, σ, H, cls, d, e, I, nb, up, sky, na, os, ag, w⟩ => w.elim
theorem Fun.kb {K : PySem.W.Frag} {x qual : Str} {st : Stmt} {f : Addr} {fd : FuncData} {ps ks : List Str} {π : List Nat} (F : Fun K x qual st f fd) (n : Nat) (hn : n + ks.length = ps.length)
    (h : ∀ (kV doc pm : Value) (an : Option Addr) (cdv ct : Value) (us ws : List Value), us.length = n → ws.length = ks.length → bindArgs (PySem.W.fnOf x qual (defArgs st) (defBody st) (defScope st) .none kV doc pm an cdv ct) ⟨us, ks.zip ws⟩ = pure (ps.zip (pick π (us ++ ws)))) : KB K fd ps ks π := by
  obtain ⟨oc, od, kV, doc, pm, an, cdv, ct, osl, rfl, lk, hcd⟩ := F.ex
  exact fun s us ws _ h1 h2 => .of_eq (h kV doc pm an cdv ct us ws (by omega) h1)
theorem spOf_none {P : Program} {w : World} {K : PySem.W.Frag} {mg : Str → Option Value} {base : Heap} {k : Nat} {f : Addr} {fd : FuncData} {ps : List Str} {n : Nat} : FnOk P w K mg base (L2.CX P w) k f fd ps (spOf ⟨K, mg⟩ n fun _ => none) :=
  ⟨fun vs H Q E ⟨_, _, _, _, _, _, _, h⟩ => h.elim, fun _ _ _ _ _ _ _ _ _ _ _ _ _ ⟨_, _, _, _, _, _, _, h⟩ => h.elim⟩
end PV

namespace PV
open PySem PySem.Spec PyProof.Rows L2
/-! ### the law's own promise -/
def spLaw (K : PySem.W.Frag) : Sp := fun vs H Q _ => ∃ (a : Addr) (ns : List Int), vs = [.ref a] ∧ SqL K H a (ns.map V.int) ∧ ns.length ≤ 63 ∧ (∀ z ∈ ns, Builtin.Int.intBits z ≤ 1048576) ∧ ∀ H', Q (.bl true) H'
theorem law_sp {K : PySem.W.Frag} {mg : Str → Option Value} {F : Fn} (ht : ∀ ns : List Int, ns.length ≤ 63 → (∀ z ∈ ns, Builtin.Int.intBits z ≤ 1048576) → ∃ fs, F [.scr ns] = some (.ok (.bl true), fs)) {vs : List V} {H : Hp} {Q : VK} {E : XK} (h : spLaw K vs H Q E) : spOf ⟨K, mg⟩ 1 F vs H Q E := by
  obtain ⟨a, ns, rfl, hS, hl, hb, q⟩ := h
  obtain ⟨fs, e⟩ := ht ns hl hb
  refine ⟨fun b => b = a ∧ H b ≠ none, [.scr ns], fun _ => 0, rfl, fun v hv e2 => ?_, ?_, fun b => ⟨Nat.zero_le _, fun n => absurd rfl n, fun z => z.2⟩, ?_⟩
  · rw [List.mem_singleton.mp hv] at e2
    cases e2
  · simp only [Rs, R]
    refine ⟨.ref a, [], fun _ => 0, fun _ => 0, rfl, ⟨a, rfl, ?_, fun _ => rfl⟩, ⟨rfl, fun _ => rfl⟩, fun _ => rfl⟩
    rcases hS with (h | ⟨o, h⟩) | h
    · exact .inl ⟨h, rfl, by rw [h]; simp⟩
    · exact .inr (.inl ⟨o, h⟩)
    · exact .inr (.inr h)
  · rw [e]
    intro x H' Z' cf cv _ rv _
    rw [bl_of rv]
    exact q H'
theorem cx_false {w : World} {P : Program} {H : Hp} {s : Shared} {e : Value} {s' : Shared} (h : L2.CX P w [] H s (fun _ _ _ => False) e s') : False := by
  obtain ⟨_, _, _, _, _, _, _, _, _, _, _, _, z⟩ := h
  exact z
end PV

namespace PV
open PySem PySem.Spec PyProof.Rows L2
/-! ### plain runs: what a denotation gives -/
/-- it ends well, with Q -/
def Run {α : Type} (r : M α) (Q : α → Env → Prop) : Prop := match r with
  | some (.ok v, e) => Q v e
  | _ => False
section
variable {α β : Type} {Q : α → Env → Prop}
theorem Run.eq {r : M α} (h : Run r Q) : ∃ v e, r = ok v e ∧ Q v e := by
  match r, h with
  | some (.ok v, e), h => exact ⟨v, e, rfl, h⟩
theorem Run.of {r : M α} {v : α} {e : Env} (h : r = ok v e) (q : Q v e) : Run r Q := by rw [h]; exact q
theorem Run.mono {r : M α} {Q' : α → Env → Prop} (h : Run r Q) (k : ∀ v e, Q v e → Q' v e) : Run r Q' := by
  match r, h with
  | some (.ok v, e), h => exact k v e h
theorem run_ok {v : α} {e : Env} : Run (some (.ok v, e)) Q ↔ Q v e := Iff.rfl
theorem run_none : Run (none : M α) Q ↔ False := Iff.rfl
theorem run_bnd {r : M β} {k : β → Env → M α} : Run (bnd r k) Q ↔ Run r fun v e => Run (k v e) Q := by
  match r with
  | none => exact Iff.rfl
  | some (.ok v, e) => exact Iff.rfl
  | some (.error x, e) => exact Iff.rfl
theorem run_lift {o : Option α} {e : Env} : Run (lift o e) Q ↔ ∃ v, o = some v ∧ Q v e := by
  cases o with
  | none => exact ⟨fun h => h.elim, fun ⟨_, h, _⟩ => nomatch h⟩
  | some v => exact ⟨fun h => ⟨v, rfl, h⟩, fun ⟨_, h, q⟩ => by cases h; exact q⟩
theorem run_ite {b : Bool} {x y : M α} : Run (if b = true then x else y) Q ↔ ((b = true → Run x Q) ∧ (b = false → Run y Q)) := by
  cases b <;> simp
end
/-- a name that is there -/
def ng : Val → Bool
  | .gone => false
  | _ => true
theorem getv_0 {v : Val} {e : Env} (h : ng v = true) : getv (v :: e) 0 = some v := by
  cases v <;> first | rfl | cases h
theorem getv_s {v : Val} {e : Env} {i : Nat} : getv (v :: e) (i + 1) = getv e i := rfl
section
variable {Q : Val → Env → Prop} {env : Env} {da db dc : DE} {dt du : DT} {dr : DA}
theorem r_c {v : Val} : Run (dC v env) Q ↔ Q v env := Iff.rfl
theorem r_var {i : Nat} : Run (dVar i env) Q ↔ ∃ v, getv env i = some v ∧ Q v env := run_lift
theorem r_frz {i : Nat} : Run (dFrz i env) Q ↔ ∃ v, getv env i = some v ∧ Q (frz v) (env.set i (frz v)) := by
  unfold dFrz; rw [run_bnd, run_lift]; exact Iff.rfl
theorem r_mov {i : Nat} : Run (dMov i env) Q ↔ ∃ v, getv env i = some v ∧ Q v (env.set i .gone) := by
  unfold dMov; rw [run_bnd, run_lift]; exact Iff.rfl
theorem r_un {G : Val → Option Val} : Run (dUn G da env) Q ↔ Run (da env) fun v e => ∃ r, G v = some r ∧ Q r e := by
  unfold dUn; rw [run_bnd]; simp only [run_lift]
theorem r_bin {G : Val → Val → Option Val} : Run (dBin G da db env) Q ↔ Run (da env) fun v e => Run (db e) fun w e2 => ∃ r, G v w = some r ∧ Q r e2 := by
  unfold dBin; rw [run_bnd]; simp only [run_lift, run_bnd]
theorem r_pure {G : List Val → Option Val} : Run (dPure G dr env) Q ↔ Run (dr env) fun v e => ∃ r, G v = some r ∧ Q r e := by
  unfold dPure; rw [run_bnd]; simp only [run_lift]
theorem r_nil {Q : List Val → Env → Prop} : Run (dNil env) Q ↔ Q [] env := Iff.rfl
theorem r_cons {Q : List Val → Env → Prop} : Run (dCons da dr env) Q ↔ Run (da env) fun v e => Run (dr e) fun vs e2 => Q (v :: vs) e2 := by
  unfold dCons; rw [run_bnd]; simp only [run_bnd, run_ok]
theorem r_lst : Run (dLst dr env) Q ↔ Run (dr env) fun vs e => small vs.length = true ∧ Q (.lst true vs) e := by
  unfold dLst gLst; rw [run_bnd]; simp only [run_lift]
  constructor <;> intro h <;> refine h.mono fun vs e => ?_
  · rintro ⟨v, h1, h2⟩
    split at h1
    · cases h1; exact ⟨by assumption, h2⟩
    · cases h1
  · rintro ⟨h1, h2⟩
    exact ⟨_, if_pos h1, h2⟩
theorem r_tup : Run (dTup dr env) Q ↔ Run (dr env) fun vs e => small (frzs vs).length = true ∧ Q (.tup (frzs vs)) e := by
  unfold dTup gTup; rw [run_bnd]; simp only [run_lift]
  constructor <;> intro h <;> refine h.mono fun vs e => ?_
  · rintro ⟨v, h1, h2⟩
    split at h1
    · cases h1; exact ⟨by assumption, h2⟩
    · cases h1
  · rintro ⟨h1, h2⟩
    exact ⟨_, if_pos h1, h2⟩
theorem r_andV : Run (dAndV da db env) Q ↔ Run (da env) fun v e => ∃ b, gBl v = some b ∧ (b = true → Run (db e) Q) ∧ (b = false → Q (.bl false) e) := by
  unfold dAndV; rw [run_bnd]; simp only [run_bnd, run_lift, run_ite, run_ok]
theorem r_orV : Run (dOrV da db env) Q ↔ Run (da env) fun v e => ∃ b, gBl v = some b ∧ (b = true → Q (.bl true) e) ∧ (b = false → Run (db e) Q) := by
  unfold dOrV; rw [run_bnd]; simp only [run_bnd, run_lift, run_ite, run_ok]
theorem r_if : Run (dIf dt da db env) Q ↔ Run (dt env) fun b e => (b = true → Run (da e) Q) ∧ (b = false → Run (db e) Q) := by
  unfold dIf; rw [run_bnd]; simp only [run_ite]
variable {QB : Bool → Env → Prop}
theorem r_tst : Run (dTst da env) QB ↔ Run (da env) fun v e => ∃ b, gTru v = some b ∧ QB b e := by
  unfold dTst; rw [run_bnd]; simp only [run_lift]
theorem r_not : Run (dNot dt env) QB ↔ Run (dt env) fun b e => QB (!b) e := by
  unfold dNot; rw [run_bnd]; simp only [run_ok]
theorem r_and : Run (dAnd dt du env) QB ↔ Run (dt env) fun b e => (b = true → Run (du e) QB) ∧ (b = false → QB false e) := by
  unfold dAnd; rw [run_bnd]; simp only [run_ite, run_ok]
theorem r_or : Run (dOr dt du env) QB ↔ Run (dt env) fun b e => (b = true → QB true e) ∧ (b = false → Run (du e) QB) := by
  unfold dOr; rw [run_bnd]; simp only [run_ite, run_ok]
variable {QS : Out → Env → Prop} {d1 d2 : DS}
theorem r_seq : Run (dSeq d1 d2 env) QS ↔ Run (d1 env) fun o e => match o with
    | .nx => Run (d2 e) QS
    | o => QS o e := by
  unfold dSeq
  generalize d1 env = r
  match r with
  | none => exact Iff.rfl
  | some (.error x, e) => exact Iff.rfl
  | some (.ok .nx, e) => exact Iff.rfl
  | some (.ok .bk, e) => exact Iff.rfl
  | some (.ok .ct, e) => exact Iff.rfl
  | some (.ok (.rt v), e) => exact Iff.rfl
theorem r_skip : Run (dSkip env) QS ↔ QS .nx env := Iff.rfl
theorem r_set {i : Nat} : Run (dSet i da env) QS ↔ Run (da env) fun v e => QS .nx (e.set i v) := by
  unfold dSet; rw [run_bnd]; simp only [run_ok]
theorem r_ret : Run (dRet da env) QS ↔ Run (da env) fun v e => QS (.rt v) e := by
  unfold dRet; rw [run_bnd]; simp only [run_ok]
theorem r_do : Run (dDo da env) QS ↔ Run (da env) fun v e => QS .nx e := by
  unfold dDo; rw [run_bnd]; simp only [run_ok]
theorem r_ifS : Run (dIfS dt d1 d2 env) QS ↔ Run (dt env) fun b e => (b = true → Run (d1 e) QS) ∧ (b = false → Run (d2 e) QS) := by
  unfold dIfS; rw [run_bnd]; simp only [run_ite]
end
/-- a def: from a run of its body -/
theorem fn_run {np ns : Nat} {pr : List Nat} {d : DS} {vs : List Val} {v : Val} {fs : List Val} (hl : vs.length = np) (h : Run (d (vs ++ List.replicate (ns - np) .gone)) fun o e => o = .rt v ∧ fins np pr e = fs) : mkFn np ns pr d vs = some (.ok v, fs) := by
  obtain ⟨o, e, h1, h2, h3⟩ := h.eq
  unfold mkFn
  rw [if_pos hl, h1, h2]
  show some (Except.ok v, fins np pr e) = _
  rw [h3]
end PV

namespace PV
open PySem PySem.Spec PyProof.Rows L2
section
variable {QS : Out → Env → Prop} {env : Env} {de dk : DE} {dp : DP} {i : Nat}
theorem r_st {F : List Val → List Val → Option (List Val × Val)} : Run (dSt F i de dp dk env) QS ↔ Run (de env) fun v e1 => Run (dp e1) fun p e2 => Run (dk e2) fun k e3 => ∃ k', noOwn k = some k' ∧ Run (modE (F [k', v]) i p e3) fun _ e4 => QS .nx e4 := by
  unfold dSt; simp only [run_bnd, run_lift, run_ok]
theorem r_p0 {Q : List Val → Env → Prop} : Run (dP0 i env) Q ↔ ∃ v, getv env i = some v ∧ Q [] env := by
  unfold dP0; simp only [run_bnd, run_lift, run_ok]
theorem r_modE {f : List Val → Option (List Val × Val)} {p : List Val} {Q : Val → Env → Prop} : Run (modE f i p env) Q ↔ ∃ v, getv env i = some v ∧ ∃ r, modP f v p = some r ∧ Q r.2 (env.set i r.1) := by
  unfold modE
  cases getv env i with
  | none => exact ⟨fun h => h.elim, fun ⟨_, h, _⟩ => nomatch h⟩
  | some v =>
    dsimp only
    cases h : modP f v p with
    | none => exact ⟨fun h => h.elim, fun ⟨_, h1, _, h2, _⟩ => by cases h1; rw [h] at h2; cases h2⟩
    | some r => exact ⟨fun q => ⟨v, rfl, r, h, q⟩, fun ⟨_, h1, _, h2, q⟩ => by cases h1; rw [h] at h2; cases h2; exact q⟩
theorem r_mut {F : List Val → List Val → Option (List Val × Val)} {dr : DA} {Q : Val → Env → Prop} : Run (dMut F i dp dr env) Q ↔ Run (dp env) fun p e1 => ∃ u, isL e1 i p = some u ∧ Run (dr e1) fun vs e2 => Run (modE (F vs) i p e2) Q := by
  unfold dMut; simp only [run_bnd, run_lift]
end
theorem ng_int {i : Int} : ng (.int i) = true := rfl
theorem ng_bl {i : Bool} : ng (.bl i) = true := rfl
theorem ng_str {i : Str} : ng (.str i) = true := rfl
theorem ng_non : ng .non = true := rfl
theorem ng_lst {o : Bool} {xs : List Val} : ng (.lst o xs) = true := rfl
theorem ng_tup {xs : List Val} : ng (.tup xs) = true := rfl
theorem ng_scr {xs : List Int} : ng (.scr xs) = true := rfl
section
variable {e : Env}
theorem gv_int {i : Int} : getv (.int i :: e) 0 = some (.int i) := rfl
theorem gv_bl {i : Bool} : getv (.bl i :: e) 0 = some (.bl i) := rfl
theorem gv_str {i : Str} : getv (.str i :: e) 0 = some (.str i) := rfl
theorem gv_non : getv (.non :: e) 0 = some .non := rfl
theorem gv_lst {o : Bool} {xs : List Val} : getv (.lst o xs :: e) 0 = some (.lst o xs) := rfl
theorem gv_tup {xs : List Val} : getv (.tup xs :: e) 0 = some (.tup xs) := rfl
theorem gv_scr {xs : List Int} : getv (.scr xs :: e) 0 = some (.scr xs) := rfl
end
section
variable {i j : Int} {r v w : Val} {o : Bool} {xs ys : List Val} {b : Bool} {s : Str}
theorem g_some {α : Type} {a b : α} : (some a = some b) ↔ b = a := ⟨fun h => (Option.some.inj h).symm, fun h => by rw [h]⟩
theorem g_sub : gSub (.int i) (.int j) = some (.int (i - j)) := rfl
theorem g_add : gAdd (.int i) (.int j) = some (.int (i + j)) := rfl
theorem g_if {α : Type} {c : Prop} [Decidable c] {a r : α} : ((if c then some a else none) = some r) ↔ (c ∧ r = a) := by
  by_cases h : c
  · rw [if_pos h, g_some]
    exact ⟨fun e => ⟨h, e⟩, fun e => e.2⟩
  · rw [if_neg h]
    exact ⟨fun e => (nomatch e), fun e => absurd e.1 h⟩
theorem ixn_nat {n j : Nat} (hj : j < n) : ixN n (j : Int) = some j := by
  unfold ixN
  rw [if_pos (by omega), if_pos (by omega)]
  simp
theorem g_div : gDiv (.int i) (.int j) = some r ↔ (cDivW i j = true ∧ r = .int (i / j)) := g_if
theorem g_mod : gMod (.int i) (.int j) = some r ↔ (cMod i j = true ∧ r = .int (i % j)) := g_if
theorem g_pow : gPow (.int i) (.int j) = some r ↔ (cPow i j = true ∧ r = .int (i ^ j.toNat)) := g_if
theorem g_shl : gShl (.int i) (.int j) = some r ↔ (cShl i j = true ∧ r = .int (i * 2 ^ j.toNat)) := g_if
theorem g_shr : gShr (.int i) (.int j) = some r ↔ (cShr i j = true ∧ r = .int (i / 2 ^ j.toNat)) := g_if
theorem g_mul : gMulU (.int i) (.int j) = some r ↔ (cMul i j = true ∧ r = .int (i * j)) := g_if
theorem g_mulL : gMulU (.lst o xs) (.int j) = some r ↔ ((decide (-9223372036854775808 ≤ j ∧ j < 9223372036854775808) && small (xs.length * j.toNat) && !owns xs) = true ∧ r = .lst true (List.replicate j.toNat xs).flatten) := g_if
theorem g_band : gBAnd (.int i) (.int j) = some (.int (Builtin.bitAnd i j)) := rfl
theorem g_bor : gBOr (.int i) (.int j) = some (.int (Builtin.bitOr i j)) := rfl
theorem g_bxor : gBXor (.int i) (.int j) = some (.int (Builtin.bitXor i j)) := rfl
theorem g_lt : gLt (.int i) (.int j) = some (.bl (decide (i < j))) := rfl
theorem g_le : gLe (.int i) (.int j) = some (.bl (decide (i ≤ j))) := rfl
theorem g_gt : gGt (.int i) (.int j) = some (.bl (decide (j < i))) := rfl
theorem g_ge : gGe (.int i) (.int j) = some (.bl (decide (j ≤ i))) := rfl
theorem g_neg : gNeg (.int i) = some (.int (-i)) := rfl
theorem g_not : gNot (.bl b) = some (.bl (!b)) := rfl
theorem g_bl : gBl (.bl b) = some b := rfl
theorem g_eqi : gEq (.int i) (.int j) = some (.bl (decide (i = j))) := by
  show some (Val.bl _) = _
  congr 1
theorem g_tbl : gTru (.bl b) = some b := rfl
theorem g_tint : gTru (.int i) = some (i != 0) := rfl
theorem g_tlst : gTru (.lst o xs) = some (!xs.isEmpty) := rfl
theorem g_ttup : gTru (.tup xs) = some (!xs.isEmpty) := rfl
theorem g_int : gInt [.int i] = some (.int i) := rfl
theorem g_intb : gInt [.bl b] = some (.int (if b then 1 else 0)) := rfl
theorem g_lenL : gLen [.lst o xs] = some (.int xs.length) := rfl
theorem g_lenT : gLen [.tup xs] = some (.int xs.length) := rfl
theorem g_lenS {ns : List Int} : gLen [.scr ns] = some (.int ns.length) := rfl
theorem g_max2 : gMax2 [.int i, .int j] = some (.int (if j > i then j else i)) := rfl
theorem g_min2 : gMin2 [.int i, .int j] = some (.int (if j < i then j else i)) := rfl
theorem g_ixL : gIx (.lst o xs) (.int i) = atI xs i := rfl
theorem g_ixT : gIx (.tup xs) (.int i) = atI xs i := rfl
theorem g_ixS {ns : List Int} : gIx (.scr ns) (.int i) = (atI ns i).map .int := rfl
theorem no_int : noOwn (.int i) = some (.int i) := rfl
theorem no_bl : noOwn (.bl b) = some (.bl b) := rfl
theorem no_if : noOwn v = some r ↔ (own v = false ∧ r = v) := by
  unfold noOwn
  cases own v with
  | true => exact ⟨fun h => by simp at h, fun h => nomatch h.1⟩
  | false => simp only [Bool.false_eq_true, if_false, g_some, true_and]
theorem at_0 {α : Type} {x : α} {xs : List α} : atI (x :: xs) 0 = some x := by
  unfold atI ixN; simp
theorem at_1 {α : Type} {x y : α} {xs : List α} : atI (x :: y :: xs) 1 = some y := by
  rw [show (1 : Int) = ((1 : Nat) : Int) from rfl]
  unfold atI
  rw [ixn_nat (by simp)]
  rfl
theorem at_2 {α : Type} {x y z : α} {xs : List α} : atI (x :: y :: z :: xs) 2 = some z := by
  rw [show (2 : Int) = ((2 : Nat) : Int) from rfl]
  unfold atI
  rw [ixn_nat (by simp)]
  rfl
theorem at_nat {α : Type} {xs : List α} {n : Nat} {x : α} (h : xs[n]? = some x) : atI xs (n : Int) = some x := by
  have hl := (List.getElem?_eq_some_iff.mp h).1
  unfold atI
  rw [ixn_nat hl]
  exact h
theorem fset_0 {x : Val} : fSet [.int 0, v] (x :: xs) = some (v :: xs, .non) := by
  unfold fSet ixN; simp
theorem fset_1 {x y : Val} : fSet [.int 1, v] (x :: y :: xs) = some (x :: v :: xs, .non) := by
  show Option.map (fun j => ((x :: y :: xs).set j v, Val.non)) (ixN (x :: y :: xs).length ((1 : Nat) : Int)) = _
  rw [ixn_nat (by simp)]
  rfl
theorem fset_2 {x y z : Val} : fSet [.int 2, v] (x :: y :: z :: xs) = some (x :: y :: v :: xs, .non) := by
  show Option.map (fun j => ((x :: y :: z :: xs).set j v, Val.non)) (ixN (x :: y :: z :: xs).length ((2 : Nat) : Int)) = _
  rw [ixn_nat (by simp)]
  rfl
theorem mod_nil {f : List Val → Option (List Val × Val)} {q : Val × Val} : modP f (.lst true xs) [] = some q ↔ ∃ r, f xs = some r ∧ q = (.lst true r.1, r.2) := by
  unfold modP
  cases f xs with
  | none => exact ⟨fun h => (nomatch h), fun ⟨_, h, _⟩ => (nomatch h)⟩
  | some r => simp only [Option.map_some, g_some]; exact ⟨fun h => ⟨r, rfl, h⟩, fun ⟨r', h, e⟩ => by rw [e, h]⟩
end
end PV

namespace PV
open PySem PySem.Spec PyProof.Rows L2
theorem fn_runE {np ns : Nat} {pr : List Nat} {d : DS} {vs : List Val} {P : Val → List Val → Prop} (hl : vs.length = np) (h : Run (d (vs ++ List.replicate (ns - np) .gone)) fun o e => ∃ v, o = .rt v ∧ P v (fins np pr e)) : ∃ v fs, mkFn np ns pr d vs = some (.ok v, fs) ∧ P v fs := by
  obtain ⟨o, e, h1, v, h2, h3⟩ := h.eq
  subst h2
  exact ⟨v, _, fn_run hl (.of h1 ⟨rfl, rfl⟩), h3⟩
/-! ### how large -/
abbrev ib (x : Int) : Nat := Builtin.Int.intBits x
section
variable {x y : Int} {m n : Nat}
theorem cMul_of (hx : ib x ≤ m) (hy : ib y ≤ n) (h : m + n ≤ 134217728) : cMul x y = true := by
  unfold cMul
  refine decide_eq_true ?_
  have hx : Builtin.Int.intBits x ≤ m := hx
  have hy : Builtin.Int.intBits y ≤ n := hy
  omega
theorem sz_add (hx : ib x ≤ m) (hy : ib y ≤ n) : ib (x + y) ≤ max m n + 1 := intBits_add_le hx hy
theorem sz_sub (hx : ib x ≤ m) (hy : ib y ≤ n) : ib (x - y) ≤ max m n + 1 := intBits_sub_le hx hy
theorem sz_mul (hx : ib x ≤ m) (hy : ib y ≤ n) : ib (x * y) ≤ m + n := intBits_mul_le hx hy
theorem sz_mod (hy : ib y ≤ n) (h : 0 < y) : ib (x % y) ≤ n := by
  refine intBits_le_of_natAbs ?_ hy
  have := Int.emod_lt_of_pos x h
  have := Int.emod_nonneg x (show y ≠ 0 by omega)
  omega
theorem sz_div (hx : ib x ≤ m) (h : 0 < y) : ib (x / y) ≤ m := by
  rw [← Int.fdiv_eq_ediv_of_nonneg x (Int.le_of_lt h)]
  exact intBits_fdiv_le hx
theorem sz_of {k : Nat} (h1 : 0 ≤ x) (h2 : x < 2 ^ k) : ib x ≤ k := by
  refine intBits_le_iff.mpr ?_
  have : ((x.natAbs : Nat) : Int) < ((2 ^ k : Nat) : Int) := by
    rw [Int.natAbs_of_nonneg h1]
    simpa using h2
  exact_mod_cast this
theorem cMod_of (h : 0 < y) : cMod x y = true := decide_eq_true h
theorem cDivW_of (h : 0 < y) (h2 : y < big) : cDivW x y = true := decide_eq_true ⟨h, h2⟩
theorem cPow_of {k : Int} (h : 0 ≤ k) (h1 : k ≤ 1000000) (h2 : x.natAbs < 18446744073709551616) : cPow x k = true := decide_eq_true ⟨h, h1, h2⟩
end
end PV

namespace PV
open PySem PySem.Spec PyProof.Rows L2
/-! ### loops, comprehensions, calls, run -/
section
variable {tg : Tgt} {body : DS} {its : List Val} {env : Env}
/-- a loop, its ends: through, broken, returned -/
theorem for_runR (Inv : Nat → Env → Prop) (Brk : Env → Prop) (Ret : Val → Env → Prop) (h0 : Inv 0 env)
    (hs : ∀ i v e, its[i]? = some v → Inv i e → ∃ e1, tg v e = some e1 ∧ Run (body e1) fun o e2 => match o with
      | .nx => Inv (i + 1) e2
      | .ct => Inv (i + 1) e2
      | .bk => Brk e2
      | .rt v => Ret v e2) : Run (forL tg body its env) fun o e => match o with
      | .nx => Inv its.length e ∨ Brk e
      | .rt v => Ret v e
      | _ => False := by
  have key : ∀ (k : Nat) (rest : List Val) (e : Env), its.drop k = rest → k ≤ its.length → Inv k e → Run (forL tg body rest e) fun o e => match o with
      | .nx => Inv its.length e ∨ Brk e
      | .rt v => Ret v e
      | _ => False := by
    intro k rest
    induction rest generalizing k with
    | nil =>
      intro e hd hk hi
      have : k = its.length := by
        have := congrArg List.length hd
        rw [List.length_drop] at this
        simp at this
        omega
      subst this
      exact .inl hi
    | cons v r ih =>
      intro e hd hk hi
      have hlt : k < its.length := by
        have := congrArg List.length hd
        rw [List.length_drop, List.length_cons] at this
        omega
      have hv : its[k]? = some v := by
        have := congrArg (·[0]?) hd
        simpa [List.getElem?_drop] using this
      have hr : its.drop (k + 1) = r := by
        have := congrArg (List.drop 1) hd
        simpa [List.drop_drop, Nat.add_comm] using this
      obtain ⟨e1, h1, h2⟩ := hs k v e hv hi
      unfold forL
      rw [h1]
      dsimp only
      obtain ⟨o, e2, h3, h4⟩ := h2.eq
      rw [h3]
      match o, h4 with
      | .nx, h4 => exact ih (k + 1) e2 hr hlt h4
      | .ct, h4 => exact ih (k + 1) e2 hr hlt h4
      | .bk, h4 => exact .inr h4
      | .rt w, h4 => exact h4
  exact key 0 its env (by simp) (Nat.zero_le _) h0
/-- a loop that goes through -/
theorem for_run (Inv : Nat → Env → Prop) (h0 : Inv 0 env)
    (hs : ∀ i v e, its[i]? = some v → Inv i e → ∃ e1, tg v e = some e1 ∧ Run (body e1) fun o e2 => o = .nx ∧ Inv (i + 1) e2) : Run (forL tg body its env) fun o e => o = .nx ∧ Inv its.length e := by
  refine (for_runR Inv (fun _ => False) (fun _ _ => False) h0 fun i v e hv hi => ?_).mono fun o e h => ?_
  · obtain ⟨e1, h1, h2⟩ := hs i v e hv hi
    exact ⟨e1, h1, h2.mono fun o e3 h => by obtain ⟨rfl, h⟩ := h; exact h⟩
  · match o, h with
    | .nx, h => exact ⟨rfl, h.elim id False.elim⟩
    | .rt v, h => exact h.elim
end
section
variable {tg : Tgt} {tests : DT} {elt : DE} {vs : List Nat} {its : List Val} {env : Env}
theorem comp_run (Inv : Nat → List Val → Env → Prop) (h0 : Inv 0 [] env)
    (hs : ∀ i v acc e, its[i]? = some v → Inv i acc e → ∃ e1, tg v e = some e1 ∧ Run (tests e1) fun b e2 => (b = true → Run (elt e2) fun x e3 => Inv (i + 1) (acc ++ [x]) (wipeE vs e3)) ∧ (b = false → Inv (i + 1) acc (wipeE vs e2))) :
    Run (compL tg tests elt vs its env) fun xs e => Inv its.length xs e := by
  have key : ∀ (rest : List Val) (k : Nat) (acc : List Val) (e : Env), its.drop k = rest → k ≤ its.length → Inv k acc e → Run (compL tg tests elt vs rest e) fun xs e => Inv its.length (acc ++ xs) e := by
    intro rest
    induction rest with
    | nil =>
      intro k acc e hd hk hi
      have : k = its.length := by
        have := congrArg List.length hd
        rw [List.length_drop] at this
        simp at this
        omega
      subst this
      show Inv its.length (acc ++ []) e
      rw [List.append_nil]
      exact hi
    | cons v r ih =>
      intro k acc e hd hk hi
      have hlt : k < its.length := by
        have := congrArg List.length hd
        rw [List.length_drop, List.length_cons] at this
        omega
      have hv : its[k]? = some v := by
        have := congrArg (·[0]?) hd
        simpa [List.getElem?_drop] using this
      have hr : its.drop (k + 1) = r := by
        have := congrArg (List.drop 1) hd
        simpa [List.drop_drop, Nat.add_comm] using this
      obtain ⟨e1, h1, h2⟩ := hs k v acc e hv hi
      unfold compL
      rw [h1]
      dsimp only
      obtain ⟨b, e2, h3, h4, h5⟩ := h2.eq
      rw [h3]
      cases b with
      | false =>
        show Run (compL tg tests elt vs r (wipeE vs e2)) _
        exact ih (k + 1) acc _ hr hlt (h5 rfl)
      | true =>
        obtain ⟨x, e3, h6, h7⟩ := (h4 rfl).eq
        show Run (bnd (elt e2) fun x e3 => bnd (compL tg tests elt vs r (wipeE vs e3)) fun xs e4 => ok (x :: xs) e4) _
        rw [h6, run_bnd]
        show Run (bnd (compL tg tests elt vs r (wipeE vs e3)) fun xs e4 => ok (x :: xs) e4) _
        rw [run_bnd]
        refine (ih (k + 1) (acc ++ [x]) _ hr hlt h7).mono fun xs e4 h8 => ?_
        show Inv its.length (acc ++ x :: xs) e4
        rw [List.append_assoc] at h8
        exact h8
  exact key its 0 [] env (by simp) (Nat.zero_le _) h0
/-- where the frame stays as it is -/
theorem comp_map (p : Val → Bool) (f : Val → Val)
    (hs : ∀ v ∈ its, ∃ e1, tg v env = some e1 ∧ Run (tests e1) fun b e2 => b = p v ∧ (b = true → Run (elt e2) fun x e3 => x = f v ∧ wipeE vs e3 = env) ∧ (b = false → wipeE vs e2 = env)) :
    compL tg tests elt vs its env = ok ((its.filter p).map f) env := by
  induction its with
  | nil => rfl
  | cons v r ih =>
    have ih := ih fun w hw => hs w (List.mem_cons_of_mem _ hw)
    obtain ⟨e1, h1, h2⟩ := hs v (List.mem_cons_self ..)
    obtain ⟨b, e2, h3, rfl, h4, h5⟩ := h2.eq
    unfold compL
    rw [h1]
    dsimp only
    rw [h3]
    show (if p v = true then _ else _) = _
    rw [List.filter_cons]
    by_cases hp : p v = true
    · rw [if_pos hp, if_pos hp]
      obtain ⟨x, e3, h6, rfl, h7⟩ := (h4 hp).eq
      rw [h6]
      show bnd (compL tg tests elt vs r (wipeE vs e3)) _ = _
      rw [h7, ih]
      rfl
    · rw [if_neg hp, if_neg hp, h5 (by simpa using hp), ih]
theorem r_comp {src : DI} {Q : Val → Env → Prop} : Run (dComp src tg tests elt vs env) Q ↔ Run (src env) fun its e => Run (compL tg tests elt vs its (wipeE vs e)) fun xs e2 => small xs.length = true ∧ Q (.lst true xs) (restE vs e e2) := by
  unfold dComp
  rw [run_bnd]
  constructor <;> intro h <;> refine h.mono fun its e h => ?_
  · unfold compE at h
    match hc : compL tg tests elt vs its (wipeE vs e), h with
    | some (.ok xs, e2), h =>
      dsimp only at h
      split at h
      · exact ⟨by assumption, h⟩
      · exact h.elim
    | some (.error x, e2), h => exact h.elim
    | none, h => exact h.elim
  · obtain ⟨xs, e2, h1, h2, h3⟩ := h.eq
    unfold compE
    rw [h1]
    dsimp only
    rw [if_pos h2]
    exact h3
end
section
variable {env : Env} {d : DE} {dr : DA} {body : DS} {tg : Tgt} {src : DI}
theorem r_for {Q : Out → Env → Prop} : Run (dFor src tg body env) Q ↔ Run (src env) fun its e => Run (forL tg body its e) Q := by
  unfold dFor; rw [run_bnd]
theorem r_rng1 {Q : List Val → Env → Prop} : Run (dRng1 dr env) Q ↔ Run (dr env) fun vs e => ∃ its, gRng1 vs = some its ∧ Q its e := by
  unfold dRng1; rw [run_bnd]; simp only [run_lift]
theorem r_rng2 {Q : List Val → Env → Prop} : Run (dRng2 dr env) Q ↔ Run (dr env) fun vs e => ∃ its, gRng2 vs = some its ∧ Q its e := by
  unfold dRng2; rw [run_bnd]; simp only [run_lift]
theorem r_its {Q : List Val → Env → Prop} : Run (dIts d env) Q ↔ Run (d env) fun v e => ∃ its, gIts v = some its ∧ Q its e := by
  unfold dIts; rw [run_bnd]; simp only [run_lift]
theorem r_zip {Q : List Val → Env → Prop} : Run (dZip dr env) Q ↔ Run (dr env) fun vs e => ∃ its, gZip vs = some its ∧ Q its e := by
  unfold dZip; rw [run_bnd]; simp only [run_lift]
/-- 0 .. n - 1 as values -/
def rgs (n : Nat) : List Val := (List.range n).map fun k : Nat => .int (k : Int)
def rgs2 (i j : Int) : List Val := (List.range (j - i).toNat).map fun k : Nat => .int (i + (k : Int))
theorem g_rng1 {j : Int} {r : List Val} : gRng1 [.int j] = some r ↔ (rngOk j = true ∧ r = rgs j.toNat) := g_if
theorem g_rng2 {i j : Int} {r : List Val} : gRng2 [.int i, .int j] = some r ↔ ((rngOk i && rngOk j) = true ∧ r = rgs2 i j) := g_if
theorem g_itsL {o : Bool} {xs : List Val} : gIts (.lst o xs) = some (frzs xs) := rfl
theorem g_itsT {xs : List Val} : gIts (.tup xs) = some (frzs xs) := rfl
def pair2 (vs : List Val) (f : Val → Val → Prop) : Prop := match vs with
  | [v, w] => f v w
  | _ => False
def pair3 (vs : List Val) (f : Val → Val → Val → Prop) : Prop := match vs with
  | [u, v, w] => f u v w
  | _ => False
theorem pair2_mk {v w : Val} {f : Val → Val → Prop} : pair2 [v, w] f ↔ f v w := Iff.rfl
theorem pair3_mk {u v w : Val} {f : Val → Val → Val → Prop} : pair3 [u, v, w] f ↔ f u v w := Iff.rfl
/-! calls -/
variable {F : Fn} {dg dk : DG}
theorem r_call {Q : Val → Env → Prop} : Run (dCall F dg env) Q ↔ Run (dg env) fun as e => Run (callF F as e) Q := by
  unfold dCall; rw [run_bnd]
theorem r_gnil {Q : List AVal → Env → Prop} : Run (dGNil env) Q ↔ Q [] env := Iff.rfl
theorem r_gcons {Q : List AVal → Env → Prop} : Run (dGCons d dg env) Q ↔ Run (d env) fun v e => Run (dg e) fun as e2 => Q (.inr v :: as) e2 := by
  unfold dGCons; simp only [run_bnd, run_ok]
theorem r_glend {i : Nat} {Q : List AVal → Env → Prop} : Run (dGLend i dg env) Q ↔ ∃ v, getv env i = some v ∧ Run (dg env) fun as e2 => Q (.inl i :: as) e2 := by
  unfold dGLend; simp only [run_bnd, run_lift, run_ok]
def isGone (v : Val) : Bool := match v with | .gone => true | _ => false
theorem call_run {as : List AVal} {e e1 : Env} {vs fs : List Val} {v : Val} {Q : Val → Env → Prop} (h3 : F vs = some (.ok v, fs)) (h1 : takeAll as e = some (vs, e1)) (h2 : vs.all ng = true) (q : Q v (putAll as fs e1)) : Run (callF F as e) Q := by
  unfold callF
  rw [h1]
  dsimp only
  rw [if_neg, h3]
  · exact q
  · intro h
    obtain ⟨v, hv, e⟩ := List.any_eq_true.mp h
    have := List.all_eq_true.mp h2 v hv
    cases v <;> first | (cases this; done) | cases e
theorem r_par2 {i j : Nat} {Q : Out → Env → Prop} : Run (dPar2 i j dr env) Q ↔ Run (dr env) fun vs e => pair2 vs fun v w => Q .nx ((e.set i v).set j w) := by
  unfold dPar2
  rw [run_bnd]
  constructor <;> intro h <;> refine h.mono fun vs e h => ?_
  · split at h
    · exact h
    · exact h.elim
  · match vs, h with
    | [v, w], h => exact h
theorem r_par3 {i j l : Nat} {Q : Out → Env → Prop} : Run (dPar3 i j l dr env) Q ↔ Run (dr env) fun vs e => pair3 vs fun u v w => Q .nx (((e.set i u).set j v).set l w) := by
  unfold dPar3
  rw [run_bnd]
  constructor <;> intro h <;> refine h.mono fun vs e h => ?_
  · split at h
    · exact h
    · exact h.elim
  · match vs, h with
    | [u, v, w], h => exact h
end
end PV

namespace PV
open PySem PySem.Spec PyProof.Rows L2
section
variable {env : Env} {d : DE} {dl dh : DO}
theorem r_nop {Q : Option Int → Env → Prop} : Run (dNoPart env) Q ↔ Q none env := Iff.rfl
theorem r_part {Q : Option Int → Env → Prop} : Run (dPart d env) Q ↔ Run (d env) fun v e => ∃ i, v = .int i ∧ Q (some i) e := by
  unfold dPart
  rw [run_bnd]
  constructor <;> intro h <;> refine h.mono fun v e h => ?_
  · split at h
    · exact ⟨_, rfl, h⟩
    · exact h.elim
  · obtain ⟨i, rfl, h⟩ := h
    exact h
theorem r_sl {Q : Val → Env → Prop} : Run (dSl d dl dh env) Q ↔ Run (d env) fun v e => Run (dl e) fun l e2 => Run (dh e2) fun h e3 => ∃ r, gSl v l h = some r ∧ Q r e3 := by
  unfold dSl; simp only [run_bnd, run_lift]
end
/-- numbers as values -/
abbrev vi (ns : List Int) : List Val := ns.map .int
theorem toInts_vi : ∀ ns : List Int, toInts (vi ns) = some ns
  | [] => rfl
  | n :: ns => by
    show (toInts (vi ns)).map (n :: ·) = _
    rw [toInts_vi ns]; rfl
theorem g_sum {o : Bool} {ns : List Int} : gSum [.lst o (vi ns)] = some (.int ns.sum) := by
  show (toInts (vi ns)).map _ = _
  rw [toInts_vi]; rfl
theorem g_slS {ns : List Int} {l h : Option Int} : gSl (.scr ns) l h = some (.lst true (vi (cutL ns l h))) := rfl
theorem owns_vi : ∀ ns : List Int, owns (vi ns) = false
  | [] => rfl
  | _ :: ns => owns_vi ns
theorem frzs_vi : ∀ ns : List Int, frzs (vi ns) = vi ns
  | [] => rfl
  | n :: ns => by show Val.int n :: frzs (vi ns) = _; rw [frzs_vi ns]; rfl
theorem at_vi {ns : List Int} {i : Int} {n : Int} (h : atI ns i = some n) : atI (vi ns) i = some (.int n) := by
  unfold atI at h ⊢
  obtain ⟨j, e1, e2⟩ := Option.bind_eq_some_iff.mp h
  rw [List.length_map, e1]
  show (ns.map Val.int)[j]? = _
  rw [List.getElem?_map, e2]; rfl
theorem cut_to {ns : List Int} {k : Nat} : cutL ns none (some (k : Int)) = ns.take k := by
  unfold cutL
  rw [HT.sIx_none, HT.sIx_nat, List.drop_zero, Nat.sub_zero]
  by_cases h : k ≤ ns.length
  · rw [Nat.min_eq_left h]
  · rw [Nat.min_eq_right (by omega), List.take_length, List.take_of_length_le (by omega)]
theorem ib_sum {m : Nat} : ∀ (ns : List Int), (∀ z ∈ ns, ib z ≤ m) → ib ns.sum ≤ m + ns.length
  | [], _ => by show (0 : Nat) ≤ _; omega
  | n :: ns, h => by
    have h1 : ib n ≤ m := h n (List.mem_cons_self ..)
    have h2 := ib_sum ns fun z hz => h z (List.mem_cons_of_mem _ hz)
    rw [List.sum_cons, List.length_cons]
    exact Nat.le_trans (sz_add h1 h2) (by omega)
end PV

namespace PV
open PySem PySem.Spec PyProof.Rows L2
theorem g_eqb {a b : Bool} : gEq (.bl a) (.bl b) = some (.bl (a == b)) := by cases a <;> cases b <;> rfl
theorem g_neb {a b : Bool} : gNe (.bl a) (.bl b) = some (.bl (!(a == b))) := by cases a <;> cases b <;> rfl
theorem g_nei {i j : Int} : gNe (.int i) (.int j) = some (.bl (!decide (i = j))) := by
  show some (Val.bl _) = _
  congr 1
theorem g_inT {neg : Bool} {i : Int} {xs : List Val} (h : xs.all flatD = true) : gIn neg (.int i) (.tup xs) = some (.bl (if neg then !inV (.int i) (xs.map flV) else inV (.int i) (xs.map flV))) := by
  unfold gIn
  show (if (flatD (.int i) && xs.all flatD) = true then _ else _) = _
  rw [if_pos (by rw [h]; rfl)]
  rfl
theorem isL_nil {e : Env} {i : Nat} {o : Bool} {xs : List Val} (h : getv e i = some (.lst o xs)) : isL e i [] = some () := by
  unfold isL
  rw [h]
  rfl
theorem g_listL {o : Bool} {ns : List Int} : gList [.lst o (vi ns)] = some (.lst true (vi ns)) := by
  unfold gList
  dsimp only
  rw [owns_vi]; rfl
theorem erase_vi : ∀ (ns : List Int) (j : Nat), (vi ns).eraseIdx j = vi (ns.eraseIdx j)
  | [], _ => rfl
  | _ :: _, 0 => rfl
  | n :: ns, j + 1 => by show Val.int n :: (vi ns).eraseIdx j = Val.int n :: vi (ns.eraseIdx j); rw [erase_vi ns j]
theorem f_pop1 {ns : List Int} {r : Int} (h0 : 0 ≤ r) (h : r < ns.length) (hs : ns.length ≤ 1000000) : ∃ (j : Nat) (x : Int), ns[j]? = some x ∧ fPop1 [.int r] (vi ns) = some (vi (ns.eraseIdx j), .int x) := by
  obtain ⟨j, rfl⟩ := Int.eq_ofNat_of_zero_le h0
  have hj : j < ns.length := by omega
  refine ⟨j, ns[j], List.getElem?_eq_getElem hj, ?_⟩
  unfold fPop1 fPop
  rw [show ([Val.int (j : Int)] : List Val).isEmpty = false from rfl, if_neg (by decide)]
  dsimp only
  rw [List.length_map, ixn_nat hj]
  dsimp only
  rw [List.getElem?_map, List.getElem?_eq_getElem hj]
  dsimp only [Option.map_some]
  rw [if_pos (show rngOk (j : Int) = true from decide_eq_true ⟨by omega, by omega⟩)]
  congr 2
  exact erase_vi ns j
theorem perm_erase : ∀ {ns : List Int} {j : Nat} {x : Int}, ns[j]? = some x → ns.Perm (x :: ns.eraseIdx j)
  | [], j, x, h => by simp at h
  | y :: ns, 0, x, h => by simp at h; subst h; exact List.Perm.refl _
  | y :: ns, j + 1, x, h => by
    have := perm_erase (ns := ns) (j := j) (x := x) (by simpa using h)
    exact (List.Perm.cons y this).trans (List.Perm.swap ..)
theorem f_app {v : Val} {xs : List Val} (h : small (xs.length + 1) = true) : fAppend [v] xs = some (xs ++ [v], .non) := if_pos h
end PV

namespace PV
open PySem PySem.Spec PyProof.Rows L2
/-! ### masks -/
/-- the bits of f among 0 .. n - 1 -/
def mk (f : Nat → Bool) : Nat → Nat
  | 0 => 0
  | n + 1 => mk f n + if f n = true then 2 ^ n else 0
theorem mk_lt (f : Nat → Bool) : ∀ n, mk f n < 2 ^ n
  | 0 => by show 0 < 1; omega
  | n + 1 => by
    have := mk_lt f n
    unfold mk
    rw [Nat.pow_succ]
    split <;> omega
theorem mk_bit (f : Nat → Bool) (p : Nat) : ∀ n, mk f n / 2 ^ p % 2 = if p < n ∧ f p = true then 1 else 0
  | 0 => by
    show 0 / 2 ^ p % 2 = _
    rw [Nat.zero_div, if_neg (by omega)]
  | n + 1 => by
    have ih := mk_bit f p n
    have hl := mk_lt f n
    unfold mk
    by_cases hp : p < n
    · have e : (if p < n + 1 ∧ f p = true then 1 else 0) = if p < n ∧ f p = true then 1 else 0 := by
        by_cases hf : f p = true
        · rw [if_pos ⟨by omega, hf⟩, if_pos ⟨hp, hf⟩]
        · rw [if_neg (fun h => hf h.2), if_neg (fun h => hf h.2)]
      rw [e, ← ih]
      by_cases hn : f n = true
      · rw [if_pos hn]
        have : 2 ^ n = 2 ^ p * (2 * 2 ^ (n - p - 1)) := by
          rw [← Nat.pow_succ', ← Nat.pow_add]
          congr 1; omega
        rw [this, Nat.add_mul_div_left _ _ (Nat.two_pow_pos p), Nat.add_mul_mod_self_left]
      · rw [if_neg hn, Nat.add_zero]
    · by_cases hpn : p = n
      · subst hpn
        by_cases hn : f p = true
        · rw [if_pos hn, if_pos ⟨by omega, hn⟩]
          have : (mk f p + 2 ^ p) / 2 ^ p = 1 := by
            rw [Nat.add_div_right _ (Nat.two_pow_pos p), Nat.div_eq_of_lt hl]
          rw [this]
        · rw [if_neg hn, if_neg (fun h => hn h.2), Nat.add_zero, Nat.div_eq_of_lt hl]
      · have hlt : (mk f n + if f n = true then 2 ^ n else 0) < 2 ^ p := by
          have h2 : 2 ^ (n + 1) ≤ 2 ^ p := Nat.pow_le_pow_right (by omega) (by omega)
          rw [Nat.pow_succ] at h2
          split <;> omega
        rw [Nat.div_eq_of_lt hlt, if_neg (by omega)]
/-- a bit more -/
theorem mk_set {f : Nat → Bool} {l : Nat} (h : f l = false) : ∀ n, l < n → mk (fun y => f y || y == l) n = mk f n + 2 ^ l
  | n + 1, hl => by
    unfold mk
    by_cases e : l = n
    · subst e
      have : ∀ m, m ≤ l → mk (fun y => f y || y == l) m = mk f m := by
        intro m hm
        induction m with
        | zero => rfl
        | succ m ih =>
          unfold mk
          rw [ih (by omega)]
          have : (m == l) = false := by simpa using by omega
          simp only [this, Bool.or_false]
      rw [this l (Nat.le_refl _)]
      simp [h]
    · rw [mk_set h n (by omega)]
      have : (n == l) = false := by simpa using fun q => e q.symm
      simp only [this, Bool.or_false]
      omega
theorem run_eq {α : Type} {r : M α} {v : α} {e : Env} (h : Run r fun v' e' => v' = v ∧ e' = e) : r = ok v e := by
  obtain ⟨v', e', h1, rfl, rfl⟩ := h.eq
  exact h1
theorem shr_bit {m p : Nat} : Builtin.bitAnd ((m : Int) / 2 ^ p) 1 = ((m / 2 ^ p % 2 : Nat) : Int) := by
  rw [bitAnd_m1]
  push_cast
  rfl
end PV

namespace PV
open PySem PySem.Spec PyProof.Rows L2
/-! ### pairs decided one by one -/
structure PT (m : Nat) (nm : Nat → Nat) (D B : Nat → Nat → Bool) : Prop where
  lt : ∀ x y, B x y = true → x < m ∧ y < m
  dg : ∀ x, B x x = false
  de : ∀ p q, p < q → q < m → D p q = true → B (nm p) (nm q) = !B (nm q) (nm p)
  un : ∀ p q, p < q → q < m → D p q = false → B (nm p) (nm q) = false ∧ B (nm q) (nm p) = false
theorem PT.cong {m : Nat} {nm : Nat → Nat} {D D' B : Nat → Nat → Bool} (h : PT m nm D B) (e : ∀ p q, p < q → q < m → D' p q = D p q) : PT m nm D' B :=
  ⟨h.lt, h.dg, fun p q h1 h2 h3 => h.de p q h1 h2 (by rw [← e p q h1 h2]; exact h3), fun p q h1 h2 h3 => h.un p q h1 h2 (by rw [← e p q h1 h2]; exact h3)⟩
def addB (B : Nat → Nat → Bool) (w l : Nat) : Nat → Nat → Bool := fun x y => B x y || (x == w && y == l)
theorem PT.step {m : Nat} {nm : Nat → Nat} {D D' B : Nat → Nat → Bool} {p q : Nat} (h : PT m nm D B) (hin : ∀ i, i < m → nm i < m) (hinj : ∀ i j, i < m → j < m → nm i = nm j → i = j) (hpq : p < q) (hq : q < m) (hD : D p q = false)
    (hD' : ∀ i j, i < j → j < m → D' i j = (D i j || (i == p && j == q))) {w l : Nat} (hw : (w = nm p ∧ l = nm q) ∨ (w = nm q ∧ l = nm p)) : PT m nm D' (addB B w l) := by
  have hne : nm p ≠ nm q := fun e => by have := hinj p q (by omega) hq e; omega
  obtain ⟨u1, u2⟩ := h.un p q hpq hq hD
  refine ⟨fun x y hb => ?_, fun x => ?_, fun i j hij hj hd => ?_, fun i j hij hj hd => ?_⟩
  · unfold addB at hb
    rcases Bool.or_eq_true_iff.mp hb with hb | hb
    · exact h.lt x y hb
    · simp only [Bool.and_eq_true, beq_iff_eq] at hb
      rcases hw with ⟨rfl, rfl⟩ | ⟨rfl, rfl⟩
      · exact ⟨by rw [hb.1]; exact hin p (by omega), by rw [hb.2]; exact hin q hq⟩
      · exact ⟨by rw [hb.1]; exact hin q hq, by rw [hb.2]; exact hin p (by omega)⟩
  · unfold addB
    rw [h.dg x, Bool.false_or]
    have : ¬ (x = w ∧ x = l) := fun e => by
      rcases hw with ⟨rfl, rfl⟩ | ⟨rfl, rfl⟩
      · exact hne (e.1.symm.trans e.2)
      · exact hne (e.2.symm.trans e.1)
    simpa using this
  · rw [hD' i j hij hj] at hd
    by_cases e : i = p ∧ j = q
    · obtain ⟨rfl, rfl⟩ := e
      unfold addB
      rcases hw with ⟨rfl, rfl⟩ | ⟨rfl, rfl⟩
      · simp [u1, u2, hne, Ne.symm hne]
      · simp [u1, u2, hne, Ne.symm hne]
    · have hd2 : D i j = true := by
        rcases Bool.or_eq_true_iff.mp hd with hd | hd
        · exact hd
        · simp only [Bool.and_eq_true, beq_iff_eq] at hd
          exact absurd hd e
      have n1 : ∀ a b, (a = nm i ∧ b = nm j) ∨ (a = nm j ∧ b = nm i) → ¬ (a = w ∧ b = l) := by
        intro a b hab ⟨ea, eb⟩
        have key : (nm i = nm p ∧ nm j = nm q) ∨ (nm i = nm q ∧ nm j = nm p) := by
          rcases hab with ⟨h1, h2⟩ | ⟨h1, h2⟩ <;> rcases hw with ⟨h3, h4⟩ | ⟨h3, h4⟩ <;> subst h1 h2 h3 h4 <;> simp_all
        rcases key with ⟨k1, k2⟩ | ⟨k1, k2⟩
        · exact e ⟨hinj i p (by omega) (by omega) k1, hinj j q hj hq k2⟩
        · have := hinj i q (by omega) hq k1
          have := hinj j p hj (by omega) k2
          omega
      have m1 := n1 (nm i) (nm j) (.inl ⟨rfl, rfl⟩)
      have m2 := n1 (nm j) (nm i) (.inr ⟨rfl, rfl⟩)
      unfold addB
      have z1 : (nm i == w && nm j == l) = false := by simpa using m1
      have z2 : (nm j == w && nm i == l) = false := by simpa using m2
      rw [z1, z2, Bool.or_false, Bool.or_false]
      exact h.de i j hij hj hd2
  · rw [hD' i j hij hj] at hd
    obtain ⟨hd1, hd2⟩ := Bool.or_eq_false_iff.mp hd
    have e : ¬ (i = p ∧ j = q) := by simpa using hd2
    obtain ⟨v1, v2⟩ := h.un i j hij hj hd1
    have n1 : ∀ a b, (a = nm i ∧ b = nm j) ∨ (a = nm j ∧ b = nm i) → ¬ (a = w ∧ b = l) := by
      intro a b hab ⟨ea, eb⟩
      have key : (nm i = nm p ∧ nm j = nm q) ∨ (nm i = nm q ∧ nm j = nm p) := by
        rcases hab with ⟨h1, h2⟩ | ⟨h1, h2⟩ <;> rcases hw with ⟨h3, h4⟩ | ⟨h3, h4⟩ <;> subst h1 h2 h3 h4 <;> simp_all
      rcases key with ⟨k1, k2⟩ | ⟨k1, k2⟩
      · exact e ⟨hinj i p (by omega) (by omega) k1, hinj j q hj hq k2⟩
      · have := hinj i q (by omega) hq k1
        have := hinj j p hj (by omega) k2
        omega
    have z1 : (nm i == w && nm j == l) = false := by simpa using n1 (nm i) (nm j) (.inl ⟨rfl, rfl⟩)
    have z2 : (nm j == w && nm i == l) = false := by simpa using n1 (nm j) (nm i) (.inr ⟨rfl, rfl⟩)
    unfold addB
    rw [z1, z2, Bool.or_false, Bool.or_false]
    exact ⟨v1, v2⟩
theorem g_rgL {j : Int} {r : Val} : gRgL (.int j) = some r ↔ (decide (0 ≤ j ∧ j ≤ 16777216) = true ∧ r = .lst true (rgs j.toNat)) := g_if
theorem rgs_vi (n : Nat) : rgs n = vi ((List.range n).map fun k : Nat => (k : Int)) := by
  unfold rgs vi
  rw [List.map_map]; rfl
theorem rng2_ok {i j : Int} (h1 : -1000000 ≤ i) (h2 : i ≤ 1000000) (h3 : -1000000 ≤ j) (h4 : j ≤ 1000000) : (rngOk i && rngOk j) = true := by
  unfold rngOk
  rw [decide_eq_true (show -(2 ^ 62) ≤ i ∧ i < 2 ^ 62 by omega), decide_eq_true (show -(2 ^ 62) ≤ j ∧ j < 2 ^ 62 by omega)]
  rfl
theorem r_yes {env : Env} {Q : Bool → Env → Prop} : Run (dYes env) Q ↔ Q true env := Iff.rfl
theorem r_asg {tg : Tgt} {d : DE} {env : Env} {Q : Out → Env → Prop} : Run (dAsg tg d env) Q ↔ Run (d env) fun v e => ∃ e2, tg v e = some e2 ∧ Q .nx e2 := by
  unfold dAsg
  rw [run_bnd]
  constructor <;> intro h <;> refine h.mono fun v e h => ?_
  · cases ht : tg v e with
    | none => rw [ht] at h; exact h.elim
    | some e2 => rw [ht] at h; exact ⟨e2, rfl, h⟩
  · obtain ⟨e2, h1, h2⟩ := h
    rw [h1]; exact h2
end PV

namespace PV
open PySem PySem.Spec PyProof.Rows L2
/-! ### chains, isinstance, run -/
def two (v w : Val) (k : Int → Int → Prop) : Prop := match v, w with
  | .int i, .int j => k i j
  | _, _ => False
theorem two_mk {i j : Int} {k : Int → Int → Prop} : two (.int i) (.int j) k ↔ k i j := Iff.rfl
theorem r_chain {f f' : Int → Int → Bool} {da db dc : DE} {env : Env} {Q : Val → Env → Prop} : Run (dChain f f' da db dc env) Q ↔ Run (da env) fun v e1 => Run (db e1) fun w e2 => two v w fun i j => (f i j = true → Run (dc e2) fun u e3 => ∃ r, gIB f' (.int j) u = some r ∧ Q r e3) ∧ (f i j = false → Q (.bl false) e2) := by
  unfold dChain
  simp only [run_bnd]
  constructor <;> intro h <;> refine h.mono fun v e1 h => h.mono fun w e2 h => ?_
  · match v, w, h with
    | .int i, .int j, h =>
      have h : Run (if f i j = true then bnd (dc e2) fun u e3 => lift (gIB f' (.int j) u) e3 else ok (.bl false) e2) Q := h
      show _ ∧ _
      by_cases hf : f i j = true
      · rw [if_pos hf] at h
        simp only [run_bnd, run_lift] at h
        exact ⟨fun _ => h, fun z => by rw [hf] at z; cases z⟩
      · rw [if_neg hf] at h
        exact ⟨fun z => absurd z hf, fun _ => h⟩
  · match v, w, h with
    | .int i, .int j, h =>
      show Run (if f i j = true then _ else _) Q
      by_cases hf : f i j = true
      · rw [if_pos hf]
        simp only [run_bnd, run_lift]
        exact h.1 hf
      · rw [if_neg hf]
        exact h.2 (by simpa using hf)
theorem g_IB {f : Int → Int → Bool} {i j : Int} : gIB f (.int i) (.int j) = some (.bl (f i j)) := rfl
section
variable {T : String} {i : Int} {b : Bool} {s : Str} {xs : List Val} {o : Bool} {Ts : List String}
theorem is_int : gIsi T (.int i) = some (.bl (isSub "int" T)) := rfl
theorem is_bl : gIsi T (.bl b) = some (.bl (isSub "bool" T)) := rfl
theorem is_str : gIsi T (.str s) = some (.bl (isSub "str" T)) := rfl
theorem is_non : gIsi T .non = some (.bl (isSub "NoneType" T)) := rfl
theorem is_tup : gIsi T (.tup xs) = some (.bl (isSub "tuple" T)) := rfl
theorem is_lst : gIsi T (.lst o xs) = some (.bl (isSub "list" T)) := rfl
theorem it_int : gIsiT Ts (.int i) = some (.bl (Ts.any (isSub "int"))) := rfl
theorem it_bl : gIsiT Ts (.bl b) = some (.bl (Ts.any (isSub "bool"))) := rfl
theorem it_str : gIsiT Ts (.str s) = some (.bl (Ts.any (isSub "str"))) := rfl
theorem it_non : gIsiT Ts .non = some (.bl (Ts.any (isSub "NoneType"))) := rfl
theorem it_tup : gIsiT Ts (.tup xs) = some (.bl (Ts.any (isSub "tuple"))) := rfl
theorem it_lst : gIsiT Ts (.lst o xs) = some (.bl (Ts.any (isSub "list"))) := rfl
end
end PV

namespace PV
open PySem PySem.Spec PyProof.Rows L2
/-! ### comprehensions without tests, all of them true, slices, membership -/
theorem comp_yes {tg : Tgt} {elt : DE} {vs : List Nat} {its : List Val} {env : Env} (f : Val → Val)
    (hs : ∀ v ∈ its, ∃ e1, tg v env = some e1 ∧ Run (elt e1) fun x e3 => x = f v ∧ wipeE vs e3 = env) :
    compL tg dYes elt vs its env = ok (its.map f) env := by
  have := comp_map (tg := tg) (tests := dYes) (elt := elt) (vs := vs) (its := its) (env := env) (fun _ => true) f fun v hv => by
    obtain ⟨e1, h1, h2⟩ := hs v hv
    exact ⟨e1, h1, r_yes.mpr ⟨rfl, fun _ => h2, fun h => nomatch h⟩⟩
  rw [this, List.filter_eq_self.mpr (fun _ _ => rfl)]
theorem comp_all {tg : Tgt} {elt : DE} {vs : List Nat} {its : List Val} {env : Env}
    (hs : ∀ v ∈ its, ∃ e1, tg v env = some e1 ∧ Run (elt e1) fun x e3 => x = .bl true ∧ wipeE vs e3 = env) :
    compL tg dYes elt vs its env = ok (List.replicate its.length (.bl true)) env := by
  rw [comp_yes (fun _ => .bl true) hs, List.map_const']
theorem toBls_rep : ∀ n : Nat, toBls (List.replicate n (.bl true)) = some (List.replicate n true)
  | 0 => rfl
  | n + 1 => by
    show (toBls (List.replicate n (.bl true))).map (true :: ·) = _
    rw [toBls_rep n]; rfl
theorem g_allR {o : Bool} {n : Nat} : gAll [.lst o (List.replicate n (.bl true))] = some (.bl true) := by
  show (toBls (List.replicate n (.bl true))).map _ = _
  rw [toBls_rep]
  show some (Val.bl _) = _
  congr 2
  simp
theorem toBls_map (bs : List Bool) : toBls (bs.map .bl) = some bs := by
  induction bs with
  | nil => rfl
  | cons b bs ih =>
    show (toBls (bs.map .bl)).map (b :: ·) = _
    rw [ih]; rfl
theorem g_all {o : Bool} {bs : List Bool} : gAll [.lst o (bs.map .bl)] = some (.bl (bs.all id)) := by
  show (toBls (bs.map .bl)).map _ = _
  rw [toBls_map]; rfl
theorem g_any {o : Bool} {bs : List Bool} : gAny [.lst o (bs.map .bl)] = some (.bl (bs.any id)) := by
  show (toBls (bs.map .bl)).map _ = _
  rw [toBls_map]; rfl
theorem cut_from {α : Type} {ns : List α} {k : Nat} : cutL ns (some (k : Int)) none = ns.drop k := by
  unfold cutL
  rw [HT.sIx_none, HT.sIx_nat]
  by_cases h : k ≤ ns.length
  · rw [Nat.min_eq_left h, ← List.length_drop, List.take_length]
  · rw [Nat.min_eq_right (by omega), Nat.sub_self, List.take_zero, List.drop_eq_nil_of_le (by omega : ns.length ≤ k)]
theorem cut_from1 {α : Type} {ns : List α} : cutL ns (some 1) none = ns.drop 1 := cut_from (k := 1)
theorem g_slT {xs : List Val} {l h : Option Int} {r : Val} : gSl (.tup xs) l h = some r ↔ (owns xs = false ∧ r = .tup (cutL xs l h)) := by
  unfold gSl
  dsimp only
  cases owns xs <;> simp [eq_comm]
theorem g_slL {o : Bool} {xs : List Val} {l h : Option Int} {r : Val} : gSl (.lst o xs) l h = some r ↔ (owns xs = false ∧ r = .lst true (cutL xs l h)) := by
  unfold gSl
  dsimp only
  cases owns xs <;> simp [eq_comm]
theorem g_zipT {xs ys : List Val} : gZip [.tup xs, .tup ys] = some (zipV (frzs xs) (frzs ys)) := rfl
theorem g_zipL {o p : Bool} {xs ys : List Val} : gZip [.lst o xs, .lst p ys] = some (zipV (frzs xs) (frzs ys)) := rfl
theorem zip_vi : ∀ xs ys : List Int, zipV (vi xs) (vi ys) = (xs.zip ys).map fun p => .tup [.int p.1, .int p.2]
  | [], _ => rfl
  | _ :: _, [] => rfl
  | x :: xs, y :: ys => by show Val.tup [.int x, .int y] :: zipV (vi xs) (vi ys) = _; rw [zip_vi xs ys]; rfl
theorem vi_drop {ns : List Int} {k : Nat} : (vi ns).drop k = vi (ns.drop k) := (List.map_drop ..).symm
theorem flat_vi (ns : List Int) : (vi ns).all flatD = true := List.all_eq_true.mpr fun v hv => by
  obtain ⟨n, _, rfl⟩ := List.mem_map.mp hv; rfl
theorem inV_vi {i : Int} {ns : List Int} : inV (.int i) ((vi ns).map flV) = decide (i ∈ ns) := by
  unfold inV
  rw [List.map_map, List.any_map]
  rw [Bool.eq_iff_iff]
  simp only [List.any_eq_true, decide_eq_true_eq]
  constructor
  · rintro ⟨y, hy, e⟩
    have : y = i := by simpa [eqV, flV, Function.comp] using e
    exact this ▸ hy
  · intro h
    exact ⟨i, h, by simp [eqV, flV, Function.comp]⟩
theorem g_inVi {i : Int} {ns : List Int} : gIn false (.int i) (.tup (vi ns)) = some (.bl (decide (i ∈ ns))) := by
  rw [g_inT (flat_vi ns), ← inV_vi]; rfl
theorem g_ninVi {i : Int} {ns : List Int} : gIn true (.int i) (.tup (vi ns)) = some (.bl (!decide (i ∈ ns))) := by
  rw [g_inT (flat_vi ns), ← inV_vi]; rfl
theorem g_inVl {o : Bool} {i : Int} {ns : List Int} : gIn false (.int i) (.lst o (vi ns)) = some (.bl (decide (i ∈ ns))) := g_inVi
theorem g_ninVl {o : Bool} {i : Int} {ns : List Int} : gIn true (.int i) (.lst o (vi ns)) = some (.bl (!decide (i ∈ ns))) := g_ninVi
theorem no_non : noOwn .non = some .non := rfl
theorem no_str {s : Str} : noOwn (.str s) = some (.str s) := rfl
theorem no_lst {v : Val} (h : own v = false) : noOwn v = some v := by unfold noOwn; rw [if_neg (by rw [h]; decide)]
theorem own_tup {xs : List Val} : own (.tup xs) = owns xs := rfl
theorem own_lst {o : Bool} {xs : List Val} : own (.lst o xs) = (o || owns xs) := rfl
theorem r_callK {F : Fn} {n m : Nat} {p : List Nat} {d dk : DG} {env : Env} {Q : Val → Env → Prop} : Run (dCallK F n m p d dk env) Q ↔ Run (d env) fun as e => Run (dk e) fun bs e2 => (as.length == n && bs.length == m && pickOk p (n + m)) = true ∧ Run (callF F (pick p (as ++ bs)) e2) Q := by
  unfold dCallK
  simp only [run_bnd]
  constructor <;> intro h <;> refine h.mono fun as e h => h.mono fun bs e2 h => ?_
  · by_cases hc : (as.length == n && bs.length == m && pickOk p (n + m)) = true
    · rw [if_pos hc] at h; exact ⟨hc, h⟩
    · rw [if_neg hc] at h; exact h.elim
  · rw [if_pos h.1]; exact h.2
theorem g_tupleL {o : Bool} {xs : List Val} (h : owns xs = false) : gTuple [.lst o xs] = some (.tup xs) := by
  unfold gTuple; dsimp only; rw [h]; rfl
theorem g_tupleT {xs : List Val} (h : owns xs = false) : gTuple [.tup xs] = some (.tup xs) := by
  unfold gTuple; dsimp only; rw [h]; rfl
theorem g_listO {o : Bool} {xs : List Val} (h : owns xs = false) : gList [.lst o xs] = some (.lst true xs) := by
  unfold gList; dsimp only; rw [h]; rfl
theorem g_listT {xs : List Val} (h : owns xs = false) : gList [.tup xs] = some (.lst true xs) := by
  unfold gList; dsimp only; rw [h]; rfl
theorem isub : isSub "int" "int" = true ∧ isSub "int" "bool" = false ∧ isSub "int" "str" = false ∧ isSub "int" "tuple" = false ∧ isSub "int" "list" = false ∧ isSub "bool" "int" = true ∧ isSub "bool" "bool" = true ∧ isSub "bool" "str" = false ∧ isSub "bool" "tuple" = false ∧ isSub "bool" "list" = false ∧ isSub "str" "int" = false ∧ isSub "str" "bool" = false ∧ isSub "str" "str" = true ∧ isSub "str" "tuple" = false ∧ isSub "str" "list" = false ∧ isSub "NoneType" "int" = false ∧ isSub "NoneType" "bool" = false ∧ isSub "NoneType" "str" = false ∧ isSub "NoneType" "tuple" = false ∧ isSub "NoneType" "list" = false ∧ isSub "tuple" "int" = false ∧ isSub "tuple" "bool" = false ∧ isSub "tuple" "str" = false ∧ isSub "tuple" "tuple" = true ∧ isSub "tuple" "list" = false ∧ isSub "list" "int" = false ∧ isSub "list" "bool" = false ∧ isSub "list" "str" = false ∧ isSub "list" "tuple" = false ∧ isSub "list" "list" = true ∧ ["list", "tuple"].any (isSub "int") = false ∧ ["list", "tuple"].any (isSub "bool") = false ∧ ["list", "tuple"].any (isSub "str") = false ∧ ["list", "tuple"].any (isSub "NoneType") = false ∧ ["list", "tuple"].any (isSub "tuple") = true ∧ ["list", "tuple"].any (isSub "list") = true ∧ ["tuple", "list"].any (isSub "int") = false ∧ ["tuple", "list"].any (isSub "bool") = false ∧ ["tuple", "list"].any (isSub "str") = false ∧ ["tuple", "list"].any (isSub "NoneType") = false ∧ ["tuple", "list"].any (isSub "tuple") = true ∧ ["tuple", "list"].any (isSub "list") = true ∧ ["int", "str"].any (isSub "int") = true ∧ ["int", "str"].any (isSub "bool") = true ∧ ["int", "str"].any (isSub "str") = true ∧ ["int", "str"].any (isSub "NoneType") = false ∧ ["int", "str"].any (isSub "tuple") = false ∧ ["int", "str"].any (isSub "list") = false ∧ ["str", "int"].any (isSub "int") = true ∧ ["str", "int"].any (isSub "bool") = true ∧ ["str", "int"].any (isSub "str") = true ∧ ["str", "int"].any (isSub "NoneType") = false ∧ ["str", "int"].any (isSub "tuple") = false ∧ ["str", "int"].any (isSub "list") = false := by decide
theorem r_ok {α : Type} {v : α} {e : Env} {Q : α → Env → Prop} : Run (ok v e) Q ↔ Q v e := Iff.rfl
theorem fins_1 {v : Val} {e : Env} : fins 1 [0] (v :: e) = [v] := rfl
theorem fins_2 {v w : Val} {e : Env} : fins 2 [0, 1] (v :: w :: e) = [v, w] := rfl
theorem fins_3 {v w u : Val} {e : Env} : fins 3 [0, 1, 2] (v :: w :: u :: e) = [v, w, u] := rfl
theorem fins_4 {v w u t : Val} {e : Env} : fins 4 [0, 1, 2, 3] (v :: w :: u :: t :: e) = [v, w, u, t] := rfl
theorem fins_5 {v w u t s : Val} {e : Env} : fins 5 [0, 1, 2, 3, 4] (v :: w :: u :: t :: s :: e) = [v, w, u, t, s] := rfl
theorem g_isn : gIsN false .non .non = some (.bl true) ∧ (∀ i, gIsN false (.int i) .non = some (.bl false)) ∧ (∀ i, gIsN false (.bl i) .non = some (.bl false)) ∧ (∀ i, gIsN false (.str i) .non = some (.bl false)) ∧ (∀ i, gIsN false (.tup i) .non = some (.bl false)) ∧ (∀ o i, gIsN false (.lst o i) .non = some (.bl false)) := ⟨rfl, fun _ => rfl, fun _ => rfl, fun _ => rfl, fun _ => rfl, fun _ _ => rfl⟩
theorem g_isnn : gIsN true .non .non = some (.bl false) ∧ (∀ i, gIsN true (.int i) .non = some (.bl true)) ∧ (∀ i, gIsN true (.bl i) .non = some (.bl true)) ∧ (∀ i, gIsN true (.str i) .non = some (.bl true)) ∧ (∀ i, gIsN true (.tup i) .non = some (.bl true)) ∧ (∀ o i, gIsN true (.lst o i) .non = some (.bl true)) := ⟨rfl, fun _ => rfl, fun _ => rfl, fun _ => rfl, fun _ => rfl, fun _ _ => rfl⟩
end PV

namespace PV
open PySem PySem.Spec PyProof.Rows L2
/-! ### lots, tables of a relation -/
/-- those of f among 0 .. n - 1 -/
def lot (f : Nat → Bool) (n : Nat) : List Int := ((List.range n).filter f).map fun y : Nat => (y : Int)
theorem mem_lot {f : Nat → Bool} {n : Nat} {z : Int} : z ∈ lot f n ↔ ∃ y : Nat, z = y ∧ y < n ∧ f y = true := by
  unfold lot
  simp only [List.mem_map, List.mem_filter, List.mem_range]
  constructor
  · rintro ⟨y, ⟨h1, h2⟩, rfl⟩; exact ⟨y, rfl, h1, h2⟩
  · rintro ⟨y, rfl, h1, h2⟩; exact ⟨y, ⟨h1, h2⟩, rfl⟩
theorem mem_lotN {f : Nat → Bool} {n y : Nat} (h : y < n) : decide ((y : Int) ∈ lot f n) = f y := by
  rw [Bool.eq_iff_iff, decide_eq_true_iff, mem_lot]
  constructor
  · rintro ⟨x, e, _, h⟩
    have : x = y := by omega
    exact this ▸ h
  · intro h2; exact ⟨y, rfl, h, h2⟩
theorem lot_len (f : Nat → Bool) (n : Nat) : (lot f n).length ≤ n := by
  unfold lot
  rw [List.length_map]
  have := List.length_filter_le f (List.range n)
  rw [List.length_range] at this
  exact this
theorem lot_rise (f : Nat → Bool) (n : Nat) : (lot f n).Pairwise (· < ·) := by
  unfold lot
  rw [List.pairwise_map]
  refine List.Pairwise.imp ?_ (List.Pairwise.filter f (List.pairwise_lt_range (n := n)))
  intro a b h; omega
theorem lot_lt {f : Nat → Bool} {n : Nat} {z : Int} (h : z ∈ lot f n) : 0 ≤ z ∧ z < n := by
  obtain ⟨y, rfl, h1, _⟩ := mem_lot.mp h
  omega
/-- the masks, the table of B -/
def wn (B : Nat → Nat → Bool) (n : Nat) : List Int := (List.range n).map fun x => ((mk (B x) n : Nat) : Int)
def tabV (B : Nat → Nat → Bool) (n : Nat) : List Val := (List.range n).map fun x => .tup (vi (lot (B x) n))
theorem owns_tab (B : Nat → Nat → Bool) (n : Nat) : owns (tabV B n) = false := by
  rw [owns_any, List.any_eq_false]
  intro v hv
  obtain ⟨x, _, rfl⟩ := List.mem_map.mp hv
  show ¬ owns (vi _) = true
  rw [owns_vi]; decide
theorem frz_of : ∀ (v : Val), own v = false → frz v = v
  | .gone, _ | .non, _ | .bl _, _ | .int _, _ | .str _, _ | .scr _, _ => rfl
  | .tup xs, h => by show Val.tup (frzs xs) = _; rw [frzs_of xs h]
  | .lst o xs, h => by
    have h := Bool.or_eq_false_iff.mp (show (o || owns xs) = false from h)
    show Val.lst false (frzs xs) = _
    rw [frzs_of xs h.2, h.1]
  | .dic o ks vs, h => by
    have h := Bool.or_eq_false_iff.mp (show (o || owns vs) = false from h)
    show Val.dic false ks (frzs vs) = _
    rw [frzs_of vs h.2, h.1]
  | .ins o n ns vs, h => by
    have h := Bool.or_eq_false_iff.mp (show (o || owns vs) = false from h)
    show Val.ins false n ns (frzs vs) = _
    rw [frzs_of vs h.2, h.1]
where frzs_of : ∀ (vs : List Val), owns vs = false → frzs vs = vs
  | [], _ => rfl
  | v :: vs, h => by
    have h := Bool.or_eq_false_iff.mp (show (own v || owns vs) = false from h)
    show frz v :: frzs vs = _
    rw [frz_of v h.1, frzs_of vs h.2]
theorem frzs_of {vs : List Val} (h : owns vs = false) : frzs vs = vs := frz_of.frzs_of vs h
theorem frzs_tab (B : Nat → Nat → Bool) (n : Nat) : frzs (tabV B n) = tabV B n := frzs_of (owns_tab B n)
theorem tab_len (B : Nat → Nat → Bool) (n : Nat) : (tabV B n).length = n := by unfold tabV; rw [List.length_map, List.length_range]
theorem tab_at {B : Nat → Nat → Bool} {n x : Nat} (h : x < n) : atI (tabV B n) (x : Int) = some (.tup (vi (lot (B x) n))) := by
  refine at_nat ?_
  unfold tabV
  rw [List.getElem?_map, List.getElem?_range h]; rfl
theorem wn_len (B : Nat → Nat → Bool) (m : Nat) : (wn B m).length = m := by unfold wn; rw [List.length_map, List.length_range]
theorem wn_get {B : Nat → Nat → Bool} {m x : Nat} (hx : x < m) : (wn B m)[x]? = some ((mk (B x) m : Nat) : Int) := by
  unfold wn
  rw [List.getElem?_map, List.getElem?_range hx]; rfl
theorem wn_set {B : Nat → Nat → Bool} {m w l : Nat} (hw : w < m) (hl : l < m) (hB : B w l = false) : (wn B m).set w (((mk (B w) m : Nat) : Int) + 1 * 2 ^ (l : Int).toNat) = wn (addB B w l) m := by
  apply List.ext_getElem?
  intro x
  by_cases hx : x < m
  · rw [wn_get hx]
    by_cases e : w = x
    · subst e
      rw [List.getElem?_set_self (by rw [wn_len]; exact hw)]
      have : mk (addB B w l w) m = mk (B w) m + 2 ^ l := by
        have e2 : addB B w l w = fun y => B w y || y == l := by funext y; simp [addB]
        rw [e2]
        exact mk_set hB m hl
      rw [this, Int.toNat_natCast]
      push_cast
      simp
    · rw [List.getElem?_set_ne e, wn_get hx]
      have e2 : addB B w l x = B x := by funext y; simp [addB, Ne.symm e]
      rw [e2]
  · rw [List.getElem?_eq_none (by rw [List.length_set, wn_len]; omega), List.getElem?_eq_none (by rw [wn_len]; omega)]
def Tour (B : Nat → Nat → Bool) (m : Nat) : Prop := (∀ x y, x < m → y < m → x ≠ y → B x y = !B y x) ∧ (∀ x, B x x = false) ∧ ∀ x y, B x y = true → x < m ∧ y < m
/-- alike values -/
def Alike : Nat → Val → Val → Prop
  | 0, _, _ => False
  | n + 1, v, w => match v, w with
    | .int i, .int j => i = j
    | .bl a, .bl b => a = b
    | .str s, .str t => s = t ∧ gEq (.str s) (.str s) = some (.bl true)
    | .non, .non => True
    | .tup xs, .tup ys => owns xs = false ∧ owns ys = false ∧ xs.length = ys.length ∧ xs.length ≤ 1000 ∧ ∀ (i : Nat) x y, xs[i]? = some x → ys[i]? = some y → Alike n x y
    | .lst _ xs, .lst _ ys => owns xs = false ∧ owns ys = false ∧ xs.length = ys.length ∧ xs.length ≤ 1000 ∧ ∀ (i : Nat) x y, xs[i]? = some x → ys[i]? = some y → Alike n x y
    | _, _ => False
theorem alike_vi {n : Nat} {xs : List Int} (h : xs.length ≤ 1000) : Alike (n + 2) (.tup (vi xs)) (.tup (vi xs)) := by
  refine ⟨owns_vi _, owns_vi _, rfl, by rw [List.length_map]; exact h, fun i x y h1 h2 => ?_⟩
  rw [h1] at h2
  cases h2
  obtain ⟨z, _, rfl⟩ := List.mem_map.mp (List.mem_of_getElem? h1)
  rfl
inductive All2 (P : Val → Val → Prop) : List Val → List Val → Prop
  | nil : All2 P [] []
  | cons {x y xs ys} (h : P x y) (t : All2 P xs ys) : All2 P (x :: xs) (y :: ys)
theorem All2.len {P : Val → Val → Prop} {xs ys : List Val} (h : All2 P xs ys) : xs.length = ys.length := by
  induction h with
  | nil => rfl
  | cons _ _ ih => simp [ih]
theorem alike_lst {n : Nat} {o p : Bool} {xs ys : List Val} (h1 : owns xs = false) (h2 : owns ys = false) (h : All2 (Alike n) xs ys) (hl : xs.length ≤ 1000) : Alike (n + 1) (.lst o xs) (.lst p ys) := by
  refine ⟨h1, h2, h.len, hl, ?_⟩
  clear h1 h2 hl
  induction h with
  | nil => intro i x y h; simp at h
  | cons h _ ih =>
    intro i x y h1 h2
    cases i with
    | zero => simp at h1 h2; subst h1 h2; exact h
    | succ i => exact ih i x y (by simpa using h1) (by simpa using h2)
theorem owns_at {xs : List Val} {i : Nat} {x : Val} (h : owns xs = false) (hx : xs[i]? = some x) : own x = false := by
  rw [owns_any, List.any_eq_false] at h
  simpa using h x (List.mem_of_getElem? hx)
/-- a def that ends without a return -/
theorem fn_nx {np ns : Nat} {pr : List Nat} {d : DS} {vs : List Val} {fs : List Val} (hl : vs.length = np) (h : Run (d (vs ++ List.replicate (ns - np) .gone)) fun o e => o = .nx ∧ fins np pr e = fs) : mkFn np ns pr d vs = some (.ok .non, fs) := by
  obtain ⟨o, e, h1, h2, h3⟩ := h.eq
  unfold mkFn
  rw [if_pos hl, h1, h2]
  show some (Except.ok Val.non, fins np pr e) = _
  rw [h3]
/-- the games behind k rounds -/
def pts (B : Nat → Nat → Bool) (m : Nat) : Nat → Nat → Int
  | 0, _ => 1
  | k + 1, x => ((lot (B x) m).map fun y => pts B m k y.toNat).sum
abbrev ptl (B : Nat → Nat → Bool) (m k : Nat) : List Int := (List.range m).map (pts B m k)
theorem ptl_at {B : Nat → Nat → Bool} {m k y : Nat} (h : y < m) : atI (vi (ptl B m k)) (y : Int) = some (.int (pts B m k y)) := by
  refine at_vi (at_nat ?_)
  rw [List.getElem?_map, List.getElem?_range h]; rfl
theorem ptl_0 (B : Nat → Nat → Bool) (m : Nat) : (List.replicate m [Val.int 1]).flatten = vi (ptl B m 0) := by
  induction m with
  | zero => rfl
  | succ m ih =>
    rw [List.replicate_succ', List.flatten_append, ih]
    unfold ptl vi
    rw [List.range_succ, List.map_append, List.map_append]
    rfl
end PV

namespace PV
open PySem PySem.Spec PyProof.Rows L2
/-! ### names, called anew -/
theorem mk_congr {f g : Nat → Bool} : ∀ n, (∀ y, y < n → f y = g y) → mk f n = mk g n
  | 0, _ => rfl
  | n + 1, h => by unfold mk; rw [mk_congr n fun y hy => h y (by omega), h n (by omega)]
theorem mk_none : ∀ n, mk (fun _ => false) n = 0
  | 0 => rfl
  | n + 1 => by unfold mk; rw [mk_none n]; rfl
theorem mk_low {x : Nat} : ∀ n, mk (fun y => decide (y < x)) n = 2 ^ (min x n) - 1
  | 0 => by simp [mk]
  | n + 1 => by
    unfold mk
    rw [mk_low n]
    by_cases h : n < x
    · rw [Nat.min_eq_right (by omega), Nat.min_eq_right (by omega), decide_eq_true h, Nat.pow_succ]
      have := Nat.two_pow_pos n
      simp; omega
    · rw [Nat.min_eq_left (by omega), Nat.min_eq_left (by omega), decide_eq_false h]; simp
theorem mk_sum {n : Nat} : ∀ ys : List Nat, ys.Nodup → (∀ y ∈ ys, y < n) → (ys.map (2 ^ ·)).sum = mk (fun y => decide (y ∈ ys)) n
  | [], _, _ => by simp [mk_none]
  | y :: ys, hd, hl => by
    obtain ⟨h1, h2⟩ := List.nodup_cons.mp hd
    rw [List.map_cons, List.sum_cons, mk_sum ys h2 fun z hz => hl z (List.mem_cons_of_mem _ hz)]
    have e : (fun z => decide (z ∈ y :: ys)) = fun z => decide (z ∈ ys) || z == y := by
      funext z
      rw [Bool.eq_iff_iff]
      simp [or_comm]
    rw [e, mk_set (decide_eq_false h1) n (hl y (List.mem_cons_self ..))]
    omega
theorem wn_congr {B C : Nat → Nat → Bool} {m : Nat} (h : ∀ x y, x < m → y < m → B x y = C x y) : wn B m = wn C m := by
  unfold wn
  refine List.map_congr_left fun x hx => ?_
  rw [mk_congr m fun y hy => h x y (List.mem_range.mp hx) hy]
theorem wn_0 (m : Nat) : (List.replicate m [Val.int 0]).flatten = vi (wn (fun _ _ => false) m) := by
  unfold wn vi
  rw [List.map_map]
  have : ∀ k, (List.replicate k [Val.int 0]).flatten = (List.range k).map (Val.int ∘ fun x => ((mk ((fun _ _ => false : Nat → Nat → Bool) x) m : Nat) : Int)) := fun k => by
    induction k with
    | zero => rfl
    | succ k ih => rw [List.range_succ, List.map_append, ← ih, List.replicate_succ', List.flatten_append]; simp [mk_none]
  exact this m
theorem wn_put {B : Nat → Nat → Bool} {g : Nat → Bool} {m w : Nat} (hw : w < m) : (wn B m).set w ((mk g m : Nat) : Int) = wn (fun x => if x = w then g else B x) m := by
  apply List.ext_getElem?
  intro x
  by_cases hx : x < m
  · rw [wn_get hx]
    by_cases e : w = x
    · subst e
      rw [List.getElem?_set_self (by rw [wn_len]; exact hw), if_pos rfl]
    · rw [List.getElem?_set_ne e, wn_get hx, if_neg (Ne.symm e)]
  · rw [List.getElem?_eq_none (by rw [List.length_set, wn_len]; omega), List.getElem?_eq_none (by rw [wn_len]; omega)]
theorem f_setN {xs : List Val} {i : Nat} {v : Val} (h : i < xs.length) : fSet [.int (i : Int), v] xs = some (xs.set i v, .non) := by
  show Option.map (fun j => (xs.set j v, Val.non)) (ixN xs.length (i : Int)) = _
  rw [ixn_nat h]; rfl
/-- an order of 0 .. m - 1, its places -/
structure Nm (m : Nat) (nm iv : Nat → Nat) : Prop where
  lt : ∀ i, i < m → nm i < m
  il : ∀ x, x < m → iv x < m
  ni : ∀ x, x < m → nm (iv x) = x
  in' : ∀ i, i < m → iv (nm i) = i
theorem perm_nm {m : Nat} {ns : List Int} (h : ns.Perm ((List.range m).map fun k : Nat => (k : Int))) : ∃ nm iv, Nm m nm iv ∧ ns = (List.range m).map fun i => (nm i : Int) := by
  have hl : ns.length = m := by rw [h.length_eq]; simp
  have hmem : ∀ z ∈ ns, 0 ≤ z ∧ z < m := fun z hz => by
    obtain ⟨k, hk, rfl⟩ := List.mem_map.mp (h.mem_iff.mp hz)
    have := List.mem_range.mp hk
    exact ⟨by omega, by omega⟩
  have hnd : ns.Nodup := h.nodup_iff.mpr (List.pairwise_map.mpr (List.nodup_range.imp fun h e => h (by omega)))
  have hg : ∀ i, i < m → ns[i]? = some ((((ns.getD i 0).toNat : Nat)) : Int) := fun i hi => by
    have g : ns[i]? = some ns[i] := List.getElem?_eq_getElem (by omega)
    have := hmem ns[i] (List.getElem_mem _)
    rw [List.getD_eq_getElem?_getD, g]
    show some ns[i] = some ((ns[i].toNat : Nat) : Int)
    rw [Int.toNat_of_nonneg this.1]
  have hs : ∀ x : Nat, x < m → (x : Int) ∈ ns := fun x hx => h.mem_iff.mpr (List.mem_map.mpr ⟨x, List.mem_range.mpr hx, rfl⟩)
  have hi : ∀ x : Nat, x < m → ns.idxOf (x : Int) < m ∧ ns[ns.idxOf (x : Int)]? = some (x : Int) := fun x hx => by
    have := List.idxOf_lt_length_of_mem (hs x hx)
    refine ⟨by omega, ?_⟩
    rw [List.getElem?_eq_getElem this, List.getElem_idxOf]
  refine ⟨fun i => (ns.getD i 0).toNat, fun x => ns.idxOf (x : Int), ⟨fun i h => ?_, fun x hx => (hi x hx).1, fun x hx => ?_, fun i h => ?_⟩, ?_⟩
  · have := hmem _ (List.mem_of_getElem? (hg i h))
    exact Int.ofNat_lt.mp this.2
  · have h1 := hg _ (hi x hx).1
    rw [(hi x hx).2] at h1
    have := Option.some.inj h1
    omega
  · have h1 := hg i h
    have hlt : (ns.getD i 0).toNat < m := by
      have := hmem _ (List.mem_of_getElem? h1)
      exact Int.ofNat_lt.mp this.2
    have h2 := (hi _ hlt).2
    exact ((List.getElem?_inj (by omega) hnd).mp (h1.trans h2.symm)).symm
  · apply List.ext_getElem?
    intro i
    by_cases h : i < m
    · rw [hg i h, List.getElem?_map, List.getElem?_range h]; rfl
    · rw [List.getElem?_eq_none (by omega), List.getElem?_eq_none (by simp; omega)]
theorem Nm.inj {m : Nat} {nm iv : Nat → Nat} (h : Nm m nm iv) {i j : Nat} (hi : i < m) (hj : j < m) (e : nm i = nm j) : i = j := by
  rw [← h.in' i hi, ← h.in' j hj, e]
theorem Nm.at_ {m i : Nat} {nm iv : Nat → Nat} (_ : Nm m nm iv) (hi : i < m) : atI (vi ((List.range m).map fun i => (nm i : Int))) (i : Int) = some (.int (nm i : Int)) := by
  refine at_vi (at_nat ?_)
  rw [List.getElem?_map, List.getElem?_range hi]; rfl
def ren (B : Nat → Nat → Bool) (m : Nat) (iv : Nat → Nat) : Nat → Nat → Bool := fun x y => decide (x < m) && (decide (y < m) && B (iv x) (iv y))
theorem ren_tour {B : Nat → Nat → Bool} {m : Nat} {nm iv : Nat → Nat} (h : Nm m nm iv) (hT : Tour B m) : Tour (ren B m iv) m := by
  refine ⟨fun x y hx hy hxy => ?_, fun x => ?_, fun x y hb => ?_⟩
  · unfold ren
    simp only [decide_eq_true hx, decide_eq_true hy, Bool.true_and]
    refine hT.1 _ _ (h.il x hx) (h.il y hy) fun e => hxy ?_
    rw [← h.ni x hx, ← h.ni y hy, e]
  · unfold ren; rw [hT.2.1]; simp
  · unfold ren at hb
    simp only [Bool.and_eq_true, decide_eq_true_eq] at hb
    exact ⟨hb.1, hb.2.1⟩
theorem ren_mask {B : Nat → Nat → Bool} {m p : Nat} {nm iv : Nat → Nat} (h : Nm m nm iv) (hp : p < m) : ((lot (B p) m).map fun y => (1 : Int) * 2 ^ (((nm y.toNat : Nat) : Int)).toNat).sum = ((mk (ren B m iv (nm p)) m : Nat) : Int) := by
  have e1 : ∀ ys : List Nat, ((ys.map fun y : Nat => (y : Int)).map fun y => (1 : Int) * 2 ^ (((nm y.toNat : Nat) : Int)).toNat).sum = ((((ys.map nm).map (2 ^ ·)).sum : Nat) : Int) := fun ys => by
    induction ys with
    | nil => rfl
    | cons y ys ih =>
      rw [List.map_cons, List.map_cons, List.sum_cons, ih, List.map_cons, List.map_cons, List.sum_cons]
      push_cast
      simp
  unfold lot
  rw [e1, mk_sum (n := m)]
  · congr 1
    refine mk_congr m fun y hy => ?_
    rw [Bool.eq_iff_iff]
    unfold ren
    simp only [decide_eq_true_eq, List.mem_map, List.mem_filter, List.mem_range, Bool.and_eq_true, h.in' p hp]
    constructor
    · rintro ⟨z, ⟨hz, hb⟩, rfl⟩
      exact ⟨h.lt p hp, h.lt z hz, by rw [h.in' z hz]; exact hb⟩
    · rintro ⟨_, _, hb⟩
      exact ⟨iv y, ⟨h.il y hy, hb⟩, h.ni y hy⟩
  · rw [List.nodup_iff_pairwise_ne, List.pairwise_map]
    refine List.Pairwise.imp_of_mem ?_ (List.Pairwise.filter _ (List.nodup_range (n := m)))
    intro a b ha hb hab e
    exact hab (h.inj (List.mem_range.mp (List.mem_filter.mp ha).1) (List.mem_range.mp (List.mem_filter.mp hb).1) e)
  · intro y hy
    obtain ⟨z, hz, rfl⟩ := List.mem_map.mp hy
    exact h.lt z (List.mem_range.mp (List.mem_filter.mp hz).1)
end PV

namespace PV
open PySem PySem.Spec PyProof.Rows L2
section
variable {α : Type} {tg : Tgt} {tests : DT} {elt : DE} {vs : List Nat} {its : List Val} {env : Env}
/-- a comprehension over things named by xs, the frame stays -/
theorem comp_flt (xs : List α) (g f : α → Val) (p : α → Bool) (hi : its = xs.map g)
    (hs : ∀ x ∈ xs, ∃ e1, tg (g x) env = some e1 ∧ Run (tests e1) fun b e2 => b = p x ∧ (b = true → Run (elt e2) fun y e3 => y = f x ∧ wipeE vs e3 = env) ∧ (b = false → wipeE vs e2 = env)) :
    compL tg tests elt vs its env = ok ((xs.filter p).map f) env := by
  subst hi
  induction xs with
  | nil => rfl
  | cons x r ih =>
    have ih := ih fun w hw => hs w (List.mem_cons_of_mem _ hw)
    obtain ⟨e1, h1, h2⟩ := hs x (List.mem_cons_self ..)
    obtain ⟨b, e2, h3, rfl, h4, h5⟩ := h2.eq
    rw [List.map_cons]
    unfold compL
    rw [h1]
    dsimp only
    rw [h3]
    show (if p x = true then _ else _) = _
    rw [List.filter_cons]
    by_cases hp : p x = true
    · rw [if_pos hp, if_pos hp]
      obtain ⟨y, e3, h6, rfl, h7⟩ := (h4 hp).eq
      rw [h6]
      show bnd (compL tg tests elt vs (r.map g) (wipeE vs e3)) _ = _
      rw [h7, ih]
      rfl
    · rw [if_neg hp, if_neg hp, h5 (by simpa using hp), ih]
theorem comp_gen (xs : List α) (g f : α → Val) (hi : its = xs.map g)
    (hs : ∀ x ∈ xs, ∃ e1, tg (g x) env = some e1 ∧ Run (elt e1) fun y e3 => y = f x ∧ wipeE vs e3 = env) :
    compL tg dYes elt vs its env = ok (xs.map f) env := by
  rw [comp_flt xs g f (fun _ => true) hi fun x hx => ?_]
  · rw [List.filter_eq_self.mpr (fun _ _ => rfl)]
  · obtain ⟨e1, h1, h2⟩ := hs x hx
    exact ⟨e1, h1, r_yes.mpr ⟨rfl, fun _ => h2, fun h => nomatch h⟩⟩
end
theorem vi_map {α : Type} {xs : List α} {f : α → Int} : vi (xs.map f) = xs.map fun x => Val.int (f x) := List.map_map ..
theorem g_sumM {α : Type} {o : Bool} {xs : List α} {f : α → Int} : gSum [.lst o (xs.map fun x => Val.int (f x))] = some (.int (xs.map f).sum) := by
  rw [← vi_map]; exact g_sum
theorem vi_wn (B : Nat → Nat → Bool) (m : Nat) : vi (wn B m) = (List.range m).map fun x => Val.int ((mk (B x) m : Nat) : Int) := vi_map
theorem vi_lot (f : Nat → Bool) (m : Nat) : vi (lot f m) = ((List.range m).filter f).map fun y : Nat => Val.int (y : Int) := vi_map
theorem vi_ptl (B : Nat → Nat → Bool) (m k : Nat) : vi (ptl B m k) = (List.range m).map fun x => Val.int (pts B m k x) := vi_map
theorem lotS {f : Nat → Bool} {m : Nat} {h : Int → Int} : ((lot f m).map h).sum = (((List.range m).filter f).map fun y : Nat => h (y : Int)).sum := by
  unfold lot; rw [List.map_map]; rfl
theorem pts_s (B : Nat → Nat → Bool) (m k x : Nat) : pts B m (k + 1) x = (((List.range m).filter (B x)).map fun y : Nat => pts B m k y).sum := by
  show ((lot (B x) m).map fun y => pts B m k y.toNat).sum = _
  rw [lotS]; rfl
theorem small_map {α β : Type} {f : α → β} {xs : List α} (h : xs.length ≤ 1000) : small (xs.map f).length = true := decide_eq_true (by rw [List.length_map]; omega)
theorem mul_ok {m : Nat} {v : Val} (h : m ≤ 1000) (ho : own v = false) : (decide (-9223372036854775808 ≤ (m : Int) ∧ (m : Int) < 9223372036854775808) && small ([v].length * m) && !owns [v]) = true := by
  rw [decide_eq_true (show (-9223372036854775808 : Int) ≤ m ∧ (m : Int) < 9223372036854775808 by omega), show small ([v].length * m) = true from decide_eq_true (by simp; omega)]
  show (!(own v || false)) = true
  rw [ho]; rfl
theorem bit_ok {f : Nat → Bool} {m p : Nat} (hp : p < m) : decide (Builtin.bitAnd (((mk f m : Nat) : Int) / 2 ^ p) 1 = 1) = f p := by
  rw [shr_bit, mk_bit]
  by_cases h2 : f p = true <;> simp [hp, h2]
theorem shr_ok {a : Int} {p : Nat} (h : p < 1000) : cShr a (p : Int) = true := decide_eq_true (by omega)
theorem filt_len {m : Nat} {f : Nat → Bool} : ((List.range m).filter f).length ≤ m := by
  have := List.length_filter_le f (List.range m)
  rw [List.length_range] at this
  exact this
end PV
namespace PV
theorem tab_eq (B : Nat → Nat → Bool) (m : Nat) : tabV B m = (List.range m).map fun x => Val.tup (vi (lot (B x) m)) := rfl
theorem rgs_eq (m : Nat) : rgs m = (List.range m).map fun y : Nat => Val.int (y : Int) := rfl
end PV
namespace PV
open PySem PySem.Spec PyProof.Rows L2
theorem ren_mask' {B : Nat → Nat → Bool} {m p : Nat} {nm iv : Nat → Nat} (h : Nm m nm iv) (hp : p < m) : (((List.range m).filter (B p)).map fun y => (1 : Int) * 2 ^ nm y).sum = ((mk (ren B m iv (nm p)) m : Nat) : Int) := by
  rw [← ren_mask h hp, lotS]
  simp only [Int.toNat_natCast]
theorem g_mulR {k : Nat} {v : Val} (h1 : 1 ≤ k) (h2 : k ≤ 1000) (ho : own v = false) : gMulU (.tup [v]) (.int k) = some (.tup (List.replicate k v)) := by
  have how : owns [v] = false := by show (own v || false) = false; rw [ho]; rfl
  unfold gMulU
  dsimp only
  rw [how]
  by_cases h : k = 1
  · subst h; rfl
  · rw [if_neg (by simp; omega)]
    unfold gMulT
    dsimp only
    rw [how, if_pos]
    · rw [Int.toNat_natCast]
      congr 2
      clear h1 h2 h
      induction k with
      | zero => rfl
      | succ k ih => rw [List.replicate_succ, List.replicate_succ, List.flatten_cons, ih]; rfl
    · rw [decide_eq_true (show 2 ≤ (k : Int) ∧ (k : Int) ≤ 1000 ∧ [v].length ≤ 1000 from ⟨by omega, by omega, by simp⟩)]; rfl
def low (m : Nat) : Nat → Nat → Bool := fun x y => decide (x < m) && decide (y < x)
theorem low_tour (m : Nat) : Tour (low m) m := by
  refine ⟨fun x y hx hy hxy => ?_, fun x => by simp [low], fun x y h => ?_⟩
  · rw [Bool.eq_iff_iff]; simp [low]; omega
  · simp [low] at h; omega
theorem low_mk {m x : Nat} (h : x < m) : (1 : Int) * 2 ^ x - 1 = ((mk (low m x) m : Nat) : Int) := by
  have : low m x = fun y => decide (y < x) := by funext y; simp [low, h]
  rw [this, mk_low, Nat.min_eq_left (by omega)]
  have := Nat.two_pow_pos x
  have e : ((2 ^ x - 1 : Nat) : Int) = ((2 ^ x : Nat) : Int) - 1 := by omega
  rw [e]
  push_cast
  omega
theorem sum0 {α : Type} {xs : List α} {f : α → Int} (h : ∀ x ∈ xs, f x = 0) : (xs.map f).sum = 0 := by
  induction xs with
  | nil => rfl
  | cons x xs ih => rw [List.map_cons, List.sum_cons, h x (List.mem_cons_self ..), ih fun y hy => h y (List.mem_cons_of_mem _ hy)]; rfl
theorem sumC {α : Type} {xs : List α} {f : α → Int} {c : Int} (h : ∀ x ∈ xs, f x = c) : (xs.map f).sum = xs.length * c := by
  induction xs with
  | nil => simp
  | cons x xs ih =>
    rw [List.map_cons, List.sum_cons, h x (List.mem_cons_self ..), ih fun y hy => h y (List.mem_cons_of_mem _ hy), List.length_cons]
    push_cast
    rw [Int.add_mul, Int.one_mul, Int.add_comm]
/-- of an order nothing is left behind so many rounds -/
theorem pts_low {m : Nat} {nm iv : Nat → Nat} (h : Nm m nm iv) : ∀ k x, x < m → iv x < k → pts (ren (low m) m iv) m k x = 0
  | 0, x, _, hk => by omega
  | k + 1, x, hx, hk => by
    rw [pts_s]
    refine sum0 fun y hy => ?_
    obtain ⟨hy, hb⟩ := List.mem_filter.mp hy
    have hy : y < m := List.mem_range.mp hy
    refine pts_low h k y hy ?_
    unfold ren low at hb
    simp only [Bool.and_eq_true, decide_eq_true_eq] at hb
    omega
theorem pts_even {B : Nat → Nat → Bool} {m h : Nat} (hr : ∀ x, x < m → ((List.range m).filter (B x)).length = h) : ∀ k x, x < m → pts B m k x = (h : Int) ^ k
  | 0, x, _ => rfl
  | k + 1, x, hx => by
    rw [pts_s, sumC (c := (h : Int) ^ k) fun y hy => pts_even hr k y (List.mem_range.mp (List.mem_filter.mp hy).1), hr x hx, Int.pow_succ, Int.mul_comm]
theorem ptl_const {B : Nat → Nat → Bool} {m k : Nat} {c : Int} (h : ∀ x, x < m → pts B m k x = c) : vi (ptl B m k) = List.replicate m (.int c) := by
  rw [vi_ptl, List.map_congr_left (g := fun _ => Val.int c) fun x hx => by rw [h x (List.mem_range.mp hx)], List.map_const', List.length_range]
theorem shl_ok {p : Nat} (h : p < 1000) : cShl 1 (p : Int) = true := decide_eq_true ⟨by omega, by rw [show Builtin.Int.intBits 1 = 1 by decide]; omega⟩
end PV

namespace PV
open PySem PySem.Spec PyProof.Rows L2
/-! ### sorted, numbers -/
def ins1 (x : Int) : List Int → List Int
  | [] => [x]
  | y :: r => if x ≤ y then x :: y :: r else y :: ins1 x r
def srt : List Int → List Int
  | [] => []
  | x :: r => ins1 x (srt r)
theorem ins1_perm (x : Int) : ∀ ys : List Int, (ins1 x ys).Perm (x :: ys)
  | [] => List.Perm.refl _
  | y :: r => by
    unfold ins1
    split
    · exact List.Perm.refl _
    · exact ((ins1_perm x r).cons y).trans (List.Perm.swap ..)
theorem srt_perm : ∀ xs : List Int, (srt xs).Perm xs
  | [] => List.Perm.refl _
  | x :: r => (ins1_perm x (srt r)).trans ((srt_perm r).cons x)
theorem ins1_le (x : Int) : ∀ ys : List Int, ys.Pairwise (· ≤ ·) → (ins1 x ys).Pairwise (· ≤ ·)
  | [], _ => List.pairwise_singleton ..
  | y :: r, h => by
    obtain ⟨h1, h2⟩ := List.pairwise_cons.mp h
    unfold ins1
    split
    · rename_i hxy
      refine List.pairwise_cons.mpr ⟨fun z hz => ?_, h⟩
      rcases List.mem_cons.mp hz with rfl | hz
      · exact hxy
      · have := h1 z hz; omega
    · rename_i hxy
      refine List.pairwise_cons.mpr ⟨fun z hz => ?_, ins1_le x r h2⟩
      rcases List.mem_cons.mp ((ins1_perm x r).mem_iff.mp hz) with rfl | hz
      · omega
      · exact h1 z hz
theorem srt_le : ∀ xs : List Int, (srt xs).Pairwise (· ≤ ·)
  | [] => List.Pairwise.nil
  | x :: r => ins1_le x _ (srt_le r)
theorem le_uniq : ∀ {xs ys : List Int}, xs.Perm ys → xs.Pairwise (· ≤ ·) → ys.Pairwise (· ≤ ·) → xs = ys
  | [], ys, h, _, _ => h.nil_eq
  | x :: xs, [], h, _, _ => absurd h.length_eq (by simp)
  | x :: xs, y :: ys, h, hx, hy => by
    obtain ⟨x1, x2⟩ := List.pairwise_cons.mp hx
    obtain ⟨y1, y2⟩ := List.pairwise_cons.mp hy
    have a : x ≤ y := by
      rcases List.mem_cons.mp (h.mem_iff.mpr (List.mem_cons_self (a := y) (l := ys))) with e | e
      · omega
      · exact x1 y e
    have b : y ≤ x := by
      rcases List.mem_cons.mp (h.mem_iff.mp (List.mem_cons_self (a := x) (l := xs))) with e | e
      · omega
      · exact y1 x e
    have e : x = y := by omega
    subst e
    rw [le_uniq h.cons_inv x2 y2]
def gSorted : List Val → Option Val
  | [.lst _ xs] => (toInts xs).map fun ns => .lst true (vi (srt ns))
  | _ => none
theorem pn_sorted {g : Gl} : PureN g (rSortedI g.K) gSorted := by
  intro vs res e H Z xs c Q r hz k
  unfold gSorted at e
  split at e
  · obtain ⟨ns, e1, rfl⟩ := Option.map_eq_some_iff.mp e
    obtain ⟨x, rfl, r1⟩ := Rs_1 r
    obtain ⟨a, ys, d, rfl, h, _, rs, _⟩ := lst_of r1
    refine ⟨a, ns, rfl, by rw [← ints_of e1 rs]; exact .inl (.inl h), fun ns' p hp hl hn => ?_⟩
    have e : ns' = srt ns := le_uniq (hp.trans (srt_perm ns).symm) hl (srt_le ns)
    subst e
    have key : ∀ ms : List Int, Rs g H Z (vi ms) (ms.map V.int) (fun _ => 0) := fun ms => by
      induction ms with
      | nil => exact Rs_nil
      | cons m ms ih =>
        simp only [List.map_cons, Rs]
        exact ⟨.int m, ms.map V.int, fun _ => 0, fun _ => 0, rfl, R_int, ih, fun _ => rfl⟩
    obtain ⟨m, rn⟩ := new_lst hn hz (key (srt ns))
    exact k _ _ Z _ m rn
  · cases e
theorem g_sorted {o : Bool} {ns : List Int} : gSorted [.lst o (vi ns)] = some (.lst true (vi (srt ns))) := by
  show (toInts (vi ns)).map _ = _
  rw [toInts_vi]; rfl
end PV

namespace PV
open PySem PySem.Spec PyProof.Rows L2
/-! ### masks, more -/
theorem mk_tb (f : Nat → Bool) (n p : Nat) : (mk f n).testBit p = (decide (p < n) && f p) := by
  rw [Nat.testBit_eq_decide_div_mod_eq, mk_bit]
  by_cases h1 : p < n <;> by_cases h2 : f p = true <;> simp [h1, h2]
theorem mk_of {m s : Nat} (h : s < 2 ^ m) : s = mk (fun y => s.testBit y) m := by
  refine Nat.eq_of_testBit_eq fun i => ?_
  rw [mk_tb]
  by_cases hi : i < m
  · rw [decide_eq_true hi, Bool.true_and]
  · rw [decide_eq_false hi, Bool.false_and]
    exact Nat.testBit_lt_two_pow (Nat.lt_of_lt_of_le h (Nat.pow_le_pow_right (by omega) (by omega)))
theorem band_nat (a b : Nat) : Builtin.bitAnd (a : Int) (b : Int) = ((a &&& b : Nat) : Int) := by
  unfold Builtin.bitAnd
  rw [decide_eq_true (Int.natCast_nonneg a), decide_eq_true (Int.natCast_nonneg b)]
  simp
theorem band_mk (f g : Nat → Bool) (n : Nat) : Builtin.bitAnd ((mk f n : Nat) : Int) ((mk g n : Nat) : Int) = ((mk (fun y => f y && g y) n : Nat) : Int) := by
  rw [band_nat]
  congr 1
  refine Nat.eq_of_testBit_eq fun i => ?_
  rw [Nat.testBit_and, mk_tb, mk_tb, mk_tb]
  cases decide (i < n) <;> simp
theorem mk_add (f g : Nat → Bool) : ∀ n, mk f n + mk g n = mk (fun y => f y ^^ g y) n + 2 * mk (fun y => f y && g y) n
  | 0 => rfl
  | n + 1 => by
    have := mk_add f g n
    unfold mk
    cases f n <;> cases g n <;> simp <;> omega
theorem bxor_mk (f g : Nat → Bool) (n : Nat) : Builtin.bitXor ((mk f n : Nat) : Int) ((mk g n : Nat) : Int) = ((mk (fun y => f y ^^ g y) n : Nat) : Int) := by
  rw [bitXor_and, band_mk]
  have := mk_add f g n
  omega
theorem mk_full : ∀ n, mk (fun _ => true) n = 2 ^ n - 1
  | 0 => rfl
  | n + 1 => by
    unfold mk
    rw [mk_full n, Nat.pow_succ, if_pos rfl]
    have := Nat.two_pow_pos n
    omega
theorem mk_neg (f : Nat → Bool) (n : Nat) : mk f n + mk (fun y => !f y) n = 2 ^ n - 1 := by
  have := mk_add f (fun y => !f y) n
  rw [this, mk_congr (g := fun _ => true) n fun y _ => by cases f y <;> rfl, mk_congr (f := fun y => f y && !f y) (g := fun _ => false) n fun y _ => by cases f y <;> rfl, mk_full, mk_none]
  rfl
theorem full_ok {m : Nat} : (1 : Int) * 2 ^ m - 1 = ((2 ^ m - 1 : Nat) : Int) := by
  have := Nat.two_pow_pos m
  have e : ((2 ^ m - 1 : Nat) : Int) = ((2 ^ m : Nat) : Int) - 1 := by omega
  rw [e]; push_cast; omega
theorem neg_ok {f : Nat → Bool} {m : Nat} : ((2 ^ m - 1 : Nat) : Int) - ((mk f m : Nat) : Int) = ((mk (fun y => !f y) m : Nat) : Int) := by
  have := mk_neg f m
  omega
theorem lot_congr {f g : Nat → Bool} {n : Nat} (h : ∀ y, y < n → f y = g y) : lot f n = lot g n := by
  unfold lot
  rw [List.filter_congr fun y hy => h y (List.mem_range.mp hy)]
theorem tab_congr {B C : Nat → Nat → Bool} {m : Nat} (h : ∀ x y, x < m → y < m → B x y = C x y) : tabV B m = tabV C m := by
  unfold tabV
  refine List.map_congr_left fun x hx => ?_
  rw [lot_congr fun y hy => h x y (List.mem_range.mp hx) hy]
theorem lot_succ {f : Nat → Bool} {n : Nat} : lot f (n + 1) = lot f n ++ if f n = true then [(n : Int)] else [] := by
  unfold lot
  rw [List.range_succ, List.filter_append, List.map_append]
  congr 1
  by_cases h : f n = true <;> simp [h]
/-- with a lot switched -/
def sw (B : Nat → Nat → Bool) (L : Nat → Bool) (m : Nat) : Nat → Nat → Bool := fun x y => decide (x < m) && (decide (y < m) && (!decide (x = y) && (B x y ^^ (L x ^^ L y))))
theorem sw_at {B : Nat → Nat → Bool} {L : Nat → Bool} {m x y : Nat} (hx : x < m) (hy : y < m) (h : x ≠ y) : sw B L m x y = (B x y ^^ (L x ^^ L y)) := by
  unfold sw
  rw [decide_eq_true hx, decide_eq_true hy, decide_eq_false h]
  rfl
theorem sw_dg {B : Nat → Nat → Bool} {L : Nat → Bool} {m x : Nat} : sw B L m x x = false := by simp [sw]
theorem sw_tour {B : Nat → Nat → Bool} {L : Nat → Bool} {m : Nat} (hT : Tour B m) : Tour (sw B L m) m := by
  refine ⟨fun x y hx hy hxy => ?_, fun x => sw_dg, fun x y h => ?_⟩
  · rw [sw_at hx hy hxy, sw_at hy hx (Ne.symm hxy), hT.1 x y hx hy hxy]
    cases B y x <;> cases L x <;> cases L y <;> rfl
  · unfold sw at h
    simp only [Bool.and_eq_true, decide_eq_true_eq] at h
    exact ⟨h.1, h.2.1⟩
theorem sw_ext {B C : Nat → Nat → Bool} {L : Nat → Bool} {m : Nat} (hC : ∀ x, C x x = false) (h : ∀ x y, x < m → y < m → x ≠ y → (B x y ^^ (L x ^^ L y)) = C x y) : ∀ x y, x < m → y < m → sw B L m x y = C x y := by
  intro x y hx hy
  by_cases e : x = y
  · subst e; rw [sw_dg, hC]
  · rw [sw_at hx hy e, h x y hx hy e]
/-- what three players come to -/
def sg (B : Nat → Nat → Bool) (a b c : Nat) : Int := if (B a b ^^ (B b c ^^ B c a)) = true then 1 else -1
theorem sg_sw {B : Nat → Nat → Bool} {L : Nat → Bool} {m a b c : Nat} (h1 : a < b) (h2 : b < c) (h3 : c < m) : sg (sw B L m) a b c = sg B a b c := by
  unfold sg
  rw [sw_at (by omega) (by omega) (by omega), sw_at (by omega) (by omega) (by omega), sw_at (by omega) (by omega) (by omega)]
  cases B a b <;> cases B b c <;> cases B c a <;> cases L a <;> cases L b <;> cases L c <;> rfl
theorem sg_four {B : Nat → Nat → Bool} {m a b c d : Nat} (hT : Tour B m) (h1 : a < b) (h2 : b < c) (h3 : c < d) (h4 : d < m) : 1 * sg B b c d * sg B a c d * sg B a b d * sg B a b c = 1 := by
  unfold sg
  rw [hT.1 d b (by omega) (by omega) (by omega), hT.1 d a (by omega) (by omega) (by omega), hT.1 c a (by omega) (by omega) (by omega)]
  cases B a b <;> cases B b c <;> cases B c d <;> cases B a c <;> cases B a d <;> cases B b d <;> rfl
theorem g_app {v : Val} {xs : List Val} {r : List Val × Val} : fAppend [v] xs = some r ↔ (small (xs.length + 1) = true ∧ r = (xs ++ [v], .non)) := g_if
def isLst : Option Val → Prop
  | some (.lst _ _) => True
  | _ => False
theorem isLst_lst {o : Bool} {xs : List Val} : isLst (some (.lst o xs)) ↔ True := Iff.rfl
theorem g_isL {e : Env} {i : Nat} {u : Unit} : isL e i [] = some u ↔ isLst (getv e i) := by
  unfold isL
  cases h : getv e i with
  | none => exact ⟨fun h => (nomatch h), fun h => h.elim⟩
  | some v => cases v <;> first | exact ⟨fun _ => trivial, fun _ => rfl⟩ | exact ⟨fun h => (nomatch h), fun h => h.elim⟩
theorem ex_unit {P : Prop} : (∃ _ : Unit, P) ↔ P := ⟨fun ⟨_, h⟩ => h, fun h => ⟨(), h⟩⟩
theorem g_ext {o : Bool} {ys xs : List Val} {r : List Val × Val} : fExtend [.lst o ys] xs = some r ↔ (small (xs.length + ys.length) = true ∧ r = (xs ++ ys, .non)) := g_if
theorem alike_tab {n : Nat} {B : Nat → Nat → Bool} {m : Nat} (h : m ≤ 1000) : Alike (n + 3) (.tup (tabV B m)) (.tup (tabV B m)) := by
  refine ⟨owns_tab _ _, owns_tab _ _, rfl, by rw [tab_len]; exact h, fun i x y h1 h2 => ?_⟩
  rw [h1] at h2
  cases h2
  obtain ⟨z, _, rfl⟩ := List.mem_map.mp (List.mem_of_getElem? h1)
  exact alike_vi (Nat.le_trans (lot_len _ _) h)
theorem owns_tabs {B : Nat → Nat → Bool} {m : Nat} {xs : List Val} : owns (.tup (tabV B m) :: xs) = owns xs := by
  show (owns (tabV B m) || owns xs) = owns xs
  rw [owns_tab]; rfl
theorem owns_ints {i : Int} {xs : List Val} : owns (.int i :: xs) = owns xs := rfl
theorem owns_vis {ns : List Int} {xs : List Val} : owns (.tup (vi ns) :: xs) = owns xs := by
  show (owns (vi ns) || owns xs) = owns xs
  rw [owns_vi]; rfl
theorem owns_nil : owns [] = false := rfl
theorem alike_int {n : Nat} {i : Int} : Alike (n + 1) (.int i) (.int i) := rfl
/-- a number below 2 ^ m is a mask -/
theorem int_mk {m : Nat} {i : Int} (h0 : 0 ≤ i) (h : i < ((2 ^ m - 1 : Nat) : Int) + 1) : ∃ L : Nat → Bool, i = ((mk L m : Nat) : Int) := by
  obtain ⟨s, rfl⟩ := Int.eq_ofNat_of_zero_le h0
  have := Nat.two_pow_pos m
  exact ⟨_, congrArg _ (mk_of (show s < 2 ^ m by omega))⟩
theorem owns_map {α : Type} {f : α → Val} (h : ∀ x, own (f x) = false) : ∀ xs : List α, owns (xs.map f) = false
  | [] => rfl
  | x :: xs => by
    show (own (f x) || owns (xs.map f)) = false
    rw [h, owns_map h xs]; rfl
theorem cut_toV {α : Type} {ns : List α} {k : Nat} : cutL ns none (some (k : Int)) = ns.take k := by
  unfold cutL
  rw [HT.sIx_none, HT.sIx_nat, List.drop_zero, Nat.sub_zero]
  by_cases h : k ≤ ns.length
  · rw [Nat.min_eq_left h]
  · rw [Nat.min_eq_right (by omega), List.take_length, List.take_of_length_le (by omega)]
theorem cut_to4 {α : Type} {ns : List α} : cutL ns none (some 4) = ns.take 4 := cut_toV (k := 4)
theorem vi_take {ns : List Int} {k : Nat} : (vi ns).take k = vi (ns.take k) := (List.map_take ..).symm
/-- the first four of an order, in sequence -/
theorem four_ok {m : Nat} {ys : List Int} (h : ys.Perm ((List.range m).map fun k : Nat => (k : Int))) (hm : 3 < m) : ∃ a b c d : Nat, srt (ys.take 4) = [(a : Int), (b : Int), (c : Int), (d : Int)] ∧ a < b ∧ b < c ∧ c < d ∧ d < m := by
  have hl : ys.length = m := by rw [h.length_eq]; simp
  have hnd : ys.Nodup := h.nodup_iff.mpr (List.pairwise_map.mpr (List.nodup_range.imp fun h e => h (by omega)))
  have h1 := srt_perm (ys.take 4)
  have h2 := srt_le (ys.take 4)
  have h3 : (srt (ys.take 4)).Nodup := h1.nodup_iff.mpr (hnd.sublist (List.take_sublist ..))
  have h4 : (srt (ys.take 4)).length = 4 := by rw [h1.length_eq, List.length_take]; omega
  have h5 : ∀ z ∈ srt (ys.take 4), ∃ x : Nat, z = x ∧ x < m := fun z hz => by
    obtain ⟨k, hk, rfl⟩ := List.mem_map.mp (h.mem_iff.mp (List.mem_of_mem_take (h1.mem_iff.mp hz)))
    exact ⟨k, rfl, List.mem_range.mp hk⟩
  generalize srt (ys.take 4) = l at *
  match l, h4 with
  | [a, b, c, d], _ =>
    obtain ⟨a, rfl, ha⟩ := h5 a (by simp)
    obtain ⟨b, rfl, hb⟩ := h5 b (by simp)
    obtain ⟨c, rfl, hc⟩ := h5 c (by simp)
    obtain ⟨d, rfl, hd⟩ := h5 d (by simp)
    simp at h2 h3
    exact ⟨a, b, c, d, rfl, by omega, by omega, by omega, hd⟩
theorem sg_pm (B : Nat → Nat → Bool) (a b c : Nat) : sg B a b c = 1 ∨ sg B a b c = -1 := by unfold sg; split <;> simp
theorem pm_mul {x y : Int} (hx : x = 1 ∨ x = -1) (hy : y = 1 ∨ y = -1) : x * y = 1 ∨ x * y = -1 := by
  rcases hx with rfl | rfl <;> rcases hy with rfl | rfl <;> simp
theorem pm_ok {x y : Int} (hx : x = 1 ∨ x = -1) (hy : y = 1 ∨ y = -1) : cMul x y = true := by
  rcases hx with rfl | rfl <;> rcases hy with rfl | rfl <;> decide
end PV

namespace PV
open PySem PySem.Spec PyProof.Rows L2
/-! ### a call that only looks: the arguments are frozen for its time, the result is flat -/
def dPC (F : Fn) (d : DA) : DE := fun env => bnd (d env) fun vs e => if vs.any isGone = true then none else match F (frzs vs) with
  | some (.ok r, _) => if flatD r = true then ok r e else none
  | _ => none
theorem R_flat {g : Gl} {H H' : Hp} {Z Z' : AP} {v : Val} {x : V} {c : Cnt} (h : flatD v = true) (r : R g H Z v x c) : R g H' Z' v x (fun _ => 0) := by
  cases v <;> first | (cases h; done) | (simp only [R] at r ⊢; exact ⟨r.1, fun _ => trivial⟩) | (simp only [R] at r ⊢; exact ⟨r.1, fun _ => rfl⟩)
theorem gone_frz {v : Val} (h : frz v = .gone) : v = .gone := by cases v <;> first | rfl | cases h
section
variable {X : Cx} {W : WX} {a e : Expr} {es : List Expr} {pos : Pos} {qa qb ma : Bool} {dr : DA}
theorem v_pcall {k np : Nat} {f : Addr} {fd : FuncData} {ps : List Str} {F : Fn} {x : Str} {p : Pos} (Fk : FnOk X.prog X.w X.K X.mg X.base (L2.CX X.prog X.w) k f fd ps (spOf (gl X) np F)) (hnp : ps.length = np) (hr : Room k X.A) (tk : Takes X W) (hg : L2.Gl X x) (hm : X.mg x = some (.ref f)) (hk : PySem.W.keepIn X.K (.ref f) = true) (hb : Binds X.K fd ps [])
    (ha : VA X W qa ma (a :: es) dr) (hF : ∀ vs r, F vs = some r → vs.length = np) (hdb : (x == ("__debug__" : Str)) = false := by decide) (he : starEach (a :: es) X.env = (false, eval a X.env) :: starEach es X.env := by rfl) (hpl : (backTo pos (starEach es X.env)).any (·.1) = false := by rfl) :
    VE X W qa false (.Call (.Name x p) (a :: es) [] pos) (dPC F dr) := by
  subst hnp
  refine ⟨PE.weak (pe_callS Fk hr hg hm hk hb (passAt tk) ha.pa hdb he hpl) fun σ H Q h => ?_⟩
  refine runA (fun _ z => z) h fun {Z c V H2 Z2 c2 cv cx v env env2} a e h2 => ?_
  split at h2
  · exact h2.elim
  · rename_i hng
    cases eF : F (frzs v) with
    | none => rw [eF] at h2; exact h2.elim
    | some r =>
      match r, eF, h2 with
      | (.error x, fs), eF, h2 => rw [eF] at h2; exact h2.elim
      | (.ok r, fs), eF, h2 =>
        rw [eF] at h2
        dsimp only at h2
        split at h2
        · rename_i hfl
          have gd := a.st.good
          refine ⟨fun z => Z2 z ∨ cv z ≠ 0, frzs v, fun _ => 0, hF _ _ eF, fun w hw eg => ?_, Rs_frz _ _ _ (fun z h => .inr h) (fun z h => .inl h) a.rl, fun z => ⟨Nat.zero_le _, fun h => absurd rfl h, fun hz => ?_⟩, ?_⟩
          · subst eg
            rw [frzs_eq] at hw
            obtain ⟨u, hu, eu⟩ := List.mem_map.mp hw
            exact hng (List.any_eq_true.mpr ⟨u, hu, by rw [gone_frz eu]; rfl⟩)
          · rcases hz with hz | hz
            · exact (gd z).2.2 hz
            · obtain ⟨o, ho, _⟩ := Rs_own _ _ _ z a.rl hz
              rw [ho]; exact fun h => nomatch h
          · rw [eF]
            intro y H' Z' cf cr rf ry st
            have same : Same' H2 H' := fun z o ho => st.keep z o ho rfl
            have n : New H2 Z2 H' Z2 (fun _ => 0) := ⟨same, fun _ z => z, fun _ z => .inl z, fun z => ⟨Nat.zero_le _, fun h => absurd rfl h⟩, fun z hz h => by
              obtain ⟨o, ho⟩ := Option.ne_none_iff_exists'.mp ((gd z).2.2 hz)
              rw [same z o ho] at h; cases h⟩
            exact fin a.st (fun _ => Nat.le_add_right _ _) a.sr a.q1 n (R_flat hfl ry) h2
        · exact h2.elim
end
theorem r_pc {F : Fn} {dr : DA} {env : Env} {Q : Val → Env → Prop} : Run (dPC F dr env) Q ↔ Run (dr env) fun vs e => vs.any isGone = false ∧ ∃ r fs, F (frzs vs) = some (.ok r, fs) ∧ flatD r = true ∧ Q r e := by
  unfold dPC
  rw [run_bnd]
  constructor <;> intro h <;> refine h.mono fun vs e h => ?_
  · split at h
    · exact h.elim
    · rename_i hg
      refine ⟨by simpa using hg, ?_⟩
      split at h
      · rename_i r fs hF
        split at h
        · rename_i hf; exact ⟨r, fs, hF, hf, h⟩
        · exact h.elim
      · exact h.elim
  · obtain ⟨h1, r, fs, h2, h3, h4⟩ := h
    rw [if_neg (by rw [h1]; decide), h2]
    dsimp only
    rw [if_pos h3]
    exact h4
end PV

namespace PV
open PySem PySem.Spec PyProof.Rows L2
/-! ### while -/
def whileL (t : DT) (b : DS) : Nat → DS
  | 0, _ => none
  | n + 1, env => match t env with
    | some (.ok true, e1) => match b e1 with
      | some (.ok .nx, e2) => whileL t b n e2
      | some (.ok .ct, e2) => whileL t b n e2
      | some (.ok .bk, e2) => some (.ok .nx, e2)
      | some (.ok (.rt v), e2) => some (.ok (.rt v), e2)
      | some (.error x, e2) => some (.error x, e2)
      | none => none
    | some (.ok false, e1) => some (.ok .nx, e1)
    | some (.error x, e1) => some (.error x, e1)
    | none => none
def dWhile (t : DT) (b : DS) : DS := whileL t b 100000
section
variable {X : Cx} {W : WX} {pr : List Nat} {e : Expr} {sts : List Stmt} {pos : Pos} {q : Bool} {dt : DT} {body : DS}
theorem v_while (hp : PassesOwn (model X.prog X.w) X.A X.env X.xe) (hc : VT X W q e dt) (hb : VSs X W pr sts body) : VS X W pr (.While e sts [] pos) (dWhile dt body) := by
  refine ⟨PS.weak (ps_while hp hc.pt hb.ps) fun D σ H h => ?_⟩
  obtain ⟨Z, env, c, sr, gd, h⟩ := h
  refine ⟨fun n σ1 H1 => ∃ Z1 env1 c1, SR (gl X) H1 Z1 σ1 env1 c1 ∧ Pr pr σ σ1 ∧ Step H Z c H1 Z1 c1 ∧ PostS (gl X) W pr σ H Z c (whileL dt body n env1) D, ⟨100000, Z, env, c, sr, Pr.refl, Step.refl gd, h⟩, ?_⟩
  rintro n σ1 H1 ⟨Z1, env1, c1, sr1, p1, st1, h1⟩
  cases n with
  | zero => exact h1.elim
  | succ n =>
    refine ⟨Z1, env1, c1, sr1, st1.good, ?_⟩
    unfold whileL at h1
    match dt env1, h1 with
    | none, h1 => exact h1
    | some (.error x, e1), h1 => exact fun H' Z' c' C dd hC sr' st' => h1 σ1 H' Z' c' C dd hC p1 sr' (st1.trans st')
    | some (.ok v, e1), h1 =>
      intro V H' Z' c' cv cx sr' rl m0 st' q1
      obtain ⟨ev, e2⟩ := rl
      subst ev
      have st2 := st'.drop (u := c') fun x => Nat.le_add_right _ _
      cases V with
      | false => rw [if_neg (by decide)]; exact h1 σ1 H' Z' c' p1 sr' (st1.trans st2)
      | true =>
        rw [if_pos rfl]
        refine ⟨fun σ2 H2 => ∃ Z2 env2 c2, SR (gl X) H2 Z2 σ2 env2 c2 ∧ Pr pr σ σ2 ∧ Step H Z c H2 Z2 c2 ∧ PostS (gl X) W pr σ H Z c (whileL dt body n env2) D, fun σ2 H2 h => ⟨n, Nat.lt_succ_self n, h⟩, Z', e1, c', sr', st2.good, ?_⟩
        dsimp only at h1
        have st3 := st1.trans st2
        match body e1, h1 with
        | none, h1 => exact h1
        | some (.error x, e2), h1 => exact fun σ2 H2 Z2 c2 C dd hC p2 sr2 st4 => h1 σ2 H2 Z2 c2 C dd hC (p1.trans p2) sr2 (st3.trans st4)
        | some (.ok .nx, e2), h1 => exact fun σ2 H2 Z2 c2 p2 sr2 st4 => ⟨Z2, e2, c2, sr2, p1.trans p2, st3.trans st4, h1⟩
        | some (.ok .ct, e2), h1 => exact fun σ2 H2 Z2 c2 p2 sr2 st4 => ⟨Z2, e2, c2, sr2, p1.trans p2, st3.trans st4, h1⟩
        | some (.ok .bk, e2), h1 => exact fun σ2 H2 Z2 c2 p2 sr2 st4 => h1 σ2 H2 Z2 c2 (p1.trans p2) sr2 (st3.trans st4)
        | some (.ok (.rt v), e2), h1 => exact fun V σ2 H2 Z2 c2 cv p2 sr2 rv st4 => h1 V σ2 H2 Z2 c2 cv (p1.trans p2) sr2 rv (st3.trans st4)
end
/-- a loop that goes on while m falls -/
theorem while_run {t : DT} {b : DS} {env : Env} {Q : Out → Env → Prop} (Inv : Nat → Env → Prop) (m : Nat) (hm : m < 100000) (h0 : Inv m env)
    (hs : ∀ n e, Inv n e → Run (t e) fun v e1 => if v = true then Run (b e1) fun o e2 => o = .nx ∧ ∃ k, k < n ∧ Inv k e2 else Q .nx e1) : Run (dWhile t b env) Q := by
  have key : ∀ (f n : Nat) (e : Env), n < f → Inv n e → Run (whileL t b f e) Q := by
    intro f
    induction f with
    | zero => intro n e h; omega
    | succ f ih =>
      intro n e hn hi
      have h1 := hs n e hi
      unfold whileL
      obtain ⟨v, e1, e2, h2⟩ := h1.eq
      rw [e2]
      cases v with
      | false => rw [if_neg (by decide)] at h2; exact h2
      | true =>
        rw [if_pos rfl] at h2
        obtain ⟨o, e3, e4, rfl, k, hk, h3⟩ := h2.eq
        dsimp only [ok]
        rw [e4]
        exact ih k e3 (by omega) h3
  exact key 100000 m env hm h0
/-! name += number -/
def gAddI : Val → Val → Option Val
  | .int i, .int j => some (.int (i + j))
  | _, _ => none
theorem p2_ipadd {g : Gl} : Pure2 g (ipI fun i j => i + j) gAddI := by
  intro v w res e H Z x y c d Q rv rw hz k
  unfold gAddI at e
  split at e
  · cases e
    exact ⟨_, _, int_of rv, int_of rw, k _ H Z _ (New.refl hz) R_int⟩
  · cases e
end PV

/-! ### enumerate of a tuple -/
namespace EnT
open PySem PySem.Spec PyProof.Rows L2
set_option maxHeartbeats 1000000 in
theorem en_new {u : Value} {ob : Obj} {Hh : Heap → Prop} (Bg : Begins u ob Hh) :
    Meets (Builtin.«enumerate.__new__» ⟨[.type "enumerate", u], []⟩) (fun _ Rr t => Hh t.heap ∧
      Rr (.ok (.ret (.ref (t.heap.push ob).objs.size))) { t with heap := (t.heap.push ob).push { cls := .type "enumerate", data := .fields #[.none, .bool false, .ref t.heap.objs.size, rawInt 0, .none, .none] } }) :=
  .of_wp fun P w A Rr t hh => by
    obtain ⟨p1, p2, p3, p4, p5⟩ := t
    obtain ⟨k1, k2⟩ := hh
    have hsub := sub_enumerate
    have go : ∀ {B : Around} {E : Value → Shared → Prop} {Q : Value → Shared → Prop}, Q (.ref p1.objs.size) ⟨p1.push ob, p2, p3, p4, p5⟩ → wpAny (model P w) B (pyIter u) Q E ⟨p1, p2, p3, p4, p5⟩ :=
      fun z => Bg.iter P w _ _ ⟨p1, p2, p3, p4, p5⟩ _ k1 z
    wp_walk
    refine wpAny_stack_any fun sk => wpAny_pure ?_
    split
    · rename_i cc _ _ _ _ _
      cases (cc == Value.type "enumerate") <;> (wp_walk using go; exact ⟨_, rfl, k2⟩)
    · wp_walk using go
      exact ⟨_, rfl, k2⟩
section
variable {P : Program} {w : World} {A : Around} {E : Value → Shared → Prop} {s : Shared}
theorem en_call {u : Value} {ob : Obj} {Hh : Heap → Prop} {Q : Value → Shared → Prop} (Bg : Begins u ob Hh) (k1 : Hh s.heap)
    (q : ∀ h2, IsEnum h2 (s.heap.objs.size + 1) s.heap.objs.size 0 .none → h2.get? s.heap.objs.size = some ob → h2.objs.size = s.heap.objs.size + 2 → (∀ b o, s.heap.get? b = some o → h2.get? b = some o) → Q (.ref (s.heap.objs.size + 1)) { s with heap := h2 }) :
    wpAny (model P w) A (call (.type "enumerate") [u]) Q E s := by
  refine callType_new F.called_enumerate (by decide) (F.typeCall_enumerate_1 _) (F.newCall_enumerate_1 _) (fun z => F.args_object_init_2 z _) F.entry_enumerate_new (en_new Bg) ⟨k1, ?_⟩
  have sz : (s.heap.push ob).objs.size = s.heap.objs.size + 1 := Heap.size_push ..
  show _ ∧ _
  rw [sz]
  have en : IsEnum ((s.heap.push ob).push { cls := .type "enumerate", data := .fields #[.none, .bool false, .ref s.heap.objs.size, rawInt 0, .none, .none] }) (s.heap.objs.size + 1) s.heap.objs.size 0 .none := by
    have y := Heap.get?_push_size (s.heap.push ob) (o := { cls := .type "enumerate", data := .fields #[.none, .bool false, .ref s.heap.objs.size, rawInt 0, .none, .none] }) rfl
    rw [sz] at y
    exact y
  exact ⟨⟨_, en, rfl⟩, q _ en (Heap.get?_push_of_some _ (Heap.get?_push_size _ Bg.free)) (by rw [Heap.size_push, sz]) fun b o x => Heap.get?_push_of_some _ (Heap.get?_push_of_some _ x)⟩
theorem en_end {e it l : Addr} {i : Nat} {items : Array Value} {old : Value} {Q : Option Value → Shared → Prop} (hh : A.in1.handled = none) (p1 : IsEnum s.heap e it i old) (p2 : s.heap.IsTupleIter it l i) (p3 : s.heap.IsTuple l items) (p4 : items[i]? = none)
    (q : ∀ h2, Heap.ExtBut it s.heap h2 → Q none { s with heap := h2 }) : wpAny (model P w) A (pyNext (.ref e)) Q E s := by
  have ty : s.TypeIs (.ref e) "enumerate" := ⟨_, p1, rfl⟩
  unfold pyNext
  refine wpAny_bind (wpAny_attempt (wpAny_callSpecial?_slot (name := Str.ofString "__next__") ty F.slot_enumerate_next (wpAny_call_entry F.slot_enumerate_next ty F.entry_enumerate_next ?_ (F.args_enumerate_next_1 _))))
  show wpAny _ _ (field (.ref e) 2 >>= _) _ _ _
  refine wpAny_bind (wpAny_field p1 rfl (x := .ref it) rfl (wpAny_bind (wpAny_nextOf_tuple_end hh p2 p3 p4 fun h2 x q1 q2 => ?_)))
  obtain ⟨o, ho, hc⟩ := q2
  exact wpAny_bind (wpAny_isInstance (T := "StopIteration") (b := true) ⟨o, ho, hc⟩ isSubtype_stop (wpAny_pure (q _ q1)))
end
/-- the tuple at a, its items behind their places, in new pairs -/
def IteT (K : PySem.W.Frag) (a : Addr) : It :=
  ⟨fun i H => ∃ (xs : List V) (x : V), SqT K H a xs ∧ xs[i]? = some x,
    fun i H v H' => ∃ T x, v = .ref T ∧ H T = none ∧ H' = upd H T (.tup [.int (i : Nat), x]) ∧ ∀ xs, SqT K H a xs → xs[i]? = some x,
    fun i H => ∃ xs : List V, SqT K H a xs ∧ xs.length ≤ i⟩
theorem turn_t {P : Program} {w : World} {K : PySem.W.Frag} {elts : List Expr} {kk : Nat} {tpos : Pos} (a e it : Addr) (hai : a ≠ it) (hae : a ≠ e) :
    Turn P w K (.Tuple elts kk tpos) (IteT K a) [e, it] e (fun i h => (∃ old, IsEnum h e it ((i : Nat) : Int) old) ∧ h.IsTupleIter it a i ∧ e ≠ it) where
  mem := by simp
  obj := fun i h ⟨⟨old, p1⟩, ⟨o, p2, _, p3⟩, _⟩ b hb => by
    rcases (show b = e ∨ b = it by simpa using hb) with rfl | rfl
    · exact ⟨_, p1, fun v q => nomatch q⟩
    · exact ⟨o, p2, fun v q => by rw [p3] at q; cases q⟩
  keep := fun i h h2 ⟨⟨old, p1⟩, p2, p3⟩ k => ⟨⟨old, k e (by simp) _ p1⟩, p2.at fun o q => k it (by simp) o q, p3⟩
  item := by
    intro X eP ew eK hc i pins s σ H E I hf st hg
    subst eP ew eK
    obtain ⟨⟨old, p1⟩, p2, p3⟩ := st
    obtain ⟨xs, x, hq, hx⟩ := hg
    obtain ⟨its, rv, p, hz⟩ := I.tuple hq
    obtain ⟨u, hu, ru⟩ := rv.get hx
    have le : e < s.heap.objs.size := Heap.lt_size p1
    have li : it < s.heap.objs.size := by obtain ⟨_, q, _⟩ := p2; exact Heap.lt_size q
    have D := Draws.tuple (prog := X.prog) (w := X.w) (A := X.A.in1) (I.ok.hd hc) it a hai its.toArray
    have hlt : i < its.toArray.size := by
      obtain ⟨z, _⟩ := List.getElem?_eq_some_iff.mp hu
      simpa using z
    refine wpAny_pyNext_enum_itemD D p1 ⟨p2, (show s.heap.IsTuple a its.toArray from p)⟩ hlt p3 (by simp; exact ⟨p3, fun z => hae z.symm⟩) fun x' h2 tk hP en st2 hT hsz hk => ?_
    have ex : x' = u := by
      have hP : its.toArray[i]? = some x' := hP
      rw [List.getElem?_toArray, hu] at hP
      exact (Option.some.inj hP).symm
    subst ex
    refine ⟨_, rfl, wpAny_letOwnedTupleGo_enum (s := { s with heap := h2, toks := tk + 1 }) en fun h3 en3 sb => ?_⟩
    have hT2 : h3.get? s.heap.objs.size = some { cls := .type "tuple", data := .seq #[.int i tk, x'] } := (sb.2 _ (Nat.ne_of_gt le)).trans hT
    have new : ObjOk X.prog X.w (upd H s.heap.objs.size (.tup [.int (i : Nat), x])) h3 s.heap.objs.size (.tup [.int (i : Nat), x]) :=
      ⟨by show 2 ≤ sizeLine; decide, [.int i tk, x'], .cons ⟨_, rfl⟩ (.cons ru .nil), ⟨_, hT2, rfl, _, rfl⟩⟩
    have I1 : Inv X pins σ (upd H s.heap.objs.size (.tup [.int (i : Nat), x])) { s with heap := h3, toks := tk + 1 } :=
      I.turnedNew (ch := [e, it]) (fun b ob hb q => (sb.2 b (fun z => hb (by simp [z]))).trans (hk b ob (fun z => hb (by simp [z])) (fun z => hb (by simp [z])) q)) hf (Nat.le_refl _) new
    refine ⟨.ref s.heap.objs.size, _, I1, rfl, ⟨_, x, rfl, I.hok.fresh (Nat.le_refl _), rfl, fun ys hy => by rw [I.tuple_inj hy hq]; exact hx⟩, ⟨⟨x', ?_⟩, st2.1.at fun o q => (sb.2 it (Ne.symm p3)).trans q, p3⟩, fun b hb => ?_⟩
    · rw [show ((i + 1 : Nat) : Int) = (i : Int) + 1 by omega]
      exact en3
    · have lb : b < s.heap.objs.size := by
        rcases (show b = e ∨ b = it by simpa using hb) with rfl | rfl
        · exact le
        · exact li
      rw [upd_ne (Nat.ne_of_lt lb)]
      exact (hf b hb).1
  done := by
    intro X eP ew eK hc i pins s σ H E I hf st hg
    subst eP ew eK
    obtain ⟨⟨old, p1⟩, p2, p3⟩ := st
    obtain ⟨xs, hq, hx⟩ := hg
    obtain ⟨its, rv, p, hz⟩ := I.tuple hq
    obtain ⟨f0, f1, f2, f3, f4, f5⟩ := hf it (by simp)
    have hl := rv.length
    exact en_end (I.ok.hd hc) p1 p2 (show s.heap.IsTuple a its.toArray from p) (by simp; omega) fun h2 eb => ⟨rfl, I.turned (t' := s.toks) (fun b o hb q => eb b o hb q) f0 f1 f3 f4 f5⟩
  self := fun A i s Q E ⟨⟨_, p1⟩, _⟩ h => wpAny_pyIter_enum p1 h
def iEn (K : PySem.W.Frag) (ta : TA) : TI := fun σ H R => ta σ H fun vs H1 => ∃ a xs, vs = [.ref a] ∧ ((SqL K H1 a xs ∧ R (Ite K a) H1) ∨ (SqT K H1 a xs ∧ R (IteT K a) H1))
theorem pi_en {X : Cx} {e : Expr} {ta : TA} {p pos tpos : Pos} {elts : List Expr} {kk : Nat} (hg : Gl X "enumerate") (hm : X.mg "enumerate" = none) (ha : PA X [e] ta) (hs : starEach [e] X.env = [(false, eval e X.env)] := by rfl) :
    PI X (.Tuple elts kk tpos) (.Call (.Name "enumerate" p) [e] [] pos) (iEn X.K ta) := by
  refine ⟨fun pins s σ H R I h => ?_⟩
  refine Call_ (ld_blt I hg hm boot_enumerate (PyProof.Rows.callWith_type1 (thn (ha.run pos pins s σ H _ I h) fun us s1 ⟨vs, H1, I1, r1, q1⟩ => ?_) hs rfl))
  obtain ⟨a, xs, ex, q⟩ := q1
  subst ex
  cases r1 with
  | cons r rr =>
    cases rr
    cases r
    have fp : ∀ b ∈ [s1.heap.objs.size + 1, s1.heap.objs.size], FpOk X pins H1 b := fun b hb => by
      have lb : s1.heap.objs.size ≤ b := by
        rcases (show b = s1.heap.objs.size + 1 ∨ b = s1.heap.objs.size by simpa using hb) with rfl | rfl
        · exact Nat.le_add_right _ _
        · exact Nat.le_refl _
      exact I1.fpOk lb (I1.hok.fresh lb)
    rcases q with ⟨hq, q⟩ | ⟨hq, q⟩
    · obtain ⟨its, rv, p', hz⟩ := I1.list hq
      refine call_enumerate_list p'.isList fun h2 en it sz kp => wpAny_pyIter_enum en ?_
      have I2 : Inv X pins σ H1 { s1 with heap := h2 } := I1.kept (t' := s1.toks) kp
      exact ⟨s1.heap.objs.size + 1, [s1.heap.objs.size + 1, s1.heap.objs.size], _, _, H1, rfl, I2, turn_enum a (s1.heap.objs.size + 1) s1.heap.objs.size, ⟨⟨.none, en⟩, it, Nat.succ_ne_self _⟩, fp, q⟩
    · obtain ⟨its, rv, p', hz⟩ := I1.tuple hq
      have ht : s1.heap.IsTuple a its.toArray := p'
      have la : a < s1.heap.objs.size := by obtain ⟨_, z, _⟩ := ht; exact Heap.lt_size z
      refine en_call (begins_tuple a its.toArray) ht fun h2 en it sz kp => wpAny_pyIter_enum en ?_
      have I2 : Inv X pins σ H1 { s1 with heap := h2 } := I1.kept (t' := s1.toks) kp
      exact ⟨s1.heap.objs.size + 1, [s1.heap.objs.size + 1, s1.heap.objs.size], _, _, H1, rfl, I2, turn_t a (s1.heap.objs.size + 1) s1.heap.objs.size (Nat.ne_of_lt la) (Nat.ne_of_lt (Nat.lt_succ_of_lt la)), ⟨⟨.none, en⟩, ⟨_, it, rfl, rfl⟩, Nat.succ_ne_self _⟩, fp, q⟩
end EnT
namespace PV
open PySem PySem.Spec PyProof.Rows L2
def enV : Nat → List Val → List Val
  | _, [] => []
  | k, x :: xs => .tup [.int (k : Int), x] :: enV (k + 1) xs
def gEn : List Val → Option (List Val)
  | [.lst _ xs] => some (enV 0 (frzs xs))
  | [.tup xs] => some (enV 0 (frzs xs))
  | _ => none
def dEn (d : DA) : DI := fun env => bnd (d env) fun vs e => lift (gEn vs) e
theorem enV_len : ∀ (k : Nat) (xs : List Val), (enV k xs).length = xs.length
  | _, [] => rfl
  | k, x :: xs => by rw [enV, List.length_cons, enV_len (k + 1) xs, List.length_cons]
theorem enV_get : ∀ {k : Nat} {xs : List Val} {i : Nat} {v : Val}, (enV k xs)[i]? = some v → ∃ x, xs[i]? = some x ∧ v = .tup [.int ((k + i : Nat) : Int), x]
  | k, [], i, v, h => by simp [enV] at h
  | k, x :: xs, 0, v, h => by simp [enV] at h; exact ⟨x, rfl, h.symm⟩
  | k, x :: xs, i + 1, v, h => by
    obtain ⟨y, e1, e2⟩ := enV_get (k := k + 1) (xs := xs) (i := i) (v := v) (by simpa [enV] using h)
    exact ⟨y, by simpa using e1, by rw [e2, show k + 1 + i = k + (i + 1) by omega]⟩
theorem wk_enL {g : Gl} (a : Addr) (xs : List Val) : Wk g (Ite g.K a) (PdL g a xs) (fun _ => 0) (enV 0 xs) where
  go := fun i H Z hi ⟨zs, h1, h2, h3⟩ => by
    rw [enV_len] at hi
    obtain ⟨y, ey⟩ := Rs_some h3 hi
    exact ⟨zs, y, .inl (.inl h1), ey⟩
  stop := fun i H Z hi ⟨zs, h1, h2, h3⟩ => by
    rw [enV_len] at hi
    exact ⟨zs, .inl (.inl h1), by rw [Rs_len h3]; omega⟩
  yld := fun i H Z x H' v e ⟨zs, h1, h2, h3⟩ hz y => by
    obtain ⟨T, p, e1, nT, e2, e3⟩ := y
    subst e1 e2
    obtain ⟨v1, e5, e7⟩ := enV_get e
    subst e7
    rw [Nat.zero_add]
    exact pair_new hz nT R_int (Rs_get h3 e5 (e3 zs (.inl (.inl h1))))
  kept := fun p k => (wk_list (g := g) a xs).kept p k
theorem wk_enT {g : Gl} (a : Addr) (xs : List Val) : Wk g (EnT.IteT g.K a) (PdT g a xs) (fun _ => 0) (enV 0 xs) where
  go := fun i H Z hi ⟨zs, h1, h3⟩ => by
    rw [enV_len] at hi
    obtain ⟨y, ey⟩ := Rs_some h3 hi
    exact ⟨zs, y, h1, ey⟩
  stop := fun i H Z hi ⟨zs, h1, h3⟩ => by
    rw [enV_len] at hi
    exact ⟨zs, h1, by rw [Rs_len h3]; omega⟩
  yld := fun i H Z x H' v e ⟨zs, h1, h3⟩ hz y => by
    obtain ⟨T, p, e1, nT, e2, e3⟩ := y
    subst e1 e2
    obtain ⟨v1, e5, e7⟩ := enV_get e
    subst e7
    rw [Nat.zero_add]
    exact pair_new hz nT R_int (Rs_get h3 e5 (e3 zs h1))
  kept := fun p k => (wk_tup (g := g) a xs).kept p k
section
variable {X : Cx} {W : WX} {a : Expr} {dr : DA} {q : Bool} {p pos : Pos}
theorem v_en {elts : List Expr} {kk : Nat} {tpos : Pos} (hg : L2.Gl X "enumerate") (hm : X.mg "enumerate" = none) (ha : VA X W q false [a] dr) (hs : starEach [a] X.env = [(false, eval a X.env)] := by rfl) : VI X W (.Tuple elts kk tpos) (.Call (.Name "enumerate" p) [a] [] pos) (dEn dr) := by
  refine ⟨_, EnT.pi_en hg hm ha.pa hs, fun σ H Z env c Rr sr gd h => ?_⟩
  refine runA (rel' := fun H' Z' (its : List Val) (J : It) u => (∀ a, u a = 0) ∧ ∃ Pd, Wk (gl X) J Pd (fun _ => 0) its ∧ Pd H' Z') (fun _ z => z) ⟨Z, env, c, sr, gd, h⟩ fun {Z c V H2 Z2 c2 cv cx v env env2} a e h2 => ?_
  obtain ⟨its, e1, h3⟩ := lift_some h2
  have ec : ∀ a, cx a = cv a := a.m0 rfl
  have st := a.st.freeze
  have sr2 := a.sr.kept (kept_freeze (cx := cx) (u := c2))
  unfold gEn at e1
  split at e1
  · rename_i o xs
    cases e1
    obtain ⟨x, rfl, r1⟩ := Rs_1 a.rl
    obtain ⟨l1, e6, p1⟩ := pdL_of (Z' := fun z => Z2 z ∨ cx z ≠ 0) (fun z n => .inr (by rw [ec]; exact n)) (fun z h => .inl h) r1
    obtain ⟨zs, h1, _⟩ := id p1
    exact ⟨l1, zs, by rw [e6], .inl ⟨.inl (.inl h1), src_end st sr2 (wk_enL l1 _) p1 h3⟩⟩
  · rename_i xs
    cases e1
    obtain ⟨x, rfl, r1⟩ := Rs_1 a.rl
    obtain ⟨l1, e6, p1⟩ := pdT_of (Z' := fun z => Z2 z ∨ cx z ≠ 0) (fun z n => .inr (by rw [ec]; exact n)) (fun z h => .inl h) r1
    obtain ⟨zs, h1, _⟩ := id p1
    exact ⟨l1, zs, by rw [e6], .inr ⟨h1, src_end st sr2 (wk_enT l1 _) p1 h3⟩⟩
  · cases e1
end
theorem r_en {dr : DA} {env : Env} {Q : List Val → Env → Prop} : Run (dEn dr env) Q ↔ Run (dr env) fun vs e => ∃ its, gEn vs = some its ∧ Q its e := by
  unfold dEn; rw [run_bnd]; simp only [run_lift]
theorem g_enL {o : Bool} {xs : List Val} : gEn [.lst o xs] = some (enV 0 (frzs xs)) := rfl
theorem g_enT {xs : List Val} : gEn [.tup xs] = some (enV 0 (frzs xs)) := rfl
end PV

namespace SrD
open PySem PySem.Spec PyProof.Rows PySem.W L2
/-! ### sorted, tuples of numbers -/
theorem each_zip : ∀ {xs : List V} {us : List Value} {ds : List PyData}, Vals xs us → xs.length = ds.length → EachIs (fun u (b : V × PyData) => RelV b.1 u) us (xs.zip ds)
  | [], _, ds, h, _ => by cases h; exact .nil
  | x :: xs, _, [], h, hl => by simp at hl
  | x :: xs, _, d :: ds, h, hl => by
    cases h with
    | cons r rr => exact .cons r (each_zip rr (by simpa using hl))
theorem vals_each : ∀ {us : List Value} {bs : List (V × PyData)}, EachIs (fun u (b : V × PyData) => RelV b.1 u) us bs → Vals (bs.map Prod.fst) us
  | _, _, .nil => .nil
  | _, _, .cons r rr => .cons r (vals_each rr)
def rSrt (K : PySem.W.Frag) : List V → Hp → VK → Prop := fun vs H Q => ∃ (a : Addr) (xs : List V) (ds : List PyData), vs = [V.ref a] ∧ SqL K H a xs ∧ DpAll K H xs ds ∧ AllAlike ds ∧ Sortable ds ∧ (∀ d ∈ ds, d.depth ≤ 60) ∧
  ∀ p, H p = none → Q (.ref p) (upd H p (.lst (((xs.zip ds).mergeSort (dataLe false Prod.snd)).map Prod.fst)))
theorem dp_len {K : PySem.W.Frag} {H : Hp} : ∀ {xs : List V} {ds : List PyData}, DpAll K H xs ds → xs.length = ds.length
  | _, _, .nil => rfl
  | _, _, .cons _ t => by rw [List.length_cons, List.length_cons, dp_len t]
section
variable {X : Cx}
theorem cr_srt (hu : X.A.units + 64 < cLine) : CallR X (.builtin "sorted") (rSrt X.K) := by
  intro pins s σ H vs us Q I r h
  obtain ⟨a, xs, ds, rfl, hs, hd, hal, hk, hdep, q⟩ := h
  obtain ⟨its, rv, hl, hz⟩ := I.list hs
  rw [Vals.ref1 r]
  have hlen := dp_len hd
  have esnd : (xs.zip ds).map Prod.snd = ds := by rw [List.map_snd_zip]; omega
  have e1 : EachIs (fun u (b : V × PyData) => RelV b.1 u) its (xs.zip ds) := each_zip rv hlen
  obtain ⟨as, ra⟩ := Dp.readsAll I ds xs its hd rv
  have e2 : EachIs (fun u (b : V × PyData) => ∃ as, Reads s.heap u b.2 as) its (xs.zip ds) := readsAll_each Prod.snd (by rw [esnd]; exact ra)
  have hzl : (xs.zip ds).length = xs.length := by rw [List.length_zip, hlen, Nat.min_self]
  refine sorted_data (enc := Prod.snd) hl.isList e1 e2 (by rw [esnd]; exact hal) (by rw [esnd]; exact hk) (by rw [hzl]; exact hz) (fun b hb => ?_) fun out ho eo => ?_
  · have := hdep b.2 (List.of_mem_zip hb).2
    omega
  · obtain ⟨ep, he'⟩ := PyProof.Rows.sortedAll_at s.heap its out.toArray
    have hl2 : (((xs.zip ds).mergeSort (dataLe false Prod.snd)).map Prod.fst).length ≤ sizeLine := by
      rw [List.length_map, List.length_mergeSort, hzl]; exact hz
    exact ⟨.ref _, upd H (s.heap.objs.size + 1) (.lst (((xs.zip ds).mergeSort (dataLe false Prod.snd)).map Prod.fst)), I.laid (t' := s.toks) (fun _ _ => PyProof.Rows.sortedAll_old) (Nat.le_succ _) ⟨hl2, out, ep, vals_each eo, he'⟩, rfl, q _ (I.hok.fresh (Nat.le_succ _))⟩
theorem or {f : Value} {r1 r2 : List V → Hp → VK → Prop} (h1 : CallR X f r1) (h2 : CallR X f r2) : CallR X f (fun vs H Q => r1 vs H Q ∨ r2 vs H Q) :=
  fun pins s σ H xs us Q I v h => h.elim (h1 pins s σ H xs us Q I v) (h2 pins s σ H xs us Q I v)
end
end SrD
namespace PV
open PySem PySem.Spec PyProof.Rows PySem.W L2
/-- before, number by number -/
def ltL : List Int → List Int → Bool
  | [], [] => false
  | [], _ :: _ => true
  | _ :: _, [] => false
  | x :: xs, y :: ys => if x = y then ltL xs ys else decide (x < y)
def leL (a b : List Int) : Bool := !ltL b a
theorem ltL_ok : ∀ xs ys : List Int, dataLt (.tuple (xs.map .int)) (.tuple (ys.map .int)) = ltL xs ys
  | [], [] => by rw [dataLt_tuple]; rfl
  | [], y :: ys => by rw [dataLt_tuple]; rfl
  | x :: xs, [] => by rw [dataLt_tuple]; rfl
  | x :: xs, y :: ys => by
    rw [dataLt_tuple, List.map_cons, List.map_cons, dataLt_cons (by simp [alike]), dataLt_int, ← dataLt_tuple, ltL_ok xs ys]
    simp only [PyData.eqv, beq_iff_eq]
    rfl
def tupInts : Val → Option (List Int)
  | .tup (v :: vs) => toInts (v :: vs)
  | _ => none
def keyI (v : Val) : List Int := (tupInts v).getD []
def leV (v w : Val) : Bool := leL (keyI v) (keyI w)
def srtT (vs : List Val) : List Val := vs.mergeSort leV
def gSortT : List Val → Option Val
  | [.lst _ xs] => if xs.all fun v => (tupInts v).isSome then some (.lst true (srtT xs)) else none
  | _ => none
def gSortU (vs : List Val) : Option Val := match gSorted vs with
  | some r => some r
  | none => gSortT vs
theorem toInts_vi' : ∀ {vs : List Val} {ns : List Int}, toInts vs = some ns → vs = vi ns
  | [], ns, h => by cases h; rfl
  | v :: vs, ns, h => by
    cases v with
    | int i =>
      unfold toInts at h
      obtain ⟨ms, e1, rfl⟩ := Option.map_eq_some_iff.mp h
      rw [toInts_vi' e1]; rfl
    | _ => cases h
theorem tupInts_some {v : Val} (h : (tupInts v).isSome = true) : ∃ i ns, v = .tup (vi (i :: ns)) ∧ keyI v = i :: ns := by
  unfold tupInts at h
  split at h
  · rename_i w ws
    cases e : toInts (w :: ws) with
    | none => rw [e] at h; cases h
    | some ns =>
      have e2 := toInts_vi' e
      cases ns with
      | nil => cases e2
      | cons i ns =>
        refine ⟨i, ns, by rw [e2], ?_⟩
        show (toInts (w :: ws)).getD [] = _
        rw [e]; rfl
  · cases h
theorem keyI_vi {i : Int} {ns : List Int} : keyI (.tup (vi (i :: ns))) = i :: ns := by
  show (toInts (vi (i :: ns))).getD [] = _
  rw [toInts_vi]; rfl
def dataK (v : Val) : PyData := .tuple ((keyI v).map .int)
theorem dep_ints : ∀ xs : List Int, PyData.depthAll (xs.map .int) = 0 := depth_ints
theorem Rs_zip {g : Gl} {H : Hp} {Z : AP} : ∀ {xs : List Val} {ys : List V} {c : Cnt}, Rs g H Z xs ys c → (∀ a, c a = 0) → ∀ p ∈ ys.zip xs, R g H Z p.2 p.1 (fun _ => 0)
  | [], ys, c, h, hc, p, hp => by simp at hp
  | x :: xs, ys, c, h, hc, p, hp => by
    simp only [Rs] at h
    obtain ⟨y, zs, c1, c2, rfl, r1, r2, e⟩ := h
    rw [List.zip_cons_cons] at hp
    rcases List.mem_cons.mp hp with rfl | hp
    · exact R_eq _ _ _ _ (fun a => by have := hc a; have := e a; show 0 = c1 a; omega) r1
    · exact Rs_zip r2 (fun a => by have := hc a; have := e a; omega) p hp
theorem Rs_of {g : Gl} {H : Hp} {Z : AP} : ∀ l : List (V × Val), (∀ p ∈ l, R g H Z p.2 p.1 (fun _ => 0)) → Rs g H Z (l.map Prod.snd) (l.map Prod.fst) (fun _ => 0)
  | [], _ => Rs_nil
  | p :: l, h => by
    simp only [List.map_cons, Rs]
    exact ⟨p.1, l.map Prod.fst, fun _ => 0, fun _ => 0, rfl, h p (List.mem_cons_self ..), Rs_of l fun q hq => h q (List.mem_cons_of_mem _ hq), fun _ => rfl⟩
theorem dp_tups {g : Gl} {H : Hp} {Z : AP} : ∀ {xs : List Val} {ys : List V} {c : Cnt}, Rs g H Z xs ys c → (∀ v ∈ xs, (tupInts v).isSome = true) → DpAll g.K H ys (xs.map dataK)
  | [], ys, c, h, _ => by simp only [Rs] at h; rw [h.1]; exact .nil
  | x :: xs, ys, c, h, hx => by
    simp only [Rs] at h
    obtain ⟨y, zs, c1, c2, rfl, r1, r2, e⟩ := h
    refine .cons ?_ (dp_tups r2 fun v hv => hx v (List.mem_cons_of_mem _ hv))
    obtain ⟨i, ns, rfl, ek⟩ := tupInts_some (hx x (List.mem_cons_self ..))
    unfold dataK
    rw [ek]
    obtain ⟨a, us, rfl, h1, h2⟩ := tup_of r1
    rw [ints_of (toInts_vi (i :: ns)) h2] at h1
    exact .tup h1 (dp_ints (i :: ns))
theorem pn_sortT {g : Gl} : PureN g (SrD.rSrt g.K) gSortT := by
  intro vs res e H Z xs c Q r hz k
  unfold gSortT at e
  split at e
  · rename_i o us
    split at e
    · rename_i hall
      cases e
      have hall : ∀ v ∈ us, (tupInts v).isSome = true := fun v hv => List.all_eq_true.mp hall v hv
      obtain ⟨x, rfl, r1⟩ := Rs_1 r
      obtain ⟨a, ys, d, rfl, h, _, rs, _⟩ := lst_of r1
      have how : owns us = false := by
        rw [owns_any, List.any_eq_false]
        intro v hv
        obtain ⟨i, ns, rfl, _⟩ := tupInts_some (hall v hv)
        show ¬ owns (vi _) = true
        rw [owns_vi]; decide
      have rs0 := Rs_zero how rs
      refine ⟨a, ys, us.map dataK, rfl, .inl (.inl h), dp_tups rs hall, ?_, ?_, ?_, fun p hp => ?_⟩
      · refine AllAlike.of fun b b' => ?_
        unfold dataK
        simp only [alike]
        exact alike_ints _ _
      · refine .inl fun d hd => ?_
        obtain ⟨v, hv, rfl⟩ := List.mem_map.mp hd
        obtain ⟨i, ns, rfl, ek⟩ := tupInts_some (hall v hv)
        unfold dataK
        rw [ek]
        exact ⟨_, _, rfl⟩
      · intro d hd
        obtain ⟨v, hv, rfl⟩ := List.mem_map.mp hd
        unfold dataK
        rw [PyData.depth, dep_ints]
        omega
      · have hl : us.length = ys.length := (Rs_len rs).symm
        have e1 : (ys.zip us).map (fun p => (p.1, dataK p.2)) = ys.zip (us.map dataK) := by
          rw [List.zip_map_right]; rfl
        have e2 : ((ys.zip us).mergeSort fun p q => leV p.2 q.2).map (fun p => (p.1, dataK p.2)) = (ys.zip (us.map dataK)).mergeSort (dataLe false Prod.snd) := by
          rw [← e1]
          refine sort_maps _ fun p _ q _ => ?_
          show (!ltL (keyI q.2) (keyI p.2)) = !dataLt (dataK q.2) (dataK p.2)
          unfold dataK
          rw [ltL_ok]
        have e3 : ((ys.zip us).mergeSort fun p q => leV p.2 q.2).map Prod.snd = srtT us := by
          have := sort_maps (r := fun p q : V × Val => leV p.2 q.2) (s := leV) Prod.snd (l := ys.zip us) fun p _ q _ => rfl
          rw [this, List.map_snd_zip (by omega)]
          rfl
        have rn := Rs_of ((ys.zip us).mergeSort fun p q => leV p.2 q.2) fun p hp => Rs_zip rs0 (fun _ => rfl) p ((List.mergeSort_perm _ _).mem_iff.mp hp)
        rw [e3] at rn
        have e4 : ((ys.zip (us.map dataK)).mergeSort (dataLe false Prod.snd)).map Prod.fst = ((ys.zip us).mergeSort fun p q => leV p.2 q.2).map Prod.fst := by
          rw [← e2, List.map_map]; rfl
        rw [e4]
        obtain ⟨m, rn2⟩ := new_lst hp hz rn
        exact k _ _ Z _ m rn2
    · cases e
  · cases e
abbrev rSortU (K : PySem.W.Frag) : List V → Hp → VK → Prop := fun vs H Q => rSortedI K vs H Q ∨ SrD.rSrt K vs H Q
theorem cr_sortU {X : Cx} (hu : X.A.units + 64 < cLine) : CallR X (.builtin "sorted") (rSortU X.K) := SrD.or cr_sortedI (SrD.cr_srt hu)
theorem pn_sortU {g : Gl} : PureN g (rSortU g.K) gSortU := by
  intro vs res e H Z xs c Q r hz k
  unfold gSortU at e
  split at e
  · rename_i r' hr
    cases e
    exact .inl (pn_sorted _ _ hr _ _ _ _ _ r hz k)
  · exact .inr (pn_sortT _ _ e _ _ _ _ _ r hz k)
theorem g_sortU {o : Bool} {ns : List Int} : gSortU [.lst o (vi ns)] = some (.lst true (vi (srt ns))) := by
  unfold gSortU; rw [g_sorted]
/-- tuples of numbers, none of them empty -/
theorem g_sortT {o : Bool} {xs : List Val} (h : ∀ v ∈ xs, ∃ i ns, v = .tup (vi (i :: ns))) : gSortU [.lst o xs] = some (.lst true (srtT xs)) := by
  cases xs with
  | nil => 
    show some (Val.lst true (vi [])) = some (Val.lst true (([] : List Val).mergeSort leV))
    rw [List.mergeSort_nil]; rfl
  | cons v xs =>
    obtain ⟨i, ns, rfl⟩ := h v (List.mem_cons_self ..)
    unfold gSortU
    rw [show gSorted [.lst o (.tup (vi (i :: ns)) :: xs)] = none from rfl]
    show gSortT _ = _
    unfold gSortT
    dsimp only
    rw [if_pos]
    refine List.all_eq_true.mpr fun w hw => ?_
    obtain ⟨j, ms, rfl⟩ := h w hw
    show (toInts (vi (j :: ms))).isSome = true
    rw [toInts_vi]; rfl
end PV

namespace PV
open PySem PySem.Spec PyProof.Rows L2
theorem hu65 {A : Around} {k : Nat} (hr : Room k A) : A.units + 65 < cLine := by have := hr.un; omega
/-! ### in, among data -/
def gInD (neg : Bool) (v w : Val) : Option Val := match w with
  | .lst _ xs => match toD v, toDs xs with
    | some d, some ds => if SeqAt.shaped d && SeqAt.shaped (.list ds) then some (.bl (if neg then !(ds.any fun z => PyData.eqv z d) else ds.any fun z => PyData.eqv z d)) else none
    | _, _ => none
  | _ => none
def gInU (neg : Bool) (v w : Val) : Option Val := match gIn neg v w with
  | some r => some r
  | none => gInD neg v w
theorem p2_inD {g : Gl} : Pure2 g (rInD g.K) (gInD false) := by
  intro v w res e H Z x y c d Q rv rw hz k
  unfold gInD at e
  split at e
  · split at e
    · rename_i o xs _ _ d1 d2 e1 e2
      split at e
      · rename_i hs
        cases e
        obtain ⟨h1, h2⟩ := Bool.and_eq_true_iff.mp hs
        exact ⟨d1, d2, toD_dp _ _ _ _ e1 rv, toD_dp _ _ _ (.list d2) (by unfold toD; rw [e2]; rfl) rw, h1, h2, k _ H Z _ (New.refl hz) R_bl⟩
      · cases e
    · cases e
  · cases e
theorem p2_notInD {g : Gl} : Pure2 g (rNotInD g.K) (gInD true) := by
  intro v w res e H Z x y c d Q rv rw hz k
  unfold gInD at e
  split at e
  · split at e
    · rename_i o xs _ _ d1 d2 e1 e2
      split at e
      · rename_i hs
        cases e
        obtain ⟨h1, h2⟩ := Bool.and_eq_true_iff.mp hs
        exact ⟨d1, d2, toD_dp _ _ _ _ e1 rv, toD_dp _ _ _ (.list d2) (by unfold toD; rw [e2]; rfl) rw, h1, h2, k _ H Z _ (New.refl hz) R_bl⟩
      · cases e
    · cases e
  · cases e
abbrev rInU (K : PySem.W.Frag) : R2 := fun x y H Q => rIn K false x y H Q ∨ rInD K x y H Q
abbrev rNinU (K : PySem.W.Frag) : R2 := fun x y H Q => rIn K true x y H Q ∨ rNotInD K x y H Q
theorem op_inU {X : Cx} (hu : X.A.units + 65 < cLine) : OpR X (compareOp .In) (rInU X.K) := .or op_in_seq (op_inD hu)
theorem op_ninU {X : Cx} (hu : X.A.units + 65 < cLine) : OpR X (compareOp .NotIn) (rNinU X.K) := .or op_notIn_seq (op_notInD hu)
theorem p2_inU {g : Gl} : Pure2 g (rInU g.K) (gInU false) := by
  intro v w res e H Z x y c d Q rv rw hz k
  unfold gInU at e
  split at e
  · rename_i r hr
    cases e
    exact .inl (p2_in _ _ _ hr _ _ _ _ _ _ _ rv rw hz k)
  · exact .inr (p2_inD _ _ _ e _ _ _ _ _ _ _ rv rw hz k)
theorem p2_ninU {g : Gl} : Pure2 g (rNinU g.K) (gInU true) := by
  intro v w res e H Z x y c d Q rv rw hz k
  unfold gInU at e
  split at e
  · rename_i r hr
    cases e
    exact .inl (p2_in _ _ _ hr _ _ _ _ _ _ _ rv rw hz k)
  · exact .inr (p2_notInD _ _ _ e _ _ _ _ _ _ _ rv rw hz k)
theorem gInU_bl {neg : Bool} : ∀ v w r, gInU neg v w = some r → ∃ b, r = .bl b := fun v w r e => by
  unfold gInU at e
  split at e
  · rename_i r' hr
    cases e
    exact gIn_bl _ _ _ hr
  · unfold gInD at e
    split at e
    · split at e
      · split at e
        · cases e; exact ⟨_, rfl⟩
        · cases e
      · cases e
    · cases e
/-! list(range(a, b)), tuple(range(a, b)) -/
def rgI (i j : Int) : List Int := (List.range (j - i).toNat).map fun k : Nat => i + (k : Int)
def gRgL2 : Val → Val → Option Val
  | .int i, .int j => if decide (0 ≤ i ∧ i ≤ 1000000 ∧ 0 ≤ j ∧ j ≤ 1000000) = true then some (.lst true (vi (rgI i j))) else none
  | _, _ => none
def gRgT2 : Val → Val → Option Val
  | .int i, .int j => if decide (0 ≤ i ∧ i ≤ 1000000 ∧ 0 ≤ j ∧ j ≤ 1000000) = true then some (.tup (vi (rgI i j))) else none
  | _, _ => none
theorem rgV_i {i j : Int} : rgV i j = (rgI i j).map V.int := by
  unfold rgV rgI
  rw [List.map_map]; rfl
section
variable {X : Cx} {W : WX} {a b : Expr} {qa qb ma mb : Bool} {da db : DE} {pos : Pos}
theorem v_listRg2 {p p3 pos2 : Pos} (hc : X.calm = true) (hg : L2.Gl X "list") (hm : X.mg "list" = none) (hg2 : L2.Gl X "range") (hm2 : X.mg "range" = none) (ha : VE X W qa ma a da) (hb : VE X W qb mb b db) (hmm : ma = false ∨ qb = true := by first | exact .inl rfl | exact .inr rfl)
    (na : starEach [a, b] X.env = (false, eval a X.env) :: starEach [b] X.env := by rfl) (nb : starEach [b] X.env = (false, eval b X.env) :: starEach [] X.env := by rfl) (hp : (backTo pos2 (starEach [b] X.env)).any (·.1) = false := by rfl)
    (n3 : starEach [.Call (.Name "range" p3) [a, b] [] pos2] X.env = (false, eval (.Call (.Name "range" p3) [a, b] [] pos2) X.env) :: starEach [] X.env := by rfl) : VE X W (qa && qb) false (.Call (.Name "list" p) [.Call (.Name "range" p3) [a, b] [] pos2] [] pos) (dBin gRgL2 da db) := by
  refine ⟨PE.weak (pe_listRg hc hg hm (prg_2 hg2 hm2 ha.pe hb.pe na nb hp) n3) fun σ H Q h => ?_⟩
  refine run2 (fun _ z => z) (fun _ _ z => z) hmm h fun sr rv rw st hl hq h2 => ?_
  obtain ⟨res, e2, h3⟩ := lift_some h2
  unfold gRgL2 at e2
  split at e2
  · rename_i i j
    split at e2
    · rename_i hj
      have hj := of_decide_eq_true hj
      cases e2
      refine ⟨i, j, int_of rv, int_of rw, .of_le (by omega) (by omega) (by omega) (by omega), fun p hp => ?_⟩
      rw [rgV_i]
      obtain ⟨n, rn⟩ := new_lst hp st.good.zd (Rs_ints (g := gl X) (rgI i j))
      exact fin st hl sr hq n rn h3
    · cases e2
  · cases e2
theorem v_tupRg2 {p p3 pos2 : Pos} (hc : X.calm = true) (hg : L2.Gl X "tuple") (hm : X.mg "tuple" = none) (hg2 : L2.Gl X "range") (hm2 : X.mg "range" = none) (ha : VE X W qa ma a da) (hb : VE X W qb mb b db) (hmm : ma = false ∨ qb = true := by first | exact .inl rfl | exact .inr rfl)
    (na : starEach [a, b] X.env = (false, eval a X.env) :: starEach [b] X.env := by rfl) (nb : starEach [b] X.env = (false, eval b X.env) :: starEach [] X.env := by rfl) (hp : (backTo pos2 (starEach [b] X.env)).any (·.1) = false := by rfl)
    (n3 : starEach [.Call (.Name "range" p3) [a, b] [] pos2] X.env = (false, eval (.Call (.Name "range" p3) [a, b] [] pos2) X.env) :: starEach [] X.env := by rfl) : VE X W (qa && qb) false (.Call (.Name "tuple" p) [.Call (.Name "range" p3) [a, b] [] pos2] [] pos) (dBin gRgT2 da db) := by
  refine ⟨PE.weak (pe_tupRg hc hg hm (prg_2 hg2 hm2 ha.pe hb.pe na nb hp) n3) fun σ H Q h => ?_⟩
  refine run2 (fun _ z => z) (fun _ _ z => z) hmm h fun sr rv rw st hl hq h2 => ?_
  obtain ⟨res, e2, h3⟩ := lift_some h2
  unfold gRgT2 at e2
  split at e2
  · rename_i i j
    split at e2
    · rename_i hj
      have hj := of_decide_eq_true hj
      cases e2
      refine ⟨i, j, int_of rv, int_of rw, .of_le (by omega) (by omega) (by omega) (by omega), fun p hp => ?_⟩
      rw [rgV_i]
      obtain ⟨n, rn⟩ := new_tup hp st.good.zd (Rs_ints (g := gl X) (rgI i j))
      exact fin st hl sr hq n rn h3
    · cases e2
  · cases e2
end
theorem g_rgL2 {i j : Int} {r : Val} : gRgL2 (.int i) (.int j) = some r ↔ (decide (0 ≤ i ∧ i ≤ 1000000 ∧ 0 ≤ j ∧ j ≤ 1000000) = true ∧ r = .lst true (vi (rgI i j))) := g_if
theorem g_rgT2 {i j : Int} {r : Val} : gRgT2 (.int i) (.int j) = some r ↔ (decide (0 ≤ i ∧ i ≤ 1000000 ∧ 0 ≤ j ∧ j ≤ 1000000) = true ∧ r = .tup (vi (rgI i j))) := g_if
theorem r_augI {i : Nat} {G : Val → Val → Option Val} {d : DE} {env : Env} {Q : Out → Env → Prop} : Run (dAug G i d env) Q ↔ ∃ v, getv env i = some v ∧ own v = false ∧ Run (d env) fun w e => ∃ r, G v w = some r ∧ Q .nx (e.set i r) := by
  unfold dAug
  rw [run_bnd, run_lift]
  constructor
  · rintro ⟨v, h1, h2⟩
    by_cases o : own v = true
    · rw [if_pos o] at h2; exact h2.elim
    · rw [if_neg o] at h2
      simp only [run_bnd, run_lift, r_ok] at h2
      exact ⟨v, h1, by simpa using o, h2⟩
  · rintro ⟨v, h1, o, h2⟩
    refine ⟨v, h1, ?_⟩
    rw [if_neg (by rw [o]; decide)]
    simp only [run_bnd, run_lift, r_ok]
    exact h2
theorem g_addI {i j : Int} : gAddI (.int i) (.int j) = some (.int (i + j)) := rfl
theorem own_int {i : Int} : own (.int i) = false := rfl
end PV

namespace PV
open PySem PySem.Spec PyProof.Rows L2
/-- a tuple display that keeps what it is given -/
def dTupO (d : DA) : DE := fun env => bnd (d env) fun vs e => lift (gTup vs) e
section
variable {X : Cx} {W : WX} {es : List Expr} {pos : Pos} {qa : Bool} {dr : DA}
theorem v_tupO {k : Nat} (ha : VA X W qa false es dr) : VE X W qa false (.Tuple es k pos) (dTupO dr) := by
  refine ⟨PE.weak (pe_tup ha.pa) fun σ H Q h => ?_⟩
  refine runA (fun _ z => z) h fun {Z c V H2 Z2 c2 cv cx v env env2} a e h2 => ?_
  obtain ⟨res, e2, h3⟩ := lift_some h2
  unfold gTup at e2
  split at e2
  · rename_i hz
    cases e2
    refine ⟨by rw [Rs_len a.rl]; exact small_line hz, fun p hp => ?_⟩
    have n : New H2 Z2 (upd H2 p (.tup V)) Z2 (fun _ => 0) := New.lay hp a.st.good.zd
    have st := a.st.trans (n.step a.st.good)
    refine h3 (.ref p) _ Z2 c2 cv cv (a.sr.kept (n.same.kept n.zin)) ?_ (fun _ _ => rfl) (st.eq fun x => by show c2 x + cv x = (c2 x + cx x) + 0; rw [a.m0 rfl]; omega) fun z x o y => n.same x o (a.q1 z x o y)
    simp only [R]
    exact ⟨p, V, rfl, .inl (.inl upd_same), Rs_kept _ _ _ (n.same.kept n.zin) a.rl⟩
  · cases e2
end
theorem r_tupO {dr : DA} {env : Env} {Q : Val → Env → Prop} : Run (dTupO dr env) Q ↔ Run (dr env) fun vs e => small vs.length = true ∧ Q (.tup vs) e := by
  unfold dTupO gTup; rw [run_bnd]; simp only [run_lift]
  constructor <;> intro h <;> refine h.mono fun vs e => ?_
  · rintro ⟨v, h1, h2⟩
    split at h1
    · cases h1; exact ⟨by assumption, h2⟩
    · cases h1
  · rintro ⟨h1, h2⟩
    exact ⟨_, if_pos h1, h2⟩
end PV

namespace PV
open PySem PySem.Spec PyProof.Rows L2
/-! ### plain: equality with [], membership of tuples, places -/
theorem toDs_vi (ns : List Int) : toDs (vi ns) = some (ns.map .int) := by
  induction ns with
  | nil => rfl
  | cons n ns ih =>
    show toDs (.int n :: vi ns) = _
    unfold toDs
    rw [ih]; rfl
theorem lay_ints (ns : List Int) : PyData.canLayAll0 (ns.map .int) = true := by
  induction ns with
  | nil => rfl
  | cons n ns ih =>
    show (PyData.canLay0 (.int n) && PyData.canLayAll0 (ns.map .int)) = true
    rw [ih]; rfl
theorem dep_i (ns : List Int) : PyData.depthAll (ns.map .int) = 0 := PySem.W.depth_ints ns
theorem sh_lst (ns : List Int) : SeqAt.shaped (.list (ns.map .int)) = true := by
  unfold SeqAt.shaped
  rw [show PyData.canLay0 (.list (ns.map .int)) = PyData.canLayAll0 (ns.map .int) from rfl, lay_ints, PyData.depth, dep_i]
  rfl
theorem sh_tup (ns : List Int) : SeqAt.shaped (.tuple (ns.map .int)) = true := by
  unfold SeqAt.shaped
  rw [show PyData.canLay0 (.tuple (ns.map .int)) = PyData.canLayAll0 (ns.map .int) from rfl, lay_ints, PyData.depth, dep_i]
  rfl
theorem g_eq1 {α : Type} {o p : Bool} {xs : List α} : gEq (.lst o (xs.map fun _ => .int 1)) (.lst p []) = some (.bl xs.isEmpty) := by
  have e : (xs.map fun _ => Val.int 1) = vi (xs.map fun _ => (1 : Int)) := vi_map.symm
  rw [e]
  unfold gEq gEqB
  rw [show toD (.lst o (vi (xs.map fun _ => (1 : Int)))) = some (.list ((xs.map fun _ => (1 : Int)).map .int)) by unfold toD; rw [toDs_vi]; rfl, show toD (.lst p []) = some (.list ([].map .int)) from rfl]
  dsimp only
  rw [sh_lst, sh_lst]
  cases xs with
  | nil => rfl
  | cons x xs => simp [PyData.eqv, PyData.eqvAll]
theorem g_inU {neg : Bool} {v w : Val} {r : Val} (h : gIn neg v w = some r) : gInU neg v w = some r := by unfold gInU; rw [h]
theorem eqv_ints : ∀ xs ys : List Int, PyData.eqvAll (xs.map .int) (ys.map .int) = decide (xs = ys)
  | [], [] => rfl
  | [], _ :: _ => by simp [PyData.eqvAll]
  | _ :: _, [] => by simp [PyData.eqvAll]
  | x :: xs, y :: ys => by
    show (PyData.eqv (.int x) (.int y) && PyData.eqvAll (xs.map .int) (ys.map .int)) = _
    rw [eqv_ints xs ys, Bool.eq_iff_iff]
    simp [PyData.eqv]
/-- tuples of numbers -/
def tl (xss : List (List Int)) : List Val := xss.map fun ns => .tup (vi ns)
theorem toDs_tl (xss : List (List Int)) : toDs (tl xss) = some (xss.map fun ns => .tuple (ns.map .int)) := by
  induction xss with
  | nil => rfl
  | cons n ns ih =>
    show toDs (.tup (vi n) :: tl ns) = _
    unfold toDs
    rw [ih, show toD (.tup (vi n)) = some (.tuple (n.map .int)) by unfold toD; rw [toDs_vi]; rfl]
    rfl
theorem sh_tl (xss : List (List Int)) : SeqAt.shaped (.list (xss.map fun ns => .tuple (ns.map .int))) = true := by
  have h1 : PyData.canLayAll0 (xss.map fun ns => .tuple (ns.map .int)) = true := by
    induction xss with
    | nil => rfl
    | cons n ns ih =>
      show (PyData.canLayAll0 (n.map .int) && PyData.canLayAll0 (ns.map fun ns => .tuple (ns.map .int))) = true
      rw [ih, lay_ints]; rfl
  have h2 : PyData.depthAll (xss.map fun ns => .tuple (ns.map .int)) ≤ 1 := by
    induction xss with
    | nil => exact Nat.zero_le _
    | cons n ns ih =>
      rw [List.map_cons, PyData.depthAll, PyData.depth, dep_i]
      have := ih (by
        show PyData.canLayAll0 _ = true
        have h1 : (PyData.canLayAll0 (n.map .int) && PyData.canLayAll0 (ns.map fun ns => PyData.tuple (ns.map .int))) = true := h1
        exact (Bool.and_eq_true_iff.mp h1).2)
      omega
  unfold SeqAt.shaped
  rw [show PyData.canLay0 (.list (xss.map fun ns => .tuple (ns.map .int))) = PyData.canLayAll0 (xss.map fun ns => .tuple (ns.map .int)) from rfl, h1, PyData.depth]
  exact decide_eq_true (by omega)
theorem owns_tl (xss : List (List Int)) : owns (tl xss) = false := owns_map (f := fun ns : List Int => Val.tup (vi ns)) (fun ns => owns_vi ns) xss
theorem g_ninT {o : Bool} {ns : List Int} {xss : List (List Int)} : gInU true (.tup (vi ns)) (.lst o (tl xss)) = some (.bl (!decide (ns ∈ xss))) := by
  unfold gInU
  rw [show gIn true (.tup (vi ns)) (.lst o (tl xss)) = none from rfl]
  dsimp only
  unfold gInD
  dsimp only
  rw [show toD (.tup (vi ns)) = some (.tuple (ns.map .int)) by unfold toD; rw [toDs_vi]; rfl, toDs_tl]
  dsimp only
  rw [sh_tup, sh_tl]
  have key : ((xss.map fun ns => PyData.tuple (ns.map .int)).any fun z => PyData.eqv z (.tuple (ns.map .int))) = decide (ns ∈ xss) := by
    rw [List.any_map, Bool.eq_iff_iff]
    simp only [List.any_eq_true, decide_eq_true_eq, Function.comp]
    constructor
    · rintro ⟨y, hy, e⟩
      have e : PyData.eqvAll (y.map .int) (ns.map .int) = true := e
      rw [eqv_ints, decide_eq_true_eq] at e
      exact e ▸ hy
    · intro h
      refine ⟨ns, h, ?_⟩
      show PyData.eqvAll (ns.map .int) (ns.map .int) = true
      rw [eqv_ints, decide_eq_true rfl]
  rw [key]
  rfl
theorem alike_tl {n : Nat} {o p : Bool} {xss : List (List Int)} (h : xss.length ≤ 1000) (h2 : ∀ ns ∈ xss, ns.length ≤ 1000) : Alike (n + 3) (.lst o (tl xss)) (.lst p (tl xss)) := by
  refine ⟨owns_tl _, owns_tl _, rfl, by unfold tl; rw [List.length_map]; exact h, fun i x y h1 h3 => ?_⟩
  rw [h1] at h3
  cases h3
  obtain ⟨ns, hns, rfl⟩ := List.mem_map.mp (List.mem_of_getElem? h1)
  exact alike_vi (h2 ns hns)
/-- the sorted ones -/
def srtL (xss : List (List Int)) : List (List Int) := xss.mergeSort leL
theorem srtL_perm (xss : List (List Int)) : (srtL xss).Perm xss := List.mergeSort_perm _ _
theorem srtT_tl {xss : List (List Int)} (h : ∀ ns ∈ xss, ns ≠ []) : srtT (tl xss) = tl (srtL xss) := by
  unfold srtT tl srtL
  refine (PySem.W.sort_maps (r := leL) (s := leV) (fun ns : List Int => Val.tup (vi ns)) fun a ha b hb => ?_).symm
  have key : ∀ ns ∈ xss, keyI (.tup (vi ns)) = ns := fun ns hns => by
    cases ns with
    | nil => exact absurd rfl (h [] hns)
    | cons i ns => exact keyI_vi
  unfold leV
  rw [key a ha, key b hb]
theorem g_sortL {o : Bool} {xss : List (List Int)} (h : ∀ ns ∈ xss, ns ≠ []) : gSortU [.lst o (tl xss)] = some (.lst true (tl (srtL xss))) := by
  rw [g_sortT fun v hv => ?_, srtT_tl h]
  obtain ⟨ns, hns, rfl⟩ := List.mem_map.mp hv
  cases ns with
  | nil => exact absurd rfl (h [] hns)
  | cons i ns => exact ⟨i, ns, rfl⟩
theorem r_pS {i : Nat} {dp : DP} {dk : DE} {env : Env} {Q : List Val → Env → Prop} : Run (dPS i dp dk env) Q ↔ Run (dp env) fun p e1 => Run (dk e1) fun k e2 => ∃ p', ((getv e2 i).bind fun v => (getP v (p ++ [k])).bind fun _ => some (p ++ [k])) = some p' ∧ Q p' e2 := by
  unfold dPS; simp only [run_bnd, run_lift]
end PV

namespace PV
open PySem PySem.Spec PyProof.Rows L2
/-! ### alike lots -/
/-- one outside of L has the same against all of L -/
def alk1 (B : Nat → Nat → Bool) (m s x : Nat) : Bool := s.testBit x || (decide (mk (B x) m &&& s = 0) || decide (mk (B x) m &&& s = s))
def alk (B : Nat → Nat → Bool) (m s : Nat) : Bool := (List.range m).all (alk1 B m s)
def alN (B : Nat → Nat → Bool) (m : Nat) : List Nat := ((List.range (2 ^ m - 1)).map (· + 1)).filter (alk B m)
def crs (s t : Nat) : Bool := !(decide (s &&& t = 0) || (decide (s &&& t = s) || decide (s &&& t = t)))
def frN (B : Nat → Nat → Bool) (m : Nat) : List Nat := (alN B m).filter fun s => (alN B m).all fun t => !crs s t
abbrev lotN (m s : Nat) : List Int := lot (fun y => s.testBit y) m
theorem mem_alN {B : Nat → Nat → Bool} {m s : Nat} : s ∈ alN B m ↔ 1 ≤ s ∧ s < 2 ^ m ∧ alk B m s = true := by
  unfold alN
  rw [List.mem_filter, List.mem_map]
  constructor
  · rintro ⟨⟨x, hx, rfl⟩, h⟩
    have := List.mem_range.mp hx
    exact ⟨by omega, by omega, h⟩
  · rintro ⟨h1, h2, h⟩
    exact ⟨⟨s - 1, List.mem_range.mpr (by omega), by omega⟩, h⟩
theorem lotN_ne {m s : Nat} (h1 : 1 ≤ s) (h2 : s < 2 ^ m) : lotN m s ≠ [] := by
  intro h
  have : s = 0 := by
    refine Nat.eq_of_testBit_eq fun i => ?_
    rw [Nat.zero_testBit]
    by_cases hi : i < m
    · cases hb : s.testBit i with
      | false => rfl
      | true =>
        have : (i : Int) ∈ lotN m s := mem_lot.mpr ⟨i, rfl, hi, hb⟩
        rw [h] at this; cases this
    · exact Nat.testBit_lt_two_pow (Nat.lt_of_lt_of_le h2 (Nat.pow_le_pow_right (by omega) (by omega)))
  omega
theorem alN_len (B : Nat → Nat → Bool) (m : Nat) : (alN B m).length ≤ 2 ^ m := by
  unfold alN
  refine Nat.le_trans (List.length_filter_le _ _) ?_
  rw [List.length_map, List.length_range]
  have := Nat.two_pow_pos m
  omega
theorem frN_len (B : Nat → Nat → Bool) (m : Nat) : (frN B m).length ≤ 2 ^ m := Nat.le_trans (List.length_filter_le _ _) (alN_len B m)
theorem rgs21 {k : Nat} (h : 1 ≤ k) : rgs2 1 (k : Int) = ((List.range (k - 1)).map (· + 1)).map fun s : Nat => Val.int (s : Int) := by
  unfold rgs2
  rw [show ((k : Int) - 1).toNat = k - 1 by omega, List.map_map]
  refine List.map_congr_left fun x _ => ?_
  show Val.int (1 + (x : Int)) = Val.int ((x + 1 : Nat) : Int)
  congr 1; push_cast; omega
/-- nothing above -/
theorem lot_top {f : Nat → Bool} {m p : Nat} (hp : p ≤ m) (h : mk f m / 2 ^ p = 0) : lot f m = lot f p := by
  have hz : ∀ y, p ≤ y → y < m → f y = false := fun y h1 h2 => by
    cases hf : f y with
    | false => rfl
    | true =>
      have hlt : mk f m < 2 ^ p := by
        rcases Nat.lt_or_ge (mk f m) (2 ^ p) with q | q
        · exact q
        · have := Nat.div_pos q (Nat.two_pow_pos p); omega
      have := mk_tb f m y
      rw [Nat.testBit_lt_two_pow (Nat.lt_of_lt_of_le hlt (Nat.pow_le_pow_right (by omega) h1)), decide_eq_true h2, hf] at this
      cases this
  obtain ⟨k, rfl⟩ := Nat.exists_eq_add_of_le hp
  clear h hp
  induction k with
  | zero => rfl
  | succ k ih =>
    rw [show p + (k + 1) = (p + k) + 1 from rfl, lot_succ, if_neg (by rw [hz (p + k) (by omega) (by omega)]; decide), List.append_nil]
    exact ih fun y h1 h2 => hz y h1 (by omega)
theorem lot_mk_len {f g : Nat → Bool} {m : Nat} (h : mk f m = mk g m) : lot f m = lot g m := by
  refine lot_congr fun y hy => ?_
  have h1 := mk_tb f m y
  have h2 := mk_tb g m y
  rw [h, h2, decide_eq_true hy] at h1
  simpa using h1.symm
/-- of one alone, of all: always alike -/
theorem filt_sub {α : Type} {p q : α → Bool} : ∀ {xs : List α}, (∀ x ∈ xs, q x = true → p x = true) → ((xs.filter p).length = (xs.filter q).length ↔ ∀ x ∈ xs, p x = true → q x = true)
  | [], _ => by simp
  | x :: xs, h => by
    have ih := filt_sub (xs := xs) (p := p) (q := q) fun y hy => h y (List.mem_cons_of_mem _ hy)
    have le : ∀ ys : List α, (∀ y ∈ ys, q y = true → p y = true) → (ys.filter q).length ≤ (ys.filter p).length := fun ys => by
      induction ys with
      | nil => intro _; exact Nat.le_refl _
      | cons y ys ih2 =>
        intro hh
        have i2 := ih2 fun z hz => hh z (List.mem_cons_of_mem _ hz)
        have hy := hh y (List.mem_cons_self ..)
        rw [List.filter_cons, List.filter_cons]
        cases hq : q y <;> cases hp : p y <;> simp_all <;> omega
    have l2 := le xs fun y hy => h y (List.mem_cons_of_mem _ hy)
    have hx := h x (List.mem_cons_self ..)
    rw [List.filter_cons, List.filter_cons]
    cases hq : q x <;> cases hp : p x
    · simp [hq, hp, ih]
    · simp [hq, hp]
      intro he; omega
    · rw [hq, hp] at hx; simp at hx
    · simp [hq, hp, ih]
def oneAll (m s : Nat) : Bool := decide ((lotN m s).length = 1) || decide ((lotN m s).length = m)
theorem oneAll_len : ∀ m, m < 9 → 2 < m → (((List.range (2 ^ m - 1)).map (· + 1)).filter (oneAll m)).length = m + 1 := by decide +kernel
theorem bits_ext {a b m : Nat} (ha : a < 2 ^ m) (hb : b < 2 ^ m) (h : ∀ y, y < m → a.testBit y = b.testBit y) : a = b := by
  refine Nat.eq_of_testBit_eq fun i => ?_
  by_cases hi : i < m
  · exact h i hi
  · have p := Nat.pow_le_pow_right (n := 2) (by omega) (show m ≤ i by omega)
    rw [Nat.testBit_lt_two_pow (Nat.lt_of_lt_of_le ha p), Nat.testBit_lt_two_pow (Nat.lt_of_lt_of_le hb p)]
theorem filt_all {f : Nat → Bool} : ∀ m, ((List.range m).filter f).length = m → ∀ y, y < m → f y = true
  | 0, _, y, h => by omega
  | m + 1, h, y, hy => by
    rw [List.range_succ, List.filter_append, List.length_append] at h
    have l1 := List.length_filter_le f (List.range m)
    rw [List.length_range] at l1
    have l2 := List.length_filter_le f [m]
    rw [List.length_singleton] at l2
    by_cases e : y = m
    · subst e
      cases hf : f y with
      | true => rfl
      | false => simp [hf] at h; omega
    · exact filt_all m (by omega) y (by omega)
theorem oneAll_alk {B : Nat → Nat → Bool} {m s : Nat} (h2 : s < 2 ^ m) (h : oneAll m s = true) : alk B m s = true := by
  unfold oneAll at h
  simp only [Bool.or_eq_true, decide_eq_true_eq] at h
  unfold alk
  refine List.all_eq_true.mpr fun x hx => ?_
  have hx := List.mem_range.mp hx
  rcases h with h | h
  · have hl : ∃ z, lotN m s = [z] := by
      match hz : lotN m s, h with
      | [z], _ => exact ⟨z, rfl⟩
    obtain ⟨z, hz⟩ := hl
    have hb : ∀ y, y < m → s.testBit y = decide ((y : Int) = z) := fun y hy => by
      rw [← mem_lotN (f := fun y => s.testBit y) hy]
      show decide ((y : Int) ∈ lotN m s) = _
      rw [hz]; simp
    have hzm : z ∈ lotN m s := by rw [hz]; simp
    obtain ⟨p, rfl, hp, _⟩ := mem_lot.mp hzm
    have hand : mk (B x) m &&& s < 2 ^ m := Nat.lt_of_le_of_lt Nat.and_le_right h2
    unfold alk1
    simp only [Bool.or_eq_true, decide_eq_true_eq]
    right
    cases hB : B x p with
    | true =>
      right
      refine bits_ext hand h2 fun y hy => ?_
      rw [Nat.testBit_and, mk_tb, decide_eq_true hy, hb y hy]
      by_cases e : (y : Int) = (p : Int)
      · have : y = p := by omega
        subst this
        rw [hB]; simp
      · rw [decide_eq_false e]; simp
    | false =>
      left
      refine bits_ext hand (Nat.two_pow_pos m) fun y hy => ?_
      rw [Nat.testBit_and, mk_tb, decide_eq_true hy, hb y hy, Nat.zero_testBit]
      by_cases e : (y : Int) = (p : Int)
      · have : y = p := by omega
        subst this
        rw [hB]; simp
      · rw [decide_eq_false e]; simp
  · have hall := filt_all (f := fun y => s.testBit y) m (by have h := h; unfold lotN lot at h; rw [List.length_map] at h; exact h)
    unfold alk1
    rw [hall x hx]; rfl
/-- alike ones are one and all just if there are no more -/
theorem simple_iff {B : Nat → Nat → Bool} {m : Nat} (hm : m < 9) (h3 : 2 < m) : (alN B m).all (oneAll m) = decide ((alN B m).length = m + 1) := by
  have e := filt_sub (xs := (List.range (2 ^ m - 1)).map (· + 1)) (p := alk B m) (q := oneAll m) fun s hs h => by
    obtain ⟨x, hx, rfl⟩ := List.mem_map.mp hs
    have := List.mem_range.mp hx
    exact oneAll_alk (by omega) h
  rw [oneAll_len m hm h3] at e
  rw [Bool.eq_iff_iff, decide_eq_true_eq]
  show _ ↔ (List.filter _ _).length = _
  rw [e, List.all_eq_true]
  unfold alN
  simp only [List.mem_filter]
  exact ⟨fun h s hs hp => h s ⟨hs, hp⟩, fun h s hs => h s hs.1 hs.2⟩
theorem cast_sumN {α : Type} {xs : List α} {f : α → Nat} : (xs.map fun t => ((f t : Nat) : Int)).sum = (((xs.map f).sum : Nat) : Int) := by
  induction xs with
  | nil => rfl
  | cons x xs ih => rw [List.map_cons, List.map_cons, List.sum_cons, List.sum_cons, ih]; push_cast; rfl
theorem bit0 {s p : Nat} : decide (Builtin.bitAnd ((s : Int) / 2 ^ p) 1 = 0) = !s.testBit p := by
  rw [shr_bit, Nat.testBit_eq_decide_div_mod_eq]
  have := Nat.mod_lt (s / 2 ^ p) (show 0 < 2 by omega)
  generalize s / 2 ^ p % 2 = z at *
  rw [Bool.eq_iff_iff]
  simp
  omega
theorem bit1 {s p : Nat} : decide (Builtin.bitAnd ((s : Int) / 2 ^ p) 1 = 1) = s.testBit p := by
  rw [shr_bit, Nat.testBit_eq_decide_div_mod_eq]
  generalize s / 2 ^ p % 2 = z
  exact decide_eq_decide.mpr (by omega)
theorem toBls_m {α : Type} {f : α → Bool} (xs : List α) : toBls (xs.map fun x => Val.bl (f x)) = some (xs.map f) := by
  have := toBls_map (xs.map f)
  rw [List.map_map] at this
  exact this
theorem g_anyM {α : Type} {o : Bool} {xs : List α} {f : α → Bool} : gAny [.lst o (xs.map fun x => .bl (f x))] = some (.bl (xs.any f)) := by
  show (toBls (xs.map fun x => Val.bl (f x))).map _ = _
  rw [toBls_m]
  show some (Val.bl _) = _
  rw [List.any_map]; rfl
theorem g_allM {α : Type} {o : Bool} {xs : List α} {f : α → Bool} : gAll [.lst o (xs.map fun x => .bl (f x))] = some (.bl (xs.all f)) := by
  show (toBls (xs.map fun x => Val.bl (f x))).map _ = _
  rw [toBls_m]
  show some (Val.bl _) = _
  rw [List.all_map]; rfl
theorem filt_emp {α : Type} {p : α → Bool} {xs : List α} : (xs.filter fun x => !p x).isEmpty = xs.all p := by
  rw [Bool.eq_iff_iff, List.isEmpty_iff, List.filter_eq_nil_iff, List.all_eq_true]
  simp
theorem tl_map {ss : List Nat} {m : Nat} : (ss.map fun s => Val.tup (vi (lotN m s))) = tl (ss.map (lotN m)) := by
  unfold tl; rw [List.map_map]; rfl
abbrev ci (ss : List Nat) : List Int := ss.map fun s : Nat => (s : Int)
theorem frzs_tl (xss : List (List Int)) : frzs (tl xss) = tl xss := frzs_of (owns_tl xss)
theorem vi_ci (ss : List Nat) : vi (ci ss) = ss.map fun s : Nat => Val.int (s : Int) := vi_map
theorem filt_len2 {α : Type} {p : α → Bool} {xs : List α} {k : Nat} (h : xs.length ≤ k) : (xs.filter p).length ≤ k := Nat.le_trans (List.length_filter_le _ _) h
theorem alike_bl {n : Nat} {b : Bool} : Alike (n + 1) (.bl b) (.bl b) := rfl
theorem getP_0 {o : Bool} {x : Val} {xs : List Val} : getP (.lst o (x :: xs)) [.int 0] = some x := by
  show (atI (x :: xs) 0).bind (getP · []) = _
  rw [at_0]; rfl
theorem getP_1 {o : Bool} {x y : Val} {xs : List Val} : getP (.lst o (x :: y :: xs)) [.int 1] = some y := by
  show (atI (x :: y :: xs) 1).bind (getP · []) = _
  rw [at_1]; rfl
theorem modP_0 {f : List Val → Option (List Val × Val)} {x : Val} {xs : List Val} : modP f (.lst true (x :: xs)) [.int 0] = (modP f x []).map fun q => (.lst true (q.1 :: xs), q.2) := by
  show (match ixN (x :: xs).length ((0 : Nat) : Int) with | some j => _ | none => _) = _
  rw [ixn_nat (by simp)]
  rfl
theorem modP_1 {f : List Val → Option (List Val × Val)} {x y : Val} {xs : List Val} : modP f (.lst true (x :: y :: xs)) [.int 1] = (modP f y []).map fun q => (.lst true (x :: q.1 :: xs), q.2) := by
  show (match ixN (x :: y :: xs).length ((1 : Nat) : Int) with | some j => _ | none => _) = _
  rw [ixn_nat (by simp)]
  rfl
theorem g_isLp {e : Env} {i : Nat} {p : List Val} {u : Unit} : isL e i p = some u ↔ isLst ((getv e i).bind (getP · p)) := by
  unfold isL
  cases h : (getv e i).bind (getP · p) with
  | none => exact ⟨fun h => (nomatch h), fun h => h.elim⟩
  | some v => cases v <;> first | exact ⟨fun _ => trivial, fun _ => rfl⟩ | exact ⟨fun h => (nomatch h), fun h => h.elim⟩
theorem map_some_iff {α β : Type} {f : α → β} {x : Option α} {b : β} : x.map f = some b ↔ ∃ a, x = some a ∧ b = f a := by
  rw [Option.map_eq_some_iff]
  exact ⟨fun ⟨a, h1, h2⟩ => ⟨a, h1, h2.symm⟩, fun ⟨a, h1, h2⟩ => ⟨a, h1, h2.symm⟩⟩
theorem mod_l {F : List Val → Option (List Val × Val)} {xs : List Val} {b : Val × Val} : modP F (.lst true xs) [] = some b ↔ ∃ r, F xs = some r ∧ b = (.lst true r.1, r.2) := mod_nil
end PV

namespace PV
open PySem PySem.Spec PyProof.Rows L2
/-! ### tables put into the places of players -/
def loc : List Nat → Nat → Nat × Nat
  | [], u => (0, u)
  | z :: zs, u => if u < z then (0, u) else ((loc zs (u - z)).1 + 1, (loc zs (u - z)).2)
def st (zs : List Nat) (k : Nat) : Nat := (zs.take k).sum
theorem st_0 (zs : List Nat) : st zs 0 = 0 := rfl
theorem st_c (z : Nat) (zs : List Nat) (k : Nat) : st (z :: zs) (k + 1) = z + st zs k := by unfold st; rw [List.take_succ_cons, List.sum_cons]
theorem st_s : ∀ {zs : List Nat} {k : Nat}, k < zs.length → st zs (k + 1) = st zs k + zs.getD k 0
  | z :: zs, 0, _ => by rw [st_c, st_0, st_0]; simp
  | z :: zs, k + 1, h => by
    rw [st_c, st_c, st_s (zs := zs) (k := k) (by simpa using h)]
    simp; omega
theorem st_all (zs : List Nat) : st zs zs.length = zs.sum := by unfold st; rw [List.take_length]
theorem st_le : ∀ {zs : List Nat} {k : Nat}, k < zs.length → st zs k + zs.getD k 0 ≤ zs.sum
  | z :: zs, 0, _ => by rw [st_0]; simp
  | z :: zs, k + 1, h => by
    have := st_le (zs := zs) (k := k) (by simpa using h)
    rw [st_c, List.sum_cons]
    simp at this ⊢; omega
theorem loc_st : ∀ {zs : List Nat} {k x : Nat}, k < zs.length → x < zs.getD k 0 → loc zs (st zs k + x) = (k, x)
  | z :: zs, 0, x, _, h => by
    have h : x < z := by simpa using h
    rw [st_0, Nat.zero_add]
    unfold loc
    rw [if_pos h]
  | z :: zs, k + 1, x, hk, h => by
    have ih := loc_st (zs := zs) (k := k) (x := x) (by simpa using hk) (by simpa using h)
    rw [st_c]
    unfold loc
    rw [if_neg (by omega), show z + st zs k + x - z = st zs k + x by omega, ih]
theorem loc_in : ∀ {zs : List Nat} {u : Nat}, u < zs.sum → (loc zs u).1 < zs.length ∧ (loc zs u).2 < zs.getD (loc zs u).1 0 ∧ u = st zs (loc zs u).1 + (loc zs u).2
  | z :: zs, u, h => by
    rw [List.sum_cons] at h
    by_cases hz : u < z
    · unfold loc
      rw [if_pos hz]
      exact ⟨by simp, by simpa using hz, by rw [st_0]; simp⟩
    · obtain ⟨h1, h2, h3⟩ := loc_in (zs := zs) (u := u - z) (by omega)
      unfold loc
      rw [if_neg hz]
      refine ⟨by simpa using h1, by simpa using h2, ?_⟩
      rw [st_c]
      simp only
      omega
theorem mk_s (f : Nat → Bool) (n : Nat) : mk f (n + 1) = mk f n + if f n = true then 2 ^ n else 0 := rfl
theorem loc_c (z : Nat) (zs : List Nat) (u : Nat) : loc (z :: zs) u = if u < z then (0, u) else ((loc zs (u - z)).1 + 1, (loc zs (u - z)).2) := rfl
theorem mk_split (f : Nat → Bool) (a : Nat) : ∀ b, mk f (a + b) = mk f a + 2 ^ a * mk (fun v => f (a + v)) b
  | 0 => by rw [show mk (fun v => f (a + v)) 0 = 0 from rfl, Nat.mul_zero]; rfl
  | b + 1 => by
    rw [show a + (b + 1) = (a + b) + 1 from rfl, mk_s, mk_split f a b, mk_s (fun v => f (a + v)) b, Nat.mul_add]
    by_cases h : f (a + b) = true
    · rw [if_pos h, if_pos h, Nat.pow_add]; omega
    · rw [if_neg h, if_neg h]; omega
theorem blk : ∀ (zs : List Nat) (g : Nat → Nat → Bool), mk (fun v => g (loc zs v).1 (loc zs v).2) zs.sum = ((List.range zs.length).map fun k => 2 ^ st zs k * mk (g k) (zs.getD k 0)).sum
  | [], g => rfl
  | z :: zs, g => by
    rw [List.sum_cons, mk_split, List.length_cons, List.range_succ_eq_map, List.map_cons, List.sum_cons, List.map_map]
    have e1 : mk (fun v => g (loc (z :: zs) v).1 (loc (z :: zs) v).2) z = 2 ^ st (z :: zs) 0 * mk (g 0) ((z :: zs).getD 0 0) := by
      rw [st_0, Nat.pow_zero, Nat.one_mul]
      refine mk_congr z fun y hy => ?_
      rw [loc_c, if_pos hy]
    have e2 : mk (fun v => g (loc (z :: zs) (z + v)).1 (loc (z :: zs) (z + v)).2) zs.sum = mk (fun v => (fun k x => g (k + 1) x) (loc zs v).1 (loc zs v).2) zs.sum := by
      refine mk_congr _ fun y hy => ?_
      rw [loc_c, if_neg (by omega), show z + y - z = y by omega]
    rw [e1, e2, blk zs fun k x => g (k + 1) x]
    congr 1
    have : ∀ ks : List Nat, 2 ^ z * (ks.map fun k => 2 ^ st zs k * mk (g (k + 1)) (zs.getD k 0)).sum = (ks.map ((fun k => 2 ^ st (z :: zs) k * mk (g k) ((z :: zs).getD k 0)) ∘ Nat.succ)).sum := fun ks => by
      induction ks with
      | nil => rfl
      | cons k ks ih =>
        rw [List.map_cons, List.map_cons, List.sum_cons, List.sum_cons, Nat.mul_add, ih]
        congr 1
        show _ = 2 ^ st (z :: zs) (k + 1) * mk (g (k + 1)) ((z :: zs).getD (k + 1) 0)
        rw [st_c, Nat.pow_add, Nat.mul_assoc]
        simp
    exact this _
abbrev Tab := (Nat → Nat → Bool) × Nat
def szs (L : List Tab) : List Nat := L.map Prod.snd
def tabs (L : List Tab) (k : Nat) : Nat → Nat → Bool := (L.getD k (fun _ _ => false, 0)).1
/-- all of them put into W -/
def cmp (W : Nat → Nat → Bool) (L : List Tab) : Nat → Nat → Bool := fun u v => decide (u < (szs L).sum) && (decide (v < (szs L).sum) &&
  (if (loc (szs L) u).1 = (loc (szs L) v).1 then tabs L (loc (szs L) u).1 (loc (szs L) u).2 (loc (szs L) v).2 else W (loc (szs L) u).1 (loc (szs L) v).1))
theorem szs_len (L : List Tab) : (szs L).length = L.length := by unfold szs; rw [List.length_map]
theorem tabs_tour {L : List Tab} (hL : ∀ p ∈ L, Tour p.1 p.2) {k : Nat} (hk : k < L.length) : Tour (tabs L k) ((szs L).getD k 0) := by
  unfold tabs szs
  have e1 : L.getD k (fun _ _ => false, 0) = L[k] := by rw [List.getD_eq_getElem?_getD, List.getElem?_eq_getElem hk]; rfl
  have e2 : (L.map Prod.snd).getD k 0 = L[k].2 := by rw [List.getD_eq_getElem?_getD, List.getElem?_map, List.getElem?_eq_getElem hk]; rfl
  rw [e1, e2]
  exact hL _ (List.getElem_mem _)
theorem cmp_tour {W : Nat → Nat → Bool} {L : List Tab} (hW : Tour W L.length) (hL : ∀ p ∈ L, Tour p.1 p.2) : Tour (cmp W L) (szs L).sum := by
  refine ⟨fun u v hu hv huv => ?_, fun u => ?_, fun u v h => ?_⟩
  · obtain ⟨a1, a2, a3⟩ := loc_in hu
    obtain ⟨b1, b2, b3⟩ := loc_in hv
    rw [szs_len] at a1 b1
    unfold cmp
    rw [decide_eq_true hu, decide_eq_true hv, Bool.true_and, Bool.true_and]
    by_cases e : (loc (szs L) u).1 = (loc (szs L) v).1
    · rw [if_pos e, if_pos e.symm, Bool.true_and, Bool.true_and]
      rw [← e] at b2 b3 ⊢
      refine (tabs_tour hL a1).1 _ _ a2 b2 fun e2 => huv ?_
      rw [a3, b3, e2]
    · rw [if_neg e, if_neg (Ne.symm e), Bool.true_and, Bool.true_and]
      exact hW.1 _ _ a1 b1 e
  · unfold cmp
    by_cases hu : u < (szs L).sum
    · obtain ⟨a1, a2, a3⟩ := loc_in hu
      rw [szs_len] at a1
      rw [if_pos rfl, (tabs_tour hL a1).2.1]; simp
    · rw [decide_eq_false hu]; rfl
  · unfold cmp at h
    simp only [Bool.and_eq_true, decide_eq_true_eq] at h
    exact ⟨h.1, h.2.1⟩
/-- a row of it -/
theorem cmp_row {W : Nat → Nat → Bool} {L : List Tab} (hW : Tour W L.length) {k x : Nat} (hk : k < L.length) (hx : x < (szs L).getD k 0) :
    mk (cmp W L (st (szs L) k + x)) (szs L).sum = (((List.range L.length).filter (W k)).map fun o => (2 ^ (szs L).getD o 0 - 1) * 2 ^ st (szs L) o).sum + mk (tabs L k x) ((szs L).getD k 0) * 2 ^ st (szs L) k := by
  have hu : st (szs L) k + x < (szs L).sum := by have := st_le (zs := szs L) (k := k) (by rw [szs_len]; exact hk); omega
  have e1 : mk (cmp W L (st (szs L) k + x)) (szs L).sum = mk (fun v => (fun o y => if k = o then tabs L k x y else W k o) (loc (szs L) v).1 (loc (szs L) v).2) (szs L).sum := by
    refine mk_congr _ fun v hv => ?_
    unfold cmp
    rw [decide_eq_true hu, decide_eq_true hv, loc_st (by rw [szs_len]; exact hk) hx]
    rfl
  have eb := blk (szs L) fun o y => if k = o then tabs L k x y else W k o
  rw [szs_len] at eb
  rw [e1]
  refine eb.trans ?_
  have key : ∀ n, n ≤ L.length → ((List.range n).map fun o => 2 ^ st (szs L) o * mk (fun y => if k = o then tabs L k x y else W k o) ((szs L).getD o 0)).sum =
      (((List.range n).filter (W k)).map fun o => (2 ^ (szs L).getD o 0 - 1) * 2 ^ st (szs L) o).sum + if k < n then mk (tabs L k x) ((szs L).getD k 0) * 2 ^ st (szs L) k else 0 := fun n => by
    induction n with
    | zero => intro _; rfl
    | succ n ih =>
      intro hn
      rw [List.range_succ, List.map_append, List.sum_append, ih (by omega), List.filter_append, List.map_append, List.sum_append]
      by_cases e : k = n
      · subst e
        rw [if_neg (by omega), if_pos (by omega)]
        have hd : [k].filter (W k) = [] := by simp [hW.2.1]
        rw [hd]
        simp [Nat.mul_comm]
      · have e2 : (if k < n + 1 then mk (tabs L k x) ((szs L).getD k 0) * 2 ^ st (szs L) k else 0) = if k < n then mk (tabs L k x) ((szs L).getD k 0) * 2 ^ st (szs L) k else 0 := by
          by_cases h : k < n
          · rw [if_pos h, if_pos (by omega)]
          · rw [if_neg h, if_neg (by omega)]
        rw [e2]
        have e3 : mk (fun y => if k = n then tabs L k x y else W k n) ((szs L).getD n 0) = if W k n = true then 2 ^ (szs L).getD n 0 - 1 else 0 := by
          cases hw : W k n with
          | true => rw [if_pos rfl, mk_congr (g := fun _ => true) _ fun y _ => by rw [if_neg e], mk_full]
          | false => rw [if_neg (by decide), mk_congr (g := fun _ => false) _ fun y _ => by rw [if_neg e], mk_none]
        simp only [List.map_cons, List.map_nil, List.sum_cons, List.sum_nil]
        rw [e3]
        by_cases hw : W k n = true
        · rw [if_pos hw]; simp [hw, Nat.mul_comm]; omega
        · rw [if_neg hw]; simp [hw]
  have := key L.length (Nat.le_refl _)
  rw [if_pos hk] at this
  exact this
theorem lot_int {a b : Nat} (hab : a ≤ b) : ∀ m, b ≤ m → lot (fun y => decide (a ≤ y) && decide (y < b)) m = rgI (a : Int) (b : Int)
  | m, h => by
    obtain ⟨k, rfl⟩ := Nat.exists_eq_add_of_le h
    clear h
    induction k with
    | zero =>
      obtain ⟨c, rfl⟩ := Nat.exists_eq_add_of_le hab
      unfold lot rgI
      rw [show (((a + c : Nat) : Int) - (a : Int)).toNat = c by omega, Nat.add_zero, List.range_add, List.filter_append, List.map_append]
      have e1 : (List.range a).filter (fun y => decide (a ≤ y) && decide (y < a + c)) = [] := by
        rw [List.filter_eq_nil_iff]
        intro y hy
        have := List.mem_range.mp hy
        simp; omega
      have e2 : ((List.range c).map (a + ·)).filter (fun y => decide (a ≤ y) && decide (y < a + c)) = (List.range c).map (a + ·) := by
        rw [List.filter_eq_self]
        intro y hy
        obtain ⟨x, hx, rfl⟩ := List.mem_map.mp hy
        have := List.mem_range.mp hx
        simp; omega
      rw [e1, e2, List.map_map]
      show [] ++ _ = _
      rw [List.nil_append]
      refine List.map_congr_left fun x _ => ?_
      show ((a + x : Nat) : Int) = _
      push_cast; rfl
    | succ k ih =>
      rw [show b + (k + 1) = (b + k) + 1 from rfl, lot_succ, if_neg (by simp), List.append_nil]
      exact ih
/-- the places of one player are alike -/
theorem place_alike {W : Nat → Nat → Bool} {L : List Tab} {k : Nat} (hk : k < L.length) (h1 : 1 ≤ (szs L).getD k 0) : rgI (st (szs L) k : Int) ((st (szs L) k + (szs L).getD k 0 : Nat) : Int) ∈ (alN (cmp W L) (szs L).sum).map (lotN (szs L).sum) := by
  let f : Nat → Bool := fun y => decide (st (szs L) k ≤ y) && decide (y < st (szs L) k + (szs L).getD k 0)
  have hle : st (szs L) k + (szs L).getD k 0 ≤ (szs L).sum := st_le (by rw [szs_len]; exact hk)
  have hb : ∀ y, y < (szs L).sum → (mk f (szs L).sum).testBit y = f y := fun y hy => by rw [mk_tb, decide_eq_true hy, Bool.true_and]
  have hf : ∀ y, y < (szs L).sum → f y = decide ((loc (szs L) y).1 = k) := fun y hy => by
    obtain ⟨a1, a2, a3⟩ := loc_in hy
    rw [Bool.eq_iff_iff]
    simp only [f, Bool.and_eq_true, decide_eq_true_eq]
    constructor
    · rintro ⟨q1, q2⟩
      have := loc_st (zs := szs L) (k := k) (x := y - st (szs L) k) (by rw [szs_len]; exact hk) (by omega)
      rw [show st (szs L) k + (y - st (szs L) k) = y by omega] at this
      rw [this]
    · intro e
      rw [e] at a2 a3
      omega
  refine List.mem_map.mpr ⟨mk f (szs L).sum, mem_alN.mpr ⟨?_, mk_lt _ _, ?_⟩, ?_⟩
  · rcases Nat.eq_zero_or_pos (mk f (szs L).sum) with h | h
    · have := hb (st (szs L) k) (by omega)
      rw [h, Nat.zero_testBit] at this
      have h2 : f (st (szs L) k) = true := by
        show (decide (st (szs L) k ≤ st (szs L) k) && decide (st (szs L) k < st (szs L) k + (szs L).getD k 0)) = true
        rw [decide_eq_true (Nat.le_refl _), decide_eq_true (by omega)]; rfl
      rw [h2] at this; cases this
    · exact h
  · unfold alk
    refine List.all_eq_true.mpr fun u hu => ?_
    have hu := List.mem_range.mp hu
    unfold alk1
    rw [hb u hu, hf u hu]
    by_cases e : (loc (szs L) u).1 = k
    · rw [decide_eq_true e]; rfl
    · rw [decide_eq_false e, Bool.false_or]
      have hand : mk (cmp W L u) (szs L).sum &&& mk f (szs L).sum < 2 ^ (szs L).sum := Nat.lt_of_le_of_lt Nat.and_le_right (mk_lt _ _)
      have hbit : ∀ v, v < (szs L).sum → (mk (cmp W L u) (szs L).sum &&& mk f (szs L).sum).testBit v = (W (loc (szs L) u).1 k && f v) := fun v hv => by
        rw [Nat.testBit_and, mk_tb, hb v hv, decide_eq_true hv, Bool.true_and, hf v hv]
        by_cases e2 : (loc (szs L) v).1 = k
        · rw [decide_eq_true e2, Bool.and_true, Bool.and_true]
          unfold cmp
          rw [decide_eq_true hu, decide_eq_true hv, e2, if_neg e]; rfl
        · rw [decide_eq_false e2, Bool.and_false, Bool.and_false]
      simp only [Bool.or_eq_true, decide_eq_true_eq]
      cases hw : W (loc (szs L) u).1 k with
      | true => right; exact bits_ext hand (mk_lt _ _) fun v hv => by rw [hbit v hv, hw, hb v hv, Bool.true_and]
      | false => left; exact bits_ext hand (Nat.two_pow_pos _) fun v hv => by rw [hbit v hv, hw, Nat.zero_testBit, Bool.false_and]
  · rw [← lot_int (Nat.le_add_right _ _) (szs L).sum hle]
    exact lot_congr fun y hy => hb y hy
def pv (b : Bool) (L : List Tab) : List Val := L.map fun p => .lst b (vi (wn p.1 p.2))
theorem frzs_pv (b : Bool) (L : List Tab) : frzs (pv b L) = pv false L := by
  unfold pv
  rw [frzs_eq, List.map_map]
  refine List.map_congr_left fun p _ => ?_
  show Val.lst false (frzs (vi _)) = _
  rw [frzs_vi]
theorem pv_at {b : Bool} {L : List Tab} {k : Nat} (hk : k < L.length) : atI (pv b L) (k : Int) = some (.lst b (vi (wn (tabs L k) ((szs L).getD k 0)))) := by
  refine at_nat ?_
  unfold pv tabs szs
  have e1 : L.getD k (fun _ _ => false, 0) = L[k] := by rw [List.getD_eq_getElem?_getD, List.getElem?_eq_getElem hk]; rfl
  have e2 : (L.map Prod.snd).getD k 0 = L[k].2 := by rw [List.getD_eq_getElem?_getD, List.getElem?_map, List.getElem?_eq_getElem hk]; rfl
  rw [e1, e2, List.getElem?_map, List.getElem?_eq_getElem hk]; rfl
theorem pv_len (b : Bool) (L : List Tab) : (pv b L).length = L.length := by unfold pv; rw [List.length_map]
abbrev sts (L : List Tab) (n : Nat) : List Int := (List.range n).map fun k => (st (szs L) k : Int)
theorem sts_at {L : List Tab} {n k : Nat} (h : k < n) : atI (vi (sts L n)) (k : Int) = some (.int (st (szs L) k : Int)) := by
  refine at_vi (at_nat ?_)
  rw [List.getElem?_map, List.getElem?_range h]; rfl
theorem shl_nat {a p : Nat} (ha : a < 2 ^ 20) (hp : p < 1000) : cShl (a : Int) (p : Int) = true := by
  have h : ib (a : Int) ≤ 20 := sz_of (by omega) (by exact_mod_cast ha)
  have h : Builtin.Int.intBits (a : Int) ≤ 20 := h
  exact decide_eq_true ⟨by omega, by omega⟩
theorem st_mono {zs : List Nat} {k : Nat} (hk : k ≤ zs.length) : st zs k ≤ zs.sum := by
  rcases Nat.lt_or_eq_of_le hk with h | h
  · have := st_le h; omega
  · rw [h, st_all]; exact Nat.le_refl _
end PV

namespace PV.K48
open PySem PySem.Spec PyProof.Rows L2 PV
/-- _law_same(told, due); slots: 0=told 1=due 2=at -/
def D__law_same (self : Fn) : DS :=
    dSeq (dIfS (dTst (dUn (gIsiT ["list", "tuple"]) (dVar 1))) (dSeq (dIfS (dOr (dNot (dTst (dUn (gIsiT ["list", "tuple"]) (dVar 0)))) (dOr (dTst (dBin gNe (dUn (gIsi "list") (dVar 0)) (dUn (gIsi "list") (dVar 1)))) (dTst (dBin gNe (dPure gLen (dCons (dVar 0) (dNil))) (dPure gLen (dCons (dVar 1) (dNil))))))) (dRet (dC (.bl false))) (dSkip)) <|
    dRet (dBin gEq (dComp (dRng1 (dCons (dPure gLen (dCons (dVar 1) (dNil))) (dNil))) (tgN 2) (dNot (dTst (dPC self (dCons (dBin gIx (dVar 0) (dVar 2)) (dCons (dBin gIx (dVar 1) (dVar 2)) (dNil)))))) (dC (.int 1)) [2]) (dLst (dNil)))) (dSkip)) <|
    dSeq (dIfS (dOr (dTst (dBin (gIsN false) (dVar 1) (dC .non))) (dTst (dUn (gIsi "bool") (dVar 1)))) (dRet (dIf (dTst (dBin (gIsN false) (dVar 1) (dC .non))) (dBin (gIsN false) (dVar 0) (dC .non)) (dAndV (dUn (gIsi "bool") (dVar 0)) (dBin gEq (dVar 0) (dVar 1))))) (dSkip)) <|
    dSeq (dIfS (dTst (dUn (gIsi "str") (dVar 1))) (dRet (dAndV (dUn (gIsi "str") (dVar 0)) (dBin gEq (dVar 0) (dVar 1)))) (dSkip)) <|
    dRet (dAndV (dUn (gIsi "int") (dVar 0)) (dAndV (dUn gNot (dUn (gIsi "bool") (dVar 0))) (dBin gEq (dVar 0) (dVar 1))))
def F__law_same_at : Nat → Fn
  | 0 => fun _ => none
  | n + 1 => mkFn 2 3 [0, 1] (D__law_same (F__law_same_at n))
def F__law_same : Fn := F__law_same_at 8
theorem F__law_same_at_len : ∀ n vs r, F__law_same_at n vs = some r → vs.length = 2
  | 0, _, _, h => nomatch h
  | _ + 1, vs, r, h => mkFn_len vs r h
theorem F__law_same_len : ∀ vs r, F__law_same vs = some r → vs.length = 2 := F__law_same_at_len 8
/-- _law_feed(script, k); slots: 0=script 1=k 2=cell -/
def D__law_feed : DS :=
    dSeq (dSet 2 (dBin gAdd (dBin gMulU (dC (.int 733)) (dVar 1)) (dBin gMulU (dC (.int 9)) (dPure gSum (dCons (dSl (dVar 0) dNoPart (dPart (dC (.int 3)))) (dNil)))))) <|
    dSeq (dIfS (dTst (dBin gLt (dVar 1) (dPure gLen (dCons (dVar 0) (dNil))))) (dSet 2 (dUn noOwn (dBin gIx (dVar 0) (dVar 1)))) (dSkip)) <|
    dRet (dLst (dCons (dPure gMax2 (dCons (dC (.int 0)) (dCons (dBin gSub (dVar 2) (dBin gPow (dC (.int 10)) (dC (.int 18)))) (dNil)))) (dCons (dBin gMod (dPure gInt (dCons (dBin gAdd (dBin gAdd (dBin gMulU (dVar 2) (dC (.int 47))) (dBin gMulU (dC (.int 19)) (dVar 1))) (dC (.int 11))) (dNil))) (dBin gAdd (dBin gPow (dC (.int 10)) (dC (.int 41))) (dC (.int 9)))) (dCons (dC (.int 0)) (dNil)))))
def F__law_feed : Fn := mkFn 2 3 [0, 1] D__law_feed
theorem F__law_feed_len : ∀ vs r, F__law_feed vs = some r → vs.length = 2 := mkFn_len
/-- is_tuple_of(thing, least, most); slots: 0=thing 1=least 2=most -/
def D_is_tuple_of : DS :=
    dRet (dAndV (dUn (gIsi "tuple") (dVar 0)) (dChain (fun i j => decide (i ≤ j)) (fun i j => decide (i ≤ j)) (dVar 1) (dPure gLen (dCons (dVar 0) (dNil))) (dVar 2)))
def F_is_tuple_of : Fn := mkFn 3 3 [0, 1, 2] D_is_tuple_of
theorem F_is_tuple_of_len : ∀ vs r, F_is_tuple_of vs = some r → vs.length = 3 := mkFn_len
/-- is_rising(parts); slots: 0=parts 1=one 2=other -/
def D_is_rising : DS :=
    dRet (dPure gAll (dCons (dComp (dZip (dCons (dFrz 0) (dCons (dSl (dVar 0) (dPart (dC (.int 1))) dNoPart) (dNil)))) (tgT (tgsCons (tgN 1) (tgsCons (tgN 2) tgsNil))) (dYes) (dBin gLt (dVar 1) (dVar 2)) [1, 2]) (dNil)))
def F_is_rising : Fn := mkFn 1 3 [0] D_is_rising
theorem F_is_rising_len : ∀ vs r, F_is_rising vs = some r → vs.length = 1 := mkFn_len
/-- is_integer(thing); slots: 0=thing -/
def D_is_integer : DS :=
    dRet (dAndV (dUn (gIsi "int") (dVar 0)) (dUn gNot (dUn (gIsi "bool") (dVar 0))))
def F_is_integer : Fn := mkFn 1 1 [0] D_is_integer
theorem F_is_integer_len : ∀ vs r, F_is_integer vs = some r → vs.length = 1 := mkFn_len
/-- is_within(thing, least, most); slots: 0=thing 1=least 2=most -/
def D_is_within : DS :=
    dRet (dAndV (dCall F_is_integer (dGLend 0 (dGNil))) (dChain (fun i j => decide (i ≤ j)) (fun i j => decide (i ≤ j)) (dVar 1) (dVar 0) (dVar 2)))
def F_is_within : Fn := mkFn 3 3 [0, 1, 2] D_is_within
theorem F_is_within_len : ∀ vs r, F_is_within vs = some r → vs.length = 3 := mkFn_len
/-- is_lot(thing, many); slots: 0=thing 1=many 2=one -/
def D_is_lot : DS :=
    dSeq (dIfS (dOr (dNot (dTst (dUn (gIsi "tuple") (dVar 0)))) (dNot (dTst (dPure gAll (dCons (dComp (dIts (dFrz 0)) (tgN 2) (dYes) (dCall F_is_within (dGLend 2 (dGCons (dC (.int 0)) (dGCons (dBin gSub (dVar 1) (dC (.int 1))) (dGNil))))) [2]) (dNil)))))) (dRet (dC (.bl false))) (dSkip)) <|
    dRet (dCall F_is_rising (dGLend 0 (dGNil)))
def F_is_lot : Fn := mkFn 2 3 [0, 1] D_is_lot
theorem F_is_lot_len : ∀ vs r, F_is_lot vs = some r → vs.length = 2 := mkFn_len
/-- is_table_form(thing); slots: 0=thing 1=one 2=other 3=some -/
def D_is_table_form : DS :=
    dSeq (dIfS (dOr (dNot (dTst (dCall F_is_tuple_of (dGLend 0 (dGCons (dC (.int 0)) (dGCons (dC (.int 8)) (dGNil))))))) (dNot (dTst (dPure gAll (dCons (dComp (dIts (dFrz 0)) (tgN 3) (dYes) (dCall F_is_lot (dGLend 3 (dGCons (dPure gLen (dCons (dVar 0) (dNil))) (dGNil)))) [3]) (dNil)))))) (dRet (dC (.bl false))) (dSkip)) <|
    dSeq (dFor (dRng1 (dCons (dPure gLen (dCons (dVar 0) (dNil))) (dNil))) (tgN 1) (dSeq (dIfS (dTst (dBin (gIn false) (dVar 1) (dBin gIx (dVar 0) (dVar 1)))) (dRet (dC (.bl false))) (dSkip)) <|
    dFor (dRng2 (dCons (dBin gAdd (dVar 1) (dC (.int 1))) (dCons (dPure gLen (dCons (dVar 0) (dNil))) (dNil)))) (tgN 2) (dIfS (dTst (dBin gEq (dBin (gIn false) (dVar 2) (dBin gIx (dVar 0) (dVar 1))) (dBin (gIn false) (dVar 1) (dBin gIx (dVar 0) (dVar 2))))) (dRet (dC (.bl false))) (dSkip)))) <|
    dRet (dC (.bl true))
def F_is_table_form : Fn := mkFn 1 4 [0] D_is_table_form
theorem F_is_table_form_len : ∀ vs r, F_is_table_form vs = some r → vs.length = 1 := mkFn_len
/-- need_table(table); slots: 0=table -/
def D_need_table : DS :=
    dIfS (dNot (dTst (dCall F_is_table_form (dGLend 0 (dGNil))))) (dNever) (dSkip)
def F_need_table : Fn := mkFn 1 1 [0] D_need_table
theorem F_need_table_len : ∀ vs r, F_need_table vs = some r → vs.length = 1 := mkFn_len
/-- lot_by(mask); slots: 0=mask 1=found 2=player -/
def D_lot_by : DS :=
    dSeq (dPar2 1 2 (dCons (dLst (dNil)) (dCons (dC (.int 0)) (dNil)))) <|
    dSeq (dWhile (dTst (dBin gGt (dBin gShr (dVar 0) (dVar 2)) (dC (.int 0)))) (dSeq (dIfS (dTst (dBin gEq (dBin gBAnd (dBin gShr (dVar 0) (dVar 2)) (dC (.int 1))) (dC (.int 1)))) (dDo (dMut fAppend 1 (dP0 1) (dCons (dFrz 2) (dNil)))) (dSkip)) <|
    dAug gAddI 2 (dC (.int 1)))) <|
    dRet (dPure gTuple (dCons (dVar 1) (dNil)))
def F_lot_by : Fn := mkFn 1 3 [0] D_lot_by
theorem F_lot_by_len : ∀ vs r, F_lot_by vs = some r → vs.length = 1 := mkFn_len
/-- lots_of(masks); slots: 0=masks 1=mask -/
def D_lots_of : DS :=
    dRet (dPure gSortU (dCons (dComp (dIts (dFrz 0)) (tgN 1) (dYes) (dCall F_lot_by (dGLend 1 (dGNil))) [1]) (dNil)))
def F_lots_of : Fn := mkFn 1 2 [0] D_lots_of
theorem F_lots_of_len : ∀ vs r, F_lots_of vs = some r → vs.length = 1 := mkFn_len
/-- masks_of(table); slots: 0=table 1=some 2=other -/
def D_masks_of : DS :=
    dRet (dPure gTuple (dCons (dComp (dIts (dFrz 0)) (tgN 1) (dYes) (dPure gSum (dCons (dComp (dIts (dFrz 1)) (tgN 2) (dYes) (dBin gShl (dC (.int 1)) (dVar 2)) [2]) (dNil))) [1]) (dNil)))
def F_masks_of : Fn := mkFn 1 3 [0] D_masks_of
theorem F_masks_of_len : ∀ vs r, F_masks_of vs = some r → vs.length = 1 := mkFn_len
/-- is_alike_mask(masks, mask); slots: 0=masks 1=mask 2=player 3=wins -/
def D_is_alike_mask : DS :=
    dSeq (dFor (dEn (dCons (dFrz 0) (dNil))) (tgT (tgsCons (tgN 2) (tgsCons (tgN 3) tgsNil))) (dIfS (dAnd (dTst (dBin gEq (dBin gBAnd (dBin gShr (dVar 1) (dVar 2)) (dC (.int 1))) (dC (.int 0)))) (dTst (dBin (gIn true) (dBin gBAnd (dVar 3) (dVar 1)) (dTup (dCons (dC (.int 0)) (dCons (dFrz 1) (dNil))))))) (dRet (dC (.bl false))) (dSkip))) <|
    dRet (dC (.bl true))
def F_is_alike_mask : Fn := mkFn 2 4 [0, 1] D_is_alike_mask
theorem F_is_alike_mask_len : ∀ vs r, F_is_alike_mask vs = some r → vs.length = 2 := mkFn_len
/-- alike_masks(table); slots: 0=table 1=masks 2=mask -/
def D_alike_masks : DS :=
    dSeq (dSet 1 (dCall F_masks_of (dGLend 0 (dGNil)))) <|
    dRet (dComp (dRng2 (dCons (dC (.int 1)) (dCons (dBin gShl (dC (.int 1)) (dPure gLen (dCons (dVar 0) (dNil)))) (dNil)))) (tgN 2) (dTst (dCall F_is_alike_mask (dGLend 1 (dGLend 2 (dGNil))))) (dFrz 2) [2])
def F_alike_masks : Fn := mkFn 1 3 [0] D_alike_masks
theorem F_alike_masks_len : ∀ vs r, F_alike_masks vs = some r → vs.length = 1 := mkFn_len
/-- alike_lots(table); slots: 0=table -/
def D_alike_lots : DS :=
    dSeq (dDo (dCall F_need_table (dGLend 0 (dGNil)))) <|
    dRet (dCall F_lots_of (dGCons (dCall F_alike_masks (dGLend 0 (dGNil))) (dGNil)))
def F_alike_lots : Fn := mkFn 1 1 [0] D_alike_lots
theorem F_alike_lots_len : ∀ vs r, F_alike_lots vs = some r → vs.length = 1 := mkFn_len
/-- do_cross(one, other); slots: 0=one 1=other 2=shared -/
def D_do_cross : DS :=
    dSeq (dSet 2 (dBin gBAnd (dVar 0) (dVar 1))) <|
    dRet (dBin (gIn true) (dVar 2) (dTup (dCons (dC (.int 0)) (dCons (dFrz 0) (dCons (dFrz 1) (dNil))))))
def F_do_cross : Fn := mkFn 2 3 [0, 1] D_do_cross
theorem F_do_cross_len : ∀ vs r, F_do_cross vs = some r → vs.length = 2 := mkFn_len
/-- firm_masks(table); slots: 0=table 1=some 2=one 3=other -/
def D_firm_masks : DS :=
    dSeq (dSet 1 (dCall F_alike_masks (dGLend 0 (dGNil)))) <|
    dRet (dComp (dIts (dFrz 1)) (tgN 2) (dNot (dTst (dPure gAny (dCons (dComp (dIts (dFrz 1)) (tgN 3) (dYes) (dCall F_do_cross (dGLend 2 (dGLend 3 (dGNil)))) [3]) (dNil))))) (dFrz 2) [2])
def F_firm_masks : Fn := mkFn 1 4 [0] D_firm_masks
theorem F_firm_masks_len : ∀ vs r, F_firm_masks vs = some r → vs.length = 1 := mkFn_len
/-- firm_lots(table); slots: 0=table -/
def D_firm_lots : DS :=
    dSeq (dDo (dCall F_need_table (dGLend 0 (dGNil)))) <|
    dRet (dCall F_lots_of (dGCons (dCall F_firm_masks (dGLend 0 (dGNil))) (dGNil)))
def F_firm_lots : Fn := mkFn 1 1 [0] D_firm_lots
theorem F_firm_lots_len : ∀ vs r, F_firm_lots vs = some r → vs.length = 1 := mkFn_len
/-- bits_in(mask); slots: 0=mask -/
def D_bits_in : DS :=
    dRet (dPure gLen (dCons (dCall F_lot_by (dGLend 0 (dGNil))) (dNil)))
def F_bits_in : Fn := mkFn 1 1 [0] D_bits_in
theorem F_bits_in_len : ∀ vs r, F_bits_in vs = some r → vs.length = 1 := mkFn_len
/-- is_simple_form(table); slots: 0=table 1=mask -/
def D_is_simple_form : DS :=
    dSeq (dIfS (dTst (dBin gLt (dPure gLen (dCons (dVar 0) (dNil))) (dC (.int 3)))) (dRet (dC (.bl false))) (dSkip)) <|
    dRet (dPure gAll (dCons (dComp (dIts (dCall F_alike_masks (dGLend 0 (dGNil)))) (tgN 1) (dYes) (dBin (gInU false) (dCall F_bits_in (dGLend 1 (dGNil))) (dTup (dCons (dC (.int 1)) (dCons (dPure gLen (dCons (dVar 0) (dNil))) (dNil))))) [1]) (dNil)))
def F_is_simple_form : Fn := mkFn 1 2 [0] D_is_simple_form
theorem F_is_simple_form_len : ∀ vs r, F_is_simple_form vs = some r → vs.length = 1 := mkFn_len
/-- is_simple(table); slots: 0=table -/
def D_is_simple : DS :=
    dSeq (dDo (dCall F_need_table (dGLend 0 (dGNil)))) <|
    dRet (dCall F_is_simple_form (dGLend 0 (dGNil)))
def F_is_simple : Fn := mkFn 1 1 [0] D_is_simple
theorem F_is_simple_len : ∀ vs r, F_is_simple vs = some r → vs.length = 1 := mkFn_len
/-- _law_lot(mask); slots: 0=mask 1=player -/
def D__law_lot : DS :=
    dRet (dPure gTuple (dCons (dComp (dRng1 (dCons (dC (.int 12)) (dNil))) (tgN 1) (dTst (dBin gEq (dBin gBAnd (dBin gShr (dVar 0) (dVar 1)) (dC (.int 1))) (dC (.int 1)))) (dFrz 1) [1]) (dNil)))
def F__law_lot : Fn := mkFn 1 2 [0] D__law_lot
theorem F__law_lot_len : ∀ vs r, F__law_lot vs = some r → vs.length = 1 := mkFn_len
/-- _law_table(wins); slots: 0=wins 1=mask -/
def D__law_table : DS :=
    dRet (dPure gTuple (dCons (dComp (dIts (dFrz 0)) (tgN 1) (dYes) (dCall F__law_lot (dGLend 1 (dGNil))) [1]) (dNil)))
def F__law_table : Fn := mkFn 1 2 [0] D__law_table
theorem F__law_table_len : ∀ vs r, F__law_table vs = some r → vs.length = 1 := mkFn_len
/-- _law_alike(wins); slots: 0=wins 1=many 2=found 3=mask 4=player -/
def D__law_alike : DS :=
    dSeq (dPar2 1 2 (dCons (dPure gLen (dCons (dVar 0) (dNil))) (dCons (dLst (dNil)) (dNil)))) <|
    dSeq (dFor (dRng2 (dCons (dC (.int 1)) (dCons (dBin gShl (dC (.int 1)) (dVar 1)) (dNil)))) (tgN 3) (dIfS (dTst (dBin gEq (dComp (dRng1 (dCons (dVar 1) (dNil))) (tgN 4) (dAnd (dTst (dBin gEq (dBin gBAnd (dBin gShr (dVar 3) (dVar 4)) (dC (.int 1))) (dC (.int 0)))) (dTst (dBin (gIn true) (dBin gBAnd (dBin gIx (dVar 0) (dVar 4)) (dVar 3)) (dTup (dCons (dC (.int 0)) (dCons (dFrz 3) (dNil))))))) (dC (.int 1)) [4]) (dLst (dNil)))) (dDo (dMut fAppend 2 (dP0 2) (dCons (dFrz 3) (dNil)))) (dSkip))) <|
    dRet (dMov 2)
def F__law_alike : Fn := mkFn 1 5 [0] D__law_alike
theorem F__law_alike_len : ∀ vs r, F__law_alike vs = some r → vs.length = 1 := mkFn_len
/-- _law_right(wins); slots: 0=wins 1=table 2=alike 3=due 4=firm 5=simple 6=told 7=mask 8=other -/
def D__law_right : DS :=
    dSeq (dAsg (tgT (tgsCons (tgN 1) (tgsCons (tgN 2) tgsNil))) (dTupO (dCons (dCall F__law_table (dGLend 0 (dGNil))) (dCons (dCall F__law_alike (dGLend 0 (dGNil))) (dNil))))) <|
    dSeq (dSet 3 (dPure gSortU (dCons (dComp (dIts (dFrz 2)) (tgN 7) (dYes) (dCall F__law_lot (dGLend 7 (dGNil))) [7]) (dNil)))) <|
    dSeq (dSet 4 (dPure gSortU (dCons (dComp (dIts (dFrz 2)) (tgN 7) (dTst (dBin gEq (dComp (dIts (dFrz 2)) (tgN 8) (dTst (dBin (gIn true) (dBin gBAnd (dVar 7) (dVar 8)) (dTup (dCons (dC (.int 0)) (dCons (dFrz 7) (dCons (dFrz 8) (dNil))))))) (dC (.int 1)) [8]) (dLst (dNil)))) (dCall F__law_lot (dGLend 7 (dGNil))) [7]) (dNil)))) <|
    dSeq (dSet 5 (dAndV (dBin gGt (dPure gLen (dCons (dVar 0) (dNil))) (dC (.int 2))) (dBin gEq (dPure gLen (dCons (dVar 2) (dNil))) (dBin gAdd (dPure gLen (dCons (dVar 0) (dNil))) (dC (.int 1)))))) <|
    dSeq (dSet 6 (dLst (dCons (dCall F_alike_lots (dGLend 1 (dGNil))) (dCons (dCall F_firm_lots (dGLend 1 (dGNil))) (dCons (dCall F_is_simple (dGLend 1 (dGNil))) (dNil)))))) <|
    dSeq (dIfS (dNot (dTst (dPC F__law_same (dCons (dVar 6) (dCons (dLst (dCons (dFrz 3) (dCons (dFrz 4) (dCons (dFrz 5) (dNil))))) (dNil)))))) (dRet (dC (.bl false))) (dSkip)) <|
    dSeq (dDo (dMut fAppend 6 (dPS 6 (dP0 6) (dC (.int 0))) (dCons (dC .non) (dNil)))) <|
    dSeq (dDo (dMut fAppend 6 (dPS 6 (dP0 6) (dC (.int 1))) (dCons (dC .non) (dNil)))) <|
    dRet (dPC F__law_same (dCons (dLst (dCons (dCallK F_firm_lots 0 1 [0] dGNil (dGLend 1 (dGNil))) (dCons (dCallK F_is_simple 0 1 [0] dGNil (dGLend 1 (dGNil))) (dCons (dCallK F_alike_lots 0 1 [0] dGNil (dGLend 1 (dGNil))) (dNil))))) (dCons (dLst (dCons (dFrz 4) (dCons (dFrz 5) (dCons (dFrz 3) (dNil))))) (dNil))))
def F__law_right : Fn := mkFn 1 9 [0] D__law_right
theorem F__law_right_len : ∀ vs r, F__law_right vs = some r → vs.length = 1 := mkFn_len
/-- _law_draw(feed, many); slots: 0=feed 1=many 2=rest 3=seed -/
def D__law_draw : DS :=
    dSeq (dIfS (dTst (dBin gGt (dBin gIx (dVar 0) (dC (.int 0))) (dC (.int 0)))) (dSeq (dSet 2 (dUn noOwn (dBin gIx (dVar 0) (dC (.int 0))))) <|
    dSeq (dSt fSet 0 (dBin gDiv (dVar 2) (dVar 1)) (dP0 0) (dC (.int 0))) <|
    dRet (dBin gMod (dPure gInt (dCons (dVar 2) (dNil))) (dVar 1))) (dSkip)) <|
    dSeq (dSt fSet 0 (dBin gAdd (dBin gIx (dVar 0) (dC (.int 2))) (dC (.int 1))) (dP0 0) (dC (.int 2))) <|
    dSeq (dSet 3 (dBin gAdd (dBin gAdd (dBin gMulU (dBin gIx (dVar 0) (dC (.int 1))) (dC (.int 15485863))) (dBin gMulU (dBin gIx (dVar 0) (dC (.int 2))) (dC (.int 32452843)))) (dC (.int 101)))) <|
    dSeq (dSet 3 (dBin gMod (dPure gInt (dCons (dBin gAdd (dBin gMulU (dVar 3) (dVar 3)) (dBin gMulU (dC (.int 49979687)) (dBin gIx (dVar 0) (dC (.int 2))))) (dNil))) (dBin gAdd (dBin gPow (dC (.int 10)) (dC (.int 43))) (dC (.int 271))))) <|
    dSeq (dSet 3 (dBin gMod (dPure gInt (dCons (dBin gAdd (dBin gMulU (dBin gMulU (dVar 3) (dVar 3)) (dVar 3)) (dC (.int 67867967))) (dNil))) (dBin gAdd (dBin gPow (dC (.int 10)) (dC (.int 38))) (dC (.int 133))))) <|
    dRet (dBin gMod (dPure gInt (dCons (dBin gDiv (dVar 3) (dBin gPow (dC (.int 10)) (dC (.int 9)))) (dNil))) (dVar 1))
def F__law_draw : Fn := mkFn 2 4 [0, 1] D__law_draw
theorem F__law_draw_len : ∀ vs r, F__law_draw vs = some r → vs.length = 2 := mkFn_len
/-- _law_mixed(feed, things); slots: 0=feed 1=things 2=left 3=got 4=turn -/
def D__law_mixed : DS :=
    dSeq (dPar2 2 3 (dCons (dPure gList (dCons (dVar 1) (dNil))) (dCons (dLst (dNil)) (dNil)))) <|
    dSeq (dFor (dRng1 (dCons (dPure gLen (dCons (dVar 1) (dNil))) (dNil))) (tgN 4) (dDo (dMut fAppend 3 (dP0 3) (dCons (dMut fPop1 2 (dP0 2) (dCons (dCall F__law_draw (dGLend 0 (dGCons (dPure gLen (dCons (dVar 2) (dNil))) (dGNil)))) (dNil))) (dNil))))) <|
    dRet (dMov 3)
def F__law_mixed : Fn := mkFn 2 5 [0, 1] D__law_mixed
theorem F__law_mixed_len : ∀ vs r, F__law_mixed vs = some r → vs.length = 2 := mkFn_len
/-- _law_beats(feed, way, marks, one, other); slots: 0=feed 1=way 2=marks 3=one 4=other 5=many 6=apart 7=outer 8=gap 9=is_ring -/
def D__law_beats : DS :=
    dSeq (dPar2 5 6 (dCons (dPure gLen (dCons (dVar 2) (dNil))) (dCons (dBin gSub (dVar 4) (dVar 3)) (dNil)))) <|
    dSeq (dIfS (dTst (dBin gEq (dVar 1) (dC (.int 2)))) (dRet (dBin gGt (dCall F__law_draw (dGLend 0 (dGCons (dC (.int 6)) (dGNil)))) (dC (.int 0)))) (dSkip)) <|
    dSeq (dIfS (dAnd (dTst (dBin gEq (dVar 1) (dC (.int 3)))) (dTst (dBin gNe (dBin gMulU (dC (.int 2)) (dVar 6)) (dVar 5)))) (dRet (dBin gEq (dBin gLt (dBin gIx (dVar 2) (dPure gMin2 (dCons (dVar 6) (dCons (dBin gSub (dVar 5) (dVar 6)) (dNil))))) (dC (.int 6))) (dBin gLt (dBin gMulU (dC (.int 2)) (dVar 6)) (dVar 5)))) (dSkip)) <|
    dSeq (dIfS (dAnd (dTst (dBin (gIn false) (dVar 1) (dTup (dCons (dC (.int 4)) (dCons (dC (.int 5)) (dCons (dC (.int 6)) (dNil))))))) (dTst (dBin gNe (dBin gIx (dVar 2) (dVar 3)) (dBin gIx (dVar 2) (dVar 4))))) (dSeq (dSet 7 (dBin gSub (dBin gDiv (dBin gIx (dVar 2) (dVar 4)) (dC (.int 3))) (dBin gDiv (dBin gIx (dVar 2) (dVar 3)) (dC (.int 3))))) <|
    dSeq (dSet 8 (dIf (dTst (dBin gNe (dVar 7) (dC (.int 0)))) (dFrz 7) (dBin gSub (dBin gIx (dVar 2) (dVar 4)) (dBin gIx (dVar 2) (dVar 3))))) <|
    dSeq (dSet 9 (dIf (dTst (dBin gNe (dVar 7) (dC (.int 0)))) (dBin gNe (dVar 1) (dC (.int 5))) (dBin gNe (dVar 1) (dC (.int 4))))) <|
    dRet (dIf (dTst (dVar 9)) (dBin gEq (dBin gMod (dPure gInt (dCons (dBin gAdd (dVar 8) (dC (.int 3))) (dNil))) (dC (.int 3))) (dC (.int 1))) (dBin gGt (dVar 8) (dC (.int 0))))) (dSkip)) <|
    dSeq (dIfS (dTst (dBin gEq (dVar 1) (dC (.int 7)))) (dRet (dBin gEq (dBin gLt (dBin gIx (dVar 2) (dVar 3)) (dC (.int 4))) (dBin gLt (dBin gIx (dVar 2) (dVar 4)) (dC (.int 4))))) (dSkip)) <|
    dSeq (dIfS (dTst (dBin gEq (dVar 1) (dC (.int 8)))) (dRet (dOrV (dBin gLt (dVar 4) (dBin gSub (dVar 5) (dC (.int 1)))) (dBin gEq (dBin gMod (dPure gInt (dCons (dVar 3) (dNil))) (dC (.int 2))) (dC (.int 1))))) (dSkip)) <|
    dRet (dBin gEq (dCall F__law_draw (dGLend 0 (dGCons (dC (.int 2)) (dGNil)))) (dC (.int 0)))
def F__law_beats : Fn := mkFn 5 10 [0, 1, 2, 3, 4] D__law_beats
theorem F__law_beats_len : ∀ vs r, F__law_beats vs = some r → vs.length = 5 := mkFn_len
/-- _law_wins(feed, least, most); slots: 0=feed 1=least 2=most 3=many 4=way 5=pool 6=marks 7=names 8=wins 9=one 10=other 11=winner 12=loser 13=turn -/
def D__law_wins : DS :=
    dSeq (dAsg (tgT (tgsCons (tgN 3) (tgsCons (tgN 4) (tgsCons (tgN 5) tgsNil)))) (dTupO (dCons (dBin gAdd (dUn noOwn (dVar 1)) (dCall F__law_draw (dGLend 0 (dGCons (dBin gAdd (dBin gSub (dVar 2) (dVar 1)) (dC (.int 1))) (dGNil))))) (dCons (dCall F__law_draw (dGLend 0 (dGCons (dC (.int 9)) (dGNil)))) (dCons (dBin gAdd (dC (.int 4)) (dBin gMulU (dC (.int 5)) (dCall F__law_draw (dGLend 0 (dGCons (dC (.int 2)) (dGNil)))))) (dNil)))))) <|
    dSeq (dPar3 6 7 8 (dCons (dComp (dRng1 (dCons (dVar 3) (dNil))) (tgN 13) (dYes) (dCall F__law_draw (dGLend 0 (dGLend 5 (dGNil)))) [13]) (dCons (dCall F__law_mixed (dGLend 0 (dGCons (dUn gRgL (dVar 3)) (dGNil)))) (dCons (dBin gMulU (dLst (dCons (dC (.int 0)) (dNil))) (dVar 3)) (dNil))))) <|
    dSeq (dFor (dRng1 (dCons (dVar 3) (dNil))) (tgN 9) (dFor (dRng2 (dCons (dBin gAdd (dVar 9) (dC (.int 1))) (dCons (dVar 3) (dNil)))) (tgN 10) (dSeq (dAsg (tgT (tgsCons (tgN 11) (tgsCons (tgN 12) tgsNil))) (dIf (dTst (dCall F__law_beats (dGLend 0 (dGLend 4 (dGLend 6 (dGLend 9 (dGLend 10 (dGNil)))))))) (dTup (dCons (dFrz 9) (dCons (dFrz 10) (dNil)))) (dTup (dCons (dFrz 10) (dCons (dFrz 9) (dNil)))))) <|
    dSt fSet 8 (dBin gAdd (dBin gIx (dVar 8) (dBin gIx (dVar 7) (dVar 11))) (dBin gShl (dC (.int 1)) (dBin gIx (dVar 7) (dVar 12)))) (dP0 8) (dBin gIx (dVar 7) (dVar 11))))) <|
    dRet (dMov 8)
def F__law_wins : Fn := mkFn 3 14 [0, 1, 2] D__law_wins
theorem F__law_wins_len : ∀ vs r, F__law_wins vs = some r → vs.length = 3 := mkFn_len
/-- _law_put(wins, parts); slots: 0=wins 1=parts 2=starts 3=found 4=many 5=part 6=at 7=below 8=one 9=mask -/
def D__law_put : DS :=
    dSeq (dAsg (tgT (tgsCons (tgN 2) (tgsCons (tgN 3) (tgsCons (tgN 4) tgsNil)))) (dTupO (dCons (dLst (dNil)) (dCons (dLst (dNil)) (dCons (dC (.int 0)) (dNil)))))) <|
    dSeq (dFor (dIts (dFrz 1)) (tgN 5) (dSeq (dDo (dMut fAppend 2 (dP0 2) (dCons (dFrz 4) (dNil)))) <|
    dSet 4 (dBin gAdd (dVar 4) (dPure gLen (dCons (dVar 5) (dNil)))))) <|
    dSeq (dFor (dRng1 (dCons (dPure gLen (dCons (dVar 1) (dNil))) (dNil))) (tgN 6) (dSeq (dSet 7 (dPure gSum (dCons (dComp (dIts (dCall F__law_lot (dGCons (dUn noOwn (dBin gIx (dVar 0) (dVar 6))) (dGNil)))) (tgN 8) (dYes) (dBin gShl (dBin gSub (dBin gShl (dC (.int 1)) (dPure gLen (dCons (dBin gIx (dVar 1) (dVar 8)) (dNil)))) (dC (.int 1))) (dBin gIx (dVar 2) (dVar 8))) [8]) (dNil)))) <|
    dDo (dMut fExtend 3 (dP0 3) (dCons (dComp (dIts (dUn noOwn (dBin gIx (dVar 1) (dVar 6)))) (tgN 9) (dYes) (dBin gAdd (dVar 7) (dBin gShl (dVar 9) (dBin gIx (dVar 2) (dVar 6)))) [9]) (dNil))))) <|
    dRet (dMov 3)
def F__law_put : Fn := mkFn 2 10 [0, 1] D__law_put
theorem F__law_put_len : ∀ vs r, F__law_put vs = some r → vs.length = 2 := mkFn_len
/-- _law_places(feed); slots: 0=feed 1=wins 2=parts 3=room 4=at 5=whole 6=start 7=told 8=part -/
def D__law_places : DS :=
    dSeq (dPar3 1 2 3 (dCons (dCall F__law_wins (dGLend 0 (dGCons (dC (.int 1)) (dGCons (dC (.int 4)) (dGNil))))) (dCons (dLst (dNil)) (dCons (dC (.int 8)) (dNil))))) <|
    dSeq (dFor (dRng1 (dCons (dPure gLen (dCons (dVar 1) (dNil))) (dNil))) (tgN 4) (dSeq (dDo (dMut fAppend 2 (dP0 2) (dCons (dCall F__law_wins (dGLend 0 (dGCons (dC (.int 1)) (dGCons (dBin gAdd (dC (.int 1)) (dPure gMin2 (dCons (dBin gSub (dVar 3) (dPure gLen (dCons (dVar 1) (dNil)))) (dCons (dC (.int 4)) (dNil))))) (dGNil))))) (dNil)))) <|
    dSet 3 (dBin gSub (dBin gAdd (dVar 3) (dC (.int 1))) (dPure gLen (dCons (dBin gIx (dVar 2) (dVar 4)) (dNil)))))) <|
    dSeq (dPar2 5 6 (dCons (dCall F__law_put (dGLend 1 (dGLend 2 (dGNil)))) (dCons (dC (.int 0)) (dNil)))) <|
    dSeq (dIfS (dNot (dTst (dCall F__law_right (dGLend 5 (dGNil))))) (dRet (dC (.bl false))) (dSkip)) <|
    dSeq (dSet 7 (dCall F_alike_lots (dGCons (dCall F__law_table (dGLend 5 (dGNil))) (dGNil)))) <|
    dSeq (dFor (dIts (dFrz 2)) (tgN 8) (dSeq (dIfS (dTst (dBin (gInU true) (dBin gRgT2 (dVar 6) (dBin gAdd (dVar 6) (dPure gLen (dCons (dVar 8) (dNil))))) (dVar 7))) (dRet (dC (.bl false))) (dSkip)) <|
    dSet 6 (dBin gAdd (dVar 6) (dPure gLen (dCons (dVar 8) (dNil)))))) <|
    dRet (dC (.bl true))
def F__law_places : Fn := mkFn 1 9 [0] D__law_places
theorem F__law_places_len : ∀ vs r, F__law_places vs = some r → vs.length = 1 := mkFn_len
/-- _law_called(wins, names); slots: 0=wins 1=names 2=found 3=player 4=other -/
def D__law_called : DS :=
    dSeq (dSet 2 (dBin gMulU (dLst (dCons (dC (.int 0)) (dNil))) (dPure gLen (dCons (dVar 0) (dNil))))) <|
    dSeq (dFor (dRng1 (dCons (dPure gLen (dCons (dVar 0) (dNil))) (dNil))) (tgN 3) (dSt fSet 2 (dPure gSum (dCons (dComp (dIts (dCall F__law_lot (dGCons (dUn noOwn (dBin gIx (dVar 0) (dVar 3))) (dGNil)))) (tgN 4) (dYes) (dBin gShl (dC (.int 1)) (dBin gIx (dVar 1) (dVar 4))) [4]) (dNil))) (dP0 2) (dBin gIx (dVar 1) (dVar 3)))) <|
    dRet (dMov 2)
def F__law_called : Fn := mkFn 2 5 [0, 1] D__law_called
theorem F__law_called_len : ∀ vs r, F__law_called vs = some r → vs.length = 2 := mkFn_len
/-- _law_bare(feed); slots: 0=feed 1=half 2=way 3=size 4=wins 5=one 6=other 7=first 8=winner 9=loser -/
def D__law_bare : DS :=
    dSeq (dPar2 1 2 (dCons (dBin gAdd (dC (.int 1)) (dCall F__law_draw (dGLend 0 (dGCons (dC (.int 3)) (dGNil))))) (dCons (dCall F__law_draw (dGLend 0 (dGCons (dC (.int 3)) (dGNil)))) (dNil)))) <|
    dSeq (dPar2 3 4 (dCons (dBin gAdd (dBin gMulU (dC (.int 2)) (dVar 1)) (dC (.int 1))) (dCons (dBin gMulU (dLst (dCons (dC (.int 0)) (dNil))) (dBin gAdd (dBin gMulU (dC (.int 2)) (dVar 1)) (dC (.int 1)))) (dNil)))) <|
    dSeq (dFor (dRng1 (dCons (dVar 3) (dNil))) (tgN 5) (dFor (dRng2 (dCons (dBin gAdd (dVar 5) (dC (.int 1))) (dCons (dVar 3) (dNil)))) (tgN 6) (dSeq (dSet 7 (dBin gEq (dBin gLt (dBin gMulU (dC (.int 2)) (dBin gSub (dVar 6) (dVar 5))) (dVar 3)) (dOrV (dBin gEq (dVar 2) (dC (.int 0))) (dBin gLe (dVar 5) (dVar 1))))) <|
    dSeq (dIfS (dTst (dBin gEq (dVar 2) (dC (.int 2)))) (dSet 7 (dOrV (dBin gLt (dVar 6) (dBin gSub (dVar 3) (dC (.int 1)))) (dBin gEq (dBin gMod (dPure gInt (dCons (dVar 5) (dNil))) (dC (.int 2))) (dC (.int 1))))) (dSkip)) <|
    dSeq (dAsg (tgT (tgsCons (tgN 8) (tgsCons (tgN 9) tgsNil))) (dIf (dTst (dVar 7)) (dTup (dCons (dFrz 5) (dCons (dFrz 6) (dNil)))) (dTup (dCons (dFrz 6) (dCons (dFrz 5) (dNil)))))) <|
    dSt fSet 4 (dBin gAdd (dBin gIx (dVar 4) (dVar 8)) (dBin gShl (dC (.int 1)) (dVar 9))) (dP0 4) (dVar 8)))) <|
    dRet (dCall F__law_called (dGLend 4 (dGCons (dCall F__law_mixed (dGLend 0 (dGCons (dUn gRgL (dVar 3)) (dGNil)))) (dGNil))))
def F__law_bare : Fn := mkFn 1 10 [0] D__law_bare
theorem F__law_bare_len : ∀ vs r, F__law_bare vs = some r → vs.length = 1 := mkFn_len
/-- law(script); slots: 0=script 1=k 2=feed -/
def D_law : DS :=
    dSeq (dFor (dRng1 (dCons (dPure gMax2 (dCons (dC (.int 2)) (dCons (dPure gMin2 (dCons (dPure gLen (dCons (dVar 0) (dNil))) (dCons (dC (.int 4)) (dNil)))) (dNil)))) (dNil))) (tgN 1) (dSeq (dSet 2 (dCall F__law_feed (dGLend 0 (dGLend 1 (dGNil))))) <|
    dIfS (dOr (dNot (dTst (dCall F__law_right (dGCons (dCall F__law_wins (dGLend 2 (dGCons (dC (.int 0)) (dGCons (dC (.int 8)) (dGNil))))) (dGNil))))) (dOr (dNot (dTst (dCall F__law_places (dGLend 2 (dGNil))))) (dNot (dTst (dCall F__law_right (dGCons (dCall F__law_bare (dGLend 2 (dGNil))) (dGNil))))))) (dRet (dC (.bl false))) (dSkip))) <|
    dRet (dPC F__law_same (dCons (dLst (dCons (dCall F_alike_lots (dGCons (dTup (dNil)) (dGNil))) (dCons (dCall F_firm_lots (dGCons (dTup (dNil)) (dGNil))) (dCons (dCall F_is_simple (dGCons (dTup (dNil)) (dGNil))) (dCons (dCall F_alike_lots (dGCons (dTup (dCons (dTup (dNil)) (dNil))) (dGNil))) (dCons (dCall F_is_simple (dGCons (dTup (dCons (dTup (dNil)) (dNil))) (dGNil))) (dNil))))))) (dCons (dLst (dCons (dLst (dNil)) (dCons (dLst (dNil)) (dCons (dC (.bl false)) (dCons (dLst (dCons (dTup (dCons (dC (.int 0)) (dNil))) (dNil))) (dCons (dC (.bl false)) (dNil))))))) (dNil))))
def F_law : Fn := mkFn 1 3 [0] D_law
theorem F_law_len : ∀ vs r, F_law vs = some r → vs.length = 1 := mkFn_len
end PV.K48

namespace PV.K48
open PySem PySem.Spec PyProof.Rows L2 PV
/-- the feed behind at most n draws -/
structure Fk (n a b c : Int) : Prop where
  a0 : 0 ≤ a
  ia : ib a ≤ 1048640
  ib' : ib b ≤ 140
  c0 : 0 ≤ c
  cn : c ≤ n
abbrev fd (a b c : Int) : Val := .lst true [.int a, .int b, .int c]
theorem draw_ok {n a b c m : Int} (hn : n < 1000000) (h : Fk n a b c) (hm : 0 < m) (hm2 : m < 1000000) : ∃ r a' b' c', F__law_draw [fd a b c, .int m] = some (.ok (.int r), [fd a' b' c', .int m]) ∧ 0 ≤ r ∧ r < m ∧ Fk (n + 1) a' b' c' := by
  obtain ⟨h0, h1, h2, h3, h4⟩ := h
  have hc : ib (c + 1) ≤ 21 := sz_of (by omega) (by omega)
  suffices h : ∃ v fs, F__law_draw [fd a b c, .int m] = some (.ok v, fs) ∧ ∃ r, v = .int r ∧ ∃ a' b' c', fs = [fd a' b' c', .int m] ∧ 0 ≤ r ∧ r < m ∧ Fk (n + 1) a' b' c' by
    obtain ⟨v, fs, e, r, rfl, a', b', c', rfl, p⟩ := h
    exact ⟨r, a', b', c', e, p⟩
  refine fn_runE rfl ?_
  simp only [D__law_draw, r_tupO, r_pc, r_en, r_augI, r_pS, r_seq, r_ifS, r_tst, r_not, r_and, r_or, r_bin, r_un, r_var, r_frz, r_mov, r_c, r_set, r_st, r_mut, r_do, r_ret, r_p0, r_pure, r_cons, r_nil, r_skip, r_modE, r_lst, r_tup, r_if, r_andV, r_orV, r_comp, r_for, r_rng1, r_rng2, r_its, r_zip, r_call, r_gnil, r_gcons, r_glend, r_par2, r_par3, r_nop, r_part, r_sl, r_chain, getv_s, gv_int, gv_bl, gv_str, gv_non, gv_lst, gv_tup, gv_scr, g_some, exists_eq_left, exists_eq_left', Val.int.injEq, Val.bl.injEq, Out.rt.injEq, and_assoc, exists_and_left, g_if, g_ixL, g_ixT, g_ixS, at_0, at_1, at_2, g_lt, g_le, g_gt, g_ge, g_tbl, g_tint, g_tlst, g_ttup, g_div, g_mod, g_mul, g_add, g_sub, g_pow, g_shl, g_shr, g_neg, g_not, g_bl, g_eqi, g_int, g_intb, g_lenL, g_lenT, g_lenS, g_max2, g_min2, no_int, no_bl, g_sum, g_slS, g_rng1, g_rng2, g_itsL, g_itsT, g_eqb, g_nei, g_neb, two_mk, g_IB, is_int, is_bl, is_str, is_non, is_tup, is_lst, it_int, it_bl, it_str, it_non, it_tup, it_lst, mod_nil, fset_0, fset_1, fset_2, pair2_mk, pair3_mk, and_true, true_and, frzs, frz, List.length_map, putAll, List.replicate, Nat.reduceSub, List.cons_append, List.nil_append, List.set_cons_zero, List.set_cons_succ]
  by_cases ha : 0 < a
  · simp only [ha, decide_true, true_implies, Bool.true_eq_false, false_implies, and_true, true_and]
    exact ⟨cDivW_of hm (by unfold big; omega), cMod_of hm, _, _, _, rfl, Int.emod_nonneg _ (by omega), Int.emod_lt_of_pos _ hm, Int.ediv_nonneg h0 (by omega), sz_div h1 hm, h2, h3, by omega⟩
  · simp only [ha, decide_false, true_implies, Bool.false_eq_true, false_implies, and_true, true_and]
    refine ⟨(by apply cMul_of; (repeat' first | assumption | apply sz_add | apply sz_sub | apply sz_mul | (apply sz_mod <;> first | apply Nat.le_refl | decide +kernel) | apply Nat.le_refl | decide +kernel)), (by apply cMul_of; (repeat' first | assumption | apply sz_add | apply sz_sub | apply sz_mul | (apply sz_mod <;> first | apply Nat.le_refl | decide +kernel) | apply Nat.le_refl | decide +kernel)), (by apply cMul_of; (repeat' first | assumption | apply sz_add | apply sz_sub | apply sz_mul | (apply sz_mod <;> first | apply Nat.le_refl | decide +kernel) | apply Nat.le_refl | decide +kernel)), (by apply cMul_of; (repeat' first | assumption | apply sz_add | apply sz_sub | apply sz_mul | (apply sz_mod <;> first | apply Nat.le_refl | decide +kernel) | apply Nat.le_refl | decide +kernel)), by decide, cMod_of (by decide +kernel), (by apply cMul_of; (repeat' first | assumption | apply sz_add | apply sz_sub | apply sz_mul | (apply sz_mod <;> first | apply Nat.le_refl | decide +kernel) | apply Nat.le_refl | decide +kernel)), (by apply cMul_of; (repeat' first | assumption | apply sz_add | apply sz_sub | apply sz_mul | (apply sz_mod <;> first | apply Nat.le_refl | decide +kernel) | apply Nat.le_refl | decide +kernel)), by decide, cMod_of (by decide +kernel), by decide, cDivW_of (by decide +kernel) (by decide +kernel), cMod_of hm, _, _, _, rfl, ?_, ?_, h0, h1, h2, by omega, by omega⟩
    · exact Int.emod_nonneg _ (by omega)
    · exact Int.emod_lt_of_pos _ hm
theorem feed_ok {ns : List Int} {k : Int} (hb : ∀ z ∈ ns, ib z ≤ 1048576) (h0 : 0 ≤ k) (h5 : k < 64) : ∃ a b, F__law_feed [.scr ns, .int k] = some (.ok (fd a b 0), [.scr ns, .int k]) ∧ Fk 0 a b 0 := by
  suffices h : ∃ v fs, F__law_feed [.scr ns, .int k] = some (.ok v, fs) ∧ ∃ a b, v = fd a b 0 ∧ fs = [.scr ns, .int k] ∧ Fk 0 a b 0 by
    obtain ⟨v, fs, e, a, b, rfl, rfl, p⟩ := h
    exact ⟨a, b, e, p⟩
  have hk : ib k ≤ 7 := sz_of h0 (by omega)
  have hs : ib (ns.take 3).sum ≤ 1048579 := Nat.le_trans (ib_sum _ fun z hz => hb z (List.mem_of_mem_take hz)) (by have := List.length_take_le 3 ns; omega)
  have hcut : cutL ns none (some 3) = ns.take 3 := cut_to (k := 3)
  have m9 : cMul 9 (ns.take 3).sum = true := (by apply cMul_of; (repeat' first | assumption | apply sz_add | apply sz_sub | apply sz_mul | (apply sz_mod <;> first | apply Nat.le_refl | decide +kernel) | apply Nat.le_refl | decide +kernel))
  have fin : ∀ cell : Int, ib cell ≤ 1048600 → cMul cell 47 = true ∧ Fk 0 (if cell - 10 ^ Int.toNat 18 > 0 then cell - 10 ^ Int.toNat 18 else 0) ((cell * 47 + 19 * k + 11) % (10 ^ Int.toNat 41 + 9)) 0 := by
    intro cell hc
    refine ⟨(by apply cMul_of; (repeat' first | assumption | apply sz_add | apply sz_sub | apply sz_mul | (apply sz_mod <;> first | apply Nat.le_refl | decide +kernel) | apply Nat.le_refl | decide +kernel)), ?_, ?_, ?_, by omega, by omega⟩
    · split <;> omega
    · split
      · exact Nat.le_trans (sz_sub hc (Nat.le_refl _)) (by decide +kernel)
      · exact Nat.zero_le _
    · exact Nat.le_trans (sz_mod (Nat.le_refl _) (by decide +kernel)) (by decide +kernel)
  refine fn_runE rfl ?_
  by_cases hl : k < ns.length
  · obtain ⟨z, hz, hzn⟩ : ∃ z, atI ns k = some z ∧ z ∈ ns := by
      obtain ⟨j, rfl⟩ := Int.eq_ofNat_of_zero_le h0
      exact ⟨ns[j]'(by omega), at_nat (List.getElem?_eq_getElem (by omega)), List.getElem_mem _⟩
    have hi := hb z hzn
    obtain ⟨f1, f2⟩ := fin z (by omega)
    simp only [D__law_feed, r_tupO, r_pc, r_en, r_augI, r_pS, r_seq, r_ifS, r_tst, r_not, r_and, r_or, r_bin, r_un, r_var, r_frz, r_mov, r_c, r_set, r_st, r_mut, r_do, r_ret, r_p0, r_pure, r_cons, r_nil, r_skip, r_modE, r_lst, r_tup, r_if, r_andV, r_orV, r_comp, r_for, r_rng1, r_rng2, r_its, r_zip, r_call, r_gnil, r_gcons, r_glend, r_par2, r_par3, r_nop, r_part, r_sl, r_chain, getv_s, gv_int, gv_bl, gv_str, gv_non, gv_lst, gv_tup, gv_scr, g_some, exists_eq_left, exists_eq_left', Val.int.injEq, Val.bl.injEq, Out.rt.injEq, and_assoc, exists_and_left, g_if, g_ixL, g_ixT, g_ixS, at_0, at_1, at_2, g_lt, g_le, g_gt, g_ge, g_tbl, g_tint, g_tlst, g_ttup, g_div, g_mod, g_mul, g_add, g_sub, g_pow, g_shl, g_shr, g_neg, g_not, g_bl, g_eqi, g_int, g_intb, g_lenL, g_lenT, g_lenS, g_max2, g_min2, no_int, no_bl, g_sum, g_slS, g_rng1, g_rng2, g_itsL, g_itsT, g_eqb, g_nei, g_neb, two_mk, g_IB, is_int, is_bl, is_str, is_non, is_tup, is_lst, it_int, it_bl, it_str, it_non, it_tup, it_lst, mod_nil, fset_0, fset_1, fset_2, pair2_mk, pair3_mk, and_true, true_and, frzs, frz, List.length_map, putAll, List.replicate, Nat.reduceSub, List.cons_append, List.nil_append, List.set_cons_zero, List.set_cons_succ, hz, Option.map_some, hl, decide_true, true_implies, Bool.true_eq_false, false_implies, and_true, true_and, hcut]
    exact ⟨(by apply cMul_of; (repeat' first | assumption | apply sz_add | apply sz_sub | apply sz_mul | (apply sz_mod <;> first | apply Nat.le_refl | decide +kernel) | apply Nat.le_refl | decide +kernel)), m9, by decide, f1, (by apply cMul_of; (repeat' first | assumption | apply sz_add | apply sz_sub | apply sz_mul | (apply sz_mod <;> first | apply Nat.le_refl | decide +kernel) | apply Nat.le_refl | decide +kernel)), by decide, cMod_of (by decide +kernel), rfl, _, _, rfl, rfl, f2⟩
  · obtain ⟨f1, f2⟩ := fin (733 * k + 9 * (ns.take 3).sum) (Nat.le_trans (sz_add (sz_mul (Nat.le_refl _) hk) (sz_mul (Nat.le_refl _) hs)) (by decide +kernel))
    simp only [D__law_feed, r_tupO, r_pc, r_en, r_augI, r_pS, r_seq, r_ifS, r_tst, r_not, r_and, r_or, r_bin, r_un, r_var, r_frz, r_mov, r_c, r_set, r_st, r_mut, r_do, r_ret, r_p0, r_pure, r_cons, r_nil, r_skip, r_modE, r_lst, r_tup, r_if, r_andV, r_orV, r_comp, r_for, r_rng1, r_rng2, r_its, r_zip, r_call, r_gnil, r_gcons, r_glend, r_par2, r_par3, r_nop, r_part, r_sl, r_chain, getv_s, gv_int, gv_bl, gv_str, gv_non, gv_lst, gv_tup, gv_scr, g_some, exists_eq_left, exists_eq_left', Val.int.injEq, Val.bl.injEq, Out.rt.injEq, and_assoc, exists_and_left, g_if, g_ixL, g_ixT, g_ixS, at_0, at_1, at_2, g_lt, g_le, g_gt, g_ge, g_tbl, g_tint, g_tlst, g_ttup, g_div, g_mod, g_mul, g_add, g_sub, g_pow, g_shl, g_shr, g_neg, g_not, g_bl, g_eqi, g_int, g_intb, g_lenL, g_lenT, g_lenS, g_max2, g_min2, no_int, no_bl, g_sum, g_slS, g_rng1, g_rng2, g_itsL, g_itsT, g_eqb, g_nei, g_neb, two_mk, g_IB, is_int, is_bl, is_str, is_non, is_tup, is_lst, it_int, it_bl, it_str, it_non, it_tup, it_lst, mod_nil, fset_0, fset_1, fset_2, pair2_mk, pair3_mk, and_true, true_and, frzs, frz, List.length_map, putAll, List.replicate, Nat.reduceSub, List.cons_append, List.nil_append, List.set_cons_zero, List.set_cons_succ, hl, decide_false, true_implies, Bool.false_eq_true, false_implies, and_true, true_and, hcut]
    exact ⟨(by apply cMul_of; (repeat' first | assumption | apply sz_add | apply sz_sub | apply sz_mul | (apply sz_mod <;> first | apply Nat.le_refl | decide +kernel) | apply Nat.le_refl | decide +kernel)), m9, by decide, f1, (by apply cMul_of; (repeat' first | assumption | apply sz_add | apply sz_sub | apply sz_mul | (apply sz_mod <;> first | apply Nat.le_refl | decide +kernel) | apply Nat.le_refl | decide +kernel)), by decide, cMod_of (by decide +kernel), rfl, _, _, rfl, rfl, f2⟩
theorem mixed_ok {n a b c : Int} {o : Bool} {xs : List Int} (hx : xs.length ≤ 1000) (hn : n + xs.length < 1000000) (h : Fk n a b c) :
    ∃ ys a' b' c', F__law_mixed [fd a b c, .lst o (vi xs)] = some (.ok (.lst true (vi ys)), [fd a' b' c', .lst o (vi xs)]) ∧ ys.Perm xs ∧ Fk (n + xs.length) a' b' c' := by
  suffices h : ∃ v fs, F__law_mixed [fd a b c, .lst o (vi xs)] = some (.ok v, fs) ∧ ∃ ys a' b' c', v = .lst true (vi ys) ∧ fs = [fd a' b' c', .lst o (vi xs)] ∧ ys.Perm xs ∧ Fk (n + xs.length) a' b' c' by
    obtain ⟨v, fs, e, ys, a', b', c', rfl, rfl, p⟩ := h
    exact ⟨ys, a', b', c', e, p⟩
  refine fn_runE rfl ?_
  simp only [D__law_mixed, r_tupO, r_pc, r_en, r_augI, r_pS, r_seq, r_ifS, r_tst, r_not, r_and, r_or, r_bin, r_un, r_var, r_frz, r_mov, r_c, r_set, r_st, r_mut, r_do, r_ret, r_p0, r_pure, r_cons, r_nil, r_skip, r_modE, r_lst, r_tup, r_if, r_andV, r_orV, r_comp, r_for, r_rng1, r_rng2, r_its, r_zip, r_call, r_gnil, r_gcons, r_glend, r_par2, r_par3, r_nop, r_part, r_sl, r_chain, getv_s, gv_int, gv_bl, gv_str, gv_non, gv_lst, gv_tup, gv_scr, g_some, exists_eq_left, exists_eq_left', Val.int.injEq, Val.bl.injEq, Out.rt.injEq, and_assoc, exists_and_left, g_if, g_ixL, g_ixT, g_ixS, at_0, at_1, at_2, g_lt, g_le, g_gt, g_ge, g_tbl, g_tint, g_tlst, g_ttup, g_div, g_mod, g_mul, g_add, g_sub, g_pow, g_shl, g_shr, g_neg, g_not, g_bl, g_eqi, g_int, g_intb, g_lenL, g_lenT, g_lenS, g_max2, g_min2, no_int, no_bl, g_sum, g_slS, g_rng1, g_rng2, g_itsL, g_itsT, g_eqb, g_nei, g_neb, two_mk, g_IB, is_int, is_bl, is_str, is_non, is_tup, is_lst, it_int, it_bl, it_str, it_non, it_tup, it_lst, mod_nil, fset_0, fset_1, fset_2, pair2_mk, pair3_mk, and_true, true_and, frzs, frz, List.length_map, putAll, List.replicate, Nat.reduceSub, List.cons_append, List.nil_append, List.set_cons_zero, List.set_cons_succ, g_listL, List.cons.injEq]
  refine ⟨rfl, decide_eq_true ⟨by omega, by omega⟩, ?_⟩
  refine (for_run (fun i e => ∃ (left got : List Int) (a b c : Int) (w : Val), e = [fd a b c, .lst o (vi xs), .lst true (vi left), .lst true (vi got), w] ∧ (got ++ left).Perm xs ∧ left.length + i = xs.length ∧ got.length = i ∧ Fk (n + i) a b c) ?_ ?_).mono ?_
  · exact ⟨xs, [], a, b, c, .gone, rfl, List.Perm.refl _, rfl, rfl, by simpa using h⟩
  · rintro i v e hv ⟨left, got, a, b, c, w, rfl, hp, hl, hg, hf⟩
    have hi : i < xs.length := by
      have := (List.getElem?_eq_some_iff.mp hv).1
      simpa [rgs] using this
    refine ⟨[fd a b c, .lst o (vi xs), .lst true (vi left), .lst true (vi got), v], rfl, ?_⟩
    obtain ⟨r, a', b', c', hd, r0, r1, hf'⟩ := draw_ok (m := (left.length : Int)) (by omega) hf (by omega) (by omega)
    obtain ⟨j, x, hx', hpop⟩ := f_pop1 (ns := left) r0 (by omega) (by omega)
    simp only [r_tupO, r_pc, r_en, r_augI, r_pS, r_seq, r_ifS, r_tst, r_not, r_and, r_or, r_bin, r_un, r_var, r_frz, r_mov, r_c, r_set, r_st, r_mut, r_do, r_ret, r_p0, r_pure, r_cons, r_nil, r_skip, r_modE, r_lst, r_tup, r_if, r_andV, r_orV, r_comp, r_for, r_rng1, r_rng2, r_its, r_zip, r_call, r_gnil, r_gcons, r_glend, r_par2, r_par3, r_nop, r_part, r_sl, r_chain, getv_s, gv_int, gv_bl, gv_str, gv_non, gv_lst, gv_tup, gv_scr, g_some, exists_eq_left, exists_eq_left', Val.int.injEq, Val.bl.injEq, Out.rt.injEq, and_assoc, exists_and_left, g_if, g_ixL, g_ixT, g_ixS, at_0, at_1, at_2, g_lt, g_le, g_gt, g_ge, g_tbl, g_tint, g_tlst, g_ttup, g_div, g_mod, g_mul, g_add, g_sub, g_pow, g_shl, g_shr, g_neg, g_not, g_bl, g_eqi, g_int, g_intb, g_lenL, g_lenT, g_lenS, g_max2, g_min2, no_int, no_bl, g_sum, g_slS, g_rng1, g_rng2, g_itsL, g_itsT, g_eqb, g_nei, g_neb, two_mk, g_IB, is_int, is_bl, is_str, is_non, is_tup, is_lst, it_int, it_bl, it_str, it_non, it_tup, it_lst, mod_nil, fset_0, fset_1, fset_2, pair2_mk, pair3_mk, and_true, true_and, frzs, frz, List.length_map, putAll, List.replicate, Nat.reduceSub, List.cons_append, List.nil_append, List.set_cons_zero, List.set_cons_succ]
    refine ⟨_, isL_nil rfl, _, isL_nil rfl, call_run hd rfl rfl ?_⟩
    have hsm : small ((vi got).length + 1) = true := decide_eq_true (by rw [List.length_map]; omega)
    simp only [r_tupO, r_pc, r_en, r_augI, r_pS, r_seq, r_ifS, r_tst, r_not, r_and, r_or, r_bin, r_un, r_var, r_frz, r_mov, r_c, r_set, r_st, r_mut, r_do, r_ret, r_p0, r_pure, r_cons, r_nil, r_skip, r_modE, r_lst, r_tup, r_if, r_andV, r_orV, r_comp, r_for, r_rng1, r_rng2, r_its, r_zip, r_call, r_gnil, r_gcons, r_glend, r_par2, r_par3, r_nop, r_part, r_sl, r_chain, getv_s, gv_int, gv_bl, gv_str, gv_non, gv_lst, gv_tup, gv_scr, g_some, exists_eq_left, exists_eq_left', Val.int.injEq, Val.bl.injEq, Out.rt.injEq, and_assoc, exists_and_left, g_if, g_ixL, g_ixT, g_ixS, at_0, at_1, at_2, g_lt, g_le, g_gt, g_ge, g_tbl, g_tint, g_tlst, g_ttup, g_div, g_mod, g_mul, g_add, g_sub, g_pow, g_shl, g_shr, g_neg, g_not, g_bl, g_eqi, g_int, g_intb, g_lenL, g_lenT, g_lenS, g_max2, g_min2, no_int, no_bl, g_sum, g_slS, g_rng1, g_rng2, g_itsL, g_itsT, g_eqb, g_nei, g_neb, two_mk, g_IB, is_int, is_bl, is_str, is_non, is_tup, is_lst, it_int, it_bl, it_str, it_non, it_tup, it_lst, mod_nil, fset_0, fset_1, fset_2, pair2_mk, pair3_mk, and_true, true_and, frzs, frz, List.length_map, putAll, List.replicate, Nat.reduceSub, List.cons_append, List.nil_append, List.set_cons_zero, List.set_cons_succ, hpop, f_app hsm]
    refine ⟨left.eraseIdx j, got ++ [x], a', b', c', v, by rw [show vi (got ++ [x]) = vi got ++ [Val.int x] from List.map_append ..], ?_, ?_, ?_, ?_⟩
    · have := perm_erase hx'
      exact ((List.append_assoc got [x] (left.eraseIdx j)) ▸ (List.Perm.append_left got this.symm)).trans hp
    · rw [List.length_eraseIdx, if_pos (List.getElem?_eq_some_iff.mp hx').1]; omega
    · rw [List.length_append, hg]; rfl
    · rw [show n + ((i + 1 : Nat) : Int) = n + (i : Int) + 1 by omega]; exact hf'
  · rintro oo e ⟨rfl, left, got, a', b', c', w, rfl, hp, hl, hg, hf⟩
    have e0 : (rgs (xs.length : Int).toNat).length = xs.length := by simp [rgs]
    rw [e0] at hl hg hf
    have hl0 : left = [] := List.eq_nil_of_length_eq_zero (by omega)
    subst hl0
    simp only [r_tupO, r_pc, r_en, r_augI, r_pS, r_seq, r_ifS, r_tst, r_not, r_and, r_or, r_bin, r_un, r_var, r_frz, r_mov, r_c, r_set, r_st, r_mut, r_do, r_ret, r_p0, r_pure, r_cons, r_nil, r_skip, r_modE, r_lst, r_tup, r_if, r_andV, r_orV, r_comp, r_for, r_rng1, r_rng2, r_its, r_zip, r_call, r_gnil, r_gcons, r_glend, r_par2, r_par3, r_nop, r_part, r_sl, r_chain, getv_s, gv_int, gv_bl, gv_str, gv_non, gv_lst, gv_tup, gv_scr, g_some, exists_eq_left, exists_eq_left', Val.int.injEq, Val.bl.injEq, Out.rt.injEq, and_assoc, exists_and_left, g_if, g_ixL, g_ixT, g_ixS, at_0, at_1, at_2, g_lt, g_le, g_gt, g_ge, g_tbl, g_tint, g_tlst, g_ttup, g_div, g_mod, g_mul, g_add, g_sub, g_pow, g_shl, g_shr, g_neg, g_not, g_bl, g_eqi, g_int, g_intb, g_lenL, g_lenT, g_lenS, g_max2, g_min2, no_int, no_bl, g_sum, g_slS, g_rng1, g_rng2, g_itsL, g_itsT, g_eqb, g_nei, g_neb, two_mk, g_IB, is_int, is_bl, is_str, is_non, is_tup, is_lst, it_int, it_bl, it_str, it_non, it_tup, it_lst, mod_nil, fset_0, fset_1, fset_2, pair2_mk, pair3_mk, and_true, true_and, frzs, frz, List.length_map, putAll, List.replicate, Nat.reduceSub, List.cons_append, List.nil_append, List.set_cons_zero, List.set_cons_succ]
    rw [List.append_nil] at hp
    exact ⟨got, rfl, a', b', c', rfl, hp, hf⟩
theorem beats_ok {n a b c way one other : Int} {mk : List Int} (hn : n < 1000000) (h : Fk n a b c) (h1 : 0 ≤ one) (h2 : one < other) (h3 : other < mk.length) (hl : mk.length ≤ 1000) (hm : ∀ z ∈ mk, 0 ≤ z ∧ z < 9) :
    ∃ t a' b' c', F__law_beats [fd a b c, .int way, .lst true (vi mk), .int one, .int other] = some (.ok (.bl t), [fd a' b' c', .int way, .lst true (vi mk), .int one, .int other]) ∧ Fk (n + 1) a' b' c' := by
  suffices h : ∃ v fs, F__law_beats [fd a b c, .int way, .lst true (vi mk), .int one, .int other] = some (.ok v, fs) ∧ ∃ t, v = .bl t ∧ ∃ a' b' c', fs = [fd a' b' c', .int way, .lst true (vi mk), .int one, .int other] ∧ Fk (n + 1) a' b' c' by
    obtain ⟨v, fs, e, t, rfl, a', b', c', rfl, p⟩ := h
    exact ⟨t, a', b', c', e, p⟩
  have stay : Fk (n + 1) a b c := ⟨h.a0, h.ia, h.ib', h.c0, by have := h.cn; omega⟩
  have g : ∀ i : Int, 0 ≤ i → i < mk.length → ∃ z, atI (vi mk) i = some (.int z) ∧ 0 ≤ z ∧ z < 9 := by
    intro i i0 i1
    obtain ⟨j, rfl⟩ := Int.eq_ofNat_of_zero_le i0
    have hj : j < mk.length := by omega
    exact ⟨mk[j], at_vi (at_nat (List.getElem?_eq_getElem hj)), hm _ (List.getElem_mem _)⟩
  obtain ⟨z1, e1, z1a, z1b⟩ := g one h1 (by omega)
  obtain ⟨z2, e2, z2a, z2b⟩ := g other (by omega) h3
  obtain ⟨z3, e3, z3a, z3b⟩ := g (if (mk.length : Int) - (other - one) < other - one then (mk.length : Int) - (other - one) else other - one) (by split <;> omega) (by split <;> omega)
  obtain ⟨r6, a6, b6, c6, d6, _, _, f6⟩ := draw_ok (m := 6) hn h (by decide) (by decide)
  obtain ⟨r2, a2, b2, c2, d2, _, _, f2⟩ := draw_ok (m := 2) hn h (by decide) (by decide)
  have hi : ib (other - one) ≤ 12 := sz_of (by omega) (by omega)
  have m2 : cMul 2 (other - one) = true := (by apply cMul_of; (repeat' first | assumption | apply sz_add | apply sz_sub | apply sz_mul | (apply sz_mod <;> first | apply Nat.le_refl | decide +kernel) | apply Nat.le_refl | decide +kernel))
  refine fn_runE rfl ?_
  simp (config := { maxSteps := 3000000 }) only [D__law_beats, r_tupO, r_pc, r_en, r_augI, r_pS, r_seq, r_ifS, r_tst, r_not, r_and, r_or, r_bin, r_un, r_var, r_frz, r_mov, r_c, r_set, r_st, r_mut, r_do, r_ret, r_p0, r_pure, r_cons, r_nil, r_skip, r_modE, r_lst, r_tup, r_if, r_andV, r_orV, r_comp, r_for, r_rng1, r_rng2, r_its, r_zip, r_call, r_gnil, r_gcons, r_glend, r_par2, r_par3, r_nop, r_part, r_sl, r_chain, getv_s, gv_int, gv_bl, gv_str, gv_non, gv_lst, gv_tup, gv_scr, g_some, exists_eq_left, exists_eq_left', Val.int.injEq, Val.bl.injEq, Out.rt.injEq, and_assoc, exists_and_left, g_if, g_ixL, g_ixT, g_ixS, at_0, at_1, at_2, g_lt, g_le, g_gt, g_ge, g_tbl, g_tint, g_tlst, g_ttup, g_div, g_mod, g_mul, g_add, g_sub, g_pow, g_shl, g_shr, g_neg, g_not, g_bl, g_eqi, g_int, g_intb, g_lenL, g_lenT, g_lenS, g_max2, g_min2, no_int, no_bl, g_sum, g_slS, g_rng1, g_rng2, g_itsL, g_itsT, g_eqb, g_nei, g_neb, two_mk, g_IB, is_int, is_bl, is_str, is_non, is_tup, is_lst, it_int, it_bl, it_str, it_non, it_tup, it_lst, mod_nil, fset_0, fset_1, fset_2, pair2_mk, pair3_mk, and_true, true_and, frzs, frz, List.length_map, putAll, List.replicate, Nat.reduceSub, List.cons_append, List.nil_append, List.set_cons_zero, List.set_cons_succ, e1, e2, e3, m2, true_and, g_inT (xs := [.int 4, .int 5, .int 6]) rfl]
  repeat' first
    | exact ⟨_, _, _, rfl, stay⟩
    | exact cDivW_of (by decide) (by decide +kernel)
    | exact cMod_of (by decide)
    | exact rfl
    | exact trivial
    | (refine call_run d6 rfl rfl ?_; simp only [r_tupO, r_pc, r_en, r_augI, r_pS, r_seq, r_ifS, r_tst, r_not, r_and, r_or, r_bin, r_un, r_var, r_frz, r_mov, r_c, r_set, r_st, r_mut, r_do, r_ret, r_p0, r_pure, r_cons, r_nil, r_skip, r_modE, r_lst, r_tup, r_if, r_andV, r_orV, r_comp, r_for, r_rng1, r_rng2, r_its, r_zip, r_call, r_gnil, r_gcons, r_glend, r_par2, r_par3, r_nop, r_part, r_sl, r_chain, getv_s, gv_int, gv_bl, gv_str, gv_non, gv_lst, gv_tup, gv_scr, g_some, exists_eq_left, exists_eq_left', Val.int.injEq, Val.bl.injEq, Out.rt.injEq, and_assoc, exists_and_left, g_if, g_ixL, g_ixT, g_ixS, at_0, at_1, at_2, g_lt, g_le, g_gt, g_ge, g_tbl, g_tint, g_tlst, g_ttup, g_div, g_mod, g_mul, g_add, g_sub, g_pow, g_shl, g_shr, g_neg, g_not, g_bl, g_eqi, g_int, g_intb, g_lenL, g_lenT, g_lenS, g_max2, g_min2, no_int, no_bl, g_sum, g_slS, g_rng1, g_rng2, g_itsL, g_itsT, g_eqb, g_nei, g_neb, two_mk, g_IB, is_int, is_bl, is_str, is_non, is_tup, is_lst, it_int, it_bl, it_str, it_non, it_tup, it_lst, mod_nil, fset_0, fset_1, fset_2, pair2_mk, pair3_mk, and_true, true_and, frzs, frz, List.length_map, putAll, List.replicate, Nat.reduceSub, List.cons_append, List.nil_append, List.set_cons_zero, List.set_cons_succ]; exact ⟨_, _, _, rfl, f6⟩)
    | (refine call_run d2 rfl rfl ?_; simp only [r_tupO, r_pc, r_en, r_augI, r_pS, r_seq, r_ifS, r_tst, r_not, r_and, r_or, r_bin, r_un, r_var, r_frz, r_mov, r_c, r_set, r_st, r_mut, r_do, r_ret, r_p0, r_pure, r_cons, r_nil, r_skip, r_modE, r_lst, r_tup, r_if, r_andV, r_orV, r_comp, r_for, r_rng1, r_rng2, r_its, r_zip, r_call, r_gnil, r_gcons, r_glend, r_par2, r_par3, r_nop, r_part, r_sl, r_chain, getv_s, gv_int, gv_bl, gv_str, gv_non, gv_lst, gv_tup, gv_scr, g_some, exists_eq_left, exists_eq_left', Val.int.injEq, Val.bl.injEq, Out.rt.injEq, and_assoc, exists_and_left, g_if, g_ixL, g_ixT, g_ixS, at_0, at_1, at_2, g_lt, g_le, g_gt, g_ge, g_tbl, g_tint, g_tlst, g_ttup, g_div, g_mod, g_mul, g_add, g_sub, g_pow, g_shl, g_shr, g_neg, g_not, g_bl, g_eqi, g_int, g_intb, g_lenL, g_lenT, g_lenS, g_max2, g_min2, no_int, no_bl, g_sum, g_slS, g_rng1, g_rng2, g_itsL, g_itsT, g_eqb, g_nei, g_neb, two_mk, g_IB, is_int, is_bl, is_str, is_non, is_tup, is_lst, it_int, it_bl, it_str, it_non, it_tup, it_lst, mod_nil, fset_0, fset_1, fset_2, pair2_mk, pair3_mk, and_true, true_and, frzs, frz, List.length_map, putAll, List.replicate, Nat.reduceSub, List.cons_append, List.nil_append, List.set_cons_zero, List.set_cons_succ]; exact ⟨_, _, _, rfl, f2⟩)
    | apply And.intro
    | intro _
theorem lot_ok {f : Nat → Bool} {n : Nat} (hn : n ≤ 12) : F__law_lot [.int (mk f n : Nat)] = some (.ok (.tup (vi (lot f n))), [.int (mk f n : Nat)]) := by
  refine fn_run rfl ?_
  simp only [D__law_lot, r_tupO, r_pc, r_en, r_augI, r_pS, r_seq, r_ifS, r_tst, r_not, r_and, r_or, r_bin, r_un, r_var, r_frz, r_mov, r_c, r_set, r_st, r_mut, r_do, r_ret, r_p0, r_pure, r_cons, r_nil, r_skip, r_modE, r_lst, r_tup, r_if, r_andV, r_orV, r_comp, r_for, r_rng1, r_rng2, r_its, r_zip, r_call, r_gnil, r_gcons, r_glend, r_par2, r_par3, r_nop, r_part, r_sl, r_chain, getv_s, gv_int, gv_bl, gv_str, gv_non, gv_lst, gv_tup, gv_scr, g_some, exists_eq_left, exists_eq_left', Val.int.injEq, Val.bl.injEq, Out.rt.injEq, and_assoc, exists_and_left, g_if, g_ixL, g_ixT, g_ixS, at_0, at_1, at_2, g_lt, g_le, g_gt, g_ge, g_tbl, g_tint, g_tlst, g_ttup, g_div, g_mod, g_mul, g_add, g_sub, g_pow, g_shl, g_shr, g_neg, g_not, g_bl, g_eqi, g_int, g_intb, g_lenL, g_lenT, g_lenS, g_max2, g_min2, no_int, no_bl, g_sum, g_slS, g_rng1, g_rng2, g_itsL, g_itsT, g_eqb, g_nei, g_neb, two_mk, g_IB, is_int, is_bl, is_str, is_non, is_tup, is_lst, it_int, it_bl, it_str, it_non, it_tup, it_lst, mod_nil, fset_0, fset_1, fset_2, pair2_mk, pair3_mk, and_true, true_and, frzs, frz, List.length_map, putAll, List.replicate, Nat.reduceSub, List.cons_append, List.nil_append, List.set_cons_zero, List.set_cons_succ]
  refine ⟨by decide, ?_⟩
  have hc : compL (tgN 1) (dTst (dBin gEq (dBin gBAnd (dBin gShr (dVar 0) (dVar 1)) (dC (.int 1))) (dC (.int 1)))) (dFrz 1) [1] (rgs (Int.toNat 12)) (wipeE [1] [Val.int (mk f n : Nat), Val.gone]) = ok (((rgs (Int.toNat 12)).filter fun v => match v with | .int i => decide (i.toNat < n) && f i.toNat | _ => false).map id) [Val.int (mk f n : Nat), Val.gone] := by
    refine comp_map _ _ fun v hv => ?_
    obtain ⟨p, hp, rfl⟩ := List.mem_map.mp hv
    refine ⟨[Val.int (mk f n : Nat), .int p], rfl, ?_⟩
    simp only [r_tupO, r_pc, r_en, r_augI, r_pS, r_seq, r_ifS, r_tst, r_not, r_and, r_or, r_bin, r_un, r_var, r_frz, r_mov, r_c, r_set, r_st, r_mut, r_do, r_ret, r_p0, r_pure, r_cons, r_nil, r_skip, r_modE, r_lst, r_tup, r_if, r_andV, r_orV, r_comp, r_for, r_rng1, r_rng2, r_its, r_zip, r_call, r_gnil, r_gcons, r_glend, r_par2, r_par3, r_nop, r_part, r_sl, r_chain, getv_s, gv_int, gv_bl, gv_str, gv_non, gv_lst, gv_tup, gv_scr, g_some, exists_eq_left, exists_eq_left', Val.int.injEq, Val.bl.injEq, Out.rt.injEq, and_assoc, exists_and_left, g_if, g_ixL, g_ixT, g_ixS, at_0, at_1, at_2, g_lt, g_le, g_gt, g_ge, g_tbl, g_tint, g_tlst, g_ttup, g_div, g_mod, g_mul, g_add, g_sub, g_pow, g_shl, g_shr, g_neg, g_not, g_bl, g_eqi, g_int, g_intb, g_lenL, g_lenT, g_lenS, g_max2, g_min2, no_int, no_bl, g_sum, g_slS, g_rng1, g_rng2, g_itsL, g_itsT, g_eqb, g_nei, g_neb, two_mk, g_IB, is_int, is_bl, is_str, is_non, is_tup, is_lst, it_int, it_bl, it_str, it_non, it_tup, it_lst, mod_nil, fset_0, fset_1, fset_2, pair2_mk, pair3_mk, and_true, true_and, frzs, frz, List.length_map, putAll, List.replicate, Nat.reduceSub, List.cons_append, List.nil_append, List.set_cons_zero, List.set_cons_succ, g_band]
    refine ⟨decide_eq_true (by omega), ?_, fun _ => ⟨rfl, rfl⟩, fun _ => rfl⟩
    rw [Int.toNat_natCast, shr_bit, mk_bit]
    by_cases h1 : p < n <;> by_cases h2 : f p = true <;> simp [h1, h2]
  rw [hc]
  have e : ((rgs (Int.toNat 12)).filter fun v => match v with | .int i => decide (i.toNat < n) && f i.toNat | _ => false).map id = vi (lot f n) := by
    rw [List.map_id]
    unfold rgs lot vi
    rw [List.filter_map, List.map_map]
    have : ∀ m, n ≤ m → (List.range m).filter (fun p => decide (p < n) && f p) = (List.range n).filter f := by
      intro m hm
      obtain ⟨k, rfl⟩ := Nat.exists_eq_add_of_le hm
      induction k with
      | zero =>
        apply List.filter_congr
        intro x hx
        rw [decide_eq_true (show x < n from List.mem_range.mp hx), Bool.true_and]
      | succ k ih =>
        rw [show n + (k + 1) = (n + k) + 1 from rfl, List.range_succ, List.filter_append, ih (by omega)]
        have : (decide (n + k < n) && f (n + k)) = false := by rw [decide_eq_false (by omega)]; rfl
        simp [this]
    rw [← this 12 hn]
    rfl
  rw [e]
  refine ⟨?_, .tup (vi (lot f n)), ?_, rfl, rfl⟩
  · refine decide_eq_true ?_
    rw [List.length_map]
    unfold lot
    rw [List.length_map]
    have := List.length_filter_le f (List.range n)
    rw [List.length_range] at this
    omega
  · unfold gTuple
    dsimp only
    rw [owns_vi]; rfl
theorem table_ok {B : Nat → Nat → Bool} {n : Nat} {o : Bool} (hn : n ≤ 12) : F__law_table [.lst o (vi (wn B n))] = some (.ok (.tup (tabV B n)), [.lst false (vi (wn B n))]) := by
  refine fn_run rfl ?_
  simp only [D__law_table, r_tupO, r_pc, r_en, r_augI, r_pS, r_seq, r_ifS, r_tst, r_not, r_and, r_or, r_bin, r_un, r_var, r_frz, r_mov, r_c, r_set, r_st, r_mut, r_do, r_ret, r_p0, r_pure, r_cons, r_nil, r_skip, r_modE, r_lst, r_tup, r_if, r_andV, r_orV, r_comp, r_for, r_rng1, r_rng2, r_its, r_zip, r_call, r_gnil, r_gcons, r_glend, r_par2, r_par3, r_nop, r_part, r_sl, r_chain, getv_s, gv_int, gv_bl, gv_str, gv_non, gv_lst, gv_tup, gv_scr, g_some, exists_eq_left, exists_eq_left', Val.int.injEq, Val.bl.injEq, Out.rt.injEq, and_assoc, exists_and_left, g_if, g_ixL, g_ixT, g_ixS, at_0, at_1, at_2, g_lt, g_le, g_gt, g_ge, g_tbl, g_tint, g_tlst, g_ttup, g_div, g_mod, g_mul, g_add, g_sub, g_pow, g_shl, g_shr, g_neg, g_not, g_bl, g_eqi, g_int, g_intb, g_lenL, g_lenT, g_lenS, g_max2, g_min2, no_int, no_bl, g_sum, g_slS, g_rng1, g_rng2, g_itsL, g_itsT, g_eqb, g_nei, g_neb, two_mk, g_IB, is_int, is_bl, is_str, is_non, is_tup, is_lst, it_int, it_bl, it_str, it_non, it_tup, it_lst, mod_nil, fset_0, fset_1, fset_2, pair2_mk, pair3_mk, and_true, true_and, frzs, frz, List.length_map, putAll, List.replicate, Nat.reduceSub, List.cons_append, List.nil_append, List.set_cons_zero, List.set_cons_succ, frzs_vi]
  have hc : compL (tgN 1) dYes (dCall F__law_lot (dGLend 1 dGNil)) [1] (vi (wn B n)) (wipeE [1] [Val.lst false (vi (wn B n)), Val.gone]) = ok (tabV B n) [Val.lst false (vi (wn B n)), Val.gone] := by
    have key : ∀ (xs : List Nat) (e : Env), e = [Val.lst false (vi (wn B n)), Val.gone] → compL (tgN 1) dYes (dCall F__law_lot (dGLend 1 dGNil)) [1] (vi (xs.map fun x => ((mk (B x) n : Nat) : Int))) e = ok (xs.map fun x => .tup (vi (lot (B x) n))) e := by
      intro xs
      induction xs with
      | nil => intro e he; rfl
      | cons x xs ih =>
        rintro e rfl
        show compL _ _ _ _ (.int _ :: vi (xs.map _)) _ = _
        unfold compL
        have h1 : dCall F__law_lot (dGLend 1 dGNil) [Val.lst false (vi (wn B n)), .int ((mk (B x) n : Nat) : Int)] = ok (.tup (vi (lot (B x) n))) [Val.lst false (vi (wn B n)), .int ((mk (B x) n : Nat) : Int)] := by
          refine run_eq ?_
          simp only [r_tupO, r_pc, r_en, r_augI, r_pS, r_seq, r_ifS, r_tst, r_not, r_and, r_or, r_bin, r_un, r_var, r_frz, r_mov, r_c, r_set, r_st, r_mut, r_do, r_ret, r_p0, r_pure, r_cons, r_nil, r_skip, r_modE, r_lst, r_tup, r_if, r_andV, r_orV, r_comp, r_for, r_rng1, r_rng2, r_its, r_zip, r_call, r_gnil, r_gcons, r_glend, r_par2, r_par3, r_nop, r_part, r_sl, r_chain, getv_s, gv_int, gv_bl, gv_str, gv_non, gv_lst, gv_tup, gv_scr, g_some, exists_eq_left, exists_eq_left', Val.int.injEq, Val.bl.injEq, Out.rt.injEq, and_assoc, exists_and_left, g_if, g_ixL, g_ixT, g_ixS, at_0, at_1, at_2, g_lt, g_le, g_gt, g_ge, g_tbl, g_tint, g_tlst, g_ttup, g_div, g_mod, g_mul, g_add, g_sub, g_pow, g_shl, g_shr, g_neg, g_not, g_bl, g_eqi, g_int, g_intb, g_lenL, g_lenT, g_lenS, g_max2, g_min2, no_int, no_bl, g_sum, g_slS, g_rng1, g_rng2, g_itsL, g_itsT, g_eqb, g_nei, g_neb, two_mk, g_IB, is_int, is_bl, is_str, is_non, is_tup, is_lst, it_int, it_bl, it_str, it_non, it_tup, it_lst, mod_nil, fset_0, fset_1, fset_2, pair2_mk, pair3_mk, and_true, true_and, frzs, frz, List.length_map, putAll, List.replicate, Nat.reduceSub, List.cons_append, List.nil_append, List.set_cons_zero, List.set_cons_succ]
          exact call_run (lot_ok hn) rfl rfl ⟨rfl, rfl⟩
        show bnd (dCall F__law_lot (dGLend 1 dGNil) [Val.lst false (vi (wn B n)), .int ((mk (B x) n : Nat) : Int)]) _ = _
        rw [h1]
        show bnd (compL (tgN 1) dYes _ [1] _ [Val.lst false (vi (wn B n)), Val.gone]) _ = _
        rw [ih _ rfl]
        rfl
    exact key (List.range n) _ rfl
  rw [hc]
  refine ⟨?_, .tup (tabV B n), ?_, rfl, rfl⟩
  · refine decide_eq_true ?_
    unfold tabV
    rw [List.length_map, List.length_range]
    omega
  · unfold gTuple
    dsimp only
    rw [owns_tab]; rfl
theorem Fk.mono {n n' a b c : Int} (h : Fk n a b c) (hn : n ≤ n') : Fk n' a b c := ⟨h.a0, h.ia, h.ib', h.c0, by have := h.cn; omega⟩
theorem wins_ok {n a b c least most : Int} (h0 : 0 ≤ least) (h1 : least ≤ most) (h2 : most ≤ 10) (hn : n < 900000) (h : Fk n a b c) :
    ∃ (m : Nat) (B : Nat → Nat → Bool) (a' b' c' : Int), F__law_wins [fd a b c, .int least, .int most] = some (.ok (.lst true (vi (wn B m))), [fd a' b' c', .int least, .int most]) ∧ least ≤ m ∧ m ≤ most ∧ Tour B m ∧ Fk (n + 200) a' b' c' := by
  suffices h : ∃ v fs, F__law_wins [fd a b c, .int least, .int most] = some (.ok v, fs) ∧ ∃ (m : Nat) (B : Nat → Nat → Bool), v = .lst true (vi (wn B m)) ∧ ∃ a' b' c' : Int, fs = [fd a' b' c', .int least, .int most] ∧ least ≤ m ∧ m ≤ most ∧ Tour B m ∧ Fk (n + 200) a' b' c' by
    obtain ⟨v, fs, e, m, B, rfl, a', b', c', rfl, p⟩ := h
    exact ⟨m, B, a', b', c', e, p⟩
  obtain ⟨r1, a1, b1, c1, d1, r1a, r1b, f1⟩ := draw_ok (m := most - least + 1) (by omega) h (by omega) (by omega)
  obtain ⟨r2, a2, b2, c2, d2, r2a, r2b, f2⟩ := draw_ok (m := 9) (by omega) f1 (by omega) (by omega)
  obtain ⟨r3, a3, b3, c3, d3, r3a, r3b, f3⟩ := draw_ok (m := 2) (by omega) f2 (by omega) (by omega)
  refine fn_runE rfl ?_
  simp (config := { maxSteps := 1000000 }) only [D__law_wins, r_tupO, r_pc, r_en, r_augI, r_pS, r_seq, r_ifS, r_tst, r_not, r_and, r_or, r_bin, r_un, r_var, r_frz, r_mov, r_c, r_set, r_st, r_mut, r_do, r_ret, r_p0, r_pure, r_cons, r_nil, r_skip, r_modE, r_lst, r_tup, r_if, r_andV, r_orV, r_comp, r_for, r_rng1, r_rng2, r_its, r_zip, r_call, r_gnil, r_gcons, r_glend, r_par2, r_par3, r_nop, r_part, r_sl, r_chain, getv_s, gv_int, gv_bl, gv_str, gv_non, gv_lst, gv_tup, gv_scr, g_some, exists_eq_left, exists_eq_left', Val.int.injEq, Val.bl.injEq, Out.rt.injEq, and_assoc, exists_and_left, g_if, g_ixL, g_ixT, g_ixS, at_0, at_1, at_2, g_lt, g_le, g_gt, g_ge, g_tbl, g_tint, g_tlst, g_ttup, g_div, g_mod, g_mul, g_add, g_sub, g_pow, g_shl, g_shr, g_neg, g_not, g_bl, g_eqi, g_int, g_intb, g_lenL, g_lenT, g_lenS, g_max2, g_min2, no_int, no_bl, g_sum, g_slS, g_rng1, g_rng2, g_itsL, g_itsT, g_eqb, g_nei, g_neb, two_mk, g_IB, is_int, is_bl, is_str, is_non, is_tup, is_lst, it_int, it_bl, it_str, it_non, it_tup, it_lst, mod_nil, fset_0, fset_1, fset_2, pair2_mk, pair3_mk, and_true, true_and, frzs, frz, List.length_map, putAll, List.replicate, Nat.reduceSub, List.cons_append, List.nil_append, List.set_cons_zero, List.set_cons_succ, r_asg]
  refine call_run d1 rfl rfl ?_
  simp (config := { maxSteps := 1000000 }) only [r_tupO, r_pc, r_en, r_augI, r_pS, r_seq, r_ifS, r_tst, r_not, r_and, r_or, r_bin, r_un, r_var, r_frz, r_mov, r_c, r_set, r_st, r_mut, r_do, r_ret, r_p0, r_pure, r_cons, r_nil, r_skip, r_modE, r_lst, r_tup, r_if, r_andV, r_orV, r_comp, r_for, r_rng1, r_rng2, r_its, r_zip, r_call, r_gnil, r_gcons, r_glend, r_par2, r_par3, r_nop, r_part, r_sl, r_chain, getv_s, gv_int, gv_bl, gv_str, gv_non, gv_lst, gv_tup, gv_scr, g_some, exists_eq_left, exists_eq_left', Val.int.injEq, Val.bl.injEq, Out.rt.injEq, and_assoc, exists_and_left, g_if, g_ixL, g_ixT, g_ixS, at_0, at_1, at_2, g_lt, g_le, g_gt, g_ge, g_tbl, g_tint, g_tlst, g_ttup, g_div, g_mod, g_mul, g_add, g_sub, g_pow, g_shl, g_shr, g_neg, g_not, g_bl, g_eqi, g_int, g_intb, g_lenL, g_lenT, g_lenS, g_max2, g_min2, no_int, no_bl, g_sum, g_slS, g_rng1, g_rng2, g_itsL, g_itsT, g_eqb, g_nei, g_neb, two_mk, g_IB, is_int, is_bl, is_str, is_non, is_tup, is_lst, it_int, it_bl, it_str, it_non, it_tup, it_lst, mod_nil, fset_0, fset_1, fset_2, pair2_mk, pair3_mk, and_true, true_and, frzs, frz, List.length_map, putAll, List.replicate, Nat.reduceSub, List.cons_append, List.nil_append, List.set_cons_zero, List.set_cons_succ, r_asg]
  refine call_run d2 rfl rfl ?_
  simp (config := { maxSteps := 1000000 }) only [r_tupO, r_pc, r_en, r_augI, r_pS, r_seq, r_ifS, r_tst, r_not, r_and, r_or, r_bin, r_un, r_var, r_frz, r_mov, r_c, r_set, r_st, r_mut, r_do, r_ret, r_p0, r_pure, r_cons, r_nil, r_skip, r_modE, r_lst, r_tup, r_if, r_andV, r_orV, r_comp, r_for, r_rng1, r_rng2, r_its, r_zip, r_call, r_gnil, r_gcons, r_glend, r_par2, r_par3, r_nop, r_part, r_sl, r_chain, getv_s, gv_int, gv_bl, gv_str, gv_non, gv_lst, gv_tup, gv_scr, g_some, exists_eq_left, exists_eq_left', Val.int.injEq, Val.bl.injEq, Out.rt.injEq, and_assoc, exists_and_left, g_if, g_ixL, g_ixT, g_ixS, at_0, at_1, at_2, g_lt, g_le, g_gt, g_ge, g_tbl, g_tint, g_tlst, g_ttup, g_div, g_mod, g_mul, g_add, g_sub, g_pow, g_shl, g_shr, g_neg, g_not, g_bl, g_eqi, g_int, g_intb, g_lenL, g_lenT, g_lenS, g_max2, g_min2, no_int, no_bl, g_sum, g_slS, g_rng1, g_rng2, g_itsL, g_itsT, g_eqb, g_nei, g_neb, two_mk, g_IB, is_int, is_bl, is_str, is_non, is_tup, is_lst, it_int, it_bl, it_str, it_non, it_tup, it_lst, mod_nil, fset_0, fset_1, fset_2, pair2_mk, pair3_mk, and_true, true_and, frzs, frz, List.length_map, putAll, List.replicate, Nat.reduceSub, List.cons_append, List.nil_append, List.set_cons_zero, List.set_cons_succ, r_asg]
  refine call_run d3 rfl rfl ?_
  simp (config := { maxSteps := 1000000 }) only [r_tupO, r_pc, r_en, r_augI, r_pS, r_seq, r_ifS, r_tst, r_not, r_and, r_or, r_bin, r_un, r_var, r_frz, r_mov, r_c, r_set, r_st, r_mut, r_do, r_ret, r_p0, r_pure, r_cons, r_nil, r_skip, r_modE, r_lst, r_tup, r_if, r_andV, r_orV, r_comp, r_for, r_rng1, r_rng2, r_its, r_zip, r_call, r_gnil, r_gcons, r_glend, r_par2, r_par3, r_nop, r_part, r_sl, r_chain, getv_s, gv_int, gv_bl, gv_str, gv_non, gv_lst, gv_tup, gv_scr, g_some, exists_eq_left, exists_eq_left', Val.int.injEq, Val.bl.injEq, Out.rt.injEq, and_assoc, exists_and_left, g_if, g_ixL, g_ixT, g_ixS, at_0, at_1, at_2, g_lt, g_le, g_gt, g_ge, g_tbl, g_tint, g_tlst, g_ttup, g_div, g_mod, g_mul, g_add, g_sub, g_pow, g_shl, g_shr, g_neg, g_not, g_bl, g_eqi, g_int, g_intb, g_lenL, g_lenT, g_lenS, g_max2, g_min2, no_int, no_bl, g_sum, g_slS, g_rng1, g_rng2, g_itsL, g_itsT, g_eqb, g_nei, g_neb, two_mk, g_IB, is_int, is_bl, is_str, is_non, is_tup, is_lst, it_int, it_bl, it_str, it_non, it_tup, it_lst, mod_nil, fset_0, fset_1, fset_2, pair2_mk, pair3_mk, and_true, true_and, frzs, frz, List.length_map, putAll, List.replicate, Nat.reduceSub, List.cons_append, List.nil_append, List.set_cons_zero, List.set_cons_succ, r_asg]
  have i3 : ib r3 ≤ 2 := sz_of r3a (by omega)
  refine ⟨(by apply cMul_of; (repeat' first | assumption | apply sz_add | apply sz_sub | apply sz_mul | (apply sz_mod <;> first | apply Nat.le_refl | decide +kernel) | apply Nat.le_refl | decide +kernel)), rfl, _, rfl, ?_⟩
  obtain ⟨m, hm⟩ := Int.eq_ofNat_of_zero_le (show 0 ≤ least + r1 by omega)
  rw [hm]
  have hm10 : m ≤ 10 := by omega
  simp (config := { maxSteps := 1000000 }) only [r_tupO, r_pc, r_en, r_augI, r_pS, r_seq, r_ifS, r_tst, r_not, r_and, r_or, r_bin, r_un, r_var, r_frz, r_mov, r_c, r_set, r_st, r_mut, r_do, r_ret, r_p0, r_pure, r_cons, r_nil, r_skip, r_modE, r_lst, r_tup, r_if, r_andV, r_orV, r_comp, r_for, r_rng1, r_rng2, r_its, r_zip, r_call, r_gnil, r_gcons, r_glend, r_par2, r_par3, r_nop, r_part, r_sl, r_chain, getv_s, gv_int, gv_bl, gv_str, gv_non, gv_lst, gv_tup, gv_scr, g_some, exists_eq_left, exists_eq_left', Val.int.injEq, Val.bl.injEq, Out.rt.injEq, and_assoc, exists_and_left, g_if, g_ixL, g_ixT, g_ixS, at_0, at_1, at_2, g_lt, g_le, g_gt, g_ge, g_tbl, g_tint, g_tlst, g_ttup, g_div, g_mod, g_mul, g_add, g_sub, g_pow, g_shl, g_shr, g_neg, g_not, g_bl, g_eqi, g_int, g_intb, g_lenL, g_lenT, g_lenS, g_max2, g_min2, no_int, no_bl, g_sum, g_slS, g_rng1, g_rng2, g_itsL, g_itsT, g_eqb, g_nei, g_neb, two_mk, g_IB, is_int, is_bl, is_str, is_non, is_tup, is_lst, it_int, it_bl, it_str, it_non, it_tup, it_lst, mod_nil, fset_0, fset_1, fset_2, pair2_mk, pair3_mk, and_true, true_and, frzs, frz, List.length_map, putAll, List.replicate, Nat.reduceSub, List.cons_append, List.nil_append, List.set_cons_zero, List.set_cons_succ, r_asg]
  refine ⟨decide_eq_true ⟨by omega, by omega⟩, ?_⟩
  -- the marks
  have hmk := comp_run (tg := tgN 13) (tests := dYes) (elt := dCall F__law_draw (dGLend 0 (dGLend 5 dGNil))) (vs := [13]) (its := rgs (m : Int).toNat)
    (env := [fd a3 b3 c3, Val.int least, Val.int most, .int m, .int r2, .int (4 + 5 * r3), Val.gone, Val.gone, Val.gone, Val.gone, Val.gone, Val.gone, Val.gone, Val.gone])
    (fun i acc e => ∃ (ms : List Int) (a b c : Int), acc = vi ms ∧ ms.length = i ∧ (∀ z ∈ ms, 0 ≤ z ∧ z < 9) ∧ Fk (n + 3 + i) a b c ∧ e = [fd a b c, Val.int least, Val.int most, .int m, .int r2, .int (4 + 5 * r3), Val.gone, Val.gone, Val.gone, Val.gone, Val.gone, Val.gone, Val.gone, Val.gone])
    ⟨[], a3, b3, c3, rfl, rfl, (fun z hz => nomatch hz), f3.mono (by omega), rfl⟩ ?_
  · refine hmk.mono fun xs e2 hh => ?_
    obtain ⟨ms, a4, b4, c4, rfl, hml, hms, hf4, rfl⟩ := hh
    have e0 : (rgs (m : Int).toNat).length = m := by simp [rgs]
    rw [e0] at hml hf4
    simp (config := { maxSteps := 1000000 }) only [r_tupO, r_pc, r_en, r_augI, r_pS, r_seq, r_ifS, r_tst, r_not, r_and, r_or, r_bin, r_un, r_var, r_frz, r_mov, r_c, r_set, r_st, r_mut, r_do, r_ret, r_p0, r_pure, r_cons, r_nil, r_skip, r_modE, r_lst, r_tup, r_if, r_andV, r_orV, r_comp, r_for, r_rng1, r_rng2, r_its, r_zip, r_call, r_gnil, r_gcons, r_glend, r_par2, r_par3, r_nop, r_part, r_sl, r_chain, getv_s, gv_int, gv_bl, gv_str, gv_non, gv_lst, gv_tup, gv_scr, g_some, exists_eq_left, exists_eq_left', Val.int.injEq, Val.bl.injEq, Out.rt.injEq, and_assoc, exists_and_left, g_if, g_ixL, g_ixT, g_ixS, at_0, at_1, at_2, g_lt, g_le, g_gt, g_ge, g_tbl, g_tint, g_tlst, g_ttup, g_div, g_mod, g_mul, g_add, g_sub, g_pow, g_shl, g_shr, g_neg, g_not, g_bl, g_eqi, g_int, g_intb, g_lenL, g_lenT, g_lenS, g_max2, g_min2, no_int, no_bl, g_sum, g_slS, g_rng1, g_rng2, g_itsL, g_itsT, g_eqb, g_nei, g_neb, two_mk, g_IB, is_int, is_bl, is_str, is_non, is_tup, is_lst, it_int, it_bl, it_str, it_non, it_tup, it_lst, mod_nil, fset_0, fset_1, fset_2, pair2_mk, pair3_mk, and_true, true_and, frzs, frz, List.length_map, putAll, List.replicate, Nat.reduceSub, List.cons_append, List.nil_append, List.set_cons_zero, List.set_cons_succ, r_asg, restE, List.getD_cons_succ, List.getD_nil, g_rgL]
    refine ⟨decide_eq_true (by omega), decide_eq_true ⟨by omega, by omega⟩, ?_⟩
    rw [rgs_vi]
    obtain ⟨ns, a5, b5, c5, d5, hperm, f5⟩ := mixed_ok (o := true) (xs := (List.range (m : Int).toNat).map fun k : Nat => (k : Int)) (by simp; omega) (by simp; omega) hf4
    refine call_run d5 rfl rfl ?_
    simp (config := { maxSteps := 1000000 }) only [r_tupO, r_pc, r_en, r_augI, r_pS, r_seq, r_ifS, r_tst, r_not, r_and, r_or, r_bin, r_un, r_var, r_frz, r_mov, r_c, r_set, r_st, r_mut, r_do, r_ret, r_p0, r_pure, r_cons, r_nil, r_skip, r_modE, r_lst, r_tup, r_if, r_andV, r_orV, r_comp, r_for, r_rng1, r_rng2, r_its, r_zip, r_call, r_gnil, r_gcons, r_glend, r_par2, r_par3, r_nop, r_part, r_sl, r_chain, getv_s, gv_int, gv_bl, gv_str, gv_non, gv_lst, gv_tup, gv_scr, g_some, exists_eq_left, exists_eq_left', Val.int.injEq, Val.bl.injEq, Out.rt.injEq, and_assoc, exists_and_left, g_if, g_ixL, g_ixT, g_ixS, at_0, at_1, at_2, g_lt, g_le, g_gt, g_ge, g_tbl, g_tint, g_tlst, g_ttup, g_div, g_mod, g_mul, g_add, g_sub, g_pow, g_shl, g_shr, g_neg, g_not, g_bl, g_eqi, g_int, g_intb, g_lenL, g_lenT, g_lenS, g_max2, g_min2, no_int, no_bl, g_sum, g_slS, g_rng1, g_rng2, g_itsL, g_itsT, g_eqb, g_nei, g_neb, two_mk, g_IB, is_int, is_bl, is_str, is_non, is_tup, is_lst, it_int, it_bl, it_str, it_non, it_tup, it_lst, mod_nil, fset_0, fset_1, fset_2, pair2_mk, pair3_mk, and_true, true_and, frzs, frz, List.length_map, putAll, List.replicate, Nat.reduceSub, List.cons_append, List.nil_append, List.set_cons_zero, List.set_cons_succ, r_asg, g_mulL]
    have hnl : ns.length = m := by rw [hperm.length_eq]; simp
    have hmem : ∀ z ∈ ns, 0 ≤ z ∧ z < m := fun z hz => by
      obtain ⟨k, hk, rfl⟩ := List.mem_map.mp (hperm.mem_iff.mp hz)
      have := List.mem_range.mp hk
      exact ⟨by omega, by omega⟩
    have hnd : ns.Nodup := hperm.nodup_iff.mpr (List.pairwise_map.mpr (List.nodup_range.imp fun h e => h (by omega)))
    let nm : Nat → Nat := fun i => (ns.getD i 0).toNat
    have hnm : ∀ i, i < m → ∃ z : Nat, nm i = z ∧ z < m ∧ ns[i]? = some (z : Int) := fun i hi => by
      have hg : ns[i]? = some ns[i] := List.getElem?_eq_getElem (by omega)
      have := hmem ns[i] (List.getElem_mem _)
      refine ⟨(ns[i]).toNat, ?_, by omega, by rw [hg]; congr 1; omega⟩
      show (ns.getD i 0).toNat = _
      rw [List.getD_eq_getElem?_getD, hg]; rfl
    have hin : ∀ i, i < m → nm i < m := fun i hi => by obtain ⟨z, e, hz, _⟩ := hnm i hi; rw [e]; exact hz
    have hinj : ∀ i j, i < m → j < m → nm i = nm j → i = j := fun i j hi hj e => by
      obtain ⟨z, ez, _, gz⟩ := hnm i hi
      obtain ⟨y, ey, _, gy⟩ := hnm j hj
      have : z = y := by omega
      subst this
      exact (List.getElem?_inj (by omega) hnd).mp (gz.trans gy.symm)
    refine ⟨rfl, ?_, decide_eq_true ⟨by omega, by omega⟩, ?_⟩
    · rw [decide_eq_true (show (-9223372036854775808 : Int) ≤ m ∧ (m : Int) < 9223372036854775808 by omega)]
      rw [show small ([Val.int 0].length * (m : Int).toNat) = true from decide_eq_true (by simp; omega)]
      rfl
    have st0 : (List.replicate (m : Int).toNat [Val.int 0]).flatten = vi (wn (fun _ _ => false) m) := by
      have z : ∀ k, mk (fun _ => false) k = 0 := fun k => by
        induction k with
        | zero => rfl
        | succ k ih => unfold mk; rw [ih]; rfl
      rw [Int.toNat_natCast]
      unfold wn vi
      rw [List.map_map]
      have : ∀ k, (List.replicate k [Val.int 0]).flatten = (List.range k).map (Val.int ∘ fun x => ((mk ((fun _ _ => false : Nat → Nat → Bool) x) m : Nat) : Int)) := fun k => by
        induction k with
        | zero => rfl
        | succ k ih => rw [List.range_succ, List.map_append, ← ih, List.replicate_succ', List.flatten_append]; simp [z]
      exact this m
    rw [st0]
    let W : Nat → Nat → Nat → Val → Env → Prop := fun i j k w9 e => ∃ (B : Nat → Nat → Bool) (a b c : Int) (w10 w11 w12 : Val), e = [fd a b c, Val.int least, Val.int most, .int m, .int r2, .int (4 + 5 * r3), Val.lst true (vi ms), Val.lst true (vi ns), Val.lst true (vi (wn B m)), w9, w10, w11, w12, Val.gone] ∧
      PT m nm (fun p q => decide (p < i ∨ (p = i ∧ q < j))) B ∧ Fk (n + 3 + 2 * m + k) a b c
    refine (for_run (fun i e => ∃ w9, W i 0 (10 * i) w9 e) ?_ ?_).mono ?_
    · refine ⟨_, fun _ _ => false, a5, b5, c5, _, _, _, rfl, ⟨fun _ _ h => (nomatch h), fun _ => rfl, fun p q h1 h2 h3 => ?_, fun _ _ _ _ _ => ⟨rfl, rfl⟩⟩, f5.mono (by simp; omega)⟩
      have := of_decide_eq_true h3
      omega
    · rintro i v e hv ⟨w9, B, a6, b6, c6, w10, w11, w12, rfl, hPT, hf6⟩
      obtain ⟨hi0, hv2⟩ := List.getElem?_eq_some_iff.mp hv
      have hi : i < m := by simpa [rgs] using hi0
      have hvi : v = .int (i : Int) := by rw [← hv2]; simp [rgs]
      subst hvi
      refine ⟨_, rfl, ?_⟩
      simp (config := { maxSteps := 1000000 }) only [r_tupO, r_pc, r_en, r_augI, r_pS, r_seq, r_ifS, r_tst, r_not, r_and, r_or, r_bin, r_un, r_var, r_frz, r_mov, r_c, r_set, r_st, r_mut, r_do, r_ret, r_p0, r_pure, r_cons, r_nil, r_skip, r_modE, r_lst, r_tup, r_if, r_andV, r_orV, r_comp, r_for, r_rng1, r_rng2, r_its, r_zip, r_call, r_gnil, r_gcons, r_glend, r_par2, r_par3, r_nop, r_part, r_sl, r_chain, getv_s, gv_int, gv_bl, gv_str, gv_non, gv_lst, gv_tup, gv_scr, g_some, exists_eq_left, exists_eq_left', Val.int.injEq, Val.bl.injEq, Out.rt.injEq, and_assoc, exists_and_left, g_if, g_ixL, g_ixT, g_ixS, at_0, at_1, at_2, g_lt, g_le, g_gt, g_ge, g_tbl, g_tint, g_tlst, g_ttup, g_div, g_mod, g_mul, g_add, g_sub, g_pow, g_shl, g_shr, g_neg, g_not, g_bl, g_eqi, g_int, g_intb, g_lenL, g_lenT, g_lenS, g_max2, g_min2, no_int, no_bl, g_sum, g_slS, g_rng1, g_rng2, g_itsL, g_itsT, g_eqb, g_nei, g_neb, two_mk, g_IB, is_int, is_bl, is_str, is_non, is_tup, is_lst, it_int, it_bl, it_str, it_non, it_tup, it_lst, mod_nil, fset_0, fset_1, fset_2, pair2_mk, pair3_mk, and_true, true_and, frzs, frz, List.length_map, putAll, List.replicate, Nat.reduceSub, List.cons_append, List.nil_append, List.set_cons_zero, List.set_cons_succ, r_asg]
      refine ⟨rng2_ok (by omega) (by omega) (by omega) (by omega), ?_⟩
      have e1 : (rgs2 ((i : Int) + 1) m).length = m - i - 1 := by unfold rgs2; rw [List.length_map, List.length_range]; omega
      refine (for_run (fun k e => W i (i + 1 + k) (10 * i + k) (.int (i : Int)) e) ?_ ?_).mono ?_
      · exact ⟨B, a6, b6, c6, _, _, _, rfl, hPT.cong fun p q h1 h2 => decide_eq_decide.mpr (by omega), hf6.mono (by omega)⟩
      · rintro k v e hv ⟨B, a7, b7, c7, v10, v11, v12, rfl, hPT, hf7⟩
        obtain ⟨hk0, hv2⟩ := List.getElem?_eq_some_iff.mp hv
        rw [e1] at hk0
        have hvk : v = .int ((i + 1 + k : Nat) : Int) := by rw [← hv2]; simp [rgs2]
        subst hvk
        refine ⟨_, rfl, ?_⟩
        simp (config := { maxSteps := 1000000 }) only [r_tupO, r_pc, r_en, r_augI, r_pS, r_seq, r_ifS, r_tst, r_not, r_and, r_or, r_bin, r_un, r_var, r_frz, r_mov, r_c, r_set, r_st, r_mut, r_do, r_ret, r_p0, r_pure, r_cons, r_nil, r_skip, r_modE, r_lst, r_tup, r_if, r_andV, r_orV, r_comp, r_for, r_rng1, r_rng2, r_its, r_zip, r_call, r_gnil, r_gcons, r_glend, r_par2, r_par3, r_nop, r_part, r_sl, r_chain, getv_s, gv_int, gv_bl, gv_str, gv_non, gv_lst, gv_tup, gv_scr, g_some, exists_eq_left, exists_eq_left', Val.int.injEq, Val.bl.injEq, Out.rt.injEq, and_assoc, exists_and_left, g_if, g_ixL, g_ixT, g_ixS, at_0, at_1, at_2, g_lt, g_le, g_gt, g_ge, g_tbl, g_tint, g_tlst, g_ttup, g_div, g_mod, g_mul, g_add, g_sub, g_pow, g_shl, g_shr, g_neg, g_not, g_bl, g_eqi, g_int, g_intb, g_lenL, g_lenT, g_lenS, g_max2, g_min2, no_int, no_bl, g_sum, g_slS, g_rng1, g_rng2, g_itsL, g_itsT, g_eqb, g_nei, g_neb, two_mk, g_IB, is_int, is_bl, is_str, is_non, is_tup, is_lst, it_int, it_bl, it_str, it_non, it_tup, it_lst, mod_nil, fset_0, fset_1, fset_2, pair2_mk, pair3_mk, and_true, true_and, frzs, frz, List.length_map, putAll, List.replicate, Nat.reduceSub, List.cons_append, List.nil_append, List.set_cons_zero, List.set_cons_succ, r_asg]
        obtain ⟨t, a8, b8, c8, d8, f8⟩ := beats_ok (way := r2) (one := (i : Int)) (other := ((i + 1 + k : Nat) : Int)) (mk := ms) (by omega) hf7 (by omega) (by omega) (by omega) (by omega) hms
        refine call_run d8 rfl rfl ?_
        simp (config := { maxSteps := 1000000 }) only [r_tupO, r_pc, r_en, r_augI, r_pS, r_seq, r_ifS, r_tst, r_not, r_and, r_or, r_bin, r_un, r_var, r_frz, r_mov, r_c, r_set, r_st, r_mut, r_do, r_ret, r_p0, r_pure, r_cons, r_nil, r_skip, r_modE, r_lst, r_tup, r_if, r_andV, r_orV, r_comp, r_for, r_rng1, r_rng2, r_its, r_zip, r_call, r_gnil, r_gcons, r_glend, r_par2, r_par3, r_nop, r_part, r_sl, r_chain, getv_s, gv_int, gv_bl, gv_str, gv_non, gv_lst, gv_tup, gv_scr, g_some, exists_eq_left, exists_eq_left', Val.int.injEq, Val.bl.injEq, Out.rt.injEq, and_assoc, exists_and_left, g_if, g_ixL, g_ixT, g_ixS, at_0, at_1, at_2, g_lt, g_le, g_gt, g_ge, g_tbl, g_tint, g_tlst, g_ttup, g_div, g_mod, g_mul, g_add, g_sub, g_pow, g_shl, g_shr, g_neg, g_not, g_bl, g_eqi, g_int, g_intb, g_lenL, g_lenT, g_lenS, g_max2, g_min2, no_int, no_bl, g_sum, g_slS, g_rng1, g_rng2, g_itsL, g_itsT, g_eqb, g_nei, g_neb, two_mk, g_IB, is_int, is_bl, is_str, is_non, is_tup, is_lst, it_int, it_bl, it_str, it_non, it_tup, it_lst, mod_nil, fset_0, fset_1, fset_2, pair2_mk, pair3_mk, and_true, true_and, frzs, frz, List.length_map, putAll, List.replicate, Nat.reduceSub, List.cons_append, List.nil_append, List.set_cons_zero, List.set_cons_succ, r_asg]
        have core : ∀ (w l : Nat), (w = i ∧ l = i + 1 + k) ∨ (w = i + 1 + k ∧ l = i) → ∃ zw zl : Nat, atI (vi ns) (w : Int) = some (.int (zw : Int)) ∧ atI (vi ns) (l : Int) = some (.int (zl : Int)) ∧ atI (vi (wn B m)) (zw : Int) = some (.int ((mk (B zw) m : Nat) : Int)) ∧ cShl 1 (zl : Int) = true ∧
            fSet [.int (zw : Int), .int (((mk (B zw) m : Nat) : Int) + 1 * 2 ^ (zl : Int).toNat)] (vi (wn B m)) = some (vi (wn (addB B zw zl) m), .non) ∧ PT m nm (fun p q => decide (p < i ∨ (p = i ∧ q < i + 1 + (k + 1)))) (addB B zw zl) := by
          intro w l hwl
          have hwm : w < m := by omega
          have hlm : l < m := by omega
          obtain ⟨zw, ew, hzw, gw⟩ := hnm w hwm
          obtain ⟨zl, el, hzl, gl⟩ := hnm l hlm
          have hD : (fun p q => decide (p < i ∨ (p = i ∧ q < i + 1 + k))) i (i + 1 + k) = false := decide_eq_false (by omega)
          have hun := hPT.un i (i + 1 + k) (by omega) (by omega) hD
          have hB : B zw zl = false := by
            rcases hwl with ⟨rfl, rfl⟩ | ⟨rfl, rfl⟩
            · rw [← ew, ← el]; exact hun.1
            · rw [← ew, ← el]; exact hun.2
          refine ⟨zw, zl, at_vi (at_nat gw), at_vi (at_nat gl), at_vi (at_nat (wn_get hzw)), decide_eq_true ⟨by omega, by rw [show Builtin.Int.intBits 1 = 1 by decide]; omega⟩, ?_, ?_⟩
          · show Option.map (fun j => ((vi (wn B m)).set j _, Val.non)) (ixN (vi (wn B m)).length (zw : Int)) = _
            rw [ixn_nat (by rw [List.length_map, wn_len]; exact hzw)]
            show some (_, Val.non) = _
            rw [← wn_set hzw hzl hB]
            simp [vi, List.map_set]
          · refine hPT.step hin hinj (p := i) (q := i + 1 + k) (by omega) (by omega) hD (fun p q h1 h2 => ?_) ?_
            · rw [Bool.eq_iff_iff]; simp; omega
            · rcases hwl with ⟨rfl, rfl⟩ | ⟨rfl, rfl⟩
              · exact .inl ⟨ew.symm, el.symm⟩
              · exact .inr ⟨ew.symm, el.symm⟩
        cases t with
        | true =>
          obtain ⟨zw, zl, g1, g2, g3, g4, g5, g6⟩ := core i (i + 1 + k) (.inl ⟨rfl, rfl⟩)
          refine ⟨fun _ => ⟨rfl, _, rfl, ?_⟩, fun h => nomatch h⟩
          simp (config := { maxSteps := 1000000 }) only [r_tupO, r_pc, r_en, r_augI, r_pS, r_seq, r_ifS, r_tst, r_not, r_and, r_or, r_bin, r_un, r_var, r_frz, r_mov, r_c, r_set, r_st, r_mut, r_do, r_ret, r_p0, r_pure, r_cons, r_nil, r_skip, r_modE, r_lst, r_tup, r_if, r_andV, r_orV, r_comp, r_for, r_rng1, r_rng2, r_its, r_zip, r_call, r_gnil, r_gcons, r_glend, r_par2, r_par3, r_nop, r_part, r_sl, r_chain, getv_s, gv_int, gv_bl, gv_str, gv_non, gv_lst, gv_tup, gv_scr, g_some, exists_eq_left, exists_eq_left', Val.int.injEq, Val.bl.injEq, Out.rt.injEq, and_assoc, exists_and_left, g_if, g_ixL, g_ixT, g_ixS, at_0, at_1, at_2, g_lt, g_le, g_gt, g_ge, g_tbl, g_tint, g_tlst, g_ttup, g_div, g_mod, g_mul, g_add, g_sub, g_pow, g_shl, g_shr, g_neg, g_not, g_bl, g_eqi, g_int, g_intb, g_lenL, g_lenT, g_lenS, g_max2, g_min2, no_int, no_bl, g_sum, g_slS, g_rng1, g_rng2, g_itsL, g_itsT, g_eqb, g_nei, g_neb, two_mk, g_IB, is_int, is_bl, is_str, is_non, is_tup, is_lst, it_int, it_bl, it_str, it_non, it_tup, it_lst, mod_nil, fset_0, fset_1, fset_2, pair2_mk, pair3_mk, and_true, true_and, frzs, frz, List.length_map, putAll, List.replicate, Nat.reduceSub, List.cons_append, List.nil_append, List.set_cons_zero, List.set_cons_succ, r_asg, g1, g2, g3, g4, g5]
          exact ⟨_, a8, b8, c8, _, _, _, rfl, g6, f8.mono (by omega)⟩
        | false =>
          obtain ⟨zw, zl, g1, g2, g3, g4, g5, g6⟩ := core (i + 1 + k) i (.inr ⟨rfl, rfl⟩)
          refine ⟨fun h => (nomatch h), fun _ => ⟨rfl, _, rfl, ?_⟩⟩
          simp (config := { maxSteps := 1000000 }) only [r_tupO, r_pc, r_en, r_augI, r_pS, r_seq, r_ifS, r_tst, r_not, r_and, r_or, r_bin, r_un, r_var, r_frz, r_mov, r_c, r_set, r_st, r_mut, r_do, r_ret, r_p0, r_pure, r_cons, r_nil, r_skip, r_modE, r_lst, r_tup, r_if, r_andV, r_orV, r_comp, r_for, r_rng1, r_rng2, r_its, r_zip, r_call, r_gnil, r_gcons, r_glend, r_par2, r_par3, r_nop, r_part, r_sl, r_chain, getv_s, gv_int, gv_bl, gv_str, gv_non, gv_lst, gv_tup, gv_scr, g_some, exists_eq_left, exists_eq_left', Val.int.injEq, Val.bl.injEq, Out.rt.injEq, and_assoc, exists_and_left, g_if, g_ixL, g_ixT, g_ixS, at_0, at_1, at_2, g_lt, g_le, g_gt, g_ge, g_tbl, g_tint, g_tlst, g_ttup, g_div, g_mod, g_mul, g_add, g_sub, g_pow, g_shl, g_shr, g_neg, g_not, g_bl, g_eqi, g_int, g_intb, g_lenL, g_lenT, g_lenS, g_max2, g_min2, no_int, no_bl, g_sum, g_slS, g_rng1, g_rng2, g_itsL, g_itsT, g_eqb, g_nei, g_neb, two_mk, g_IB, is_int, is_bl, is_str, is_non, is_tup, is_lst, it_int, it_bl, it_str, it_non, it_tup, it_lst, mod_nil, fset_0, fset_1, fset_2, pair2_mk, pair3_mk, and_true, true_and, frzs, frz, List.length_map, putAll, List.replicate, Nat.reduceSub, List.cons_append, List.nil_append, List.set_cons_zero, List.set_cons_succ, r_asg, g1, g2, g3, g4, g5]
          exact ⟨_, a8, b8, c8, _, _, _, rfl, g6, f8.mono (by omega)⟩
      · rintro oo e ⟨rfl, B, a7, b7, c7, v10, v11, v12, rfl, hPT, hf7⟩
        rw [e1] at hPT hf7
        exact ⟨rfl, _, B, a7, b7, c7, _, _, _, rfl, hPT.cong fun p q h1 h2 => decide_eq_decide.mpr (by omega), hf7.mono (by omega)⟩
    · rintro oo e ⟨rfl, w9, B, a6, b6, c6, w10, w11, w12, rfl, hPT, hf6⟩
      have e0 : (rgs (m : Int).toNat).length = m := by simp [rgs]
      rw [e0] at hPT hf6
      simp only [r_tupO, r_pc, r_en, r_augI, r_pS, r_seq, r_ifS, r_tst, r_not, r_and, r_or, r_bin, r_un, r_var, r_frz, r_mov, r_c, r_set, r_st, r_mut, r_do, r_ret, r_p0, r_pure, r_cons, r_nil, r_skip, r_modE, r_lst, r_tup, r_if, r_andV, r_orV, r_comp, r_for, r_rng1, r_rng2, r_its, r_zip, r_call, r_gnil, r_gcons, r_glend, r_par2, r_par3, r_nop, r_part, r_sl, r_chain, getv_s, gv_int, gv_bl, gv_str, gv_non, gv_lst, gv_tup, gv_scr, g_some, exists_eq_left, exists_eq_left', Val.int.injEq, Val.bl.injEq, Out.rt.injEq, and_assoc, exists_and_left, g_if, g_ixL, g_ixT, g_ixS, at_0, at_1, at_2, g_lt, g_le, g_gt, g_ge, g_tbl, g_tint, g_tlst, g_ttup, g_div, g_mod, g_mul, g_add, g_sub, g_pow, g_shl, g_shr, g_neg, g_not, g_bl, g_eqi, g_int, g_intb, g_lenL, g_lenT, g_lenS, g_max2, g_min2, no_int, no_bl, g_sum, g_slS, g_rng1, g_rng2, g_itsL, g_itsT, g_eqb, g_nei, g_neb, two_mk, g_IB, is_int, is_bl, is_str, is_non, is_tup, is_lst, it_int, it_bl, it_str, it_non, it_tup, it_lst, mod_nil, fset_0, fset_1, fset_2, pair2_mk, pair3_mk, and_true, true_and, frzs, frz, List.length_map, putAll, List.replicate, Nat.reduceSub, List.cons_append, List.nil_append, List.set_cons_zero, List.set_cons_succ]
      have surj : ∀ x, x < m → ∃ p, p < m ∧ nm p = x := fun x hx => by
        have : (x : Int) ∈ ns := hperm.mem_iff.mpr (List.mem_map.mpr ⟨x, List.mem_range.mpr (by omega), rfl⟩)
        obtain ⟨p, hp, hpe⟩ := List.mem_iff_getElem.mp this
        obtain ⟨z, ez, _, gz⟩ := hnm p (by omega)
        refine ⟨p, by omega, ?_⟩
        rw [List.getElem?_eq_getElem hp, hpe] at gz
        have := Option.some.inj gz
        omega
      refine ⟨m, B, rfl, a6, b6, c6, rfl, by omega, by omega, ⟨fun x y hx hy hxy => ?_, hPT.dg, hPT.lt⟩, hf6.mono (by omega)⟩
      obtain ⟨p, hp, rfl⟩ := surj x hx
      obtain ⟨q, hq, rfl⟩ := surj y hy
      rcases Nat.lt_trichotomy p q with hl | hl | hl
      · exact hPT.de p q hl hq (decide_eq_true (.inl hp))
      · exact absurd (by rw [hl]) hxy
      · have := hPT.de q p hl hp (decide_eq_true (.inl hq))
        rw [this]; simp
  · rintro i v acc e hv ⟨ms, a4, b4, c4, rfl, hl, hms, hf4, rfl⟩
    have hi : i < m := by
      have := (List.getElem?_eq_some_iff.mp hv).1
      simpa [rgs] using this
    obtain ⟨r5, a5, b5, c5, d5, r5a, r5b, f5⟩ := draw_ok (m := 4 + 5 * r3) (by omega) hf4 (by omega) (by omega)
    refine ⟨_, rfl, ?_⟩
    rw [r_yes]
    refine ⟨fun _ => ?_, fun h => nomatch h⟩
    simp only [r_tupO, r_pc, r_en, r_augI, r_pS, r_seq, r_ifS, r_tst, r_not, r_and, r_or, r_bin, r_un, r_var, r_frz, r_mov, r_c, r_set, r_st, r_mut, r_do, r_ret, r_p0, r_pure, r_cons, r_nil, r_skip, r_modE, r_lst, r_tup, r_if, r_andV, r_orV, r_comp, r_for, r_rng1, r_rng2, r_its, r_zip, r_call, r_gnil, r_gcons, r_glend, r_par2, r_par3, r_nop, r_part, r_sl, r_chain, getv_s, gv_int, gv_bl, gv_str, gv_non, gv_lst, gv_tup, gv_scr, g_some, exists_eq_left, exists_eq_left', Val.int.injEq, Val.bl.injEq, Out.rt.injEq, and_assoc, exists_and_left, g_if, g_ixL, g_ixT, g_ixS, at_0, at_1, at_2, g_lt, g_le, g_gt, g_ge, g_tbl, g_tint, g_tlst, g_ttup, g_div, g_mod, g_mul, g_add, g_sub, g_pow, g_shl, g_shr, g_neg, g_not, g_bl, g_eqi, g_int, g_intb, g_lenL, g_lenT, g_lenS, g_max2, g_min2, no_int, no_bl, g_sum, g_slS, g_rng1, g_rng2, g_itsL, g_itsT, g_eqb, g_nei, g_neb, two_mk, g_IB, is_int, is_bl, is_str, is_non, is_tup, is_lst, it_int, it_bl, it_str, it_non, it_tup, it_lst, mod_nil, fset_0, fset_1, fset_2, pair2_mk, pair3_mk, and_true, true_and, frzs, frz, List.length_map, putAll, List.replicate, Nat.reduceSub, List.cons_append, List.nil_append, List.set_cons_zero, List.set_cons_succ]
    refine call_run d5 rfl rfl ⟨ms ++ [r5], by rw [show vi (ms ++ [r5]) = vi ms ++ [Val.int r5] from List.map_append ..], by rw [List.length_append, hl]; rfl, fun z hz => ?_, a5, b5, c5, f5.mono (by omega), rfl⟩
    rcases List.mem_append.mp hz with hz | hz
    · exact hms z hz
    · rw [List.mem_singleton.mp hz]; exact ⟨r5a, by omega⟩
end PV.K48

namespace PV.K48
open PySem PySem.Spec PyProof.Rows L2 PV
/-! the program's kinds, on tables -/
theorem is_integer_ok {i : Int} : F_is_integer [.int i] = some (.ok (.bl true), [.int i]) := by
  refine fn_run rfl ?_
  simp only [D_is_integer, r_tupO, r_pc, r_en, r_augI, r_pS, r_seq, r_ifS, r_tst, r_not, r_and, r_or, r_bin, r_un, r_var, r_frz, r_mov, r_c, r_set, r_st, r_mut, r_do, r_ret, r_p0, r_pure, r_cons, r_nil, r_skip, r_modE, r_lst, r_tup, r_if, r_andV, r_orV, r_comp, r_for, r_rng1, r_rng2, r_its, r_zip, r_call, r_gnil, r_gcons, r_glend, r_par2, r_par3, r_nop, r_part, r_sl, r_chain, getv_s, gv_int, gv_bl, gv_str, gv_non, gv_lst, gv_tup, gv_scr, g_some, exists_eq_left, exists_eq_left', Val.int.injEq, Val.bl.injEq, Out.rt.injEq, and_assoc, exists_and_left, g_if, g_ixL, g_ixT, g_ixS, at_0, at_1, at_2, g_lt, g_le, g_gt, g_ge, g_tbl, g_tint, g_tlst, g_ttup, g_div, g_mod, g_mul, g_add, g_sub, g_pow, g_shl, g_shr, g_neg, g_not, g_bl, g_eqi, g_int, g_intb, g_lenL, g_lenT, g_lenS, g_max2, g_min2, no_int, no_bl, g_sum, g_slS, g_rng1, g_rng2, g_itsL, g_itsT, g_eqb, g_nei, g_neb, two_mk, g_IB, is_int, is_bl, is_str, is_non, is_tup, is_lst, it_int, it_bl, it_str, it_non, it_tup, it_lst, mod_nil, fset_0, fset_1, fset_2, pair2_mk, pair3_mk, and_true, true_and, frzs, frz, List.length_map, putAll, List.replicate, Nat.reduceSub, List.cons_append, List.nil_append, List.set_cons_zero, List.set_cons_succ, true_implies, Bool.true_eq_false, Bool.false_eq_true, false_implies, and_true, true_and, Bool.not_true, Bool.not_false, pick, List.getElem?_cons_zero, List.getElem?_cons_succ, List.eraseIdx_cons_zero, List.eraseIdx_cons_succ, Bool.false_and, beq_self_eq_true, decide_true, List.isEmpty_nil, List.isEmpty_cons, wipeE, restE, List.getD_cons_succ, List.getD_cons_zero, List.getD_nil, r_ok, g_allR, List.length_replicate, frzs_vi, frzs_tab, tab_len, wn_len, fins_1, fins_2, fins_3, fins_4, fins_5, isub, Int.toNat_natCast, g_isn, g_isnn, r_callK, g_sorted, g_app, g_isL, isLst_lst, ex_unit, g_addI, own_int, g_enL, g_enT, g_sortU, g_rgL2, g_rgT2, g_eq1, frzs_tl]
theorem is_within_ok {i a b : Int} (h1 : a ≤ i) (h2 : i ≤ b) : F_is_within [.int i, .int a, .int b] = some (.ok (.bl true), [.int i, .int a, .int b]) := by
  refine fn_run rfl ?_
  simp only [D_is_within, r_tupO, r_pc, r_en, r_augI, r_pS, r_seq, r_ifS, r_tst, r_not, r_and, r_or, r_bin, r_un, r_var, r_frz, r_mov, r_c, r_set, r_st, r_mut, r_do, r_ret, r_p0, r_pure, r_cons, r_nil, r_skip, r_modE, r_lst, r_tup, r_if, r_andV, r_orV, r_comp, r_for, r_rng1, r_rng2, r_its, r_zip, r_call, r_gnil, r_gcons, r_glend, r_par2, r_par3, r_nop, r_part, r_sl, r_chain, getv_s, gv_int, gv_bl, gv_str, gv_non, gv_lst, gv_tup, gv_scr, g_some, exists_eq_left, exists_eq_left', Val.int.injEq, Val.bl.injEq, Out.rt.injEq, and_assoc, exists_and_left, g_if, g_ixL, g_ixT, g_ixS, at_0, at_1, at_2, g_lt, g_le, g_gt, g_ge, g_tbl, g_tint, g_tlst, g_ttup, g_div, g_mod, g_mul, g_add, g_sub, g_pow, g_shl, g_shr, g_neg, g_not, g_bl, g_eqi, g_int, g_intb, g_lenL, g_lenT, g_lenS, g_max2, g_min2, no_int, no_bl, g_sum, g_slS, g_rng1, g_rng2, g_itsL, g_itsT, g_eqb, g_nei, g_neb, two_mk, g_IB, is_int, is_bl, is_str, is_non, is_tup, is_lst, it_int, it_bl, it_str, it_non, it_tup, it_lst, mod_nil, fset_0, fset_1, fset_2, pair2_mk, pair3_mk, and_true, true_and, frzs, frz, List.length_map, putAll, List.replicate, Nat.reduceSub, List.cons_append, List.nil_append, List.set_cons_zero, List.set_cons_succ, true_implies, Bool.true_eq_false, Bool.false_eq_true, false_implies, and_true, true_and, Bool.not_true, Bool.not_false, pick, List.getElem?_cons_zero, List.getElem?_cons_succ, List.eraseIdx_cons_zero, List.eraseIdx_cons_succ, Bool.false_and, beq_self_eq_true, decide_true, List.isEmpty_nil, List.isEmpty_cons, wipeE, restE, List.getD_cons_succ, List.getD_cons_zero, List.getD_nil, r_ok, g_allR, List.length_replicate, frzs_vi, frzs_tab, tab_len, wn_len, fins_1, fins_2, fins_3, fins_4, fins_5, isub, Int.toNat_natCast, g_isn, g_isnn, r_callK, g_sorted, g_app, g_isL, isLst_lst, ex_unit, g_addI, own_int, g_enL, g_enT, g_sortU, g_rgL2, g_rgT2, g_eq1, frzs_tl]
  refine call_run is_integer_ok rfl rfl ?_
  simp only [r_tupO, r_pc, r_en, r_augI, r_pS, r_seq, r_ifS, r_tst, r_not, r_and, r_or, r_bin, r_un, r_var, r_frz, r_mov, r_c, r_set, r_st, r_mut, r_do, r_ret, r_p0, r_pure, r_cons, r_nil, r_skip, r_modE, r_lst, r_tup, r_if, r_andV, r_orV, r_comp, r_for, r_rng1, r_rng2, r_its, r_zip, r_call, r_gnil, r_gcons, r_glend, r_par2, r_par3, r_nop, r_part, r_sl, r_chain, getv_s, gv_int, gv_bl, gv_str, gv_non, gv_lst, gv_tup, gv_scr, g_some, exists_eq_left, exists_eq_left', Val.int.injEq, Val.bl.injEq, Out.rt.injEq, and_assoc, exists_and_left, g_if, g_ixL, g_ixT, g_ixS, at_0, at_1, at_2, g_lt, g_le, g_gt, g_ge, g_tbl, g_tint, g_tlst, g_ttup, g_div, g_mod, g_mul, g_add, g_sub, g_pow, g_shl, g_shr, g_neg, g_not, g_bl, g_eqi, g_int, g_intb, g_lenL, g_lenT, g_lenS, g_max2, g_min2, no_int, no_bl, g_sum, g_slS, g_rng1, g_rng2, g_itsL, g_itsT, g_eqb, g_nei, g_neb, two_mk, g_IB, is_int, is_bl, is_str, is_non, is_tup, is_lst, it_int, it_bl, it_str, it_non, it_tup, it_lst, mod_nil, fset_0, fset_1, fset_2, pair2_mk, pair3_mk, and_true, true_and, frzs, frz, List.length_map, putAll, List.replicate, Nat.reduceSub, List.cons_append, List.nil_append, List.set_cons_zero, List.set_cons_succ, true_implies, Bool.true_eq_false, Bool.false_eq_true, false_implies, and_true, true_and, Bool.not_true, Bool.not_false, pick, List.getElem?_cons_zero, List.getElem?_cons_succ, List.eraseIdx_cons_zero, List.eraseIdx_cons_succ, Bool.false_and, beq_self_eq_true, decide_true, List.isEmpty_nil, List.isEmpty_cons, wipeE, restE, List.getD_cons_succ, List.getD_cons_zero, List.getD_nil, r_ok, g_allR, List.length_replicate, frzs_vi, frzs_tab, tab_len, wn_len, fins_1, fins_2, fins_3, fins_4, fins_5, isub, Int.toNat_natCast, g_isn, g_isnn, r_callK, g_sorted, g_app, g_isL, isLst_lst, ex_unit, g_addI, own_int, g_enL, g_enT, g_sortU, g_rgL2, g_rgT2, g_eq1, frzs_tl, decide_eq_true h1, decide_eq_true h2]
  (repeat' first | exact rfl | apply And.intro | (intro h; exact absurd h (by decide)) | intro _)
theorem is_tuple_of_ok {xs : List Val} {a b : Int} (h1 : a ≤ xs.length) (h2 : (xs.length : Int) ≤ b) : F_is_tuple_of [.tup xs, .int a, .int b] = some (.ok (.bl true), [.tup xs, .int a, .int b]) := by
  refine fn_run rfl ?_
  simp only [D_is_tuple_of, r_tupO, r_pc, r_en, r_augI, r_pS, r_seq, r_ifS, r_tst, r_not, r_and, r_or, r_bin, r_un, r_var, r_frz, r_mov, r_c, r_set, r_st, r_mut, r_do, r_ret, r_p0, r_pure, r_cons, r_nil, r_skip, r_modE, r_lst, r_tup, r_if, r_andV, r_orV, r_comp, r_for, r_rng1, r_rng2, r_its, r_zip, r_call, r_gnil, r_gcons, r_glend, r_par2, r_par3, r_nop, r_part, r_sl, r_chain, getv_s, gv_int, gv_bl, gv_str, gv_non, gv_lst, gv_tup, gv_scr, g_some, exists_eq_left, exists_eq_left', Val.int.injEq, Val.bl.injEq, Out.rt.injEq, and_assoc, exists_and_left, g_if, g_ixL, g_ixT, g_ixS, at_0, at_1, at_2, g_lt, g_le, g_gt, g_ge, g_tbl, g_tint, g_tlst, g_ttup, g_div, g_mod, g_mul, g_add, g_sub, g_pow, g_shl, g_shr, g_neg, g_not, g_bl, g_eqi, g_int, g_intb, g_lenL, g_lenT, g_lenS, g_max2, g_min2, no_int, no_bl, g_sum, g_slS, g_rng1, g_rng2, g_itsL, g_itsT, g_eqb, g_nei, g_neb, two_mk, g_IB, is_int, is_bl, is_str, is_non, is_tup, is_lst, it_int, it_bl, it_str, it_non, it_tup, it_lst, mod_nil, fset_0, fset_1, fset_2, pair2_mk, pair3_mk, and_true, true_and, frzs, frz, List.length_map, putAll, List.replicate, Nat.reduceSub, List.cons_append, List.nil_append, List.set_cons_zero, List.set_cons_succ, true_implies, Bool.true_eq_false, Bool.false_eq_true, false_implies, and_true, true_and, Bool.not_true, Bool.not_false, pick, List.getElem?_cons_zero, List.getElem?_cons_succ, List.eraseIdx_cons_zero, List.eraseIdx_cons_succ, Bool.false_and, beq_self_eq_true, decide_true, List.isEmpty_nil, List.isEmpty_cons, wipeE, restE, List.getD_cons_succ, List.getD_cons_zero, List.getD_nil, r_ok, g_allR, List.length_replicate, frzs_vi, frzs_tab, tab_len, wn_len, fins_1, fins_2, fins_3, fins_4, fins_5, isub, Int.toNat_natCast, g_isn, g_isnn, r_callK, g_sorted, g_app, g_isL, isLst_lst, ex_unit, g_addI, own_int, g_enL, g_enT, g_sortU, g_rgL2, g_rgT2, g_eq1, frzs_tl, decide_eq_true h1, decide_eq_true h2]
  (repeat' first | exact rfl | apply And.intro | (intro h; exact absurd h (by decide)) | intro _)
theorem is_rising_ok {xs : List Int} (h : xs.Pairwise (· < ·)) (hl : xs.length ≤ 1000) : F_is_rising [.tup (vi xs)] = some (.ok (.bl true), [.tup (vi xs)]) := by
  refine fn_run rfl ?_
  simp only [D_is_rising, r_tupO, r_pc, r_en, r_augI, r_pS, r_seq, r_ifS, r_tst, r_not, r_and, r_or, r_bin, r_un, r_var, r_frz, r_mov, r_c, r_set, r_st, r_mut, r_do, r_ret, r_p0, r_pure, r_cons, r_nil, r_skip, r_modE, r_lst, r_tup, r_if, r_andV, r_orV, r_comp, r_for, r_rng1, r_rng2, r_its, r_zip, r_call, r_gnil, r_gcons, r_glend, r_par2, r_par3, r_nop, r_part, r_sl, r_chain, getv_s, gv_int, gv_bl, gv_str, gv_non, gv_lst, gv_tup, gv_scr, g_some, exists_eq_left, exists_eq_left', Val.int.injEq, Val.bl.injEq, Out.rt.injEq, and_assoc, exists_and_left, g_if, g_ixL, g_ixT, g_ixS, at_0, at_1, at_2, g_lt, g_le, g_gt, g_ge, g_tbl, g_tint, g_tlst, g_ttup, g_div, g_mod, g_mul, g_add, g_sub, g_pow, g_shl, g_shr, g_neg, g_not, g_bl, g_eqi, g_int, g_intb, g_lenL, g_lenT, g_lenS, g_max2, g_min2, no_int, no_bl, g_sum, g_slS, g_rng1, g_rng2, g_itsL, g_itsT, g_eqb, g_nei, g_neb, two_mk, g_IB, is_int, is_bl, is_str, is_non, is_tup, is_lst, it_int, it_bl, it_str, it_non, it_tup, it_lst, mod_nil, fset_0, fset_1, fset_2, pair2_mk, pair3_mk, and_true, true_and, frzs, frz, List.length_map, putAll, List.replicate, Nat.reduceSub, List.cons_append, List.nil_append, List.set_cons_zero, List.set_cons_succ, true_implies, Bool.true_eq_false, Bool.false_eq_true, false_implies, and_true, true_and, Bool.not_true, Bool.not_false, pick, List.getElem?_cons_zero, List.getElem?_cons_succ, List.eraseIdx_cons_zero, List.eraseIdx_cons_succ, Bool.false_and, beq_self_eq_true, decide_true, List.isEmpty_nil, List.isEmpty_cons, wipeE, restE, List.getD_cons_succ, List.getD_cons_zero, List.getD_nil, r_ok, g_allR, List.length_replicate, frzs_vi, frzs_tab, tab_len, wn_len, fins_1, fins_2, fins_3, fins_4, fins_5, isub, Int.toNat_natCast, g_isn, g_isnn, r_callK, g_sorted, g_app, g_isL, isLst_lst, ex_unit, g_addI, own_int, g_enL, g_enT, g_sortU, g_rgL2, g_rgT2, g_eq1, frzs_tl, g_slT, cut_from1, g_zipT, frzs_vi, vi_drop, zip_vi]
  refine ⟨owns_vi _, ?_⟩
  rw [comp_all fun v hv => ?_]
  · refine ⟨decide_eq_true (by rw [List.length_replicate, List.length_map, List.length_zip]; omega), _, g_allR, rfl, rfl⟩
  · obtain ⟨⟨a, b⟩, hab, rfl⟩ := List.mem_map.mp hv
    refine ⟨_, rfl, ?_⟩
    have hlt : a < b := by
      obtain ⟨i, hi, e⟩ := List.mem_iff_getElem.mp hab
      rw [List.getElem_zip] at e
      cases e
      rw [List.getElem_drop]
      rw [List.length_zip, List.length_drop] at hi
      exact List.pairwise_iff_getElem.mp h i (1 + i) (by omega) (by omega) (by omega)
    simp only [r_tupO, r_pc, r_en, r_augI, r_pS, r_seq, r_ifS, r_tst, r_not, r_and, r_or, r_bin, r_un, r_var, r_frz, r_mov, r_c, r_set, r_st, r_mut, r_do, r_ret, r_p0, r_pure, r_cons, r_nil, r_skip, r_modE, r_lst, r_tup, r_if, r_andV, r_orV, r_comp, r_for, r_rng1, r_rng2, r_its, r_zip, r_call, r_gnil, r_gcons, r_glend, r_par2, r_par3, r_nop, r_part, r_sl, r_chain, getv_s, gv_int, gv_bl, gv_str, gv_non, gv_lst, gv_tup, gv_scr, g_some, exists_eq_left, exists_eq_left', Val.int.injEq, Val.bl.injEq, Out.rt.injEq, and_assoc, exists_and_left, g_if, g_ixL, g_ixT, g_ixS, at_0, at_1, at_2, g_lt, g_le, g_gt, g_ge, g_tbl, g_tint, g_tlst, g_ttup, g_div, g_mod, g_mul, g_add, g_sub, g_pow, g_shl, g_shr, g_neg, g_not, g_bl, g_eqi, g_int, g_intb, g_lenL, g_lenT, g_lenS, g_max2, g_min2, no_int, no_bl, g_sum, g_slS, g_rng1, g_rng2, g_itsL, g_itsT, g_eqb, g_nei, g_neb, two_mk, g_IB, is_int, is_bl, is_str, is_non, is_tup, is_lst, it_int, it_bl, it_str, it_non, it_tup, it_lst, mod_nil, fset_0, fset_1, fset_2, pair2_mk, pair3_mk, and_true, true_and, frzs, frz, List.length_map, putAll, List.replicate, Nat.reduceSub, List.cons_append, List.nil_append, List.set_cons_zero, List.set_cons_succ, true_implies, Bool.true_eq_false, Bool.false_eq_true, false_implies, and_true, true_and, Bool.not_true, Bool.not_false, pick, List.getElem?_cons_zero, List.getElem?_cons_succ, List.eraseIdx_cons_zero, List.eraseIdx_cons_succ, Bool.false_and, beq_self_eq_true, decide_true, List.isEmpty_nil, List.isEmpty_cons, wipeE, restE, List.getD_cons_succ, List.getD_cons_zero, List.getD_nil, r_ok, g_allR, List.length_replicate, frzs_vi, frzs_tab, tab_len, wn_len, fins_1, fins_2, fins_3, fins_4, fins_5, isub, Int.toNat_natCast, g_isn, g_isnn, r_callK, g_sorted, g_app, g_isL, isLst_lst, ex_unit, g_addI, own_int, g_enL, g_enT, g_sortU, g_rgL2, g_rgT2, g_eq1, frzs_tl, decide_eq_true hlt]
theorem is_lot_ok {xs : List Int} {m : Int} (h : xs.Pairwise (· < ·)) (h2 : ∀ z ∈ xs, 0 ≤ z ∧ z < m) (hl : xs.length ≤ 1000) : F_is_lot [.tup (vi xs), .int m] = some (.ok (.bl true), [.tup (vi xs), .int m]) := by
  refine fn_run rfl ?_
  simp only [D_is_lot, r_tupO, r_pc, r_en, r_augI, r_pS, r_seq, r_ifS, r_tst, r_not, r_and, r_or, r_bin, r_un, r_var, r_frz, r_mov, r_c, r_set, r_st, r_mut, r_do, r_ret, r_p0, r_pure, r_cons, r_nil, r_skip, r_modE, r_lst, r_tup, r_if, r_andV, r_orV, r_comp, r_for, r_rng1, r_rng2, r_its, r_zip, r_call, r_gnil, r_gcons, r_glend, r_par2, r_par3, r_nop, r_part, r_sl, r_chain, getv_s, gv_int, gv_bl, gv_str, gv_non, gv_lst, gv_tup, gv_scr, g_some, exists_eq_left, exists_eq_left', Val.int.injEq, Val.bl.injEq, Out.rt.injEq, and_assoc, exists_and_left, g_if, g_ixL, g_ixT, g_ixS, at_0, at_1, at_2, g_lt, g_le, g_gt, g_ge, g_tbl, g_tint, g_tlst, g_ttup, g_div, g_mod, g_mul, g_add, g_sub, g_pow, g_shl, g_shr, g_neg, g_not, g_bl, g_eqi, g_int, g_intb, g_lenL, g_lenT, g_lenS, g_max2, g_min2, no_int, no_bl, g_sum, g_slS, g_rng1, g_rng2, g_itsL, g_itsT, g_eqb, g_nei, g_neb, two_mk, g_IB, is_int, is_bl, is_str, is_non, is_tup, is_lst, it_int, it_bl, it_str, it_non, it_tup, it_lst, mod_nil, fset_0, fset_1, fset_2, pair2_mk, pair3_mk, and_true, true_and, frzs, frz, List.length_map, putAll, List.replicate, Nat.reduceSub, List.cons_append, List.nil_append, List.set_cons_zero, List.set_cons_succ, true_implies, Bool.true_eq_false, Bool.false_eq_true, false_implies, and_true, true_and, Bool.not_true, Bool.not_false, pick, List.getElem?_cons_zero, List.getElem?_cons_succ, List.eraseIdx_cons_zero, List.eraseIdx_cons_succ, Bool.false_and, beq_self_eq_true, decide_true, List.isEmpty_nil, List.isEmpty_cons, wipeE, restE, List.getD_cons_succ, List.getD_cons_zero, List.getD_nil, r_ok, g_allR, List.length_replicate, frzs_vi, frzs_tab, tab_len, wn_len, fins_1, fins_2, fins_3, fins_4, fins_5, isub, Int.toNat_natCast, g_isn, g_isnn, r_callK, g_sorted, g_app, g_isL, isLst_lst, ex_unit, g_addI, own_int, g_enL, g_enT, g_sortU, g_rgL2, g_rgT2, g_eq1, frzs_tl, frzs_vi, show isSub "tuple" "tuple" = true from rfl]
  rw [comp_all fun v hv => ?_]
  · simp only [r_tupO, r_pc, r_en, r_augI, r_pS, r_seq, r_ifS, r_tst, r_not, r_and, r_or, r_bin, r_un, r_var, r_frz, r_mov, r_c, r_set, r_st, r_mut, r_do, r_ret, r_p0, r_pure, r_cons, r_nil, r_skip, r_modE, r_lst, r_tup, r_if, r_andV, r_orV, r_comp, r_for, r_rng1, r_rng2, r_its, r_zip, r_call, r_gnil, r_gcons, r_glend, r_par2, r_par3, r_nop, r_part, r_sl, r_chain, getv_s, gv_int, gv_bl, gv_str, gv_non, gv_lst, gv_tup, gv_scr, g_some, exists_eq_left, exists_eq_left', Val.int.injEq, Val.bl.injEq, Out.rt.injEq, and_assoc, exists_and_left, g_if, g_ixL, g_ixT, g_ixS, at_0, at_1, at_2, g_lt, g_le, g_gt, g_ge, g_tbl, g_tint, g_tlst, g_ttup, g_div, g_mod, g_mul, g_add, g_sub, g_pow, g_shl, g_shr, g_neg, g_not, g_bl, g_eqi, g_int, g_intb, g_lenL, g_lenT, g_lenS, g_max2, g_min2, no_int, no_bl, g_sum, g_slS, g_rng1, g_rng2, g_itsL, g_itsT, g_eqb, g_nei, g_neb, two_mk, g_IB, is_int, is_bl, is_str, is_non, is_tup, is_lst, it_int, it_bl, it_str, it_non, it_tup, it_lst, mod_nil, fset_0, fset_1, fset_2, pair2_mk, pair3_mk, and_true, true_and, frzs, frz, List.length_map, putAll, List.replicate, Nat.reduceSub, List.cons_append, List.nil_append, List.set_cons_zero, List.set_cons_succ, true_implies, Bool.true_eq_false, Bool.false_eq_true, false_implies, and_true, true_and, Bool.not_true, Bool.not_false, pick, List.getElem?_cons_zero, List.getElem?_cons_succ, List.eraseIdx_cons_zero, List.eraseIdx_cons_succ, Bool.false_and, beq_self_eq_true, decide_true, List.isEmpty_nil, List.isEmpty_cons, wipeE, restE, List.getD_cons_succ, List.getD_cons_zero, List.getD_nil, r_ok, g_allR, List.length_replicate, frzs_vi, frzs_tab, tab_len, wn_len, fins_1, fins_2, fins_3, fins_4, fins_5, isub, Int.toNat_natCast, g_isn, g_isnn, r_callK, g_sorted, g_app, g_isL, isLst_lst, ex_unit, g_addI, own_int, g_enL, g_enT, g_sortU, g_rgL2, g_rgT2, g_eq1, frzs_tl, g_allR, restE]
    exact ⟨decide_eq_true (by omega), call_run (is_rising_ok h hl) rfl rfl ⟨rfl, rfl⟩⟩
  · obtain ⟨z, hz, rfl⟩ := List.mem_map.mp hv
    obtain ⟨z1, z2⟩ := h2 z hz
    refine ⟨_, rfl, ?_⟩
    simp only [r_tupO, r_pc, r_en, r_augI, r_pS, r_seq, r_ifS, r_tst, r_not, r_and, r_or, r_bin, r_un, r_var, r_frz, r_mov, r_c, r_set, r_st, r_mut, r_do, r_ret, r_p0, r_pure, r_cons, r_nil, r_skip, r_modE, r_lst, r_tup, r_if, r_andV, r_orV, r_comp, r_for, r_rng1, r_rng2, r_its, r_zip, r_call, r_gnil, r_gcons, r_glend, r_par2, r_par3, r_nop, r_part, r_sl, r_chain, getv_s, gv_int, gv_bl, gv_str, gv_non, gv_lst, gv_tup, gv_scr, g_some, exists_eq_left, exists_eq_left', Val.int.injEq, Val.bl.injEq, Out.rt.injEq, and_assoc, exists_and_left, g_if, g_ixL, g_ixT, g_ixS, at_0, at_1, at_2, g_lt, g_le, g_gt, g_ge, g_tbl, g_tint, g_tlst, g_ttup, g_div, g_mod, g_mul, g_add, g_sub, g_pow, g_shl, g_shr, g_neg, g_not, g_bl, g_eqi, g_int, g_intb, g_lenL, g_lenT, g_lenS, g_max2, g_min2, no_int, no_bl, g_sum, g_slS, g_rng1, g_rng2, g_itsL, g_itsT, g_eqb, g_nei, g_neb, two_mk, g_IB, is_int, is_bl, is_str, is_non, is_tup, is_lst, it_int, it_bl, it_str, it_non, it_tup, it_lst, mod_nil, fset_0, fset_1, fset_2, pair2_mk, pair3_mk, and_true, true_and, frzs, frz, List.length_map, putAll, List.replicate, Nat.reduceSub, List.cons_append, List.nil_append, List.set_cons_zero, List.set_cons_succ, true_implies, Bool.true_eq_false, Bool.false_eq_true, false_implies, and_true, true_and, Bool.not_true, Bool.not_false, pick, List.getElem?_cons_zero, List.getElem?_cons_succ, List.eraseIdx_cons_zero, List.eraseIdx_cons_succ, Bool.false_and, beq_self_eq_true, decide_true, List.isEmpty_nil, List.isEmpty_cons, wipeE, restE, List.getD_cons_succ, List.getD_cons_zero, List.getD_nil, r_ok, g_allR, List.length_replicate, frzs_vi, frzs_tab, tab_len, wn_len, fins_1, fins_2, fins_3, fins_4, fins_5, isub, Int.toNat_natCast, g_isn, g_isnn, r_callK, g_sorted, g_app, g_isL, isLst_lst, ex_unit, g_addI, own_int, g_enL, g_enT, g_sortU, g_rgL2, g_rgT2, g_eq1, frzs_tl]
    exact call_run (is_within_ok z1 (by omega)) rfl rfl ⟨rfl, rfl⟩
theorem is_table_form_ok {B : Nat → Nat → Bool} {m : Nat} (hm : m ≤ 8) (hT : Tour B m) : F_is_table_form [.tup (tabV B m)] = some (.ok (.bl true), [.tup (tabV B m)]) := by
  refine fn_run rfl ?_
  simp only [D_is_table_form, r_tupO, r_pc, r_en, r_augI, r_pS, r_seq, r_ifS, r_tst, r_not, r_and, r_or, r_bin, r_un, r_var, r_frz, r_mov, r_c, r_set, r_st, r_mut, r_do, r_ret, r_p0, r_pure, r_cons, r_nil, r_skip, r_modE, r_lst, r_tup, r_if, r_andV, r_orV, r_comp, r_for, r_rng1, r_rng2, r_its, r_zip, r_call, r_gnil, r_gcons, r_glend, r_par2, r_par3, r_nop, r_part, r_sl, r_chain, getv_s, gv_int, gv_bl, gv_str, gv_non, gv_lst, gv_tup, gv_scr, g_some, exists_eq_left, exists_eq_left', Val.int.injEq, Val.bl.injEq, Out.rt.injEq, and_assoc, exists_and_left, g_if, g_ixL, g_ixT, g_ixS, at_0, at_1, at_2, g_lt, g_le, g_gt, g_ge, g_tbl, g_tint, g_tlst, g_ttup, g_div, g_mod, g_mul, g_add, g_sub, g_pow, g_shl, g_shr, g_neg, g_not, g_bl, g_eqi, g_int, g_intb, g_lenL, g_lenT, g_lenS, g_max2, g_min2, no_int, no_bl, g_sum, g_slS, g_rng1, g_rng2, g_itsL, g_itsT, g_eqb, g_nei, g_neb, two_mk, g_IB, is_int, is_bl, is_str, is_non, is_tup, is_lst, it_int, it_bl, it_str, it_non, it_tup, it_lst, mod_nil, fset_0, fset_1, fset_2, pair2_mk, pair3_mk, and_true, true_and, frzs, frz, List.length_map, putAll, List.replicate, Nat.reduceSub, List.cons_append, List.nil_append, List.set_cons_zero, List.set_cons_succ, true_implies, Bool.true_eq_false, Bool.false_eq_true, false_implies, and_true, true_and, Bool.not_true, Bool.not_false, pick, List.getElem?_cons_zero, List.getElem?_cons_succ, List.eraseIdx_cons_zero, List.eraseIdx_cons_succ, Bool.false_and, beq_self_eq_true, decide_true, List.isEmpty_nil, List.isEmpty_cons, wipeE, restE, List.getD_cons_succ, List.getD_cons_zero, List.getD_nil, r_ok, g_allR, List.length_replicate, frzs_vi, frzs_tab, tab_len, wn_len, fins_1, fins_2, fins_3, fins_4, fins_5, isub, Int.toNat_natCast, g_isn, g_isnn, r_callK, g_sorted, g_app, g_isL, isLst_lst, ex_unit, g_addI, own_int, g_enL, g_enT, g_sortU, g_rgL2, g_rgT2, g_eq1, frzs_tl]
  refine call_run (is_tuple_of_ok (by rw [tab_len]; omega) (by rw [tab_len]; omega)) rfl rfl ?_
  simp only [r_tupO, r_pc, r_en, r_augI, r_pS, r_seq, r_ifS, r_tst, r_not, r_and, r_or, r_bin, r_un, r_var, r_frz, r_mov, r_c, r_set, r_st, r_mut, r_do, r_ret, r_p0, r_pure, r_cons, r_nil, r_skip, r_modE, r_lst, r_tup, r_if, r_andV, r_orV, r_comp, r_for, r_rng1, r_rng2, r_its, r_zip, r_call, r_gnil, r_gcons, r_glend, r_par2, r_par3, r_nop, r_part, r_sl, r_chain, getv_s, gv_int, gv_bl, gv_str, gv_non, gv_lst, gv_tup, gv_scr, g_some, exists_eq_left, exists_eq_left', Val.int.injEq, Val.bl.injEq, Out.rt.injEq, and_assoc, exists_and_left, g_if, g_ixL, g_ixT, g_ixS, at_0, at_1, at_2, g_lt, g_le, g_gt, g_ge, g_tbl, g_tint, g_tlst, g_ttup, g_div, g_mod, g_mul, g_add, g_sub, g_pow, g_shl, g_shr, g_neg, g_not, g_bl, g_eqi, g_int, g_intb, g_lenL, g_lenT, g_lenS, g_max2, g_min2, no_int, no_bl, g_sum, g_slS, g_rng1, g_rng2, g_itsL, g_itsT, g_eqb, g_nei, g_neb, two_mk, g_IB, is_int, is_bl, is_str, is_non, is_tup, is_lst, it_int, it_bl, it_str, it_non, it_tup, it_lst, mod_nil, fset_0, fset_1, fset_2, pair2_mk, pair3_mk, and_true, true_and, frzs, frz, List.length_map, putAll, List.replicate, Nat.reduceSub, List.cons_append, List.nil_append, List.set_cons_zero, List.set_cons_succ, true_implies, Bool.true_eq_false, Bool.false_eq_true, false_implies, and_true, true_and, Bool.not_true, Bool.not_false, pick, List.getElem?_cons_zero, List.getElem?_cons_succ, List.eraseIdx_cons_zero, List.eraseIdx_cons_succ, Bool.false_and, beq_self_eq_true, decide_true, List.isEmpty_nil, List.isEmpty_cons, wipeE, restE, List.getD_cons_succ, List.getD_cons_zero, List.getD_nil, r_ok, g_allR, List.length_replicate, frzs_vi, frzs_tab, tab_len, wn_len, fins_1, fins_2, fins_3, fins_4, fins_5, isub, Int.toNat_natCast, g_isn, g_isnn, r_callK, g_sorted, g_app, g_isL, isLst_lst, ex_unit, g_addI, own_int, g_enL, g_enT, g_sortU, g_rgL2, g_rgT2, g_eq1, frzs_tl, frzs_tab]
  rw [comp_all fun v hv => ?_]
  · simp only [r_tupO, r_pc, r_en, r_augI, r_pS, r_seq, r_ifS, r_tst, r_not, r_and, r_or, r_bin, r_un, r_var, r_frz, r_mov, r_c, r_set, r_st, r_mut, r_do, r_ret, r_p0, r_pure, r_cons, r_nil, r_skip, r_modE, r_lst, r_tup, r_if, r_andV, r_orV, r_comp, r_for, r_rng1, r_rng2, r_its, r_zip, r_call, r_gnil, r_gcons, r_glend, r_par2, r_par3, r_nop, r_part, r_sl, r_chain, getv_s, gv_int, gv_bl, gv_str, gv_non, gv_lst, gv_tup, gv_scr, g_some, exists_eq_left, exists_eq_left', Val.int.injEq, Val.bl.injEq, Out.rt.injEq, and_assoc, exists_and_left, g_if, g_ixL, g_ixT, g_ixS, at_0, at_1, at_2, g_lt, g_le, g_gt, g_ge, g_tbl, g_tint, g_tlst, g_ttup, g_div, g_mod, g_mul, g_add, g_sub, g_pow, g_shl, g_shr, g_neg, g_not, g_bl, g_eqi, g_int, g_intb, g_lenL, g_lenT, g_lenS, g_max2, g_min2, no_int, no_bl, g_sum, g_slS, g_rng1, g_rng2, g_itsL, g_itsT, g_eqb, g_nei, g_neb, two_mk, g_IB, is_int, is_bl, is_str, is_non, is_tup, is_lst, it_int, it_bl, it_str, it_non, it_tup, it_lst, mod_nil, fset_0, fset_1, fset_2, pair2_mk, pair3_mk, and_true, true_and, frzs, frz, List.length_map, putAll, List.replicate, Nat.reduceSub, List.cons_append, List.nil_append, List.set_cons_zero, List.set_cons_succ, true_implies, Bool.true_eq_false, Bool.false_eq_true, false_implies, and_true, true_and, Bool.not_true, Bool.not_false, pick, List.getElem?_cons_zero, List.getElem?_cons_succ, List.eraseIdx_cons_zero, List.eraseIdx_cons_succ, Bool.false_and, beq_self_eq_true, decide_true, List.isEmpty_nil, List.isEmpty_cons, wipeE, restE, List.getD_cons_succ, List.getD_cons_zero, List.getD_nil, r_ok, g_allR, List.length_replicate, frzs_vi, frzs_tab, tab_len, wn_len, fins_1, fins_2, fins_3, fins_4, fins_5, isub, Int.toNat_natCast, g_isn, g_isnn, r_callK, g_sorted, g_app, g_isL, isLst_lst, ex_unit, g_addI, own_int, g_enL, g_enT, g_sortU, g_rgL2, g_rgT2, g_eq1, frzs_tl, g_allR, restE, tab_len]
    refine ⟨decide_eq_true (by omega), decide_eq_true (by omega), ?_⟩
    refine (for_run (fun i e => ∃ w1 w2 w3, e = [.tup (tabV B m), w1, w2, w3]) ⟨_, _, _, rfl⟩ ?_).mono ?_
    · rintro i v e hv ⟨w1, w2, w3, rfl⟩
      obtain ⟨hi0, hv2⟩ := List.getElem?_eq_some_iff.mp hv
      have hi : i < m := by simpa [rgs] using hi0
      have hvi : v = .int (i : Int) := by rw [← hv2]; simp [rgs]
      subst hvi
      refine ⟨_, rfl, ?_⟩
      simp only [r_tupO, r_pc, r_en, r_augI, r_pS, r_seq, r_ifS, r_tst, r_not, r_and, r_or, r_bin, r_un, r_var, r_frz, r_mov, r_c, r_set, r_st, r_mut, r_do, r_ret, r_p0, r_pure, r_cons, r_nil, r_skip, r_modE, r_lst, r_tup, r_if, r_andV, r_orV, r_comp, r_for, r_rng1, r_rng2, r_its, r_zip, r_call, r_gnil, r_gcons, r_glend, r_par2, r_par3, r_nop, r_part, r_sl, r_chain, getv_s, gv_int, gv_bl, gv_str, gv_non, gv_lst, gv_tup, gv_scr, g_some, exists_eq_left, exists_eq_left', Val.int.injEq, Val.bl.injEq, Out.rt.injEq, and_assoc, exists_and_left, g_if, g_ixL, g_ixT, g_ixS, at_0, at_1, at_2, g_lt, g_le, g_gt, g_ge, g_tbl, g_tint, g_tlst, g_ttup, g_div, g_mod, g_mul, g_add, g_sub, g_pow, g_shl, g_shr, g_neg, g_not, g_bl, g_eqi, g_int, g_intb, g_lenL, g_lenT, g_lenS, g_max2, g_min2, no_int, no_bl, g_sum, g_slS, g_rng1, g_rng2, g_itsL, g_itsT, g_eqb, g_nei, g_neb, two_mk, g_IB, is_int, is_bl, is_str, is_non, is_tup, is_lst, it_int, it_bl, it_str, it_non, it_tup, it_lst, mod_nil, fset_0, fset_1, fset_2, pair2_mk, pair3_mk, and_true, true_and, frzs, frz, List.length_map, putAll, List.replicate, Nat.reduceSub, List.cons_append, List.nil_append, List.set_cons_zero, List.set_cons_succ, true_implies, Bool.true_eq_false, Bool.false_eq_true, false_implies, and_true, true_and, Bool.not_true, Bool.not_false, pick, List.getElem?_cons_zero, List.getElem?_cons_succ, List.eraseIdx_cons_zero, List.eraseIdx_cons_succ, Bool.false_and, beq_self_eq_true, decide_true, List.isEmpty_nil, List.isEmpty_cons, wipeE, restE, List.getD_cons_succ, List.getD_cons_zero, List.getD_nil, r_ok, g_allR, List.length_replicate, frzs_vi, frzs_tab, tab_len, wn_len, fins_1, fins_2, fins_3, fins_4, fins_5, isub, Int.toNat_natCast, g_isn, g_isnn, r_callK, g_sorted, g_app, g_isL, isLst_lst, ex_unit, g_addI, own_int, g_enL, g_enT, g_sortU, g_rgL2, g_rgT2, g_eq1, frzs_tl, tab_at hi, g_inVi, mem_lotN hi, hT.2.1 i, tab_len]
      refine ⟨rng2_ok (by omega) (by omega) (by omega) (by omega), ?_⟩
      refine (for_run (fun k e => ∃ w2 w3, e = [.tup (tabV B m), .int (i : Int), w2, w3]) ⟨_, _, rfl⟩ ?_).mono ?_
      · rintro k v e hv ⟨w2, w3, rfl⟩
        obtain ⟨hk0, hv2⟩ := List.getElem?_eq_some_iff.mp hv
        have e1 : (rgs2 ((i : Int) + 1) m).length = m - i - 1 := by unfold rgs2; rw [List.length_map, List.length_range]; omega
        rw [e1] at hk0
        have hvk : v = .int ((i + 1 + k : Nat) : Int) := by rw [← hv2]; simp [rgs2]
        subst hvk
        refine ⟨_, rfl, ?_⟩
        have hk : i + 1 + k < m := by omega
        simp only [r_tupO, r_pc, r_en, r_augI, r_pS, r_seq, r_ifS, r_tst, r_not, r_and, r_or, r_bin, r_un, r_var, r_frz, r_mov, r_c, r_set, r_st, r_mut, r_do, r_ret, r_p0, r_pure, r_cons, r_nil, r_skip, r_modE, r_lst, r_tup, r_if, r_andV, r_orV, r_comp, r_for, r_rng1, r_rng2, r_its, r_zip, r_call, r_gnil, r_gcons, r_glend, r_par2, r_par3, r_nop, r_part, r_sl, r_chain, getv_s, gv_int, gv_bl, gv_str, gv_non, gv_lst, gv_tup, gv_scr, g_some, exists_eq_left, exists_eq_left', Val.int.injEq, Val.bl.injEq, Out.rt.injEq, and_assoc, exists_and_left, g_if, g_ixL, g_ixT, g_ixS, at_0, at_1, at_2, g_lt, g_le, g_gt, g_ge, g_tbl, g_tint, g_tlst, g_ttup, g_div, g_mod, g_mul, g_add, g_sub, g_pow, g_shl, g_shr, g_neg, g_not, g_bl, g_eqi, g_int, g_intb, g_lenL, g_lenT, g_lenS, g_max2, g_min2, no_int, no_bl, g_sum, g_slS, g_rng1, g_rng2, g_itsL, g_itsT, g_eqb, g_nei, g_neb, two_mk, g_IB, is_int, is_bl, is_str, is_non, is_tup, is_lst, it_int, it_bl, it_str, it_non, it_tup, it_lst, mod_nil, fset_0, fset_1, fset_2, pair2_mk, pair3_mk, and_true, true_and, frzs, frz, List.length_map, putAll, List.replicate, Nat.reduceSub, List.cons_append, List.nil_append, List.set_cons_zero, List.set_cons_succ, true_implies, Bool.true_eq_false, Bool.false_eq_true, false_implies, and_true, true_and, Bool.not_true, Bool.not_false, pick, List.getElem?_cons_zero, List.getElem?_cons_succ, List.eraseIdx_cons_zero, List.eraseIdx_cons_succ, Bool.false_and, beq_self_eq_true, decide_true, List.isEmpty_nil, List.isEmpty_cons, wipeE, restE, List.getD_cons_succ, List.getD_cons_zero, List.getD_nil, r_ok, g_allR, List.length_replicate, frzs_vi, frzs_tab, tab_len, wn_len, fins_1, fins_2, fins_3, fins_4, fins_5, isub, Int.toNat_natCast, g_isn, g_isnn, r_callK, g_sorted, g_app, g_isL, isLst_lst, ex_unit, g_addI, own_int, g_enL, g_enT, g_sortU, g_rgL2, g_rgT2, g_eq1, frzs_tl, tab_at hi, tab_at hk, g_inVi, mem_lotN hi, mem_lotN hk]
        have := hT.1 i (i + 1 + k) hi hk (by omega)
        refine ⟨fun h => ?_, fun _ => ⟨_, _, rfl⟩⟩
        rw [this] at h
        cases hb : B (i + 1 + k) i <;> rw [hb] at h <;> cases h
      · rintro o e ⟨rfl, w2, w3, rfl⟩
        exact ⟨rfl, _, _, _, rfl⟩
    · rintro o e ⟨rfl, w1, w2, w3, rfl⟩
      exact rfl
  · obtain ⟨x, hx, rfl⟩ := List.mem_map.mp hv
    refine ⟨_, rfl, ?_⟩
    simp only [r_tupO, r_pc, r_en, r_augI, r_pS, r_seq, r_ifS, r_tst, r_not, r_and, r_or, r_bin, r_un, r_var, r_frz, r_mov, r_c, r_set, r_st, r_mut, r_do, r_ret, r_p0, r_pure, r_cons, r_nil, r_skip, r_modE, r_lst, r_tup, r_if, r_andV, r_orV, r_comp, r_for, r_rng1, r_rng2, r_its, r_zip, r_call, r_gnil, r_gcons, r_glend, r_par2, r_par3, r_nop, r_part, r_sl, r_chain, getv_s, gv_int, gv_bl, gv_str, gv_non, gv_lst, gv_tup, gv_scr, g_some, exists_eq_left, exists_eq_left', Val.int.injEq, Val.bl.injEq, Out.rt.injEq, and_assoc, exists_and_left, g_if, g_ixL, g_ixT, g_ixS, at_0, at_1, at_2, g_lt, g_le, g_gt, g_ge, g_tbl, g_tint, g_tlst, g_ttup, g_div, g_mod, g_mul, g_add, g_sub, g_pow, g_shl, g_shr, g_neg, g_not, g_bl, g_eqi, g_int, g_intb, g_lenL, g_lenT, g_lenS, g_max2, g_min2, no_int, no_bl, g_sum, g_slS, g_rng1, g_rng2, g_itsL, g_itsT, g_eqb, g_nei, g_neb, two_mk, g_IB, is_int, is_bl, is_str, is_non, is_tup, is_lst, it_int, it_bl, it_str, it_non, it_tup, it_lst, mod_nil, fset_0, fset_1, fset_2, pair2_mk, pair3_mk, and_true, true_and, frzs, frz, List.length_map, putAll, List.replicate, Nat.reduceSub, List.cons_append, List.nil_append, List.set_cons_zero, List.set_cons_succ, true_implies, Bool.true_eq_false, Bool.false_eq_true, false_implies, and_true, true_and, Bool.not_true, Bool.not_false, pick, List.getElem?_cons_zero, List.getElem?_cons_succ, List.eraseIdx_cons_zero, List.eraseIdx_cons_succ, Bool.false_and, beq_self_eq_true, decide_true, List.isEmpty_nil, List.isEmpty_cons, wipeE, restE, List.getD_cons_succ, List.getD_cons_zero, List.getD_nil, r_ok, g_allR, List.length_replicate, frzs_vi, frzs_tab, tab_len, wn_len, fins_1, fins_2, fins_3, fins_4, fins_5, isub, Int.toNat_natCast, g_isn, g_isnn, r_callK, g_sorted, g_app, g_isL, isLst_lst, ex_unit, g_addI, own_int, g_enL, g_enT, g_sortU, g_rgL2, g_rgT2, g_eq1, frzs_tl, tab_len]
    exact call_run (is_lot_ok (lot_rise _ _) (fun z hz => lot_lt hz) (Nat.le_trans (lot_len _ _) (by omega))) rfl rfl ⟨rfl, rfl⟩
theorem need_table_ok {B : Nat → Nat → Bool} {m : Nat} (hm : m ≤ 8) (hT : Tour B m) : F_need_table [.tup (tabV B m)] = some (.ok .non, [.tup (tabV B m)]) := by
  refine fn_nx rfl ?_
  simp only [D_need_table, r_tupO, r_pc, r_en, r_augI, r_pS, r_seq, r_ifS, r_tst, r_not, r_and, r_or, r_bin, r_un, r_var, r_frz, r_mov, r_c, r_set, r_st, r_mut, r_do, r_ret, r_p0, r_pure, r_cons, r_nil, r_skip, r_modE, r_lst, r_tup, r_if, r_andV, r_orV, r_comp, r_for, r_rng1, r_rng2, r_its, r_zip, r_call, r_gnil, r_gcons, r_glend, r_par2, r_par3, r_nop, r_part, r_sl, r_chain, getv_s, gv_int, gv_bl, gv_str, gv_non, gv_lst, gv_tup, gv_scr, g_some, exists_eq_left, exists_eq_left', Val.int.injEq, Val.bl.injEq, Out.rt.injEq, and_assoc, exists_and_left, g_if, g_ixL, g_ixT, g_ixS, at_0, at_1, at_2, g_lt, g_le, g_gt, g_ge, g_tbl, g_tint, g_tlst, g_ttup, g_div, g_mod, g_mul, g_add, g_sub, g_pow, g_shl, g_shr, g_neg, g_not, g_bl, g_eqi, g_int, g_intb, g_lenL, g_lenT, g_lenS, g_max2, g_min2, no_int, no_bl, g_sum, g_slS, g_rng1, g_rng2, g_itsL, g_itsT, g_eqb, g_nei, g_neb, two_mk, g_IB, is_int, is_bl, is_str, is_non, is_tup, is_lst, it_int, it_bl, it_str, it_non, it_tup, it_lst, mod_nil, fset_0, fset_1, fset_2, pair2_mk, pair3_mk, and_true, true_and, frzs, frz, List.length_map, putAll, List.replicate, Nat.reduceSub, List.cons_append, List.nil_append, List.set_cons_zero, List.set_cons_succ, true_implies, Bool.true_eq_false, Bool.false_eq_true, false_implies, and_true, true_and, Bool.not_true, Bool.not_false, pick, List.getElem?_cons_zero, List.getElem?_cons_succ, List.eraseIdx_cons_zero, List.eraseIdx_cons_succ, Bool.false_and, beq_self_eq_true, decide_true, List.isEmpty_nil, List.isEmpty_cons, wipeE, restE, List.getD_cons_succ, List.getD_cons_zero, List.getD_nil, r_ok, g_allR, List.length_replicate, frzs_vi, frzs_tab, tab_len, wn_len, fins_1, fins_2, fins_3, fins_4, fins_5, isub, Int.toNat_natCast, g_isn, g_isnn, r_callK, g_sorted, g_app, g_isL, isLst_lst, ex_unit, g_addI, own_int, g_enL, g_enT, g_sortU, g_rgL2, g_rgT2, g_eq1, frzs_tl]
  refine call_run (is_table_form_ok hm hT) rfl rfl ?_
  simp only [r_tupO, r_pc, r_en, r_augI, r_pS, r_seq, r_ifS, r_tst, r_not, r_and, r_or, r_bin, r_un, r_var, r_frz, r_mov, r_c, r_set, r_st, r_mut, r_do, r_ret, r_p0, r_pure, r_cons, r_nil, r_skip, r_modE, r_lst, r_tup, r_if, r_andV, r_orV, r_comp, r_for, r_rng1, r_rng2, r_its, r_zip, r_call, r_gnil, r_gcons, r_glend, r_par2, r_par3, r_nop, r_part, r_sl, r_chain, getv_s, gv_int, gv_bl, gv_str, gv_non, gv_lst, gv_tup, gv_scr, g_some, exists_eq_left, exists_eq_left', Val.int.injEq, Val.bl.injEq, Out.rt.injEq, and_assoc, exists_and_left, g_if, g_ixL, g_ixT, g_ixS, at_0, at_1, at_2, g_lt, g_le, g_gt, g_ge, g_tbl, g_tint, g_tlst, g_ttup, g_div, g_mod, g_mul, g_add, g_sub, g_pow, g_shl, g_shr, g_neg, g_not, g_bl, g_eqi, g_int, g_intb, g_lenL, g_lenT, g_lenS, g_max2, g_min2, no_int, no_bl, g_sum, g_slS, g_rng1, g_rng2, g_itsL, g_itsT, g_eqb, g_nei, g_neb, two_mk, g_IB, is_int, is_bl, is_str, is_non, is_tup, is_lst, it_int, it_bl, it_str, it_non, it_tup, it_lst, mod_nil, fset_0, fset_1, fset_2, pair2_mk, pair3_mk, and_true, true_and, frzs, frz, List.length_map, putAll, List.replicate, Nat.reduceSub, List.cons_append, List.nil_append, List.set_cons_zero, List.set_cons_succ, true_implies, Bool.true_eq_false, Bool.false_eq_true, false_implies, and_true, true_and, Bool.not_true, Bool.not_false, pick, List.getElem?_cons_zero, List.getElem?_cons_succ, List.eraseIdx_cons_zero, List.eraseIdx_cons_succ, Bool.false_and, beq_self_eq_true, decide_true, List.isEmpty_nil, List.isEmpty_cons, wipeE, restE, List.getD_cons_succ, List.getD_cons_zero, List.getD_nil, r_ok, g_allR, List.length_replicate, frzs_vi, frzs_tab, tab_len, wn_len, fins_1, fins_2, fins_3, fins_4, fins_5, isub, Int.toNat_natCast, g_isn, g_isnn, r_callK, g_sorted, g_app, g_isL, isLst_lst, ex_unit, g_addI, own_int, g_enL, g_enT, g_sortU, g_rgL2, g_rgT2, g_eq1, frzs_tl]

theorem same_at_ok : ∀ (n : Nat) (v w : Val), Alike n v w → F__law_same_at n [v, w] = some (.ok (.bl true), [v, w])
  | 0, _, _, h => h.elim
  | n + 1, v, w, h => by
    have ih := same_at_ok n
    unfold F__law_same_at
    have seqc : ∀ (xs ys : List Val) (v w : Val), (∀ i, gIx v (.int i) = atI xs i) → (∀ i, gIx w (.int i) = atI ys i) → owns xs = false → owns ys = false → xs.length = ys.length → (∀ (i : Nat) x y, xs[i]? = some x → ys[i]? = some y → Alike n x y) → ng v = true → ng w = true →
        compL (tgN 2) (dNot (dTst (dPC (F__law_same_at n) (dCons (dBin gIx (dVar 0) (dVar 2)) (dCons (dBin gIx (dVar 1) (dVar 2)) (dNil)))))) (dC (.int 1)) [2] (rgs ys.length) [v, w, .gone] = ok [] [v, w, .gone] := by
      intro xs ys v w hv hw ox oy hl hal nv nw
      rw [comp_map (fun _ => false) id fun u hu => ?_]
      · rw [List.filter_eq_nil_iff.mpr (by simp)]; rfl
      · obtain ⟨p, hp, rfl⟩ := List.mem_map.mp hu
        have hp : p < ys.length := by simpa using hp
        refine ⟨_, rfl, ?_⟩
        have gx : xs[p]? = some xs[p] := List.getElem?_eq_getElem (by omega)
        have gy : ys[p]? = some ys[p] := List.getElem?_eq_getElem hp
        have a := ih _ _ (hal p _ _ gx gy)
        have nx : ng xs[p] = true := by
          have := hal p _ _ gx gy
          cases n with
          | zero => exact this.elim
          | succ n => cases h : xs[p] <;> rw [h] at this <;> first | rfl | exact this.elim
        have ny : ng ys[p] = true := by
          have := hal p _ _ gx gy
          cases n with
          | zero => exact this.elim
          | succ n => cases h : ys[p] <;> cases h2 : xs[p] <;> rw [h, h2] at this <;> first | rfl | exact this.elim
        have fx : frz xs[p] = xs[p] := frz_of _ (owns_at ox gx)
        have fy : frz ys[p] = ys[p] := frz_of _ (owns_at oy gy)
        have gx' : isGone xs[p] = false := by cases h : xs[p] <;> rw [h] at nx <;> first | rfl | cases nx
        have gy' : isGone ys[p] = false := by cases h : ys[p] <;> rw [h] at ny <;> first | rfl | cases ny
        simp only [r_tupO, r_pc, r_en, r_augI, r_pS, r_seq, r_ifS, r_tst, r_not, r_and, r_or, r_bin, r_un, r_var, r_frz, r_mov, r_c, r_set, r_st, r_mut, r_do, r_ret, r_p0, r_pure, r_cons, r_nil, r_skip, r_modE, r_lst, r_tup, r_if, r_andV, r_orV, r_comp, r_for, r_rng1, r_rng2, r_its, r_zip, r_call, r_gnil, r_gcons, r_glend, r_par2, r_par3, r_nop, r_part, r_sl, r_chain, getv_s, gv_int, gv_bl, gv_str, gv_non, gv_lst, gv_tup, gv_scr, g_some, exists_eq_left, exists_eq_left', Val.int.injEq, Val.bl.injEq, Out.rt.injEq, and_assoc, exists_and_left, g_if, g_ixL, g_ixT, g_ixS, at_0, at_1, at_2, g_lt, g_le, g_gt, g_ge, g_tbl, g_tint, g_tlst, g_ttup, g_div, g_mod, g_mul, g_add, g_sub, g_pow, g_shl, g_shr, g_neg, g_not, g_bl, g_eqi, g_int, g_intb, g_lenL, g_lenT, g_lenS, g_max2, g_min2, no_int, no_bl, g_sum, g_slS, g_rng1, g_rng2, g_itsL, g_itsT, g_eqb, g_nei, g_neb, two_mk, g_IB, is_int, is_bl, is_str, is_non, is_tup, is_lst, it_int, it_bl, it_str, it_non, it_tup, it_lst, mod_nil, fset_0, fset_1, fset_2, pair2_mk, pair3_mk, and_true, true_and, frzs, frz, List.length_map, putAll, List.replicate, Nat.reduceSub, List.cons_append, List.nil_append, List.set_cons_zero, List.set_cons_succ, true_implies, Bool.true_eq_false, Bool.false_eq_true, false_implies, and_true, true_and, Bool.not_true, Bool.not_false, pick, List.getElem?_cons_zero, List.getElem?_cons_succ, List.eraseIdx_cons_zero, List.eraseIdx_cons_succ, Bool.false_and, beq_self_eq_true, decide_true, List.isEmpty_nil, List.isEmpty_cons, wipeE, restE, List.getD_cons_succ, List.getD_cons_zero, List.getD_nil, r_ok, g_allR, List.length_replicate, frzs_vi, frzs_tab, tab_len, wn_len, fins_1, fins_2, fins_3, fins_4, fins_5, isub, Int.toNat_natCast, g_isn, g_isnn, r_callK, g_sorted, g_app, g_isL, isLst_lst, ex_unit, g_addI, own_int, g_enL, g_enT, g_sortU, g_rgL2, g_rgT2, g_eq1, frzs_tl, getv_0 nv, getv_0 nw, hv, hw, at_nat gx, at_nat gy, fx, fy]
        refine ⟨by show (isGone xs[p] || (isGone ys[p] || false)) = false; rw [gx', gy']; rfl, _, _, a, rfl, ?_⟩
        simp only [r_tupO, r_pc, r_en, r_augI, r_pS, r_seq, r_ifS, r_tst, r_not, r_and, r_or, r_bin, r_un, r_var, r_frz, r_mov, r_c, r_set, r_st, r_mut, r_do, r_ret, r_p0, r_pure, r_cons, r_nil, r_skip, r_modE, r_lst, r_tup, r_if, r_andV, r_orV, r_comp, r_for, r_rng1, r_rng2, r_its, r_zip, r_call, r_gnil, r_gcons, r_glend, r_par2, r_par3, r_nop, r_part, r_sl, r_chain, getv_s, gv_int, gv_bl, gv_str, gv_non, gv_lst, gv_tup, gv_scr, g_some, exists_eq_left, exists_eq_left', Val.int.injEq, Val.bl.injEq, Out.rt.injEq, and_assoc, exists_and_left, g_if, g_ixL, g_ixT, g_ixS, at_0, at_1, at_2, g_lt, g_le, g_gt, g_ge, g_tbl, g_tint, g_tlst, g_ttup, g_div, g_mod, g_mul, g_add, g_sub, g_pow, g_shl, g_shr, g_neg, g_not, g_bl, g_eqi, g_int, g_intb, g_lenL, g_lenT, g_lenS, g_max2, g_min2, no_int, no_bl, g_sum, g_slS, g_rng1, g_rng2, g_itsL, g_itsT, g_eqb, g_nei, g_neb, two_mk, g_IB, is_int, is_bl, is_str, is_non, is_tup, is_lst, it_int, it_bl, it_str, it_non, it_tup, it_lst, mod_nil, fset_0, fset_1, fset_2, pair2_mk, pair3_mk, and_true, true_and, frzs, frz, List.length_map, putAll, List.replicate, Nat.reduceSub, List.cons_append, List.nil_append, List.set_cons_zero, List.set_cons_succ, true_implies, Bool.true_eq_false, Bool.false_eq_true, false_implies, and_true, true_and, Bool.not_true, Bool.not_false, pick, List.getElem?_cons_zero, List.getElem?_cons_succ, List.eraseIdx_cons_zero, List.eraseIdx_cons_succ, Bool.false_and, beq_self_eq_true, decide_true, List.isEmpty_nil, List.isEmpty_cons, wipeE, restE, List.getD_cons_succ, List.getD_cons_zero, List.getD_nil, r_ok, g_allR, List.length_replicate, frzs_vi, frzs_tab, tab_len, wn_len, fins_1, fins_2, fins_3, fins_4, fins_5, isub, Int.toNat_natCast, g_isn, g_isnn, r_callK, g_sorted, g_app, g_isL, isLst_lst, ex_unit, g_addI, own_int, g_enL, g_enT, g_sortU, g_rgL2, g_rgT2, g_eq1, frzs_tl]
    match v, w, h with
    | .int i, .int j, h =>
      cases (show i = j from h)
      refine fn_run rfl ?_
      simp only [D__law_same, r_tupO, r_pc, r_en, r_augI, r_pS, r_seq, r_ifS, r_tst, r_not, r_and, r_or, r_bin, r_un, r_var, r_frz, r_mov, r_c, r_set, r_st, r_mut, r_do, r_ret, r_p0, r_pure, r_cons, r_nil, r_skip, r_modE, r_lst, r_tup, r_if, r_andV, r_orV, r_comp, r_for, r_rng1, r_rng2, r_its, r_zip, r_call, r_gnil, r_gcons, r_glend, r_par2, r_par3, r_nop, r_part, r_sl, r_chain, getv_s, gv_int, gv_bl, gv_str, gv_non, gv_lst, gv_tup, gv_scr, g_some, exists_eq_left, exists_eq_left', Val.int.injEq, Val.bl.injEq, Out.rt.injEq, and_assoc, exists_and_left, g_if, g_ixL, g_ixT, g_ixS, at_0, at_1, at_2, g_lt, g_le, g_gt, g_ge, g_tbl, g_tint, g_tlst, g_ttup, g_div, g_mod, g_mul, g_add, g_sub, g_pow, g_shl, g_shr, g_neg, g_not, g_bl, g_eqi, g_int, g_intb, g_lenL, g_lenT, g_lenS, g_max2, g_min2, no_int, no_bl, g_sum, g_slS, g_rng1, g_rng2, g_itsL, g_itsT, g_eqb, g_nei, g_neb, two_mk, g_IB, is_int, is_bl, is_str, is_non, is_tup, is_lst, it_int, it_bl, it_str, it_non, it_tup, it_lst, mod_nil, fset_0, fset_1, fset_2, pair2_mk, pair3_mk, and_true, true_and, frzs, frz, List.length_map, putAll, List.replicate, Nat.reduceSub, List.cons_append, List.nil_append, List.set_cons_zero, List.set_cons_succ, true_implies, Bool.true_eq_false, Bool.false_eq_true, false_implies, and_true, true_and, Bool.not_true, Bool.not_false, pick, List.getElem?_cons_zero, List.getElem?_cons_succ, List.eraseIdx_cons_zero, List.eraseIdx_cons_succ, Bool.false_and, beq_self_eq_true, decide_true, List.isEmpty_nil, List.isEmpty_cons, wipeE, restE, List.getD_cons_succ, List.getD_cons_zero, List.getD_nil, r_ok, g_allR, List.length_replicate, frzs_vi, frzs_tab, tab_len, wn_len, fins_1, fins_2, fins_3, fins_4, fins_5, isub, Int.toNat_natCast, g_isn, g_isnn, r_callK, g_sorted, g_app, g_isL, isLst_lst, ex_unit, g_addI, own_int, g_enL, g_enT, g_sortU, g_rgL2, g_rgT2, g_eq1, frzs_tl, decide_true]
    | .bl a, .bl b, h =>
      cases (show a = b from h)
      refine fn_run rfl ?_
      simp only [D__law_same, r_tupO, r_pc, r_en, r_augI, r_pS, r_seq, r_ifS, r_tst, r_not, r_and, r_or, r_bin, r_un, r_var, r_frz, r_mov, r_c, r_set, r_st, r_mut, r_do, r_ret, r_p0, r_pure, r_cons, r_nil, r_skip, r_modE, r_lst, r_tup, r_if, r_andV, r_orV, r_comp, r_for, r_rng1, r_rng2, r_its, r_zip, r_call, r_gnil, r_gcons, r_glend, r_par2, r_par3, r_nop, r_part, r_sl, r_chain, getv_s, gv_int, gv_bl, gv_str, gv_non, gv_lst, gv_tup, gv_scr, g_some, exists_eq_left, exists_eq_left', Val.int.injEq, Val.bl.injEq, Out.rt.injEq, and_assoc, exists_and_left, g_if, g_ixL, g_ixT, g_ixS, at_0, at_1, at_2, g_lt, g_le, g_gt, g_ge, g_tbl, g_tint, g_tlst, g_ttup, g_div, g_mod, g_mul, g_add, g_sub, g_pow, g_shl, g_shr, g_neg, g_not, g_bl, g_eqi, g_int, g_intb, g_lenL, g_lenT, g_lenS, g_max2, g_min2, no_int, no_bl, g_sum, g_slS, g_rng1, g_rng2, g_itsL, g_itsT, g_eqb, g_nei, g_neb, two_mk, g_IB, is_int, is_bl, is_str, is_non, is_tup, is_lst, it_int, it_bl, it_str, it_non, it_tup, it_lst, mod_nil, fset_0, fset_1, fset_2, pair2_mk, pair3_mk, and_true, true_and, frzs, frz, List.length_map, putAll, List.replicate, Nat.reduceSub, List.cons_append, List.nil_append, List.set_cons_zero, List.set_cons_succ, true_implies, Bool.true_eq_false, Bool.false_eq_true, false_implies, and_true, true_and, Bool.not_true, Bool.not_false, pick, List.getElem?_cons_zero, List.getElem?_cons_succ, List.eraseIdx_cons_zero, List.eraseIdx_cons_succ, Bool.false_and, beq_self_eq_true, decide_true, List.isEmpty_nil, List.isEmpty_cons, wipeE, restE, List.getD_cons_succ, List.getD_cons_zero, List.getD_nil, r_ok, g_allR, List.length_replicate, frzs_vi, frzs_tab, tab_len, wn_len, fins_1, fins_2, fins_3, fins_4, fins_5, isub, Int.toNat_natCast, g_isn, g_isnn, r_callK, g_sorted, g_app, g_isL, isLst_lst, ex_unit, g_addI, own_int, g_enL, g_enT, g_sortU, g_rgL2, g_rgT2, g_eq1, frzs_tl]
    | .str s, .str t, h =>
      cases h.1
      refine fn_run rfl ?_
      simp only [D__law_same, r_tupO, r_pc, r_en, r_augI, r_pS, r_seq, r_ifS, r_tst, r_not, r_and, r_or, r_bin, r_un, r_var, r_frz, r_mov, r_c, r_set, r_st, r_mut, r_do, r_ret, r_p0, r_pure, r_cons, r_nil, r_skip, r_modE, r_lst, r_tup, r_if, r_andV, r_orV, r_comp, r_for, r_rng1, r_rng2, r_its, r_zip, r_call, r_gnil, r_gcons, r_glend, r_par2, r_par3, r_nop, r_part, r_sl, r_chain, getv_s, gv_int, gv_bl, gv_str, gv_non, gv_lst, gv_tup, gv_scr, g_some, exists_eq_left, exists_eq_left', Val.int.injEq, Val.bl.injEq, Out.rt.injEq, and_assoc, exists_and_left, g_if, g_ixL, g_ixT, g_ixS, at_0, at_1, at_2, g_lt, g_le, g_gt, g_ge, g_tbl, g_tint, g_tlst, g_ttup, g_div, g_mod, g_mul, g_add, g_sub, g_pow, g_shl, g_shr, g_neg, g_not, g_bl, g_eqi, g_int, g_intb, g_lenL, g_lenT, g_lenS, g_max2, g_min2, no_int, no_bl, g_sum, g_slS, g_rng1, g_rng2, g_itsL, g_itsT, g_eqb, g_nei, g_neb, two_mk, g_IB, is_int, is_bl, is_str, is_non, is_tup, is_lst, it_int, it_bl, it_str, it_non, it_tup, it_lst, mod_nil, fset_0, fset_1, fset_2, pair2_mk, pair3_mk, and_true, true_and, frzs, frz, List.length_map, putAll, List.replicate, Nat.reduceSub, List.cons_append, List.nil_append, List.set_cons_zero, List.set_cons_succ, true_implies, Bool.true_eq_false, Bool.false_eq_true, false_implies, and_true, true_and, Bool.not_true, Bool.not_false, pick, List.getElem?_cons_zero, List.getElem?_cons_succ, List.eraseIdx_cons_zero, List.eraseIdx_cons_succ, Bool.false_and, beq_self_eq_true, decide_true, List.isEmpty_nil, List.isEmpty_cons, wipeE, restE, List.getD_cons_succ, List.getD_cons_zero, List.getD_nil, r_ok, g_allR, List.length_replicate, frzs_vi, frzs_tab, tab_len, wn_len, fins_1, fins_2, fins_3, fins_4, fins_5, isub, Int.toNat_natCast, g_isn, g_isnn, r_callK, g_sorted, g_app, g_isL, isLst_lst, ex_unit, g_addI, own_int, g_enL, g_enT, g_sortU, g_rgL2, g_rgT2, g_eq1, frzs_tl, h.2]
    | .non, .non, h =>
      refine fn_run rfl ?_
      simp only [D__law_same, r_tupO, r_pc, r_en, r_augI, r_pS, r_seq, r_ifS, r_tst, r_not, r_and, r_or, r_bin, r_un, r_var, r_frz, r_mov, r_c, r_set, r_st, r_mut, r_do, r_ret, r_p0, r_pure, r_cons, r_nil, r_skip, r_modE, r_lst, r_tup, r_if, r_andV, r_orV, r_comp, r_for, r_rng1, r_rng2, r_its, r_zip, r_call, r_gnil, r_gcons, r_glend, r_par2, r_par3, r_nop, r_part, r_sl, r_chain, getv_s, gv_int, gv_bl, gv_str, gv_non, gv_lst, gv_tup, gv_scr, g_some, exists_eq_left, exists_eq_left', Val.int.injEq, Val.bl.injEq, Out.rt.injEq, and_assoc, exists_and_left, g_if, g_ixL, g_ixT, g_ixS, at_0, at_1, at_2, g_lt, g_le, g_gt, g_ge, g_tbl, g_tint, g_tlst, g_ttup, g_div, g_mod, g_mul, g_add, g_sub, g_pow, g_shl, g_shr, g_neg, g_not, g_bl, g_eqi, g_int, g_intb, g_lenL, g_lenT, g_lenS, g_max2, g_min2, no_int, no_bl, g_sum, g_slS, g_rng1, g_rng2, g_itsL, g_itsT, g_eqb, g_nei, g_neb, two_mk, g_IB, is_int, is_bl, is_str, is_non, is_tup, is_lst, it_int, it_bl, it_str, it_non, it_tup, it_lst, mod_nil, fset_0, fset_1, fset_2, pair2_mk, pair3_mk, and_true, true_and, frzs, frz, List.length_map, putAll, List.replicate, Nat.reduceSub, List.cons_append, List.nil_append, List.set_cons_zero, List.set_cons_succ, true_implies, Bool.true_eq_false, Bool.false_eq_true, false_implies, and_true, true_and, Bool.not_true, Bool.not_false, pick, List.getElem?_cons_zero, List.getElem?_cons_succ, List.eraseIdx_cons_zero, List.eraseIdx_cons_succ, Bool.false_and, beq_self_eq_true, decide_true, List.isEmpty_nil, List.isEmpty_cons, wipeE, restE, List.getD_cons_succ, List.getD_cons_zero, List.getD_nil, r_ok, g_allR, List.length_replicate, frzs_vi, frzs_tab, tab_len, wn_len, fins_1, fins_2, fins_3, fins_4, fins_5, isub, Int.toNat_natCast, g_isn, g_isnn, r_callK, g_sorted, g_app, g_isL, isLst_lst, ex_unit, g_addI, own_int, g_enL, g_enT, g_sortU, g_rgL2, g_rgT2, g_eq1, frzs_tl]
    | .tup xs, .tup ys, ⟨ox, oy, hl, hk, h⟩ =>
      refine fn_run rfl ?_
      simp only [D__law_same, r_tupO, r_pc, r_en, r_augI, r_pS, r_seq, r_ifS, r_tst, r_not, r_and, r_or, r_bin, r_un, r_var, r_frz, r_mov, r_c, r_set, r_st, r_mut, r_do, r_ret, r_p0, r_pure, r_cons, r_nil, r_skip, r_modE, r_lst, r_tup, r_if, r_andV, r_orV, r_comp, r_for, r_rng1, r_rng2, r_its, r_zip, r_call, r_gnil, r_gcons, r_glend, r_par2, r_par3, r_nop, r_part, r_sl, r_chain, getv_s, gv_int, gv_bl, gv_str, gv_non, gv_lst, gv_tup, gv_scr, g_some, exists_eq_left, exists_eq_left', Val.int.injEq, Val.bl.injEq, Out.rt.injEq, and_assoc, exists_and_left, g_if, g_ixL, g_ixT, g_ixS, at_0, at_1, at_2, g_lt, g_le, g_gt, g_ge, g_tbl, g_tint, g_tlst, g_ttup, g_div, g_mod, g_mul, g_add, g_sub, g_pow, g_shl, g_shr, g_neg, g_not, g_bl, g_eqi, g_int, g_intb, g_lenL, g_lenT, g_lenS, g_max2, g_min2, no_int, no_bl, g_sum, g_slS, g_rng1, g_rng2, g_itsL, g_itsT, g_eqb, g_nei, g_neb, two_mk, g_IB, is_int, is_bl, is_str, is_non, is_tup, is_lst, it_int, it_bl, it_str, it_non, it_tup, it_lst, mod_nil, fset_0, fset_1, fset_2, pair2_mk, pair3_mk, and_true, true_and, frzs, frz, List.length_map, putAll, List.replicate, Nat.reduceSub, List.cons_append, List.nil_append, List.set_cons_zero, List.set_cons_succ, true_implies, Bool.true_eq_false, Bool.false_eq_true, false_implies, and_true, true_and, Bool.not_true, Bool.not_false, pick, List.getElem?_cons_zero, List.getElem?_cons_succ, List.eraseIdx_cons_zero, List.eraseIdx_cons_succ, Bool.false_and, beq_self_eq_true, decide_true, List.isEmpty_nil, List.isEmpty_cons, wipeE, restE, List.getD_cons_succ, List.getD_cons_zero, List.getD_nil, r_ok, g_allR, List.length_replicate, frzs_vi, frzs_tab, tab_len, wn_len, fins_1, fins_2, fins_3, fins_4, fins_5, isub, Int.toNat_natCast, g_isn, g_isnn, r_callK, g_sorted, g_app, g_isL, isLst_lst, ex_unit, g_addI, own_int, g_enL, g_enT, g_sortU, g_rgL2, g_rgT2, g_eq1, frzs_tl, hl]
      have := seqc xs ys (.tup xs) (.tup ys) (fun _ => rfl) (fun _ => rfl) ox oy hl h rfl rfl
      exact ⟨decide_eq_true (by omega), .of this ⟨rfl, rfl, .bl true, by rfl, rfl, rfl⟩⟩
    | .lst o xs, .lst p ys, ⟨ox, oy, hl, hk, h⟩ =>
      refine fn_run rfl ?_
      simp only [D__law_same, r_tupO, r_pc, r_en, r_augI, r_pS, r_seq, r_ifS, r_tst, r_not, r_and, r_or, r_bin, r_un, r_var, r_frz, r_mov, r_c, r_set, r_st, r_mut, r_do, r_ret, r_p0, r_pure, r_cons, r_nil, r_skip, r_modE, r_lst, r_tup, r_if, r_andV, r_orV, r_comp, r_for, r_rng1, r_rng2, r_its, r_zip, r_call, r_gnil, r_gcons, r_glend, r_par2, r_par3, r_nop, r_part, r_sl, r_chain, getv_s, gv_int, gv_bl, gv_str, gv_non, gv_lst, gv_tup, gv_scr, g_some, exists_eq_left, exists_eq_left', Val.int.injEq, Val.bl.injEq, Out.rt.injEq, and_assoc, exists_and_left, g_if, g_ixL, g_ixT, g_ixS, at_0, at_1, at_2, g_lt, g_le, g_gt, g_ge, g_tbl, g_tint, g_tlst, g_ttup, g_div, g_mod, g_mul, g_add, g_sub, g_pow, g_shl, g_shr, g_neg, g_not, g_bl, g_eqi, g_int, g_intb, g_lenL, g_lenT, g_lenS, g_max2, g_min2, no_int, no_bl, g_sum, g_slS, g_rng1, g_rng2, g_itsL, g_itsT, g_eqb, g_nei, g_neb, two_mk, g_IB, is_int, is_bl, is_str, is_non, is_tup, is_lst, it_int, it_bl, it_str, it_non, it_tup, it_lst, mod_nil, fset_0, fset_1, fset_2, pair2_mk, pair3_mk, and_true, true_and, frzs, frz, List.length_map, putAll, List.replicate, Nat.reduceSub, List.cons_append, List.nil_append, List.set_cons_zero, List.set_cons_succ, true_implies, Bool.true_eq_false, Bool.false_eq_true, false_implies, and_true, true_and, Bool.not_true, Bool.not_false, pick, List.getElem?_cons_zero, List.getElem?_cons_succ, List.eraseIdx_cons_zero, List.eraseIdx_cons_succ, Bool.false_and, beq_self_eq_true, decide_true, List.isEmpty_nil, List.isEmpty_cons, wipeE, restE, List.getD_cons_succ, List.getD_cons_zero, List.getD_nil, r_ok, g_allR, List.length_replicate, frzs_vi, frzs_tab, tab_len, wn_len, fins_1, fins_2, fins_3, fins_4, fins_5, isub, Int.toNat_natCast, g_isn, g_isnn, r_callK, g_sorted, g_app, g_isL, isLst_lst, ex_unit, g_addI, own_int, g_enL, g_enT, g_sortU, g_rgL2, g_rgT2, g_eq1, frzs_tl, hl]
      have := seqc xs ys (.lst o xs) (.lst p ys) (fun _ => rfl) (fun _ => rfl) ox oy hl h rfl rfl
      exact ⟨decide_eq_true (by omega), .of this ⟨rfl, rfl, .bl true, by rfl, rfl, rfl⟩⟩
theorem same_ok {v w : Val} (h : Alike 8 v w) : F__law_same [v, w] = some (.ok (.bl true), [v, w]) := same_at_ok 8 v w h

theorem masks_of_ok {B : Nat → Nat → Bool} {m : Nat} (hm : m ≤ 8) : F_masks_of [.tup (tabV B m)] = some (.ok (.tup (vi (wn B m))), [.tup (tabV B m)]) := by
  refine fn_run rfl ?_
  simp only [D_masks_of, r_tupO, r_pc, r_en, r_augI, r_pS, r_seq, r_ifS, r_tst, r_not, r_and, r_or, r_bin, r_un, r_var, r_frz, r_mov, r_c, r_set, r_st, r_mut, r_do, r_ret, r_p0, r_pure, r_cons, r_nil, r_skip, r_modE, r_lst, r_tup, r_if, r_andV, r_orV, r_comp, r_for, r_rng1, r_rng2, r_its, r_zip, r_call, r_gnil, r_gcons, r_glend, r_par2, r_par3, r_nop, r_part, r_sl, r_chain, getv_s, gv_int, gv_bl, gv_str, gv_non, gv_lst, gv_tup, gv_scr, g_some, exists_eq_left, exists_eq_left', Val.int.injEq, Val.bl.injEq, Out.rt.injEq, and_assoc, exists_and_left, g_if, g_ixL, g_ixT, g_ixS, at_0, at_1, at_2, g_lt, g_le, g_gt, g_ge, g_tbl, g_tint, g_tlst, g_ttup, g_div, g_mod, g_mul, g_add, g_sub, g_pow, g_shl, g_shr, g_neg, g_not, g_bl, g_eqi, g_int, g_intb, g_lenL, g_lenT, g_lenS, g_max2, g_min2, no_int, no_bl, g_sum, g_slS, g_rng1, g_rng2, g_itsL, g_itsT, g_eqb, g_nei, g_neb, two_mk, g_IB, is_int, is_bl, is_str, is_non, is_tup, is_lst, it_int, it_bl, it_str, it_non, it_tup, it_lst, mod_nil, fset_0, fset_1, fset_2, pair2_mk, pair3_mk, and_true, true_and, frzs, frz, List.length_map, putAll, List.replicate, Nat.reduceSub, List.cons_append, List.nil_append, List.set_cons_zero, List.set_cons_succ, true_implies, Bool.true_eq_false, Bool.false_eq_true, false_implies, and_true, true_and, Bool.not_true, Bool.not_false, pick, List.getElem?_cons_zero, List.getElem?_cons_succ, List.eraseIdx_cons_zero, List.eraseIdx_cons_succ, Bool.false_and, beq_self_eq_true, decide_true, List.isEmpty_nil, List.isEmpty_cons, wipeE, restE, List.getD_cons_succ, List.getD_cons_zero, List.getD_nil, r_ok, g_allR, List.length_replicate, frzs_vi, frzs_tab, tab_len, wn_len, fins_1, fins_2, fins_3, fins_4, fins_5, isub, Int.toNat_natCast, g_isn, g_isnn, r_callK, g_sorted, g_app, g_isL, isLst_lst, ex_unit, g_addI, own_int, g_enL, g_enT, g_sortU, g_rgL2, g_rgT2, g_eq1, frzs_tl]
  rw [comp_gen (List.range m) (fun x => .tup (vi (lot (B x) m))) (fun x => .int ((mk (B x) m : Nat) : Int)) (tab_eq _ _) fun x hx => ?_]
  · rw [← vi_wn]
    simp only [r_tupO, r_pc, r_en, r_augI, r_pS, r_seq, r_ifS, r_tst, r_not, r_and, r_or, r_bin, r_un, r_var, r_frz, r_mov, r_c, r_set, r_st, r_mut, r_do, r_ret, r_p0, r_pure, r_cons, r_nil, r_skip, r_modE, r_lst, r_tup, r_if, r_andV, r_orV, r_comp, r_for, r_rng1, r_rng2, r_its, r_zip, r_call, r_gnil, r_gcons, r_glend, r_par2, r_par3, r_nop, r_part, r_sl, r_chain, getv_s, gv_int, gv_bl, gv_str, gv_non, gv_lst, gv_tup, gv_scr, g_some, exists_eq_left, exists_eq_left', Val.int.injEq, Val.bl.injEq, Out.rt.injEq, and_assoc, exists_and_left, g_if, g_ixL, g_ixT, g_ixS, at_0, at_1, at_2, g_lt, g_le, g_gt, g_ge, g_tbl, g_tint, g_tlst, g_ttup, g_div, g_mod, g_mul, g_add, g_sub, g_pow, g_shl, g_shr, g_neg, g_not, g_bl, g_eqi, g_int, g_intb, g_lenL, g_lenT, g_lenS, g_max2, g_min2, no_int, no_bl, g_sum, g_slS, g_rng1, g_rng2, g_itsL, g_itsT, g_eqb, g_nei, g_neb, two_mk, g_IB, is_int, is_bl, is_str, is_non, is_tup, is_lst, it_int, it_bl, it_str, it_non, it_tup, it_lst, mod_nil, fset_0, fset_1, fset_2, pair2_mk, pair3_mk, and_true, true_and, frzs, frz, List.length_map, putAll, List.replicate, Nat.reduceSub, List.cons_append, List.nil_append, List.set_cons_zero, List.set_cons_succ, true_implies, Bool.true_eq_false, Bool.false_eq_true, false_implies, and_true, true_and, Bool.not_true, Bool.not_false, pick, List.getElem?_cons_zero, List.getElem?_cons_succ, List.eraseIdx_cons_zero, List.eraseIdx_cons_succ, Bool.false_and, beq_self_eq_true, decide_true, List.isEmpty_nil, List.isEmpty_cons, wipeE, restE, List.getD_cons_succ, List.getD_cons_zero, List.getD_nil, r_ok, g_allR, List.length_replicate, frzs_vi, frzs_tab, tab_len, wn_len, fins_1, fins_2, fins_3, fins_4, fins_5, isub, Int.toNat_natCast, g_isn, g_isnn, r_callK, g_sorted, g_app, g_isL, isLst_lst, ex_unit, g_addI, own_int, g_enL, g_enT, g_sortU, g_rgL2, g_rgT2, g_eq1, frzs_tl]
    exact ⟨decide_eq_true (by omega), _, g_tupleL (owns_vi _), rfl⟩
  · refine ⟨_, rfl, ?_⟩
    simp only [r_tupO, r_pc, r_en, r_augI, r_pS, r_seq, r_ifS, r_tst, r_not, r_and, r_or, r_bin, r_un, r_var, r_frz, r_mov, r_c, r_set, r_st, r_mut, r_do, r_ret, r_p0, r_pure, r_cons, r_nil, r_skip, r_modE, r_lst, r_tup, r_if, r_andV, r_orV, r_comp, r_for, r_rng1, r_rng2, r_its, r_zip, r_call, r_gnil, r_gcons, r_glend, r_par2, r_par3, r_nop, r_part, r_sl, r_chain, getv_s, gv_int, gv_bl, gv_str, gv_non, gv_lst, gv_tup, gv_scr, g_some, exists_eq_left, exists_eq_left', Val.int.injEq, Val.bl.injEq, Out.rt.injEq, and_assoc, exists_and_left, g_if, g_ixL, g_ixT, g_ixS, at_0, at_1, at_2, g_lt, g_le, g_gt, g_ge, g_tbl, g_tint, g_tlst, g_ttup, g_div, g_mod, g_mul, g_add, g_sub, g_pow, g_shl, g_shr, g_neg, g_not, g_bl, g_eqi, g_int, g_intb, g_lenL, g_lenT, g_lenS, g_max2, g_min2, no_int, no_bl, g_sum, g_slS, g_rng1, g_rng2, g_itsL, g_itsT, g_eqb, g_nei, g_neb, two_mk, g_IB, is_int, is_bl, is_str, is_non, is_tup, is_lst, it_int, it_bl, it_str, it_non, it_tup, it_lst, mod_nil, fset_0, fset_1, fset_2, pair2_mk, pair3_mk, and_true, true_and, frzs, frz, List.length_map, putAll, List.replicate, Nat.reduceSub, List.cons_append, List.nil_append, List.set_cons_zero, List.set_cons_succ, true_implies, Bool.true_eq_false, Bool.false_eq_true, false_implies, and_true, true_and, Bool.not_true, Bool.not_false, pick, List.getElem?_cons_zero, List.getElem?_cons_succ, List.eraseIdx_cons_zero, List.eraseIdx_cons_succ, Bool.false_and, beq_self_eq_true, decide_true, List.isEmpty_nil, List.isEmpty_cons, wipeE, restE, List.getD_cons_succ, List.getD_cons_zero, List.getD_nil, r_ok, g_allR, List.length_replicate, frzs_vi, frzs_tab, tab_len, wn_len, fins_1, fins_2, fins_3, fins_4, fins_5, isub, Int.toNat_natCast, g_isn, g_isnn, r_callK, g_sorted, g_app, g_isL, isLst_lst, ex_unit, g_addI, own_int, g_enL, g_enT, g_sortU, g_rgL2, g_rgT2, g_eq1, frzs_tl]
    rw [comp_gen ((List.range m).filter (B x)) (fun y => .int y) (fun y => .int ((2 ^ y : Nat) : Int)) (vi_lot _ _) fun y hy => ?_]
    · refine ⟨small_map (by have := filt_len (m := m) (f := B x); omega), _, g_sumM, ?_, rfl⟩
      have := mk_sum (n := m) ((List.range m).filter (B x)) (List.Pairwise.filter _ List.nodup_range) (fun y hy => List.mem_range.mp (List.mem_filter.mp hy).1)
      rw [mk_congr (g := B x) m fun y hy => by simp [hy]] at this
      rw [← this, cast_sumN]
    · have hy : y < m := List.mem_range.mp (List.mem_filter.mp hy).1
      refine ⟨_, rfl, ?_⟩
      simp only [r_tupO, r_pc, r_en, r_augI, r_pS, r_seq, r_ifS, r_tst, r_not, r_and, r_or, r_bin, r_un, r_var, r_frz, r_mov, r_c, r_set, r_st, r_mut, r_do, r_ret, r_p0, r_pure, r_cons, r_nil, r_skip, r_modE, r_lst, r_tup, r_if, r_andV, r_orV, r_comp, r_for, r_rng1, r_rng2, r_its, r_zip, r_call, r_gnil, r_gcons, r_glend, r_par2, r_par3, r_nop, r_part, r_sl, r_chain, getv_s, gv_int, gv_bl, gv_str, gv_non, gv_lst, gv_tup, gv_scr, g_some, exists_eq_left, exists_eq_left', Val.int.injEq, Val.bl.injEq, Out.rt.injEq, and_assoc, exists_and_left, g_if, g_ixL, g_ixT, g_ixS, at_0, at_1, at_2, g_lt, g_le, g_gt, g_ge, g_tbl, g_tint, g_tlst, g_ttup, g_div, g_mod, g_mul, g_add, g_sub, g_pow, g_shl, g_shr, g_neg, g_not, g_bl, g_eqi, g_int, g_intb, g_lenL, g_lenT, g_lenS, g_max2, g_min2, no_int, no_bl, g_sum, g_slS, g_rng1, g_rng2, g_itsL, g_itsT, g_eqb, g_nei, g_neb, two_mk, g_IB, is_int, is_bl, is_str, is_non, is_tup, is_lst, it_int, it_bl, it_str, it_non, it_tup, it_lst, mod_nil, fset_0, fset_1, fset_2, pair2_mk, pair3_mk, and_true, true_and, frzs, frz, List.length_map, putAll, List.replicate, Nat.reduceSub, List.cons_append, List.nil_append, List.set_cons_zero, List.set_cons_succ, true_implies, Bool.true_eq_false, Bool.false_eq_true, false_implies, and_true, true_and, Bool.not_true, Bool.not_false, pick, List.getElem?_cons_zero, List.getElem?_cons_succ, List.eraseIdx_cons_zero, List.eraseIdx_cons_succ, Bool.false_and, beq_self_eq_true, decide_true, List.isEmpty_nil, List.isEmpty_cons, wipeE, restE, List.getD_cons_succ, List.getD_cons_zero, List.getD_nil, r_ok, g_allR, List.length_replicate, frzs_vi, frzs_tab, tab_len, wn_len, fins_1, fins_2, fins_3, fins_4, fins_5, isub, Int.toNat_natCast, g_isn, g_isnn, r_callK, g_sorted, g_app, g_isL, isLst_lst, ex_unit, g_addI, own_int, g_enL, g_enT, g_sortU, g_rgL2, g_rgT2, g_eq1, frzs_tl]
      exact ⟨shl_ok (by omega), by push_cast; omega⟩
theorem lot_by_ok {f : Nat → Bool} {m : Nat} (hm : m ≤ 12) : F_lot_by [.int (mk f m : Nat)] = some (.ok (.tup (vi (lot f m))), [.int (mk f m : Nat)]) := by
  refine fn_run rfl ?_
  simp only [D_lot_by, r_tupO, r_pc, r_en, r_augI, r_pS, r_seq, r_ifS, r_tst, r_not, r_and, r_or, r_bin, r_un, r_var, r_frz, r_mov, r_c, r_set, r_st, r_mut, r_do, r_ret, r_p0, r_pure, r_cons, r_nil, r_skip, r_modE, r_lst, r_tup, r_if, r_andV, r_orV, r_comp, r_for, r_rng1, r_rng2, r_its, r_zip, r_call, r_gnil, r_gcons, r_glend, r_par2, r_par3, r_nop, r_part, r_sl, r_chain, getv_s, gv_int, gv_bl, gv_str, gv_non, gv_lst, gv_tup, gv_scr, g_some, exists_eq_left, exists_eq_left', Val.int.injEq, Val.bl.injEq, Out.rt.injEq, and_assoc, exists_and_left, g_if, g_ixL, g_ixT, g_ixS, at_0, at_1, at_2, g_lt, g_le, g_gt, g_ge, g_tbl, g_tint, g_tlst, g_ttup, g_div, g_mod, g_mul, g_add, g_sub, g_pow, g_shl, g_shr, g_neg, g_not, g_bl, g_eqi, g_int, g_intb, g_lenL, g_lenT, g_lenS, g_max2, g_min2, no_int, no_bl, g_sum, g_slS, g_rng1, g_rng2, g_itsL, g_itsT, g_eqb, g_nei, g_neb, two_mk, g_IB, is_int, is_bl, is_str, is_non, is_tup, is_lst, it_int, it_bl, it_str, it_non, it_tup, it_lst, mod_nil, fset_0, fset_1, fset_2, pair2_mk, pair3_mk, and_true, true_and, frzs, frz, List.length_map, putAll, List.replicate, Nat.reduceSub, List.cons_append, List.nil_append, List.set_cons_zero, List.set_cons_succ, true_implies, Bool.true_eq_false, Bool.false_eq_true, false_implies, and_true, true_and, Bool.not_true, Bool.not_false, pick, List.getElem?_cons_zero, List.getElem?_cons_succ, List.eraseIdx_cons_zero, List.eraseIdx_cons_succ, Bool.false_and, beq_self_eq_true, decide_true, List.isEmpty_nil, List.isEmpty_cons, wipeE, restE, List.getD_cons_succ, List.getD_cons_zero, List.getD_nil, r_ok, g_allR, List.length_replicate, frzs_vi, frzs_tab, tab_len, wn_len, fins_1, fins_2, fins_3, fins_4, fins_5, isub, Int.toNat_natCast, g_isn, g_isnn, r_callK, g_sorted, g_app, g_isL, isLst_lst, ex_unit, g_addI, own_int, g_enL, g_enT, g_sortU, g_rgL2, g_rgT2, g_eq1, frzs_tl, r_asg]
  refine ⟨rfl, ?_⟩
  refine while_run (fun n e => ∃ p, p ≤ m ∧ n = m - p ∧ e = [.int (mk f m : Nat), .lst true (vi (lot f p)), .int (p : Int)]) m (by omega) ⟨0, by omega, by omega, rfl⟩ ?_
  rintro n e ⟨p, hp, rfl, rfl⟩
  simp only [r_tupO, r_pc, r_en, r_augI, r_pS, r_seq, r_ifS, r_tst, r_not, r_and, r_or, r_bin, r_un, r_var, r_frz, r_mov, r_c, r_set, r_st, r_mut, r_do, r_ret, r_p0, r_pure, r_cons, r_nil, r_skip, r_modE, r_lst, r_tup, r_if, r_andV, r_orV, r_comp, r_for, r_rng1, r_rng2, r_its, r_zip, r_call, r_gnil, r_gcons, r_glend, r_par2, r_par3, r_nop, r_part, r_sl, r_chain, getv_s, gv_int, gv_bl, gv_str, gv_non, gv_lst, gv_tup, gv_scr, g_some, exists_eq_left, exists_eq_left', Val.int.injEq, Val.bl.injEq, Out.rt.injEq, and_assoc, exists_and_left, g_if, g_ixL, g_ixT, g_ixS, at_0, at_1, at_2, g_lt, g_le, g_gt, g_ge, g_tbl, g_tint, g_tlst, g_ttup, g_div, g_mod, g_mul, g_add, g_sub, g_pow, g_shl, g_shr, g_neg, g_not, g_bl, g_eqi, g_int, g_intb, g_lenL, g_lenT, g_lenS, g_max2, g_min2, no_int, no_bl, g_sum, g_slS, g_rng1, g_rng2, g_itsL, g_itsT, g_eqb, g_nei, g_neb, two_mk, g_IB, is_int, is_bl, is_str, is_non, is_tup, is_lst, it_int, it_bl, it_str, it_non, it_tup, it_lst, mod_nil, fset_0, fset_1, fset_2, pair2_mk, pair3_mk, and_true, true_and, frzs, frz, List.length_map, putAll, List.replicate, Nat.reduceSub, List.cons_append, List.nil_append, List.set_cons_zero, List.set_cons_succ, true_implies, Bool.true_eq_false, Bool.false_eq_true, false_implies, and_true, true_and, Bool.not_true, Bool.not_false, pick, List.getElem?_cons_zero, List.getElem?_cons_succ, List.eraseIdx_cons_zero, List.eraseIdx_cons_succ, Bool.false_and, beq_self_eq_true, decide_true, List.isEmpty_nil, List.isEmpty_cons, wipeE, restE, List.getD_cons_succ, List.getD_cons_zero, List.getD_nil, r_ok, g_allR, List.length_replicate, frzs_vi, frzs_tab, tab_len, wn_len, fins_1, fins_2, fins_3, fins_4, fins_5, isub, Int.toNat_natCast, g_isn, g_isnn, r_callK, g_sorted, g_app, g_isL, isLst_lst, ex_unit, g_addI, own_int, g_enL, g_enT, g_sortU, g_rgL2, g_rgT2, g_eq1, frzs_tl]
  refine ⟨shr_ok (by omega), ?_⟩
  have ed : ((mk f m : Nat) : Int) / 2 ^ p = ((mk f m / 2 ^ p : Nat) : Int) := by push_cast; rfl
  rw [ed]
  by_cases hz : mk f m / 2 ^ p = 0
  · rw [if_neg (by rw [decide_eq_false (by omega)]; decide)]
    rw [lot_top hp hz]
    exact ⟨_, g_tupleL (owns_vi _), rfl⟩
  · rw [if_pos (decide_eq_true (by have := Nat.pos_of_ne_zero hz; exact Int.ofNat_lt.mpr this))]
    have hpm : p < m := by
      rcases Nat.lt_or_ge p m with q | q
      · exact q
      · exact absurd (Nat.div_eq_of_lt (Nat.lt_of_lt_of_le (mk_lt f m) (Nat.pow_le_pow_right (by omega) q))) hz
    refine ⟨shr_ok (by omega), ?_⟩
    have eb : decide (Builtin.bitAnd ((mk f m / 2 ^ p : Nat) : Int) 1 = 1) = f p := by rw [← ed]; exact bit_ok hpm
    simp only [r_tupO, r_pc, r_en, r_augI, r_pS, r_seq, r_ifS, r_tst, r_not, r_and, r_or, r_bin, r_un, r_var, r_frz, r_mov, r_c, r_set, r_st, r_mut, r_do, r_ret, r_p0, r_pure, r_cons, r_nil, r_skip, r_modE, r_lst, r_tup, r_if, r_andV, r_orV, r_comp, r_for, r_rng1, r_rng2, r_its, r_zip, r_call, r_gnil, r_gcons, r_glend, r_par2, r_par3, r_nop, r_part, r_sl, r_chain, getv_s, gv_int, gv_bl, gv_str, gv_non, gv_lst, gv_tup, gv_scr, g_some, exists_eq_left, exists_eq_left', Val.int.injEq, Val.bl.injEq, Out.rt.injEq, and_assoc, exists_and_left, g_if, g_ixL, g_ixT, g_ixS, at_0, at_1, at_2, g_lt, g_le, g_gt, g_ge, g_tbl, g_tint, g_tlst, g_ttup, g_div, g_mod, g_mul, g_add, g_sub, g_pow, g_shl, g_shr, g_neg, g_not, g_bl, g_eqi, g_int, g_intb, g_lenL, g_lenT, g_lenS, g_max2, g_min2, no_int, no_bl, g_sum, g_slS, g_rng1, g_rng2, g_itsL, g_itsT, g_eqb, g_nei, g_neb, two_mk, g_IB, is_int, is_bl, is_str, is_non, is_tup, is_lst, it_int, it_bl, it_str, it_non, it_tup, it_lst, mod_nil, fset_0, fset_1, fset_2, pair2_mk, pair3_mk, and_true, true_and, frzs, frz, List.length_map, putAll, List.replicate, Nat.reduceSub, List.cons_append, List.nil_append, List.set_cons_zero, List.set_cons_succ, true_implies, Bool.true_eq_false, Bool.false_eq_true, false_implies, and_true, true_and, Bool.not_true, Bool.not_false, pick, List.getElem?_cons_zero, List.getElem?_cons_succ, List.eraseIdx_cons_zero, List.eraseIdx_cons_succ, Bool.false_and, beq_self_eq_true, decide_true, List.isEmpty_nil, List.isEmpty_cons, wipeE, restE, List.getD_cons_succ, List.getD_cons_zero, List.getD_nil, r_ok, g_allR, List.length_replicate, frzs_vi, frzs_tab, tab_len, wn_len, fins_1, fins_2, fins_3, fins_4, fins_5, isub, Int.toNat_natCast, g_isn, g_isnn, r_callK, g_sorted, g_app, g_isL, isLst_lst, ex_unit, g_addI, own_int, g_enL, g_enT, g_sortU, g_rgL2, g_rgT2, g_eq1, frzs_tl, g_band, eb]
    have ec : (p : Int) + 1 = ((p + 1 : Nat) : Int) := by push_cast; rfl
    rw [ec]
    refine ⟨fun h => ⟨decide_eq_true (by have := lot_len f p; omega), m - (p + 1), by omega, p + 1, by omega, rfl, ?_⟩, fun h => ⟨m - (p + 1), by omega, p + 1, by omega, rfl, ?_⟩⟩
    · rw [lot_succ, if_pos h, show vi (lot f p ++ [(p : Int)]) = vi (lot f p) ++ [Val.int (p : Int)] from List.map_append ..]
    · rw [lot_succ, if_neg (by rw [h]; decide), List.append_nil]
theorem lot_byN {m s : Nat} (hm : m ≤ 12) (hs : s < 2 ^ m) : F_lot_by [.int (s : Int)] = some (.ok (.tup (vi (lotN m s))), [.int (s : Int)]) := by
  have := lot_by_ok (f := fun y => s.testBit y) hm
  rw [← mk_of hs] at this
  exact this
theorem law_lotN {m s : Nat} (hm : m ≤ 12) (hs : s < 2 ^ m) : F__law_lot [.int (s : Int)] = some (.ok (.tup (vi (lotN m s))), [.int (s : Int)]) := by
  have := lot_ok (f := fun y => s.testBit y) hm
  rw [← mk_of hs] at this
  exact this
theorem bits_in_ok {m s : Nat} (hm : m ≤ 12) (hs : s < 2 ^ m) : F_bits_in [.int (s : Int)] = some (.ok (.int (lotN m s).length), [.int (s : Int)]) := by
  refine fn_run rfl ?_
  simp only [D_bits_in, r_tupO, r_pc, r_en, r_augI, r_pS, r_seq, r_ifS, r_tst, r_not, r_and, r_or, r_bin, r_un, r_var, r_frz, r_mov, r_c, r_set, r_st, r_mut, r_do, r_ret, r_p0, r_pure, r_cons, r_nil, r_skip, r_modE, r_lst, r_tup, r_if, r_andV, r_orV, r_comp, r_for, r_rng1, r_rng2, r_its, r_zip, r_call, r_gnil, r_gcons, r_glend, r_par2, r_par3, r_nop, r_part, r_sl, r_chain, getv_s, gv_int, gv_bl, gv_str, gv_non, gv_lst, gv_tup, gv_scr, g_some, exists_eq_left, exists_eq_left', Val.int.injEq, Val.bl.injEq, Out.rt.injEq, and_assoc, exists_and_left, g_if, g_ixL, g_ixT, g_ixS, at_0, at_1, at_2, g_lt, g_le, g_gt, g_ge, g_tbl, g_tint, g_tlst, g_ttup, g_div, g_mod, g_mul, g_add, g_sub, g_pow, g_shl, g_shr, g_neg, g_not, g_bl, g_eqi, g_int, g_intb, g_lenL, g_lenT, g_lenS, g_max2, g_min2, no_int, no_bl, g_sum, g_slS, g_rng1, g_rng2, g_itsL, g_itsT, g_eqb, g_nei, g_neb, two_mk, g_IB, is_int, is_bl, is_str, is_non, is_tup, is_lst, it_int, it_bl, it_str, it_non, it_tup, it_lst, mod_nil, fset_0, fset_1, fset_2, pair2_mk, pair3_mk, and_true, true_and, frzs, frz, List.length_map, putAll, List.replicate, Nat.reduceSub, List.cons_append, List.nil_append, List.set_cons_zero, List.set_cons_succ, true_implies, Bool.true_eq_false, Bool.false_eq_true, false_implies, and_true, true_and, Bool.not_true, Bool.not_false, pick, List.getElem?_cons_zero, List.getElem?_cons_succ, List.eraseIdx_cons_zero, List.eraseIdx_cons_succ, Bool.false_and, beq_self_eq_true, decide_true, List.isEmpty_nil, List.isEmpty_cons, wipeE, restE, List.getD_cons_succ, List.getD_cons_zero, List.getD_nil, r_ok, g_allR, List.length_replicate, frzs_vi, frzs_tab, tab_len, wn_len, fins_1, fins_2, fins_3, fins_4, fins_5, isub, Int.toNat_natCast, g_isn, g_isnn, r_callK, g_sorted, g_app, g_isL, isLst_lst, ex_unit, g_addI, own_int, g_enL, g_enT, g_sortU, g_rgL2, g_rgT2, g_eq1, frzs_tl]
  refine call_run (lot_byN hm hs) rfl rfl ?_
  simp only [r_tupO, r_pc, r_en, r_augI, r_pS, r_seq, r_ifS, r_tst, r_not, r_and, r_or, r_bin, r_un, r_var, r_frz, r_mov, r_c, r_set, r_st, r_mut, r_do, r_ret, r_p0, r_pure, r_cons, r_nil, r_skip, r_modE, r_lst, r_tup, r_if, r_andV, r_orV, r_comp, r_for, r_rng1, r_rng2, r_its, r_zip, r_call, r_gnil, r_gcons, r_glend, r_par2, r_par3, r_nop, r_part, r_sl, r_chain, getv_s, gv_int, gv_bl, gv_str, gv_non, gv_lst, gv_tup, gv_scr, g_some, exists_eq_left, exists_eq_left', Val.int.injEq, Val.bl.injEq, Out.rt.injEq, and_assoc, exists_and_left, g_if, g_ixL, g_ixT, g_ixS, at_0, at_1, at_2, g_lt, g_le, g_gt, g_ge, g_tbl, g_tint, g_tlst, g_ttup, g_div, g_mod, g_mul, g_add, g_sub, g_pow, g_shl, g_shr, g_neg, g_not, g_bl, g_eqi, g_int, g_intb, g_lenL, g_lenT, g_lenS, g_max2, g_min2, no_int, no_bl, g_sum, g_slS, g_rng1, g_rng2, g_itsL, g_itsT, g_eqb, g_nei, g_neb, two_mk, g_IB, is_int, is_bl, is_str, is_non, is_tup, is_lst, it_int, it_bl, it_str, it_non, it_tup, it_lst, mod_nil, fset_0, fset_1, fset_2, pair2_mk, pair3_mk, and_true, true_and, frzs, frz, List.length_map, putAll, List.replicate, Nat.reduceSub, List.cons_append, List.nil_append, List.set_cons_zero, List.set_cons_succ, true_implies, Bool.true_eq_false, Bool.false_eq_true, false_implies, and_true, true_and, Bool.not_true, Bool.not_false, pick, List.getElem?_cons_zero, List.getElem?_cons_succ, List.eraseIdx_cons_zero, List.eraseIdx_cons_succ, Bool.false_and, beq_self_eq_true, decide_true, List.isEmpty_nil, List.isEmpty_cons, wipeE, restE, List.getD_cons_succ, List.getD_cons_zero, List.getD_nil, r_ok, g_allR, List.length_replicate, frzs_vi, frzs_tab, tab_len, wn_len, fins_1, fins_2, fins_3, fins_4, fins_5, isub, Int.toNat_natCast, g_isn, g_isnn, r_callK, g_sorted, g_app, g_isL, isLst_lst, ex_unit, g_addI, own_int, g_enL, g_enT, g_sortU, g_rgL2, g_rgT2, g_eq1, frzs_tl]
/-- masks against one -/
theorem nin2 {m s x : Nat} {B : Nat → Nat → Bool} : gIn true (.int (Builtin.bitAnd ((mk (B x) m : Nat) : Int) (s : Int))) (.tup [.int 0, .int (s : Int)]) = some (.bl (!(decide (mk (B x) m &&& s = 0) || decide (mk (B x) m &&& s = s)))) := by
  have := g_ninVi (i := Builtin.bitAnd ((mk (B x) m : Nat) : Int) (s : Int)) (ns := [0, (s : Int)])
  rw [band_nat] at this ⊢
  refine this.trans ?_
  congr 3
  rw [Bool.eq_iff_iff]
  simp
  omega
theorem is_alike_ok {B : Nat → Nat → Bool} {m s : Nat} (hm : m ≤ 8) : F_is_alike_mask [.tup (vi (wn B m)), .int (s : Int)] = some (.ok (.bl (alk B m s)), [.tup (vi (wn B m)), .int (s : Int)]) := by
  refine fn_run rfl ?_
  simp only [D_is_alike_mask, r_tupO, r_pc, r_en, r_augI, r_pS, r_seq, r_ifS, r_tst, r_not, r_and, r_or, r_bin, r_un, r_var, r_frz, r_mov, r_c, r_set, r_st, r_mut, r_do, r_ret, r_p0, r_pure, r_cons, r_nil, r_skip, r_modE, r_lst, r_tup, r_if, r_andV, r_orV, r_comp, r_for, r_rng1, r_rng2, r_its, r_zip, r_call, r_gnil, r_gcons, r_glend, r_par2, r_par3, r_nop, r_part, r_sl, r_chain, getv_s, gv_int, gv_bl, gv_str, gv_non, gv_lst, gv_tup, gv_scr, g_some, exists_eq_left, exists_eq_left', Val.int.injEq, Val.bl.injEq, Out.rt.injEq, and_assoc, exists_and_left, g_if, g_ixL, g_ixT, g_ixS, at_0, at_1, at_2, g_lt, g_le, g_gt, g_ge, g_tbl, g_tint, g_tlst, g_ttup, g_div, g_mod, g_mul, g_add, g_sub, g_pow, g_shl, g_shr, g_neg, g_not, g_bl, g_eqi, g_int, g_intb, g_lenL, g_lenT, g_lenS, g_max2, g_min2, no_int, no_bl, g_sum, g_slS, g_rng1, g_rng2, g_itsL, g_itsT, g_eqb, g_nei, g_neb, two_mk, g_IB, is_int, is_bl, is_str, is_non, is_tup, is_lst, it_int, it_bl, it_str, it_non, it_tup, it_lst, mod_nil, fset_0, fset_1, fset_2, pair2_mk, pair3_mk, and_true, true_and, frzs, frz, List.length_map, putAll, List.replicate, Nat.reduceSub, List.cons_append, List.nil_append, List.set_cons_zero, List.set_cons_succ, true_implies, Bool.true_eq_false, Bool.false_eq_true, false_implies, and_true, true_and, Bool.not_true, Bool.not_false, pick, List.getElem?_cons_zero, List.getElem?_cons_succ, List.eraseIdx_cons_zero, List.eraseIdx_cons_succ, Bool.false_and, beq_self_eq_true, decide_true, List.isEmpty_nil, List.isEmpty_cons, wipeE, restE, List.getD_cons_succ, List.getD_cons_zero, List.getD_nil, r_ok, g_allR, List.length_replicate, frzs_vi, frzs_tab, tab_len, wn_len, fins_1, fins_2, fins_3, fins_4, fins_5, isub, Int.toNat_natCast, g_isn, g_isnn, r_callK, g_sorted, g_app, g_isL, isLst_lst, ex_unit, g_addI, own_int, g_enL, g_enT, g_sortU, g_rgL2, g_rgT2, g_eq1, frzs_tl]
  refine (for_runR (fun i e => ∃ w2 w3, e = [.tup (vi (wn B m)), .int (s : Int), w2, w3] ∧ ∀ x, x < i → alk1 B m s x = true) (fun _ => False) (fun v e => v = .bl false ∧ alk B m s = false ∧ ∃ w2 w3, e = [.tup (vi (wn B m)), .int (s : Int), w2, w3]) ⟨_, _, rfl, fun x h => absurd h (by omega)⟩ ?_).mono ?_
  · rintro i v e hv ⟨w2, w3, rfl, hx⟩
    obtain ⟨u, hu, rfl⟩ := enV_get hv
    have hi : i < m := by
      have := (List.getElem?_eq_some_iff.mp hu).1
      simpa [wn_len] using this
    have hu2 : u = .int ((mk (B i) m : Nat) : Int) := by
      rw [List.getElem?_map, wn_get hi] at hu
      exact (Option.some.inj hu).symm
    subst hu2
    rw [Nat.zero_add]
    refine ⟨_, rfl, ?_⟩
    simp only [r_tupO, r_pc, r_en, r_augI, r_pS, r_seq, r_ifS, r_tst, r_not, r_and, r_or, r_bin, r_un, r_var, r_frz, r_mov, r_c, r_set, r_st, r_mut, r_do, r_ret, r_p0, r_pure, r_cons, r_nil, r_skip, r_modE, r_lst, r_tup, r_if, r_andV, r_orV, r_comp, r_for, r_rng1, r_rng2, r_its, r_zip, r_call, r_gnil, r_gcons, r_glend, r_par2, r_par3, r_nop, r_part, r_sl, r_chain, getv_s, gv_int, gv_bl, gv_str, gv_non, gv_lst, gv_tup, gv_scr, g_some, exists_eq_left, exists_eq_left', Val.int.injEq, Val.bl.injEq, Out.rt.injEq, and_assoc, exists_and_left, g_if, g_ixL, g_ixT, g_ixS, at_0, at_1, at_2, g_lt, g_le, g_gt, g_ge, g_tbl, g_tint, g_tlst, g_ttup, g_div, g_mod, g_mul, g_add, g_sub, g_pow, g_shl, g_shr, g_neg, g_not, g_bl, g_eqi, g_int, g_intb, g_lenL, g_lenT, g_lenS, g_max2, g_min2, no_int, no_bl, g_sum, g_slS, g_rng1, g_rng2, g_itsL, g_itsT, g_eqb, g_nei, g_neb, two_mk, g_IB, is_int, is_bl, is_str, is_non, is_tup, is_lst, it_int, it_bl, it_str, it_non, it_tup, it_lst, mod_nil, fset_0, fset_1, fset_2, pair2_mk, pair3_mk, and_true, true_and, frzs, frz, List.length_map, putAll, List.replicate, Nat.reduceSub, List.cons_append, List.nil_append, List.set_cons_zero, List.set_cons_succ, true_implies, Bool.true_eq_false, Bool.false_eq_true, false_implies, and_true, true_and, Bool.not_true, Bool.not_false, pick, List.getElem?_cons_zero, List.getElem?_cons_succ, List.eraseIdx_cons_zero, List.eraseIdx_cons_succ, Bool.false_and, beq_self_eq_true, decide_true, List.isEmpty_nil, List.isEmpty_cons, wipeE, restE, List.getD_cons_succ, List.getD_cons_zero, List.getD_nil, r_ok, g_allR, List.length_replicate, frzs_vi, frzs_tab, tab_len, wn_len, fins_1, fins_2, fins_3, fins_4, fins_5, isub, Int.toNat_natCast, g_isn, g_isnn, r_callK, g_sorted, g_app, g_isL, isLst_lst, ex_unit, g_addI, own_int, g_enL, g_enT, g_sortU, g_rgL2, g_rgT2, g_eq1, frzs_tl, g_band, shr_ok (show i < 1000 by omega), bit0, nin2]
    refine ⟨fun h1 => ⟨rfl, fun h2 => ?_, fun h2 => ?_⟩, fun h1 => ?_⟩
    · have ha : alk1 B m s i = false := by
        unfold alk1
        generalize (decide (mk (B i) m &&& s = 0) || decide (mk (B i) m &&& s = s)) = b at h2 ⊢
        revert h1 h2; cases s.testBit i <;> cases b <;> decide
      refine ⟨?_, _, _, rfl⟩
      unfold alk
      rw [List.all_eq_false]
      exact ⟨i, List.mem_range.mpr hi, by rw [ha]; decide⟩
    · have ha : alk1 B m s i = true := by
        unfold alk1
        generalize (decide (mk (B i) m &&& s = 0) || decide (mk (B i) m &&& s = s)) = b at h2 ⊢
        revert h1 h2; cases s.testBit i <;> cases b <;> decide
      exact ⟨_, _, rfl, fun x hxi => by rcases Nat.lt_succ_iff_lt_or_eq.mp hxi with q | rfl; exact hx x q; exact ha⟩
    · have ha : alk1 B m s i = true := by
        unfold alk1
        generalize (decide (mk (B i) m &&& s = 0) || decide (mk (B i) m &&& s = s)) = b
        revert h1; cases s.testBit i <;> cases b <;> decide
      exact ⟨_, _, rfl, fun x hxi => by rcases Nat.lt_succ_iff_lt_or_eq.mp hxi with q | rfl; exact hx x q; exact ha⟩
  · rintro o e h
    match o, h with
    | .nx, .inl ⟨w2, w3, he, hx⟩ =>
      subst he
      rw [enV_len, List.length_map, wn_len] at hx
      refine ⟨?_, rfl⟩
      unfold alk
      exact (List.all_eq_true.mpr fun x hm => hx x (List.mem_range.mp hm)).symm
    | .rt v, ⟨hv, ha, w2, w3, he⟩ =>
      subst hv he
      rw [ha]
      exact ⟨rfl, rfl⟩
theorem alike_masks_ok {B : Nat → Nat → Bool} {m : Nat} (hm : m ≤ 8) : F_alike_masks [.tup (tabV B m)] = some (.ok (.lst true (vi ((alN B m).map fun s : Nat => (s : Int)))), [.tup (tabV B m)]) := by
  refine fn_run rfl ?_
  simp only [D_alike_masks, r_tupO, r_pc, r_en, r_augI, r_pS, r_seq, r_ifS, r_tst, r_not, r_and, r_or, r_bin, r_un, r_var, r_frz, r_mov, r_c, r_set, r_st, r_mut, r_do, r_ret, r_p0, r_pure, r_cons, r_nil, r_skip, r_modE, r_lst, r_tup, r_if, r_andV, r_orV, r_comp, r_for, r_rng1, r_rng2, r_its, r_zip, r_call, r_gnil, r_gcons, r_glend, r_par2, r_par3, r_nop, r_part, r_sl, r_chain, getv_s, gv_int, gv_bl, gv_str, gv_non, gv_lst, gv_tup, gv_scr, g_some, exists_eq_left, exists_eq_left', Val.int.injEq, Val.bl.injEq, Out.rt.injEq, and_assoc, exists_and_left, g_if, g_ixL, g_ixT, g_ixS, at_0, at_1, at_2, g_lt, g_le, g_gt, g_ge, g_tbl, g_tint, g_tlst, g_ttup, g_div, g_mod, g_mul, g_add, g_sub, g_pow, g_shl, g_shr, g_neg, g_not, g_bl, g_eqi, g_int, g_intb, g_lenL, g_lenT, g_lenS, g_max2, g_min2, no_int, no_bl, g_sum, g_slS, g_rng1, g_rng2, g_itsL, g_itsT, g_eqb, g_nei, g_neb, two_mk, g_IB, is_int, is_bl, is_str, is_non, is_tup, is_lst, it_int, it_bl, it_str, it_non, it_tup, it_lst, mod_nil, fset_0, fset_1, fset_2, pair2_mk, pair3_mk, and_true, true_and, frzs, frz, List.length_map, putAll, List.replicate, Nat.reduceSub, List.cons_append, List.nil_append, List.set_cons_zero, List.set_cons_succ, true_implies, Bool.true_eq_false, Bool.false_eq_true, false_implies, and_true, true_and, Bool.not_true, Bool.not_false, pick, List.getElem?_cons_zero, List.getElem?_cons_succ, List.eraseIdx_cons_zero, List.eraseIdx_cons_succ, Bool.false_and, beq_self_eq_true, decide_true, List.isEmpty_nil, List.isEmpty_cons, wipeE, restE, List.getD_cons_succ, List.getD_cons_zero, List.getD_nil, r_ok, g_allR, List.length_replicate, frzs_vi, frzs_tab, tab_len, wn_len, fins_1, fins_2, fins_3, fins_4, fins_5, isub, Int.toNat_natCast, g_isn, g_isnn, r_callK, g_sorted, g_app, g_isL, isLst_lst, ex_unit, g_addI, own_int, g_enL, g_enT, g_sortU, g_rgL2, g_rgT2, g_eq1, frzs_tl]
  refine call_run (masks_of_ok hm) rfl rfl ?_
  simp only [r_tupO, r_pc, r_en, r_augI, r_pS, r_seq, r_ifS, r_tst, r_not, r_and, r_or, r_bin, r_un, r_var, r_frz, r_mov, r_c, r_set, r_st, r_mut, r_do, r_ret, r_p0, r_pure, r_cons, r_nil, r_skip, r_modE, r_lst, r_tup, r_if, r_andV, r_orV, r_comp, r_for, r_rng1, r_rng2, r_its, r_zip, r_call, r_gnil, r_gcons, r_glend, r_par2, r_par3, r_nop, r_part, r_sl, r_chain, getv_s, gv_int, gv_bl, gv_str, gv_non, gv_lst, gv_tup, gv_scr, g_some, exists_eq_left, exists_eq_left', Val.int.injEq, Val.bl.injEq, Out.rt.injEq, and_assoc, exists_and_left, g_if, g_ixL, g_ixT, g_ixS, at_0, at_1, at_2, g_lt, g_le, g_gt, g_ge, g_tbl, g_tint, g_tlst, g_ttup, g_div, g_mod, g_mul, g_add, g_sub, g_pow, g_shl, g_shr, g_neg, g_not, g_bl, g_eqi, g_int, g_intb, g_lenL, g_lenT, g_lenS, g_max2, g_min2, no_int, no_bl, g_sum, g_slS, g_rng1, g_rng2, g_itsL, g_itsT, g_eqb, g_nei, g_neb, two_mk, g_IB, is_int, is_bl, is_str, is_non, is_tup, is_lst, it_int, it_bl, it_str, it_non, it_tup, it_lst, mod_nil, fset_0, fset_1, fset_2, pair2_mk, pair3_mk, and_true, true_and, frzs, frz, List.length_map, putAll, List.replicate, Nat.reduceSub, List.cons_append, List.nil_append, List.set_cons_zero, List.set_cons_succ, true_implies, Bool.true_eq_false, Bool.false_eq_true, false_implies, and_true, true_and, Bool.not_true, Bool.not_false, pick, List.getElem?_cons_zero, List.getElem?_cons_succ, List.eraseIdx_cons_zero, List.eraseIdx_cons_succ, Bool.false_and, beq_self_eq_true, decide_true, List.isEmpty_nil, List.isEmpty_cons, wipeE, restE, List.getD_cons_succ, List.getD_cons_zero, List.getD_nil, r_ok, g_allR, List.length_replicate, frzs_vi, frzs_tab, tab_len, wn_len, fins_1, fins_2, fins_3, fins_4, fins_5, isub, Int.toNat_natCast, g_isn, g_isnn, r_callK, g_sorted, g_app, g_isL, isLst_lst, ex_unit, g_addI, own_int, g_enL, g_enT, g_sortU, g_rgL2, g_rgT2, g_eq1, frzs_tl]
  have h2 : 2 ^ m ≤ 256 := Nat.pow_le_pow_right (n := 2) (by omega) hm
  have h3 := Nat.two_pow_pos m
  have ep : (1 : Int) * 2 ^ m = ((2 ^ m : Nat) : Int) := by push_cast; omega
  rw [ep]
  refine ⟨shl_ok (by omega), rng2_ok (by omega) (by omega) (by omega) (by omega), ?_⟩
  rw [comp_flt ((List.range (2 ^ m - 1)).map (· + 1)) (fun s : Nat => .int (s : Int)) (fun s => .int (s : Int)) (alk B m) (rgs21 h3) fun s hs => ?_]
  · simp only [r_tupO, r_pc, r_en, r_augI, r_pS, r_seq, r_ifS, r_tst, r_not, r_and, r_or, r_bin, r_un, r_var, r_frz, r_mov, r_c, r_set, r_st, r_mut, r_do, r_ret, r_p0, r_pure, r_cons, r_nil, r_skip, r_modE, r_lst, r_tup, r_if, r_andV, r_orV, r_comp, r_for, r_rng1, r_rng2, r_its, r_zip, r_call, r_gnil, r_gcons, r_glend, r_par2, r_par3, r_nop, r_part, r_sl, r_chain, getv_s, gv_int, gv_bl, gv_str, gv_non, gv_lst, gv_tup, gv_scr, g_some, exists_eq_left, exists_eq_left', Val.int.injEq, Val.bl.injEq, Out.rt.injEq, and_assoc, exists_and_left, g_if, g_ixL, g_ixT, g_ixS, at_0, at_1, at_2, g_lt, g_le, g_gt, g_ge, g_tbl, g_tint, g_tlst, g_ttup, g_div, g_mod, g_mul, g_add, g_sub, g_pow, g_shl, g_shr, g_neg, g_not, g_bl, g_eqi, g_int, g_intb, g_lenL, g_lenT, g_lenS, g_max2, g_min2, no_int, no_bl, g_sum, g_slS, g_rng1, g_rng2, g_itsL, g_itsT, g_eqb, g_nei, g_neb, two_mk, g_IB, is_int, is_bl, is_str, is_non, is_tup, is_lst, it_int, it_bl, it_str, it_non, it_tup, it_lst, mod_nil, fset_0, fset_1, fset_2, pair2_mk, pair3_mk, and_true, true_and, frzs, frz, List.length_map, putAll, List.replicate, Nat.reduceSub, List.cons_append, List.nil_append, List.set_cons_zero, List.set_cons_succ, true_implies, Bool.true_eq_false, Bool.false_eq_true, false_implies, and_true, true_and, Bool.not_true, Bool.not_false, pick, List.getElem?_cons_zero, List.getElem?_cons_succ, List.eraseIdx_cons_zero, List.eraseIdx_cons_succ, Bool.false_and, beq_self_eq_true, decide_true, List.isEmpty_nil, List.isEmpty_cons, wipeE, restE, List.getD_cons_succ, List.getD_cons_zero, List.getD_nil, r_ok, g_allR, List.length_replicate, frzs_vi, frzs_tab, tab_len, wn_len, fins_1, fins_2, fins_3, fins_4, fins_5, isub, Int.toNat_natCast, g_isn, g_isnn, r_callK, g_sorted, g_app, g_isL, isLst_lst, ex_unit, g_addI, own_int, g_enL, g_enT, g_sortU, g_rgL2, g_rgT2, g_eq1, frzs_tl]
    refine ⟨decide_eq_true (by have := alN_len B m; unfold alN at this; omega), ?_⟩
    rw [vi_map]; rfl
  · refine ⟨_, rfl, ?_⟩
    simp only [r_tupO, r_pc, r_en, r_augI, r_pS, r_seq, r_ifS, r_tst, r_not, r_and, r_or, r_bin, r_un, r_var, r_frz, r_mov, r_c, r_set, r_st, r_mut, r_do, r_ret, r_p0, r_pure, r_cons, r_nil, r_skip, r_modE, r_lst, r_tup, r_if, r_andV, r_orV, r_comp, r_for, r_rng1, r_rng2, r_its, r_zip, r_call, r_gnil, r_gcons, r_glend, r_par2, r_par3, r_nop, r_part, r_sl, r_chain, getv_s, gv_int, gv_bl, gv_str, gv_non, gv_lst, gv_tup, gv_scr, g_some, exists_eq_left, exists_eq_left', Val.int.injEq, Val.bl.injEq, Out.rt.injEq, and_assoc, exists_and_left, g_if, g_ixL, g_ixT, g_ixS, at_0, at_1, at_2, g_lt, g_le, g_gt, g_ge, g_tbl, g_tint, g_tlst, g_ttup, g_div, g_mod, g_mul, g_add, g_sub, g_pow, g_shl, g_shr, g_neg, g_not, g_bl, g_eqi, g_int, g_intb, g_lenL, g_lenT, g_lenS, g_max2, g_min2, no_int, no_bl, g_sum, g_slS, g_rng1, g_rng2, g_itsL, g_itsT, g_eqb, g_nei, g_neb, two_mk, g_IB, is_int, is_bl, is_str, is_non, is_tup, is_lst, it_int, it_bl, it_str, it_non, it_tup, it_lst, mod_nil, fset_0, fset_1, fset_2, pair2_mk, pair3_mk, and_true, true_and, frzs, frz, List.length_map, putAll, List.replicate, Nat.reduceSub, List.cons_append, List.nil_append, List.set_cons_zero, List.set_cons_succ, true_implies, Bool.true_eq_false, Bool.false_eq_true, false_implies, and_true, true_and, Bool.not_true, Bool.not_false, pick, List.getElem?_cons_zero, List.getElem?_cons_succ, List.eraseIdx_cons_zero, List.eraseIdx_cons_succ, Bool.false_and, beq_self_eq_true, decide_true, List.isEmpty_nil, List.isEmpty_cons, wipeE, restE, List.getD_cons_succ, List.getD_cons_zero, List.getD_nil, r_ok, g_allR, List.length_replicate, frzs_vi, frzs_tab, tab_len, wn_len, fins_1, fins_2, fins_3, fins_4, fins_5, isub, Int.toNat_natCast, g_isn, g_isnn, r_callK, g_sorted, g_app, g_isL, isLst_lst, ex_unit, g_addI, own_int, g_enL, g_enT, g_sortU, g_rgL2, g_rgT2, g_eq1, frzs_tl]
    refine call_run (is_alike_ok hm) rfl rfl ?_
    simp only [r_tupO, r_pc, r_en, r_augI, r_pS, r_seq, r_ifS, r_tst, r_not, r_and, r_or, r_bin, r_un, r_var, r_frz, r_mov, r_c, r_set, r_st, r_mut, r_do, r_ret, r_p0, r_pure, r_cons, r_nil, r_skip, r_modE, r_lst, r_tup, r_if, r_andV, r_orV, r_comp, r_for, r_rng1, r_rng2, r_its, r_zip, r_call, r_gnil, r_gcons, r_glend, r_par2, r_par3, r_nop, r_part, r_sl, r_chain, getv_s, gv_int, gv_bl, gv_str, gv_non, gv_lst, gv_tup, gv_scr, g_some, exists_eq_left, exists_eq_left', Val.int.injEq, Val.bl.injEq, Out.rt.injEq, and_assoc, exists_and_left, g_if, g_ixL, g_ixT, g_ixS, at_0, at_1, at_2, g_lt, g_le, g_gt, g_ge, g_tbl, g_tint, g_tlst, g_ttup, g_div, g_mod, g_mul, g_add, g_sub, g_pow, g_shl, g_shr, g_neg, g_not, g_bl, g_eqi, g_int, g_intb, g_lenL, g_lenT, g_lenS, g_max2, g_min2, no_int, no_bl, g_sum, g_slS, g_rng1, g_rng2, g_itsL, g_itsT, g_eqb, g_nei, g_neb, two_mk, g_IB, is_int, is_bl, is_str, is_non, is_tup, is_lst, it_int, it_bl, it_str, it_non, it_tup, it_lst, mod_nil, fset_0, fset_1, fset_2, pair2_mk, pair3_mk, and_true, true_and, frzs, frz, List.length_map, putAll, List.replicate, Nat.reduceSub, List.cons_append, List.nil_append, List.set_cons_zero, List.set_cons_succ, true_implies, Bool.true_eq_false, Bool.false_eq_true, false_implies, and_true, true_and, Bool.not_true, Bool.not_false, pick, List.getElem?_cons_zero, List.getElem?_cons_succ, List.eraseIdx_cons_zero, List.eraseIdx_cons_succ, Bool.false_and, beq_self_eq_true, decide_true, List.isEmpty_nil, List.isEmpty_cons, wipeE, restE, List.getD_cons_succ, List.getD_cons_zero, List.getD_nil, r_ok, g_allR, List.length_replicate, frzs_vi, frzs_tab, tab_len, wn_len, fins_1, fins_2, fins_3, fins_4, fins_5, isub, Int.toNat_natCast, g_isn, g_isnn, r_callK, g_sorted, g_app, g_isL, isLst_lst, ex_unit, g_addI, own_int, g_enL, g_enT, g_sortU, g_rgL2, g_rgT2, g_eq1, frzs_tl]
    exact ⟨fun _ => trivial, fun _ => trivial⟩


theorem nin3 {s t : Nat} : gIn true (.int (Builtin.bitAnd (s : Int) (t : Int))) (.tup [.int 0, .int (s : Int), .int (t : Int)]) = some (.bl (crs s t)) := by
  have := g_ninVi (i := Builtin.bitAnd (s : Int) (t : Int)) (ns := [0, (s : Int), (t : Int)])
  rw [band_nat] at this ⊢
  refine this.trans ?_
  unfold crs
  congr 3
  rw [Bool.eq_iff_iff]
  simp
  omega
theorem do_cross_ok {s t : Nat} : F_do_cross [.int (s : Int), .int (t : Int)] = some (.ok (.bl (crs s t)), [.int (s : Int), .int (t : Int)]) := by
  refine fn_run rfl ?_
  simp only [D_do_cross, r_tupO, r_pc, r_en, r_augI, r_pS, r_seq, r_ifS, r_tst, r_not, r_and, r_or, r_bin, r_un, r_var, r_frz, r_mov, r_c, r_set, r_st, r_mut, r_do, r_ret, r_p0, r_pure, r_cons, r_nil, r_skip, r_modE, r_lst, r_tup, r_if, r_andV, r_orV, r_comp, r_for, r_rng1, r_rng2, r_its, r_zip, r_call, r_gnil, r_gcons, r_glend, r_par2, r_par3, r_nop, r_part, r_sl, r_chain, getv_s, gv_int, gv_bl, gv_str, gv_non, gv_lst, gv_tup, gv_scr, g_some, exists_eq_left, exists_eq_left', Val.int.injEq, Val.bl.injEq, Out.rt.injEq, and_assoc, exists_and_left, g_if, g_ixL, g_ixT, g_ixS, at_0, at_1, at_2, g_lt, g_le, g_gt, g_ge, g_tbl, g_tint, g_tlst, g_ttup, g_div, g_mod, g_mul, g_add, g_sub, g_pow, g_shl, g_shr, g_neg, g_not, g_bl, g_eqi, g_int, g_intb, g_lenL, g_lenT, g_lenS, g_max2, g_min2, no_int, no_bl, g_sum, g_slS, g_rng1, g_rng2, g_itsL, g_itsT, g_eqb, g_nei, g_neb, two_mk, g_IB, is_int, is_bl, is_str, is_non, is_tup, is_lst, it_int, it_bl, it_str, it_non, it_tup, it_lst, mod_nil, fset_0, fset_1, fset_2, pair2_mk, pair3_mk, and_true, true_and, frzs, frz, List.length_map, putAll, List.replicate, Nat.reduceSub, List.cons_append, List.nil_append, List.set_cons_zero, List.set_cons_succ, true_implies, Bool.true_eq_false, Bool.false_eq_true, false_implies, and_true, true_and, Bool.not_true, Bool.not_false, pick, List.getElem?_cons_zero, List.getElem?_cons_succ, List.eraseIdx_cons_zero, List.eraseIdx_cons_succ, Bool.false_and, beq_self_eq_true, decide_true, List.isEmpty_nil, List.isEmpty_cons, wipeE, restE, List.getD_cons_succ, List.getD_cons_zero, List.getD_nil, r_ok, g_allR, List.length_replicate, frzs_vi, frzs_tab, tab_len, wn_len, fins_1, fins_2, fins_3, fins_4, fins_5, isub, Int.toNat_natCast, g_isn, g_isnn, r_callK, g_sorted, g_app, g_isL, isLst_lst, ex_unit, g_addI, own_int, g_enL, g_enT, g_sortU, g_rgL2, g_rgT2, g_eq1, frzs_tl, g_band, nin3]
  all_goals (repeat' first | exact rfl | apply And.intro)
theorem alike_masks_ok' {B : Nat → Nat → Bool} {m : Nat} (hm : m ≤ 8) : F_alike_masks [.tup (tabV B m)] = some (.ok (.lst true (vi (ci (alN B m)))), [.tup (tabV B m)]) := alike_masks_ok hm
theorem le256 {m : Nat} (hm : m ≤ 8) : 2 ^ m ≤ 256 := Nat.pow_le_pow_right (n := 2) (by omega) hm
theorem firm_masks_ok {B : Nat → Nat → Bool} {m : Nat} (hm : m ≤ 8) : F_firm_masks [.tup (tabV B m)] = some (.ok (.lst true (vi (ci (frN B m)))), [.tup (tabV B m)]) := by
  refine fn_run rfl ?_
  simp only [D_firm_masks, r_tupO, r_pc, r_en, r_augI, r_pS, r_seq, r_ifS, r_tst, r_not, r_and, r_or, r_bin, r_un, r_var, r_frz, r_mov, r_c, r_set, r_st, r_mut, r_do, r_ret, r_p0, r_pure, r_cons, r_nil, r_skip, r_modE, r_lst, r_tup, r_if, r_andV, r_orV, r_comp, r_for, r_rng1, r_rng2, r_its, r_zip, r_call, r_gnil, r_gcons, r_glend, r_par2, r_par3, r_nop, r_part, r_sl, r_chain, getv_s, gv_int, gv_bl, gv_str, gv_non, gv_lst, gv_tup, gv_scr, g_some, exists_eq_left, exists_eq_left', Val.int.injEq, Val.bl.injEq, Out.rt.injEq, and_assoc, exists_and_left, g_if, g_ixL, g_ixT, g_ixS, at_0, at_1, at_2, g_lt, g_le, g_gt, g_ge, g_tbl, g_tint, g_tlst, g_ttup, g_div, g_mod, g_mul, g_add, g_sub, g_pow, g_shl, g_shr, g_neg, g_not, g_bl, g_eqi, g_int, g_intb, g_lenL, g_lenT, g_lenS, g_max2, g_min2, no_int, no_bl, g_sum, g_slS, g_rng1, g_rng2, g_itsL, g_itsT, g_eqb, g_nei, g_neb, two_mk, g_IB, is_int, is_bl, is_str, is_non, is_tup, is_lst, it_int, it_bl, it_str, it_non, it_tup, it_lst, mod_nil, fset_0, fset_1, fset_2, pair2_mk, pair3_mk, and_true, true_and, frzs, frz, List.length_map, putAll, List.replicate, Nat.reduceSub, List.cons_append, List.nil_append, List.set_cons_zero, List.set_cons_succ, true_implies, Bool.true_eq_false, Bool.false_eq_true, false_implies, and_true, true_and, Bool.not_true, Bool.not_false, pick, List.getElem?_cons_zero, List.getElem?_cons_succ, List.eraseIdx_cons_zero, List.eraseIdx_cons_succ, Bool.false_and, beq_self_eq_true, decide_true, List.isEmpty_nil, List.isEmpty_cons, wipeE, restE, List.getD_cons_succ, List.getD_cons_zero, List.getD_nil, r_ok, g_allR, List.length_replicate, frzs_vi, frzs_tab, tab_len, wn_len, fins_1, fins_2, fins_3, fins_4, fins_5, isub, Int.toNat_natCast, g_isn, g_isnn, r_callK, g_sorted, g_app, g_isL, isLst_lst, ex_unit, g_addI, own_int, g_enL, g_enT, g_sortU, g_rgL2, g_rgT2, g_eq1, frzs_tl]
  refine call_run (alike_masks_ok' hm) rfl rfl ?_
  simp only [r_tupO, r_pc, r_en, r_augI, r_pS, r_seq, r_ifS, r_tst, r_not, r_and, r_or, r_bin, r_un, r_var, r_frz, r_mov, r_c, r_set, r_st, r_mut, r_do, r_ret, r_p0, r_pure, r_cons, r_nil, r_skip, r_modE, r_lst, r_tup, r_if, r_andV, r_orV, r_comp, r_for, r_rng1, r_rng2, r_its, r_zip, r_call, r_gnil, r_gcons, r_glend, r_par2, r_par3, r_nop, r_part, r_sl, r_chain, getv_s, gv_int, gv_bl, gv_str, gv_non, gv_lst, gv_tup, gv_scr, g_some, exists_eq_left, exists_eq_left', Val.int.injEq, Val.bl.injEq, Out.rt.injEq, and_assoc, exists_and_left, g_if, g_ixL, g_ixT, g_ixS, at_0, at_1, at_2, g_lt, g_le, g_gt, g_ge, g_tbl, g_tint, g_tlst, g_ttup, g_div, g_mod, g_mul, g_add, g_sub, g_pow, g_shl, g_shr, g_neg, g_not, g_bl, g_eqi, g_int, g_intb, g_lenL, g_lenT, g_lenS, g_max2, g_min2, no_int, no_bl, g_sum, g_slS, g_rng1, g_rng2, g_itsL, g_itsT, g_eqb, g_nei, g_neb, two_mk, g_IB, is_int, is_bl, is_str, is_non, is_tup, is_lst, it_int, it_bl, it_str, it_non, it_tup, it_lst, mod_nil, fset_0, fset_1, fset_2, pair2_mk, pair3_mk, and_true, true_and, frzs, frz, List.length_map, putAll, List.replicate, Nat.reduceSub, List.cons_append, List.nil_append, List.set_cons_zero, List.set_cons_succ, true_implies, Bool.true_eq_false, Bool.false_eq_true, false_implies, and_true, true_and, Bool.not_true, Bool.not_false, pick, List.getElem?_cons_zero, List.getElem?_cons_succ, List.eraseIdx_cons_zero, List.eraseIdx_cons_succ, Bool.false_and, beq_self_eq_true, decide_true, List.isEmpty_nil, List.isEmpty_cons, wipeE, restE, List.getD_cons_succ, List.getD_cons_zero, List.getD_nil, r_ok, g_allR, List.length_replicate, frzs_vi, frzs_tab, tab_len, wn_len, fins_1, fins_2, fins_3, fins_4, fins_5, isub, Int.toNat_natCast, g_isn, g_isnn, r_callK, g_sorted, g_app, g_isL, isLst_lst, ex_unit, g_addI, own_int, g_enL, g_enT, g_sortU, g_rgL2, g_rgT2, g_eq1, frzs_tl]
  have h2 := le256 hm
  have hl := alN_len B m
  rw [comp_flt (alN B m) (fun s : Nat => .int (s : Int)) (fun s => .int (s : Int)) (fun s => (alN B m).all fun t => !crs s t) (vi_ci _) fun s hs => ?_]
  · simp only [r_tupO, r_pc, r_en, r_augI, r_pS, r_seq, r_ifS, r_tst, r_not, r_and, r_or, r_bin, r_un, r_var, r_frz, r_mov, r_c, r_set, r_st, r_mut, r_do, r_ret, r_p0, r_pure, r_cons, r_nil, r_skip, r_modE, r_lst, r_tup, r_if, r_andV, r_orV, r_comp, r_for, r_rng1, r_rng2, r_its, r_zip, r_call, r_gnil, r_gcons, r_glend, r_par2, r_par3, r_nop, r_part, r_sl, r_chain, getv_s, gv_int, gv_bl, gv_str, gv_non, gv_lst, gv_tup, gv_scr, g_some, exists_eq_left, exists_eq_left', Val.int.injEq, Val.bl.injEq, Out.rt.injEq, and_assoc, exists_and_left, g_if, g_ixL, g_ixT, g_ixS, at_0, at_1, at_2, g_lt, g_le, g_gt, g_ge, g_tbl, g_tint, g_tlst, g_ttup, g_div, g_mod, g_mul, g_add, g_sub, g_pow, g_shl, g_shr, g_neg, g_not, g_bl, g_eqi, g_int, g_intb, g_lenL, g_lenT, g_lenS, g_max2, g_min2, no_int, no_bl, g_sum, g_slS, g_rng1, g_rng2, g_itsL, g_itsT, g_eqb, g_nei, g_neb, two_mk, g_IB, is_int, is_bl, is_str, is_non, is_tup, is_lst, it_int, it_bl, it_str, it_non, it_tup, it_lst, mod_nil, fset_0, fset_1, fset_2, pair2_mk, pair3_mk, and_true, true_and, frzs, frz, List.length_map, putAll, List.replicate, Nat.reduceSub, List.cons_append, List.nil_append, List.set_cons_zero, List.set_cons_succ, true_implies, Bool.true_eq_false, Bool.false_eq_true, false_implies, and_true, true_and, Bool.not_true, Bool.not_false, pick, List.getElem?_cons_zero, List.getElem?_cons_succ, List.eraseIdx_cons_zero, List.eraseIdx_cons_succ, Bool.false_and, beq_self_eq_true, decide_true, List.isEmpty_nil, List.isEmpty_cons, wipeE, restE, List.getD_cons_succ, List.getD_cons_zero, List.getD_nil, r_ok, g_allR, List.length_replicate, frzs_vi, frzs_tab, tab_len, wn_len, fins_1, fins_2, fins_3, fins_4, fins_5, isub, Int.toNat_natCast, g_isn, g_isnn, r_callK, g_sorted, g_app, g_isL, isLst_lst, ex_unit, g_addI, own_int, g_enL, g_enT, g_sortU, g_rgL2, g_rgT2, g_eq1, frzs_tl]
    refine ⟨decide_eq_true (by have := frN_len B m; unfold frN at this; omega), ?_⟩
    rw [vi_ci]; rfl
  · refine ⟨_, rfl, ?_⟩
    simp only [r_tupO, r_pc, r_en, r_augI, r_pS, r_seq, r_ifS, r_tst, r_not, r_and, r_or, r_bin, r_un, r_var, r_frz, r_mov, r_c, r_set, r_st, r_mut, r_do, r_ret, r_p0, r_pure, r_cons, r_nil, r_skip, r_modE, r_lst, r_tup, r_if, r_andV, r_orV, r_comp, r_for, r_rng1, r_rng2, r_its, r_zip, r_call, r_gnil, r_gcons, r_glend, r_par2, r_par3, r_nop, r_part, r_sl, r_chain, getv_s, gv_int, gv_bl, gv_str, gv_non, gv_lst, gv_tup, gv_scr, g_some, exists_eq_left, exists_eq_left', Val.int.injEq, Val.bl.injEq, Out.rt.injEq, and_assoc, exists_and_left, g_if, g_ixL, g_ixT, g_ixS, at_0, at_1, at_2, g_lt, g_le, g_gt, g_ge, g_tbl, g_tint, g_tlst, g_ttup, g_div, g_mod, g_mul, g_add, g_sub, g_pow, g_shl, g_shr, g_neg, g_not, g_bl, g_eqi, g_int, g_intb, g_lenL, g_lenT, g_lenS, g_max2, g_min2, no_int, no_bl, g_sum, g_slS, g_rng1, g_rng2, g_itsL, g_itsT, g_eqb, g_nei, g_neb, two_mk, g_IB, is_int, is_bl, is_str, is_non, is_tup, is_lst, it_int, it_bl, it_str, it_non, it_tup, it_lst, mod_nil, fset_0, fset_1, fset_2, pair2_mk, pair3_mk, and_true, true_and, frzs, frz, List.length_map, putAll, List.replicate, Nat.reduceSub, List.cons_append, List.nil_append, List.set_cons_zero, List.set_cons_succ, true_implies, Bool.true_eq_false, Bool.false_eq_true, false_implies, and_true, true_and, Bool.not_true, Bool.not_false, pick, List.getElem?_cons_zero, List.getElem?_cons_succ, List.eraseIdx_cons_zero, List.eraseIdx_cons_succ, Bool.false_and, beq_self_eq_true, decide_true, List.isEmpty_nil, List.isEmpty_cons, wipeE, restE, List.getD_cons_succ, List.getD_cons_zero, List.getD_nil, r_ok, g_allR, List.length_replicate, frzs_vi, frzs_tab, tab_len, wn_len, fins_1, fins_2, fins_3, fins_4, fins_5, isub, Int.toNat_natCast, g_isn, g_isnn, r_callK, g_sorted, g_app, g_isL, isLst_lst, ex_unit, g_addI, own_int, g_enL, g_enT, g_sortU, g_rgL2, g_rgT2, g_eq1, frzs_tl]
    rw [comp_gen (alN B m) (fun t : Nat => .int (t : Int)) (fun t => .bl (crs s t)) (vi_ci _) fun t ht => ?_]
    · simp only [r_tupO, r_pc, r_en, r_augI, r_pS, r_seq, r_ifS, r_tst, r_not, r_and, r_or, r_bin, r_un, r_var, r_frz, r_mov, r_c, r_set, r_st, r_mut, r_do, r_ret, r_p0, r_pure, r_cons, r_nil, r_skip, r_modE, r_lst, r_tup, r_if, r_andV, r_orV, r_comp, r_for, r_rng1, r_rng2, r_its, r_zip, r_call, r_gnil, r_gcons, r_glend, r_par2, r_par3, r_nop, r_part, r_sl, r_chain, getv_s, gv_int, gv_bl, gv_str, gv_non, gv_lst, gv_tup, gv_scr, g_some, exists_eq_left, exists_eq_left', Val.int.injEq, Val.bl.injEq, Out.rt.injEq, and_assoc, exists_and_left, g_if, g_ixL, g_ixT, g_ixS, at_0, at_1, at_2, g_lt, g_le, g_gt, g_ge, g_tbl, g_tint, g_tlst, g_ttup, g_div, g_mod, g_mul, g_add, g_sub, g_pow, g_shl, g_shr, g_neg, g_not, g_bl, g_eqi, g_int, g_intb, g_lenL, g_lenT, g_lenS, g_max2, g_min2, no_int, no_bl, g_sum, g_slS, g_rng1, g_rng2, g_itsL, g_itsT, g_eqb, g_nei, g_neb, two_mk, g_IB, is_int, is_bl, is_str, is_non, is_tup, is_lst, it_int, it_bl, it_str, it_non, it_tup, it_lst, mod_nil, fset_0, fset_1, fset_2, pair2_mk, pair3_mk, and_true, true_and, frzs, frz, List.length_map, putAll, List.replicate, Nat.reduceSub, List.cons_append, List.nil_append, List.set_cons_zero, List.set_cons_succ, true_implies, Bool.true_eq_false, Bool.false_eq_true, false_implies, and_true, true_and, Bool.not_true, Bool.not_false, pick, List.getElem?_cons_zero, List.getElem?_cons_succ, List.eraseIdx_cons_zero, List.eraseIdx_cons_succ, Bool.false_and, beq_self_eq_true, decide_true, List.isEmpty_nil, List.isEmpty_cons, wipeE, restE, List.getD_cons_succ, List.getD_cons_zero, List.getD_nil, r_ok, g_allR, List.length_replicate, frzs_vi, frzs_tab, tab_len, wn_len, fins_1, fins_2, fins_3, fins_4, fins_5, isub, Int.toNat_natCast, g_isn, g_isnn, r_callK, g_sorted, g_app, g_isL, isLst_lst, ex_unit, g_addI, own_int, g_enL, g_enT, g_sortU, g_rgL2, g_rgT2, g_eq1, frzs_tl, g_anyM]
      refine ⟨decide_eq_true (by omega), ?_, fun _ => trivial, fun _ => trivial⟩
      rw [List.not_any_eq_all_not]
    · refine ⟨_, rfl, ?_⟩
      simp only [r_tupO, r_pc, r_en, r_augI, r_pS, r_seq, r_ifS, r_tst, r_not, r_and, r_or, r_bin, r_un, r_var, r_frz, r_mov, r_c, r_set, r_st, r_mut, r_do, r_ret, r_p0, r_pure, r_cons, r_nil, r_skip, r_modE, r_lst, r_tup, r_if, r_andV, r_orV, r_comp, r_for, r_rng1, r_rng2, r_its, r_zip, r_call, r_gnil, r_gcons, r_glend, r_par2, r_par3, r_nop, r_part, r_sl, r_chain, getv_s, gv_int, gv_bl, gv_str, gv_non, gv_lst, gv_tup, gv_scr, g_some, exists_eq_left, exists_eq_left', Val.int.injEq, Val.bl.injEq, Out.rt.injEq, and_assoc, exists_and_left, g_if, g_ixL, g_ixT, g_ixS, at_0, at_1, at_2, g_lt, g_le, g_gt, g_ge, g_tbl, g_tint, g_tlst, g_ttup, g_div, g_mod, g_mul, g_add, g_sub, g_pow, g_shl, g_shr, g_neg, g_not, g_bl, g_eqi, g_int, g_intb, g_lenL, g_lenT, g_lenS, g_max2, g_min2, no_int, no_bl, g_sum, g_slS, g_rng1, g_rng2, g_itsL, g_itsT, g_eqb, g_nei, g_neb, two_mk, g_IB, is_int, is_bl, is_str, is_non, is_tup, is_lst, it_int, it_bl, it_str, it_non, it_tup, it_lst, mod_nil, fset_0, fset_1, fset_2, pair2_mk, pair3_mk, and_true, true_and, frzs, frz, List.length_map, putAll, List.replicate, Nat.reduceSub, List.cons_append, List.nil_append, List.set_cons_zero, List.set_cons_succ, true_implies, Bool.true_eq_false, Bool.false_eq_true, false_implies, and_true, true_and, Bool.not_true, Bool.not_false, pick, List.getElem?_cons_zero, List.getElem?_cons_succ, List.eraseIdx_cons_zero, List.eraseIdx_cons_succ, Bool.false_and, beq_self_eq_true, decide_true, List.isEmpty_nil, List.isEmpty_cons, wipeE, restE, List.getD_cons_succ, List.getD_cons_zero, List.getD_nil, r_ok, g_allR, List.length_replicate, frzs_vi, frzs_tab, tab_len, wn_len, fins_1, fins_2, fins_3, fins_4, fins_5, isub, Int.toNat_natCast, g_isn, g_isnn, r_callK, g_sorted, g_app, g_isL, isLst_lst, ex_unit, g_addI, own_int, g_enL, g_enT, g_sortU, g_rgL2, g_rgT2, g_eq1, frzs_tl]
      refine call_run do_cross_ok rfl rfl ?_
      exact ⟨rfl, rfl⟩
theorem lots_of_ok {m : Nat} {ss : List Nat} {o : Bool} (hm : m ≤ 8) (hl : ss.length ≤ 256) (h : ∀ s ∈ ss, 1 ≤ s ∧ s < 2 ^ m) : F_lots_of [.lst o (vi (ci ss))] = some (.ok (.lst true (tl (srtL (ss.map (lotN m))))), [.lst false (vi (ci ss))]) := by
  refine fn_run rfl ?_
  simp only [D_lots_of, r_tupO, r_pc, r_en, r_augI, r_pS, r_seq, r_ifS, r_tst, r_not, r_and, r_or, r_bin, r_un, r_var, r_frz, r_mov, r_c, r_set, r_st, r_mut, r_do, r_ret, r_p0, r_pure, r_cons, r_nil, r_skip, r_modE, r_lst, r_tup, r_if, r_andV, r_orV, r_comp, r_for, r_rng1, r_rng2, r_its, r_zip, r_call, r_gnil, r_gcons, r_glend, r_par2, r_par3, r_nop, r_part, r_sl, r_chain, getv_s, gv_int, gv_bl, gv_str, gv_non, gv_lst, gv_tup, gv_scr, g_some, exists_eq_left, exists_eq_left', Val.int.injEq, Val.bl.injEq, Out.rt.injEq, and_assoc, exists_and_left, g_if, g_ixL, g_ixT, g_ixS, at_0, at_1, at_2, g_lt, g_le, g_gt, g_ge, g_tbl, g_tint, g_tlst, g_ttup, g_div, g_mod, g_mul, g_add, g_sub, g_pow, g_shl, g_shr, g_neg, g_not, g_bl, g_eqi, g_int, g_intb, g_lenL, g_lenT, g_lenS, g_max2, g_min2, no_int, no_bl, g_sum, g_slS, g_rng1, g_rng2, g_itsL, g_itsT, g_eqb, g_nei, g_neb, two_mk, g_IB, is_int, is_bl, is_str, is_non, is_tup, is_lst, it_int, it_bl, it_str, it_non, it_tup, it_lst, mod_nil, fset_0, fset_1, fset_2, pair2_mk, pair3_mk, and_true, true_and, frzs, frz, List.length_map, putAll, List.replicate, Nat.reduceSub, List.cons_append, List.nil_append, List.set_cons_zero, List.set_cons_succ, true_implies, Bool.true_eq_false, Bool.false_eq_true, false_implies, and_true, true_and, Bool.not_true, Bool.not_false, pick, List.getElem?_cons_zero, List.getElem?_cons_succ, List.eraseIdx_cons_zero, List.eraseIdx_cons_succ, Bool.false_and, beq_self_eq_true, decide_true, List.isEmpty_nil, List.isEmpty_cons, wipeE, restE, List.getD_cons_succ, List.getD_cons_zero, List.getD_nil, r_ok, g_allR, List.length_replicate, frzs_vi, frzs_tab, tab_len, wn_len, fins_1, fins_2, fins_3, fins_4, fins_5, isub, Int.toNat_natCast, g_isn, g_isnn, r_callK, g_sorted, g_app, g_isL, isLst_lst, ex_unit, g_addI, own_int, g_enL, g_enT, g_sortU, g_rgL2, g_rgT2, g_eq1, frzs_tl]
  rw [comp_gen ss (fun s : Nat => .int (s : Int)) (fun s => .tup (vi (lotN m s))) (vi_ci _) fun s hs => ?_]
  · rw [tl_map]
    have hne : ∀ ns ∈ ss.map (lotN m), ns ≠ [] := fun ns hns => by
      obtain ⟨s, hs, rfl⟩ := List.mem_map.mp hns
      exact lotN_ne (h s hs).1 (h s hs).2
    simp only [r_tupO, r_pc, r_en, r_augI, r_pS, r_seq, r_ifS, r_tst, r_not, r_and, r_or, r_bin, r_un, r_var, r_frz, r_mov, r_c, r_set, r_st, r_mut, r_do, r_ret, r_p0, r_pure, r_cons, r_nil, r_skip, r_modE, r_lst, r_tup, r_if, r_andV, r_orV, r_comp, r_for, r_rng1, r_rng2, r_its, r_zip, r_call, r_gnil, r_gcons, r_glend, r_par2, r_par3, r_nop, r_part, r_sl, r_chain, getv_s, gv_int, gv_bl, gv_str, gv_non, gv_lst, gv_tup, gv_scr, g_some, exists_eq_left, exists_eq_left', Val.int.injEq, Val.bl.injEq, Out.rt.injEq, and_assoc, exists_and_left, g_if, g_ixL, g_ixT, g_ixS, at_0, at_1, at_2, g_lt, g_le, g_gt, g_ge, g_tbl, g_tint, g_tlst, g_ttup, g_div, g_mod, g_mul, g_add, g_sub, g_pow, g_shl, g_shr, g_neg, g_not, g_bl, g_eqi, g_int, g_intb, g_lenL, g_lenT, g_lenS, g_max2, g_min2, no_int, no_bl, g_sum, g_slS, g_rng1, g_rng2, g_itsL, g_itsT, g_eqb, g_nei, g_neb, two_mk, g_IB, is_int, is_bl, is_str, is_non, is_tup, is_lst, it_int, it_bl, it_str, it_non, it_tup, it_lst, mod_nil, fset_0, fset_1, fset_2, pair2_mk, pair3_mk, and_true, true_and, frzs, frz, List.length_map, putAll, List.replicate, Nat.reduceSub, List.cons_append, List.nil_append, List.set_cons_zero, List.set_cons_succ, true_implies, Bool.true_eq_false, Bool.false_eq_true, false_implies, and_true, true_and, Bool.not_true, Bool.not_false, pick, List.getElem?_cons_zero, List.getElem?_cons_succ, List.eraseIdx_cons_zero, List.eraseIdx_cons_succ, Bool.false_and, beq_self_eq_true, decide_true, List.isEmpty_nil, List.isEmpty_cons, wipeE, restE, List.getD_cons_succ, List.getD_cons_zero, List.getD_nil, r_ok, g_allR, List.length_replicate, frzs_vi, frzs_tab, tab_len, wn_len, fins_1, fins_2, fins_3, fins_4, fins_5, isub, Int.toNat_natCast, g_isn, g_isnn, r_callK, g_sorted, g_app, g_isL, isLst_lst, ex_unit, g_addI, own_int, g_enL, g_enT, g_sortU, g_rgL2, g_rgT2, g_eq1, frzs_tl, g_sortL hne]
    exact decide_eq_true (by unfold tl; simp only [List.length_map]; omega)
  · refine ⟨_, rfl, ?_⟩
    simp only [r_tupO, r_pc, r_en, r_augI, r_pS, r_seq, r_ifS, r_tst, r_not, r_and, r_or, r_bin, r_un, r_var, r_frz, r_mov, r_c, r_set, r_st, r_mut, r_do, r_ret, r_p0, r_pure, r_cons, r_nil, r_skip, r_modE, r_lst, r_tup, r_if, r_andV, r_orV, r_comp, r_for, r_rng1, r_rng2, r_its, r_zip, r_call, r_gnil, r_gcons, r_glend, r_par2, r_par3, r_nop, r_part, r_sl, r_chain, getv_s, gv_int, gv_bl, gv_str, gv_non, gv_lst, gv_tup, gv_scr, g_some, exists_eq_left, exists_eq_left', Val.int.injEq, Val.bl.injEq, Out.rt.injEq, and_assoc, exists_and_left, g_if, g_ixL, g_ixT, g_ixS, at_0, at_1, at_2, g_lt, g_le, g_gt, g_ge, g_tbl, g_tint, g_tlst, g_ttup, g_div, g_mod, g_mul, g_add, g_sub, g_pow, g_shl, g_shr, g_neg, g_not, g_bl, g_eqi, g_int, g_intb, g_lenL, g_lenT, g_lenS, g_max2, g_min2, no_int, no_bl, g_sum, g_slS, g_rng1, g_rng2, g_itsL, g_itsT, g_eqb, g_nei, g_neb, two_mk, g_IB, is_int, is_bl, is_str, is_non, is_tup, is_lst, it_int, it_bl, it_str, it_non, it_tup, it_lst, mod_nil, fset_0, fset_1, fset_2, pair2_mk, pair3_mk, and_true, true_and, frzs, frz, List.length_map, putAll, List.replicate, Nat.reduceSub, List.cons_append, List.nil_append, List.set_cons_zero, List.set_cons_succ, true_implies, Bool.true_eq_false, Bool.false_eq_true, false_implies, and_true, true_and, Bool.not_true, Bool.not_false, pick, List.getElem?_cons_zero, List.getElem?_cons_succ, List.eraseIdx_cons_zero, List.eraseIdx_cons_succ, Bool.false_and, beq_self_eq_true, decide_true, List.isEmpty_nil, List.isEmpty_cons, wipeE, restE, List.getD_cons_succ, List.getD_cons_zero, List.getD_nil, r_ok, g_allR, List.length_replicate, frzs_vi, frzs_tab, tab_len, wn_len, fins_1, fins_2, fins_3, fins_4, fins_5, isub, Int.toNat_natCast, g_isn, g_isnn, r_callK, g_sorted, g_app, g_isL, isLst_lst, ex_unit, g_addI, own_int, g_enL, g_enT, g_sortU, g_rgL2, g_rgT2, g_eq1, frzs_tl]
    refine call_run (lot_byN (m := m) (by omega) (h s hs).2) rfl rfl ?_
    exact ⟨rfl, rfl⟩
theorem al_in {B : Nat → Nat → Bool} {m : Nat} : ∀ s ∈ alN B m, 1 ≤ s ∧ s < 2 ^ m := fun s hs => ⟨(mem_alN.mp hs).1, (mem_alN.mp hs).2.1⟩
theorem fr_in {B : Nat → Nat → Bool} {m : Nat} : ∀ s ∈ frN B m, 1 ≤ s ∧ s < 2 ^ m := fun s hs => al_in s (List.mem_filter.mp hs).1
theorem alike_lots_ok {B : Nat → Nat → Bool} {m : Nat} (hm : m ≤ 8) (hT : Tour B m) : F_alike_lots [.tup (tabV B m)] = some (.ok (.lst true (tl (srtL ((alN B m).map (lotN m))))), [.tup (tabV B m)]) := by
  refine fn_run rfl ?_
  simp only [D_alike_lots, r_tupO, r_pc, r_en, r_augI, r_pS, r_seq, r_ifS, r_tst, r_not, r_and, r_or, r_bin, r_un, r_var, r_frz, r_mov, r_c, r_set, r_st, r_mut, r_do, r_ret, r_p0, r_pure, r_cons, r_nil, r_skip, r_modE, r_lst, r_tup, r_if, r_andV, r_orV, r_comp, r_for, r_rng1, r_rng2, r_its, r_zip, r_call, r_gnil, r_gcons, r_glend, r_par2, r_par3, r_nop, r_part, r_sl, r_chain, getv_s, gv_int, gv_bl, gv_str, gv_non, gv_lst, gv_tup, gv_scr, g_some, exists_eq_left, exists_eq_left', Val.int.injEq, Val.bl.injEq, Out.rt.injEq, and_assoc, exists_and_left, g_if, g_ixL, g_ixT, g_ixS, at_0, at_1, at_2, g_lt, g_le, g_gt, g_ge, g_tbl, g_tint, g_tlst, g_ttup, g_div, g_mod, g_mul, g_add, g_sub, g_pow, g_shl, g_shr, g_neg, g_not, g_bl, g_eqi, g_int, g_intb, g_lenL, g_lenT, g_lenS, g_max2, g_min2, no_int, no_bl, g_sum, g_slS, g_rng1, g_rng2, g_itsL, g_itsT, g_eqb, g_nei, g_neb, two_mk, g_IB, is_int, is_bl, is_str, is_non, is_tup, is_lst, it_int, it_bl, it_str, it_non, it_tup, it_lst, mod_nil, fset_0, fset_1, fset_2, pair2_mk, pair3_mk, and_true, true_and, frzs, frz, List.length_map, putAll, List.replicate, Nat.reduceSub, List.cons_append, List.nil_append, List.set_cons_zero, List.set_cons_succ, true_implies, Bool.true_eq_false, Bool.false_eq_true, false_implies, and_true, true_and, Bool.not_true, Bool.not_false, pick, List.getElem?_cons_zero, List.getElem?_cons_succ, List.eraseIdx_cons_zero, List.eraseIdx_cons_succ, Bool.false_and, beq_self_eq_true, decide_true, List.isEmpty_nil, List.isEmpty_cons, wipeE, restE, List.getD_cons_succ, List.getD_cons_zero, List.getD_nil, r_ok, g_allR, List.length_replicate, frzs_vi, frzs_tab, tab_len, wn_len, fins_1, fins_2, fins_3, fins_4, fins_5, isub, Int.toNat_natCast, g_isn, g_isnn, r_callK, g_sorted, g_app, g_isL, isLst_lst, ex_unit, g_addI, own_int, g_enL, g_enT, g_sortU, g_rgL2, g_rgT2, g_eq1, frzs_tl]
  refine call_run (need_table_ok hm hT) rfl rfl ?_
  simp only [r_tupO, r_pc, r_en, r_augI, r_pS, r_seq, r_ifS, r_tst, r_not, r_and, r_or, r_bin, r_un, r_var, r_frz, r_mov, r_c, r_set, r_st, r_mut, r_do, r_ret, r_p0, r_pure, r_cons, r_nil, r_skip, r_modE, r_lst, r_tup, r_if, r_andV, r_orV, r_comp, r_for, r_rng1, r_rng2, r_its, r_zip, r_call, r_gnil, r_gcons, r_glend, r_par2, r_par3, r_nop, r_part, r_sl, r_chain, getv_s, gv_int, gv_bl, gv_str, gv_non, gv_lst, gv_tup, gv_scr, g_some, exists_eq_left, exists_eq_left', Val.int.injEq, Val.bl.injEq, Out.rt.injEq, and_assoc, exists_and_left, g_if, g_ixL, g_ixT, g_ixS, at_0, at_1, at_2, g_lt, g_le, g_gt, g_ge, g_tbl, g_tint, g_tlst, g_ttup, g_div, g_mod, g_mul, g_add, g_sub, g_pow, g_shl, g_shr, g_neg, g_not, g_bl, g_eqi, g_int, g_intb, g_lenL, g_lenT, g_lenS, g_max2, g_min2, no_int, no_bl, g_sum, g_slS, g_rng1, g_rng2, g_itsL, g_itsT, g_eqb, g_nei, g_neb, two_mk, g_IB, is_int, is_bl, is_str, is_non, is_tup, is_lst, it_int, it_bl, it_str, it_non, it_tup, it_lst, mod_nil, fset_0, fset_1, fset_2, pair2_mk, pair3_mk, and_true, true_and, frzs, frz, List.length_map, putAll, List.replicate, Nat.reduceSub, List.cons_append, List.nil_append, List.set_cons_zero, List.set_cons_succ, true_implies, Bool.true_eq_false, Bool.false_eq_true, false_implies, and_true, true_and, Bool.not_true, Bool.not_false, pick, List.getElem?_cons_zero, List.getElem?_cons_succ, List.eraseIdx_cons_zero, List.eraseIdx_cons_succ, Bool.false_and, beq_self_eq_true, decide_true, List.isEmpty_nil, List.isEmpty_cons, wipeE, restE, List.getD_cons_succ, List.getD_cons_zero, List.getD_nil, r_ok, g_allR, List.length_replicate, frzs_vi, frzs_tab, tab_len, wn_len, fins_1, fins_2, fins_3, fins_4, fins_5, isub, Int.toNat_natCast, g_isn, g_isnn, r_callK, g_sorted, g_app, g_isL, isLst_lst, ex_unit, g_addI, own_int, g_enL, g_enT, g_sortU, g_rgL2, g_rgT2, g_eq1, frzs_tl]
  refine call_run (alike_masks_ok' hm) rfl rfl ?_
  simp only [r_tupO, r_pc, r_en, r_augI, r_pS, r_seq, r_ifS, r_tst, r_not, r_and, r_or, r_bin, r_un, r_var, r_frz, r_mov, r_c, r_set, r_st, r_mut, r_do, r_ret, r_p0, r_pure, r_cons, r_nil, r_skip, r_modE, r_lst, r_tup, r_if, r_andV, r_orV, r_comp, r_for, r_rng1, r_rng2, r_its, r_zip, r_call, r_gnil, r_gcons, r_glend, r_par2, r_par3, r_nop, r_part, r_sl, r_chain, getv_s, gv_int, gv_bl, gv_str, gv_non, gv_lst, gv_tup, gv_scr, g_some, exists_eq_left, exists_eq_left', Val.int.injEq, Val.bl.injEq, Out.rt.injEq, and_assoc, exists_and_left, g_if, g_ixL, g_ixT, g_ixS, at_0, at_1, at_2, g_lt, g_le, g_gt, g_ge, g_tbl, g_tint, g_tlst, g_ttup, g_div, g_mod, g_mul, g_add, g_sub, g_pow, g_shl, g_shr, g_neg, g_not, g_bl, g_eqi, g_int, g_intb, g_lenL, g_lenT, g_lenS, g_max2, g_min2, no_int, no_bl, g_sum, g_slS, g_rng1, g_rng2, g_itsL, g_itsT, g_eqb, g_nei, g_neb, two_mk, g_IB, is_int, is_bl, is_str, is_non, is_tup, is_lst, it_int, it_bl, it_str, it_non, it_tup, it_lst, mod_nil, fset_0, fset_1, fset_2, pair2_mk, pair3_mk, and_true, true_and, frzs, frz, List.length_map, putAll, List.replicate, Nat.reduceSub, List.cons_append, List.nil_append, List.set_cons_zero, List.set_cons_succ, true_implies, Bool.true_eq_false, Bool.false_eq_true, false_implies, and_true, true_and, Bool.not_true, Bool.not_false, pick, List.getElem?_cons_zero, List.getElem?_cons_succ, List.eraseIdx_cons_zero, List.eraseIdx_cons_succ, Bool.false_and, beq_self_eq_true, decide_true, List.isEmpty_nil, List.isEmpty_cons, wipeE, restE, List.getD_cons_succ, List.getD_cons_zero, List.getD_nil, r_ok, g_allR, List.length_replicate, frzs_vi, frzs_tab, tab_len, wn_len, fins_1, fins_2, fins_3, fins_4, fins_5, isub, Int.toNat_natCast, g_isn, g_isnn, r_callK, g_sorted, g_app, g_isL, isLst_lst, ex_unit, g_addI, own_int, g_enL, g_enT, g_sortU, g_rgL2, g_rgT2, g_eq1, frzs_tl]
  refine call_run (lots_of_ok hm (Nat.le_trans (alN_len B m) (le256 hm)) al_in) rfl rfl ?_
  exact ⟨rfl, rfl⟩
theorem firm_lots_ok {B : Nat → Nat → Bool} {m : Nat} (hm : m ≤ 8) (hT : Tour B m) : F_firm_lots [.tup (tabV B m)] = some (.ok (.lst true (tl (srtL ((frN B m).map (lotN m))))), [.tup (tabV B m)]) := by
  refine fn_run rfl ?_
  simp only [D_firm_lots, r_tupO, r_pc, r_en, r_augI, r_pS, r_seq, r_ifS, r_tst, r_not, r_and, r_or, r_bin, r_un, r_var, r_frz, r_mov, r_c, r_set, r_st, r_mut, r_do, r_ret, r_p0, r_pure, r_cons, r_nil, r_skip, r_modE, r_lst, r_tup, r_if, r_andV, r_orV, r_comp, r_for, r_rng1, r_rng2, r_its, r_zip, r_call, r_gnil, r_gcons, r_glend, r_par2, r_par3, r_nop, r_part, r_sl, r_chain, getv_s, gv_int, gv_bl, gv_str, gv_non, gv_lst, gv_tup, gv_scr, g_some, exists_eq_left, exists_eq_left', Val.int.injEq, Val.bl.injEq, Out.rt.injEq, and_assoc, exists_and_left, g_if, g_ixL, g_ixT, g_ixS, at_0, at_1, at_2, g_lt, g_le, g_gt, g_ge, g_tbl, g_tint, g_tlst, g_ttup, g_div, g_mod, g_mul, g_add, g_sub, g_pow, g_shl, g_shr, g_neg, g_not, g_bl, g_eqi, g_int, g_intb, g_lenL, g_lenT, g_lenS, g_max2, g_min2, no_int, no_bl, g_sum, g_slS, g_rng1, g_rng2, g_itsL, g_itsT, g_eqb, g_nei, g_neb, two_mk, g_IB, is_int, is_bl, is_str, is_non, is_tup, is_lst, it_int, it_bl, it_str, it_non, it_tup, it_lst, mod_nil, fset_0, fset_1, fset_2, pair2_mk, pair3_mk, and_true, true_and, frzs, frz, List.length_map, putAll, List.replicate, Nat.reduceSub, List.cons_append, List.nil_append, List.set_cons_zero, List.set_cons_succ, true_implies, Bool.true_eq_false, Bool.false_eq_true, false_implies, and_true, true_and, Bool.not_true, Bool.not_false, pick, List.getElem?_cons_zero, List.getElem?_cons_succ, List.eraseIdx_cons_zero, List.eraseIdx_cons_succ, Bool.false_and, beq_self_eq_true, decide_true, List.isEmpty_nil, List.isEmpty_cons, wipeE, restE, List.getD_cons_succ, List.getD_cons_zero, List.getD_nil, r_ok, g_allR, List.length_replicate, frzs_vi, frzs_tab, tab_len, wn_len, fins_1, fins_2, fins_3, fins_4, fins_5, isub, Int.toNat_natCast, g_isn, g_isnn, r_callK, g_sorted, g_app, g_isL, isLst_lst, ex_unit, g_addI, own_int, g_enL, g_enT, g_sortU, g_rgL2, g_rgT2, g_eq1, frzs_tl]
  refine call_run (need_table_ok hm hT) rfl rfl ?_
  simp only [r_tupO, r_pc, r_en, r_augI, r_pS, r_seq, r_ifS, r_tst, r_not, r_and, r_or, r_bin, r_un, r_var, r_frz, r_mov, r_c, r_set, r_st, r_mut, r_do, r_ret, r_p0, r_pure, r_cons, r_nil, r_skip, r_modE, r_lst, r_tup, r_if, r_andV, r_orV, r_comp, r_for, r_rng1, r_rng2, r_its, r_zip, r_call, r_gnil, r_gcons, r_glend, r_par2, r_par3, r_nop, r_part, r_sl, r_chain, getv_s, gv_int, gv_bl, gv_str, gv_non, gv_lst, gv_tup, gv_scr, g_some, exists_eq_left, exists_eq_left', Val.int.injEq, Val.bl.injEq, Out.rt.injEq, and_assoc, exists_and_left, g_if, g_ixL, g_ixT, g_ixS, at_0, at_1, at_2, g_lt, g_le, g_gt, g_ge, g_tbl, g_tint, g_tlst, g_ttup, g_div, g_mod, g_mul, g_add, g_sub, g_pow, g_shl, g_shr, g_neg, g_not, g_bl, g_eqi, g_int, g_intb, g_lenL, g_lenT, g_lenS, g_max2, g_min2, no_int, no_bl, g_sum, g_slS, g_rng1, g_rng2, g_itsL, g_itsT, g_eqb, g_nei, g_neb, two_mk, g_IB, is_int, is_bl, is_str, is_non, is_tup, is_lst, it_int, it_bl, it_str, it_non, it_tup, it_lst, mod_nil, fset_0, fset_1, fset_2, pair2_mk, pair3_mk, and_true, true_and, frzs, frz, List.length_map, putAll, List.replicate, Nat.reduceSub, List.cons_append, List.nil_append, List.set_cons_zero, List.set_cons_succ, true_implies, Bool.true_eq_false, Bool.false_eq_true, false_implies, and_true, true_and, Bool.not_true, Bool.not_false, pick, List.getElem?_cons_zero, List.getElem?_cons_succ, List.eraseIdx_cons_zero, List.eraseIdx_cons_succ, Bool.false_and, beq_self_eq_true, decide_true, List.isEmpty_nil, List.isEmpty_cons, wipeE, restE, List.getD_cons_succ, List.getD_cons_zero, List.getD_nil, r_ok, g_allR, List.length_replicate, frzs_vi, frzs_tab, tab_len, wn_len, fins_1, fins_2, fins_3, fins_4, fins_5, isub, Int.toNat_natCast, g_isn, g_isnn, r_callK, g_sorted, g_app, g_isL, isLst_lst, ex_unit, g_addI, own_int, g_enL, g_enT, g_sortU, g_rgL2, g_rgT2, g_eq1, frzs_tl]
  refine call_run (firm_masks_ok hm) rfl rfl ?_
  simp only [r_tupO, r_pc, r_en, r_augI, r_pS, r_seq, r_ifS, r_tst, r_not, r_and, r_or, r_bin, r_un, r_var, r_frz, r_mov, r_c, r_set, r_st, r_mut, r_do, r_ret, r_p0, r_pure, r_cons, r_nil, r_skip, r_modE, r_lst, r_tup, r_if, r_andV, r_orV, r_comp, r_for, r_rng1, r_rng2, r_its, r_zip, r_call, r_gnil, r_gcons, r_glend, r_par2, r_par3, r_nop, r_part, r_sl, r_chain, getv_s, gv_int, gv_bl, gv_str, gv_non, gv_lst, gv_tup, gv_scr, g_some, exists_eq_left, exists_eq_left', Val.int.injEq, Val.bl.injEq, Out.rt.injEq, and_assoc, exists_and_left, g_if, g_ixL, g_ixT, g_ixS, at_0, at_1, at_2, g_lt, g_le, g_gt, g_ge, g_tbl, g_tint, g_tlst, g_ttup, g_div, g_mod, g_mul, g_add, g_sub, g_pow, g_shl, g_shr, g_neg, g_not, g_bl, g_eqi, g_int, g_intb, g_lenL, g_lenT, g_lenS, g_max2, g_min2, no_int, no_bl, g_sum, g_slS, g_rng1, g_rng2, g_itsL, g_itsT, g_eqb, g_nei, g_neb, two_mk, g_IB, is_int, is_bl, is_str, is_non, is_tup, is_lst, it_int, it_bl, it_str, it_non, it_tup, it_lst, mod_nil, fset_0, fset_1, fset_2, pair2_mk, pair3_mk, and_true, true_and, frzs, frz, List.length_map, putAll, List.replicate, Nat.reduceSub, List.cons_append, List.nil_append, List.set_cons_zero, List.set_cons_succ, true_implies, Bool.true_eq_false, Bool.false_eq_true, false_implies, and_true, true_and, Bool.not_true, Bool.not_false, pick, List.getElem?_cons_zero, List.getElem?_cons_succ, List.eraseIdx_cons_zero, List.eraseIdx_cons_succ, Bool.false_and, beq_self_eq_true, decide_true, List.isEmpty_nil, List.isEmpty_cons, wipeE, restE, List.getD_cons_succ, List.getD_cons_zero, List.getD_nil, r_ok, g_allR, List.length_replicate, frzs_vi, frzs_tab, tab_len, wn_len, fins_1, fins_2, fins_3, fins_4, fins_5, isub, Int.toNat_natCast, g_isn, g_isnn, r_callK, g_sorted, g_app, g_isL, isLst_lst, ex_unit, g_addI, own_int, g_enL, g_enT, g_sortU, g_rgL2, g_rgT2, g_eq1, frzs_tl]
  refine call_run (lots_of_ok hm (Nat.le_trans (frN_len B m) (le256 hm)) fr_in) rfl rfl ?_
  exact ⟨rfl, rfl⟩
def smp (B : Nat → Nat → Bool) (m : Nat) : Bool := decide (2 < m) && decide ((alN B m).length = m + 1)
theorem is_simple_ok {B : Nat → Nat → Bool} {m : Nat} (hm : m ≤ 8) (hT : Tour B m) : F_is_simple [.tup (tabV B m)] = some (.ok (.bl (smp B m)), [.tup (tabV B m)]) := by
  have hf : F_is_simple_form [.tup (tabV B m)] = some (.ok (.bl (smp B m)), [.tup (tabV B m)]) := by
    refine fn_run rfl ?_
    simp only [D_is_simple_form, r_tupO, r_pc, r_en, r_augI, r_pS, r_seq, r_ifS, r_tst, r_not, r_and, r_or, r_bin, r_un, r_var, r_frz, r_mov, r_c, r_set, r_st, r_mut, r_do, r_ret, r_p0, r_pure, r_cons, r_nil, r_skip, r_modE, r_lst, r_tup, r_if, r_andV, r_orV, r_comp, r_for, r_rng1, r_rng2, r_its, r_zip, r_call, r_gnil, r_gcons, r_glend, r_par2, r_par3, r_nop, r_part, r_sl, r_chain, getv_s, gv_int, gv_bl, gv_str, gv_non, gv_lst, gv_tup, gv_scr, g_some, exists_eq_left, exists_eq_left', Val.int.injEq, Val.bl.injEq, Out.rt.injEq, and_assoc, exists_and_left, g_if, g_ixL, g_ixT, g_ixS, at_0, at_1, at_2, g_lt, g_le, g_gt, g_ge, g_tbl, g_tint, g_tlst, g_ttup, g_div, g_mod, g_mul, g_add, g_sub, g_pow, g_shl, g_shr, g_neg, g_not, g_bl, g_eqi, g_int, g_intb, g_lenL, g_lenT, g_lenS, g_max2, g_min2, no_int, no_bl, g_sum, g_slS, g_rng1, g_rng2, g_itsL, g_itsT, g_eqb, g_nei, g_neb, two_mk, g_IB, is_int, is_bl, is_str, is_non, is_tup, is_lst, it_int, it_bl, it_str, it_non, it_tup, it_lst, mod_nil, fset_0, fset_1, fset_2, pair2_mk, pair3_mk, and_true, true_and, frzs, frz, List.length_map, putAll, List.replicate, Nat.reduceSub, List.cons_append, List.nil_append, List.set_cons_zero, List.set_cons_succ, true_implies, Bool.true_eq_false, Bool.false_eq_true, false_implies, and_true, true_and, Bool.not_true, Bool.not_false, pick, List.getElem?_cons_zero, List.getElem?_cons_succ, List.eraseIdx_cons_zero, List.eraseIdx_cons_succ, Bool.false_and, beq_self_eq_true, decide_true, List.isEmpty_nil, List.isEmpty_cons, wipeE, restE, List.getD_cons_succ, List.getD_cons_zero, List.getD_nil, r_ok, g_allR, List.length_replicate, frzs_vi, frzs_tab, tab_len, wn_len, fins_1, fins_2, fins_3, fins_4, fins_5, isub, Int.toNat_natCast, g_isn, g_isnn, r_callK, g_sorted, g_app, g_isL, isLst_lst, ex_unit, g_addI, own_int, g_enL, g_enT, g_sortU, g_rgL2, g_rgT2, g_eq1, frzs_tl]
    refine ⟨fun h => ?_, fun h => ?_⟩
    · have h := of_decide_eq_true h
      unfold smp
      rw [decide_eq_false (by omega)]
      all_goals (repeat' first | exact rfl | apply And.intro)
    · have h := of_decide_eq_false h
      have hl := alN_len B m
      have h2 := le256 hm
      refine call_run (alike_masks_ok' hm) rfl rfl ?_
      simp only [r_tupO, r_pc, r_en, r_augI, r_pS, r_seq, r_ifS, r_tst, r_not, r_and, r_or, r_bin, r_un, r_var, r_frz, r_mov, r_c, r_set, r_st, r_mut, r_do, r_ret, r_p0, r_pure, r_cons, r_nil, r_skip, r_modE, r_lst, r_tup, r_if, r_andV, r_orV, r_comp, r_for, r_rng1, r_rng2, r_its, r_zip, r_call, r_gnil, r_gcons, r_glend, r_par2, r_par3, r_nop, r_part, r_sl, r_chain, getv_s, gv_int, gv_bl, gv_str, gv_non, gv_lst, gv_tup, gv_scr, g_some, exists_eq_left, exists_eq_left', Val.int.injEq, Val.bl.injEq, Out.rt.injEq, and_assoc, exists_and_left, g_if, g_ixL, g_ixT, g_ixS, at_0, at_1, at_2, g_lt, g_le, g_gt, g_ge, g_tbl, g_tint, g_tlst, g_ttup, g_div, g_mod, g_mul, g_add, g_sub, g_pow, g_shl, g_shr, g_neg, g_not, g_bl, g_eqi, g_int, g_intb, g_lenL, g_lenT, g_lenS, g_max2, g_min2, no_int, no_bl, g_sum, g_slS, g_rng1, g_rng2, g_itsL, g_itsT, g_eqb, g_nei, g_neb, two_mk, g_IB, is_int, is_bl, is_str, is_non, is_tup, is_lst, it_int, it_bl, it_str, it_non, it_tup, it_lst, mod_nil, fset_0, fset_1, fset_2, pair2_mk, pair3_mk, and_true, true_and, frzs, frz, List.length_map, putAll, List.replicate, Nat.reduceSub, List.cons_append, List.nil_append, List.set_cons_zero, List.set_cons_succ, true_implies, Bool.true_eq_false, Bool.false_eq_true, false_implies, and_true, true_and, Bool.not_true, Bool.not_false, pick, List.getElem?_cons_zero, List.getElem?_cons_succ, List.eraseIdx_cons_zero, List.eraseIdx_cons_succ, Bool.false_and, beq_self_eq_true, decide_true, List.isEmpty_nil, List.isEmpty_cons, wipeE, restE, List.getD_cons_succ, List.getD_cons_zero, List.getD_nil, r_ok, g_allR, List.length_replicate, frzs_vi, frzs_tab, tab_len, wn_len, fins_1, fins_2, fins_3, fins_4, fins_5, isub, Int.toNat_natCast, g_isn, g_isnn, r_callK, g_sorted, g_app, g_isL, isLst_lst, ex_unit, g_addI, own_int, g_enL, g_enT, g_sortU, g_rgL2, g_rgT2, g_eq1, frzs_tl]
      rw [comp_gen (alN B m) (fun t : Nat => .int (t : Int)) (fun t => .bl (oneAll m t)) (vi_ci _) fun t ht => ?_]
      · simp only [r_tupO, r_pc, r_en, r_augI, r_pS, r_seq, r_ifS, r_tst, r_not, r_and, r_or, r_bin, r_un, r_var, r_frz, r_mov, r_c, r_set, r_st, r_mut, r_do, r_ret, r_p0, r_pure, r_cons, r_nil, r_skip, r_modE, r_lst, r_tup, r_if, r_andV, r_orV, r_comp, r_for, r_rng1, r_rng2, r_its, r_zip, r_call, r_gnil, r_gcons, r_glend, r_par2, r_par3, r_nop, r_part, r_sl, r_chain, getv_s, gv_int, gv_bl, gv_str, gv_non, gv_lst, gv_tup, gv_scr, g_some, exists_eq_left, exists_eq_left', Val.int.injEq, Val.bl.injEq, Out.rt.injEq, and_assoc, exists_and_left, g_if, g_ixL, g_ixT, g_ixS, at_0, at_1, at_2, g_lt, g_le, g_gt, g_ge, g_tbl, g_tint, g_tlst, g_ttup, g_div, g_mod, g_mul, g_add, g_sub, g_pow, g_shl, g_shr, g_neg, g_not, g_bl, g_eqi, g_int, g_intb, g_lenL, g_lenT, g_lenS, g_max2, g_min2, no_int, no_bl, g_sum, g_slS, g_rng1, g_rng2, g_itsL, g_itsT, g_eqb, g_nei, g_neb, two_mk, g_IB, is_int, is_bl, is_str, is_non, is_tup, is_lst, it_int, it_bl, it_str, it_non, it_tup, it_lst, mod_nil, fset_0, fset_1, fset_2, pair2_mk, pair3_mk, and_true, true_and, frzs, frz, List.length_map, putAll, List.replicate, Nat.reduceSub, List.cons_append, List.nil_append, List.set_cons_zero, List.set_cons_succ, true_implies, Bool.true_eq_false, Bool.false_eq_true, false_implies, and_true, true_and, Bool.not_true, Bool.not_false, pick, List.getElem?_cons_zero, List.getElem?_cons_succ, List.eraseIdx_cons_zero, List.eraseIdx_cons_succ, Bool.false_and, beq_self_eq_true, decide_true, List.isEmpty_nil, List.isEmpty_cons, wipeE, restE, List.getD_cons_succ, List.getD_cons_zero, List.getD_nil, r_ok, g_allR, List.length_replicate, frzs_vi, frzs_tab, tab_len, wn_len, fins_1, fins_2, fins_3, fins_4, fins_5, isub, Int.toNat_natCast, g_isn, g_isnn, r_callK, g_sorted, g_app, g_isL, isLst_lst, ex_unit, g_addI, own_int, g_enL, g_enT, g_sortU, g_rgL2, g_rgT2, g_eq1, frzs_tl, g_allM]
        refine ⟨decide_eq_true (by omega), ?_⟩
        unfold smp
        rw [simple_iff (by omega) (by omega), decide_eq_true (show 2 < m by omega)]
        all_goals (repeat' first | exact rfl | apply And.intro)
      · refine ⟨_, rfl, ?_⟩
        simp only [r_tupO, r_pc, r_en, r_augI, r_pS, r_seq, r_ifS, r_tst, r_not, r_and, r_or, r_bin, r_un, r_var, r_frz, r_mov, r_c, r_set, r_st, r_mut, r_do, r_ret, r_p0, r_pure, r_cons, r_nil, r_skip, r_modE, r_lst, r_tup, r_if, r_andV, r_orV, r_comp, r_for, r_rng1, r_rng2, r_its, r_zip, r_call, r_gnil, r_gcons, r_glend, r_par2, r_par3, r_nop, r_part, r_sl, r_chain, getv_s, gv_int, gv_bl, gv_str, gv_non, gv_lst, gv_tup, gv_scr, g_some, exists_eq_left, exists_eq_left', Val.int.injEq, Val.bl.injEq, Out.rt.injEq, and_assoc, exists_and_left, g_if, g_ixL, g_ixT, g_ixS, at_0, at_1, at_2, g_lt, g_le, g_gt, g_ge, g_tbl, g_tint, g_tlst, g_ttup, g_div, g_mod, g_mul, g_add, g_sub, g_pow, g_shl, g_shr, g_neg, g_not, g_bl, g_eqi, g_int, g_intb, g_lenL, g_lenT, g_lenS, g_max2, g_min2, no_int, no_bl, g_sum, g_slS, g_rng1, g_rng2, g_itsL, g_itsT, g_eqb, g_nei, g_neb, two_mk, g_IB, is_int, is_bl, is_str, is_non, is_tup, is_lst, it_int, it_bl, it_str, it_non, it_tup, it_lst, mod_nil, fset_0, fset_1, fset_2, pair2_mk, pair3_mk, and_true, true_and, frzs, frz, List.length_map, putAll, List.replicate, Nat.reduceSub, List.cons_append, List.nil_append, List.set_cons_zero, List.set_cons_succ, true_implies, Bool.true_eq_false, Bool.false_eq_true, false_implies, and_true, true_and, Bool.not_true, Bool.not_false, pick, List.getElem?_cons_zero, List.getElem?_cons_succ, List.eraseIdx_cons_zero, List.eraseIdx_cons_succ, Bool.false_and, beq_self_eq_true, decide_true, List.isEmpty_nil, List.isEmpty_cons, wipeE, restE, List.getD_cons_succ, List.getD_cons_zero, List.getD_nil, r_ok, g_allR, List.length_replicate, frzs_vi, frzs_tab, tab_len, wn_len, fins_1, fins_2, fins_3, fins_4, fins_5, isub, Int.toNat_natCast, g_isn, g_isnn, r_callK, g_sorted, g_app, g_isL, isLst_lst, ex_unit, g_addI, own_int, g_enL, g_enT, g_sortU, g_rgL2, g_rgT2, g_eq1, frzs_tl]
        refine call_run (bits_in_ok (m := m) (by omega) (al_in t ht).2) rfl rfl ?_
        have := g_inU (g_inVi (i := ((lotN m t).length : Int)) (ns := [1, (m : Int)]))
        simp only [r_tupO, r_pc, r_en, r_augI, r_pS, r_seq, r_ifS, r_tst, r_not, r_and, r_or, r_bin, r_un, r_var, r_frz, r_mov, r_c, r_set, r_st, r_mut, r_do, r_ret, r_p0, r_pure, r_cons, r_nil, r_skip, r_modE, r_lst, r_tup, r_if, r_andV, r_orV, r_comp, r_for, r_rng1, r_rng2, r_its, r_zip, r_call, r_gnil, r_gcons, r_glend, r_par2, r_par3, r_nop, r_part, r_sl, r_chain, getv_s, gv_int, gv_bl, gv_str, gv_non, gv_lst, gv_tup, gv_scr, g_some, exists_eq_left, exists_eq_left', Val.int.injEq, Val.bl.injEq, Out.rt.injEq, and_assoc, exists_and_left, g_if, g_ixL, g_ixT, g_ixS, at_0, at_1, at_2, g_lt, g_le, g_gt, g_ge, g_tbl, g_tint, g_tlst, g_ttup, g_div, g_mod, g_mul, g_add, g_sub, g_pow, g_shl, g_shr, g_neg, g_not, g_bl, g_eqi, g_int, g_intb, g_lenL, g_lenT, g_lenS, g_max2, g_min2, no_int, no_bl, g_sum, g_slS, g_rng1, g_rng2, g_itsL, g_itsT, g_eqb, g_nei, g_neb, two_mk, g_IB, is_int, is_bl, is_str, is_non, is_tup, is_lst, it_int, it_bl, it_str, it_non, it_tup, it_lst, mod_nil, fset_0, fset_1, fset_2, pair2_mk, pair3_mk, and_true, true_and, frzs, frz, List.length_map, putAll, List.replicate, Nat.reduceSub, List.cons_append, List.nil_append, List.set_cons_zero, List.set_cons_succ, true_implies, Bool.true_eq_false, Bool.false_eq_true, false_implies, and_true, true_and, Bool.not_true, Bool.not_false, pick, List.getElem?_cons_zero, List.getElem?_cons_succ, List.eraseIdx_cons_zero, List.eraseIdx_cons_succ, Bool.false_and, beq_self_eq_true, decide_true, List.isEmpty_nil, List.isEmpty_cons, wipeE, restE, List.getD_cons_succ, List.getD_cons_zero, List.getD_nil, r_ok, g_allR, List.length_replicate, frzs_vi, frzs_tab, tab_len, wn_len, fins_1, fins_2, fins_3, fins_4, fins_5, isub, Int.toNat_natCast, g_isn, g_isnn, r_callK, g_sorted, g_app, g_isL, isLst_lst, ex_unit, g_addI, own_int, g_enL, g_enT, g_sortU, g_rgL2, g_rgT2, g_eq1, frzs_tl]
        refine ⟨rfl, _, this, ?_⟩
        unfold oneAll
        congr 1
        rw [Bool.eq_iff_iff]
        simp
        omega
  refine fn_run rfl ?_
  simp only [D_is_simple, r_tupO, r_pc, r_en, r_augI, r_pS, r_seq, r_ifS, r_tst, r_not, r_and, r_or, r_bin, r_un, r_var, r_frz, r_mov, r_c, r_set, r_st, r_mut, r_do, r_ret, r_p0, r_pure, r_cons, r_nil, r_skip, r_modE, r_lst, r_tup, r_if, r_andV, r_orV, r_comp, r_for, r_rng1, r_rng2, r_its, r_zip, r_call, r_gnil, r_gcons, r_glend, r_par2, r_par3, r_nop, r_part, r_sl, r_chain, getv_s, gv_int, gv_bl, gv_str, gv_non, gv_lst, gv_tup, gv_scr, g_some, exists_eq_left, exists_eq_left', Val.int.injEq, Val.bl.injEq, Out.rt.injEq, and_assoc, exists_and_left, g_if, g_ixL, g_ixT, g_ixS, at_0, at_1, at_2, g_lt, g_le, g_gt, g_ge, g_tbl, g_tint, g_tlst, g_ttup, g_div, g_mod, g_mul, g_add, g_sub, g_pow, g_shl, g_shr, g_neg, g_not, g_bl, g_eqi, g_int, g_intb, g_lenL, g_lenT, g_lenS, g_max2, g_min2, no_int, no_bl, g_sum, g_slS, g_rng1, g_rng2, g_itsL, g_itsT, g_eqb, g_nei, g_neb, two_mk, g_IB, is_int, is_bl, is_str, is_non, is_tup, is_lst, it_int, it_bl, it_str, it_non, it_tup, it_lst, mod_nil, fset_0, fset_1, fset_2, pair2_mk, pair3_mk, and_true, true_and, frzs, frz, List.length_map, putAll, List.replicate, Nat.reduceSub, List.cons_append, List.nil_append, List.set_cons_zero, List.set_cons_succ, true_implies, Bool.true_eq_false, Bool.false_eq_true, false_implies, and_true, true_and, Bool.not_true, Bool.not_false, pick, List.getElem?_cons_zero, List.getElem?_cons_succ, List.eraseIdx_cons_zero, List.eraseIdx_cons_succ, Bool.false_and, beq_self_eq_true, decide_true, List.isEmpty_nil, List.isEmpty_cons, wipeE, restE, List.getD_cons_succ, List.getD_cons_zero, List.getD_nil, r_ok, g_allR, List.length_replicate, frzs_vi, frzs_tab, tab_len, wn_len, fins_1, fins_2, fins_3, fins_4, fins_5, isub, Int.toNat_natCast, g_isn, g_isnn, r_callK, g_sorted, g_app, g_isL, isLst_lst, ex_unit, g_addI, own_int, g_enL, g_enT, g_sortU, g_rgL2, g_rgT2, g_eq1, frzs_tl]
  refine call_run (need_table_ok hm hT) rfl rfl ?_
  simp only [r_tupO, r_pc, r_en, r_augI, r_pS, r_seq, r_ifS, r_tst, r_not, r_and, r_or, r_bin, r_un, r_var, r_frz, r_mov, r_c, r_set, r_st, r_mut, r_do, r_ret, r_p0, r_pure, r_cons, r_nil, r_skip, r_modE, r_lst, r_tup, r_if, r_andV, r_orV, r_comp, r_for, r_rng1, r_rng2, r_its, r_zip, r_call, r_gnil, r_gcons, r_glend, r_par2, r_par3, r_nop, r_part, r_sl, r_chain, getv_s, gv_int, gv_bl, gv_str, gv_non, gv_lst, gv_tup, gv_scr, g_some, exists_eq_left, exists_eq_left', Val.int.injEq, Val.bl.injEq, Out.rt.injEq, and_assoc, exists_and_left, g_if, g_ixL, g_ixT, g_ixS, at_0, at_1, at_2, g_lt, g_le, g_gt, g_ge, g_tbl, g_tint, g_tlst, g_ttup, g_div, g_mod, g_mul, g_add, g_sub, g_pow, g_shl, g_shr, g_neg, g_not, g_bl, g_eqi, g_int, g_intb, g_lenL, g_lenT, g_lenS, g_max2, g_min2, no_int, no_bl, g_sum, g_slS, g_rng1, g_rng2, g_itsL, g_itsT, g_eqb, g_nei, g_neb, two_mk, g_IB, is_int, is_bl, is_str, is_non, is_tup, is_lst, it_int, it_bl, it_str, it_non, it_tup, it_lst, mod_nil, fset_0, fset_1, fset_2, pair2_mk, pair3_mk, and_true, true_and, frzs, frz, List.length_map, putAll, List.replicate, Nat.reduceSub, List.cons_append, List.nil_append, List.set_cons_zero, List.set_cons_succ, true_implies, Bool.true_eq_false, Bool.false_eq_true, false_implies, and_true, true_and, Bool.not_true, Bool.not_false, pick, List.getElem?_cons_zero, List.getElem?_cons_succ, List.eraseIdx_cons_zero, List.eraseIdx_cons_succ, Bool.false_and, beq_self_eq_true, decide_true, List.isEmpty_nil, List.isEmpty_cons, wipeE, restE, List.getD_cons_succ, List.getD_cons_zero, List.getD_nil, r_ok, g_allR, List.length_replicate, frzs_vi, frzs_tab, tab_len, wn_len, fins_1, fins_2, fins_3, fins_4, fins_5, isub, Int.toNat_natCast, g_isn, g_isnn, r_callK, g_sorted, g_app, g_isL, isLst_lst, ex_unit, g_addI, own_int, g_enL, g_enT, g_sortU, g_rgL2, g_rgT2, g_eq1, frzs_tl]
  exact call_run hf rfl rfl ⟨rfl, rfl⟩
theorem law_alike_ok {B : Nat → Nat → Bool} {m : Nat} {o : Bool} (hm : m ≤ 8) : F__law_alike [.lst o (vi (wn B m))] = some (.ok (.lst true (vi (ci (alN B m)))), [.lst o (vi (wn B m))]) := by
  refine fn_run rfl ?_
  simp only [D__law_alike, r_tupO, r_pc, r_en, r_augI, r_pS, r_seq, r_ifS, r_tst, r_not, r_and, r_or, r_bin, r_un, r_var, r_frz, r_mov, r_c, r_set, r_st, r_mut, r_do, r_ret, r_p0, r_pure, r_cons, r_nil, r_skip, r_modE, r_lst, r_tup, r_if, r_andV, r_orV, r_comp, r_for, r_rng1, r_rng2, r_its, r_zip, r_call, r_gnil, r_gcons, r_glend, r_par2, r_par3, r_nop, r_part, r_sl, r_chain, getv_s, gv_int, gv_bl, gv_str, gv_non, gv_lst, gv_tup, gv_scr, g_some, exists_eq_left, exists_eq_left', Val.int.injEq, Val.bl.injEq, Out.rt.injEq, and_assoc, exists_and_left, g_if, g_ixL, g_ixT, g_ixS, at_0, at_1, at_2, g_lt, g_le, g_gt, g_ge, g_tbl, g_tint, g_tlst, g_ttup, g_div, g_mod, g_mul, g_add, g_sub, g_pow, g_shl, g_shr, g_neg, g_not, g_bl, g_eqi, g_int, g_intb, g_lenL, g_lenT, g_lenS, g_max2, g_min2, no_int, no_bl, g_sum, g_slS, g_rng1, g_rng2, g_itsL, g_itsT, g_eqb, g_nei, g_neb, two_mk, g_IB, is_int, is_bl, is_str, is_non, is_tup, is_lst, it_int, it_bl, it_str, it_non, it_tup, it_lst, mod_nil, fset_0, fset_1, fset_2, pair2_mk, pair3_mk, and_true, true_and, frzs, frz, List.length_map, putAll, List.replicate, Nat.reduceSub, List.cons_append, List.nil_append, List.set_cons_zero, List.set_cons_succ, true_implies, Bool.true_eq_false, Bool.false_eq_true, false_implies, and_true, true_and, Bool.not_true, Bool.not_false, pick, List.getElem?_cons_zero, List.getElem?_cons_succ, List.eraseIdx_cons_zero, List.eraseIdx_cons_succ, Bool.false_and, beq_self_eq_true, decide_true, List.isEmpty_nil, List.isEmpty_cons, wipeE, restE, List.getD_cons_succ, List.getD_cons_zero, List.getD_nil, r_ok, g_allR, List.length_replicate, frzs_vi, frzs_tab, tab_len, wn_len, fins_1, fins_2, fins_3, fins_4, fins_5, isub, Int.toNat_natCast, g_isn, g_isnn, r_callK, g_sorted, g_app, g_isL, isLst_lst, ex_unit, g_addI, own_int, g_enL, g_enT, g_sortU, g_rgL2, g_rgT2, g_eq1, frzs_tl]
  have h2 := le256 hm
  have h3 := Nat.two_pow_pos m
  have ep : (1 : Int) * 2 ^ m = ((2 ^ m : Nat) : Int) := by push_cast; omega
  rw [ep]
  refine ⟨rfl, shl_ok (by omega), rng2_ok (by omega) (by omega) (by omega) (by omega), ?_⟩
  rw [rgs21 h3]
  refine (for_run (fun i e => ∃ w3, e = [.lst o (vi (wn B m)), .int m, .lst true (vi (ci (((List.range i).map (· + 1)).filter (alk B m)))), w3, .gone]) ⟨_, rfl⟩ ?_).mono ?_
  · rintro i v e hv ⟨w3, rfl⟩
    obtain ⟨hi0, hv2⟩ := List.getElem?_eq_some_iff.mp hv
    have hi : i < 2 ^ m - 1 := by simpa using hi0
    have hvi : v = .int ((i + 1 : Nat) : Int) := by rw [← hv2]; simp
    subst hvi
    refine ⟨_, rfl, ?_⟩
    simp only [r_tupO, r_pc, r_en, r_augI, r_pS, r_seq, r_ifS, r_tst, r_not, r_and, r_or, r_bin, r_un, r_var, r_frz, r_mov, r_c, r_set, r_st, r_mut, r_do, r_ret, r_p0, r_pure, r_cons, r_nil, r_skip, r_modE, r_lst, r_tup, r_if, r_andV, r_orV, r_comp, r_for, r_rng1, r_rng2, r_its, r_zip, r_call, r_gnil, r_gcons, r_glend, r_par2, r_par3, r_nop, r_part, r_sl, r_chain, getv_s, gv_int, gv_bl, gv_str, gv_non, gv_lst, gv_tup, gv_scr, g_some, exists_eq_left, exists_eq_left', Val.int.injEq, Val.bl.injEq, Out.rt.injEq, and_assoc, exists_and_left, g_if, g_ixL, g_ixT, g_ixS, at_0, at_1, at_2, g_lt, g_le, g_gt, g_ge, g_tbl, g_tint, g_tlst, g_ttup, g_div, g_mod, g_mul, g_add, g_sub, g_pow, g_shl, g_shr, g_neg, g_not, g_bl, g_eqi, g_int, g_intb, g_lenL, g_lenT, g_lenS, g_max2, g_min2, no_int, no_bl, g_sum, g_slS, g_rng1, g_rng2, g_itsL, g_itsT, g_eqb, g_nei, g_neb, two_mk, g_IB, is_int, is_bl, is_str, is_non, is_tup, is_lst, it_int, it_bl, it_str, it_non, it_tup, it_lst, mod_nil, fset_0, fset_1, fset_2, pair2_mk, pair3_mk, and_true, true_and, frzs, frz, List.length_map, putAll, List.replicate, Nat.reduceSub, List.cons_append, List.nil_append, List.set_cons_zero, List.set_cons_succ, true_implies, Bool.true_eq_false, Bool.false_eq_true, false_implies, and_true, true_and, Bool.not_true, Bool.not_false, pick, List.getElem?_cons_zero, List.getElem?_cons_succ, List.eraseIdx_cons_zero, List.eraseIdx_cons_succ, Bool.false_and, beq_self_eq_true, decide_true, List.isEmpty_nil, List.isEmpty_cons, wipeE, restE, List.getD_cons_succ, List.getD_cons_zero, List.getD_nil, r_ok, g_allR, List.length_replicate, frzs_vi, frzs_tab, tab_len, wn_len, fins_1, fins_2, fins_3, fins_4, fins_5, isub, Int.toNat_natCast, g_isn, g_isnn, r_callK, g_sorted, g_app, g_isL, isLst_lst, ex_unit, g_addI, own_int, g_enL, g_enT, g_sortU, g_rgL2, g_rgT2, g_eq1, frzs_tl]
    refine ⟨decide_eq_true (by omega), ?_⟩
    rw [comp_flt (List.range m) (fun y => .int y) (fun _ => .int 1) (fun y => !alk1 B m (i + 1) y) (rgs_eq _) fun y hy => ?_]
    · simp only [r_tupO, r_pc, r_en, r_augI, r_pS, r_seq, r_ifS, r_tst, r_not, r_and, r_or, r_bin, r_un, r_var, r_frz, r_mov, r_c, r_set, r_st, r_mut, r_do, r_ret, r_p0, r_pure, r_cons, r_nil, r_skip, r_modE, r_lst, r_tup, r_if, r_andV, r_orV, r_comp, r_for, r_rng1, r_rng2, r_its, r_zip, r_call, r_gnil, r_gcons, r_glend, r_par2, r_par3, r_nop, r_part, r_sl, r_chain, getv_s, gv_int, gv_bl, gv_str, gv_non, gv_lst, gv_tup, gv_scr, g_some, exists_eq_left, exists_eq_left', Val.int.injEq, Val.bl.injEq, Out.rt.injEq, and_assoc, exists_and_left, g_if, g_ixL, g_ixT, g_ixS, at_0, at_1, at_2, g_lt, g_le, g_gt, g_ge, g_tbl, g_tint, g_tlst, g_ttup, g_div, g_mod, g_mul, g_add, g_sub, g_pow, g_shl, g_shr, g_neg, g_not, g_bl, g_eqi, g_int, g_intb, g_lenL, g_lenT, g_lenS, g_max2, g_min2, no_int, no_bl, g_sum, g_slS, g_rng1, g_rng2, g_itsL, g_itsT, g_eqb, g_nei, g_neb, two_mk, g_IB, is_int, is_bl, is_str, is_non, is_tup, is_lst, it_int, it_bl, it_str, it_non, it_tup, it_lst, mod_nil, fset_0, fset_1, fset_2, pair2_mk, pair3_mk, and_true, true_and, frzs, frz, List.length_map, putAll, List.replicate, Nat.reduceSub, List.cons_append, List.nil_append, List.set_cons_zero, List.set_cons_succ, true_implies, Bool.true_eq_false, Bool.false_eq_true, false_implies, and_true, true_and, Bool.not_true, Bool.not_false, pick, List.getElem?_cons_zero, List.getElem?_cons_succ, List.eraseIdx_cons_zero, List.eraseIdx_cons_succ, Bool.false_and, beq_self_eq_true, decide_true, List.isEmpty_nil, List.isEmpty_cons, wipeE, restE, List.getD_cons_succ, List.getD_cons_zero, List.getD_nil, r_ok, g_allR, List.length_replicate, frzs_vi, frzs_tab, tab_len, wn_len, fins_1, fins_2, fins_3, fins_4, fins_5, isub, Int.toNat_natCast, g_isn, g_isnn, r_callK, g_sorted, g_app, g_isL, isLst_lst, ex_unit, g_addI, own_int, g_enL, g_enT, g_sortU, g_rgL2, g_rgT2, g_eq1, frzs_tl]
      refine ⟨decide_eq_true (by have := filt_len (m := m) (f := fun y => !alk1 B m (i + 1) y); omega), rfl, ?_⟩
      rw [filt_emp, show (List.range m).all (alk1 B m (i + 1)) = alk B m (i + 1) from rfl]
      have ef : vi (ci (((List.range (i + 1)).map (· + 1)).filter (alk B m))) = vi (ci (((List.range i).map (· + 1)).filter (alk B m))) ++ if alk B m (i + 1) = true then [Val.int ((i + 1 : Nat) : Int)] else [] := by
        rw [List.range_succ, List.map_append, List.filter_append, vi_ci, vi_ci, List.map_append]
        congr 1
        by_cases h : alk B m (i + 1) = true <;> simp [h]
      rw [ef]
      have hs : (((List.range i).map (· + 1)).filter (alk B m)).length ≤ i := filt_len2 (by simp)
      refine ⟨fun h => ⟨decide_eq_true (by omega), .int ((i + 1 : Nat) : Int), ?_⟩, fun h => ⟨.int ((i + 1 : Nat) : Int), ?_⟩⟩
      · rw [if_pos h]
      · rw [if_neg (by rw [h]; decide), List.append_nil]
    · have hy : y < m := List.mem_range.mp hy
      refine ⟨_, rfl, ?_⟩
      simp only [r_tupO, r_pc, r_en, r_augI, r_pS, r_seq, r_ifS, r_tst, r_not, r_and, r_or, r_bin, r_un, r_var, r_frz, r_mov, r_c, r_set, r_st, r_mut, r_do, r_ret, r_p0, r_pure, r_cons, r_nil, r_skip, r_modE, r_lst, r_tup, r_if, r_andV, r_orV, r_comp, r_for, r_rng1, r_rng2, r_its, r_zip, r_call, r_gnil, r_gcons, r_glend, r_par2, r_par3, r_nop, r_part, r_sl, r_chain, getv_s, gv_int, gv_bl, gv_str, gv_non, gv_lst, gv_tup, gv_scr, g_some, exists_eq_left, exists_eq_left', Val.int.injEq, Val.bl.injEq, Out.rt.injEq, and_assoc, exists_and_left, g_if, g_ixL, g_ixT, g_ixS, at_0, at_1, at_2, g_lt, g_le, g_gt, g_ge, g_tbl, g_tint, g_tlst, g_ttup, g_div, g_mod, g_mul, g_add, g_sub, g_pow, g_shl, g_shr, g_neg, g_not, g_bl, g_eqi, g_int, g_intb, g_lenL, g_lenT, g_lenS, g_max2, g_min2, no_int, no_bl, g_sum, g_slS, g_rng1, g_rng2, g_itsL, g_itsT, g_eqb, g_nei, g_neb, two_mk, g_IB, is_int, is_bl, is_str, is_non, is_tup, is_lst, it_int, it_bl, it_str, it_non, it_tup, it_lst, mod_nil, fset_0, fset_1, fset_2, pair2_mk, pair3_mk, and_true, true_and, frzs, frz, List.length_map, putAll, List.replicate, Nat.reduceSub, List.cons_append, List.nil_append, List.set_cons_zero, List.set_cons_succ, true_implies, Bool.true_eq_false, Bool.false_eq_true, false_implies, and_true, true_and, Bool.not_true, Bool.not_false, pick, List.getElem?_cons_zero, List.getElem?_cons_succ, List.eraseIdx_cons_zero, List.eraseIdx_cons_succ, Bool.false_and, beq_self_eq_true, decide_true, List.isEmpty_nil, List.isEmpty_cons, wipeE, restE, List.getD_cons_succ, List.getD_cons_zero, List.getD_nil, r_ok, g_allR, List.length_replicate, frzs_vi, frzs_tab, tab_len, wn_len, fins_1, fins_2, fins_3, fins_4, fins_5, isub, Int.toNat_natCast, g_isn, g_isnn, r_callK, g_sorted, g_app, g_isL, isLst_lst, ex_unit, g_addI, own_int, g_enL, g_enT, g_sortU, g_rgL2, g_rgT2, g_eq1, frzs_tl, g_band, at_vi (at_nat (wn_get (B := B) hy)), shr_ok (show y < 1000 by omega), bit0, nin2]
      have ea : alk1 B m (i + 1) y = ((i + 1).testBit y || (decide (mk (B y) m &&& (i + 1) = 0) || decide (mk (B y) m &&& (i + 1) = i + 1))) := rfl
      rw [ea]
      generalize (decide (mk (B y) m &&& (i + 1) = 0) || decide (mk (B y) m &&& (i + 1) = i + 1)) = b
      refine ⟨fun h => ⟨rfl, ?_, fun _ => trivial, fun _ => trivial⟩, fun h => ?_⟩
      · revert h; cases (i + 1).testBit y <;> cases b <;> decide
      · revert h; cases (i + 1).testBit y <;> cases b <;> decide
  · rintro oo e ⟨rfl, w3, rfl⟩
    rw [show (((List.range (2 ^ m - 1)).map (· + 1)).map fun s : Nat => Val.int (s : Int)).length = 2 ^ m - 1 by simp]
    simp only [r_tupO, r_pc, r_en, r_augI, r_pS, r_seq, r_ifS, r_tst, r_not, r_and, r_or, r_bin, r_un, r_var, r_frz, r_mov, r_c, r_set, r_st, r_mut, r_do, r_ret, r_p0, r_pure, r_cons, r_nil, r_skip, r_modE, r_lst, r_tup, r_if, r_andV, r_orV, r_comp, r_for, r_rng1, r_rng2, r_its, r_zip, r_call, r_gnil, r_gcons, r_glend, r_par2, r_par3, r_nop, r_part, r_sl, r_chain, getv_s, gv_int, gv_bl, gv_str, gv_non, gv_lst, gv_tup, gv_scr, g_some, exists_eq_left, exists_eq_left', Val.int.injEq, Val.bl.injEq, Out.rt.injEq, and_assoc, exists_and_left, g_if, g_ixL, g_ixT, g_ixS, at_0, at_1, at_2, g_lt, g_le, g_gt, g_ge, g_tbl, g_tint, g_tlst, g_ttup, g_div, g_mod, g_mul, g_add, g_sub, g_pow, g_shl, g_shr, g_neg, g_not, g_bl, g_eqi, g_int, g_intb, g_lenL, g_lenT, g_lenS, g_max2, g_min2, no_int, no_bl, g_sum, g_slS, g_rng1, g_rng2, g_itsL, g_itsT, g_eqb, g_nei, g_neb, two_mk, g_IB, is_int, is_bl, is_str, is_non, is_tup, is_lst, it_int, it_bl, it_str, it_non, it_tup, it_lst, mod_nil, fset_0, fset_1, fset_2, pair2_mk, pair3_mk, and_true, true_and, frzs, frz, List.length_map, putAll, List.replicate, Nat.reduceSub, List.cons_append, List.nil_append, List.set_cons_zero, List.set_cons_succ, true_implies, Bool.true_eq_false, Bool.false_eq_true, false_implies, and_true, true_and, Bool.not_true, Bool.not_false, pick, List.getElem?_cons_zero, List.getElem?_cons_succ, List.eraseIdx_cons_zero, List.eraseIdx_cons_succ, Bool.false_and, beq_self_eq_true, decide_true, List.isEmpty_nil, List.isEmpty_cons, wipeE, restE, List.getD_cons_succ, List.getD_cons_zero, List.getD_nil, r_ok, g_allR, List.length_replicate, frzs_vi, frzs_tab, tab_len, wn_len, fins_1, fins_2, fins_3, fins_4, fins_5, isub, Int.toNat_natCast, g_isn, g_isnn, r_callK, g_sorted, g_app, g_isL, isLst_lst, ex_unit, g_addI, own_int, g_enL, g_enT, g_sortU, g_rgL2, g_rgT2, g_eq1, frzs_tl]
    all_goals (repeat' first | exact rfl | apply And.intro)
theorem right_ok {B : Nat → Nat → Bool} {m : Nat} {o : Bool} (hm : m ≤ 8) (hT : Tour B m) : F__law_right [.lst o (vi (wn B m))] = some (.ok (.bl true), [.lst false (vi (wn B m))]) := by
  have h2 := le256 hm
  have hal := alN_len B m
  have hfl := frN_len B m
  refine fn_run rfl ?_
  simp only [D__law_right, r_tupO, r_pc, r_en, r_augI, r_pS, r_seq, r_ifS, r_tst, r_not, r_and, r_or, r_bin, r_un, r_var, r_frz, r_mov, r_c, r_set, r_st, r_mut, r_do, r_ret, r_p0, r_pure, r_cons, r_nil, r_skip, r_modE, r_lst, r_tup, r_if, r_andV, r_orV, r_comp, r_for, r_rng1, r_rng2, r_its, r_zip, r_call, r_gnil, r_gcons, r_glend, r_par2, r_par3, r_nop, r_part, r_sl, r_chain, getv_s, gv_int, gv_bl, gv_str, gv_non, gv_lst, gv_tup, gv_scr, g_some, exists_eq_left, exists_eq_left', Val.int.injEq, Val.bl.injEq, Out.rt.injEq, and_assoc, exists_and_left, g_if, g_ixL, g_ixT, g_ixS, at_0, at_1, at_2, g_lt, g_le, g_gt, g_ge, g_tbl, g_tint, g_tlst, g_ttup, g_div, g_mod, g_mul, g_add, g_sub, g_pow, g_shl, g_shr, g_neg, g_not, g_bl, g_eqi, g_int, g_intb, g_lenL, g_lenT, g_lenS, g_max2, g_min2, no_int, no_bl, g_sum, g_slS, g_rng1, g_rng2, g_itsL, g_itsT, g_eqb, g_nei, g_neb, two_mk, g_IB, is_int, is_bl, is_str, is_non, is_tup, is_lst, it_int, it_bl, it_str, it_non, it_tup, it_lst, mod_nil, fset_0, fset_1, fset_2, pair2_mk, pair3_mk, and_true, true_and, frzs, frz, List.length_map, putAll, List.replicate, Nat.reduceSub, List.cons_append, List.nil_append, List.set_cons_zero, List.set_cons_succ, true_implies, Bool.true_eq_false, Bool.false_eq_true, false_implies, and_true, true_and, Bool.not_true, Bool.not_false, pick, List.getElem?_cons_zero, List.getElem?_cons_succ, List.eraseIdx_cons_zero, List.eraseIdx_cons_succ, Bool.false_and, beq_self_eq_true, decide_true, List.isEmpty_nil, List.isEmpty_cons, wipeE, restE, List.getD_cons_succ, List.getD_cons_zero, List.getD_nil, r_ok, g_allR, List.length_replicate, frzs_vi, frzs_tab, tab_len, wn_len, fins_1, fins_2, fins_3, fins_4, fins_5, isub, Int.toNat_natCast, g_isn, g_isnn, r_callK, g_sorted, g_app, g_isL, isLst_lst, ex_unit, g_addI, own_int, g_enL, g_enT, g_sortU, g_rgL2, g_rgT2, g_eq1, frzs_tl, r_asg]
  refine call_run (table_ok (by omega)) rfl rfl ?_
  simp only [r_tupO, r_pc, r_en, r_augI, r_pS, r_seq, r_ifS, r_tst, r_not, r_and, r_or, r_bin, r_un, r_var, r_frz, r_mov, r_c, r_set, r_st, r_mut, r_do, r_ret, r_p0, r_pure, r_cons, r_nil, r_skip, r_modE, r_lst, r_tup, r_if, r_andV, r_orV, r_comp, r_for, r_rng1, r_rng2, r_its, r_zip, r_call, r_gnil, r_gcons, r_glend, r_par2, r_par3, r_nop, r_part, r_sl, r_chain, getv_s, gv_int, gv_bl, gv_str, gv_non, gv_lst, gv_tup, gv_scr, g_some, exists_eq_left, exists_eq_left', Val.int.injEq, Val.bl.injEq, Out.rt.injEq, and_assoc, exists_and_left, g_if, g_ixL, g_ixT, g_ixS, at_0, at_1, at_2, g_lt, g_le, g_gt, g_ge, g_tbl, g_tint, g_tlst, g_ttup, g_div, g_mod, g_mul, g_add, g_sub, g_pow, g_shl, g_shr, g_neg, g_not, g_bl, g_eqi, g_int, g_intb, g_lenL, g_lenT, g_lenS, g_max2, g_min2, no_int, no_bl, g_sum, g_slS, g_rng1, g_rng2, g_itsL, g_itsT, g_eqb, g_nei, g_neb, two_mk, g_IB, is_int, is_bl, is_str, is_non, is_tup, is_lst, it_int, it_bl, it_str, it_non, it_tup, it_lst, mod_nil, fset_0, fset_1, fset_2, pair2_mk, pair3_mk, and_true, true_and, frzs, frz, List.length_map, putAll, List.replicate, Nat.reduceSub, List.cons_append, List.nil_append, List.set_cons_zero, List.set_cons_succ, true_implies, Bool.true_eq_false, Bool.false_eq_true, false_implies, and_true, true_and, Bool.not_true, Bool.not_false, pick, List.getElem?_cons_zero, List.getElem?_cons_succ, List.eraseIdx_cons_zero, List.eraseIdx_cons_succ, Bool.false_and, beq_self_eq_true, decide_true, List.isEmpty_nil, List.isEmpty_cons, wipeE, restE, List.getD_cons_succ, List.getD_cons_zero, List.getD_nil, r_ok, g_allR, List.length_replicate, frzs_vi, frzs_tab, tab_len, wn_len, fins_1, fins_2, fins_3, fins_4, fins_5, isub, Int.toNat_natCast, g_isn, g_isnn, r_callK, g_sorted, g_app, g_isL, isLst_lst, ex_unit, g_addI, own_int, g_enL, g_enT, g_sortU, g_rgL2, g_rgT2, g_eq1, frzs_tl]
  refine call_run (law_alike_ok hm) rfl rfl ?_
  simp only [r_tupO, r_pc, r_en, r_augI, r_pS, r_seq, r_ifS, r_tst, r_not, r_and, r_or, r_bin, r_un, r_var, r_frz, r_mov, r_c, r_set, r_st, r_mut, r_do, r_ret, r_p0, r_pure, r_cons, r_nil, r_skip, r_modE, r_lst, r_tup, r_if, r_andV, r_orV, r_comp, r_for, r_rng1, r_rng2, r_its, r_zip, r_call, r_gnil, r_gcons, r_glend, r_par2, r_par3, r_nop, r_part, r_sl, r_chain, getv_s, gv_int, gv_bl, gv_str, gv_non, gv_lst, gv_tup, gv_scr, g_some, exists_eq_left, exists_eq_left', Val.int.injEq, Val.bl.injEq, Out.rt.injEq, and_assoc, exists_and_left, g_if, g_ixL, g_ixT, g_ixS, at_0, at_1, at_2, g_lt, g_le, g_gt, g_ge, g_tbl, g_tint, g_tlst, g_ttup, g_div, g_mod, g_mul, g_add, g_sub, g_pow, g_shl, g_shr, g_neg, g_not, g_bl, g_eqi, g_int, g_intb, g_lenL, g_lenT, g_lenS, g_max2, g_min2, no_int, no_bl, g_sum, g_slS, g_rng1, g_rng2, g_itsL, g_itsT, g_eqb, g_nei, g_neb, two_mk, g_IB, is_int, is_bl, is_str, is_non, is_tup, is_lst, it_int, it_bl, it_str, it_non, it_tup, it_lst, mod_nil, fset_0, fset_1, fset_2, pair2_mk, pair3_mk, and_true, true_and, frzs, frz, List.length_map, putAll, List.replicate, Nat.reduceSub, List.cons_append, List.nil_append, List.set_cons_zero, List.set_cons_succ, true_implies, Bool.true_eq_false, Bool.false_eq_true, false_implies, and_true, true_and, Bool.not_true, Bool.not_false, pick, List.getElem?_cons_zero, List.getElem?_cons_succ, List.eraseIdx_cons_zero, List.eraseIdx_cons_succ, Bool.false_and, beq_self_eq_true, decide_true, List.isEmpty_nil, List.isEmpty_cons, wipeE, restE, List.getD_cons_succ, List.getD_cons_zero, List.getD_nil, r_ok, g_allR, List.length_replicate, frzs_vi, frzs_tab, tab_len, wn_len, fins_1, fins_2, fins_3, fins_4, fins_5, isub, Int.toNat_natCast, g_isn, g_isnn, r_callK, g_sorted, g_app, g_isL, isLst_lst, ex_unit, g_addI, own_int, g_enL, g_enT, g_sortU, g_rgL2, g_rgT2, g_eq1, frzs_tl]
  refine ⟨rfl, _, rfl, ?_⟩
  simp only [r_tupO, r_pc, r_en, r_augI, r_pS, r_seq, r_ifS, r_tst, r_not, r_and, r_or, r_bin, r_un, r_var, r_frz, r_mov, r_c, r_set, r_st, r_mut, r_do, r_ret, r_p0, r_pure, r_cons, r_nil, r_skip, r_modE, r_lst, r_tup, r_if, r_andV, r_orV, r_comp, r_for, r_rng1, r_rng2, r_its, r_zip, r_call, r_gnil, r_gcons, r_glend, r_par2, r_par3, r_nop, r_part, r_sl, r_chain, getv_s, gv_int, gv_bl, gv_str, gv_non, gv_lst, gv_tup, gv_scr, g_some, exists_eq_left, exists_eq_left', Val.int.injEq, Val.bl.injEq, Out.rt.injEq, and_assoc, exists_and_left, g_if, g_ixL, g_ixT, g_ixS, at_0, at_1, at_2, g_lt, g_le, g_gt, g_ge, g_tbl, g_tint, g_tlst, g_ttup, g_div, g_mod, g_mul, g_add, g_sub, g_pow, g_shl, g_shr, g_neg, g_not, g_bl, g_eqi, g_int, g_intb, g_lenL, g_lenT, g_lenS, g_max2, g_min2, no_int, no_bl, g_sum, g_slS, g_rng1, g_rng2, g_itsL, g_itsT, g_eqb, g_nei, g_neb, two_mk, g_IB, is_int, is_bl, is_str, is_non, is_tup, is_lst, it_int, it_bl, it_str, it_non, it_tup, it_lst, mod_nil, fset_0, fset_1, fset_2, pair2_mk, pair3_mk, and_true, true_and, frzs, frz, List.length_map, putAll, List.replicate, Nat.reduceSub, List.cons_append, List.nil_append, List.set_cons_zero, List.set_cons_succ, true_implies, Bool.true_eq_false, Bool.false_eq_true, false_implies, and_true, true_and, Bool.not_true, Bool.not_false, pick, List.getElem?_cons_zero, List.getElem?_cons_succ, List.eraseIdx_cons_zero, List.eraseIdx_cons_succ, Bool.false_and, beq_self_eq_true, decide_true, List.isEmpty_nil, List.isEmpty_cons, wipeE, restE, List.getD_cons_succ, List.getD_cons_zero, List.getD_nil, r_ok, g_allR, List.length_replicate, frzs_vi, frzs_tab, tab_len, wn_len, fins_1, fins_2, fins_3, fins_4, fins_5, isub, Int.toNat_natCast, g_isn, g_isnn, r_callK, g_sorted, g_app, g_isL, isLst_lst, ex_unit, g_addI, own_int, g_enL, g_enT, g_sortU, g_rgL2, g_rgT2, g_eq1, frzs_tl]
  rw [comp_gen (alN B m) (fun s : Nat => .int (s : Int)) (fun s => .tup (vi (lotN m s))) (vi_ci _) fun s hs => ?_]
  · have hne : ∀ ns ∈ (alN B m).map (lotN m), ns ≠ [] := fun ns hns => by
      obtain ⟨s, hs, rfl⟩ := List.mem_map.mp hns
      exact lotN_ne (al_in s hs).1 (al_in s hs).2
    have hne2 : ∀ ns ∈ (frN B m).map (lotN m), ns ≠ [] := fun ns hns => by
      obtain ⟨s, hs, rfl⟩ := List.mem_map.mp hns
      exact lotN_ne (fr_in s hs).1 (fr_in s hs).2
    rw [tl_map]
    simp only [r_tupO, r_pc, r_en, r_augI, r_pS, r_seq, r_ifS, r_tst, r_not, r_and, r_or, r_bin, r_un, r_var, r_frz, r_mov, r_c, r_set, r_st, r_mut, r_do, r_ret, r_p0, r_pure, r_cons, r_nil, r_skip, r_modE, r_lst, r_tup, r_if, r_andV, r_orV, r_comp, r_for, r_rng1, r_rng2, r_its, r_zip, r_call, r_gnil, r_gcons, r_glend, r_par2, r_par3, r_nop, r_part, r_sl, r_chain, getv_s, gv_int, gv_bl, gv_str, gv_non, gv_lst, gv_tup, gv_scr, g_some, exists_eq_left, exists_eq_left', Val.int.injEq, Val.bl.injEq, Out.rt.injEq, and_assoc, exists_and_left, g_if, g_ixL, g_ixT, g_ixS, at_0, at_1, at_2, g_lt, g_le, g_gt, g_ge, g_tbl, g_tint, g_tlst, g_ttup, g_div, g_mod, g_mul, g_add, g_sub, g_pow, g_shl, g_shr, g_neg, g_not, g_bl, g_eqi, g_int, g_intb, g_lenL, g_lenT, g_lenS, g_max2, g_min2, no_int, no_bl, g_sum, g_slS, g_rng1, g_rng2, g_itsL, g_itsT, g_eqb, g_nei, g_neb, two_mk, g_IB, is_int, is_bl, is_str, is_non, is_tup, is_lst, it_int, it_bl, it_str, it_non, it_tup, it_lst, mod_nil, fset_0, fset_1, fset_2, pair2_mk, pair3_mk, and_true, true_and, frzs, frz, List.length_map, putAll, List.replicate, Nat.reduceSub, List.cons_append, List.nil_append, List.set_cons_zero, List.set_cons_succ, true_implies, Bool.true_eq_false, Bool.false_eq_true, false_implies, and_true, true_and, Bool.not_true, Bool.not_false, pick, List.getElem?_cons_zero, List.getElem?_cons_succ, List.eraseIdx_cons_zero, List.eraseIdx_cons_succ, Bool.false_and, beq_self_eq_true, decide_true, List.isEmpty_nil, List.isEmpty_cons, wipeE, restE, List.getD_cons_succ, List.getD_cons_zero, List.getD_nil, r_ok, g_allR, List.length_replicate, frzs_vi, frzs_tab, tab_len, wn_len, fins_1, fins_2, fins_3, fins_4, fins_5, isub, Int.toNat_natCast, g_isn, g_isnn, r_callK, g_sorted, g_app, g_isL, isLst_lst, ex_unit, g_addI, own_int, g_enL, g_enT, g_sortU, g_rgL2, g_rgT2, g_eq1, frzs_tl, g_sortL hne]
    refine ⟨decide_eq_true (by unfold tl; simp only [List.length_map]; omega), ?_⟩
    rw [comp_flt (alN B m) (fun s : Nat => .int (s : Int)) (fun s => .tup (vi (lotN m s))) (fun s => (alN B m).all fun t => !crs s t) (vi_ci _) fun s hs => ?_]
    · rw [show (alN B m).filter (fun s => (alN B m).all fun t => !crs s t) = frN B m from rfl, tl_map]
      simp only [r_tupO, r_pc, r_en, r_augI, r_pS, r_seq, r_ifS, r_tst, r_not, r_and, r_or, r_bin, r_un, r_var, r_frz, r_mov, r_c, r_set, r_st, r_mut, r_do, r_ret, r_p0, r_pure, r_cons, r_nil, r_skip, r_modE, r_lst, r_tup, r_if, r_andV, r_orV, r_comp, r_for, r_rng1, r_rng2, r_its, r_zip, r_call, r_gnil, r_gcons, r_glend, r_par2, r_par3, r_nop, r_part, r_sl, r_chain, getv_s, gv_int, gv_bl, gv_str, gv_non, gv_lst, gv_tup, gv_scr, g_some, exists_eq_left, exists_eq_left', Val.int.injEq, Val.bl.injEq, Out.rt.injEq, and_assoc, exists_and_left, g_if, g_ixL, g_ixT, g_ixS, at_0, at_1, at_2, g_lt, g_le, g_gt, g_ge, g_tbl, g_tint, g_tlst, g_ttup, g_div, g_mod, g_mul, g_add, g_sub, g_pow, g_shl, g_shr, g_neg, g_not, g_bl, g_eqi, g_int, g_intb, g_lenL, g_lenT, g_lenS, g_max2, g_min2, no_int, no_bl, g_sum, g_slS, g_rng1, g_rng2, g_itsL, g_itsT, g_eqb, g_nei, g_neb, two_mk, g_IB, is_int, is_bl, is_str, is_non, is_tup, is_lst, it_int, it_bl, it_str, it_non, it_tup, it_lst, mod_nil, fset_0, fset_1, fset_2, pair2_mk, pair3_mk, and_true, true_and, frzs, frz, List.length_map, putAll, List.replicate, Nat.reduceSub, List.cons_append, List.nil_append, List.set_cons_zero, List.set_cons_succ, true_implies, Bool.true_eq_false, Bool.false_eq_true, false_implies, and_true, true_and, Bool.not_true, Bool.not_false, pick, List.getElem?_cons_zero, List.getElem?_cons_succ, List.eraseIdx_cons_zero, List.eraseIdx_cons_succ, Bool.false_and, beq_self_eq_true, decide_true, List.isEmpty_nil, List.isEmpty_cons, wipeE, restE, List.getD_cons_succ, List.getD_cons_zero, List.getD_nil, r_ok, g_allR, List.length_replicate, frzs_vi, frzs_tab, tab_len, wn_len, fins_1, fins_2, fins_3, fins_4, fins_5, isub, Int.toNat_natCast, g_isn, g_isnn, r_callK, g_sorted, g_app, g_isL, isLst_lst, ex_unit, g_addI, own_int, g_enL, g_enT, g_sortU, g_rgL2, g_rgT2, g_eq1, frzs_tl, g_sortL hne2]
      refine ⟨decide_eq_true (by unfold tl; simp only [List.length_map]; omega), fun h => ?_, fun h => ?_⟩
      · have h := of_decide_eq_true h
        have hb : smp B m = decide (((alN B m).length : Int) = m + 1) := by
          unfold smp
          rw [decide_eq_true (show 2 < m by omega), Bool.true_and]
          exact decide_eq_decide.mpr (by omega)
        refine call_run (alike_lots_ok hm hT) rfl rfl ?_
        simp only [r_tupO, r_pc, r_en, r_augI, r_pS, r_seq, r_ifS, r_tst, r_not, r_and, r_or, r_bin, r_un, r_var, r_frz, r_mov, r_c, r_set, r_st, r_mut, r_do, r_ret, r_p0, r_pure, r_cons, r_nil, r_skip, r_modE, r_lst, r_tup, r_if, r_andV, r_orV, r_comp, r_for, r_rng1, r_rng2, r_its, r_zip, r_call, r_gnil, r_gcons, r_glend, r_par2, r_par3, r_nop, r_part, r_sl, r_chain, getv_s, gv_int, gv_bl, gv_str, gv_non, gv_lst, gv_tup, gv_scr, g_some, exists_eq_left, exists_eq_left', Val.int.injEq, Val.bl.injEq, Out.rt.injEq, and_assoc, exists_and_left, g_if, g_ixL, g_ixT, g_ixS, at_0, at_1, at_2, g_lt, g_le, g_gt, g_ge, g_tbl, g_tint, g_tlst, g_ttup, g_div, g_mod, g_mul, g_add, g_sub, g_pow, g_shl, g_shr, g_neg, g_not, g_bl, g_eqi, g_int, g_intb, g_lenL, g_lenT, g_lenS, g_max2, g_min2, no_int, no_bl, g_sum, g_slS, g_rng1, g_rng2, g_itsL, g_itsT, g_eqb, g_nei, g_neb, two_mk, g_IB, is_int, is_bl, is_str, is_non, is_tup, is_lst, it_int, it_bl, it_str, it_non, it_tup, it_lst, mod_nil, fset_0, fset_1, fset_2, pair2_mk, pair3_mk, and_true, true_and, frzs, frz, List.length_map, putAll, List.replicate, Nat.reduceSub, List.cons_append, List.nil_append, List.set_cons_zero, List.set_cons_succ, true_implies, Bool.true_eq_false, Bool.false_eq_true, false_implies, and_true, true_and, Bool.not_true, Bool.not_false, pick, List.getElem?_cons_zero, List.getElem?_cons_succ, List.eraseIdx_cons_zero, List.eraseIdx_cons_succ, Bool.false_and, beq_self_eq_true, decide_true, List.isEmpty_nil, List.isEmpty_cons, wipeE, restE, List.getD_cons_succ, List.getD_cons_zero, List.getD_nil, r_ok, g_allR, List.length_replicate, frzs_vi, frzs_tab, tab_len, wn_len, fins_1, fins_2, fins_3, fins_4, fins_5, isub, Int.toNat_natCast, g_isn, g_isnn, r_callK, g_sorted, g_app, g_isL, isLst_lst, ex_unit, g_addI, own_int, g_enL, g_enT, g_sortU, g_rgL2, g_rgT2, g_eq1, frzs_tl]
        refine call_run (firm_lots_ok hm hT) rfl rfl ?_
        simp only [r_tupO, r_pc, r_en, r_augI, r_pS, r_seq, r_ifS, r_tst, r_not, r_and, r_or, r_bin, r_un, r_var, r_frz, r_mov, r_c, r_set, r_st, r_mut, r_do, r_ret, r_p0, r_pure, r_cons, r_nil, r_skip, r_modE, r_lst, r_tup, r_if, r_andV, r_orV, r_comp, r_for, r_rng1, r_rng2, r_its, r_zip, r_call, r_gnil, r_gcons, r_glend, r_par2, r_par3, r_nop, r_part, r_sl, r_chain, getv_s, gv_int, gv_bl, gv_str, gv_non, gv_lst, gv_tup, gv_scr, g_some, exists_eq_left, exists_eq_left', Val.int.injEq, Val.bl.injEq, Out.rt.injEq, and_assoc, exists_and_left, g_if, g_ixL, g_ixT, g_ixS, at_0, at_1, at_2, g_lt, g_le, g_gt, g_ge, g_tbl, g_tint, g_tlst, g_ttup, g_div, g_mod, g_mul, g_add, g_sub, g_pow, g_shl, g_shr, g_neg, g_not, g_bl, g_eqi, g_int, g_intb, g_lenL, g_lenT, g_lenS, g_max2, g_min2, no_int, no_bl, g_sum, g_slS, g_rng1, g_rng2, g_itsL, g_itsT, g_eqb, g_nei, g_neb, two_mk, g_IB, is_int, is_bl, is_str, is_non, is_tup, is_lst, it_int, it_bl, it_str, it_non, it_tup, it_lst, mod_nil, fset_0, fset_1, fset_2, pair2_mk, pair3_mk, and_true, true_and, frzs, frz, List.length_map, putAll, List.replicate, Nat.reduceSub, List.cons_append, List.nil_append, List.set_cons_zero, List.set_cons_succ, true_implies, Bool.true_eq_false, Bool.false_eq_true, false_implies, and_true, true_and, Bool.not_true, Bool.not_false, pick, List.getElem?_cons_zero, List.getElem?_cons_succ, List.eraseIdx_cons_zero, List.eraseIdx_cons_succ, Bool.false_and, beq_self_eq_true, decide_true, List.isEmpty_nil, List.isEmpty_cons, wipeE, restE, List.getD_cons_succ, List.getD_cons_zero, List.getD_nil, r_ok, g_allR, List.length_replicate, frzs_vi, frzs_tab, tab_len, wn_len, fins_1, fins_2, fins_3, fins_4, fins_5, isub, Int.toNat_natCast, g_isn, g_isnn, r_callK, g_sorted, g_app, g_isL, isLst_lst, ex_unit, g_addI, own_int, g_enL, g_enT, g_sortU, g_rgL2, g_rgT2, g_eq1, frzs_tl]
        refine call_run (is_simple_ok hm hT) rfl rfl ?_
        simp only [r_tupO, r_pc, r_en, r_augI, r_pS, r_seq, r_ifS, r_tst, r_not, r_and, r_or, r_bin, r_un, r_var, r_frz, r_mov, r_c, r_set, r_st, r_mut, r_do, r_ret, r_p0, r_pure, r_cons, r_nil, r_skip, r_modE, r_lst, r_tup, r_if, r_andV, r_orV, r_comp, r_for, r_rng1, r_rng2, r_its, r_zip, r_call, r_gnil, r_gcons, r_glend, r_par2, r_par3, r_nop, r_part, r_sl, r_chain, getv_s, gv_int, gv_bl, gv_str, gv_non, gv_lst, gv_tup, gv_scr, g_some, exists_eq_left, exists_eq_left', Val.int.injEq, Val.bl.injEq, Out.rt.injEq, and_assoc, exists_and_left, g_if, g_ixL, g_ixT, g_ixS, at_0, at_1, at_2, g_lt, g_le, g_gt, g_ge, g_tbl, g_tint, g_tlst, g_ttup, g_div, g_mod, g_mul, g_add, g_sub, g_pow, g_shl, g_shr, g_neg, g_not, g_bl, g_eqi, g_int, g_intb, g_lenL, g_lenT, g_lenS, g_max2, g_min2, no_int, no_bl, g_sum, g_slS, g_rng1, g_rng2, g_itsL, g_itsT, g_eqb, g_nei, g_neb, two_mk, g_IB, is_int, is_bl, is_str, is_non, is_tup, is_lst, it_int, it_bl, it_str, it_non, it_tup, it_lst, mod_nil, fset_0, fset_1, fset_2, pair2_mk, pair3_mk, and_true, true_and, frzs, frz, List.length_map, putAll, List.replicate, Nat.reduceSub, List.cons_append, List.nil_append, List.set_cons_zero, List.set_cons_succ, true_implies, Bool.true_eq_false, Bool.false_eq_true, false_implies, and_true, true_and, Bool.not_true, Bool.not_false, pick, List.getElem?_cons_zero, List.getElem?_cons_succ, List.eraseIdx_cons_zero, List.eraseIdx_cons_succ, Bool.false_and, beq_self_eq_true, decide_true, List.isEmpty_nil, List.isEmpty_cons, wipeE, restE, List.getD_cons_succ, List.getD_cons_zero, List.getD_nil, r_ok, g_allR, List.length_replicate, frzs_vi, frzs_tab, tab_len, wn_len, fins_1, fins_2, fins_3, fins_4, fins_5, isub, Int.toNat_natCast, g_isn, g_isnn, r_callK, g_sorted, g_app, g_isL, isLst_lst, ex_unit, g_addI, own_int, g_enL, g_enT, g_sortU, g_rgL2, g_rgT2, g_eq1, frzs_tl, hb]
        have oA : ∀ (b : Bool) (A F : List (List Int)), owns [Val.lst false (tl A), Val.lst false (tl F), Val.bl b] = false := fun b A F => by
          show ((false || owns (tl A)) || ((false || owns (tl F)) || (false || false))) = false
          rw [owns_tl, owns_tl]; rfl
        have aA := alike_tl (n := 4) (o := false) (p := false) (xss := srtL ((alN B m).map (lotN m))) (by rw [(srtL_perm _).length_eq, List.length_map]; omega) (fun ns hns => by obtain ⟨s, hs, rfl⟩ := List.mem_map.mp ((srtL_perm _).mem_iff.mp hns); exact Nat.le_trans (lot_len _ _) (by omega))
        have aF := alike_tl (n := 4) (o := false) (p := false) (xss := srtL ((frN B m).map (lotN m))) (by rw [(srtL_perm _).length_eq, List.length_map]; omega) (fun ns hns => by obtain ⟨s, hs, rfl⟩ := List.mem_map.mp ((srtL_perm _).mem_iff.mp hns); exact Nat.le_trans (lot_len _ _) (by omega))
        have s1 := same_ok (alike_lst (o := false) (p := false) (oA _ _ _) (oA _ _ _) (.cons aA (.cons aF (.cons (alike_bl (b := decide (((alN B m).length : Int) = m + 1))) .nil))) (by simp))
        refine ⟨rfl, rfl, rfl, _, _, s1, rfl, ?_⟩
        simp only [r_tupO, r_pc, r_en, r_augI, r_pS, r_seq, r_ifS, r_tst, r_not, r_and, r_or, r_bin, r_un, r_var, r_frz, r_mov, r_c, r_set, r_st, r_mut, r_do, r_ret, r_p0, r_pure, r_cons, r_nil, r_skip, r_modE, r_lst, r_tup, r_if, r_andV, r_orV, r_comp, r_for, r_rng1, r_rng2, r_its, r_zip, r_call, r_gnil, r_gcons, r_glend, r_par2, r_par3, r_nop, r_part, r_sl, r_chain, getv_s, gv_int, gv_bl, gv_str, gv_non, gv_lst, gv_tup, gv_scr, g_some, exists_eq_left, exists_eq_left', Val.int.injEq, Val.bl.injEq, Out.rt.injEq, and_assoc, exists_and_left, g_if, g_ixL, g_ixT, g_ixS, at_0, at_1, at_2, g_lt, g_le, g_gt, g_ge, g_tbl, g_tint, g_tlst, g_ttup, g_div, g_mod, g_mul, g_add, g_sub, g_pow, g_shl, g_shr, g_neg, g_not, g_bl, g_eqi, g_int, g_intb, g_lenL, g_lenT, g_lenS, g_max2, g_min2, no_int, no_bl, g_sum, g_slS, g_rng1, g_rng2, g_itsL, g_itsT, g_eqb, g_nei, g_neb, two_mk, g_IB, is_int, is_bl, is_str, is_non, is_tup, is_lst, it_int, it_bl, it_str, it_non, it_tup, it_lst, mod_nil, fset_0, fset_1, fset_2, pair2_mk, pair3_mk, and_true, true_and, frzs, frz, List.length_map, putAll, List.replicate, Nat.reduceSub, List.cons_append, List.nil_append, List.set_cons_zero, List.set_cons_succ, true_implies, Bool.true_eq_false, Bool.false_eq_true, false_implies, and_true, true_and, Bool.not_true, Bool.not_false, pick, List.getElem?_cons_zero, List.getElem?_cons_succ, List.eraseIdx_cons_zero, List.eraseIdx_cons_succ, Bool.false_and, beq_self_eq_true, decide_true, List.isEmpty_nil, List.isEmpty_cons, wipeE, restE, List.getD_cons_succ, List.getD_cons_zero, List.getD_nil, r_ok, g_allR, List.length_replicate, frzs_vi, frzs_tab, tab_len, wn_len, fins_1, fins_2, fins_3, fins_4, fins_5, isub, Int.toNat_natCast, g_isn, g_isnn, r_callK, g_sorted, g_app, g_isL, isLst_lst, ex_unit, g_addI, own_int, g_enL, g_enT, g_sortU, g_rgL2, g_rgT2, g_eq1, frzs_tl, Option.bind_some, getP_0, getP_1, modP_0, modP_1, g_isLp, map_some_iff]
        have oB : ∀ (b : Bool) (A F : List (List Int)), owns [Val.lst false (tl F), Val.bl b, Val.lst false (tl A)] = false := fun b A F => by
          show ((false || owns (tl F)) || (false || ((false || owns (tl A)) || false))) = false
          rw [owns_tl, owns_tl]; rfl
        have s2 := same_ok (alike_lst (o := false) (p := false) (oB _ _ _) (oB _ _ _) (.cons aF (.cons (alike_bl (b := decide (((alN B m).length : Int) = m + 1))) (.cons aA .nil))) (by simp))
        have eA : (tl (srtL ((alN B m).map (lotN m)))).length = (alN B m).length := by unfold tl; rw [List.length_map, (srtL_perm _).length_eq, List.length_map]
        have eF : (tl (srtL ((frN B m).map (lotN m)))).length = (frN B m).length := by unfold tl; rw [List.length_map, (srtL_perm _).length_eq, List.length_map]
        refine ⟨decide_eq_true (by rw [eA]; omega), decide_eq_true (by rw [eF]; omega), rfl, call_run (firm_lots_ok hm hT) rfl rfl ?_⟩
        simp only [r_tupO, r_pc, r_en, r_augI, r_pS, r_seq, r_ifS, r_tst, r_not, r_and, r_or, r_bin, r_un, r_var, r_frz, r_mov, r_c, r_set, r_st, r_mut, r_do, r_ret, r_p0, r_pure, r_cons, r_nil, r_skip, r_modE, r_lst, r_tup, r_if, r_andV, r_orV, r_comp, r_for, r_rng1, r_rng2, r_its, r_zip, r_call, r_gnil, r_gcons, r_glend, r_par2, r_par3, r_nop, r_part, r_sl, r_chain, getv_s, gv_int, gv_bl, gv_str, gv_non, gv_lst, gv_tup, gv_scr, g_some, exists_eq_left, exists_eq_left', Val.int.injEq, Val.bl.injEq, Out.rt.injEq, and_assoc, exists_and_left, g_if, g_ixL, g_ixT, g_ixS, at_0, at_1, at_2, g_lt, g_le, g_gt, g_ge, g_tbl, g_tint, g_tlst, g_ttup, g_div, g_mod, g_mul, g_add, g_sub, g_pow, g_shl, g_shr, g_neg, g_not, g_bl, g_eqi, g_int, g_intb, g_lenL, g_lenT, g_lenS, g_max2, g_min2, no_int, no_bl, g_sum, g_slS, g_rng1, g_rng2, g_itsL, g_itsT, g_eqb, g_nei, g_neb, two_mk, g_IB, is_int, is_bl, is_str, is_non, is_tup, is_lst, it_int, it_bl, it_str, it_non, it_tup, it_lst, mod_nil, fset_0, fset_1, fset_2, pair2_mk, pair3_mk, and_true, true_and, frzs, frz, List.length_map, putAll, List.replicate, Nat.reduceSub, List.cons_append, List.nil_append, List.set_cons_zero, List.set_cons_succ, true_implies, Bool.true_eq_false, Bool.false_eq_true, false_implies, and_true, true_and, Bool.not_true, Bool.not_false, pick, List.getElem?_cons_zero, List.getElem?_cons_succ, List.eraseIdx_cons_zero, List.eraseIdx_cons_succ, Bool.false_and, beq_self_eq_true, decide_true, List.isEmpty_nil, List.isEmpty_cons, wipeE, restE, List.getD_cons_succ, List.getD_cons_zero, List.getD_nil, r_ok, g_allR, List.length_replicate, frzs_vi, frzs_tab, tab_len, wn_len, fins_1, fins_2, fins_3, fins_4, fins_5, isub, Int.toNat_natCast, g_isn, g_isnn, r_callK, g_sorted, g_app, g_isL, isLst_lst, ex_unit, g_addI, own_int, g_enL, g_enT, g_sortU, g_rgL2, g_rgT2, g_eq1, frzs_tl]
        refine ⟨rfl, call_run (is_simple_ok hm hT) rfl rfl ?_⟩
        simp only [r_tupO, r_pc, r_en, r_augI, r_pS, r_seq, r_ifS, r_tst, r_not, r_and, r_or, r_bin, r_un, r_var, r_frz, r_mov, r_c, r_set, r_st, r_mut, r_do, r_ret, r_p0, r_pure, r_cons, r_nil, r_skip, r_modE, r_lst, r_tup, r_if, r_andV, r_orV, r_comp, r_for, r_rng1, r_rng2, r_its, r_zip, r_call, r_gnil, r_gcons, r_glend, r_par2, r_par3, r_nop, r_part, r_sl, r_chain, getv_s, gv_int, gv_bl, gv_str, gv_non, gv_lst, gv_tup, gv_scr, g_some, exists_eq_left, exists_eq_left', Val.int.injEq, Val.bl.injEq, Out.rt.injEq, and_assoc, exists_and_left, g_if, g_ixL, g_ixT, g_ixS, at_0, at_1, at_2, g_lt, g_le, g_gt, g_ge, g_tbl, g_tint, g_tlst, g_ttup, g_div, g_mod, g_mul, g_add, g_sub, g_pow, g_shl, g_shr, g_neg, g_not, g_bl, g_eqi, g_int, g_intb, g_lenL, g_lenT, g_lenS, g_max2, g_min2, no_int, no_bl, g_sum, g_slS, g_rng1, g_rng2, g_itsL, g_itsT, g_eqb, g_nei, g_neb, two_mk, g_IB, is_int, is_bl, is_str, is_non, is_tup, is_lst, it_int, it_bl, it_str, it_non, it_tup, it_lst, mod_nil, fset_0, fset_1, fset_2, pair2_mk, pair3_mk, and_true, true_and, frzs, frz, List.length_map, putAll, List.replicate, Nat.reduceSub, List.cons_append, List.nil_append, List.set_cons_zero, List.set_cons_succ, true_implies, Bool.true_eq_false, Bool.false_eq_true, false_implies, and_true, true_and, Bool.not_true, Bool.not_false, pick, List.getElem?_cons_zero, List.getElem?_cons_succ, List.eraseIdx_cons_zero, List.eraseIdx_cons_succ, Bool.false_and, beq_self_eq_true, decide_true, List.isEmpty_nil, List.isEmpty_cons, wipeE, restE, List.getD_cons_succ, List.getD_cons_zero, List.getD_nil, r_ok, g_allR, List.length_replicate, frzs_vi, frzs_tab, tab_len, wn_len, fins_1, fins_2, fins_3, fins_4, fins_5, isub, Int.toNat_natCast, g_isn, g_isnn, r_callK, g_sorted, g_app, g_isL, isLst_lst, ex_unit, g_addI, own_int, g_enL, g_enT, g_sortU, g_rgL2, g_rgT2, g_eq1, frzs_tl, hb]
        refine ⟨rfl, call_run (alike_lots_ok hm hT) rfl rfl ?_⟩
        simp only [r_tupO, r_pc, r_en, r_augI, r_pS, r_seq, r_ifS, r_tst, r_not, r_and, r_or, r_bin, r_un, r_var, r_frz, r_mov, r_c, r_set, r_st, r_mut, r_do, r_ret, r_p0, r_pure, r_cons, r_nil, r_skip, r_modE, r_lst, r_tup, r_if, r_andV, r_orV, r_comp, r_for, r_rng1, r_rng2, r_its, r_zip, r_call, r_gnil, r_gcons, r_glend, r_par2, r_par3, r_nop, r_part, r_sl, r_chain, getv_s, gv_int, gv_bl, gv_str, gv_non, gv_lst, gv_tup, gv_scr, g_some, exists_eq_left, exists_eq_left', Val.int.injEq, Val.bl.injEq, Out.rt.injEq, and_assoc, exists_and_left, g_if, g_ixL, g_ixT, g_ixS, at_0, at_1, at_2, g_lt, g_le, g_gt, g_ge, g_tbl, g_tint, g_tlst, g_ttup, g_div, g_mod, g_mul, g_add, g_sub, g_pow, g_shl, g_shr, g_neg, g_not, g_bl, g_eqi, g_int, g_intb, g_lenL, g_lenT, g_lenS, g_max2, g_min2, no_int, no_bl, g_sum, g_slS, g_rng1, g_rng2, g_itsL, g_itsT, g_eqb, g_nei, g_neb, two_mk, g_IB, is_int, is_bl, is_str, is_non, is_tup, is_lst, it_int, it_bl, it_str, it_non, it_tup, it_lst, mod_nil, fset_0, fset_1, fset_2, pair2_mk, pair3_mk, and_true, true_and, frzs, frz, List.length_map, putAll, List.replicate, Nat.reduceSub, List.cons_append, List.nil_append, List.set_cons_zero, List.set_cons_succ, true_implies, Bool.true_eq_false, Bool.false_eq_true, false_implies, and_true, true_and, Bool.not_true, Bool.not_false, pick, List.getElem?_cons_zero, List.getElem?_cons_succ, List.eraseIdx_cons_zero, List.eraseIdx_cons_succ, Bool.false_and, beq_self_eq_true, decide_true, List.isEmpty_nil, List.isEmpty_cons, wipeE, restE, List.getD_cons_succ, List.getD_cons_zero, List.getD_nil, r_ok, g_allR, List.length_replicate, frzs_vi, frzs_tab, tab_len, wn_len, fins_1, fins_2, fins_3, fins_4, fins_5, isub, Int.toNat_natCast, g_isn, g_isnn, r_callK, g_sorted, g_app, g_isL, isLst_lst, ex_unit, g_addI, own_int, g_enL, g_enT, g_sortU, g_rgL2, g_rgT2, g_eq1, frzs_tl]
        refine ⟨rfl, rfl, rfl, _, _, s2, ?_⟩
        all_goals (repeat' first | exact rfl | apply And.intro)
      · have h := of_decide_eq_false h
        have hb : smp B m = false := by
          unfold smp
          rw [decide_eq_false (show ¬ 2 < m by omega)]; rfl
        refine call_run (alike_lots_ok hm hT) rfl rfl ?_
        simp only [r_tupO, r_pc, r_en, r_augI, r_pS, r_seq, r_ifS, r_tst, r_not, r_and, r_or, r_bin, r_un, r_var, r_frz, r_mov, r_c, r_set, r_st, r_mut, r_do, r_ret, r_p0, r_pure, r_cons, r_nil, r_skip, r_modE, r_lst, r_tup, r_if, r_andV, r_orV, r_comp, r_for, r_rng1, r_rng2, r_its, r_zip, r_call, r_gnil, r_gcons, r_glend, r_par2, r_par3, r_nop, r_part, r_sl, r_chain, getv_s, gv_int, gv_bl, gv_str, gv_non, gv_lst, gv_tup, gv_scr, g_some, exists_eq_left, exists_eq_left', Val.int.injEq, Val.bl.injEq, Out.rt.injEq, and_assoc, exists_and_left, g_if, g_ixL, g_ixT, g_ixS, at_0, at_1, at_2, g_lt, g_le, g_gt, g_ge, g_tbl, g_tint, g_tlst, g_ttup, g_div, g_mod, g_mul, g_add, g_sub, g_pow, g_shl, g_shr, g_neg, g_not, g_bl, g_eqi, g_int, g_intb, g_lenL, g_lenT, g_lenS, g_max2, g_min2, no_int, no_bl, g_sum, g_slS, g_rng1, g_rng2, g_itsL, g_itsT, g_eqb, g_nei, g_neb, two_mk, g_IB, is_int, is_bl, is_str, is_non, is_tup, is_lst, it_int, it_bl, it_str, it_non, it_tup, it_lst, mod_nil, fset_0, fset_1, fset_2, pair2_mk, pair3_mk, and_true, true_and, frzs, frz, List.length_map, putAll, List.replicate, Nat.reduceSub, List.cons_append, List.nil_append, List.set_cons_zero, List.set_cons_succ, true_implies, Bool.true_eq_false, Bool.false_eq_true, false_implies, and_true, true_and, Bool.not_true, Bool.not_false, pick, List.getElem?_cons_zero, List.getElem?_cons_succ, List.eraseIdx_cons_zero, List.eraseIdx_cons_succ, Bool.false_and, beq_self_eq_true, decide_true, List.isEmpty_nil, List.isEmpty_cons, wipeE, restE, List.getD_cons_succ, List.getD_cons_zero, List.getD_nil, r_ok, g_allR, List.length_replicate, frzs_vi, frzs_tab, tab_len, wn_len, fins_1, fins_2, fins_3, fins_4, fins_5, isub, Int.toNat_natCast, g_isn, g_isnn, r_callK, g_sorted, g_app, g_isL, isLst_lst, ex_unit, g_addI, own_int, g_enL, g_enT, g_sortU, g_rgL2, g_rgT2, g_eq1, frzs_tl]
        refine call_run (firm_lots_ok hm hT) rfl rfl ?_
        simp only [r_tupO, r_pc, r_en, r_augI, r_pS, r_seq, r_ifS, r_tst, r_not, r_and, r_or, r_bin, r_un, r_var, r_frz, r_mov, r_c, r_set, r_st, r_mut, r_do, r_ret, r_p0, r_pure, r_cons, r_nil, r_skip, r_modE, r_lst, r_tup, r_if, r_andV, r_orV, r_comp, r_for, r_rng1, r_rng2, r_its, r_zip, r_call, r_gnil, r_gcons, r_glend, r_par2, r_par3, r_nop, r_part, r_sl, r_chain, getv_s, gv_int, gv_bl, gv_str, gv_non, gv_lst, gv_tup, gv_scr, g_some, exists_eq_left, exists_eq_left', Val.int.injEq, Val.bl.injEq, Out.rt.injEq, and_assoc, exists_and_left, g_if, g_ixL, g_ixT, g_ixS, at_0, at_1, at_2, g_lt, g_le, g_gt, g_ge, g_tbl, g_tint, g_tlst, g_ttup, g_div, g_mod, g_mul, g_add, g_sub, g_pow, g_shl, g_shr, g_neg, g_not, g_bl, g_eqi, g_int, g_intb, g_lenL, g_lenT, g_lenS, g_max2, g_min2, no_int, no_bl, g_sum, g_slS, g_rng1, g_rng2, g_itsL, g_itsT, g_eqb, g_nei, g_neb, two_mk, g_IB, is_int, is_bl, is_str, is_non, is_tup, is_lst, it_int, it_bl, it_str, it_non, it_tup, it_lst, mod_nil, fset_0, fset_1, fset_2, pair2_mk, pair3_mk, and_true, true_and, frzs, frz, List.length_map, putAll, List.replicate, Nat.reduceSub, List.cons_append, List.nil_append, List.set_cons_zero, List.set_cons_succ, true_implies, Bool.true_eq_false, Bool.false_eq_true, false_implies, and_true, true_and, Bool.not_true, Bool.not_false, pick, List.getElem?_cons_zero, List.getElem?_cons_succ, List.eraseIdx_cons_zero, List.eraseIdx_cons_succ, Bool.false_and, beq_self_eq_true, decide_true, List.isEmpty_nil, List.isEmpty_cons, wipeE, restE, List.getD_cons_succ, List.getD_cons_zero, List.getD_nil, r_ok, g_allR, List.length_replicate, frzs_vi, frzs_tab, tab_len, wn_len, fins_1, fins_2, fins_3, fins_4, fins_5, isub, Int.toNat_natCast, g_isn, g_isnn, r_callK, g_sorted, g_app, g_isL, isLst_lst, ex_unit, g_addI, own_int, g_enL, g_enT, g_sortU, g_rgL2, g_rgT2, g_eq1, frzs_tl]
        refine call_run (is_simple_ok hm hT) rfl rfl ?_
        simp only [r_tupO, r_pc, r_en, r_augI, r_pS, r_seq, r_ifS, r_tst, r_not, r_and, r_or, r_bin, r_un, r_var, r_frz, r_mov, r_c, r_set, r_st, r_mut, r_do, r_ret, r_p0, r_pure, r_cons, r_nil, r_skip, r_modE, r_lst, r_tup, r_if, r_andV, r_orV, r_comp, r_for, r_rng1, r_rng2, r_its, r_zip, r_call, r_gnil, r_gcons, r_glend, r_par2, r_par3, r_nop, r_part, r_sl, r_chain, getv_s, gv_int, gv_bl, gv_str, gv_non, gv_lst, gv_tup, gv_scr, g_some, exists_eq_left, exists_eq_left', Val.int.injEq, Val.bl.injEq, Out.rt.injEq, and_assoc, exists_and_left, g_if, g_ixL, g_ixT, g_ixS, at_0, at_1, at_2, g_lt, g_le, g_gt, g_ge, g_tbl, g_tint, g_tlst, g_ttup, g_div, g_mod, g_mul, g_add, g_sub, g_pow, g_shl, g_shr, g_neg, g_not, g_bl, g_eqi, g_int, g_intb, g_lenL, g_lenT, g_lenS, g_max2, g_min2, no_int, no_bl, g_sum, g_slS, g_rng1, g_rng2, g_itsL, g_itsT, g_eqb, g_nei, g_neb, two_mk, g_IB, is_int, is_bl, is_str, is_non, is_tup, is_lst, it_int, it_bl, it_str, it_non, it_tup, it_lst, mod_nil, fset_0, fset_1, fset_2, pair2_mk, pair3_mk, and_true, true_and, frzs, frz, List.length_map, putAll, List.replicate, Nat.reduceSub, List.cons_append, List.nil_append, List.set_cons_zero, List.set_cons_succ, true_implies, Bool.true_eq_false, Bool.false_eq_true, false_implies, and_true, true_and, Bool.not_true, Bool.not_false, pick, List.getElem?_cons_zero, List.getElem?_cons_succ, List.eraseIdx_cons_zero, List.eraseIdx_cons_succ, Bool.false_and, beq_self_eq_true, decide_true, List.isEmpty_nil, List.isEmpty_cons, wipeE, restE, List.getD_cons_succ, List.getD_cons_zero, List.getD_nil, r_ok, g_allR, List.length_replicate, frzs_vi, frzs_tab, tab_len, wn_len, fins_1, fins_2, fins_3, fins_4, fins_5, isub, Int.toNat_natCast, g_isn, g_isnn, r_callK, g_sorted, g_app, g_isL, isLst_lst, ex_unit, g_addI, own_int, g_enL, g_enT, g_sortU, g_rgL2, g_rgT2, g_eq1, frzs_tl, hb]
        have oA : ∀ (b : Bool) (A F : List (List Int)), owns [Val.lst false (tl A), Val.lst false (tl F), Val.bl b] = false := fun b A F => by
          show ((false || owns (tl A)) || ((false || owns (tl F)) || (false || false))) = false
          rw [owns_tl, owns_tl]; rfl
        have aA := alike_tl (n := 4) (o := false) (p := false) (xss := srtL ((alN B m).map (lotN m))) (by rw [(srtL_perm _).length_eq, List.length_map]; omega) (fun ns hns => by obtain ⟨s, hs, rfl⟩ := List.mem_map.mp ((srtL_perm _).mem_iff.mp hns); exact Nat.le_trans (lot_len _ _) (by omega))
        have aF := alike_tl (n := 4) (o := false) (p := false) (xss := srtL ((frN B m).map (lotN m))) (by rw [(srtL_perm _).length_eq, List.length_map]; omega) (fun ns hns => by obtain ⟨s, hs, rfl⟩ := List.mem_map.mp ((srtL_perm _).mem_iff.mp hns); exact Nat.le_trans (lot_len _ _) (by omega))
        have s1 := same_ok (alike_lst (o := false) (p := false) (oA _ _ _) (oA _ _ _) (.cons aA (.cons aF (.cons (alike_bl (b := false)) .nil))) (by simp))
        refine ⟨rfl, rfl, rfl, _, _, s1, rfl, ?_⟩
        simp only [r_tupO, r_pc, r_en, r_augI, r_pS, r_seq, r_ifS, r_tst, r_not, r_and, r_or, r_bin, r_un, r_var, r_frz, r_mov, r_c, r_set, r_st, r_mut, r_do, r_ret, r_p0, r_pure, r_cons, r_nil, r_skip, r_modE, r_lst, r_tup, r_if, r_andV, r_orV, r_comp, r_for, r_rng1, r_rng2, r_its, r_zip, r_call, r_gnil, r_gcons, r_glend, r_par2, r_par3, r_nop, r_part, r_sl, r_chain, getv_s, gv_int, gv_bl, gv_str, gv_non, gv_lst, gv_tup, gv_scr, g_some, exists_eq_left, exists_eq_left', Val.int.injEq, Val.bl.injEq, Out.rt.injEq, and_assoc, exists_and_left, g_if, g_ixL, g_ixT, g_ixS, at_0, at_1, at_2, g_lt, g_le, g_gt, g_ge, g_tbl, g_tint, g_tlst, g_ttup, g_div, g_mod, g_mul, g_add, g_sub, g_pow, g_shl, g_shr, g_neg, g_not, g_bl, g_eqi, g_int, g_intb, g_lenL, g_lenT, g_lenS, g_max2, g_min2, no_int, no_bl, g_sum, g_slS, g_rng1, g_rng2, g_itsL, g_itsT, g_eqb, g_nei, g_neb, two_mk, g_IB, is_int, is_bl, is_str, is_non, is_tup, is_lst, it_int, it_bl, it_str, it_non, it_tup, it_lst, mod_nil, fset_0, fset_1, fset_2, pair2_mk, pair3_mk, and_true, true_and, frzs, frz, List.length_map, putAll, List.replicate, Nat.reduceSub, List.cons_append, List.nil_append, List.set_cons_zero, List.set_cons_succ, true_implies, Bool.true_eq_false, Bool.false_eq_true, false_implies, and_true, true_and, Bool.not_true, Bool.not_false, pick, List.getElem?_cons_zero, List.getElem?_cons_succ, List.eraseIdx_cons_zero, List.eraseIdx_cons_succ, Bool.false_and, beq_self_eq_true, decide_true, List.isEmpty_nil, List.isEmpty_cons, wipeE, restE, List.getD_cons_succ, List.getD_cons_zero, List.getD_nil, r_ok, g_allR, List.length_replicate, frzs_vi, frzs_tab, tab_len, wn_len, fins_1, fins_2, fins_3, fins_4, fins_5, isub, Int.toNat_natCast, g_isn, g_isnn, r_callK, g_sorted, g_app, g_isL, isLst_lst, ex_unit, g_addI, own_int, g_enL, g_enT, g_sortU, g_rgL2, g_rgT2, g_eq1, frzs_tl, Option.bind_some, getP_0, getP_1, modP_0, modP_1, g_isLp, map_some_iff]
        have oB : ∀ (b : Bool) (A F : List (List Int)), owns [Val.lst false (tl F), Val.bl b, Val.lst false (tl A)] = false := fun b A F => by
          show ((false || owns (tl F)) || (false || ((false || owns (tl A)) || false))) = false
          rw [owns_tl, owns_tl]; rfl
        have s2 := same_ok (alike_lst (o := false) (p := false) (oB _ _ _) (oB _ _ _) (.cons aF (.cons (alike_bl (b := false)) (.cons aA .nil))) (by simp))
        have eA : (tl (srtL ((alN B m).map (lotN m)))).length = (alN B m).length := by unfold tl; rw [List.length_map, (srtL_perm _).length_eq, List.length_map]
        have eF : (tl (srtL ((frN B m).map (lotN m)))).length = (frN B m).length := by unfold tl; rw [List.length_map, (srtL_perm _).length_eq, List.length_map]
        refine ⟨decide_eq_true (by rw [eA]; omega), decide_eq_true (by rw [eF]; omega), rfl, call_run (firm_lots_ok hm hT) rfl rfl ?_⟩
        simp only [r_tupO, r_pc, r_en, r_augI, r_pS, r_seq, r_ifS, r_tst, r_not, r_and, r_or, r_bin, r_un, r_var, r_frz, r_mov, r_c, r_set, r_st, r_mut, r_do, r_ret, r_p0, r_pure, r_cons, r_nil, r_skip, r_modE, r_lst, r_tup, r_if, r_andV, r_orV, r_comp, r_for, r_rng1, r_rng2, r_its, r_zip, r_call, r_gnil, r_gcons, r_glend, r_par2, r_par3, r_nop, r_part, r_sl, r_chain, getv_s, gv_int, gv_bl, gv_str, gv_non, gv_lst, gv_tup, gv_scr, g_some, exists_eq_left, exists_eq_left', Val.int.injEq, Val.bl.injEq, Out.rt.injEq, and_assoc, exists_and_left, g_if, g_ixL, g_ixT, g_ixS, at_0, at_1, at_2, g_lt, g_le, g_gt, g_ge, g_tbl, g_tint, g_tlst, g_ttup, g_div, g_mod, g_mul, g_add, g_sub, g_pow, g_shl, g_shr, g_neg, g_not, g_bl, g_eqi, g_int, g_intb, g_lenL, g_lenT, g_lenS, g_max2, g_min2, no_int, no_bl, g_sum, g_slS, g_rng1, g_rng2, g_itsL, g_itsT, g_eqb, g_nei, g_neb, two_mk, g_IB, is_int, is_bl, is_str, is_non, is_tup, is_lst, it_int, it_bl, it_str, it_non, it_tup, it_lst, mod_nil, fset_0, fset_1, fset_2, pair2_mk, pair3_mk, and_true, true_and, frzs, frz, List.length_map, putAll, List.replicate, Nat.reduceSub, List.cons_append, List.nil_append, List.set_cons_zero, List.set_cons_succ, true_implies, Bool.true_eq_false, Bool.false_eq_true, false_implies, and_true, true_and, Bool.not_true, Bool.not_false, pick, List.getElem?_cons_zero, List.getElem?_cons_succ, List.eraseIdx_cons_zero, List.eraseIdx_cons_succ, Bool.false_and, beq_self_eq_true, decide_true, List.isEmpty_nil, List.isEmpty_cons, wipeE, restE, List.getD_cons_succ, List.getD_cons_zero, List.getD_nil, r_ok, g_allR, List.length_replicate, frzs_vi, frzs_tab, tab_len, wn_len, fins_1, fins_2, fins_3, fins_4, fins_5, isub, Int.toNat_natCast, g_isn, g_isnn, r_callK, g_sorted, g_app, g_isL, isLst_lst, ex_unit, g_addI, own_int, g_enL, g_enT, g_sortU, g_rgL2, g_rgT2, g_eq1, frzs_tl]
        refine ⟨rfl, call_run (is_simple_ok hm hT) rfl rfl ?_⟩
        simp only [r_tupO, r_pc, r_en, r_augI, r_pS, r_seq, r_ifS, r_tst, r_not, r_and, r_or, r_bin, r_un, r_var, r_frz, r_mov, r_c, r_set, r_st, r_mut, r_do, r_ret, r_p0, r_pure, r_cons, r_nil, r_skip, r_modE, r_lst, r_tup, r_if, r_andV, r_orV, r_comp, r_for, r_rng1, r_rng2, r_its, r_zip, r_call, r_gnil, r_gcons, r_glend, r_par2, r_par3, r_nop, r_part, r_sl, r_chain, getv_s, gv_int, gv_bl, gv_str, gv_non, gv_lst, gv_tup, gv_scr, g_some, exists_eq_left, exists_eq_left', Val.int.injEq, Val.bl.injEq, Out.rt.injEq, and_assoc, exists_and_left, g_if, g_ixL, g_ixT, g_ixS, at_0, at_1, at_2, g_lt, g_le, g_gt, g_ge, g_tbl, g_tint, g_tlst, g_ttup, g_div, g_mod, g_mul, g_add, g_sub, g_pow, g_shl, g_shr, g_neg, g_not, g_bl, g_eqi, g_int, g_intb, g_lenL, g_lenT, g_lenS, g_max2, g_min2, no_int, no_bl, g_sum, g_slS, g_rng1, g_rng2, g_itsL, g_itsT, g_eqb, g_nei, g_neb, two_mk, g_IB, is_int, is_bl, is_str, is_non, is_tup, is_lst, it_int, it_bl, it_str, it_non, it_tup, it_lst, mod_nil, fset_0, fset_1, fset_2, pair2_mk, pair3_mk, and_true, true_and, frzs, frz, List.length_map, putAll, List.replicate, Nat.reduceSub, List.cons_append, List.nil_append, List.set_cons_zero, List.set_cons_succ, true_implies, Bool.true_eq_false, Bool.false_eq_true, false_implies, and_true, true_and, Bool.not_true, Bool.not_false, pick, List.getElem?_cons_zero, List.getElem?_cons_succ, List.eraseIdx_cons_zero, List.eraseIdx_cons_succ, Bool.false_and, beq_self_eq_true, decide_true, List.isEmpty_nil, List.isEmpty_cons, wipeE, restE, List.getD_cons_succ, List.getD_cons_zero, List.getD_nil, r_ok, g_allR, List.length_replicate, frzs_vi, frzs_tab, tab_len, wn_len, fins_1, fins_2, fins_3, fins_4, fins_5, isub, Int.toNat_natCast, g_isn, g_isnn, r_callK, g_sorted, g_app, g_isL, isLst_lst, ex_unit, g_addI, own_int, g_enL, g_enT, g_sortU, g_rgL2, g_rgT2, g_eq1, frzs_tl, hb]
        refine ⟨rfl, call_run (alike_lots_ok hm hT) rfl rfl ?_⟩
        simp only [r_tupO, r_pc, r_en, r_augI, r_pS, r_seq, r_ifS, r_tst, r_not, r_and, r_or, r_bin, r_un, r_var, r_frz, r_mov, r_c, r_set, r_st, r_mut, r_do, r_ret, r_p0, r_pure, r_cons, r_nil, r_skip, r_modE, r_lst, r_tup, r_if, r_andV, r_orV, r_comp, r_for, r_rng1, r_rng2, r_its, r_zip, r_call, r_gnil, r_gcons, r_glend, r_par2, r_par3, r_nop, r_part, r_sl, r_chain, getv_s, gv_int, gv_bl, gv_str, gv_non, gv_lst, gv_tup, gv_scr, g_some, exists_eq_left, exists_eq_left', Val.int.injEq, Val.bl.injEq, Out.rt.injEq, and_assoc, exists_and_left, g_if, g_ixL, g_ixT, g_ixS, at_0, at_1, at_2, g_lt, g_le, g_gt, g_ge, g_tbl, g_tint, g_tlst, g_ttup, g_div, g_mod, g_mul, g_add, g_sub, g_pow, g_shl, g_shr, g_neg, g_not, g_bl, g_eqi, g_int, g_intb, g_lenL, g_lenT, g_lenS, g_max2, g_min2, no_int, no_bl, g_sum, g_slS, g_rng1, g_rng2, g_itsL, g_itsT, g_eqb, g_nei, g_neb, two_mk, g_IB, is_int, is_bl, is_str, is_non, is_tup, is_lst, it_int, it_bl, it_str, it_non, it_tup, it_lst, mod_nil, fset_0, fset_1, fset_2, pair2_mk, pair3_mk, and_true, true_and, frzs, frz, List.length_map, putAll, List.replicate, Nat.reduceSub, List.cons_append, List.nil_append, List.set_cons_zero, List.set_cons_succ, true_implies, Bool.true_eq_false, Bool.false_eq_true, false_implies, and_true, true_and, Bool.not_true, Bool.not_false, pick, List.getElem?_cons_zero, List.getElem?_cons_succ, List.eraseIdx_cons_zero, List.eraseIdx_cons_succ, Bool.false_and, beq_self_eq_true, decide_true, List.isEmpty_nil, List.isEmpty_cons, wipeE, restE, List.getD_cons_succ, List.getD_cons_zero, List.getD_nil, r_ok, g_allR, List.length_replicate, frzs_vi, frzs_tab, tab_len, wn_len, fins_1, fins_2, fins_3, fins_4, fins_5, isub, Int.toNat_natCast, g_isn, g_isnn, r_callK, g_sorted, g_app, g_isL, isLst_lst, ex_unit, g_addI, own_int, g_enL, g_enT, g_sortU, g_rgL2, g_rgT2, g_eq1, frzs_tl]
        refine ⟨rfl, rfl, rfl, _, _, s2, ?_⟩
        all_goals (repeat' first | exact rfl | apply And.intro)
    · refine ⟨_, rfl, ?_⟩
      simp only [r_tupO, r_pc, r_en, r_augI, r_pS, r_seq, r_ifS, r_tst, r_not, r_and, r_or, r_bin, r_un, r_var, r_frz, r_mov, r_c, r_set, r_st, r_mut, r_do, r_ret, r_p0, r_pure, r_cons, r_nil, r_skip, r_modE, r_lst, r_tup, r_if, r_andV, r_orV, r_comp, r_for, r_rng1, r_rng2, r_its, r_zip, r_call, r_gnil, r_gcons, r_glend, r_par2, r_par3, r_nop, r_part, r_sl, r_chain, getv_s, gv_int, gv_bl, gv_str, gv_non, gv_lst, gv_tup, gv_scr, g_some, exists_eq_left, exists_eq_left', Val.int.injEq, Val.bl.injEq, Out.rt.injEq, and_assoc, exists_and_left, g_if, g_ixL, g_ixT, g_ixS, at_0, at_1, at_2, g_lt, g_le, g_gt, g_ge, g_tbl, g_tint, g_tlst, g_ttup, g_div, g_mod, g_mul, g_add, g_sub, g_pow, g_shl, g_shr, g_neg, g_not, g_bl, g_eqi, g_int, g_intb, g_lenL, g_lenT, g_lenS, g_max2, g_min2, no_int, no_bl, g_sum, g_slS, g_rng1, g_rng2, g_itsL, g_itsT, g_eqb, g_nei, g_neb, two_mk, g_IB, is_int, is_bl, is_str, is_non, is_tup, is_lst, it_int, it_bl, it_str, it_non, it_tup, it_lst, mod_nil, fset_0, fset_1, fset_2, pair2_mk, pair3_mk, and_true, true_and, frzs, frz, List.length_map, putAll, List.replicate, Nat.reduceSub, List.cons_append, List.nil_append, List.set_cons_zero, List.set_cons_succ, true_implies, Bool.true_eq_false, Bool.false_eq_true, false_implies, and_true, true_and, Bool.not_true, Bool.not_false, pick, List.getElem?_cons_zero, List.getElem?_cons_succ, List.eraseIdx_cons_zero, List.eraseIdx_cons_succ, Bool.false_and, beq_self_eq_true, decide_true, List.isEmpty_nil, List.isEmpty_cons, wipeE, restE, List.getD_cons_succ, List.getD_cons_zero, List.getD_nil, r_ok, g_allR, List.length_replicate, frzs_vi, frzs_tab, tab_len, wn_len, fins_1, fins_2, fins_3, fins_4, fins_5, isub, Int.toNat_natCast, g_isn, g_isnn, r_callK, g_sorted, g_app, g_isL, isLst_lst, ex_unit, g_addI, own_int, g_enL, g_enT, g_sortU, g_rgL2, g_rgT2, g_eq1, frzs_tl]
      rw [comp_flt (alN B m) (fun t : Nat => .int (t : Int)) (fun _ => .int 1) (fun t => !!crs s t) (vi_ci _) fun t ht => ?_]
      · simp only [r_tupO, r_pc, r_en, r_augI, r_pS, r_seq, r_ifS, r_tst, r_not, r_and, r_or, r_bin, r_un, r_var, r_frz, r_mov, r_c, r_set, r_st, r_mut, r_do, r_ret, r_p0, r_pure, r_cons, r_nil, r_skip, r_modE, r_lst, r_tup, r_if, r_andV, r_orV, r_comp, r_for, r_rng1, r_rng2, r_its, r_zip, r_call, r_gnil, r_gcons, r_glend, r_par2, r_par3, r_nop, r_part, r_sl, r_chain, getv_s, gv_int, gv_bl, gv_str, gv_non, gv_lst, gv_tup, gv_scr, g_some, exists_eq_left, exists_eq_left', Val.int.injEq, Val.bl.injEq, Out.rt.injEq, and_assoc, exists_and_left, g_if, g_ixL, g_ixT, g_ixS, at_0, at_1, at_2, g_lt, g_le, g_gt, g_ge, g_tbl, g_tint, g_tlst, g_ttup, g_div, g_mod, g_mul, g_add, g_sub, g_pow, g_shl, g_shr, g_neg, g_not, g_bl, g_eqi, g_int, g_intb, g_lenL, g_lenT, g_lenS, g_max2, g_min2, no_int, no_bl, g_sum, g_slS, g_rng1, g_rng2, g_itsL, g_itsT, g_eqb, g_nei, g_neb, two_mk, g_IB, is_int, is_bl, is_str, is_non, is_tup, is_lst, it_int, it_bl, it_str, it_non, it_tup, it_lst, mod_nil, fset_0, fset_1, fset_2, pair2_mk, pair3_mk, and_true, true_and, frzs, frz, List.length_map, putAll, List.replicate, Nat.reduceSub, List.cons_append, List.nil_append, List.set_cons_zero, List.set_cons_succ, true_implies, Bool.true_eq_false, Bool.false_eq_true, false_implies, and_true, true_and, Bool.not_true, Bool.not_false, pick, List.getElem?_cons_zero, List.getElem?_cons_succ, List.eraseIdx_cons_zero, List.eraseIdx_cons_succ, Bool.false_and, beq_self_eq_true, decide_true, List.isEmpty_nil, List.isEmpty_cons, wipeE, restE, List.getD_cons_succ, List.getD_cons_zero, List.getD_nil, r_ok, g_allR, List.length_replicate, frzs_vi, frzs_tab, tab_len, wn_len, fins_1, fins_2, fins_3, fins_4, fins_5, isub, Int.toNat_natCast, g_isn, g_isnn, r_callK, g_sorted, g_app, g_isL, isLst_lst, ex_unit, g_addI, own_int, g_enL, g_enT, g_sortU, g_rgL2, g_rgT2, g_eq1, frzs_tl]
        refine ⟨decide_eq_true (by have := filt_len2 (p := fun t => !!crs s t) hal; omega), rfl, ?_⟩
        rw [filt_emp]
        refine ⟨rfl, fun _ => ?_, fun _ => ?_⟩
        · exact call_run (law_lotN (m := m) (by omega) (al_in s hs).2) rfl rfl ⟨rfl, rfl⟩
        · trivial
      · refine ⟨_, rfl, ?_⟩
        simp only [r_tupO, r_pc, r_en, r_augI, r_pS, r_seq, r_ifS, r_tst, r_not, r_and, r_or, r_bin, r_un, r_var, r_frz, r_mov, r_c, r_set, r_st, r_mut, r_do, r_ret, r_p0, r_pure, r_cons, r_nil, r_skip, r_modE, r_lst, r_tup, r_if, r_andV, r_orV, r_comp, r_for, r_rng1, r_rng2, r_its, r_zip, r_call, r_gnil, r_gcons, r_glend, r_par2, r_par3, r_nop, r_part, r_sl, r_chain, getv_s, gv_int, gv_bl, gv_str, gv_non, gv_lst, gv_tup, gv_scr, g_some, exists_eq_left, exists_eq_left', Val.int.injEq, Val.bl.injEq, Out.rt.injEq, and_assoc, exists_and_left, g_if, g_ixL, g_ixT, g_ixS, at_0, at_1, at_2, g_lt, g_le, g_gt, g_ge, g_tbl, g_tint, g_tlst, g_ttup, g_div, g_mod, g_mul, g_add, g_sub, g_pow, g_shl, g_shr, g_neg, g_not, g_bl, g_eqi, g_int, g_intb, g_lenL, g_lenT, g_lenS, g_max2, g_min2, no_int, no_bl, g_sum, g_slS, g_rng1, g_rng2, g_itsL, g_itsT, g_eqb, g_nei, g_neb, two_mk, g_IB, is_int, is_bl, is_str, is_non, is_tup, is_lst, it_int, it_bl, it_str, it_non, it_tup, it_lst, mod_nil, fset_0, fset_1, fset_2, pair2_mk, pair3_mk, and_true, true_and, frzs, frz, List.length_map, putAll, List.replicate, Nat.reduceSub, List.cons_append, List.nil_append, List.set_cons_zero, List.set_cons_succ, true_implies, Bool.true_eq_false, Bool.false_eq_true, false_implies, and_true, true_and, Bool.not_true, Bool.not_false, pick, List.getElem?_cons_zero, List.getElem?_cons_succ, List.eraseIdx_cons_zero, List.eraseIdx_cons_succ, Bool.false_and, beq_self_eq_true, decide_true, List.isEmpty_nil, List.isEmpty_cons, wipeE, restE, List.getD_cons_succ, List.getD_cons_zero, List.getD_nil, r_ok, g_allR, List.length_replicate, frzs_vi, frzs_tab, tab_len, wn_len, fins_1, fins_2, fins_3, fins_4, fins_5, isub, Int.toNat_natCast, g_isn, g_isnn, r_callK, g_sorted, g_app, g_isL, isLst_lst, ex_unit, g_addI, own_int, g_enL, g_enT, g_sortU, g_rgL2, g_rgT2, g_eq1, frzs_tl, g_band, nin3]
        exact ⟨rfl, by rw [Bool.not_not], fun _ => trivial, fun _ => trivial⟩
  · refine ⟨_, rfl, ?_⟩
    simp only [r_tupO, r_pc, r_en, r_augI, r_pS, r_seq, r_ifS, r_tst, r_not, r_and, r_or, r_bin, r_un, r_var, r_frz, r_mov, r_c, r_set, r_st, r_mut, r_do, r_ret, r_p0, r_pure, r_cons, r_nil, r_skip, r_modE, r_lst, r_tup, r_if, r_andV, r_orV, r_comp, r_for, r_rng1, r_rng2, r_its, r_zip, r_call, r_gnil, r_gcons, r_glend, r_par2, r_par3, r_nop, r_part, r_sl, r_chain, getv_s, gv_int, gv_bl, gv_str, gv_non, gv_lst, gv_tup, gv_scr, g_some, exists_eq_left, exists_eq_left', Val.int.injEq, Val.bl.injEq, Out.rt.injEq, and_assoc, exists_and_left, g_if, g_ixL, g_ixT, g_ixS, at_0, at_1, at_2, g_lt, g_le, g_gt, g_ge, g_tbl, g_tint, g_tlst, g_ttup, g_div, g_mod, g_mul, g_add, g_sub, g_pow, g_shl, g_shr, g_neg, g_not, g_bl, g_eqi, g_int, g_intb, g_lenL, g_lenT, g_lenS, g_max2, g_min2, no_int, no_bl, g_sum, g_slS, g_rng1, g_rng2, g_itsL, g_itsT, g_eqb, g_nei, g_neb, two_mk, g_IB, is_int, is_bl, is_str, is_non, is_tup, is_lst, it_int, it_bl, it_str, it_non, it_tup, it_lst, mod_nil, fset_0, fset_1, fset_2, pair2_mk, pair3_mk, and_true, true_and, frzs, frz, List.length_map, putAll, List.replicate, Nat.reduceSub, List.cons_append, List.nil_append, List.set_cons_zero, List.set_cons_succ, true_implies, Bool.true_eq_false, Bool.false_eq_true, false_implies, and_true, true_and, Bool.not_true, Bool.not_false, pick, List.getElem?_cons_zero, List.getElem?_cons_succ, List.eraseIdx_cons_zero, List.eraseIdx_cons_succ, Bool.false_and, beq_self_eq_true, decide_true, List.isEmpty_nil, List.isEmpty_cons, wipeE, restE, List.getD_cons_succ, List.getD_cons_zero, List.getD_nil, r_ok, g_allR, List.length_replicate, frzs_vi, frzs_tab, tab_len, wn_len, fins_1, fins_2, fins_3, fins_4, fins_5, isub, Int.toNat_natCast, g_isn, g_isnn, r_callK, g_sorted, g_app, g_isL, isLst_lst, ex_unit, g_addI, own_int, g_enL, g_enT, g_sortU, g_rgL2, g_rgT2, g_eq1, frzs_tl]
    exact call_run (law_lotN (m := m) (by omega) (al_in s hs).2) rfl rfl ⟨rfl, rfl⟩

theorem put_ok {W : Nat → Nat → Bool} {L : List Tab} {o : Bool} (hW : Tour W L.length) (hn : L.length ≤ 8) (hM : (szs L).sum ≤ 8) : F__law_put [.lst o (vi (wn W L.length)), .lst true (pv true L)] = some (.ok (.lst true (vi (wn (cmp W L) (szs L).sum))), [.lst o (vi (wn W L.length)), .lst false (pv false L)]) := by
  refine fn_run rfl ?_
  simp only [D__law_put, r_tupO, r_pc, r_en, r_augI, r_pS, r_seq, r_ifS, r_tst, r_not, r_and, r_or, r_bin, r_un, r_var, r_frz, r_mov, r_c, r_set, r_st, r_mut, r_do, r_ret, r_p0, r_pure, r_cons, r_nil, r_skip, r_modE, r_lst, r_tup, r_if, r_andV, r_orV, r_comp, r_for, r_rng1, r_rng2, r_its, r_zip, r_call, r_gnil, r_gcons, r_glend, r_par2, r_par3, r_nop, r_part, r_sl, r_chain, getv_s, gv_int, gv_bl, gv_str, gv_non, gv_lst, gv_tup, gv_scr, g_some, exists_eq_left, exists_eq_left', Val.int.injEq, Val.bl.injEq, Out.rt.injEq, and_assoc, exists_and_left, g_if, g_ixL, g_ixT, g_ixS, at_0, at_1, at_2, g_lt, g_le, g_gt, g_ge, g_tbl, g_tint, g_tlst, g_ttup, g_div, g_mod, g_mul, g_add, g_sub, g_pow, g_shl, g_shr, g_neg, g_not, g_bl, g_eqi, g_int, g_intb, g_lenL, g_lenT, g_lenS, g_max2, g_min2, no_int, no_bl, g_sum, g_slS, g_rng1, g_rng2, g_itsL, g_itsT, g_eqb, g_nei, g_neb, two_mk, g_IB, is_int, is_bl, is_str, is_non, is_tup, is_lst, it_int, it_bl, it_str, it_non, it_tup, it_lst, mod_nil, fset_0, fset_1, fset_2, pair2_mk, pair3_mk, and_true, true_and, frzs, frz, List.length_map, putAll, List.replicate, Nat.reduceSub, List.cons_append, List.nil_append, List.set_cons_zero, List.set_cons_succ, true_implies, Bool.true_eq_false, Bool.false_eq_true, false_implies, and_true, true_and, Bool.not_true, Bool.not_false, pick, List.getElem?_cons_zero, List.getElem?_cons_succ, List.eraseIdx_cons_zero, List.eraseIdx_cons_succ, Bool.false_and, beq_self_eq_true, decide_true, List.isEmpty_nil, List.isEmpty_cons, wipeE, restE, List.getD_cons_succ, List.getD_cons_zero, List.getD_nil, r_ok, g_allR, List.length_replicate, frzs_vi, frzs_tab, tab_len, wn_len, fins_1, fins_2, fins_3, fins_4, fins_5, isub, Int.toNat_natCast, g_isn, g_isnn, r_callK, g_sorted, g_app, g_isL, isLst_lst, ex_unit, g_addI, own_int, g_enL, g_enT, g_sortU, g_rgL2, g_rgT2, g_eq1, frzs_tl, r_asg]
  refine ⟨rfl, rfl, rfl, _, rfl, ?_⟩
  simp only [r_tupO, r_pc, r_en, r_augI, r_pS, r_seq, r_ifS, r_tst, r_not, r_and, r_or, r_bin, r_un, r_var, r_frz, r_mov, r_c, r_set, r_st, r_mut, r_do, r_ret, r_p0, r_pure, r_cons, r_nil, r_skip, r_modE, r_lst, r_tup, r_if, r_andV, r_orV, r_comp, r_for, r_rng1, r_rng2, r_its, r_zip, r_call, r_gnil, r_gcons, r_glend, r_par2, r_par3, r_nop, r_part, r_sl, r_chain, getv_s, gv_int, gv_bl, gv_str, gv_non, gv_lst, gv_tup, gv_scr, g_some, exists_eq_left, exists_eq_left', Val.int.injEq, Val.bl.injEq, Out.rt.injEq, and_assoc, exists_and_left, g_if, g_ixL, g_ixT, g_ixS, at_0, at_1, at_2, g_lt, g_le, g_gt, g_ge, g_tbl, g_tint, g_tlst, g_ttup, g_div, g_mod, g_mul, g_add, g_sub, g_pow, g_shl, g_shr, g_neg, g_not, g_bl, g_eqi, g_int, g_intb, g_lenL, g_lenT, g_lenS, g_max2, g_min2, no_int, no_bl, g_sum, g_slS, g_rng1, g_rng2, g_itsL, g_itsT, g_eqb, g_nei, g_neb, two_mk, g_IB, is_int, is_bl, is_str, is_non, is_tup, is_lst, it_int, it_bl, it_str, it_non, it_tup, it_lst, mod_nil, fset_0, fset_1, fset_2, pair2_mk, pair3_mk, and_true, true_and, frzs, frz, List.length_map, putAll, List.replicate, Nat.reduceSub, List.cons_append, List.nil_append, List.set_cons_zero, List.set_cons_succ, true_implies, Bool.true_eq_false, Bool.false_eq_true, false_implies, and_true, true_and, Bool.not_true, Bool.not_false, pick, List.getElem?_cons_zero, List.getElem?_cons_succ, List.eraseIdx_cons_zero, List.eraseIdx_cons_succ, Bool.false_and, beq_self_eq_true, decide_true, List.isEmpty_nil, List.isEmpty_cons, wipeE, restE, List.getD_cons_succ, List.getD_cons_zero, List.getD_nil, r_ok, g_allR, List.length_replicate, frzs_vi, frzs_tab, tab_len, wn_len, fins_1, fins_2, fins_3, fins_4, fins_5, isub, Int.toNat_natCast, g_isn, g_isnn, r_callK, g_sorted, g_app, g_isL, isLst_lst, ex_unit, g_addI, own_int, g_enL, g_enT, g_sortU, g_rgL2, g_rgT2, g_eq1, frzs_tl, frzs_pv]
  refine (for_run (fun i e => ∃ w5, e = [.lst o (vi (wn W L.length)), .lst false (pv false L), .lst true (vi (sts L i)), .lst true [], .int (st (szs L) i : Int), w5, .gone, .gone, .gone, .gone]) ⟨_, rfl⟩ ?_).mono ?_
  · rintro i v e hv ⟨w5, rfl⟩
    have hi : i < L.length := by
      have := (List.getElem?_eq_some_iff.mp hv).1
      rwa [pv_len] at this
    have hv2 : v = .lst false (vi (wn (tabs L i) ((szs L).getD i 0))) := by
      have := pv_at (b := false) hi
      unfold atI at this
      rw [ixn_nat (by rw [pv_len]; exact hi)] at this
      have this : (pv false L)[i]? = some _ := this
      rw [hv] at this
      exact Option.some.inj this
    subst hv2
    refine ⟨_, rfl, ?_⟩
    simp only [r_tupO, r_pc, r_en, r_augI, r_pS, r_seq, r_ifS, r_tst, r_not, r_and, r_or, r_bin, r_un, r_var, r_frz, r_mov, r_c, r_set, r_st, r_mut, r_do, r_ret, r_p0, r_pure, r_cons, r_nil, r_skip, r_modE, r_lst, r_tup, r_if, r_andV, r_orV, r_comp, r_for, r_rng1, r_rng2, r_its, r_zip, r_call, r_gnil, r_gcons, r_glend, r_par2, r_par3, r_nop, r_part, r_sl, r_chain, getv_s, gv_int, gv_bl, gv_str, gv_non, gv_lst, gv_tup, gv_scr, g_some, exists_eq_left, exists_eq_left', Val.int.injEq, Val.bl.injEq, Out.rt.injEq, and_assoc, exists_and_left, g_if, g_ixL, g_ixT, g_ixS, at_0, at_1, at_2, g_lt, g_le, g_gt, g_ge, g_tbl, g_tint, g_tlst, g_ttup, g_div, g_mod, g_mul, g_add, g_sub, g_pow, g_shl, g_shr, g_neg, g_not, g_bl, g_eqi, g_int, g_intb, g_lenL, g_lenT, g_lenS, g_max2, g_min2, no_int, no_bl, g_sum, g_slS, g_rng1, g_rng2, g_itsL, g_itsT, g_eqb, g_nei, g_neb, two_mk, g_IB, is_int, is_bl, is_str, is_non, is_tup, is_lst, it_int, it_bl, it_str, it_non, it_tup, it_lst, mod_nil, fset_0, fset_1, fset_2, pair2_mk, pair3_mk, and_true, true_and, frzs, frz, List.length_map, putAll, List.replicate, Nat.reduceSub, List.cons_append, List.nil_append, List.set_cons_zero, List.set_cons_succ, true_implies, Bool.true_eq_false, Bool.false_eq_true, false_implies, and_true, true_and, Bool.not_true, Bool.not_false, pick, List.getElem?_cons_zero, List.getElem?_cons_succ, List.eraseIdx_cons_zero, List.eraseIdx_cons_succ, Bool.false_and, beq_self_eq_true, decide_true, List.isEmpty_nil, List.isEmpty_cons, wipeE, restE, List.getD_cons_succ, List.getD_cons_zero, List.getD_nil, r_ok, g_allR, List.length_replicate, frzs_vi, frzs_tab, tab_len, wn_len, fins_1, fins_2, fins_3, fins_4, fins_5, isub, Int.toNat_natCast, g_isn, g_isnn, r_callK, g_sorted, g_app, g_isL, isLst_lst, ex_unit, g_addI, own_int, g_enL, g_enT, g_sortU, g_rgL2, g_rgT2, g_eq1, frzs_tl]
    refine ⟨decide_eq_true (by rw [List.length_range]; omega), ?_⟩
    have es : (st (szs L) i : Int) + ((szs L).getD i 0 : Int) = (st (szs L) (i + 1) : Int) := by rw [st_s (by rw [szs_len]; exact hi)]; push_cast; rfl
    rw [es]
    have ev : vi (sts L (i + 1)) = vi (sts L i) ++ [Val.int (st (szs L) i : Int)] := by
      unfold sts; rw [List.range_succ, List.map_append]; exact List.map_append ..
    rw [ev]
    exact ⟨_, rfl⟩
  · rintro oo e ⟨rfl, w5, rfl⟩
    rw [pv_len]
    simp only [r_tupO, r_pc, r_en, r_augI, r_pS, r_seq, r_ifS, r_tst, r_not, r_and, r_or, r_bin, r_un, r_var, r_frz, r_mov, r_c, r_set, r_st, r_mut, r_do, r_ret, r_p0, r_pure, r_cons, r_nil, r_skip, r_modE, r_lst, r_tup, r_if, r_andV, r_orV, r_comp, r_for, r_rng1, r_rng2, r_its, r_zip, r_call, r_gnil, r_gcons, r_glend, r_par2, r_par3, r_nop, r_part, r_sl, r_chain, getv_s, gv_int, gv_bl, gv_str, gv_non, gv_lst, gv_tup, gv_scr, g_some, exists_eq_left, exists_eq_left', Val.int.injEq, Val.bl.injEq, Out.rt.injEq, and_assoc, exists_and_left, g_if, g_ixL, g_ixT, g_ixS, at_0, at_1, at_2, g_lt, g_le, g_gt, g_ge, g_tbl, g_tint, g_tlst, g_ttup, g_div, g_mod, g_mul, g_add, g_sub, g_pow, g_shl, g_shr, g_neg, g_not, g_bl, g_eqi, g_int, g_intb, g_lenL, g_lenT, g_lenS, g_max2, g_min2, no_int, no_bl, g_sum, g_slS, g_rng1, g_rng2, g_itsL, g_itsT, g_eqb, g_nei, g_neb, two_mk, g_IB, is_int, is_bl, is_str, is_non, is_tup, is_lst, it_int, it_bl, it_str, it_non, it_tup, it_lst, mod_nil, fset_0, fset_1, fset_2, pair2_mk, pair3_mk, and_true, true_and, frzs, frz, List.length_map, putAll, List.replicate, Nat.reduceSub, List.cons_append, List.nil_append, List.set_cons_zero, List.set_cons_succ, true_implies, Bool.true_eq_false, Bool.false_eq_true, false_implies, and_true, true_and, Bool.not_true, Bool.not_false, pick, List.getElem?_cons_zero, List.getElem?_cons_succ, List.eraseIdx_cons_zero, List.eraseIdx_cons_succ, Bool.false_and, beq_self_eq_true, decide_true, List.isEmpty_nil, List.isEmpty_cons, wipeE, restE, List.getD_cons_succ, List.getD_cons_zero, List.getD_nil, r_ok, g_allR, List.length_replicate, frzs_vi, frzs_tab, tab_len, wn_len, fins_1, fins_2, fins_3, fins_4, fins_5, isub, Int.toNat_natCast, g_isn, g_isnn, r_callK, g_sorted, g_app, g_isL, isLst_lst, ex_unit, g_addI, own_int, g_enL, g_enT, g_sortU, g_rgL2, g_rgT2, g_eq1, frzs_tl, pv_len]
    refine ⟨decide_eq_true (by omega), ?_⟩
    have est : (st (szs L) L.length : Int) = ((szs L).sum : Int) := by rw [← szs_len, st_all]
    rw [est]
    refine (for_run (fun i e => ∃ w6 w7, e = [.lst o (vi (wn W L.length)), .lst false (pv false L), .lst true (vi (sts L L.length)), .lst true (vi ((List.range (st (szs L) i)).map fun u => ((mk (cmp W L u) (szs L).sum : Nat) : Int))), .int ((szs L).sum : Int), w5, w6, w7, .gone, .gone]) ⟨_, _, rfl⟩ ?_).mono ?_
    · rintro i v e hv ⟨w6, w7, rfl⟩
      obtain ⟨hi0, hv2⟩ := List.getElem?_eq_some_iff.mp hv
      have hi : i < L.length := by simpa [rgs] using hi0
      have hvi : v = .int (i : Int) := by rw [← hv2]; simp [rgs]
      subst hvi
      have hst : ∀ k, k ≤ L.length → st (szs L) k ≤ 8 := fun k hk => Nat.le_trans (st_mono (by rw [szs_len]; exact hk)) hM
      have hz : ∀ k, k < L.length → (szs L).getD k 0 ≤ 8 := fun k hk => by have := st_le (zs := szs L) (k := k) (by rw [szs_len]; exact hk); omega
      refine ⟨_, rfl, ?_⟩
      simp only [r_tupO, r_pc, r_en, r_augI, r_pS, r_seq, r_ifS, r_tst, r_not, r_and, r_or, r_bin, r_un, r_var, r_frz, r_mov, r_c, r_set, r_st, r_mut, r_do, r_ret, r_p0, r_pure, r_cons, r_nil, r_skip, r_modE, r_lst, r_tup, r_if, r_andV, r_orV, r_comp, r_for, r_rng1, r_rng2, r_its, r_zip, r_call, r_gnil, r_gcons, r_glend, r_par2, r_par3, r_nop, r_part, r_sl, r_chain, getv_s, gv_int, gv_bl, gv_str, gv_non, gv_lst, gv_tup, gv_scr, g_some, exists_eq_left, exists_eq_left', Val.int.injEq, Val.bl.injEq, Out.rt.injEq, and_assoc, exists_and_left, g_if, g_ixL, g_ixT, g_ixS, at_0, at_1, at_2, g_lt, g_le, g_gt, g_ge, g_tbl, g_tint, g_tlst, g_ttup, g_div, g_mod, g_mul, g_add, g_sub, g_pow, g_shl, g_shr, g_neg, g_not, g_bl, g_eqi, g_int, g_intb, g_lenL, g_lenT, g_lenS, g_max2, g_min2, no_int, no_bl, g_sum, g_slS, g_rng1, g_rng2, g_itsL, g_itsT, g_eqb, g_nei, g_neb, two_mk, g_IB, is_int, is_bl, is_str, is_non, is_tup, is_lst, it_int, it_bl, it_str, it_non, it_tup, it_lst, mod_nil, fset_0, fset_1, fset_2, pair2_mk, pair3_mk, and_true, true_and, frzs, frz, List.length_map, putAll, List.replicate, Nat.reduceSub, List.cons_append, List.nil_append, List.set_cons_zero, List.set_cons_succ, true_implies, Bool.true_eq_false, Bool.false_eq_true, false_implies, and_true, true_and, Bool.not_true, Bool.not_false, pick, List.getElem?_cons_zero, List.getElem?_cons_succ, List.eraseIdx_cons_zero, List.eraseIdx_cons_succ, Bool.false_and, beq_self_eq_true, decide_true, List.isEmpty_nil, List.isEmpty_cons, wipeE, restE, List.getD_cons_succ, List.getD_cons_zero, List.getD_nil, r_ok, g_allR, List.length_replicate, frzs_vi, frzs_tab, tab_len, wn_len, fins_1, fins_2, fins_3, fins_4, fins_5, isub, Int.toNat_natCast, g_isn, g_isnn, r_callK, g_sorted, g_app, g_isL, isLst_lst, ex_unit, g_addI, own_int, g_enL, g_enT, g_sortU, g_rgL2, g_rgT2, g_eq1, frzs_tl, at_vi (at_nat (wn_get (B := W) hi))]
      refine call_run (lot_ok (by omega)) rfl rfl ?_
      simp only [r_tupO, r_pc, r_en, r_augI, r_pS, r_seq, r_ifS, r_tst, r_not, r_and, r_or, r_bin, r_un, r_var, r_frz, r_mov, r_c, r_set, r_st, r_mut, r_do, r_ret, r_p0, r_pure, r_cons, r_nil, r_skip, r_modE, r_lst, r_tup, r_if, r_andV, r_orV, r_comp, r_for, r_rng1, r_rng2, r_its, r_zip, r_call, r_gnil, r_gcons, r_glend, r_par2, r_par3, r_nop, r_part, r_sl, r_chain, getv_s, gv_int, gv_bl, gv_str, gv_non, gv_lst, gv_tup, gv_scr, g_some, exists_eq_left, exists_eq_left', Val.int.injEq, Val.bl.injEq, Out.rt.injEq, and_assoc, exists_and_left, g_if, g_ixL, g_ixT, g_ixS, at_0, at_1, at_2, g_lt, g_le, g_gt, g_ge, g_tbl, g_tint, g_tlst, g_ttup, g_div, g_mod, g_mul, g_add, g_sub, g_pow, g_shl, g_shr, g_neg, g_not, g_bl, g_eqi, g_int, g_intb, g_lenL, g_lenT, g_lenS, g_max2, g_min2, no_int, no_bl, g_sum, g_slS, g_rng1, g_rng2, g_itsL, g_itsT, g_eqb, g_nei, g_neb, two_mk, g_IB, is_int, is_bl, is_str, is_non, is_tup, is_lst, it_int, it_bl, it_str, it_non, it_tup, it_lst, mod_nil, fset_0, fset_1, fset_2, pair2_mk, pair3_mk, and_true, true_and, frzs, frz, List.length_map, putAll, List.replicate, Nat.reduceSub, List.cons_append, List.nil_append, List.set_cons_zero, List.set_cons_succ, true_implies, Bool.true_eq_false, Bool.false_eq_true, false_implies, and_true, true_and, Bool.not_true, Bool.not_false, pick, List.getElem?_cons_zero, List.getElem?_cons_succ, List.eraseIdx_cons_zero, List.eraseIdx_cons_succ, Bool.false_and, beq_self_eq_true, decide_true, List.isEmpty_nil, List.isEmpty_cons, wipeE, restE, List.getD_cons_succ, List.getD_cons_zero, List.getD_nil, r_ok, g_allR, List.length_replicate, frzs_vi, frzs_tab, tab_len, wn_len, fins_1, fins_2, fins_3, fins_4, fins_5, isub, Int.toNat_natCast, g_isn, g_isnn, r_callK, g_sorted, g_app, g_isL, isLst_lst, ex_unit, g_addI, own_int, g_enL, g_enT, g_sortU, g_rgL2, g_rgT2, g_eq1, frzs_tl]
      rw [comp_gen ((List.range L.length).filter (W i)) (fun y => .int y) (fun y => .int (((2 ^ (szs L).getD y 0 - 1) * 2 ^ st (szs L) y : Nat) : Int)) (vi_lot _ _) fun y hy => ?_]
      · simp only [r_tupO, r_pc, r_en, r_augI, r_pS, r_seq, r_ifS, r_tst, r_not, r_and, r_or, r_bin, r_un, r_var, r_frz, r_mov, r_c, r_set, r_st, r_mut, r_do, r_ret, r_p0, r_pure, r_cons, r_nil, r_skip, r_modE, r_lst, r_tup, r_if, r_andV, r_orV, r_comp, r_for, r_rng1, r_rng2, r_its, r_zip, r_call, r_gnil, r_gcons, r_glend, r_par2, r_par3, r_nop, r_part, r_sl, r_chain, getv_s, gv_int, gv_bl, gv_str, gv_non, gv_lst, gv_tup, gv_scr, g_some, exists_eq_left, exists_eq_left', Val.int.injEq, Val.bl.injEq, Out.rt.injEq, and_assoc, exists_and_left, g_if, g_ixL, g_ixT, g_ixS, at_0, at_1, at_2, g_lt, g_le, g_gt, g_ge, g_tbl, g_tint, g_tlst, g_ttup, g_div, g_mod, g_mul, g_add, g_sub, g_pow, g_shl, g_shr, g_neg, g_not, g_bl, g_eqi, g_int, g_intb, g_lenL, g_lenT, g_lenS, g_max2, g_min2, no_int, no_bl, g_sum, g_slS, g_rng1, g_rng2, g_itsL, g_itsT, g_eqb, g_nei, g_neb, two_mk, g_IB, is_int, is_bl, is_str, is_non, is_tup, is_lst, it_int, it_bl, it_str, it_non, it_tup, it_lst, mod_nil, fset_0, fset_1, fset_2, pair2_mk, pair3_mk, and_true, true_and, frzs, frz, List.length_map, putAll, List.replicate, Nat.reduceSub, List.cons_append, List.nil_append, List.set_cons_zero, List.set_cons_succ, true_implies, Bool.true_eq_false, Bool.false_eq_true, false_implies, and_true, true_and, Bool.not_true, Bool.not_false, pick, List.getElem?_cons_zero, List.getElem?_cons_succ, List.eraseIdx_cons_zero, List.eraseIdx_cons_succ, Bool.false_and, beq_self_eq_true, decide_true, List.isEmpty_nil, List.isEmpty_cons, wipeE, restE, List.getD_cons_succ, List.getD_cons_zero, List.getD_nil, r_ok, g_allR, List.length_replicate, frzs_vi, frzs_tab, tab_len, wn_len, fins_1, fins_2, fins_3, fins_4, fins_5, isub, Int.toNat_natCast, g_isn, g_isnn, r_callK, g_sorted, g_app, g_isL, isLst_lst, ex_unit, g_addI, own_int, g_enL, g_enT, g_sortU, g_rgL2, g_rgT2, g_eq1, frzs_tl, g_sumM, cast_sumN, pv_at hi, own_lst, owns_vi, no_lst, Bool.or_self]
        refine ⟨decide_eq_true (by have := filt_len (m := L.length) (f := W i); omega), ?_⟩
        rw [comp_gen (List.range ((szs L).getD i 0)) (fun x => .int ((mk (tabs L i x) ((szs L).getD i 0) : Nat) : Int)) (fun x => .int ((mk (cmp W L (st (szs L) i + x)) (szs L).sum : Nat) : Int)) (vi_wn _ _) fun x hx => ?_]
        · have en : vi ((List.range (st (szs L) (i + 1))).map fun u => ((mk (cmp W L u) (szs L).sum : Nat) : Int)) = vi ((List.range (st (szs L) i)).map fun u => ((mk (cmp W L u) (szs L).sum : Nat) : Int)) ++ (List.range ((szs L).getD i 0)).map fun x => Val.int ((mk (cmp W L (st (szs L) i + x)) (szs L).sum : Nat) : Int) := by
            rw [st_s (by rw [szs_len]; exact hi), List.range_add, List.map_append, List.map_map]
            rw [show ∀ a b : List Int, vi (a ++ b) = vi a ++ vi b from fun a b => List.map_append ..]
            congr 1
            exact List.map_map ..
          rw [en]
          have l1 := hz i hi
          have l2 := hst i (by omega)
          simp only [r_tupO, r_pc, r_en, r_augI, r_pS, r_seq, r_ifS, r_tst, r_not, r_and, r_or, r_bin, r_un, r_var, r_frz, r_mov, r_c, r_set, r_st, r_mut, r_do, r_ret, r_p0, r_pure, r_cons, r_nil, r_skip, r_modE, r_lst, r_tup, r_if, r_andV, r_orV, r_comp, r_for, r_rng1, r_rng2, r_its, r_zip, r_call, r_gnil, r_gcons, r_glend, r_par2, r_par3, r_nop, r_part, r_sl, r_chain, getv_s, gv_int, gv_bl, gv_str, gv_non, gv_lst, gv_tup, gv_scr, g_some, exists_eq_left, exists_eq_left', Val.int.injEq, Val.bl.injEq, Out.rt.injEq, and_assoc, exists_and_left, g_if, g_ixL, g_ixT, g_ixS, at_0, at_1, at_2, g_lt, g_le, g_gt, g_ge, g_tbl, g_tint, g_tlst, g_ttup, g_div, g_mod, g_mul, g_add, g_sub, g_pow, g_shl, g_shr, g_neg, g_not, g_bl, g_eqi, g_int, g_intb, g_lenL, g_lenT, g_lenS, g_max2, g_min2, no_int, no_bl, g_sum, g_slS, g_rng1, g_rng2, g_itsL, g_itsT, g_eqb, g_nei, g_neb, two_mk, g_IB, is_int, is_bl, is_str, is_non, is_tup, is_lst, it_int, it_bl, it_str, it_non, it_tup, it_lst, mod_nil, fset_0, fset_1, fset_2, pair2_mk, pair3_mk, and_true, true_and, frzs, frz, List.length_map, putAll, List.replicate, Nat.reduceSub, List.cons_append, List.nil_append, List.set_cons_zero, List.set_cons_succ, true_implies, Bool.true_eq_false, Bool.false_eq_true, false_implies, and_true, true_and, Bool.not_true, Bool.not_false, pick, List.getElem?_cons_zero, List.getElem?_cons_succ, List.eraseIdx_cons_zero, List.eraseIdx_cons_succ, Bool.false_and, beq_self_eq_true, decide_true, List.isEmpty_nil, List.isEmpty_cons, wipeE, restE, List.getD_cons_succ, List.getD_cons_zero, List.getD_nil, r_ok, g_allR, List.length_replicate, frzs_vi, frzs_tab, tab_len, wn_len, fins_1, fins_2, fins_3, fins_4, fins_5, isub, Int.toNat_natCast, g_isn, g_isnn, r_callK, g_sorted, g_app, g_isL, isLst_lst, ex_unit, g_addI, own_int, g_enL, g_enT, g_sortU, g_rgL2, g_rgT2, g_eq1, frzs_tl, g_ext]
          exact ⟨decide_eq_true (by simp only [List.length_range]; omega), decide_eq_true (by simp only [List.length_range, List.length_map]; omega), _, _, rfl⟩
        · have hx : x < (szs L).getD i 0 := List.mem_range.mp hx
          refine ⟨_, rfl, ?_⟩
          simp only [r_tupO, r_pc, r_en, r_augI, r_pS, r_seq, r_ifS, r_tst, r_not, r_and, r_or, r_bin, r_un, r_var, r_frz, r_mov, r_c, r_set, r_st, r_mut, r_do, r_ret, r_p0, r_pure, r_cons, r_nil, r_skip, r_modE, r_lst, r_tup, r_if, r_andV, r_orV, r_comp, r_for, r_rng1, r_rng2, r_its, r_zip, r_call, r_gnil, r_gcons, r_glend, r_par2, r_par3, r_nop, r_part, r_sl, r_chain, getv_s, gv_int, gv_bl, gv_str, gv_non, gv_lst, gv_tup, gv_scr, g_some, exists_eq_left, exists_eq_left', Val.int.injEq, Val.bl.injEq, Out.rt.injEq, and_assoc, exists_and_left, g_if, g_ixL, g_ixT, g_ixS, at_0, at_1, at_2, g_lt, g_le, g_gt, g_ge, g_tbl, g_tint, g_tlst, g_ttup, g_div, g_mod, g_mul, g_add, g_sub, g_pow, g_shl, g_shr, g_neg, g_not, g_bl, g_eqi, g_int, g_intb, g_lenL, g_lenT, g_lenS, g_max2, g_min2, no_int, no_bl, g_sum, g_slS, g_rng1, g_rng2, g_itsL, g_itsT, g_eqb, g_nei, g_neb, two_mk, g_IB, is_int, is_bl, is_str, is_non, is_tup, is_lst, it_int, it_bl, it_str, it_non, it_tup, it_lst, mod_nil, fset_0, fset_1, fset_2, pair2_mk, pair3_mk, and_true, true_and, frzs, frz, List.length_map, putAll, List.replicate, Nat.reduceSub, List.cons_append, List.nil_append, List.set_cons_zero, List.set_cons_succ, true_implies, Bool.true_eq_false, Bool.false_eq_true, false_implies, and_true, true_and, Bool.not_true, Bool.not_false, pick, List.getElem?_cons_zero, List.getElem?_cons_succ, List.eraseIdx_cons_zero, List.eraseIdx_cons_succ, Bool.false_and, beq_self_eq_true, decide_true, List.isEmpty_nil, List.isEmpty_cons, wipeE, restE, List.getD_cons_succ, List.getD_cons_zero, List.getD_nil, r_ok, g_allR, List.length_replicate, frzs_vi, frzs_tab, tab_len, wn_len, fins_1, fins_2, fins_3, fins_4, fins_5, isub, Int.toNat_natCast, g_isn, g_isnn, r_callK, g_sorted, g_app, g_isL, isLst_lst, ex_unit, g_addI, own_int, g_enL, g_enT, g_sortU, g_rgL2, g_rgT2, g_eq1, frzs_tl, sts_at hi]
          have l3 : mk (tabs L i x) ((szs L).getD i 0) < 2 ^ 8 := Nat.lt_of_lt_of_le (mk_lt _ _) (Nat.pow_le_pow_right (by omega) (hz i hi))
          refine ⟨shl_nat (by omega) (by have := hst i (by omega); omega), ?_⟩
          rw [cmp_row hW hi hx]
          push_cast
          rfl
      · have hy : y < L.length := List.mem_range.mp (List.mem_filter.mp hy).1
        refine ⟨_, rfl, ?_⟩
        simp only [r_tupO, r_pc, r_en, r_augI, r_pS, r_seq, r_ifS, r_tst, r_not, r_and, r_or, r_bin, r_un, r_var, r_frz, r_mov, r_c, r_set, r_st, r_mut, r_do, r_ret, r_p0, r_pure, r_cons, r_nil, r_skip, r_modE, r_lst, r_tup, r_if, r_andV, r_orV, r_comp, r_for, r_rng1, r_rng2, r_its, r_zip, r_call, r_gnil, r_gcons, r_glend, r_par2, r_par3, r_nop, r_part, r_sl, r_chain, getv_s, gv_int, gv_bl, gv_str, gv_non, gv_lst, gv_tup, gv_scr, g_some, exists_eq_left, exists_eq_left', Val.int.injEq, Val.bl.injEq, Out.rt.injEq, and_assoc, exists_and_left, g_if, g_ixL, g_ixT, g_ixS, at_0, at_1, at_2, g_lt, g_le, g_gt, g_ge, g_tbl, g_tint, g_tlst, g_ttup, g_div, g_mod, g_mul, g_add, g_sub, g_pow, g_shl, g_shr, g_neg, g_not, g_bl, g_eqi, g_int, g_intb, g_lenL, g_lenT, g_lenS, g_max2, g_min2, no_int, no_bl, g_sum, g_slS, g_rng1, g_rng2, g_itsL, g_itsT, g_eqb, g_nei, g_neb, two_mk, g_IB, is_int, is_bl, is_str, is_non, is_tup, is_lst, it_int, it_bl, it_str, it_non, it_tup, it_lst, mod_nil, fset_0, fset_1, fset_2, pair2_mk, pair3_mk, and_true, true_and, frzs, frz, List.length_map, putAll, List.replicate, Nat.reduceSub, List.cons_append, List.nil_append, List.set_cons_zero, List.set_cons_succ, true_implies, Bool.true_eq_false, Bool.false_eq_true, false_implies, and_true, true_and, Bool.not_true, Bool.not_false, pick, List.getElem?_cons_zero, List.getElem?_cons_succ, List.eraseIdx_cons_zero, List.eraseIdx_cons_succ, Bool.false_and, beq_self_eq_true, decide_true, List.isEmpty_nil, List.isEmpty_cons, wipeE, restE, List.getD_cons_succ, List.getD_cons_zero, List.getD_nil, r_ok, g_allR, List.length_replicate, frzs_vi, frzs_tab, tab_len, wn_len, fins_1, fins_2, fins_3, fins_4, fins_5, isub, Int.toNat_natCast, g_isn, g_isnn, r_callK, g_sorted, g_app, g_isL, isLst_lst, ex_unit, g_addI, own_int, g_enL, g_enT, g_sortU, g_rgL2, g_rgT2, g_eq1, frzs_tl, pv_at hy, sts_at hy, full_ok]
        have h9 : 2 ^ (szs L).getD y 0 ≤ 256 := Nat.pow_le_pow_right (n := 2) (by omega) (hz y hy)
        refine ⟨shl_ok (by have := hz y hy; omega), shl_nat (by omega) (by have := hst y (by omega); omega), ?_⟩
        push_cast
        rfl
    · rintro oo e ⟨rfl, w6, w7, rfl⟩
      rw [show (rgs L.length).length = L.length by simp [rgs], ← szs_len, st_all]
      simp only [r_tupO, r_pc, r_en, r_augI, r_pS, r_seq, r_ifS, r_tst, r_not, r_and, r_or, r_bin, r_un, r_var, r_frz, r_mov, r_c, r_set, r_st, r_mut, r_do, r_ret, r_p0, r_pure, r_cons, r_nil, r_skip, r_modE, r_lst, r_tup, r_if, r_andV, r_orV, r_comp, r_for, r_rng1, r_rng2, r_its, r_zip, r_call, r_gnil, r_gcons, r_glend, r_par2, r_par3, r_nop, r_part, r_sl, r_chain, getv_s, gv_int, gv_bl, gv_str, gv_non, gv_lst, gv_tup, gv_scr, g_some, exists_eq_left, exists_eq_left', Val.int.injEq, Val.bl.injEq, Out.rt.injEq, and_assoc, exists_and_left, g_if, g_ixL, g_ixT, g_ixS, at_0, at_1, at_2, g_lt, g_le, g_gt, g_ge, g_tbl, g_tint, g_tlst, g_ttup, g_div, g_mod, g_mul, g_add, g_sub, g_pow, g_shl, g_shr, g_neg, g_not, g_bl, g_eqi, g_int, g_intb, g_lenL, g_lenT, g_lenS, g_max2, g_min2, no_int, no_bl, g_sum, g_slS, g_rng1, g_rng2, g_itsL, g_itsT, g_eqb, g_nei, g_neb, two_mk, g_IB, is_int, is_bl, is_str, is_non, is_tup, is_lst, it_int, it_bl, it_str, it_non, it_tup, it_lst, mod_nil, fset_0, fset_1, fset_2, pair2_mk, pair3_mk, and_true, true_and, frzs, frz, List.length_map, putAll, List.replicate, Nat.reduceSub, List.cons_append, List.nil_append, List.set_cons_zero, List.set_cons_succ, true_implies, Bool.true_eq_false, Bool.false_eq_true, false_implies, and_true, true_and, Bool.not_true, Bool.not_false, pick, List.getElem?_cons_zero, List.getElem?_cons_succ, List.eraseIdx_cons_zero, List.eraseIdx_cons_succ, Bool.false_and, beq_self_eq_true, decide_true, List.isEmpty_nil, List.isEmpty_cons, wipeE, restE, List.getD_cons_succ, List.getD_cons_zero, List.getD_nil, r_ok, g_allR, List.length_replicate, frzs_vi, frzs_tab, tab_len, wn_len, fins_1, fins_2, fins_3, fins_4, fins_5, isub, Int.toNat_natCast, g_isn, g_isnn, r_callK, g_sorted, g_app, g_isL, isLst_lst, ex_unit, g_addI, own_int, g_enL, g_enT, g_sortU, g_rgL2, g_rgT2, g_eq1, frzs_tl]
      all_goals (repeat' first | exact rfl | apply And.intro)

theorem places_ok {n a b c : Int} (hn : n < 500000) (h : Fk n a b c) : ∃ a' b' c', F__law_places [fd a b c] = some (.ok (.bl true), [fd a' b' c']) ∧ Fk (n + 1200) a' b' c' := by
  suffices h : ∃ v fs, F__law_places [fd a b c] = some (.ok v, fs) ∧ v = .bl true ∧ ∃ a' b' c', fs = [fd a' b' c'] ∧ Fk (n + 1200) a' b' c' by
    obtain ⟨v, fs, e, rfl, a', b', c', rfl, p⟩ := h
    exact ⟨a', b', c', e, p⟩
  obtain ⟨m, W, a1, b1, c1, d1, hm0, hm4, hW, f1⟩ := wins_ok (least := 1) (most := 4) (by omega) (by omega) (by omega) (by omega) h
  refine fn_runE rfl ?_
  simp only [D__law_places, r_tupO, r_pc, r_en, r_augI, r_pS, r_seq, r_ifS, r_tst, r_not, r_and, r_or, r_bin, r_un, r_var, r_frz, r_mov, r_c, r_set, r_st, r_mut, r_do, r_ret, r_p0, r_pure, r_cons, r_nil, r_skip, r_modE, r_lst, r_tup, r_if, r_andV, r_orV, r_comp, r_for, r_rng1, r_rng2, r_its, r_zip, r_call, r_gnil, r_gcons, r_glend, r_par2, r_par3, r_nop, r_part, r_sl, r_chain, getv_s, gv_int, gv_bl, gv_str, gv_non, gv_lst, gv_tup, gv_scr, g_some, exists_eq_left, exists_eq_left', Val.int.injEq, Val.bl.injEq, Out.rt.injEq, and_assoc, exists_and_left, g_if, g_ixL, g_ixT, g_ixS, at_0, at_1, at_2, g_lt, g_le, g_gt, g_ge, g_tbl, g_tint, g_tlst, g_ttup, g_div, g_mod, g_mul, g_add, g_sub, g_pow, g_shl, g_shr, g_neg, g_not, g_bl, g_eqi, g_int, g_intb, g_lenL, g_lenT, g_lenS, g_max2, g_min2, no_int, no_bl, g_sum, g_slS, g_rng1, g_rng2, g_itsL, g_itsT, g_eqb, g_nei, g_neb, two_mk, g_IB, is_int, is_bl, is_str, is_non, is_tup, is_lst, it_int, it_bl, it_str, it_non, it_tup, it_lst, mod_nil, fset_0, fset_1, fset_2, pair2_mk, pair3_mk, and_true, true_and, frzs, frz, List.length_map, putAll, List.replicate, Nat.reduceSub, List.cons_append, List.nil_append, List.set_cons_zero, List.set_cons_succ, true_implies, Bool.true_eq_false, Bool.false_eq_true, false_implies, and_true, true_and, Bool.not_true, Bool.not_false, pick, List.getElem?_cons_zero, List.getElem?_cons_succ, List.eraseIdx_cons_zero, List.eraseIdx_cons_succ, Bool.false_and, beq_self_eq_true, decide_true, List.isEmpty_nil, List.isEmpty_cons, wipeE, restE, List.getD_cons_succ, List.getD_cons_zero, List.getD_nil, r_ok, g_allR, List.length_replicate, frzs_vi, frzs_tab, tab_len, wn_len, fins_1, fins_2, fins_3, fins_4, fins_5, isub, Int.toNat_natCast, g_isn, g_isnn, r_callK, g_sorted, g_app, g_isL, isLst_lst, ex_unit, g_addI, own_int, g_enL, g_enT, g_sortU, g_rgL2, g_rgT2, g_eq1, frzs_tl]
  refine call_run d1 rfl rfl ?_
  simp only [r_tupO, r_pc, r_en, r_augI, r_pS, r_seq, r_ifS, r_tst, r_not, r_and, r_or, r_bin, r_un, r_var, r_frz, r_mov, r_c, r_set, r_st, r_mut, r_do, r_ret, r_p0, r_pure, r_cons, r_nil, r_skip, r_modE, r_lst, r_tup, r_if, r_andV, r_orV, r_comp, r_for, r_rng1, r_rng2, r_its, r_zip, r_call, r_gnil, r_gcons, r_glend, r_par2, r_par3, r_nop, r_part, r_sl, r_chain, getv_s, gv_int, gv_bl, gv_str, gv_non, gv_lst, gv_tup, gv_scr, g_some, exists_eq_left, exists_eq_left', Val.int.injEq, Val.bl.injEq, Out.rt.injEq, and_assoc, exists_and_left, g_if, g_ixL, g_ixT, g_ixS, at_0, at_1, at_2, g_lt, g_le, g_gt, g_ge, g_tbl, g_tint, g_tlst, g_ttup, g_div, g_mod, g_mul, g_add, g_sub, g_pow, g_shl, g_shr, g_neg, g_not, g_bl, g_eqi, g_int, g_intb, g_lenL, g_lenT, g_lenS, g_max2, g_min2, no_int, no_bl, g_sum, g_slS, g_rng1, g_rng2, g_itsL, g_itsT, g_eqb, g_nei, g_neb, two_mk, g_IB, is_int, is_bl, is_str, is_non, is_tup, is_lst, it_int, it_bl, it_str, it_non, it_tup, it_lst, mod_nil, fset_0, fset_1, fset_2, pair2_mk, pair3_mk, and_true, true_and, frzs, frz, List.length_map, putAll, List.replicate, Nat.reduceSub, List.cons_append, List.nil_append, List.set_cons_zero, List.set_cons_succ, true_implies, Bool.true_eq_false, Bool.false_eq_true, false_implies, and_true, true_and, Bool.not_true, Bool.not_false, pick, List.getElem?_cons_zero, List.getElem?_cons_succ, List.eraseIdx_cons_zero, List.eraseIdx_cons_succ, Bool.false_and, beq_self_eq_true, decide_true, List.isEmpty_nil, List.isEmpty_cons, wipeE, restE, List.getD_cons_succ, List.getD_cons_zero, List.getD_nil, r_ok, g_allR, List.length_replicate, frzs_vi, frzs_tab, tab_len, wn_len, fins_1, fins_2, fins_3, fins_4, fins_5, isub, Int.toNat_natCast, g_isn, g_isnn, r_callK, g_sorted, g_app, g_isL, isLst_lst, ex_unit, g_addI, own_int, g_enL, g_enT, g_sortU, g_rgL2, g_rgT2, g_eq1, frzs_tl]
  refine ⟨rfl, decide_eq_true (by omega), ?_⟩
  refine (for_run (fun i e => ∃ (a b c : Int) (L : List Tab) (room : Int) (w4 : Val), e = [fd a b c, .lst true (vi (wn W m)), .lst true (pv true L), .int room, w4, .gone, .gone, .gone, .gone] ∧ L.length = i ∧ (∀ p ∈ L, Tour p.1 p.2 ∧ 1 ≤ p.2) ∧ room = 8 + (i : Int) - ((szs L).sum : Int) ∧ (szs L).sum + (m - i) ≤ 8 ∧ Fk (n + 200 + 200 * i) a b c) ⟨a1, b1, c1, [], 8, .gone, rfl, rfl, (fun p hp => nomatch hp), rfl, (by show 0 + (m - 0) ≤ 8; omega), f1.mono (by omega)⟩ ?_).mono ?_
  · rintro i v e hv ⟨a2, b2, c2, L, room, w4, rfl, hL, hP, hroom, hsum, f2⟩
    obtain ⟨hi0, hv2⟩ := List.getElem?_eq_some_iff.mp hv
    have hi : i < m := by simpa [rgs] using hi0
    have hvi : v = .int (i : Int) := by rw [← hv2]; simp [rgs]
    subst hvi
    refine ⟨_, rfl, ?_⟩
    simp only [r_tupO, r_pc, r_en, r_augI, r_pS, r_seq, r_ifS, r_tst, r_not, r_and, r_or, r_bin, r_un, r_var, r_frz, r_mov, r_c, r_set, r_st, r_mut, r_do, r_ret, r_p0, r_pure, r_cons, r_nil, r_skip, r_modE, r_lst, r_tup, r_if, r_andV, r_orV, r_comp, r_for, r_rng1, r_rng2, r_its, r_zip, r_call, r_gnil, r_gcons, r_glend, r_par2, r_par3, r_nop, r_part, r_sl, r_chain, getv_s, gv_int, gv_bl, gv_str, gv_non, gv_lst, gv_tup, gv_scr, g_some, exists_eq_left, exists_eq_left', Val.int.injEq, Val.bl.injEq, Out.rt.injEq, and_assoc, exists_and_left, g_if, g_ixL, g_ixT, g_ixS, at_0, at_1, at_2, g_lt, g_le, g_gt, g_ge, g_tbl, g_tint, g_tlst, g_ttup, g_div, g_mod, g_mul, g_add, g_sub, g_pow, g_shl, g_shr, g_neg, g_not, g_bl, g_eqi, g_int, g_intb, g_lenL, g_lenT, g_lenS, g_max2, g_min2, no_int, no_bl, g_sum, g_slS, g_rng1, g_rng2, g_itsL, g_itsT, g_eqb, g_nei, g_neb, two_mk, g_IB, is_int, is_bl, is_str, is_non, is_tup, is_lst, it_int, it_bl, it_str, it_non, it_tup, it_lst, mod_nil, fset_0, fset_1, fset_2, pair2_mk, pair3_mk, and_true, true_and, frzs, frz, List.length_map, putAll, List.replicate, Nat.reduceSub, List.cons_append, List.nil_append, List.set_cons_zero, List.set_cons_succ, true_implies, Bool.true_eq_false, Bool.false_eq_true, false_implies, and_true, true_and, Bool.not_true, Bool.not_false, pick, List.getElem?_cons_zero, List.getElem?_cons_succ, List.eraseIdx_cons_zero, List.eraseIdx_cons_succ, Bool.false_and, beq_self_eq_true, decide_true, List.isEmpty_nil, List.isEmpty_cons, wipeE, restE, List.getD_cons_succ, List.getD_cons_zero, List.getD_nil, r_ok, g_allR, List.length_replicate, frzs_vi, frzs_tab, tab_len, wn_len, fins_1, fins_2, fins_3, fins_4, fins_5, isub, Int.toNat_natCast, g_isn, g_isnn, r_callK, g_sorted, g_app, g_isL, isLst_lst, ex_unit, g_addI, own_int, g_enL, g_enT, g_sortU, g_rgL2, g_rgT2, g_eq1, frzs_tl]
    generalize hmx : (1 : Int) + (if (4 : Int) < room - m then 4 else room - m) = mx
    have hmx2 : 1 ≤ mx ∧ mx ≤ 5 ∧ mx ≤ 1 + (room - m) := by subst hmx; refine ⟨?_, ?_, ?_⟩ <;> split <;> omega
    obtain ⟨z, C, a3, b3, c3, d3, hz0, hz1, hC, f3⟩ := wins_ok (least := 1) (most := mx) (by omega) (by omega) (by omega) (by omega) f2
    refine call_run d3 rfl rfl ?_
    have ea : atI (pv true L ++ [Val.lst true (vi (wn C z))]) (i : Int) = some (.lst true (vi (wn C z))) := at_nat (by
      rw [List.getElem?_append_right (by rw [pv_len]; omega), pv_len, hL, Nat.sub_self]; rfl)
    have ep : pv true L ++ [Val.lst true (vi (wn C z))] = pv true (L ++ [(C, z)]) := by unfold pv; rw [List.map_append]; rfl
    have esz : (szs (L ++ [(C, z)])).sum = (szs L).sum + z := by
      unfold szs
      rw [List.map_append, List.sum_append]; simp
    simp only [r_tupO, r_pc, r_en, r_augI, r_pS, r_seq, r_ifS, r_tst, r_not, r_and, r_or, r_bin, r_un, r_var, r_frz, r_mov, r_c, r_set, r_st, r_mut, r_do, r_ret, r_p0, r_pure, r_cons, r_nil, r_skip, r_modE, r_lst, r_tup, r_if, r_andV, r_orV, r_comp, r_for, r_rng1, r_rng2, r_its, r_zip, r_call, r_gnil, r_gcons, r_glend, r_par2, r_par3, r_nop, r_part, r_sl, r_chain, getv_s, gv_int, gv_bl, gv_str, gv_non, gv_lst, gv_tup, gv_scr, g_some, exists_eq_left, exists_eq_left', Val.int.injEq, Val.bl.injEq, Out.rt.injEq, and_assoc, exists_and_left, g_if, g_ixL, g_ixT, g_ixS, at_0, at_1, at_2, g_lt, g_le, g_gt, g_ge, g_tbl, g_tint, g_tlst, g_ttup, g_div, g_mod, g_mul, g_add, g_sub, g_pow, g_shl, g_shr, g_neg, g_not, g_bl, g_eqi, g_int, g_intb, g_lenL, g_lenT, g_lenS, g_max2, g_min2, no_int, no_bl, g_sum, g_slS, g_rng1, g_rng2, g_itsL, g_itsT, g_eqb, g_nei, g_neb, two_mk, g_IB, is_int, is_bl, is_str, is_non, is_tup, is_lst, it_int, it_bl, it_str, it_non, it_tup, it_lst, mod_nil, fset_0, fset_1, fset_2, pair2_mk, pair3_mk, and_true, true_and, frzs, frz, List.length_map, putAll, List.replicate, Nat.reduceSub, List.cons_append, List.nil_append, List.set_cons_zero, List.set_cons_succ, true_implies, Bool.true_eq_false, Bool.false_eq_true, false_implies, and_true, true_and, Bool.not_true, Bool.not_false, pick, List.getElem?_cons_zero, List.getElem?_cons_succ, List.eraseIdx_cons_zero, List.eraseIdx_cons_succ, Bool.false_and, beq_self_eq_true, decide_true, List.isEmpty_nil, List.isEmpty_cons, wipeE, restE, List.getD_cons_succ, List.getD_cons_zero, List.getD_nil, r_ok, g_allR, List.length_replicate, frzs_vi, frzs_tab, tab_len, wn_len, fins_1, fins_2, fins_3, fins_4, fins_5, isub, Int.toNat_natCast, g_isn, g_isnn, r_callK, g_sorted, g_app, g_isL, isLst_lst, ex_unit, g_addI, own_int, g_enL, g_enT, g_sortU, g_rgL2, g_rgT2, g_eq1, frzs_tl, ea, pv_len]
    refine ⟨decide_eq_true (by omega), a3, b3, c3, L ++ [(C, z)], _, _, by rw [← ep], ?_, ?_, ?_, ?_, f3.mono (by omega)⟩
    · rw [List.length_append, hL]; rfl
    · intro p hp
      rcases List.mem_append.mp hp with hp | hp
      · exact hP p hp
      · rw [List.mem_singleton.mp hp]
        exact ⟨hC, by show 1 ≤ z; omega⟩
    · rw [esz, hroom]; push_cast; omega
    · rw [esz]; omega
  · rintro oo e ⟨rfl, a2, b2, c2, L, room, w4, rfl, hL, hP, hroom, hsum, f2⟩
    rw [show (rgs m).length = m by simp [rgs]] at hL hsum f2
    subst hL
    have hM : (szs L).sum ≤ 8 := by omega
    have hT := cmp_tour hW (fun p hp => (hP p hp).1)
    simp only [r_tupO, r_pc, r_en, r_augI, r_pS, r_seq, r_ifS, r_tst, r_not, r_and, r_or, r_bin, r_un, r_var, r_frz, r_mov, r_c, r_set, r_st, r_mut, r_do, r_ret, r_p0, r_pure, r_cons, r_nil, r_skip, r_modE, r_lst, r_tup, r_if, r_andV, r_orV, r_comp, r_for, r_rng1, r_rng2, r_its, r_zip, r_call, r_gnil, r_gcons, r_glend, r_par2, r_par3, r_nop, r_part, r_sl, r_chain, getv_s, gv_int, gv_bl, gv_str, gv_non, gv_lst, gv_tup, gv_scr, g_some, exists_eq_left, exists_eq_left', Val.int.injEq, Val.bl.injEq, Out.rt.injEq, and_assoc, exists_and_left, g_if, g_ixL, g_ixT, g_ixS, at_0, at_1, at_2, g_lt, g_le, g_gt, g_ge, g_tbl, g_tint, g_tlst, g_ttup, g_div, g_mod, g_mul, g_add, g_sub, g_pow, g_shl, g_shr, g_neg, g_not, g_bl, g_eqi, g_int, g_intb, g_lenL, g_lenT, g_lenS, g_max2, g_min2, no_int, no_bl, g_sum, g_slS, g_rng1, g_rng2, g_itsL, g_itsT, g_eqb, g_nei, g_neb, two_mk, g_IB, is_int, is_bl, is_str, is_non, is_tup, is_lst, it_int, it_bl, it_str, it_non, it_tup, it_lst, mod_nil, fset_0, fset_1, fset_2, pair2_mk, pair3_mk, and_true, true_and, frzs, frz, List.length_map, putAll, List.replicate, Nat.reduceSub, List.cons_append, List.nil_append, List.set_cons_zero, List.set_cons_succ, true_implies, Bool.true_eq_false, Bool.false_eq_true, false_implies, and_true, true_and, Bool.not_true, Bool.not_false, pick, List.getElem?_cons_zero, List.getElem?_cons_succ, List.eraseIdx_cons_zero, List.eraseIdx_cons_succ, Bool.false_and, beq_self_eq_true, decide_true, List.isEmpty_nil, List.isEmpty_cons, wipeE, restE, List.getD_cons_succ, List.getD_cons_zero, List.getD_nil, r_ok, g_allR, List.length_replicate, frzs_vi, frzs_tab, tab_len, wn_len, fins_1, fins_2, fins_3, fins_4, fins_5, isub, Int.toNat_natCast, g_isn, g_isnn, r_callK, g_sorted, g_app, g_isL, isLst_lst, ex_unit, g_addI, own_int, g_enL, g_enT, g_sortU, g_rgL2, g_rgT2, g_eq1, frzs_tl]
    refine call_run (put_ok hW (by omega) hM) rfl rfl ?_
    simp only [r_tupO, r_pc, r_en, r_augI, r_pS, r_seq, r_ifS, r_tst, r_not, r_and, r_or, r_bin, r_un, r_var, r_frz, r_mov, r_c, r_set, r_st, r_mut, r_do, r_ret, r_p0, r_pure, r_cons, r_nil, r_skip, r_modE, r_lst, r_tup, r_if, r_andV, r_orV, r_comp, r_for, r_rng1, r_rng2, r_its, r_zip, r_call, r_gnil, r_gcons, r_glend, r_par2, r_par3, r_nop, r_part, r_sl, r_chain, getv_s, gv_int, gv_bl, gv_str, gv_non, gv_lst, gv_tup, gv_scr, g_some, exists_eq_left, exists_eq_left', Val.int.injEq, Val.bl.injEq, Out.rt.injEq, and_assoc, exists_and_left, g_if, g_ixL, g_ixT, g_ixS, at_0, at_1, at_2, g_lt, g_le, g_gt, g_ge, g_tbl, g_tint, g_tlst, g_ttup, g_div, g_mod, g_mul, g_add, g_sub, g_pow, g_shl, g_shr, g_neg, g_not, g_bl, g_eqi, g_int, g_intb, g_lenL, g_lenT, g_lenS, g_max2, g_min2, no_int, no_bl, g_sum, g_slS, g_rng1, g_rng2, g_itsL, g_itsT, g_eqb, g_nei, g_neb, two_mk, g_IB, is_int, is_bl, is_str, is_non, is_tup, is_lst, it_int, it_bl, it_str, it_non, it_tup, it_lst, mod_nil, fset_0, fset_1, fset_2, pair2_mk, pair3_mk, and_true, true_and, frzs, frz, List.length_map, putAll, List.replicate, Nat.reduceSub, List.cons_append, List.nil_append, List.set_cons_zero, List.set_cons_succ, true_implies, Bool.true_eq_false, Bool.false_eq_true, false_implies, and_true, true_and, Bool.not_true, Bool.not_false, pick, List.getElem?_cons_zero, List.getElem?_cons_succ, List.eraseIdx_cons_zero, List.eraseIdx_cons_succ, Bool.false_and, beq_self_eq_true, decide_true, List.isEmpty_nil, List.isEmpty_cons, wipeE, restE, List.getD_cons_succ, List.getD_cons_zero, List.getD_nil, r_ok, g_allR, List.length_replicate, frzs_vi, frzs_tab, tab_len, wn_len, fins_1, fins_2, fins_3, fins_4, fins_5, isub, Int.toNat_natCast, g_isn, g_isnn, r_callK, g_sorted, g_app, g_isL, isLst_lst, ex_unit, g_addI, own_int, g_enL, g_enT, g_sortU, g_rgL2, g_rgT2, g_eq1, frzs_tl]
    refine call_run (right_ok hM hT) rfl rfl ?_
    simp only [r_tupO, r_pc, r_en, r_augI, r_pS, r_seq, r_ifS, r_tst, r_not, r_and, r_or, r_bin, r_un, r_var, r_frz, r_mov, r_c, r_set, r_st, r_mut, r_do, r_ret, r_p0, r_pure, r_cons, r_nil, r_skip, r_modE, r_lst, r_tup, r_if, r_andV, r_orV, r_comp, r_for, r_rng1, r_rng2, r_its, r_zip, r_call, r_gnil, r_gcons, r_glend, r_par2, r_par3, r_nop, r_part, r_sl, r_chain, getv_s, gv_int, gv_bl, gv_str, gv_non, gv_lst, gv_tup, gv_scr, g_some, exists_eq_left, exists_eq_left', Val.int.injEq, Val.bl.injEq, Out.rt.injEq, and_assoc, exists_and_left, g_if, g_ixL, g_ixT, g_ixS, at_0, at_1, at_2, g_lt, g_le, g_gt, g_ge, g_tbl, g_tint, g_tlst, g_ttup, g_div, g_mod, g_mul, g_add, g_sub, g_pow, g_shl, g_shr, g_neg, g_not, g_bl, g_eqi, g_int, g_intb, g_lenL, g_lenT, g_lenS, g_max2, g_min2, no_int, no_bl, g_sum, g_slS, g_rng1, g_rng2, g_itsL, g_itsT, g_eqb, g_nei, g_neb, two_mk, g_IB, is_int, is_bl, is_str, is_non, is_tup, is_lst, it_int, it_bl, it_str, it_non, it_tup, it_lst, mod_nil, fset_0, fset_1, fset_2, pair2_mk, pair3_mk, and_true, true_and, frzs, frz, List.length_map, putAll, List.replicate, Nat.reduceSub, List.cons_append, List.nil_append, List.set_cons_zero, List.set_cons_succ, true_implies, Bool.true_eq_false, Bool.false_eq_true, false_implies, and_true, true_and, Bool.not_true, Bool.not_false, pick, List.getElem?_cons_zero, List.getElem?_cons_succ, List.eraseIdx_cons_zero, List.eraseIdx_cons_succ, Bool.false_and, beq_self_eq_true, decide_true, List.isEmpty_nil, List.isEmpty_cons, wipeE, restE, List.getD_cons_succ, List.getD_cons_zero, List.getD_nil, r_ok, g_allR, List.length_replicate, frzs_vi, frzs_tab, tab_len, wn_len, fins_1, fins_2, fins_3, fins_4, fins_5, isub, Int.toNat_natCast, g_isn, g_isnn, r_callK, g_sorted, g_app, g_isL, isLst_lst, ex_unit, g_addI, own_int, g_enL, g_enT, g_sortU, g_rgL2, g_rgT2, g_eq1, frzs_tl]
    refine call_run (table_ok (by omega)) rfl rfl ?_
    simp only [r_tupO, r_pc, r_en, r_augI, r_pS, r_seq, r_ifS, r_tst, r_not, r_and, r_or, r_bin, r_un, r_var, r_frz, r_mov, r_c, r_set, r_st, r_mut, r_do, r_ret, r_p0, r_pure, r_cons, r_nil, r_skip, r_modE, r_lst, r_tup, r_if, r_andV, r_orV, r_comp, r_for, r_rng1, r_rng2, r_its, r_zip, r_call, r_gnil, r_gcons, r_glend, r_par2, r_par3, r_nop, r_part, r_sl, r_chain, getv_s, gv_int, gv_bl, gv_str, gv_non, gv_lst, gv_tup, gv_scr, g_some, exists_eq_left, exists_eq_left', Val.int.injEq, Val.bl.injEq, Out.rt.injEq, and_assoc, exists_and_left, g_if, g_ixL, g_ixT, g_ixS, at_0, at_1, at_2, g_lt, g_le, g_gt, g_ge, g_tbl, g_tint, g_tlst, g_ttup, g_div, g_mod, g_mul, g_add, g_sub, g_pow, g_shl, g_shr, g_neg, g_not, g_bl, g_eqi, g_int, g_intb, g_lenL, g_lenT, g_lenS, g_max2, g_min2, no_int, no_bl, g_sum, g_slS, g_rng1, g_rng2, g_itsL, g_itsT, g_eqb, g_nei, g_neb, two_mk, g_IB, is_int, is_bl, is_str, is_non, is_tup, is_lst, it_int, it_bl, it_str, it_non, it_tup, it_lst, mod_nil, fset_0, fset_1, fset_2, pair2_mk, pair3_mk, and_true, true_and, frzs, frz, List.length_map, putAll, List.replicate, Nat.reduceSub, List.cons_append, List.nil_append, List.set_cons_zero, List.set_cons_succ, true_implies, Bool.true_eq_false, Bool.false_eq_true, false_implies, and_true, true_and, Bool.not_true, Bool.not_false, pick, List.getElem?_cons_zero, List.getElem?_cons_succ, List.eraseIdx_cons_zero, List.eraseIdx_cons_succ, Bool.false_and, beq_self_eq_true, decide_true, List.isEmpty_nil, List.isEmpty_cons, wipeE, restE, List.getD_cons_succ, List.getD_cons_zero, List.getD_nil, r_ok, g_allR, List.length_replicate, frzs_vi, frzs_tab, tab_len, wn_len, fins_1, fins_2, fins_3, fins_4, fins_5, isub, Int.toNat_natCast, g_isn, g_isnn, r_callK, g_sorted, g_app, g_isL, isLst_lst, ex_unit, g_addI, own_int, g_enL, g_enT, g_sortU, g_rgL2, g_rgT2, g_eq1, frzs_tl]
    refine call_run (alike_lots_ok hM hT) rfl rfl ?_
    simp only [r_tupO, r_pc, r_en, r_augI, r_pS, r_seq, r_ifS, r_tst, r_not, r_and, r_or, r_bin, r_un, r_var, r_frz, r_mov, r_c, r_set, r_st, r_mut, r_do, r_ret, r_p0, r_pure, r_cons, r_nil, r_skip, r_modE, r_lst, r_tup, r_if, r_andV, r_orV, r_comp, r_for, r_rng1, r_rng2, r_its, r_zip, r_call, r_gnil, r_gcons, r_glend, r_par2, r_par3, r_nop, r_part, r_sl, r_chain, getv_s, gv_int, gv_bl, gv_str, gv_non, gv_lst, gv_tup, gv_scr, g_some, exists_eq_left, exists_eq_left', Val.int.injEq, Val.bl.injEq, Out.rt.injEq, and_assoc, exists_and_left, g_if, g_ixL, g_ixT, g_ixS, at_0, at_1, at_2, g_lt, g_le, g_gt, g_ge, g_tbl, g_tint, g_tlst, g_ttup, g_div, g_mod, g_mul, g_add, g_sub, g_pow, g_shl, g_shr, g_neg, g_not, g_bl, g_eqi, g_int, g_intb, g_lenL, g_lenT, g_lenS, g_max2, g_min2, no_int, no_bl, g_sum, g_slS, g_rng1, g_rng2, g_itsL, g_itsT, g_eqb, g_nei, g_neb, two_mk, g_IB, is_int, is_bl, is_str, is_non, is_tup, is_lst, it_int, it_bl, it_str, it_non, it_tup, it_lst, mod_nil, fset_0, fset_1, fset_2, pair2_mk, pair3_mk, and_true, true_and, frzs, frz, List.length_map, putAll, List.replicate, Nat.reduceSub, List.cons_append, List.nil_append, List.set_cons_zero, List.set_cons_succ, true_implies, Bool.true_eq_false, Bool.false_eq_true, false_implies, and_true, true_and, Bool.not_true, Bool.not_false, pick, List.getElem?_cons_zero, List.getElem?_cons_succ, List.eraseIdx_cons_zero, List.eraseIdx_cons_succ, Bool.false_and, beq_self_eq_true, decide_true, List.isEmpty_nil, List.isEmpty_cons, wipeE, restE, List.getD_cons_succ, List.getD_cons_zero, List.getD_nil, r_ok, g_allR, List.length_replicate, frzs_vi, frzs_tab, tab_len, wn_len, fins_1, fins_2, fins_3, fins_4, fins_5, isub, Int.toNat_natCast, g_isn, g_isnn, r_callK, g_sorted, g_app, g_isL, isLst_lst, ex_unit, g_addI, own_int, g_enL, g_enT, g_sortU, g_rgL2, g_rgT2, g_eq1, frzs_tl, frzs_pv]
    refine (for_run (fun i e => ∃ w8, e = [fd a2 b2 c2, .lst true (vi (wn W L.length)), .lst false (pv false L), .int room, w4, .lst false (vi (wn (cmp W L) (szs L).sum)), .int (st (szs L) i : Int), .lst true (tl (srtL ((alN (cmp W L) (szs L).sum).map (lotN (szs L).sum)))), w8]) ⟨_, rfl⟩ ?_).mono ?_
    · rintro i v e hv ⟨w8, rfl⟩
      have hi : i < L.length := by
        have := (List.getElem?_eq_some_iff.mp hv).1
        rwa [pv_len] at this
      have hv2 : v = .lst false (vi (wn (tabs L i) ((szs L).getD i 0))) := by
        have := pv_at (b := false) hi
        unfold atI at this
        rw [ixn_nat (by rw [pv_len]; exact hi)] at this
        have this : (pv false L)[i]? = some _ := this
        rw [hv] at this
        exact Option.some.inj this
      subst hv2
      have hst := st_mono (zs := szs L) (k := i) (by rw [szs_len]; omega)
      have hz := st_le (zs := szs L) (k := i) (by rw [szs_len]; exact hi)
      have es : (st (szs L) i : Int) + ((szs L).getD i 0 : Int) = ((st (szs L) i + (szs L).getD i 0 : Nat) : Int) := by push_cast; rfl
      have hz1 : 1 ≤ (szs L).getD i 0 := by
        have := (hP _ (List.getElem_mem hi)).2
        unfold szs
        rw [List.getD_eq_getElem?_getD, List.getElem?_map, List.getElem?_eq_getElem hi]
        exact this
      have hin : rgI (st (szs L) i : Int) ((st (szs L) i + (szs L).getD i 0 : Nat) : Int) ∈ srtL ((alN (cmp W L) (szs L).sum).map (lotN (szs L).sum)) := (srtL_perm _).mem_iff.mpr (place_alike hi hz1)
      refine ⟨_, rfl, ?_⟩
      simp only [r_tupO, r_pc, r_en, r_augI, r_pS, r_seq, r_ifS, r_tst, r_not, r_and, r_or, r_bin, r_un, r_var, r_frz, r_mov, r_c, r_set, r_st, r_mut, r_do, r_ret, r_p0, r_pure, r_cons, r_nil, r_skip, r_modE, r_lst, r_tup, r_if, r_andV, r_orV, r_comp, r_for, r_rng1, r_rng2, r_its, r_zip, r_call, r_gnil, r_gcons, r_glend, r_par2, r_par3, r_nop, r_part, r_sl, r_chain, getv_s, gv_int, gv_bl, gv_str, gv_non, gv_lst, gv_tup, gv_scr, g_some, exists_eq_left, exists_eq_left', Val.int.injEq, Val.bl.injEq, Out.rt.injEq, and_assoc, exists_and_left, g_if, g_ixL, g_ixT, g_ixS, at_0, at_1, at_2, g_lt, g_le, g_gt, g_ge, g_tbl, g_tint, g_tlst, g_ttup, g_div, g_mod, g_mul, g_add, g_sub, g_pow, g_shl, g_shr, g_neg, g_not, g_bl, g_eqi, g_int, g_intb, g_lenL, g_lenT, g_lenS, g_max2, g_min2, no_int, no_bl, g_sum, g_slS, g_rng1, g_rng2, g_itsL, g_itsT, g_eqb, g_nei, g_neb, two_mk, g_IB, is_int, is_bl, is_str, is_non, is_tup, is_lst, it_int, it_bl, it_str, it_non, it_tup, it_lst, mod_nil, fset_0, fset_1, fset_2, pair2_mk, pair3_mk, and_true, true_and, frzs, frz, List.length_map, putAll, List.replicate, Nat.reduceSub, List.cons_append, List.nil_append, List.set_cons_zero, List.set_cons_succ, true_implies, Bool.true_eq_false, Bool.false_eq_true, false_implies, and_true, true_and, Bool.not_true, Bool.not_false, pick, List.getElem?_cons_zero, List.getElem?_cons_succ, List.eraseIdx_cons_zero, List.eraseIdx_cons_succ, Bool.false_and, beq_self_eq_true, decide_true, List.isEmpty_nil, List.isEmpty_cons, wipeE, restE, List.getD_cons_succ, List.getD_cons_zero, List.getD_nil, r_ok, g_allR, List.length_replicate, frzs_vi, frzs_tab, tab_len, wn_len, fins_1, fins_2, fins_3, fins_4, fins_5, isub, Int.toNat_natCast, g_isn, g_isnn, r_callK, g_sorted, g_app, g_isL, isLst_lst, ex_unit, g_addI, own_int, g_enL, g_enT, g_sortU, g_rgL2, g_rgT2, g_eq1, frzs_tl, es, g_ninT, decide_eq_true hin]
      refine ⟨decide_eq_true ⟨by omega, by omega, by omega, by omega⟩, .lst false (vi (wn (tabs L i) ((szs L).getD i 0))), ?_⟩
      rw [st_s (by rw [szs_len]; exact hi)]
    · rintro oo e ⟨rfl, w8, rfl⟩
      exact ⟨a2, b2, c2, rfl, f2.mono (by omega)⟩

theorem called_ok {B : Nat → Nat → Bool} {m : Nat} {nm iv : Nat → Nat} {o p : Bool} (hm : m ≤ 10) (h : Nm m nm iv) : F__law_called [.lst o (vi (wn B m)), .lst p (vi ((List.range m).map fun i => (nm i : Int)))] = some (.ok (.lst true (vi (wn (ren B m iv) m))), [.lst o (vi (wn B m)), .lst p (vi ((List.range m).map fun i => (nm i : Int)))]) := by
  refine fn_run rfl ?_
  simp only [D__law_called, r_tupO, r_pc, r_en, r_augI, r_pS, r_seq, r_ifS, r_tst, r_not, r_and, r_or, r_bin, r_un, r_var, r_frz, r_mov, r_c, r_set, r_st, r_mut, r_do, r_ret, r_p0, r_pure, r_cons, r_nil, r_skip, r_modE, r_lst, r_tup, r_if, r_andV, r_orV, r_comp, r_for, r_rng1, r_rng2, r_its, r_zip, r_call, r_gnil, r_gcons, r_glend, r_par2, r_par3, r_nop, r_part, r_sl, r_chain, getv_s, gv_int, gv_bl, gv_str, gv_non, gv_lst, gv_tup, gv_scr, g_some, exists_eq_left, exists_eq_left', Val.int.injEq, Val.bl.injEq, Out.rt.injEq, and_assoc, exists_and_left, g_if, g_ixL, g_ixT, g_ixS, at_0, at_1, at_2, g_lt, g_le, g_gt, g_ge, g_tbl, g_tint, g_tlst, g_ttup, g_div, g_mod, g_mul, g_add, g_sub, g_pow, g_shl, g_shr, g_neg, g_not, g_bl, g_eqi, g_int, g_intb, g_lenL, g_lenT, g_lenS, g_max2, g_min2, no_int, no_bl, g_sum, g_slS, g_rng1, g_rng2, g_itsL, g_itsT, g_eqb, g_nei, g_neb, two_mk, g_IB, is_int, is_bl, is_str, is_non, is_tup, is_lst, it_int, it_bl, it_str, it_non, it_tup, it_lst, mod_nil, fset_0, fset_1, fset_2, pair2_mk, pair3_mk, and_true, true_and, frzs, frz, List.length_map, putAll, List.replicate, Nat.reduceSub, List.cons_append, List.nil_append, List.set_cons_zero, List.set_cons_succ, true_implies, Bool.true_eq_false, Bool.false_eq_true, false_implies, and_true, true_and, Bool.not_true, Bool.not_false, pick, List.getElem?_cons_zero, List.getElem?_cons_succ, List.eraseIdx_cons_zero, List.eraseIdx_cons_succ, Bool.false_and, beq_self_eq_true, decide_true, List.isEmpty_nil, List.isEmpty_cons, wipeE, restE, List.getD_cons_succ, List.getD_cons_zero, List.getD_nil, r_ok, g_allR, List.length_replicate, frzs_vi, frzs_tab, tab_len, wn_len, fins_1, fins_2, fins_3, fins_4, fins_5, isub, Int.toNat_natCast, g_isn, g_isnn, r_callK, g_sorted, g_app, g_isL, isLst_lst, ex_unit, g_addI, own_int, g_enL, g_enT, g_sortU, g_rgL2, g_rgT2, g_eq1, frzs_tl, g_mulL]
  refine ⟨rfl, mul_ok (by omega) rfl, decide_eq_true ⟨by omega, by omega⟩, ?_⟩
  rw [wn_0]
  refine (for_run (fun i e => ∃ w3, e = [.lst o (vi (wn B m)), .lst p (vi ((List.range m).map fun i => (nm i : Int))), .lst true (vi (wn (fun x y => decide (iv x < i) && ren B m iv x y) m)), w3, .gone]) ⟨.gone, ?_⟩ ?_).mono ?_
  · rw [wn_congr (B := fun _ _ => false) (C := fun x y => decide (iv x < 0) && ren B m iv x y) fun x y _ _ => by simp]
  · rintro i v e hv ⟨w3, rfl⟩
    obtain ⟨hi0, hv2⟩ := List.getElem?_eq_some_iff.mp hv
    have hi : i < m := by simpa [rgs] using hi0
    have hvi : v = .int (i : Int) := by rw [← hv2]; simp [rgs]
    subst hvi
    refine ⟨_, rfl, ?_⟩
    simp only [r_tupO, r_pc, r_en, r_augI, r_pS, r_seq, r_ifS, r_tst, r_not, r_and, r_or, r_bin, r_un, r_var, r_frz, r_mov, r_c, r_set, r_st, r_mut, r_do, r_ret, r_p0, r_pure, r_cons, r_nil, r_skip, r_modE, r_lst, r_tup, r_if, r_andV, r_orV, r_comp, r_for, r_rng1, r_rng2, r_its, r_zip, r_call, r_gnil, r_gcons, r_glend, r_par2, r_par3, r_nop, r_part, r_sl, r_chain, getv_s, gv_int, gv_bl, gv_str, gv_non, gv_lst, gv_tup, gv_scr, g_some, exists_eq_left, exists_eq_left', Val.int.injEq, Val.bl.injEq, Out.rt.injEq, and_assoc, exists_and_left, g_if, g_ixL, g_ixT, g_ixS, at_0, at_1, at_2, g_lt, g_le, g_gt, g_ge, g_tbl, g_tint, g_tlst, g_ttup, g_div, g_mod, g_mul, g_add, g_sub, g_pow, g_shl, g_shr, g_neg, g_not, g_bl, g_eqi, g_int, g_intb, g_lenL, g_lenT, g_lenS, g_max2, g_min2, no_int, no_bl, g_sum, g_slS, g_rng1, g_rng2, g_itsL, g_itsT, g_eqb, g_nei, g_neb, two_mk, g_IB, is_int, is_bl, is_str, is_non, is_tup, is_lst, it_int, it_bl, it_str, it_non, it_tup, it_lst, mod_nil, fset_0, fset_1, fset_2, pair2_mk, pair3_mk, and_true, true_and, frzs, frz, List.length_map, putAll, List.replicate, Nat.reduceSub, List.cons_append, List.nil_append, List.set_cons_zero, List.set_cons_succ, true_implies, Bool.true_eq_false, Bool.false_eq_true, false_implies, and_true, true_and, Bool.not_true, Bool.not_false, pick, List.getElem?_cons_zero, List.getElem?_cons_succ, List.eraseIdx_cons_zero, List.eraseIdx_cons_succ, Bool.false_and, beq_self_eq_true, decide_true, List.isEmpty_nil, List.isEmpty_cons, wipeE, restE, List.getD_cons_succ, List.getD_cons_zero, List.getD_nil, r_ok, g_allR, List.length_replicate, frzs_vi, frzs_tab, tab_len, wn_len, fins_1, fins_2, fins_3, fins_4, fins_5, isub, Int.toNat_natCast, g_isn, g_isnn, r_callK, g_sorted, g_app, g_isL, isLst_lst, ex_unit, g_addI, own_int, g_enL, g_enT, g_sortU, g_rgL2, g_rgT2, g_eq1, frzs_tl, at_vi (at_nat (wn_get (B := B) hi)), h.at_ hi]
    refine call_run (lot_ok (by omega)) rfl rfl ?_
    simp only [r_tupO, r_pc, r_en, r_augI, r_pS, r_seq, r_ifS, r_tst, r_not, r_and, r_or, r_bin, r_un, r_var, r_frz, r_mov, r_c, r_set, r_st, r_mut, r_do, r_ret, r_p0, r_pure, r_cons, r_nil, r_skip, r_modE, r_lst, r_tup, r_if, r_andV, r_orV, r_comp, r_for, r_rng1, r_rng2, r_its, r_zip, r_call, r_gnil, r_gcons, r_glend, r_par2, r_par3, r_nop, r_part, r_sl, r_chain, getv_s, gv_int, gv_bl, gv_str, gv_non, gv_lst, gv_tup, gv_scr, g_some, exists_eq_left, exists_eq_left', Val.int.injEq, Val.bl.injEq, Out.rt.injEq, and_assoc, exists_and_left, g_if, g_ixL, g_ixT, g_ixS, at_0, at_1, at_2, g_lt, g_le, g_gt, g_ge, g_tbl, g_tint, g_tlst, g_ttup, g_div, g_mod, g_mul, g_add, g_sub, g_pow, g_shl, g_shr, g_neg, g_not, g_bl, g_eqi, g_int, g_intb, g_lenL, g_lenT, g_lenS, g_max2, g_min2, no_int, no_bl, g_sum, g_slS, g_rng1, g_rng2, g_itsL, g_itsT, g_eqb, g_nei, g_neb, two_mk, g_IB, is_int, is_bl, is_str, is_non, is_tup, is_lst, it_int, it_bl, it_str, it_non, it_tup, it_lst, mod_nil, fset_0, fset_1, fset_2, pair2_mk, pair3_mk, and_true, true_and, frzs, frz, List.length_map, putAll, List.replicate, Nat.reduceSub, List.cons_append, List.nil_append, List.set_cons_zero, List.set_cons_succ, true_implies, Bool.true_eq_false, Bool.false_eq_true, false_implies, and_true, true_and, Bool.not_true, Bool.not_false, pick, List.getElem?_cons_zero, List.getElem?_cons_succ, List.eraseIdx_cons_zero, List.eraseIdx_cons_succ, Bool.false_and, beq_self_eq_true, decide_true, List.isEmpty_nil, List.isEmpty_cons, wipeE, restE, List.getD_cons_succ, List.getD_cons_zero, List.getD_nil, r_ok, g_allR, List.length_replicate, frzs_vi, frzs_tab, tab_len, wn_len, fins_1, fins_2, fins_3, fins_4, fins_5, isub, Int.toNat_natCast, g_isn, g_isnn, r_callK, g_sorted, g_app, g_isL, isLst_lst, ex_unit, g_addI, own_int, g_enL, g_enT, g_sortU, g_rgL2, g_rgT2, g_eq1, frzs_tl]
    rw [comp_gen ((List.range m).filter (B i)) (fun y => .int y) (fun y => .int ((1 : Int) * 2 ^ nm y)) (vi_lot _ _) fun y hy => ?_]
    · simp only [r_tupO, r_pc, r_en, r_augI, r_pS, r_seq, r_ifS, r_tst, r_not, r_and, r_or, r_bin, r_un, r_var, r_frz, r_mov, r_c, r_set, r_st, r_mut, r_do, r_ret, r_p0, r_pure, r_cons, r_nil, r_skip, r_modE, r_lst, r_tup, r_if, r_andV, r_orV, r_comp, r_for, r_rng1, r_rng2, r_its, r_zip, r_call, r_gnil, r_gcons, r_glend, r_par2, r_par3, r_nop, r_part, r_sl, r_chain, getv_s, gv_int, gv_bl, gv_str, gv_non, gv_lst, gv_tup, gv_scr, g_some, exists_eq_left, exists_eq_left', Val.int.injEq, Val.bl.injEq, Out.rt.injEq, and_assoc, exists_and_left, g_if, g_ixL, g_ixT, g_ixS, at_0, at_1, at_2, g_lt, g_le, g_gt, g_ge, g_tbl, g_tint, g_tlst, g_ttup, g_div, g_mod, g_mul, g_add, g_sub, g_pow, g_shl, g_shr, g_neg, g_not, g_bl, g_eqi, g_int, g_intb, g_lenL, g_lenT, g_lenS, g_max2, g_min2, no_int, no_bl, g_sum, g_slS, g_rng1, g_rng2, g_itsL, g_itsT, g_eqb, g_nei, g_neb, two_mk, g_IB, is_int, is_bl, is_str, is_non, is_tup, is_lst, it_int, it_bl, it_str, it_non, it_tup, it_lst, mod_nil, fset_0, fset_1, fset_2, pair2_mk, pair3_mk, and_true, true_and, frzs, frz, List.length_map, putAll, List.replicate, Nat.reduceSub, List.cons_append, List.nil_append, List.set_cons_zero, List.set_cons_succ, true_implies, Bool.true_eq_false, Bool.false_eq_true, false_implies, and_true, true_and, Bool.not_true, Bool.not_false, pick, List.getElem?_cons_zero, List.getElem?_cons_succ, List.eraseIdx_cons_zero, List.eraseIdx_cons_succ, Bool.false_and, beq_self_eq_true, decide_true, List.isEmpty_nil, List.isEmpty_cons, wipeE, restE, List.getD_cons_succ, List.getD_cons_zero, List.getD_nil, r_ok, g_allR, List.length_replicate, frzs_vi, frzs_tab, tab_len, wn_len, fins_1, fins_2, fins_3, fins_4, fins_5, isub, Int.toNat_natCast, g_isn, g_isnn, r_callK, g_sorted, g_app, g_isL, isLst_lst, ex_unit, g_addI, own_int, g_enL, g_enT, g_sortU, g_rgL2, g_rgT2, g_eq1, frzs_tl]
      refine ⟨decide_eq_true (by have := filt_len (m := m) (f := B i); omega), _, g_sumM, ?_⟩
      simp only [r_tupO, r_pc, r_en, r_augI, r_pS, r_seq, r_ifS, r_tst, r_not, r_and, r_or, r_bin, r_un, r_var, r_frz, r_mov, r_c, r_set, r_st, r_mut, r_do, r_ret, r_p0, r_pure, r_cons, r_nil, r_skip, r_modE, r_lst, r_tup, r_if, r_andV, r_orV, r_comp, r_for, r_rng1, r_rng2, r_its, r_zip, r_call, r_gnil, r_gcons, r_glend, r_par2, r_par3, r_nop, r_part, r_sl, r_chain, getv_s, gv_int, gv_bl, gv_str, gv_non, gv_lst, gv_tup, gv_scr, g_some, exists_eq_left, exists_eq_left', Val.int.injEq, Val.bl.injEq, Out.rt.injEq, and_assoc, exists_and_left, g_if, g_ixL, g_ixT, g_ixS, at_0, at_1, at_2, g_lt, g_le, g_gt, g_ge, g_tbl, g_tint, g_tlst, g_ttup, g_div, g_mod, g_mul, g_add, g_sub, g_pow, g_shl, g_shr, g_neg, g_not, g_bl, g_eqi, g_int, g_intb, g_lenL, g_lenT, g_lenS, g_max2, g_min2, no_int, no_bl, g_sum, g_slS, g_rng1, g_rng2, g_itsL, g_itsT, g_eqb, g_nei, g_neb, two_mk, g_IB, is_int, is_bl, is_str, is_non, is_tup, is_lst, it_int, it_bl, it_str, it_non, it_tup, it_lst, mod_nil, fset_0, fset_1, fset_2, pair2_mk, pair3_mk, and_true, true_and, frzs, frz, List.length_map, putAll, List.replicate, Nat.reduceSub, List.cons_append, List.nil_append, List.set_cons_zero, List.set_cons_succ, true_implies, Bool.true_eq_false, Bool.false_eq_true, false_implies, and_true, true_and, Bool.not_true, Bool.not_false, pick, List.getElem?_cons_zero, List.getElem?_cons_succ, List.eraseIdx_cons_zero, List.eraseIdx_cons_succ, Bool.false_and, beq_self_eq_true, decide_true, List.isEmpty_nil, List.isEmpty_cons, wipeE, restE, List.getD_cons_succ, List.getD_cons_zero, List.getD_nil, r_ok, g_allR, List.length_replicate, frzs_vi, frzs_tab, tab_len, wn_len, fins_1, fins_2, fins_3, fins_4, fins_5, isub, Int.toNat_natCast, g_isn, g_isnn, r_callK, g_sorted, g_app, g_isL, isLst_lst, ex_unit, g_addI, own_int, g_enL, g_enT, g_sortU, g_rgL2, g_rgT2, g_eq1, frzs_tl, h.at_ hi, ren_mask' h hi]
      have fs := f_setN (xs := vi (wn (fun x y => decide (iv x < i) && ren B m iv x y) m)) (i := nm i) (v := .int ((mk (ren B m iv (nm i)) m : Nat) : Int)) (by rw [List.length_map, wn_len]; exact h.lt i hi)
      refine ⟨_, ⟨_, fs, rfl⟩, .int (i : Int), ?_⟩
      have e : (vi (wn (fun x y => decide (iv x < i) && ren B m iv x y) m)).set (nm i) (.int ((mk (ren B m iv (nm i)) m : Nat) : Int)) = vi (wn (fun x y => decide (iv x < i + 1) && ren B m iv x y) m) := by
        unfold vi
        rw [← List.map_set, wn_put (h.lt i hi)]
        congr 1
        refine wn_congr fun x y hx hy => ?_
        by_cases e : x = nm i
        · subst e
          rw [if_pos rfl, h.in' i hi, decide_eq_true (by omega)]; rfl
        · rw [if_neg e]
          have : iv x ≠ i := fun q => e (by rw [← q, h.ni x hx])
          have : decide (iv x < i + 1) = decide (iv x < i) := decide_eq_decide.mpr (by omega)
          rw [this]
      rw [← e]
    · have hy : y < m := List.mem_range.mp (List.mem_filter.mp hy).1
      refine ⟨_, rfl, ?_⟩
      simp only [r_tupO, r_pc, r_en, r_augI, r_pS, r_seq, r_ifS, r_tst, r_not, r_and, r_or, r_bin, r_un, r_var, r_frz, r_mov, r_c, r_set, r_st, r_mut, r_do, r_ret, r_p0, r_pure, r_cons, r_nil, r_skip, r_modE, r_lst, r_tup, r_if, r_andV, r_orV, r_comp, r_for, r_rng1, r_rng2, r_its, r_zip, r_call, r_gnil, r_gcons, r_glend, r_par2, r_par3, r_nop, r_part, r_sl, r_chain, getv_s, gv_int, gv_bl, gv_str, gv_non, gv_lst, gv_tup, gv_scr, g_some, exists_eq_left, exists_eq_left', Val.int.injEq, Val.bl.injEq, Out.rt.injEq, and_assoc, exists_and_left, g_if, g_ixL, g_ixT, g_ixS, at_0, at_1, at_2, g_lt, g_le, g_gt, g_ge, g_tbl, g_tint, g_tlst, g_ttup, g_div, g_mod, g_mul, g_add, g_sub, g_pow, g_shl, g_shr, g_neg, g_not, g_bl, g_eqi, g_int, g_intb, g_lenL, g_lenT, g_lenS, g_max2, g_min2, no_int, no_bl, g_sum, g_slS, g_rng1, g_rng2, g_itsL, g_itsT, g_eqb, g_nei, g_neb, two_mk, g_IB, is_int, is_bl, is_str, is_non, is_tup, is_lst, it_int, it_bl, it_str, it_non, it_tup, it_lst, mod_nil, fset_0, fset_1, fset_2, pair2_mk, pair3_mk, and_true, true_and, frzs, frz, List.length_map, putAll, List.replicate, Nat.reduceSub, List.cons_append, List.nil_append, List.set_cons_zero, List.set_cons_succ, true_implies, Bool.true_eq_false, Bool.false_eq_true, false_implies, and_true, true_and, Bool.not_true, Bool.not_false, pick, List.getElem?_cons_zero, List.getElem?_cons_succ, List.eraseIdx_cons_zero, List.eraseIdx_cons_succ, Bool.false_and, beq_self_eq_true, decide_true, List.isEmpty_nil, List.isEmpty_cons, wipeE, restE, List.getD_cons_succ, List.getD_cons_zero, List.getD_nil, r_ok, g_allR, List.length_replicate, frzs_vi, frzs_tab, tab_len, wn_len, fins_1, fins_2, fins_3, fins_4, fins_5, isub, Int.toNat_natCast, g_isn, g_isnn, r_callK, g_sorted, g_app, g_isL, isLst_lst, ex_unit, g_addI, own_int, g_enL, g_enT, g_sortU, g_rgL2, g_rgT2, g_eq1, frzs_tl, h.at_ hy]
      exact shl_ok (by have := h.lt y hy; omega)
  · rintro oo e ⟨rfl, w3, rfl⟩
    rw [show (rgs m).length = m by simp [rgs]]
    simp only [r_tupO, r_pc, r_en, r_augI, r_pS, r_seq, r_ifS, r_tst, r_not, r_and, r_or, r_bin, r_un, r_var, r_frz, r_mov, r_c, r_set, r_st, r_mut, r_do, r_ret, r_p0, r_pure, r_cons, r_nil, r_skip, r_modE, r_lst, r_tup, r_if, r_andV, r_orV, r_comp, r_for, r_rng1, r_rng2, r_its, r_zip, r_call, r_gnil, r_gcons, r_glend, r_par2, r_par3, r_nop, r_part, r_sl, r_chain, getv_s, gv_int, gv_bl, gv_str, gv_non, gv_lst, gv_tup, gv_scr, g_some, exists_eq_left, exists_eq_left', Val.int.injEq, Val.bl.injEq, Out.rt.injEq, and_assoc, exists_and_left, g_if, g_ixL, g_ixT, g_ixS, at_0, at_1, at_2, g_lt, g_le, g_gt, g_ge, g_tbl, g_tint, g_tlst, g_ttup, g_div, g_mod, g_mul, g_add, g_sub, g_pow, g_shl, g_shr, g_neg, g_not, g_bl, g_eqi, g_int, g_intb, g_lenL, g_lenT, g_lenS, g_max2, g_min2, no_int, no_bl, g_sum, g_slS, g_rng1, g_rng2, g_itsL, g_itsT, g_eqb, g_nei, g_neb, two_mk, g_IB, is_int, is_bl, is_str, is_non, is_tup, is_lst, it_int, it_bl, it_str, it_non, it_tup, it_lst, mod_nil, fset_0, fset_1, fset_2, pair2_mk, pair3_mk, and_true, true_and, frzs, frz, List.length_map, putAll, List.replicate, Nat.reduceSub, List.cons_append, List.nil_append, List.set_cons_zero, List.set_cons_succ, true_implies, Bool.true_eq_false, Bool.false_eq_true, false_implies, and_true, true_and, Bool.not_true, Bool.not_false, pick, List.getElem?_cons_zero, List.getElem?_cons_succ, List.eraseIdx_cons_zero, List.eraseIdx_cons_succ, Bool.false_and, beq_self_eq_true, decide_true, List.isEmpty_nil, List.isEmpty_cons, wipeE, restE, List.getD_cons_succ, List.getD_cons_zero, List.getD_nil, r_ok, g_allR, List.length_replicate, frzs_vi, frzs_tab, tab_len, wn_len, fins_1, fins_2, fins_3, fins_4, fins_5, isub, Int.toNat_natCast, g_isn, g_isnn, r_callK, g_sorted, g_app, g_isL, isLst_lst, ex_unit, g_addI, own_int, g_enL, g_enT, g_sortU, g_rgL2, g_rgT2, g_eq1, frzs_tl]
    rw [wn_congr (C := ren B m iv) fun x y hx hy => by rw [decide_eq_true (h.il x hx), Bool.true_and]]

theorem bare_ok {n a b c : Int} (hn : n < 500000) (h : Fk n a b c) : ∃ (m : Nat) (B : Nat → Nat → Bool) (a' b' c' : Int), F__law_bare [fd a b c] = some (.ok (.lst true (vi (wn B m))), [fd a' b' c']) ∧ m ≤ 7 ∧ Tour B m ∧ Fk (n + 20) a' b' c' := by
  suffices h : ∃ v fs, F__law_bare [fd a b c] = some (.ok v, fs) ∧ ∃ (m : Nat) (B : Nat → Nat → Bool) (a' b' c' : Int), v = .lst true (vi (wn B m)) ∧ fs = [fd a' b' c'] ∧ m ≤ 7 ∧ Tour B m ∧ Fk (n + 20) a' b' c' by
    obtain ⟨v, fs, e, m, B, a', b', c', rfl, rfl, p⟩ := h
    exact ⟨m, B, a', b', c', e, p⟩
  obtain ⟨s, a1, b1, c1, d1, s0, s1, f1⟩ := draw_ok (m := 3) (by omega) h (by omega) (by omega)
  obtain ⟨w, a2, b2, c2, d2, w0, w1, f2⟩ := draw_ok (m := 3) (by omega) f1 (by omega) (by omega)
  have is' : ib (1 + s) ≤ 3 := sz_of (by omega) (by omega)
  refine fn_runE rfl ?_
  simp only [D__law_bare, r_tupO, r_pc, r_en, r_augI, r_pS, r_seq, r_ifS, r_tst, r_not, r_and, r_or, r_bin, r_un, r_var, r_frz, r_mov, r_c, r_set, r_st, r_mut, r_do, r_ret, r_p0, r_pure, r_cons, r_nil, r_skip, r_modE, r_lst, r_tup, r_if, r_andV, r_orV, r_comp, r_for, r_rng1, r_rng2, r_its, r_zip, r_call, r_gnil, r_gcons, r_glend, r_par2, r_par3, r_nop, r_part, r_sl, r_chain, getv_s, gv_int, gv_bl, gv_str, gv_non, gv_lst, gv_tup, gv_scr, g_some, exists_eq_left, exists_eq_left', Val.int.injEq, Val.bl.injEq, Out.rt.injEq, and_assoc, exists_and_left, g_if, g_ixL, g_ixT, g_ixS, at_0, at_1, at_2, g_lt, g_le, g_gt, g_ge, g_tbl, g_tint, g_tlst, g_ttup, g_div, g_mod, g_mul, g_add, g_sub, g_pow, g_shl, g_shr, g_neg, g_not, g_bl, g_eqi, g_int, g_intb, g_lenL, g_lenT, g_lenS, g_max2, g_min2, no_int, no_bl, g_sum, g_slS, g_rng1, g_rng2, g_itsL, g_itsT, g_eqb, g_nei, g_neb, two_mk, g_IB, is_int, is_bl, is_str, is_non, is_tup, is_lst, it_int, it_bl, it_str, it_non, it_tup, it_lst, mod_nil, fset_0, fset_1, fset_2, pair2_mk, pair3_mk, and_true, true_and, frzs, frz, List.length_map, putAll, List.replicate, Nat.reduceSub, List.cons_append, List.nil_append, List.set_cons_zero, List.set_cons_succ, true_implies, Bool.true_eq_false, Bool.false_eq_true, false_implies, and_true, true_and, Bool.not_true, Bool.not_false, pick, List.getElem?_cons_zero, List.getElem?_cons_succ, List.eraseIdx_cons_zero, List.eraseIdx_cons_succ, Bool.false_and, beq_self_eq_true, decide_true, List.isEmpty_nil, List.isEmpty_cons, wipeE, restE, List.getD_cons_succ, List.getD_cons_zero, List.getD_nil, r_ok, g_allR, List.length_replicate, frzs_vi, frzs_tab, tab_len, wn_len, fins_1, fins_2, fins_3, fins_4, fins_5, isub, Int.toNat_natCast, g_isn, g_isnn, r_callK, g_sorted, g_app, g_isL, isLst_lst, ex_unit, g_addI, own_int, g_enL, g_enT, g_sortU, g_rgL2, g_rgT2, g_eq1, frzs_tl]
  refine call_run d1 rfl rfl ?_
  simp only [r_tupO, r_pc, r_en, r_augI, r_pS, r_seq, r_ifS, r_tst, r_not, r_and, r_or, r_bin, r_un, r_var, r_frz, r_mov, r_c, r_set, r_st, r_mut, r_do, r_ret, r_p0, r_pure, r_cons, r_nil, r_skip, r_modE, r_lst, r_tup, r_if, r_andV, r_orV, r_comp, r_for, r_rng1, r_rng2, r_its, r_zip, r_call, r_gnil, r_gcons, r_glend, r_par2, r_par3, r_nop, r_part, r_sl, r_chain, getv_s, gv_int, gv_bl, gv_str, gv_non, gv_lst, gv_tup, gv_scr, g_some, exists_eq_left, exists_eq_left', Val.int.injEq, Val.bl.injEq, Out.rt.injEq, and_assoc, exists_and_left, g_if, g_ixL, g_ixT, g_ixS, at_0, at_1, at_2, g_lt, g_le, g_gt, g_ge, g_tbl, g_tint, g_tlst, g_ttup, g_div, g_mod, g_mul, g_add, g_sub, g_pow, g_shl, g_shr, g_neg, g_not, g_bl, g_eqi, g_int, g_intb, g_lenL, g_lenT, g_lenS, g_max2, g_min2, no_int, no_bl, g_sum, g_slS, g_rng1, g_rng2, g_itsL, g_itsT, g_eqb, g_nei, g_neb, two_mk, g_IB, is_int, is_bl, is_str, is_non, is_tup, is_lst, it_int, it_bl, it_str, it_non, it_tup, it_lst, mod_nil, fset_0, fset_1, fset_2, pair2_mk, pair3_mk, and_true, true_and, frzs, frz, List.length_map, putAll, List.replicate, Nat.reduceSub, List.cons_append, List.nil_append, List.set_cons_zero, List.set_cons_succ, true_implies, Bool.true_eq_false, Bool.false_eq_true, false_implies, and_true, true_and, Bool.not_true, Bool.not_false, pick, List.getElem?_cons_zero, List.getElem?_cons_succ, List.eraseIdx_cons_zero, List.eraseIdx_cons_succ, Bool.false_and, beq_self_eq_true, decide_true, List.isEmpty_nil, List.isEmpty_cons, wipeE, restE, List.getD_cons_succ, List.getD_cons_zero, List.getD_nil, r_ok, g_allR, List.length_replicate, frzs_vi, frzs_tab, tab_len, wn_len, fins_1, fins_2, fins_3, fins_4, fins_5, isub, Int.toNat_natCast, g_isn, g_isnn, r_callK, g_sorted, g_app, g_isL, isLst_lst, ex_unit, g_addI, own_int, g_enL, g_enT, g_sortU, g_rgL2, g_rgT2, g_eq1, frzs_tl]
  refine call_run d2 rfl rfl ?_
  simp only [r_tupO, r_pc, r_en, r_augI, r_pS, r_seq, r_ifS, r_tst, r_not, r_and, r_or, r_bin, r_un, r_var, r_frz, r_mov, r_c, r_set, r_st, r_mut, r_do, r_ret, r_p0, r_pure, r_cons, r_nil, r_skip, r_modE, r_lst, r_tup, r_if, r_andV, r_orV, r_comp, r_for, r_rng1, r_rng2, r_its, r_zip, r_call, r_gnil, r_gcons, r_glend, r_par2, r_par3, r_nop, r_part, r_sl, r_chain, getv_s, gv_int, gv_bl, gv_str, gv_non, gv_lst, gv_tup, gv_scr, g_some, exists_eq_left, exists_eq_left', Val.int.injEq, Val.bl.injEq, Out.rt.injEq, and_assoc, exists_and_left, g_if, g_ixL, g_ixT, g_ixS, at_0, at_1, at_2, g_lt, g_le, g_gt, g_ge, g_tbl, g_tint, g_tlst, g_ttup, g_div, g_mod, g_mul, g_add, g_sub, g_pow, g_shl, g_shr, g_neg, g_not, g_bl, g_eqi, g_int, g_intb, g_lenL, g_lenT, g_lenS, g_max2, g_min2, no_int, no_bl, g_sum, g_slS, g_rng1, g_rng2, g_itsL, g_itsT, g_eqb, g_nei, g_neb, two_mk, g_IB, is_int, is_bl, is_str, is_non, is_tup, is_lst, it_int, it_bl, it_str, it_non, it_tup, it_lst, mod_nil, fset_0, fset_1, fset_2, pair2_mk, pair3_mk, and_true, true_and, frzs, frz, List.length_map, putAll, List.replicate, Nat.reduceSub, List.cons_append, List.nil_append, List.set_cons_zero, List.set_cons_succ, true_implies, Bool.true_eq_false, Bool.false_eq_true, false_implies, and_true, true_and, Bool.not_true, Bool.not_false, pick, List.getElem?_cons_zero, List.getElem?_cons_succ, List.eraseIdx_cons_zero, List.eraseIdx_cons_succ, Bool.false_and, beq_self_eq_true, decide_true, List.isEmpty_nil, List.isEmpty_cons, wipeE, restE, List.getD_cons_succ, List.getD_cons_zero, List.getD_nil, r_ok, g_allR, List.length_replicate, frzs_vi, frzs_tab, tab_len, wn_len, fins_1, fins_2, fins_3, fins_4, fins_5, isub, Int.toNat_natCast, g_isn, g_isnn, r_callK, g_sorted, g_app, g_isL, isLst_lst, ex_unit, g_addI, own_int, g_enL, g_enT, g_sortU, g_rgL2, g_rgT2, g_eq1, frzs_tl]
  obtain ⟨m, hm⟩ := Int.eq_ofNat_of_zero_le (show 0 ≤ 2 * (1 + s) + 1 by omega)
  rw [hm]
  have hm7 : m ≤ 7 := by omega
  simp only [r_tupO, r_pc, r_en, r_augI, r_pS, r_seq, r_ifS, r_tst, r_not, r_and, r_or, r_bin, r_un, r_var, r_frz, r_mov, r_c, r_set, r_st, r_mut, r_do, r_ret, r_p0, r_pure, r_cons, r_nil, r_skip, r_modE, r_lst, r_tup, r_if, r_andV, r_orV, r_comp, r_for, r_rng1, r_rng2, r_its, r_zip, r_call, r_gnil, r_gcons, r_glend, r_par2, r_par3, r_nop, r_part, r_sl, r_chain, getv_s, gv_int, gv_bl, gv_str, gv_non, gv_lst, gv_tup, gv_scr, g_some, exists_eq_left, exists_eq_left', Val.int.injEq, Val.bl.injEq, Out.rt.injEq, and_assoc, exists_and_left, g_if, g_ixL, g_ixT, g_ixS, at_0, at_1, at_2, g_lt, g_le, g_gt, g_ge, g_tbl, g_tint, g_tlst, g_ttup, g_div, g_mod, g_mul, g_add, g_sub, g_pow, g_shl, g_shr, g_neg, g_not, g_bl, g_eqi, g_int, g_intb, g_lenL, g_lenT, g_lenS, g_max2, g_min2, no_int, no_bl, g_sum, g_slS, g_rng1, g_rng2, g_itsL, g_itsT, g_eqb, g_nei, g_neb, two_mk, g_IB, is_int, is_bl, is_str, is_non, is_tup, is_lst, it_int, it_bl, it_str, it_non, it_tup, it_lst, mod_nil, fset_0, fset_1, fset_2, pair2_mk, pair3_mk, and_true, true_and, frzs, frz, List.length_map, putAll, List.replicate, Nat.reduceSub, List.cons_append, List.nil_append, List.set_cons_zero, List.set_cons_succ, true_implies, Bool.true_eq_false, Bool.false_eq_true, false_implies, and_true, true_and, Bool.not_true, Bool.not_false, pick, List.getElem?_cons_zero, List.getElem?_cons_succ, List.eraseIdx_cons_zero, List.eraseIdx_cons_succ, Bool.false_and, beq_self_eq_true, decide_true, List.isEmpty_nil, List.isEmpty_cons, wipeE, restE, List.getD_cons_succ, List.getD_cons_zero, List.getD_nil, r_ok, g_allR, List.length_replicate, frzs_vi, frzs_tab, tab_len, wn_len, fins_1, fins_2, fins_3, fins_4, fins_5, isub, Int.toNat_natCast, g_isn, g_isnn, r_callK, g_sorted, g_app, g_isL, isLst_lst, ex_unit, g_addI, own_int, g_enL, g_enT, g_sortU, g_rgL2, g_rgT2, g_eq1, frzs_tl, g_mulL]
  refine ⟨(by apply cMul_of; (repeat' first | assumption | apply sz_add | apply sz_sub | apply sz_mul | (apply sz_mod <;> first | apply Nat.le_refl | decide +kernel) | apply Nat.le_refl | decide +kernel)), rfl, (by apply cMul_of; (repeat' first | assumption | apply sz_add | apply sz_sub | apply sz_mul | (apply sz_mod <;> first | apply Nat.le_refl | decide +kernel) | apply Nat.le_refl | decide +kernel)), mul_ok (by omega) rfl, decide_eq_true (by omega), ?_⟩
  rw [wn_0]
  let V : Nat → Nat → Val → Env → Prop := fun i j w5 e => ∃ (B : Nat → Nat → Bool) (w6 w7 w8 w9 : Val), e = [fd a2 b2 c2, .int (1 + s), .int w, .int m, .lst true (vi (wn B m)), w5, w6, w7, w8, w9] ∧ PT m id (fun p q => decide (p < i ∨ (p = i ∧ q < j))) B
  refine (for_run (fun i e => ∃ w5, V i 0 w5 e) ⟨.gone, fun _ _ => false, _, _, _, _, rfl, ⟨fun _ _ h => (nomatch h), fun _ => rfl, fun p q h1 h2 h3 => by have := of_decide_eq_true h3; omega, fun _ _ _ _ _ => ⟨rfl, rfl⟩⟩⟩ ?_).mono ?_
  · rintro i v e hv ⟨w5, B, w6, w7, w8, w9, rfl, hPT⟩
    obtain ⟨hi0, hv2⟩ := List.getElem?_eq_some_iff.mp hv
    have hi : i < m := by simpa [rgs] using hi0
    have hvi : v = .int (i : Int) := by rw [← hv2]; simp [rgs]
    subst hvi
    refine ⟨_, rfl, ?_⟩
    simp only [r_tupO, r_pc, r_en, r_augI, r_pS, r_seq, r_ifS, r_tst, r_not, r_and, r_or, r_bin, r_un, r_var, r_frz, r_mov, r_c, r_set, r_st, r_mut, r_do, r_ret, r_p0, r_pure, r_cons, r_nil, r_skip, r_modE, r_lst, r_tup, r_if, r_andV, r_orV, r_comp, r_for, r_rng1, r_rng2, r_its, r_zip, r_call, r_gnil, r_gcons, r_glend, r_par2, r_par3, r_nop, r_part, r_sl, r_chain, getv_s, gv_int, gv_bl, gv_str, gv_non, gv_lst, gv_tup, gv_scr, g_some, exists_eq_left, exists_eq_left', Val.int.injEq, Val.bl.injEq, Out.rt.injEq, and_assoc, exists_and_left, g_if, g_ixL, g_ixT, g_ixS, at_0, at_1, at_2, g_lt, g_le, g_gt, g_ge, g_tbl, g_tint, g_tlst, g_ttup, g_div, g_mod, g_mul, g_add, g_sub, g_pow, g_shl, g_shr, g_neg, g_not, g_bl, g_eqi, g_int, g_intb, g_lenL, g_lenT, g_lenS, g_max2, g_min2, no_int, no_bl, g_sum, g_slS, g_rng1, g_rng2, g_itsL, g_itsT, g_eqb, g_nei, g_neb, two_mk, g_IB, is_int, is_bl, is_str, is_non, is_tup, is_lst, it_int, it_bl, it_str, it_non, it_tup, it_lst, mod_nil, fset_0, fset_1, fset_2, pair2_mk, pair3_mk, and_true, true_and, frzs, frz, List.length_map, putAll, List.replicate, Nat.reduceSub, List.cons_append, List.nil_append, List.set_cons_zero, List.set_cons_succ, true_implies, Bool.true_eq_false, Bool.false_eq_true, false_implies, and_true, true_and, Bool.not_true, Bool.not_false, pick, List.getElem?_cons_zero, List.getElem?_cons_succ, List.eraseIdx_cons_zero, List.eraseIdx_cons_succ, Bool.false_and, beq_self_eq_true, decide_true, List.isEmpty_nil, List.isEmpty_cons, wipeE, restE, List.getD_cons_succ, List.getD_cons_zero, List.getD_nil, r_ok, g_allR, List.length_replicate, frzs_vi, frzs_tab, tab_len, wn_len, fins_1, fins_2, fins_3, fins_4, fins_5, isub, Int.toNat_natCast, g_isn, g_isnn, r_callK, g_sorted, g_app, g_isL, isLst_lst, ex_unit, g_addI, own_int, g_enL, g_enT, g_sortU, g_rgL2, g_rgT2, g_eq1, frzs_tl]
    refine ⟨rng2_ok (by omega) (by omega) (by omega) (by omega), ?_⟩
    have e1 : (rgs2 ((i : Int) + 1) m).length = m - i - 1 := by unfold rgs2; rw [List.length_map, List.length_range]; omega
    refine (for_run (fun k e => V i (i + 1 + k) (.int (i : Int)) e) ⟨B, _, _, _, _, rfl, hPT.cong fun p q h1 h2 => decide_eq_decide.mpr (by omega)⟩ ?_).mono ?_
    · rintro k v e hv ⟨B, w6, w7, w8, w9, rfl, hPT⟩
      obtain ⟨hk0, hv2⟩ := List.getElem?_eq_some_iff.mp hv
      rw [e1] at hk0
      have hvk : v = .int ((i + 1 + k : Nat) : Int) := by rw [← hv2]; simp [rgs2]
      subst hvk
      have hk : i + 1 + k < m := by omega
      have tail : ∀ (t : Bool) (w8 w9 : Val), Run ((dSeq (dAsg (tgT (tgsCons (tgN 8) (tgsCons (tgN 9) tgsNil))) (dIf (dTst (dVar 7)) (dTup (dCons (dFrz 5) (dCons (dFrz 6) (dNil)))) (dTup (dCons (dFrz 6) (dCons (dFrz 5) (dNil)))))) <|
          dSt fSet 4 (dBin gAdd (dBin gIx (dVar 4) (dVar 8)) (dBin gShl (dC (.int 1)) (dVar 9))) (dP0 4) (dVar 8)) [fd a2 b2 c2, .int (1 + s), .int w, .int m, .lst true (vi (wn B m)), .int (i : Int), .int ((i + 1 + k : Nat) : Int), .bl t, w8, w9]) (fun o e2 => o = .nx ∧ V i (i + 1 + (k + 1)) (.int (i : Int)) e2) := by
        intro t w8 w9
        have core : ∀ (w l : Nat), (w = i ∧ l = i + 1 + k) ∨ (w = i + 1 + k ∧ l = i) → w < m ∧ l < m ∧ B w l = false ∧ PT m id (fun p q => decide (p < i ∨ (p = i ∧ q < i + 1 + (k + 1)))) (addB B w l) := by
          intro w l hwl
          have hD : (fun p q => decide (p < i ∨ (p = i ∧ q < i + 1 + k))) i (i + 1 + k) = false := decide_eq_false (by omega)
          have hun := hPT.un i (i + 1 + k) (by omega) (by omega) hD
          refine ⟨by omega, by omega, ?_, ?_⟩
          · rcases hwl with ⟨rfl, rfl⟩ | ⟨rfl, rfl⟩
            · exact hun.1
            · exact hun.2
          · exact hPT.step (fun _ h => h) (fun _ _ _ _ h => h) (p := i) (q := i + 1 + k) (by omega) (by omega) hD (fun p q h1 h2 => by rw [Bool.eq_iff_iff]; simp; omega) hwl
        simp only [r_tupO, r_pc, r_en, r_augI, r_pS, r_seq, r_ifS, r_tst, r_not, r_and, r_or, r_bin, r_un, r_var, r_frz, r_mov, r_c, r_set, r_st, r_mut, r_do, r_ret, r_p0, r_pure, r_cons, r_nil, r_skip, r_modE, r_lst, r_tup, r_if, r_andV, r_orV, r_comp, r_for, r_rng1, r_rng2, r_its, r_zip, r_call, r_gnil, r_gcons, r_glend, r_par2, r_par3, r_nop, r_part, r_sl, r_chain, getv_s, gv_int, gv_bl, gv_str, gv_non, gv_lst, gv_tup, gv_scr, g_some, exists_eq_left, exists_eq_left', Val.int.injEq, Val.bl.injEq, Out.rt.injEq, and_assoc, exists_and_left, g_if, g_ixL, g_ixT, g_ixS, at_0, at_1, at_2, g_lt, g_le, g_gt, g_ge, g_tbl, g_tint, g_tlst, g_ttup, g_div, g_mod, g_mul, g_add, g_sub, g_pow, g_shl, g_shr, g_neg, g_not, g_bl, g_eqi, g_int, g_intb, g_lenL, g_lenT, g_lenS, g_max2, g_min2, no_int, no_bl, g_sum, g_slS, g_rng1, g_rng2, g_itsL, g_itsT, g_eqb, g_nei, g_neb, two_mk, g_IB, is_int, is_bl, is_str, is_non, is_tup, is_lst, it_int, it_bl, it_str, it_non, it_tup, it_lst, mod_nil, fset_0, fset_1, fset_2, pair2_mk, pair3_mk, and_true, true_and, frzs, frz, List.length_map, putAll, List.replicate, Nat.reduceSub, List.cons_append, List.nil_append, List.set_cons_zero, List.set_cons_succ, true_implies, Bool.true_eq_false, Bool.false_eq_true, false_implies, and_true, true_and, Bool.not_true, Bool.not_false, pick, List.getElem?_cons_zero, List.getElem?_cons_succ, List.eraseIdx_cons_zero, List.eraseIdx_cons_succ, Bool.false_and, beq_self_eq_true, decide_true, List.isEmpty_nil, List.isEmpty_cons, wipeE, restE, List.getD_cons_succ, List.getD_cons_zero, List.getD_nil, r_ok, g_allR, List.length_replicate, frzs_vi, frzs_tab, tab_len, wn_len, fins_1, fins_2, fins_3, fins_4, fins_5, isub, Int.toNat_natCast, g_isn, g_isnn, r_callK, g_sorted, g_app, g_isL, isLst_lst, ex_unit, g_addI, own_int, g_enL, g_enT, g_sortU, g_rgL2, g_rgT2, g_eq1, frzs_tl, r_asg]
        have step : ∀ (w l : Nat), w < m → l < m → B w l = false → fSet [.int (w : Int), .int (((mk (B w) m : Nat) : Int) + 1 * 2 ^ l)] (vi (wn B m)) = some (vi (wn (addB B w l) m), .non) := by
          intro w l hw hl hB
          rw [f_setN (by rw [List.length_map, wn_len]; exact hw)]
          have := wn_set (B := B) hw hl hB
          rw [Int.toNat_natCast] at this
          rw [← this]
          simp [vi, List.map_set]
        refine ⟨fun _ => ?_, fun _ => ?_⟩
        · obtain ⟨q1, q2, q3, q4⟩ := core i (i + 1 + k) (.inl ⟨rfl, rfl⟩)
          refine ⟨rfl, _, rfl, ?_⟩
          simp only [r_tupO, r_pc, r_en, r_augI, r_pS, r_seq, r_ifS, r_tst, r_not, r_and, r_or, r_bin, r_un, r_var, r_frz, r_mov, r_c, r_set, r_st, r_mut, r_do, r_ret, r_p0, r_pure, r_cons, r_nil, r_skip, r_modE, r_lst, r_tup, r_if, r_andV, r_orV, r_comp, r_for, r_rng1, r_rng2, r_its, r_zip, r_call, r_gnil, r_gcons, r_glend, r_par2, r_par3, r_nop, r_part, r_sl, r_chain, getv_s, gv_int, gv_bl, gv_str, gv_non, gv_lst, gv_tup, gv_scr, g_some, exists_eq_left, exists_eq_left', Val.int.injEq, Val.bl.injEq, Out.rt.injEq, and_assoc, exists_and_left, g_if, g_ixL, g_ixT, g_ixS, at_0, at_1, at_2, g_lt, g_le, g_gt, g_ge, g_tbl, g_tint, g_tlst, g_ttup, g_div, g_mod, g_mul, g_add, g_sub, g_pow, g_shl, g_shr, g_neg, g_not, g_bl, g_eqi, g_int, g_intb, g_lenL, g_lenT, g_lenS, g_max2, g_min2, no_int, no_bl, g_sum, g_slS, g_rng1, g_rng2, g_itsL, g_itsT, g_eqb, g_nei, g_neb, two_mk, g_IB, is_int, is_bl, is_str, is_non, is_tup, is_lst, it_int, it_bl, it_str, it_non, it_tup, it_lst, mod_nil, fset_0, fset_1, fset_2, pair2_mk, pair3_mk, and_true, true_and, frzs, frz, List.length_map, putAll, List.replicate, Nat.reduceSub, List.cons_append, List.nil_append, List.set_cons_zero, List.set_cons_succ, true_implies, Bool.true_eq_false, Bool.false_eq_true, false_implies, and_true, true_and, Bool.not_true, Bool.not_false, pick, List.getElem?_cons_zero, List.getElem?_cons_succ, List.eraseIdx_cons_zero, List.eraseIdx_cons_succ, Bool.false_and, beq_self_eq_true, decide_true, List.isEmpty_nil, List.isEmpty_cons, wipeE, restE, List.getD_cons_succ, List.getD_cons_zero, List.getD_nil, r_ok, g_allR, List.length_replicate, frzs_vi, frzs_tab, tab_len, wn_len, fins_1, fins_2, fins_3, fins_4, fins_5, isub, Int.toNat_natCast, g_isn, g_isnn, r_callK, g_sorted, g_app, g_isL, isLst_lst, ex_unit, g_addI, own_int, g_enL, g_enT, g_sortU, g_rgL2, g_rgT2, g_eq1, frzs_tl, at_vi (at_nat (wn_get (B := B) q1)), step _ _ q1 q2 q3]
          exact ⟨shl_ok (by omega), addB B i (i + 1 + k), _, _, _, _, rfl, q4⟩
        · obtain ⟨q1, q2, q3, q4⟩ := core (i + 1 + k) i (.inr ⟨rfl, rfl⟩)
          refine ⟨rfl, _, rfl, ?_⟩
          simp only [r_tupO, r_pc, r_en, r_augI, r_pS, r_seq, r_ifS, r_tst, r_not, r_and, r_or, r_bin, r_un, r_var, r_frz, r_mov, r_c, r_set, r_st, r_mut, r_do, r_ret, r_p0, r_pure, r_cons, r_nil, r_skip, r_modE, r_lst, r_tup, r_if, r_andV, r_orV, r_comp, r_for, r_rng1, r_rng2, r_its, r_zip, r_call, r_gnil, r_gcons, r_glend, r_par2, r_par3, r_nop, r_part, r_sl, r_chain, getv_s, gv_int, gv_bl, gv_str, gv_non, gv_lst, gv_tup, gv_scr, g_some, exists_eq_left, exists_eq_left', Val.int.injEq, Val.bl.injEq, Out.rt.injEq, and_assoc, exists_and_left, g_if, g_ixL, g_ixT, g_ixS, at_0, at_1, at_2, g_lt, g_le, g_gt, g_ge, g_tbl, g_tint, g_tlst, g_ttup, g_div, g_mod, g_mul, g_add, g_sub, g_pow, g_shl, g_shr, g_neg, g_not, g_bl, g_eqi, g_int, g_intb, g_lenL, g_lenT, g_lenS, g_max2, g_min2, no_int, no_bl, g_sum, g_slS, g_rng1, g_rng2, g_itsL, g_itsT, g_eqb, g_nei, g_neb, two_mk, g_IB, is_int, is_bl, is_str, is_non, is_tup, is_lst, it_int, it_bl, it_str, it_non, it_tup, it_lst, mod_nil, fset_0, fset_1, fset_2, pair2_mk, pair3_mk, and_true, true_and, frzs, frz, List.length_map, putAll, List.replicate, Nat.reduceSub, List.cons_append, List.nil_append, List.set_cons_zero, List.set_cons_succ, true_implies, Bool.true_eq_false, Bool.false_eq_true, false_implies, and_true, true_and, Bool.not_true, Bool.not_false, pick, List.getElem?_cons_zero, List.getElem?_cons_succ, List.eraseIdx_cons_zero, List.eraseIdx_cons_succ, Bool.false_and, beq_self_eq_true, decide_true, List.isEmpty_nil, List.isEmpty_cons, wipeE, restE, List.getD_cons_succ, List.getD_cons_zero, List.getD_nil, r_ok, g_allR, List.length_replicate, frzs_vi, frzs_tab, tab_len, wn_len, fins_1, fins_2, fins_3, fins_4, fins_5, isub, Int.toNat_natCast, g_isn, g_isnn, r_callK, g_sorted, g_app, g_isL, isLst_lst, ex_unit, g_addI, own_int, g_enL, g_enT, g_sortU, g_rgL2, g_rgT2, g_eq1, frzs_tl, at_vi (at_nat (wn_get (B := B) q1)), step _ _ q1 q2 q3]
          exact ⟨shl_ok (by omega), addB B (i + 1 + k) i, _, _, _, _, rfl, q4⟩
      refine ⟨_, rfl, ?_⟩
      have isz : ib (((i + 1 + k : Nat) : Int) - (i : Int)) ≤ 12 := sz_of (by omega) (by omega)
      refine r_seq.mpr (r_set.mpr (Run.mono (Q := fun v e => (∃ t, v = .bl t) ∧ e = [fd a2 b2 c2, .int (1 + s), .int w, .int m, .lst true (vi (wn B m)), .int (i : Int), .int ((i + 1 + k : Nat) : Int), w7, w8, w9]) ?_ ?_))
      · simp only [r_tupO, r_pc, r_en, r_augI, r_pS, r_seq, r_ifS, r_tst, r_not, r_and, r_or, r_bin, r_un, r_var, r_frz, r_mov, r_c, r_set, r_st, r_mut, r_do, r_ret, r_p0, r_pure, r_cons, r_nil, r_skip, r_modE, r_lst, r_tup, r_if, r_andV, r_orV, r_comp, r_for, r_rng1, r_rng2, r_its, r_zip, r_call, r_gnil, r_gcons, r_glend, r_par2, r_par3, r_nop, r_part, r_sl, r_chain, getv_s, gv_int, gv_bl, gv_str, gv_non, gv_lst, gv_tup, gv_scr, g_some, exists_eq_left, exists_eq_left', Val.int.injEq, Val.bl.injEq, Out.rt.injEq, and_assoc, exists_and_left, g_if, g_ixL, g_ixT, g_ixS, at_0, at_1, at_2, g_lt, g_le, g_gt, g_ge, g_tbl, g_tint, g_tlst, g_ttup, g_div, g_mod, g_mul, g_add, g_sub, g_pow, g_shl, g_shr, g_neg, g_not, g_bl, g_eqi, g_int, g_intb, g_lenL, g_lenT, g_lenS, g_max2, g_min2, no_int, no_bl, g_sum, g_slS, g_rng1, g_rng2, g_itsL, g_itsT, g_eqb, g_nei, g_neb, two_mk, g_IB, is_int, is_bl, is_str, is_non, is_tup, is_lst, it_int, it_bl, it_str, it_non, it_tup, it_lst, mod_nil, fset_0, fset_1, fset_2, pair2_mk, pair3_mk, and_true, true_and, frzs, frz, List.length_map, putAll, List.replicate, Nat.reduceSub, List.cons_append, List.nil_append, List.set_cons_zero, List.set_cons_succ, true_implies, Bool.true_eq_false, Bool.false_eq_true, false_implies, and_true, true_and, Bool.not_true, Bool.not_false, pick, List.getElem?_cons_zero, List.getElem?_cons_succ, List.eraseIdx_cons_zero, List.eraseIdx_cons_succ, Bool.false_and, beq_self_eq_true, decide_true, List.isEmpty_nil, List.isEmpty_cons, wipeE, restE, List.getD_cons_succ, List.getD_cons_zero, List.getD_nil, r_ok, g_allR, List.length_replicate, frzs_vi, frzs_tab, tab_len, wn_len, fins_1, fins_2, fins_3, fins_4, fins_5, isub, Int.toNat_natCast, g_isn, g_isnn, r_callK, g_sorted, g_app, g_isL, isLst_lst, ex_unit, g_addI, own_int, g_enL, g_enT, g_sortU, g_rgL2, g_rgT2, g_eq1, frzs_tl]
        refine ⟨(by apply cMul_of; (repeat' first | assumption | apply sz_add | apply sz_sub | apply sz_mul | (apply sz_mod <;> first | apply Nat.le_refl | decide +kernel) | apply Nat.le_refl | decide +kernel)), ?_⟩
        repeat' first
          | exact ⟨_, rfl⟩
          | exact ⟨⟨_, rfl⟩, rfl⟩
          | exact rfl
          | exact trivial
          | apply And.intro
          | intro _
      · rintro v e ⟨⟨t, rfl⟩, rfl⟩
        refine r_seq.mpr (r_ifS.mpr (Run.mono (Q := fun _ e => e = [fd a2 b2 c2, .int (1 + s), .int w, .int m, .lst true (vi (wn B m)), .int (i : Int), .int ((i + 1 + k : Nat) : Int), .bl t, w8, w9]) ?_ ?_))
        · simp only [r_tupO, r_pc, r_en, r_augI, r_pS, r_seq, r_ifS, r_tst, r_not, r_and, r_or, r_bin, r_un, r_var, r_frz, r_mov, r_c, r_set, r_st, r_mut, r_do, r_ret, r_p0, r_pure, r_cons, r_nil, r_skip, r_modE, r_lst, r_tup, r_if, r_andV, r_orV, r_comp, r_for, r_rng1, r_rng2, r_its, r_zip, r_call, r_gnil, r_gcons, r_glend, r_par2, r_par3, r_nop, r_part, r_sl, r_chain, getv_s, gv_int, gv_bl, gv_str, gv_non, gv_lst, gv_tup, gv_scr, g_some, exists_eq_left, exists_eq_left', Val.int.injEq, Val.bl.injEq, Out.rt.injEq, and_assoc, exists_and_left, g_if, g_ixL, g_ixT, g_ixS, at_0, at_1, at_2, g_lt, g_le, g_gt, g_ge, g_tbl, g_tint, g_tlst, g_ttup, g_div, g_mod, g_mul, g_add, g_sub, g_pow, g_shl, g_shr, g_neg, g_not, g_bl, g_eqi, g_int, g_intb, g_lenL, g_lenT, g_lenS, g_max2, g_min2, no_int, no_bl, g_sum, g_slS, g_rng1, g_rng2, g_itsL, g_itsT, g_eqb, g_nei, g_neb, two_mk, g_IB, is_int, is_bl, is_str, is_non, is_tup, is_lst, it_int, it_bl, it_str, it_non, it_tup, it_lst, mod_nil, fset_0, fset_1, fset_2, pair2_mk, pair3_mk, and_true, true_and, frzs, frz, List.length_map, putAll, List.replicate, Nat.reduceSub, List.cons_append, List.nil_append, List.set_cons_zero, List.set_cons_succ, true_implies, Bool.true_eq_false, Bool.false_eq_true, false_implies, and_true, true_and, Bool.not_true, Bool.not_false, pick, List.getElem?_cons_zero, List.getElem?_cons_succ, List.eraseIdx_cons_zero, List.eraseIdx_cons_succ, Bool.false_and, beq_self_eq_true, decide_true, List.isEmpty_nil, List.isEmpty_cons, wipeE, restE, List.getD_cons_succ, List.getD_cons_zero, List.getD_nil, r_ok, g_allR, List.length_replicate, frzs_vi, frzs_tab, tab_len, wn_len, fins_1, fins_2, fins_3, fins_4, fins_5, isub, Int.toNat_natCast, g_isn, g_isnn, r_callK, g_sorted, g_app, g_isL, isLst_lst, ex_unit, g_addI, own_int, g_enL, g_enT, g_sortU, g_rgL2, g_rgT2, g_eq1, frzs_tl]
          exact ⟨_, rfl⟩
        · rintro q e rfl
          refine ⟨fun _ => r_set.mpr (Run.mono (Q := fun v e => (∃ t, v = .bl t) ∧ e = [fd a2 b2 c2, .int (1 + s), .int w, .int m, .lst true (vi (wn B m)), .int (i : Int), .int ((i + 1 + k : Nat) : Int), .bl t, w8, w9]) ?_ ?_), fun _ => tail t w8 w9⟩
          · simp only [r_tupO, r_pc, r_en, r_augI, r_pS, r_seq, r_ifS, r_tst, r_not, r_and, r_or, r_bin, r_un, r_var, r_frz, r_mov, r_c, r_set, r_st, r_mut, r_do, r_ret, r_p0, r_pure, r_cons, r_nil, r_skip, r_modE, r_lst, r_tup, r_if, r_andV, r_orV, r_comp, r_for, r_rng1, r_rng2, r_its, r_zip, r_call, r_gnil, r_gcons, r_glend, r_par2, r_par3, r_nop, r_part, r_sl, r_chain, getv_s, gv_int, gv_bl, gv_str, gv_non, gv_lst, gv_tup, gv_scr, g_some, exists_eq_left, exists_eq_left', Val.int.injEq, Val.bl.injEq, Out.rt.injEq, and_assoc, exists_and_left, g_if, g_ixL, g_ixT, g_ixS, at_0, at_1, at_2, g_lt, g_le, g_gt, g_ge, g_tbl, g_tint, g_tlst, g_ttup, g_div, g_mod, g_mul, g_add, g_sub, g_pow, g_shl, g_shr, g_neg, g_not, g_bl, g_eqi, g_int, g_intb, g_lenL, g_lenT, g_lenS, g_max2, g_min2, no_int, no_bl, g_sum, g_slS, g_rng1, g_rng2, g_itsL, g_itsT, g_eqb, g_nei, g_neb, two_mk, g_IB, is_int, is_bl, is_str, is_non, is_tup, is_lst, it_int, it_bl, it_str, it_non, it_tup, it_lst, mod_nil, fset_0, fset_1, fset_2, pair2_mk, pair3_mk, and_true, true_and, frzs, frz, List.length_map, putAll, List.replicate, Nat.reduceSub, List.cons_append, List.nil_append, List.set_cons_zero, List.set_cons_succ, true_implies, Bool.true_eq_false, Bool.false_eq_true, false_implies, and_true, true_and, Bool.not_true, Bool.not_false, pick, List.getElem?_cons_zero, List.getElem?_cons_succ, List.eraseIdx_cons_zero, List.eraseIdx_cons_succ, Bool.false_and, beq_self_eq_true, decide_true, List.isEmpty_nil, List.isEmpty_cons, wipeE, restE, List.getD_cons_succ, List.getD_cons_zero, List.getD_nil, r_ok, g_allR, List.length_replicate, frzs_vi, frzs_tab, tab_len, wn_len, fins_1, fins_2, fins_3, fins_4, fins_5, isub, Int.toNat_natCast, g_isn, g_isnn, r_callK, g_sorted, g_app, g_isL, isLst_lst, ex_unit, g_addI, own_int, g_enL, g_enT, g_sortU, g_rgL2, g_rgT2, g_eq1, frzs_tl]
            repeat' first
              | exact ⟨_, rfl⟩
              | exact ⟨⟨_, rfl⟩, rfl⟩
              | exact cMod_of (by decide)
              | exact rfl
              | exact trivial
              | apply And.intro
              | intro _
          · rintro v e ⟨⟨t2, rfl⟩, rfl⟩
            exact tail t2 w8 w9
    · rintro o e ⟨rfl, B, w6, w7, w8, w9, rfl, hPT⟩
      rw [e1] at hPT
      exact ⟨rfl, _, B, _, _, _, _, rfl, hPT.cong fun p q h1 h2 => decide_eq_decide.mpr (by omega)⟩
  · rintro oo e ⟨rfl, w5, B, w6, w7, w8, w9, rfl, hPT⟩
    rw [show (rgs m).length = m by simp [rgs]] at hPT
    have hT : Tour B m := by
      refine ⟨fun x y hx hy hxy => ?_, hPT.dg, hPT.lt⟩
      rcases Nat.lt_trichotomy x y with q | q | q
      · exact hPT.de x y q hy (decide_eq_true (.inl hx))
      · exact absurd q hxy
      · have := hPT.de y x q hx (decide_eq_true (.inl hy))
        simp only [id] at this
        rw [this]; simp
    simp only [r_tupO, r_pc, r_en, r_augI, r_pS, r_seq, r_ifS, r_tst, r_not, r_and, r_or, r_bin, r_un, r_var, r_frz, r_mov, r_c, r_set, r_st, r_mut, r_do, r_ret, r_p0, r_pure, r_cons, r_nil, r_skip, r_modE, r_lst, r_tup, r_if, r_andV, r_orV, r_comp, r_for, r_rng1, r_rng2, r_its, r_zip, r_call, r_gnil, r_gcons, r_glend, r_par2, r_par3, r_nop, r_part, r_sl, r_chain, getv_s, gv_int, gv_bl, gv_str, gv_non, gv_lst, gv_tup, gv_scr, g_some, exists_eq_left, exists_eq_left', Val.int.injEq, Val.bl.injEq, Out.rt.injEq, and_assoc, exists_and_left, g_if, g_ixL, g_ixT, g_ixS, at_0, at_1, at_2, g_lt, g_le, g_gt, g_ge, g_tbl, g_tint, g_tlst, g_ttup, g_div, g_mod, g_mul, g_add, g_sub, g_pow, g_shl, g_shr, g_neg, g_not, g_bl, g_eqi, g_int, g_intb, g_lenL, g_lenT, g_lenS, g_max2, g_min2, no_int, no_bl, g_sum, g_slS, g_rng1, g_rng2, g_itsL, g_itsT, g_eqb, g_nei, g_neb, two_mk, g_IB, is_int, is_bl, is_str, is_non, is_tup, is_lst, it_int, it_bl, it_str, it_non, it_tup, it_lst, mod_nil, fset_0, fset_1, fset_2, pair2_mk, pair3_mk, and_true, true_and, frzs, frz, List.length_map, putAll, List.replicate, Nat.reduceSub, List.cons_append, List.nil_append, List.set_cons_zero, List.set_cons_succ, true_implies, Bool.true_eq_false, Bool.false_eq_true, false_implies, and_true, true_and, Bool.not_true, Bool.not_false, pick, List.getElem?_cons_zero, List.getElem?_cons_succ, List.eraseIdx_cons_zero, List.eraseIdx_cons_succ, Bool.false_and, beq_self_eq_true, decide_true, List.isEmpty_nil, List.isEmpty_cons, wipeE, restE, List.getD_cons_succ, List.getD_cons_zero, List.getD_nil, r_ok, g_allR, List.length_replicate, frzs_vi, frzs_tab, tab_len, wn_len, fins_1, fins_2, fins_3, fins_4, fins_5, isub, Int.toNat_natCast, g_isn, g_isnn, r_callK, g_sorted, g_app, g_isL, isLst_lst, ex_unit, g_addI, own_int, g_enL, g_enT, g_sortU, g_rgL2, g_rgT2, g_eq1, frzs_tl, g_rgL]
    refine ⟨decide_eq_true ⟨by omega, by omega⟩, ?_⟩
    rw [rgs_vi]
    obtain ⟨ns, a5, b5, c5, d5, hperm, f5⟩ := mixed_ok (o := true) (xs := (List.range m).map fun k : Nat => (k : Int)) (by simp; omega) (by simp; omega) f2
    refine call_run d5 rfl rfl ?_
    simp only [r_tupO, r_pc, r_en, r_augI, r_pS, r_seq, r_ifS, r_tst, r_not, r_and, r_or, r_bin, r_un, r_var, r_frz, r_mov, r_c, r_set, r_st, r_mut, r_do, r_ret, r_p0, r_pure, r_cons, r_nil, r_skip, r_modE, r_lst, r_tup, r_if, r_andV, r_orV, r_comp, r_for, r_rng1, r_rng2, r_its, r_zip, r_call, r_gnil, r_gcons, r_glend, r_par2, r_par3, r_nop, r_part, r_sl, r_chain, getv_s, gv_int, gv_bl, gv_str, gv_non, gv_lst, gv_tup, gv_scr, g_some, exists_eq_left, exists_eq_left', Val.int.injEq, Val.bl.injEq, Out.rt.injEq, and_assoc, exists_and_left, g_if, g_ixL, g_ixT, g_ixS, at_0, at_1, at_2, g_lt, g_le, g_gt, g_ge, g_tbl, g_tint, g_tlst, g_ttup, g_div, g_mod, g_mul, g_add, g_sub, g_pow, g_shl, g_shr, g_neg, g_not, g_bl, g_eqi, g_int, g_intb, g_lenL, g_lenT, g_lenS, g_max2, g_min2, no_int, no_bl, g_sum, g_slS, g_rng1, g_rng2, g_itsL, g_itsT, g_eqb, g_nei, g_neb, two_mk, g_IB, is_int, is_bl, is_str, is_non, is_tup, is_lst, it_int, it_bl, it_str, it_non, it_tup, it_lst, mod_nil, fset_0, fset_1, fset_2, pair2_mk, pair3_mk, and_true, true_and, frzs, frz, List.length_map, putAll, List.replicate, Nat.reduceSub, List.cons_append, List.nil_append, List.set_cons_zero, List.set_cons_succ, true_implies, Bool.true_eq_false, Bool.false_eq_true, false_implies, and_true, true_and, Bool.not_true, Bool.not_false, pick, List.getElem?_cons_zero, List.getElem?_cons_succ, List.eraseIdx_cons_zero, List.eraseIdx_cons_succ, Bool.false_and, beq_self_eq_true, decide_true, List.isEmpty_nil, List.isEmpty_cons, wipeE, restE, List.getD_cons_succ, List.getD_cons_zero, List.getD_nil, r_ok, g_allR, List.length_replicate, frzs_vi, frzs_tab, tab_len, wn_len, fins_1, fins_2, fins_3, fins_4, fins_5, isub, Int.toNat_natCast, g_isn, g_isnn, r_callK, g_sorted, g_app, g_isL, isLst_lst, ex_unit, g_addI, own_int, g_enL, g_enT, g_sortU, g_rgL2, g_rgT2, g_eq1, frzs_tl]
    obtain ⟨nm, iv, hN, rfl⟩ := perm_nm hperm
    refine call_run (called_ok (by omega) hN) rfl rfl ?_
    exact ⟨m, _, rfl, a5, b5, c5, rfl, hm7, ren_tour hN hT, f5.mono (by simp; omega)⟩

theorem law_true : ∀ ns : List Int, ns.length ≤ 63 → (∀ z ∈ ns, Builtin.Int.intBits z ≤ 1048576) → ∃ fs, F_law [.scr ns] = some (.ok (.bl true), fs) := by
  intro ns hl hb
  suffices h : ∃ v fs, F_law [.scr ns] = some (.ok v, fs) ∧ v = .bl true by
    obtain ⟨v, fs, e, rfl⟩ := h
    exact ⟨fs, e⟩
  refine fn_runE rfl ?_
  simp only [D_law, r_tupO, r_pc, r_en, r_augI, r_pS, r_seq, r_ifS, r_tst, r_not, r_and, r_or, r_bin, r_un, r_var, r_frz, r_mov, r_c, r_set, r_st, r_mut, r_do, r_ret, r_p0, r_pure, r_cons, r_nil, r_skip, r_modE, r_lst, r_tup, r_if, r_andV, r_orV, r_comp, r_for, r_rng1, r_rng2, r_its, r_zip, r_call, r_gnil, r_gcons, r_glend, r_par2, r_par3, r_nop, r_part, r_sl, r_chain, getv_s, gv_int, gv_bl, gv_str, gv_non, gv_lst, gv_tup, gv_scr, g_some, exists_eq_left, exists_eq_left', Val.int.injEq, Val.bl.injEq, Out.rt.injEq, and_assoc, exists_and_left, g_if, g_ixL, g_ixT, g_ixS, at_0, at_1, at_2, g_lt, g_le, g_gt, g_ge, g_tbl, g_tint, g_tlst, g_ttup, g_div, g_mod, g_mul, g_add, g_sub, g_pow, g_shl, g_shr, g_neg, g_not, g_bl, g_eqi, g_int, g_intb, g_lenL, g_lenT, g_lenS, g_max2, g_min2, no_int, no_bl, g_sum, g_slS, g_rng1, g_rng2, g_itsL, g_itsT, g_eqb, g_nei, g_neb, two_mk, g_IB, is_int, is_bl, is_str, is_non, is_tup, is_lst, it_int, it_bl, it_str, it_non, it_tup, it_lst, mod_nil, fset_0, fset_1, fset_2, pair2_mk, pair3_mk, and_true, true_and, frzs, frz, List.length_map, putAll, List.replicate, Nat.reduceSub, List.cons_append, List.nil_append, List.set_cons_zero, List.set_cons_succ, true_implies, Bool.true_eq_false, Bool.false_eq_true, false_implies, and_true, true_and, Bool.not_true, Bool.not_false, pick, List.getElem?_cons_zero, List.getElem?_cons_succ, List.eraseIdx_cons_zero, List.eraseIdx_cons_succ, Bool.false_and, beq_self_eq_true, decide_true, List.isEmpty_nil, List.isEmpty_cons, wipeE, restE, List.getD_cons_succ, List.getD_cons_zero, List.getD_nil, r_ok, g_allR, List.length_replicate, frzs_vi, frzs_tab, tab_len, wn_len, fins_1, fins_2, fins_3, fins_4, fins_5, isub, Int.toNat_natCast, g_isn, g_isnn, r_callK, g_sorted, g_app, g_isL, isLst_lst, ex_unit, g_addI, own_int, g_enL, g_enT, g_sortU, g_rgL2, g_rgT2, g_eq1, frzs_tl]
  generalize hk : (if (if (4 : Int) < ns.length then (4 : Int) else ns.length) > 2 then (if (4 : Int) < ns.length then (4 : Int) else ns.length) else 2) = kk
  have hkk : 0 ≤ kk ∧ kk ≤ 4 := by subst hk; constructor <;> split <;> split <;> omega
  refine ⟨decide_eq_true (by omega), ?_⟩
  refine (for_run (fun i e => ∃ w1 w2, e = [.scr ns, w1, w2]) ⟨_, _, rfl⟩ ?_).mono ?_
  · rintro i v e hv ⟨w1, w2, rfl⟩
    obtain ⟨hi0, hv2⟩ := List.getElem?_eq_some_iff.mp hv
    have hi : (i : Int) < 5 := by have : i < kk.toNat := by simpa [rgs] using hi0
                                  omega
    have hvi : v = .int (i : Int) := by rw [← hv2]; simp [rgs]
    subst hvi
    refine ⟨_, rfl, ?_⟩
    obtain ⟨a, b, d1, f1⟩ := feed_ok (ns := ns) (k := i) hb (by omega) (by omega)
    obtain ⟨m, B, a2, b2, c2, d2, hm0, hm8, hT, f2⟩ := wins_ok (least := 0) (most := 8) (by omega) (by omega) (by omega) (by omega) f1
    have hm : m ≤ 8 := by omega
    obtain ⟨a3, b3, c3, d3, f3⟩ := places_ok (by omega) f2
    obtain ⟨m4, B4, a4, b4, c4, d4, hm4, hT4, f4⟩ := bare_ok (by omega) f3
    simp only [r_tupO, r_pc, r_en, r_augI, r_pS, r_seq, r_ifS, r_tst, r_not, r_and, r_or, r_bin, r_un, r_var, r_frz, r_mov, r_c, r_set, r_st, r_mut, r_do, r_ret, r_p0, r_pure, r_cons, r_nil, r_skip, r_modE, r_lst, r_tup, r_if, r_andV, r_orV, r_comp, r_for, r_rng1, r_rng2, r_its, r_zip, r_call, r_gnil, r_gcons, r_glend, r_par2, r_par3, r_nop, r_part, r_sl, r_chain, getv_s, gv_int, gv_bl, gv_str, gv_non, gv_lst, gv_tup, gv_scr, g_some, exists_eq_left, exists_eq_left', Val.int.injEq, Val.bl.injEq, Out.rt.injEq, and_assoc, exists_and_left, g_if, g_ixL, g_ixT, g_ixS, at_0, at_1, at_2, g_lt, g_le, g_gt, g_ge, g_tbl, g_tint, g_tlst, g_ttup, g_div, g_mod, g_mul, g_add, g_sub, g_pow, g_shl, g_shr, g_neg, g_not, g_bl, g_eqi, g_int, g_intb, g_lenL, g_lenT, g_lenS, g_max2, g_min2, no_int, no_bl, g_sum, g_slS, g_rng1, g_rng2, g_itsL, g_itsT, g_eqb, g_nei, g_neb, two_mk, g_IB, is_int, is_bl, is_str, is_non, is_tup, is_lst, it_int, it_bl, it_str, it_non, it_tup, it_lst, mod_nil, fset_0, fset_1, fset_2, pair2_mk, pair3_mk, and_true, true_and, frzs, frz, List.length_map, putAll, List.replicate, Nat.reduceSub, List.cons_append, List.nil_append, List.set_cons_zero, List.set_cons_succ, true_implies, Bool.true_eq_false, Bool.false_eq_true, false_implies, and_true, true_and, Bool.not_true, Bool.not_false, pick, List.getElem?_cons_zero, List.getElem?_cons_succ, List.eraseIdx_cons_zero, List.eraseIdx_cons_succ, Bool.false_and, beq_self_eq_true, decide_true, List.isEmpty_nil, List.isEmpty_cons, wipeE, restE, List.getD_cons_succ, List.getD_cons_zero, List.getD_nil, r_ok, g_allR, List.length_replicate, frzs_vi, frzs_tab, tab_len, wn_len, fins_1, fins_2, fins_3, fins_4, fins_5, isub, Int.toNat_natCast, g_isn, g_isnn, r_callK, g_sorted, g_app, g_isL, isLst_lst, ex_unit, g_addI, own_int, g_enL, g_enT, g_sortU, g_rgL2, g_rgT2, g_eq1, frzs_tl]
    refine call_run d1 rfl rfl ?_
    simp only [r_tupO, r_pc, r_en, r_augI, r_pS, r_seq, r_ifS, r_tst, r_not, r_and, r_or, r_bin, r_un, r_var, r_frz, r_mov, r_c, r_set, r_st, r_mut, r_do, r_ret, r_p0, r_pure, r_cons, r_nil, r_skip, r_modE, r_lst, r_tup, r_if, r_andV, r_orV, r_comp, r_for, r_rng1, r_rng2, r_its, r_zip, r_call, r_gnil, r_gcons, r_glend, r_par2, r_par3, r_nop, r_part, r_sl, r_chain, getv_s, gv_int, gv_bl, gv_str, gv_non, gv_lst, gv_tup, gv_scr, g_some, exists_eq_left, exists_eq_left', Val.int.injEq, Val.bl.injEq, Out.rt.injEq, and_assoc, exists_and_left, g_if, g_ixL, g_ixT, g_ixS, at_0, at_1, at_2, g_lt, g_le, g_gt, g_ge, g_tbl, g_tint, g_tlst, g_ttup, g_div, g_mod, g_mul, g_add, g_sub, g_pow, g_shl, g_shr, g_neg, g_not, g_bl, g_eqi, g_int, g_intb, g_lenL, g_lenT, g_lenS, g_max2, g_min2, no_int, no_bl, g_sum, g_slS, g_rng1, g_rng2, g_itsL, g_itsT, g_eqb, g_nei, g_neb, two_mk, g_IB, is_int, is_bl, is_str, is_non, is_tup, is_lst, it_int, it_bl, it_str, it_non, it_tup, it_lst, mod_nil, fset_0, fset_1, fset_2, pair2_mk, pair3_mk, and_true, true_and, frzs, frz, List.length_map, putAll, List.replicate, Nat.reduceSub, List.cons_append, List.nil_append, List.set_cons_zero, List.set_cons_succ, true_implies, Bool.true_eq_false, Bool.false_eq_true, false_implies, and_true, true_and, Bool.not_true, Bool.not_false, pick, List.getElem?_cons_zero, List.getElem?_cons_succ, List.eraseIdx_cons_zero, List.eraseIdx_cons_succ, Bool.false_and, beq_self_eq_true, decide_true, List.isEmpty_nil, List.isEmpty_cons, wipeE, restE, List.getD_cons_succ, List.getD_cons_zero, List.getD_nil, r_ok, g_allR, List.length_replicate, frzs_vi, frzs_tab, tab_len, wn_len, fins_1, fins_2, fins_3, fins_4, fins_5, isub, Int.toNat_natCast, g_isn, g_isnn, r_callK, g_sorted, g_app, g_isL, isLst_lst, ex_unit, g_addI, own_int, g_enL, g_enT, g_sortU, g_rgL2, g_rgT2, g_eq1, frzs_tl]
    refine call_run d2 rfl rfl ?_
    simp only [r_tupO, r_pc, r_en, r_augI, r_pS, r_seq, r_ifS, r_tst, r_not, r_and, r_or, r_bin, r_un, r_var, r_frz, r_mov, r_c, r_set, r_st, r_mut, r_do, r_ret, r_p0, r_pure, r_cons, r_nil, r_skip, r_modE, r_lst, r_tup, r_if, r_andV, r_orV, r_comp, r_for, r_rng1, r_rng2, r_its, r_zip, r_call, r_gnil, r_gcons, r_glend, r_par2, r_par3, r_nop, r_part, r_sl, r_chain, getv_s, gv_int, gv_bl, gv_str, gv_non, gv_lst, gv_tup, gv_scr, g_some, exists_eq_left, exists_eq_left', Val.int.injEq, Val.bl.injEq, Out.rt.injEq, and_assoc, exists_and_left, g_if, g_ixL, g_ixT, g_ixS, at_0, at_1, at_2, g_lt, g_le, g_gt, g_ge, g_tbl, g_tint, g_tlst, g_ttup, g_div, g_mod, g_mul, g_add, g_sub, g_pow, g_shl, g_shr, g_neg, g_not, g_bl, g_eqi, g_int, g_intb, g_lenL, g_lenT, g_lenS, g_max2, g_min2, no_int, no_bl, g_sum, g_slS, g_rng1, g_rng2, g_itsL, g_itsT, g_eqb, g_nei, g_neb, two_mk, g_IB, is_int, is_bl, is_str, is_non, is_tup, is_lst, it_int, it_bl, it_str, it_non, it_tup, it_lst, mod_nil, fset_0, fset_1, fset_2, pair2_mk, pair3_mk, and_true, true_and, frzs, frz, List.length_map, putAll, List.replicate, Nat.reduceSub, List.cons_append, List.nil_append, List.set_cons_zero, List.set_cons_succ, true_implies, Bool.true_eq_false, Bool.false_eq_true, false_implies, and_true, true_and, Bool.not_true, Bool.not_false, pick, List.getElem?_cons_zero, List.getElem?_cons_succ, List.eraseIdx_cons_zero, List.eraseIdx_cons_succ, Bool.false_and, beq_self_eq_true, decide_true, List.isEmpty_nil, List.isEmpty_cons, wipeE, restE, List.getD_cons_succ, List.getD_cons_zero, List.getD_nil, r_ok, g_allR, List.length_replicate, frzs_vi, frzs_tab, tab_len, wn_len, fins_1, fins_2, fins_3, fins_4, fins_5, isub, Int.toNat_natCast, g_isn, g_isnn, r_callK, g_sorted, g_app, g_isL, isLst_lst, ex_unit, g_addI, own_int, g_enL, g_enT, g_sortU, g_rgL2, g_rgT2, g_eq1, frzs_tl]
    refine call_run (right_ok hm hT) rfl rfl ?_
    simp only [r_tupO, r_pc, r_en, r_augI, r_pS, r_seq, r_ifS, r_tst, r_not, r_and, r_or, r_bin, r_un, r_var, r_frz, r_mov, r_c, r_set, r_st, r_mut, r_do, r_ret, r_p0, r_pure, r_cons, r_nil, r_skip, r_modE, r_lst, r_tup, r_if, r_andV, r_orV, r_comp, r_for, r_rng1, r_rng2, r_its, r_zip, r_call, r_gnil, r_gcons, r_glend, r_par2, r_par3, r_nop, r_part, r_sl, r_chain, getv_s, gv_int, gv_bl, gv_str, gv_non, gv_lst, gv_tup, gv_scr, g_some, exists_eq_left, exists_eq_left', Val.int.injEq, Val.bl.injEq, Out.rt.injEq, and_assoc, exists_and_left, g_if, g_ixL, g_ixT, g_ixS, at_0, at_1, at_2, g_lt, g_le, g_gt, g_ge, g_tbl, g_tint, g_tlst, g_ttup, g_div, g_mod, g_mul, g_add, g_sub, g_pow, g_shl, g_shr, g_neg, g_not, g_bl, g_eqi, g_int, g_intb, g_lenL, g_lenT, g_lenS, g_max2, g_min2, no_int, no_bl, g_sum, g_slS, g_rng1, g_rng2, g_itsL, g_itsT, g_eqb, g_nei, g_neb, two_mk, g_IB, is_int, is_bl, is_str, is_non, is_tup, is_lst, it_int, it_bl, it_str, it_non, it_tup, it_lst, mod_nil, fset_0, fset_1, fset_2, pair2_mk, pair3_mk, and_true, true_and, frzs, frz, List.length_map, putAll, List.replicate, Nat.reduceSub, List.cons_append, List.nil_append, List.set_cons_zero, List.set_cons_succ, true_implies, Bool.true_eq_false, Bool.false_eq_true, false_implies, and_true, true_and, Bool.not_true, Bool.not_false, pick, List.getElem?_cons_zero, List.getElem?_cons_succ, List.eraseIdx_cons_zero, List.eraseIdx_cons_succ, Bool.false_and, beq_self_eq_true, decide_true, List.isEmpty_nil, List.isEmpty_cons, wipeE, restE, List.getD_cons_succ, List.getD_cons_zero, List.getD_nil, r_ok, g_allR, List.length_replicate, frzs_vi, frzs_tab, tab_len, wn_len, fins_1, fins_2, fins_3, fins_4, fins_5, isub, Int.toNat_natCast, g_isn, g_isnn, r_callK, g_sorted, g_app, g_isL, isLst_lst, ex_unit, g_addI, own_int, g_enL, g_enT, g_sortU, g_rgL2, g_rgT2, g_eq1, frzs_tl]
    refine call_run d3 rfl rfl ?_
    simp only [r_tupO, r_pc, r_en, r_augI, r_pS, r_seq, r_ifS, r_tst, r_not, r_and, r_or, r_bin, r_un, r_var, r_frz, r_mov, r_c, r_set, r_st, r_mut, r_do, r_ret, r_p0, r_pure, r_cons, r_nil, r_skip, r_modE, r_lst, r_tup, r_if, r_andV, r_orV, r_comp, r_for, r_rng1, r_rng2, r_its, r_zip, r_call, r_gnil, r_gcons, r_glend, r_par2, r_par3, r_nop, r_part, r_sl, r_chain, getv_s, gv_int, gv_bl, gv_str, gv_non, gv_lst, gv_tup, gv_scr, g_some, exists_eq_left, exists_eq_left', Val.int.injEq, Val.bl.injEq, Out.rt.injEq, and_assoc, exists_and_left, g_if, g_ixL, g_ixT, g_ixS, at_0, at_1, at_2, g_lt, g_le, g_gt, g_ge, g_tbl, g_tint, g_tlst, g_ttup, g_div, g_mod, g_mul, g_add, g_sub, g_pow, g_shl, g_shr, g_neg, g_not, g_bl, g_eqi, g_int, g_intb, g_lenL, g_lenT, g_lenS, g_max2, g_min2, no_int, no_bl, g_sum, g_slS, g_rng1, g_rng2, g_itsL, g_itsT, g_eqb, g_nei, g_neb, two_mk, g_IB, is_int, is_bl, is_str, is_non, is_tup, is_lst, it_int, it_bl, it_str, it_non, it_tup, it_lst, mod_nil, fset_0, fset_1, fset_2, pair2_mk, pair3_mk, and_true, true_and, frzs, frz, List.length_map, putAll, List.replicate, Nat.reduceSub, List.cons_append, List.nil_append, List.set_cons_zero, List.set_cons_succ, true_implies, Bool.true_eq_false, Bool.false_eq_true, false_implies, and_true, true_and, Bool.not_true, Bool.not_false, pick, List.getElem?_cons_zero, List.getElem?_cons_succ, List.eraseIdx_cons_zero, List.eraseIdx_cons_succ, Bool.false_and, beq_self_eq_true, decide_true, List.isEmpty_nil, List.isEmpty_cons, wipeE, restE, List.getD_cons_succ, List.getD_cons_zero, List.getD_nil, r_ok, g_allR, List.length_replicate, frzs_vi, frzs_tab, tab_len, wn_len, fins_1, fins_2, fins_3, fins_4, fins_5, isub, Int.toNat_natCast, g_isn, g_isnn, r_callK, g_sorted, g_app, g_isL, isLst_lst, ex_unit, g_addI, own_int, g_enL, g_enT, g_sortU, g_rgL2, g_rgT2, g_eq1, frzs_tl]
    refine call_run d4 rfl rfl ?_
    simp only [r_tupO, r_pc, r_en, r_augI, r_pS, r_seq, r_ifS, r_tst, r_not, r_and, r_or, r_bin, r_un, r_var, r_frz, r_mov, r_c, r_set, r_st, r_mut, r_do, r_ret, r_p0, r_pure, r_cons, r_nil, r_skip, r_modE, r_lst, r_tup, r_if, r_andV, r_orV, r_comp, r_for, r_rng1, r_rng2, r_its, r_zip, r_call, r_gnil, r_gcons, r_glend, r_par2, r_par3, r_nop, r_part, r_sl, r_chain, getv_s, gv_int, gv_bl, gv_str, gv_non, gv_lst, gv_tup, gv_scr, g_some, exists_eq_left, exists_eq_left', Val.int.injEq, Val.bl.injEq, Out.rt.injEq, and_assoc, exists_and_left, g_if, g_ixL, g_ixT, g_ixS, at_0, at_1, at_2, g_lt, g_le, g_gt, g_ge, g_tbl, g_tint, g_tlst, g_ttup, g_div, g_mod, g_mul, g_add, g_sub, g_pow, g_shl, g_shr, g_neg, g_not, g_bl, g_eqi, g_int, g_intb, g_lenL, g_lenT, g_lenS, g_max2, g_min2, no_int, no_bl, g_sum, g_slS, g_rng1, g_rng2, g_itsL, g_itsT, g_eqb, g_nei, g_neb, two_mk, g_IB, is_int, is_bl, is_str, is_non, is_tup, is_lst, it_int, it_bl, it_str, it_non, it_tup, it_lst, mod_nil, fset_0, fset_1, fset_2, pair2_mk, pair3_mk, and_true, true_and, frzs, frz, List.length_map, putAll, List.replicate, Nat.reduceSub, List.cons_append, List.nil_append, List.set_cons_zero, List.set_cons_succ, true_implies, Bool.true_eq_false, Bool.false_eq_true, false_implies, and_true, true_and, Bool.not_true, Bool.not_false, pick, List.getElem?_cons_zero, List.getElem?_cons_succ, List.eraseIdx_cons_zero, List.eraseIdx_cons_succ, Bool.false_and, beq_self_eq_true, decide_true, List.isEmpty_nil, List.isEmpty_cons, wipeE, restE, List.getD_cons_succ, List.getD_cons_zero, List.getD_nil, r_ok, g_allR, List.length_replicate, frzs_vi, frzs_tab, tab_len, wn_len, fins_1, fins_2, fins_3, fins_4, fins_5, isub, Int.toNat_natCast, g_isn, g_isnn, r_callK, g_sorted, g_app, g_isL, isLst_lst, ex_unit, g_addI, own_int, g_enL, g_enT, g_sortU, g_rgL2, g_rgT2, g_eq1, frzs_tl]
    refine call_run (right_ok (by omega) hT4) rfl rfl ?_
    simp only [r_tupO, r_pc, r_en, r_augI, r_pS, r_seq, r_ifS, r_tst, r_not, r_and, r_or, r_bin, r_un, r_var, r_frz, r_mov, r_c, r_set, r_st, r_mut, r_do, r_ret, r_p0, r_pure, r_cons, r_nil, r_skip, r_modE, r_lst, r_tup, r_if, r_andV, r_orV, r_comp, r_for, r_rng1, r_rng2, r_its, r_zip, r_call, r_gnil, r_gcons, r_glend, r_par2, r_par3, r_nop, r_part, r_sl, r_chain, getv_s, gv_int, gv_bl, gv_str, gv_non, gv_lst, gv_tup, gv_scr, g_some, exists_eq_left, exists_eq_left', Val.int.injEq, Val.bl.injEq, Out.rt.injEq, and_assoc, exists_and_left, g_if, g_ixL, g_ixT, g_ixS, at_0, at_1, at_2, g_lt, g_le, g_gt, g_ge, g_tbl, g_tint, g_tlst, g_ttup, g_div, g_mod, g_mul, g_add, g_sub, g_pow, g_shl, g_shr, g_neg, g_not, g_bl, g_eqi, g_int, g_intb, g_lenL, g_lenT, g_lenS, g_max2, g_min2, no_int, no_bl, g_sum, g_slS, g_rng1, g_rng2, g_itsL, g_itsT, g_eqb, g_nei, g_neb, two_mk, g_IB, is_int, is_bl, is_str, is_non, is_tup, is_lst, it_int, it_bl, it_str, it_non, it_tup, it_lst, mod_nil, fset_0, fset_1, fset_2, pair2_mk, pair3_mk, and_true, true_and, frzs, frz, List.length_map, putAll, List.replicate, Nat.reduceSub, List.cons_append, List.nil_append, List.set_cons_zero, List.set_cons_succ, true_implies, Bool.true_eq_false, Bool.false_eq_true, false_implies, and_true, true_and, Bool.not_true, Bool.not_false, pick, List.getElem?_cons_zero, List.getElem?_cons_succ, List.eraseIdx_cons_zero, List.eraseIdx_cons_succ, Bool.false_and, beq_self_eq_true, decide_true, List.isEmpty_nil, List.isEmpty_cons, wipeE, restE, List.getD_cons_succ, List.getD_cons_zero, List.getD_nil, r_ok, g_allR, List.length_replicate, frzs_vi, frzs_tab, tab_len, wn_len, fins_1, fins_2, fins_3, fins_4, fins_5, isub, Int.toNat_natCast, g_isn, g_isnn, r_callK, g_sorted, g_app, g_isL, isLst_lst, ex_unit, g_addI, own_int, g_enL, g_enT, g_sortU, g_rgL2, g_rgT2, g_eq1, frzs_tl]
    exact ⟨_, _, rfl⟩
  · rintro oo e ⟨rfl, w1, w2, rfl⟩
    simp only [r_tupO, r_pc, r_en, r_augI, r_pS, r_seq, r_ifS, r_tst, r_not, r_and, r_or, r_bin, r_un, r_var, r_frz, r_mov, r_c, r_set, r_st, r_mut, r_do, r_ret, r_p0, r_pure, r_cons, r_nil, r_skip, r_modE, r_lst, r_tup, r_if, r_andV, r_orV, r_comp, r_for, r_rng1, r_rng2, r_its, r_zip, r_call, r_gnil, r_gcons, r_glend, r_par2, r_par3, r_nop, r_part, r_sl, r_chain, getv_s, gv_int, gv_bl, gv_str, gv_non, gv_lst, gv_tup, gv_scr, g_some, exists_eq_left, exists_eq_left', Val.int.injEq, Val.bl.injEq, Out.rt.injEq, and_assoc, exists_and_left, g_if, g_ixL, g_ixT, g_ixS, at_0, at_1, at_2, g_lt, g_le, g_gt, g_ge, g_tbl, g_tint, g_tlst, g_ttup, g_div, g_mod, g_mul, g_add, g_sub, g_pow, g_shl, g_shr, g_neg, g_not, g_bl, g_eqi, g_int, g_intb, g_lenL, g_lenT, g_lenS, g_max2, g_min2, no_int, no_bl, g_sum, g_slS, g_rng1, g_rng2, g_itsL, g_itsT, g_eqb, g_nei, g_neb, two_mk, g_IB, is_int, is_bl, is_str, is_non, is_tup, is_lst, it_int, it_bl, it_str, it_non, it_tup, it_lst, mod_nil, fset_0, fset_1, fset_2, pair2_mk, pair3_mk, and_true, true_and, frzs, frz, List.length_map, putAll, List.replicate, Nat.reduceSub, List.cons_append, List.nil_append, List.set_cons_zero, List.set_cons_succ, true_implies, Bool.true_eq_false, Bool.false_eq_true, false_implies, and_true, true_and, Bool.not_true, Bool.not_false, pick, List.getElem?_cons_zero, List.getElem?_cons_succ, List.eraseIdx_cons_zero, List.eraseIdx_cons_succ, Bool.false_and, beq_self_eq_true, decide_true, List.isEmpty_nil, List.isEmpty_cons, wipeE, restE, List.getD_cons_succ, List.getD_cons_zero, List.getD_nil, r_ok, g_allR, List.length_replicate, frzs_vi, frzs_tab, tab_len, wn_len, fins_1, fins_2, fins_3, fins_4, fins_5, isub, Int.toNat_natCast, g_isn, g_isnn, r_callK, g_sorted, g_app, g_isL, isLst_lst, ex_unit, g_addI, own_int, g_enL, g_enT, g_sortU, g_rgL2, g_rgT2, g_eq1, frzs_tl]
    let B : Nat → Nat → Bool := fun _ _ => false
    have t0 : Tour B 0 := ⟨fun x y h => absurd h (by omega), fun _ => rfl, fun x y h => nomatch h⟩
    have t1 : Tour B 1 := ⟨fun x y h1 h2 h3 => absurd h3 (by omega), fun _ => rfl, fun x y h => nomatch h⟩
    have e0 : tl (srtL ((alN B 0).map (lotN 0))) = [] := by
      rw [show (alN B 0).map (lotN 0) = [] from rfl]
      unfold srtL
      rw [List.mergeSort_nil]; rfl
    have f0 : tl (srtL ((frN B 0).map (lotN 0))) = [] := by
      rw [show (frN B 0).map (lotN 0) = [] from rfl]
      unfold srtL
      rw [List.mergeSort_nil]; rfl
    have e1 : tl (srtL ((alN B 1).map (lotN 1))) = [.tup [.int 0]] := by
      rw [show (alN B 1).map (lotN 1) = [[0]] by decide]
      unfold srtL
      rw [List.mergeSort_singleton]; rfl
    have q1 := alike_lots_ok (B := B) (m := 0) (by omega) t0
    have q2 := firm_lots_ok (B := B) (m := 0) (by omega) t0
    have q3 := is_simple_ok (B := B) (m := 0) (by omega) t0
    have q4 := alike_lots_ok (B := B) (m := 1) (by omega) t1
    have q5 := is_simple_ok (B := B) (m := 1) (by omega) t1
    rw [e0] at q1
    rw [f0] at q2
    rw [e1] at q4
    rw [show smp B 0 = false from rfl] at q3
    rw [show smp B 1 = false from rfl] at q5
    have s1 := same_ok (alike_lst (o := false) (p := false) (xs := [.lst false [], .lst false [], .bl false, .lst false [.tup [.int 0]], .bl false]) (ys := [.lst false [], .lst false [], .bl false, .lst false [.tup [.int 0]], .bl false]) rfl rfl (.cons (alike_tl (n := 4) (xss := []) (by simp) (fun _ h => nomatch h)) (.cons (alike_tl (xss := []) (by simp) (fun _ h => nomatch h)) (.cons alike_bl (.cons (alike_tl (xss := [[0]]) (by simp) (fun ns h => by rw [List.mem_singleton.mp h]; simp)) (.cons alike_bl .nil))))) (by simp))
    refine ⟨rfl, call_run q1 rfl rfl ?_⟩
    refine ⟨rfl, call_run q2 rfl rfl ?_⟩
    refine ⟨rfl, call_run q3 rfl rfl ?_⟩
    refine ⟨rfl, rfl, call_run q4 rfl rfl ?_⟩
    refine ⟨rfl, rfl, call_run q5 rfl rfl ?_⟩
    exact ⟨rfl, rfl, rfl, rfl, rfl, rfl, rfl, _, _, s1, rfl, rfl⟩

end PV.K48

namespace PV.K48
open PySem PySem.Spec PyProof.Rows L2 PV
def topS (i : Nat) : Stmt := PySem.Challenge.pw_eachmeets_k48_whole_alike_and_firm_lots.main.body.getD i (.Pass ⟨0, 0, 0, 0⟩)
abbrev s__law_same : Stmt := topS 32
theorem sc__law_same : FnScope ["told", "due", "at"] ["told", "due"] (defScope s__law_same) := ⟨rfl, rfl, rfl, by decide +kernel, rfl, by decide +kernel, by decide +kernel⟩
abbrev s__law_feed : Stmt := topS 29
theorem sc__law_feed : FnScope ["script", "k", "cell"] ["script", "k"] (defScope s__law_feed) := ⟨rfl, rfl, rfl, by decide +kernel, rfl, by decide +kernel, by decide +kernel⟩
abbrev s_is_tuple_of : Stmt := topS 17
theorem sc_is_tuple_of : FnScope ["thing", "least", "most"] ["thing", "least", "most"] (defScope s_is_tuple_of) := ⟨rfl, rfl, rfl, by decide +kernel, rfl, by decide +kernel, by decide +kernel⟩
abbrev s_is_rising : Stmt := topS 18
theorem sc_is_rising : FnScope ["parts", "one", "other"] ["parts"] (defScope s_is_rising) := ⟨rfl, rfl, rfl, by decide +kernel, rfl, by decide +kernel, by decide +kernel⟩
abbrev s_is_integer : Stmt := topS 15
theorem sc_is_integer : FnScope ["thing"] ["thing"] (defScope s_is_integer) := ⟨rfl, rfl, rfl, by decide +kernel, rfl, by decide +kernel, by decide +kernel⟩
abbrev s_is_within : Stmt := topS 16
theorem sc_is_within : FnScope ["thing", "least", "most"] ["thing", "least", "most"] (defScope s_is_within) := ⟨rfl, rfl, rfl, by decide +kernel, rfl, by decide +kernel, by decide +kernel⟩
abbrev s_is_lot : Stmt := topS 19
theorem sc_is_lot : FnScope ["thing", "many", "one"] ["thing", "many"] (defScope s_is_lot) := ⟨rfl, rfl, rfl, by decide +kernel, rfl, by decide +kernel, by decide +kernel⟩
abbrev s_is_table_form : Stmt := topS 22
theorem sc_is_table_form : FnScope ["thing", "one", "other", "some"] ["thing"] (defScope s_is_table_form) := ⟨rfl, rfl, rfl, by decide +kernel, rfl, by decide +kernel, by decide +kernel⟩
abbrev s_need_table : Stmt := topS 23
theorem sc_need_table : FnScope ["table"] ["table"] (defScope s_need_table) := ⟨rfl, rfl, rfl, by decide +kernel, rfl, by decide +kernel, by decide +kernel⟩
abbrev s_lot_by : Stmt := topS 2
theorem sc_lot_by : FnScope ["mask", "found", "player"] ["mask"] (defScope s_lot_by) := ⟨rfl, rfl, rfl, by decide +kernel, rfl, by decide +kernel, by decide +kernel⟩
abbrev s_lots_of : Stmt := topS 8
theorem sc_lots_of : FnScope ["masks", "mask"] ["masks"] (defScope s_lots_of) := ⟨rfl, rfl, rfl, by decide +kernel, rfl, by decide +kernel, by decide +kernel⟩
abbrev s_masks_of : Stmt := topS 1
theorem sc_masks_of : FnScope ["table", "some", "other"] ["table"] (defScope s_masks_of) := ⟨rfl, rfl, rfl, by decide +kernel, rfl, by decide +kernel, by decide +kernel⟩
abbrev s_is_alike_mask : Stmt := topS 5
theorem sc_is_alike_mask : FnScope ["masks", "mask", "player", "wins"] ["masks", "mask"] (defScope s_is_alike_mask) := ⟨rfl, rfl, rfl, by decide +kernel, rfl, by decide +kernel, by decide +kernel⟩
abbrev s_alike_masks : Stmt := topS 6
theorem sc_alike_masks : FnScope ["table", "masks", "mask"] ["table"] (defScope s_alike_masks) := ⟨rfl, rfl, rfl, by decide +kernel, rfl, by decide +kernel, by decide +kernel⟩
abbrev s_alike_lots : Stmt := topS 25
theorem sc_alike_lots : FnScope ["table"] ["table"] (defScope s_alike_lots) := ⟨rfl, rfl, rfl, by decide +kernel, rfl, by decide +kernel, by decide +kernel⟩
abbrev s_do_cross : Stmt := topS 7
theorem sc_do_cross : FnScope ["one", "other", "shared"] ["one", "other"] (defScope s_do_cross) := ⟨rfl, rfl, rfl, by decide +kernel, rfl, by decide +kernel, by decide +kernel⟩
abbrev s_firm_masks : Stmt := topS 9
theorem sc_firm_masks : FnScope ["table", "some", "one", "other"] ["table"] (defScope s_firm_masks) := ⟨rfl, rfl, rfl, by decide +kernel, rfl, by decide +kernel, by decide +kernel⟩
abbrev s_firm_lots : Stmt := topS 26
theorem sc_firm_lots : FnScope ["table"] ["table"] (defScope s_firm_lots) := ⟨rfl, rfl, rfl, by decide +kernel, rfl, by decide +kernel, by decide +kernel⟩
abbrev s_bits_in : Stmt := topS 3
theorem sc_bits_in : FnScope ["mask"] ["mask"] (defScope s_bits_in) := ⟨rfl, rfl, rfl, by decide +kernel, rfl, by decide +kernel, by decide +kernel⟩
abbrev s_is_simple_form : Stmt := topS 10
theorem sc_is_simple_form : FnScope ["table", "mask"] ["table"] (defScope s_is_simple_form) := ⟨rfl, rfl, rfl, by decide +kernel, rfl, by decide +kernel, by decide +kernel⟩
abbrev s_is_simple : Stmt := topS 27
theorem sc_is_simple : FnScope ["table"] ["table"] (defScope s_is_simple) := ⟨rfl, rfl, rfl, by decide +kernel, rfl, by decide +kernel, by decide +kernel⟩
abbrev s__law_lot : Stmt := topS 35
theorem sc__law_lot : FnScope ["mask", "player"] ["mask"] (defScope s__law_lot) := ⟨rfl, rfl, rfl, by decide +kernel, rfl, by decide +kernel, by decide +kernel⟩
abbrev s__law_table : Stmt := topS 36
theorem sc__law_table : FnScope ["wins", "mask"] ["wins"] (defScope s__law_table) := ⟨rfl, rfl, rfl, by decide +kernel, rfl, by decide +kernel, by decide +kernel⟩
abbrev s__law_alike : Stmt := topS 38
theorem sc__law_alike : FnScope ["wins", "many", "found", "mask", "player"] ["wins"] (defScope s__law_alike) := ⟨rfl, rfl, rfl, by decide +kernel, rfl, by decide +kernel, by decide +kernel⟩
abbrev s__law_right : Stmt := topS 42
theorem sc__law_right : FnScope ["wins", "table", "alike", "due", "firm", "simple", "told", "mask", "other"] ["wins"] (defScope s__law_right) := ⟨rfl, rfl, rfl, by decide +kernel, rfl, by decide +kernel, by decide +kernel⟩
abbrev s__law_draw : Stmt := topS 30
theorem sc__law_draw : FnScope ["feed", "many", "rest", "seed"] ["feed", "many"] (defScope s__law_draw) := ⟨rfl, rfl, rfl, by decide +kernel, rfl, by decide +kernel, by decide +kernel⟩
abbrev s__law_mixed : Stmt := topS 31
theorem sc__law_mixed : FnScope ["feed", "things", "left", "got", "turn"] ["feed", "things"] (defScope s__law_mixed) := ⟨rfl, rfl, rfl, by decide +kernel, rfl, by decide +kernel, by decide +kernel⟩
abbrev s__law_beats : Stmt := topS 33
theorem sc__law_beats : FnScope ["feed", "way", "marks", "one", "other", "many", "apart", "outer", "gap", "is_ring"] ["feed", "way", "marks", "one", "other"] (defScope s__law_beats) := ⟨rfl, rfl, rfl, by decide +kernel, rfl, by decide +kernel, by decide +kernel⟩
abbrev s__law_wins : Stmt := topS 34
theorem sc__law_wins : FnScope ["feed", "least", "most", "many", "way", "pool", "marks", "names", "wins", "one", "other", "winner", "loser", "turn"] ["feed", "least", "most"] (defScope s__law_wins) := ⟨rfl, rfl, rfl, by decide +kernel, rfl, by decide +kernel, by decide +kernel⟩
abbrev s__law_put : Stmt := topS 41
theorem sc__law_put : FnScope ["wins", "parts", "starts", "found", "many", "part", "at", "below", "one", "mask"] ["wins", "parts"] (defScope s__law_put) := ⟨rfl, rfl, rfl, by decide +kernel, rfl, by decide +kernel, by decide +kernel⟩
abbrev s__law_places : Stmt := topS 43
theorem sc__law_places : FnScope ["feed", "wins", "parts", "room", "at", "whole", "start", "told", "part"] ["feed"] (defScope s__law_places) := ⟨rfl, rfl, rfl, by decide +kernel, rfl, by decide +kernel, by decide +kernel⟩
abbrev s__law_called : Stmt := topS 37
theorem sc__law_called : FnScope ["wins", "names", "found", "player", "other"] ["wins", "names"] (defScope s__law_called) := ⟨rfl, rfl, rfl, by decide +kernel, rfl, by decide +kernel, by decide +kernel⟩
abbrev s__law_bare : Stmt := topS 40
theorem sc__law_bare : FnScope ["feed", "half", "way", "size", "wins", "one", "other", "first", "winner", "loser"] ["feed"] (defScope s__law_bare) := ⟨rfl, rfl, rfl, by decide +kernel, rfl, by decide +kernel, by decide +kernel⟩
abbrev s_law : Stmt := topS 44
theorem sc_law : FnScope ["script", "k", "feed"] ["script"] (defScope s_law) := ⟨rfl, rfl, rfl, by decide +kernel, rfl, by decide +kernel, by decide +kernel⟩
structure Fx (K : PySem.W.Frag) (mg : Str → Option Value) where
  a__law_same : Addr
  d__law_same : FuncData
  F__law_same : Fun K "_law_same" "_law_same" s__law_same a__law_same d__law_same
  m__law_same : mg "_law_same" = some (.ref a__law_same)
  b__law_same : Binds K d__law_same ["told", "due"] []
  a__law_feed : Addr
  d__law_feed : FuncData
  F__law_feed : Fun K "_law_feed" "_law_feed" s__law_feed a__law_feed d__law_feed
  m__law_feed : mg "_law_feed" = some (.ref a__law_feed)
  b__law_feed : Binds K d__law_feed ["script", "k"] []
  a_is_tuple_of : Addr
  d_is_tuple_of : FuncData
  F_is_tuple_of : Fun K "is_tuple_of" "is_tuple_of" s_is_tuple_of a_is_tuple_of d_is_tuple_of
  m_is_tuple_of : mg "is_tuple_of" = some (.ref a_is_tuple_of)
  b_is_tuple_of : Binds K d_is_tuple_of ["thing", "least", "most"] []
  a_is_rising : Addr
  d_is_rising : FuncData
  F_is_rising : Fun K "is_rising" "is_rising" s_is_rising a_is_rising d_is_rising
  m_is_rising : mg "is_rising" = some (.ref a_is_rising)
  b_is_rising : Binds K d_is_rising ["parts"] []
  a_is_integer : Addr
  d_is_integer : FuncData
  F_is_integer : Fun K "is_integer" "is_integer" s_is_integer a_is_integer d_is_integer
  m_is_integer : mg "is_integer" = some (.ref a_is_integer)
  b_is_integer : Binds K d_is_integer ["thing"] []
  a_is_within : Addr
  d_is_within : FuncData
  F_is_within : Fun K "is_within" "is_within" s_is_within a_is_within d_is_within
  m_is_within : mg "is_within" = some (.ref a_is_within)
  b_is_within : Binds K d_is_within ["thing", "least", "most"] []
  a_is_lot : Addr
  d_is_lot : FuncData
  F_is_lot : Fun K "is_lot" "is_lot" s_is_lot a_is_lot d_is_lot
  m_is_lot : mg "is_lot" = some (.ref a_is_lot)
  b_is_lot : Binds K d_is_lot ["thing", "many"] []
  a_is_table_form : Addr
  d_is_table_form : FuncData
  F_is_table_form : Fun K "is_table_form" "is_table_form" s_is_table_form a_is_table_form d_is_table_form
  m_is_table_form : mg "is_table_form" = some (.ref a_is_table_form)
  b_is_table_form : Binds K d_is_table_form ["thing"] []
  a_need_table : Addr
  d_need_table : FuncData
  F_need_table : Fun K "need_table" "need_table" s_need_table a_need_table d_need_table
  m_need_table : mg "need_table" = some (.ref a_need_table)
  b_need_table : Binds K d_need_table ["table"] []
  a_lot_by : Addr
  d_lot_by : FuncData
  F_lot_by : Fun K "lot_by" "lot_by" s_lot_by a_lot_by d_lot_by
  m_lot_by : mg "lot_by" = some (.ref a_lot_by)
  b_lot_by : Binds K d_lot_by ["mask"] []
  a_lots_of : Addr
  d_lots_of : FuncData
  F_lots_of : Fun K "lots_of" "lots_of" s_lots_of a_lots_of d_lots_of
  m_lots_of : mg "lots_of" = some (.ref a_lots_of)
  b_lots_of : Binds K d_lots_of ["masks"] []
  a_masks_of : Addr
  d_masks_of : FuncData
  F_masks_of : Fun K "masks_of" "masks_of" s_masks_of a_masks_of d_masks_of
  m_masks_of : mg "masks_of" = some (.ref a_masks_of)
  b_masks_of : Binds K d_masks_of ["table"] []
  a_is_alike_mask : Addr
  d_is_alike_mask : FuncData
  F_is_alike_mask : Fun K "is_alike_mask" "is_alike_mask" s_is_alike_mask a_is_alike_mask d_is_alike_mask
  m_is_alike_mask : mg "is_alike_mask" = some (.ref a_is_alike_mask)
  b_is_alike_mask : Binds K d_is_alike_mask ["masks", "mask"] []
  a_alike_masks : Addr
  d_alike_masks : FuncData
  F_alike_masks : Fun K "alike_masks" "alike_masks" s_alike_masks a_alike_masks d_alike_masks
  m_alike_masks : mg "alike_masks" = some (.ref a_alike_masks)
  b_alike_masks : Binds K d_alike_masks ["table"] []
  a_alike_lots : Addr
  d_alike_lots : FuncData
  F_alike_lots : Fun K "alike_lots" "alike_lots" s_alike_lots a_alike_lots d_alike_lots
  m_alike_lots : mg "alike_lots" = some (.ref a_alike_lots)
  b_alike_lots : Binds K d_alike_lots ["table"] []
  a_do_cross : Addr
  d_do_cross : FuncData
  F_do_cross : Fun K "do_cross" "do_cross" s_do_cross a_do_cross d_do_cross
  m_do_cross : mg "do_cross" = some (.ref a_do_cross)
  b_do_cross : Binds K d_do_cross ["one", "other"] []
  a_firm_masks : Addr
  d_firm_masks : FuncData
  F_firm_masks : Fun K "firm_masks" "firm_masks" s_firm_masks a_firm_masks d_firm_masks
  m_firm_masks : mg "firm_masks" = some (.ref a_firm_masks)
  b_firm_masks : Binds K d_firm_masks ["table"] []
  a_firm_lots : Addr
  d_firm_lots : FuncData
  F_firm_lots : Fun K "firm_lots" "firm_lots" s_firm_lots a_firm_lots d_firm_lots
  m_firm_lots : mg "firm_lots" = some (.ref a_firm_lots)
  b_firm_lots : Binds K d_firm_lots ["table"] []
  a_bits_in : Addr
  d_bits_in : FuncData
  F_bits_in : Fun K "bits_in" "bits_in" s_bits_in a_bits_in d_bits_in
  m_bits_in : mg "bits_in" = some (.ref a_bits_in)
  b_bits_in : Binds K d_bits_in ["mask"] []
  a_is_simple_form : Addr
  d_is_simple_form : FuncData
  F_is_simple_form : Fun K "is_simple_form" "is_simple_form" s_is_simple_form a_is_simple_form d_is_simple_form
  m_is_simple_form : mg "is_simple_form" = some (.ref a_is_simple_form)
  b_is_simple_form : Binds K d_is_simple_form ["table"] []
  a_is_simple : Addr
  d_is_simple : FuncData
  F_is_simple : Fun K "is_simple" "is_simple" s_is_simple a_is_simple d_is_simple
  m_is_simple : mg "is_simple" = some (.ref a_is_simple)
  b_is_simple : Binds K d_is_simple ["table"] []
  a__law_lot : Addr
  d__law_lot : FuncData
  F__law_lot : Fun K "_law_lot" "_law_lot" s__law_lot a__law_lot d__law_lot
  m__law_lot : mg "_law_lot" = some (.ref a__law_lot)
  b__law_lot : Binds K d__law_lot ["mask"] []
  a__law_table : Addr
  d__law_table : FuncData
  F__law_table : Fun K "_law_table" "_law_table" s__law_table a__law_table d__law_table
  m__law_table : mg "_law_table" = some (.ref a__law_table)
  b__law_table : Binds K d__law_table ["wins"] []
  a__law_alike : Addr
  d__law_alike : FuncData
  F__law_alike : Fun K "_law_alike" "_law_alike" s__law_alike a__law_alike d__law_alike
  m__law_alike : mg "_law_alike" = some (.ref a__law_alike)
  b__law_alike : Binds K d__law_alike ["wins"] []
  a__law_right : Addr
  d__law_right : FuncData
  F__law_right : Fun K "_law_right" "_law_right" s__law_right a__law_right d__law_right
  m__law_right : mg "_law_right" = some (.ref a__law_right)
  b__law_right : Binds K d__law_right ["wins"] []
  a__law_draw : Addr
  d__law_draw : FuncData
  F__law_draw : Fun K "_law_draw" "_law_draw" s__law_draw a__law_draw d__law_draw
  m__law_draw : mg "_law_draw" = some (.ref a__law_draw)
  b__law_draw : Binds K d__law_draw ["feed", "many"] []
  a__law_mixed : Addr
  d__law_mixed : FuncData
  F__law_mixed : Fun K "_law_mixed" "_law_mixed" s__law_mixed a__law_mixed d__law_mixed
  m__law_mixed : mg "_law_mixed" = some (.ref a__law_mixed)
  b__law_mixed : Binds K d__law_mixed ["feed", "things"] []
  a__law_beats : Addr
  d__law_beats : FuncData
  F__law_beats : Fun K "_law_beats" "_law_beats" s__law_beats a__law_beats d__law_beats
  m__law_beats : mg "_law_beats" = some (.ref a__law_beats)
  b__law_beats : Binds K d__law_beats ["feed", "way", "marks", "one", "other"] []
  a__law_wins : Addr
  d__law_wins : FuncData
  F__law_wins : Fun K "_law_wins" "_law_wins" s__law_wins a__law_wins d__law_wins
  m__law_wins : mg "_law_wins" = some (.ref a__law_wins)
  b__law_wins : Binds K d__law_wins ["feed", "least", "most"] []
  a__law_put : Addr
  d__law_put : FuncData
  F__law_put : Fun K "_law_put" "_law_put" s__law_put a__law_put d__law_put
  m__law_put : mg "_law_put" = some (.ref a__law_put)
  b__law_put : Binds K d__law_put ["wins", "parts"] []
  a__law_places : Addr
  d__law_places : FuncData
  F__law_places : Fun K "_law_places" "_law_places" s__law_places a__law_places d__law_places
  m__law_places : mg "_law_places" = some (.ref a__law_places)
  b__law_places : Binds K d__law_places ["feed"] []
  a__law_called : Addr
  d__law_called : FuncData
  F__law_called : Fun K "_law_called" "_law_called" s__law_called a__law_called d__law_called
  m__law_called : mg "_law_called" = some (.ref a__law_called)
  b__law_called : Binds K d__law_called ["wins", "names"] []
  a__law_bare : Addr
  d__law_bare : FuncData
  F__law_bare : Fun K "_law_bare" "_law_bare" s__law_bare a__law_bare d__law_bare
  m__law_bare : mg "_law_bare" = some (.ref a__law_bare)
  b__law_bare : Binds K d__law_bare ["feed"] []
  a_law : Addr
  d_law : FuncData
  F_law : Fun K "law" "law" s_law a_law d_law
  m_law : mg "law" = some (.ref a_law)
  b_law : Binds K d_law ["script"] []
  kb_firm_lots_0 : KB K d_firm_lots ["table"] ["table"] [0]
  kb_is_simple_1 : KB K d_is_simple ["table"] ["table"] [0]
  kb_alike_lots_2 : KB K d_alike_lots ["table"] ["table"] [0]
  z_all : mg "all" = none
  z_any : mg "any" = none
  z_bool : mg "bool" = none
  z_enumerate : mg "enumerate" = none
  z_int : mg "int" = none
  z_isinstance : mg "isinstance" = none
  z_len : mg "len" = none
  z_list : mg "list" = none
  z_max : mg "max" = none
  z_min : mg "min" = none
  z_range : mg "range" = none
  z_sorted : mg "sorted" = none
  z_str : mg "str" = none
  z_sum : mg "sum" = none
  z_tuple : mg "tuple" = none
  z_zip : mg "zip" = none
  g_MOST_PLAYERS : ∃ t, mg "MOST_PLAYERS" = some (.int 8 t)
section
variable {P : Program} {w : World} {K : PySem.W.Frag} {mg : Str → Option Value} {base : Heap}
theorem ok__law_same_at (fx : Fx K mg) : ∀ n, FnOk P w K mg base (L2.CX P w) (0 + n) fx.a__law_same fx.d__law_same ["told", "due"] (spOf ⟨K, mg⟩ 2 (F__law_same_at n))
  | 0 => spOf_none
  | n + 1 => by
    have ih := ok__law_same_at fx n
    have hself := F__law_same_at_len n
    exact v_fnN (np := 2) (ns := 3) (N := ["told", "due", "at"]) (pr := [0, 1]) (d := D__law_same (F__law_same_at n)) fx.F__law_same sc__law_same rfl rfl (by decide) fun cdv A outer s H E hr tk hp =>
      (v_seq (v_ifs (v_tst (v_isiT (Ts := ["list", "tuple"]) (by rfl) fx.z_isinstance (v_tycons (T' := "list") (by rfl) fx.z_list bt_list (v_tycons (T' := "tuple") (by rfl) fx.z_tuple bt_tuple v_tynil)) (by decide) (by decide) (v_var (i := 1) (by rfl) (by exact .inr (.inl rfl))))) (v_seq (v_ifs (VW.vt (v_or (v_not (v_tst (v_isiT (Ts := ["list", "tuple"]) (by rfl) fx.z_isinstance (v_tycons (T' := "list") (by rfl) fx.z_list bt_list (v_tycons (T' := "tuple") (by rfl) fx.z_tuple bt_tuple v_tynil)) (by decide) (by decide) (v_var (i := 0) (by rfl) (by exact .inr (.inl rfl)))))) (v_or (v_tcmp (op_neD (hu64 hr)) p2_ne (v_isi (T' := "list") (by rfl) fx.z_isinstance (by rfl) fx.z_list bt_list (by decide) (v_var (i := 0) (by rfl) (by exact .inr (.inl rfl)))) (v_isi (T' := "list") (by rfl) fx.z_isinstance (by rfl) fx.z_list bt_list (by decide) (v_var (i := 1) (by rfl) (by exact .inr (.inl rfl)))) rfl gNe_bl) (v_or1 (v_tcmp (op_neD (hu64 hr)) p2_ne (v_blt call_len_seq pn_len (by rfl) fx.z_len bt_len (v_cons (v_var (i := 0) (by rfl) (by exact .inr (.inl rfl))) v_nil)) (v_blt call_len_seq pn_len (by rfl) fx.z_len bt_len (v_cons (v_var (i := 1) (by rfl) (by exact .inr (.inl rfl))) v_nil)) rfl gNe_bl))))) (v_sone (v_ret v_bl)) v_sdone)
      (v_sone (v_ret (v_cmp (op_eqD (hu64 hr)) p2_eq (v_comp (own := [("at", 2)]) rfl sc__law_same.nd (v_rng1 (by rfl) fx.z_range (v_cons (v_blt call_len_seq pn_len (by rfl) fx.z_len bt_len (v_cons (v_var (i := 1) (by rfl) (by exact .inr (.inl rfl))) v_nil)) v_nil)) (blkOk_by (by kernel_rfl)) (fun _ _ _ _ _ => (v_tgN (i := 2) sc__law_same.nd (by rfl) (by exact .inl rfl))) (fun _ _ _ _ _ => (v_tone (v_not (v_tst (v_pcall ih rfl hr takes0 (by rfl) fx.m__law_same fx.F__law_same.kp fx.b__law_same (v_cons (v_ixP (v_var (i := 0) (by rfl) (by exact .inr (.inl rfl))) (v_var (i := 2) (by rfl) (by exact .inl rfl))) (v_cons (v_ixP (v_var (i := 1) (by rfl) (by exact .inr (.inl rfl))) (v_var (i := 2) (by rfl) (by exact .inl rfl))) v_nil)) hself))))) (fun _ _ _ _ _ => v_int)) (v_lst v_nil) rfl)))) v_sdone)
      (v_seq (v_ifs (VW.vt (v_or (v_tcmp op_isN p2_isN (v_var (i := 1) (by rfl) (by exact .inr (.inl rfl))) v_non rfl gIsN_bl) (v_or1 (v_tst (v_isi (T' := "bool") (by rfl) fx.z_isinstance (by rfl) fx.z_bool bt_bool (by decide) (v_var (i := 1) (by rfl) (by exact .inr (.inl rfl)))))))) (v_sone (v_ret (v_if (v_tcmp op_isN p2_isN (v_var (i := 1) (by rfl) (by exact .inr (.inl rfl))) v_non rfl gIsN_bl) (v_cmp op_isN p2_isN (v_var (i := 0) (by rfl) (by exact .inr (.inl rfl))) v_non rfl) (v_andV (v_isi (T' := "bool") (by rfl) fx.z_isinstance (by rfl) fx.z_bool bt_bool (by decide) (v_var (i := 0) (by rfl) (by exact .inr (.inl rfl)))) (v_one (v_cmp (op_eqD (hu64 hr)) p2_eq (v_var (i := 0) (by rfl) (by exact .inr (.inl rfl))) (v_var (i := 1) (by rfl) (by exact .inr (.inl rfl))) rfl)))))) v_sdone)
      (v_seq (v_ifs (v_tst (v_isi (T' := "str") (by rfl) fx.z_isinstance (by rfl) fx.z_str bt_str (by decide) (v_var (i := 1) (by rfl) (by exact .inr (.inl rfl))))) (v_sone (v_ret (v_andV (v_isi (T' := "str") (by rfl) fx.z_isinstance (by rfl) fx.z_str bt_str (by decide) (v_var (i := 0) (by rfl) (by exact .inr (.inl rfl)))) (v_one (v_cmp (op_eqD (hu64 hr)) p2_eq (v_var (i := 0) (by rfl) (by exact .inr (.inl rfl))) (v_var (i := 1) (by rfl) (by exact .inr (.inl rfl))) rfl))))) v_sdone)
      (v_sone (v_ret (v_andV (v_isi (T' := "int") (by rfl) fx.z_isinstance (by rfl) fx.z_int bt_int (by decide) (v_var (i := 0) (by rfl) (by exact .inr (.inl rfl)))) (v_andV (v_notV (v_isi (T' := "bool") (by rfl) fx.z_isinstance (by rfl) fx.z_bool bt_bool (by decide) (v_var (i := 0) (by rfl) (by exact .inr (.inl rfl))))) (v_one (v_cmp (op_eqD (hu64 hr)) p2_eq (v_var (i := 0) (by rfl) (by exact .inr (.inl rfl))) (v_var (i := 1) (by rfl) (by exact .inr (.inl rfl))) rfl)))))))))
theorem ok__law_same (fx : Fx K mg) : FnOk P w K mg base (L2.CX P w) 8 fx.a__law_same fx.d__law_same ["told", "due"] (spOf ⟨K, mg⟩ 2 F__law_same) := ok__law_same_at fx 8
theorem ok__law_feed (fx : Fx K mg) : FnOk P w K mg base (L2.CX P w) 1 fx.a__law_feed fx.d__law_feed ["script", "k"] (spOf ⟨K, mg⟩ 2 F__law_feed) :=
  show FnOk P w K mg base (L2.CX P w) (0 + 1) fx.a__law_feed fx.d__law_feed ["script", "k"] (spOf ⟨K, mg⟩ 2 (mkFn 2 3 [0, 1] D__law_feed)) from
  v_fnN (k := 0) (np := 2) (ns := 3) (N := ["script", "k", "cell"]) (pr := [0, 1]) (d := D__law_feed) fx.F__law_feed sc__law_feed rfl rfl (by decide) fun cdv A outer s H E hr tk hp =>
    (v_seq (v_set (i := 2) (v_bin o_add p2_add (v_bin o_mulU p2_mulU v_int (v_var (i := 1) (by rfl) (by exact .inl rfl))) (v_bin o_mulU p2_mulU v_int (v_blt (cr_sum rfl) pn_sum (by rfl) fx.z_sum bt_sum (v_cons (v_slice (v_var (i := 0) (by rfl) (by exact .inl rfl)) v_ponone (v_posome v_int)) v_nil)))) sc__law_feed.nd (by rfl) (by exact .inl rfl))
      (v_seq (v_ifs (v_tcmp op_lt p2_lt (v_var (i := 1) (by rfl) (by exact .inl rfl)) (v_blt call_len_seq pn_len (by rfl) fx.z_len bt_len (v_cons (v_var (i := 0) (by rfl) (by exact .inl rfl)) v_nil)) rfl gLt_bl) (v_sone (v_set (i := 2) (v_own (v_ixP (v_var (i := 0) (by rfl) (by exact .inl rfl)) (v_var (i := 1) (by rfl) (by exact .inl rfl)))) sc__law_feed.nd (by rfl) (by exact .inl rfl))) v_sdone)
      (v_sone (v_ret (v_lst (v_cons (v_blt (call_max2 rfl) pn_max2 (by rfl) fx.z_max bt_max (v_cons v_int (v_cons (v_bin op_sub p2_sub (v_var (i := 2) (by rfl) (by exact .inl rfl)) (v_bin op_pow p2_pow v_int v_int)) v_nil))) (v_cons (v_bin op_mod p2_mod (v_blty call_int1 pn_int (by rfl) fx.z_int bt_int (v_cons (v_bin o_add p2_add (v_bin o_add p2_add (v_bin o_mulU p2_mulU (v_var (i := 2) (by rfl) (by exact .inl rfl)) v_int) (v_bin o_mulU p2_mulU v_int (v_var (i := 1) (by rfl) (by exact .inl rfl)))) v_int) v_nil)) (v_bin o_add p2_add (v_bin op_pow p2_pow v_int v_int) v_int)) (v_cons v_int v_nil))))))))
theorem ok_is_tuple_of (fx : Fx K mg) : FnOk P w K mg base (L2.CX P w) 1 fx.a_is_tuple_of fx.d_is_tuple_of ["thing", "least", "most"] (spOf ⟨K, mg⟩ 3 F_is_tuple_of) :=
  show FnOk P w K mg base (L2.CX P w) (0 + 1) fx.a_is_tuple_of fx.d_is_tuple_of ["thing", "least", "most"] (spOf ⟨K, mg⟩ 3 (mkFn 3 3 [0, 1, 2] D_is_tuple_of)) from
  v_fnN (k := 0) (np := 3) (ns := 3) (N := ["thing", "least", "most"]) (pr := [0, 1, 2]) (d := D_is_tuple_of) fx.F_is_tuple_of sc_is_tuple_of rfl rfl (by decide) fun cdv A outer s H E hr tk hp =>
    (v_sone (v_ret (v_andV (v_isi (T' := "tuple") (by rfl) fx.z_isinstance (by rfl) fx.z_tuple bt_tuple (by decide) (v_var (i := 0) (by rfl) (by exact .inl rfl))) (v_one (v_chain op_le op_le (v_var (i := 1) (by rfl) (by exact .inl rfl)) (v_blt call_len_seq pn_len (by rfl) fx.z_len bt_len (v_cons (v_var (i := 0) (by rfl) (by exact .inl rfl)) v_nil)) (v_var (i := 2) (by rfl) (by exact .inl rfl)))))))
theorem ok_is_rising (fx : Fx K mg) : FnOk P w K mg base (L2.CX P w) 1 fx.a_is_rising fx.d_is_rising ["parts"] (spOf ⟨K, mg⟩ 1 F_is_rising) :=
  show FnOk P w K mg base (L2.CX P w) (0 + 1) fx.a_is_rising fx.d_is_rising ["parts"] (spOf ⟨K, mg⟩ 1 (mkFn 1 3 [0] D_is_rising)) from
  v_fnN (k := 0) (np := 1) (ns := 3) (N := ["parts", "one", "other"]) (pr := [0]) (d := D_is_rising) fx.F_is_rising sc_is_rising rfl rfl (by decide) fun cdv A outer s H E hr tk hp =>
    (v_sone (v_ret (v_blt (cr_all rfl) pn_all (by rfl) fx.z_all bt_all (v_cons (v_comp (own := [("one", 1), ("other", 2)]) rfl sc_is_rising.nd (v_zip (by rfl) fx.z_zip (v_cons (v_frz (i := 0) (by rfl) (by exact .inl rfl)) (v_cons (v_slice (v_var (i := 0) (by rfl) (by exact .inl rfl)) (v_posome v_int) v_ponone) v_nil))) (blkOk_by (by kernel_rfl)) (fun _ _ _ _ _ => (v_tgT rfl (v_tgsCons (v_tgN (i := 1) sc_is_rising.nd (by rfl) (by exact .inl rfl)) (v_tgsCons (v_tgN (i := 2) sc_is_rising.nd (by rfl) (by exact .inl rfl)) v_tgsNil)) (tgs_lenS (tgs_lenS tgs_len0)))) (fun _ _ _ _ _ => v_yes) (fun _ _ _ _ _ => (v_cmp op_lt p2_lt (v_var (i := 1) (by rfl) (by exact .inl rfl)) (v_var (i := 2) (by rfl) (by exact .inl rfl)) rfl))) v_nil))))
theorem ok_is_integer (fx : Fx K mg) : FnOk P w K mg base (L2.CX P w) 1 fx.a_is_integer fx.d_is_integer ["thing"] (spOf ⟨K, mg⟩ 1 F_is_integer) :=
  show FnOk P w K mg base (L2.CX P w) (0 + 1) fx.a_is_integer fx.d_is_integer ["thing"] (spOf ⟨K, mg⟩ 1 (mkFn 1 1 [0] D_is_integer)) from
  v_fnN (k := 0) (np := 1) (ns := 1) (N := ["thing"]) (pr := [0]) (d := D_is_integer) fx.F_is_integer sc_is_integer rfl rfl (by decide) fun cdv A outer s H E hr tk hp =>
    (v_sone (v_ret (v_andV (v_isi (T' := "int") (by rfl) fx.z_isinstance (by rfl) fx.z_int bt_int (by decide) (v_var (i := 0) (by rfl) (by exact .inl rfl))) (v_one (v_notV (v_isi (T' := "bool") (by rfl) fx.z_isinstance (by rfl) fx.z_bool bt_bool (by decide) (v_var (i := 0) (by rfl) (by exact .inl rfl))))))))
theorem ok_is_within (fx : Fx K mg) : FnOk P w K mg base (L2.CX P w) 2 fx.a_is_within fx.d_is_within ["thing", "least", "most"] (spOf ⟨K, mg⟩ 3 F_is_within) :=
  show FnOk P w K mg base (L2.CX P w) (1 + 1) fx.a_is_within fx.d_is_within ["thing", "least", "most"] (spOf ⟨K, mg⟩ 3 (mkFn 3 3 [0, 1, 2] D_is_within)) from
  v_fnN (k := 1) (np := 3) (ns := 3) (N := ["thing", "least", "most"]) (pr := [0, 1, 2]) (d := D_is_within) fx.F_is_within sc_is_within rfl rfl (by decide) fun cdv A outer s H E hr tk hp =>
    (v_sone (v_ret (v_andV (v_call ((ok_is_integer (P := P) (w := w) (base := base) fx).mono (by omega)) rfl hr tk (by rfl) fx.m_is_integer fx.F_is_integer.kp fx.b_is_integer (v_glend (i := 0) (by rfl) (by exact .inl rfl) v_gnil) F_is_integer_len) (v_one (v_chain op_le op_le (v_var (i := 1) (by rfl) (by exact .inl rfl)) (v_var (i := 0) (by rfl) (by exact .inl rfl)) (v_var (i := 2) (by rfl) (by exact .inl rfl)))))))
theorem ok_is_lot (fx : Fx K mg) : FnOk P w K mg base (L2.CX P w) 3 fx.a_is_lot fx.d_is_lot ["thing", "many"] (spOf ⟨K, mg⟩ 2 F_is_lot) :=
  show FnOk P w K mg base (L2.CX P w) (2 + 1) fx.a_is_lot fx.d_is_lot ["thing", "many"] (spOf ⟨K, mg⟩ 2 (mkFn 2 3 [0, 1] D_is_lot)) from
  v_fnN (k := 2) (np := 2) (ns := 3) (N := ["thing", "many", "one"]) (pr := [0, 1]) (d := D_is_lot) fx.F_is_lot sc_is_lot rfl rfl (by decide) fun cdv A outer s H E hr tk hp =>
    (v_seq (v_ifs (VW.vt (v_or (v_not (v_tst (v_isi (T' := "tuple") (by rfl) fx.z_isinstance (by rfl) fx.z_tuple bt_tuple (by decide) (v_var (i := 0) (by rfl) (by exact .inl rfl))))) (v_or1 (v_not (v_tst (v_blt (cr_all rfl) pn_all (by rfl) fx.z_all bt_all (v_cons (v_comp (own := [("one", 2)]) rfl sc_is_lot.nd (v_its (v_frz (i := 0) (by rfl) (by exact .inl rfl))) (blkOk_by (by kernel_rfl)) (fun _ _ _ _ _ => (v_tgN (i := 2) sc_is_lot.nd (by rfl) (by exact .inl rfl))) (fun _ _ _ _ _ => v_yes) (fun _ _ _ _ _ => (v_call ((ok_is_within (P := P) (w := w) (base := base) fx).mono (by omega)) rfl hr takes0 (by rfl) fx.m_is_within fx.F_is_within.kp fx.b_is_within (v_glend (i := 2) (by rfl) (by exact .inl rfl) (v_gcons v_int (v_gcons (v_bin op_sub p2_sub (v_var (i := 1) (by rfl) (by exact .inr (.inl rfl))) v_int) v_gnil))) F_is_within_len))) v_nil))))))) (v_sone (v_ret v_bl)) v_sdone)
      (v_sone (v_ret (v_call ((ok_is_rising (P := P) (w := w) (base := base) fx).mono (by omega)) rfl hr tk (by rfl) fx.m_is_rising fx.F_is_rising.kp fx.b_is_rising (v_glend (i := 0) (by rfl) (by exact .inl rfl) v_gnil) F_is_rising_len))))
theorem ok_is_table_form (fx : Fx K mg) : FnOk P w K mg base (L2.CX P w) 4 fx.a_is_table_form fx.d_is_table_form ["thing"] (spOf ⟨K, mg⟩ 1 F_is_table_form) :=
  show FnOk P w K mg base (L2.CX P w) (3 + 1) fx.a_is_table_form fx.d_is_table_form ["thing"] (spOf ⟨K, mg⟩ 1 (mkFn 1 4 [0] D_is_table_form)) from
  v_fnN (k := 3) (np := 1) (ns := 4) (N := ["thing", "one", "other", "some"]) (pr := [0]) (d := D_is_table_form) fx.F_is_table_form sc_is_table_form rfl rfl (by decide) fun cdv A outer s H E hr tk hp =>
    (v_seq (v_ifs (VW.vt (v_or (v_not (v_tst (v_call ((ok_is_tuple_of (P := P) (w := w) (base := base) fx).mono (by omega)) rfl hr tk (by rfl) fx.m_is_tuple_of fx.F_is_tuple_of.kp fx.b_is_tuple_of (v_glend (i := 0) (by rfl) (by exact .inr (.inl rfl)) (v_gcons v_int (v_gcons (v_gint (i := 8) (by rfl) fx.g_MOST_PLAYERS.choose_spec) v_gnil))) F_is_tuple_of_len))) (v_or1 (v_not (v_tst (v_blt (cr_all rfl) pn_all (by rfl) fx.z_all bt_all (v_cons (v_comp (own := [("some", 3)]) rfl sc_is_table_form.nd (v_its (v_frz (i := 0) (by rfl) (by exact .inr (.inl rfl)))) (blkOk_by (by kernel_rfl)) (fun _ _ _ _ _ => (v_tgN (i := 3) sc_is_table_form.nd (by rfl) (by exact .inl rfl))) (fun _ _ _ _ _ => v_yes) (fun _ _ _ _ _ => (v_call ((ok_is_lot (P := P) (w := w) (base := base) fx).mono (by omega)) rfl hr takes0 (by rfl) fx.m_is_lot fx.F_is_lot.kp fx.b_is_lot (v_glend (i := 3) (by rfl) (by exact .inl rfl) (v_gcons (v_blt call_len_seq pn_len (by rfl) fx.z_len bt_len (v_cons (v_var (i := 0) (by rfl) (by exact .inr (.inl rfl))) v_nil)) v_gnil)) F_is_lot_len))) v_nil))))))) (v_sone (v_ret v_bl)) v_sdone)
      (v_seq (v_for (wr := [1]) hp rfl (v_rng1 (by rfl) fx.z_range (v_cons (v_blt call_len_seq pn_len (by rfl) fx.z_len bt_len (v_cons (v_var (i := 0) (by rfl) (by exact .inr (.inl rfl))) v_nil)) v_nil)) (v_tgN (i := 1) sc_is_table_form.nd (by rfl) (by exact .inl rfl)) (v_seq (v_ifs (v_tcmp op_in_seq p2_in (v_var (i := 1) (by rfl) (by exact .inl rfl)) (v_ixP (v_var (i := 0) (by rfl) (by exact .inr (.inl rfl))) (v_var (i := 1) (by rfl) (by exact .inl rfl))) rfl gIn_bl) (v_sone (v_ret v_bl)) v_sdone)
      (v_sone (v_for (wr := [2]) hp rfl (v_rng2 (by rfl) fx.z_range (v_cons (v_bin o_add p2_add (v_var (i := 1) (by rfl) (by exact .inl rfl)) v_int) (v_cons (v_blt call_len_seq pn_len (by rfl) fx.z_len bt_len (v_cons (v_var (i := 0) (by rfl) (by exact .inr (.inl rfl))) v_nil)) v_nil))) (v_tgN (i := 2) sc_is_table_form.nd (by rfl) (by exact .inl rfl)) (v_sone (v_ifs (v_tcmp (op_eqD (hu64 hr)) p2_eq (v_cmp op_in_seq p2_in (v_var (i := 2) (by rfl) (by exact .inl rfl)) (v_ixP (v_var (i := 0) (by rfl) (by exact .inr (.inl rfl))) (v_var (i := 1) (by rfl) (by exact .inl rfl))) rfl) (v_cmp op_in_seq p2_in (v_var (i := 1) (by rfl) (by exact .inl rfl)) (v_ixP (v_var (i := 0) (by rfl) (by exact .inr (.inl rfl))) (v_var (i := 2) (by rfl) (by exact .inl rfl))) rfl) rfl gEq_bl) (v_sone (v_ret v_bl)) v_sdone))))))
      (v_sone (v_ret v_bl))))
theorem ok_need_table (fx : Fx K mg) : FnOk P w K mg base (L2.CX P w) 5 fx.a_need_table fx.d_need_table ["table"] (spOf ⟨K, mg⟩ 1 F_need_table) :=
  show FnOk P w K mg base (L2.CX P w) (4 + 1) fx.a_need_table fx.d_need_table ["table"] (spOf ⟨K, mg⟩ 1 (mkFn 1 1 [0] D_need_table)) from
  v_fnN (k := 4) (np := 1) (ns := 1) (N := ["table"]) (pr := [0]) (d := D_need_table) fx.F_need_table sc_need_table rfl rfl (by decide) fun cdv A outer s H E hr tk hp =>
    (v_sone (v_ifs (v_not (v_tst (v_call ((ok_is_table_form (P := P) (w := w) (base := base) fx).mono (by omega)) rfl hr tk (by rfl) fx.m_is_table_form fx.F_is_table_form.kp fx.b_is_table_form (v_glend (i := 0) (by rfl) (by exact .inl rfl) v_gnil) F_is_table_form_len))) (v_sone v_never) v_sdone))
theorem ok_lot_by (fx : Fx K mg) : FnOk P w K mg base (L2.CX P w) 1 fx.a_lot_by fx.d_lot_by ["mask"] (spOf ⟨K, mg⟩ 1 F_lot_by) :=
  show FnOk P w K mg base (L2.CX P w) (0 + 1) fx.a_lot_by fx.d_lot_by ["mask"] (spOf ⟨K, mg⟩ 1 (mkFn 1 3 [0] D_lot_by)) from
  v_fnN (k := 0) (np := 1) (ns := 3) (N := ["mask", "found", "player"]) (pr := [0]) (d := D_lot_by) fx.F_lot_by sc_lot_by rfl rfl (by decide) fun cdv A outer s H E hr tk hp =>
    (v_seq (v_par2 (i := 1) (j := 2) rfl sc_lot_by.nd (v_cons (v_lst v_nil) (v_cons v_int v_nil)) rfl rfl (by decide) rfl rfl rfl)
      (v_seq (v_while hp (v_tcmp op_gt p2_gt (v_bin op_shr p2_shr (v_var (i := 0) (by rfl) (by exact .inl rfl)) (v_var (i := 2) (by rfl) (by exact .inl rfl))) v_int rfl gGt_bl) (v_seq (v_ifs (v_tcmp (op_eqD (hu64 hr)) p2_eq (v_bin op_and p2_band (v_bin op_shr p2_shr (v_var (i := 0) (by rfl) (by exact .inl rfl)) (v_var (i := 2) (by rfl) (by exact .inl rfl))) v_int) v_int rfl gEq_bl) (v_sone (v_do (v_mut PySem.F.slot_list_append PySem.F.type_list_append mt_append mr_append (v_p0 (i := 1) (by rfl) (by exact .inl rfl)) (v_cons (v_frz (i := 2) (by rfl) (by exact .inl rfl)) v_nil)))) v_sdone)
      (v_sone (v_aug (i := 2) ip_add p2_ipadd v_int sc_lot_by.nd (by rfl) (by exact .inl rfl)))))
      (v_sone (v_ret (v_blty call_tuple_of pn_tuple (by rfl) fx.z_tuple bt_tuple (v_cons (v_var (i := 1) (by rfl) (by exact .inl rfl)) v_nil))))))
theorem ok_lots_of (fx : Fx K mg) : FnOk P w K mg base (L2.CX P w) 2 fx.a_lots_of fx.d_lots_of ["masks"] (spOf ⟨K, mg⟩ 1 F_lots_of) :=
  show FnOk P w K mg base (L2.CX P w) (1 + 1) fx.a_lots_of fx.d_lots_of ["masks"] (spOf ⟨K, mg⟩ 1 (mkFn 1 2 [0] D_lots_of)) from
  v_fnN (k := 1) (np := 1) (ns := 2) (N := ["masks", "mask"]) (pr := [0]) (d := D_lots_of) fx.F_lots_of sc_lots_of rfl rfl (by decide) fun cdv A outer s H E hr tk hp =>
    (v_sone (v_ret (v_blt (cr_sortU (hu64 hr)) pn_sortU (by rfl) fx.z_sorted bt_sorted (v_cons (v_comp (own := [("mask", 1)]) rfl sc_lots_of.nd (v_its (v_frz (i := 0) (by rfl) (by exact .inl rfl))) (blkOk_by (by kernel_rfl)) (fun _ _ _ _ _ => (v_tgN (i := 1) sc_lots_of.nd (by rfl) (by exact .inl rfl))) (fun _ _ _ _ _ => v_yes) (fun _ _ _ _ _ => (v_call ((ok_lot_by (P := P) (w := w) (base := base) fx).mono (by omega)) rfl hr takes0 (by rfl) fx.m_lot_by fx.F_lot_by.kp fx.b_lot_by (v_glend (i := 1) (by rfl) (by exact .inl rfl) v_gnil) F_lot_by_len))) v_nil))))
theorem ok_masks_of (fx : Fx K mg) : FnOk P w K mg base (L2.CX P w) 1 fx.a_masks_of fx.d_masks_of ["table"] (spOf ⟨K, mg⟩ 1 F_masks_of) :=
  show FnOk P w K mg base (L2.CX P w) (0 + 1) fx.a_masks_of fx.d_masks_of ["table"] (spOf ⟨K, mg⟩ 1 (mkFn 1 3 [0] D_masks_of)) from
  v_fnN (k := 0) (np := 1) (ns := 3) (N := ["table", "some", "other"]) (pr := [0]) (d := D_masks_of) fx.F_masks_of sc_masks_of rfl rfl (by decide) fun cdv A outer s H E hr tk hp =>
    (v_sone (v_ret (v_blty call_tuple_of pn_tuple (by rfl) fx.z_tuple bt_tuple (v_cons (v_comp (own := [("some", 1)]) rfl sc_masks_of.nd (v_its (v_frz (i := 0) (by rfl) (by exact .inl rfl))) (blkOk_by (by kernel_rfl)) (fun _ _ _ _ _ => (v_tgN (i := 1) sc_masks_of.nd (by rfl) (by exact .inl rfl))) (fun _ _ _ _ _ => v_yes) (fun _ _ _ _ _ => (v_blt (cr_sum rfl) pn_sum (by rfl) fx.z_sum bt_sum (v_cons (v_comp (own := [("other", 2)]) rfl sc_masks_of.nd (v_its (v_frz (i := 1) (by rfl) (by exact .inl rfl))) (blkOk_by (by kernel_rfl)) (fun _ _ _ _ _ => (v_tgN (i := 2) sc_masks_of.nd (by rfl) (by exact .inl rfl))) (fun _ _ _ _ _ => v_yes) (fun _ _ _ _ _ => (v_bin op_shlW p2_shl v_int (v_var (i := 2) (by rfl) (by exact .inl rfl))))) v_nil)))) v_nil))))
theorem ok_is_alike_mask (fx : Fx K mg) : FnOk P w K mg base (L2.CX P w) 1 fx.a_is_alike_mask fx.d_is_alike_mask ["masks", "mask"] (spOf ⟨K, mg⟩ 2 F_is_alike_mask) :=
  show FnOk P w K mg base (L2.CX P w) (0 + 1) fx.a_is_alike_mask fx.d_is_alike_mask ["masks", "mask"] (spOf ⟨K, mg⟩ 2 (mkFn 2 4 [0, 1] D_is_alike_mask)) from
  v_fnN (k := 0) (np := 2) (ns := 4) (N := ["masks", "mask", "player", "wins"]) (pr := [0, 1]) (d := D_is_alike_mask) fx.F_is_alike_mask sc_is_alike_mask rfl rfl (by decide) fun cdv A outer s H E hr tk hp =>
    (v_seq (v_for (wr := [2, 3]) hp rfl (v_en (by rfl) fx.z_enumerate (v_cons (v_frz (i := 0) (by rfl) (by exact .inl rfl)) v_nil)) (v_tgT rfl (v_tgsCons (v_tgN (i := 2) sc_is_alike_mask.nd (by rfl) (by exact .inl rfl)) (v_tgsCons (v_tgN (i := 3) sc_is_alike_mask.nd (by rfl) (by exact .inl rfl)) v_tgsNil)) (tgs_lenS (tgs_lenS tgs_len0))) (v_sone (v_ifs (VW.vt (v_and (v_tcmp (op_eqD (hu64 hr)) p2_eq (v_bin op_and p2_band (v_bin op_shr p2_shr (v_var (i := 1) (by rfl) (by exact .inl rfl)) (v_var (i := 2) (by rfl) (by exact .inl rfl))) v_int) v_int rfl gEq_bl) (v_and1 (v_tcmp op_notIn_seq p2_in (v_bin op_and p2_band (v_var (i := 3) (by rfl) (by exact .inl rfl)) (v_var (i := 1) (by rfl) (by exact .inl rfl))) (v_tup (v_cons v_int (v_cons (v_frz (i := 1) (by rfl) (by exact .inl rfl)) v_nil))) rfl gIn_bl)))) (v_sone (v_ret v_bl)) v_sdone)))
      (v_sone (v_ret v_bl)))
theorem ok_alike_masks (fx : Fx K mg) : FnOk P w K mg base (L2.CX P w) 2 fx.a_alike_masks fx.d_alike_masks ["table"] (spOf ⟨K, mg⟩ 1 F_alike_masks) :=
  show FnOk P w K mg base (L2.CX P w) (1 + 1) fx.a_alike_masks fx.d_alike_masks ["table"] (spOf ⟨K, mg⟩ 1 (mkFn 1 3 [0] D_alike_masks)) from
  v_fnN (k := 1) (np := 1) (ns := 3) (N := ["table", "masks", "mask"]) (pr := [0]) (d := D_alike_masks) fx.F_alike_masks sc_alike_masks rfl rfl (by decide) fun cdv A outer s H E hr tk hp =>
    (v_seq (v_set (i := 1) (v_call ((ok_masks_of (P := P) (w := w) (base := base) fx).mono (by omega)) rfl hr tk (by rfl) fx.m_masks_of fx.F_masks_of.kp fx.b_masks_of (v_glend (i := 0) (by rfl) (by exact .inl rfl) v_gnil) F_masks_of_len) sc_alike_masks.nd (by rfl) (by exact .inr rfl))
      (v_sone (v_ret (v_comp (own := [("mask", 2)]) rfl sc_alike_masks.nd (v_rng2 (by rfl) fx.z_range (v_cons v_int (v_cons (v_bin op_shlW p2_shl v_int (v_blt call_len_seq pn_len (by rfl) fx.z_len bt_len (v_cons (v_var (i := 0) (by rfl) (by exact .inl rfl)) v_nil))) v_nil))) (blkOk_by (by kernel_rfl)) (fun _ _ _ _ _ => (v_tgN (i := 2) sc_alike_masks.nd (by rfl) (by exact .inl rfl))) (fun _ _ _ _ _ => (v_tone (v_tst (v_call ((ok_is_alike_mask (P := P) (w := w) (base := base) fx).mono (by omega)) rfl hr takes0 (by rfl) fx.m_is_alike_mask fx.F_is_alike_mask.kp fx.b_is_alike_mask (v_glend (i := 1) (by rfl) (by exact .inr (.inl rfl)) (v_glend (i := 2) (by rfl) (by exact .inl rfl) v_gnil)) F_is_alike_mask_len)))) (fun _ _ _ _ _ => (v_frz (i := 2) (by rfl) (by exact .inl rfl)))))))
theorem ok_alike_lots (fx : Fx K mg) : FnOk P w K mg base (L2.CX P w) 6 fx.a_alike_lots fx.d_alike_lots ["table"] (spOf ⟨K, mg⟩ 1 F_alike_lots) :=
  show FnOk P w K mg base (L2.CX P w) (5 + 1) fx.a_alike_lots fx.d_alike_lots ["table"] (spOf ⟨K, mg⟩ 1 (mkFn 1 1 [0] D_alike_lots)) from
  v_fnN (k := 5) (np := 1) (ns := 1) (N := ["table"]) (pr := [0]) (d := D_alike_lots) fx.F_alike_lots sc_alike_lots rfl rfl (by decide) fun cdv A outer s H E hr tk hp =>
    (v_seq (v_do (v_call ((ok_need_table (P := P) (w := w) (base := base) fx).mono (by omega)) rfl hr tk (by rfl) fx.m_need_table fx.F_need_table.kp fx.b_need_table (v_glend (i := 0) (by rfl) (by exact .inl rfl) v_gnil) F_need_table_len))
      (v_sone (v_ret (v_call ((ok_lots_of (P := P) (w := w) (base := base) fx).mono (by omega)) rfl hr tk (by rfl) fx.m_lots_of fx.F_lots_of.kp fx.b_lots_of (v_gcons (v_call ((ok_alike_masks (P := P) (w := w) (base := base) fx).mono (by omega)) rfl hr tk (by rfl) fx.m_alike_masks fx.F_alike_masks.kp fx.b_alike_masks (v_glend (i := 0) (by rfl) (by exact .inl rfl) v_gnil) F_alike_masks_len) v_gnil) F_lots_of_len))))
theorem ok_do_cross (fx : Fx K mg) : FnOk P w K mg base (L2.CX P w) 1 fx.a_do_cross fx.d_do_cross ["one", "other"] (spOf ⟨K, mg⟩ 2 F_do_cross) :=
  show FnOk P w K mg base (L2.CX P w) (0 + 1) fx.a_do_cross fx.d_do_cross ["one", "other"] (spOf ⟨K, mg⟩ 2 (mkFn 2 3 [0, 1] D_do_cross)) from
  v_fnN (k := 0) (np := 2) (ns := 3) (N := ["one", "other", "shared"]) (pr := [0, 1]) (d := D_do_cross) fx.F_do_cross sc_do_cross rfl rfl (by decide) fun cdv A outer s H E hr tk hp =>
    (v_seq (v_set (i := 2) (v_bin op_and p2_band (v_var (i := 0) (by rfl) (by exact .inl rfl)) (v_var (i := 1) (by rfl) (by exact .inl rfl))) sc_do_cross.nd (by rfl) (by exact .inl rfl))
      (v_sone (v_ret (v_cmp op_notIn_seq p2_in (v_var (i := 2) (by rfl) (by exact .inl rfl)) (v_tup (v_cons v_int (v_cons (v_frz (i := 0) (by rfl) (by exact .inl rfl)) (v_cons (v_frz (i := 1) (by rfl) (by exact .inl rfl)) v_nil)))) rfl))))
theorem ok_firm_masks (fx : Fx K mg) : FnOk P w K mg base (L2.CX P w) 3 fx.a_firm_masks fx.d_firm_masks ["table"] (spOf ⟨K, mg⟩ 1 F_firm_masks) :=
  show FnOk P w K mg base (L2.CX P w) (2 + 1) fx.a_firm_masks fx.d_firm_masks ["table"] (spOf ⟨K, mg⟩ 1 (mkFn 1 4 [0] D_firm_masks)) from
  v_fnN (k := 2) (np := 1) (ns := 4) (N := ["table", "some", "one", "other"]) (pr := [0]) (d := D_firm_masks) fx.F_firm_masks sc_firm_masks rfl rfl (by decide) fun cdv A outer s H E hr tk hp =>
    (v_seq (v_set (i := 1) (v_call ((ok_alike_masks (P := P) (w := w) (base := base) fx).mono (by omega)) rfl hr tk (by rfl) fx.m_alike_masks fx.F_alike_masks.kp fx.b_alike_masks (v_glend (i := 0) (by rfl) (by exact .inl rfl) v_gnil) F_alike_masks_len) sc_firm_masks.nd (by rfl) (by exact .inr rfl))
      (v_sone (v_ret (v_comp (own := [("one", 2)]) rfl sc_firm_masks.nd (v_its (v_frz (i := 1) (by rfl) (by exact .inr (.inl rfl)))) (blkOk_by (by kernel_rfl)) (fun _ _ _ _ _ => (v_tgN (i := 2) sc_firm_masks.nd (by rfl) (by exact .inr rfl))) (fun _ _ _ _ _ => (v_tone (v_not (v_tst (v_blt (cr_any rfl) pn_any (by rfl) fx.z_any bt_any (v_cons (v_comp (own := [("other", 3)]) rfl sc_firm_masks.nd (v_its (v_frz (i := 1) (by rfl) (by exact .inr (.inl rfl)))) (blkOk_by (by kernel_rfl)) (fun _ _ _ _ _ => (v_tgN (i := 3) sc_firm_masks.nd (by rfl) (by exact .inl rfl))) (fun _ _ _ _ _ => v_yes) (fun _ _ _ _ _ => (v_call ((ok_do_cross (P := P) (w := w) (base := base) fx).mono (by omega)) rfl hr takes0 (by rfl) fx.m_do_cross fx.F_do_cross.kp fx.b_do_cross (v_glend (i := 2) (by rfl) (by exact .inr (.inl rfl)) (v_glend (i := 3) (by rfl) (by exact .inl rfl) v_gnil)) F_do_cross_len))) v_nil)))))) (fun _ _ _ _ _ => (v_frz (i := 2) (by rfl) (by exact .inr (.inl rfl))))))))
theorem ok_firm_lots (fx : Fx K mg) : FnOk P w K mg base (L2.CX P w) 6 fx.a_firm_lots fx.d_firm_lots ["table"] (spOf ⟨K, mg⟩ 1 F_firm_lots) :=
  show FnOk P w K mg base (L2.CX P w) (5 + 1) fx.a_firm_lots fx.d_firm_lots ["table"] (spOf ⟨K, mg⟩ 1 (mkFn 1 1 [0] D_firm_lots)) from
  v_fnN (k := 5) (np := 1) (ns := 1) (N := ["table"]) (pr := [0]) (d := D_firm_lots) fx.F_firm_lots sc_firm_lots rfl rfl (by decide) fun cdv A outer s H E hr tk hp =>
    (v_seq (v_do (v_call ((ok_need_table (P := P) (w := w) (base := base) fx).mono (by omega)) rfl hr tk (by rfl) fx.m_need_table fx.F_need_table.kp fx.b_need_table (v_glend (i := 0) (by rfl) (by exact .inl rfl) v_gnil) F_need_table_len))
      (v_sone (v_ret (v_call ((ok_lots_of (P := P) (w := w) (base := base) fx).mono (by omega)) rfl hr tk (by rfl) fx.m_lots_of fx.F_lots_of.kp fx.b_lots_of (v_gcons (v_call ((ok_firm_masks (P := P) (w := w) (base := base) fx).mono (by omega)) rfl hr tk (by rfl) fx.m_firm_masks fx.F_firm_masks.kp fx.b_firm_masks (v_glend (i := 0) (by rfl) (by exact .inl rfl) v_gnil) F_firm_masks_len) v_gnil) F_lots_of_len))))
theorem ok_bits_in (fx : Fx K mg) : FnOk P w K mg base (L2.CX P w) 2 fx.a_bits_in fx.d_bits_in ["mask"] (spOf ⟨K, mg⟩ 1 F_bits_in) :=
  show FnOk P w K mg base (L2.CX P w) (1 + 1) fx.a_bits_in fx.d_bits_in ["mask"] (spOf ⟨K, mg⟩ 1 (mkFn 1 1 [0] D_bits_in)) from
  v_fnN (k := 1) (np := 1) (ns := 1) (N := ["mask"]) (pr := [0]) (d := D_bits_in) fx.F_bits_in sc_bits_in rfl rfl (by decide) fun cdv A outer s H E hr tk hp =>
    (v_sone (v_ret (v_blt call_len_seq pn_len (by rfl) fx.z_len bt_len (v_cons (v_call ((ok_lot_by (P := P) (w := w) (base := base) fx).mono (by omega)) rfl hr tk (by rfl) fx.m_lot_by fx.F_lot_by.kp fx.b_lot_by (v_glend (i := 0) (by rfl) (by exact .inl rfl) v_gnil) F_lot_by_len) v_nil))))
theorem ok_is_simple_form (fx : Fx K mg) : FnOk P w K mg base (L2.CX P w) 3 fx.a_is_simple_form fx.d_is_simple_form ["table"] (spOf ⟨K, mg⟩ 1 F_is_simple_form) :=
  show FnOk P w K mg base (L2.CX P w) (2 + 1) fx.a_is_simple_form fx.d_is_simple_form ["table"] (spOf ⟨K, mg⟩ 1 (mkFn 1 2 [0] D_is_simple_form)) from
  v_fnN (k := 2) (np := 1) (ns := 2) (N := ["table", "mask"]) (pr := [0]) (d := D_is_simple_form) fx.F_is_simple_form sc_is_simple_form rfl rfl (by decide) fun cdv A outer s H E hr tk hp =>
    (v_seq (v_ifs (v_tcmp op_lt p2_lt (v_blt call_len_seq pn_len (by rfl) fx.z_len bt_len (v_cons (v_var (i := 0) (by rfl) (by exact .inr (.inl rfl))) v_nil)) v_int rfl gLt_bl) (v_sone (v_ret v_bl)) v_sdone)
      (v_sone (v_ret (v_blt (cr_all rfl) pn_all (by rfl) fx.z_all bt_all (v_cons (v_comp (own := [("mask", 1)]) rfl sc_is_simple_form.nd (v_its (v_call ((ok_alike_masks (P := P) (w := w) (base := base) fx).mono (by omega)) rfl hr tk (by rfl) fx.m_alike_masks fx.F_alike_masks.kp fx.b_alike_masks (v_glend (i := 0) (by rfl) (by exact .inr (.inl rfl)) v_gnil) F_alike_masks_len)) (blkOk_by (by kernel_rfl)) (fun _ _ _ _ _ => (v_tgN (i := 1) sc_is_simple_form.nd (by rfl) (by exact .inl rfl))) (fun _ _ _ _ _ => v_yes) (fun _ _ _ _ _ => (v_cmp (op_inU (hu65 hr)) p2_inU (v_call ((ok_bits_in (P := P) (w := w) (base := base) fx).mono (by omega)) rfl hr takes0 (by rfl) fx.m_bits_in fx.F_bits_in.kp fx.b_bits_in (v_glend (i := 1) (by rfl) (by exact .inl rfl) v_gnil) F_bits_in_len) (v_tup (v_cons v_int (v_cons (v_blt call_len_seq pn_len (by rfl) fx.z_len bt_len (v_cons (v_var (i := 0) (by rfl) (by exact .inr (.inl rfl))) v_nil)) v_nil))) rfl))) v_nil)))))
theorem ok_is_simple (fx : Fx K mg) : FnOk P w K mg base (L2.CX P w) 6 fx.a_is_simple fx.d_is_simple ["table"] (spOf ⟨K, mg⟩ 1 F_is_simple) :=
  show FnOk P w K mg base (L2.CX P w) (5 + 1) fx.a_is_simple fx.d_is_simple ["table"] (spOf ⟨K, mg⟩ 1 (mkFn 1 1 [0] D_is_simple)) from
  v_fnN (k := 5) (np := 1) (ns := 1) (N := ["table"]) (pr := [0]) (d := D_is_simple) fx.F_is_simple sc_is_simple rfl rfl (by decide) fun cdv A outer s H E hr tk hp =>
    (v_seq (v_do (v_call ((ok_need_table (P := P) (w := w) (base := base) fx).mono (by omega)) rfl hr tk (by rfl) fx.m_need_table fx.F_need_table.kp fx.b_need_table (v_glend (i := 0) (by rfl) (by exact .inl rfl) v_gnil) F_need_table_len))
      (v_sone (v_ret (v_call ((ok_is_simple_form (P := P) (w := w) (base := base) fx).mono (by omega)) rfl hr tk (by rfl) fx.m_is_simple_form fx.F_is_simple_form.kp fx.b_is_simple_form (v_glend (i := 0) (by rfl) (by exact .inl rfl) v_gnil) F_is_simple_form_len))))
theorem ok__law_lot (fx : Fx K mg) : FnOk P w K mg base (L2.CX P w) 1 fx.a__law_lot fx.d__law_lot ["mask"] (spOf ⟨K, mg⟩ 1 F__law_lot) :=
  show FnOk P w K mg base (L2.CX P w) (0 + 1) fx.a__law_lot fx.d__law_lot ["mask"] (spOf ⟨K, mg⟩ 1 (mkFn 1 2 [0] D__law_lot)) from
  v_fnN (k := 0) (np := 1) (ns := 2) (N := ["mask", "player"]) (pr := [0]) (d := D__law_lot) fx.F__law_lot sc__law_lot rfl rfl (by decide) fun cdv A outer s H E hr tk hp =>
    (v_sone (v_ret (v_blty call_tuple_of pn_tuple (by rfl) fx.z_tuple bt_tuple (v_cons (v_comp (own := [("player", 1)]) rfl sc__law_lot.nd (v_rng1 (by rfl) fx.z_range (v_cons v_int v_nil)) (blkOk_by (by kernel_rfl)) (fun _ _ _ _ _ => (v_tgN (i := 1) sc__law_lot.nd (by rfl) (by exact .inl rfl))) (fun _ _ _ _ _ => (v_tone (v_tcmp (op_eqD (hu64 hr)) p2_eq (v_bin op_and p2_band (v_bin op_shr p2_shr (v_var (i := 0) (by rfl) (by exact .inr (.inl rfl))) (v_var (i := 1) (by rfl) (by exact .inl rfl))) v_int) v_int rfl gEq_bl))) (fun _ _ _ _ _ => (v_frz (i := 1) (by rfl) (by exact .inl rfl)))) v_nil))))
theorem ok__law_table (fx : Fx K mg) : FnOk P w K mg base (L2.CX P w) 2 fx.a__law_table fx.d__law_table ["wins"] (spOf ⟨K, mg⟩ 1 F__law_table) :=
  show FnOk P w K mg base (L2.CX P w) (1 + 1) fx.a__law_table fx.d__law_table ["wins"] (spOf ⟨K, mg⟩ 1 (mkFn 1 2 [0] D__law_table)) from
  v_fnN (k := 1) (np := 1) (ns := 2) (N := ["wins", "mask"]) (pr := [0]) (d := D__law_table) fx.F__law_table sc__law_table rfl rfl (by decide) fun cdv A outer s H E hr tk hp =>
    (v_sone (v_ret (v_blty call_tuple_of pn_tuple (by rfl) fx.z_tuple bt_tuple (v_cons (v_comp (own := [("mask", 1)]) rfl sc__law_table.nd (v_its (v_frz (i := 0) (by rfl) (by exact .inl rfl))) (blkOk_by (by kernel_rfl)) (fun _ _ _ _ _ => (v_tgN (i := 1) sc__law_table.nd (by rfl) (by exact .inl rfl))) (fun _ _ _ _ _ => v_yes) (fun _ _ _ _ _ => (v_call ((ok__law_lot (P := P) (w := w) (base := base) fx).mono (by omega)) rfl hr takes0 (by rfl) fx.m__law_lot fx.F__law_lot.kp fx.b__law_lot (v_glend (i := 1) (by rfl) (by exact .inl rfl) v_gnil) F__law_lot_len))) v_nil))))
theorem ok__law_alike (fx : Fx K mg) : FnOk P w K mg base (L2.CX P w) 1 fx.a__law_alike fx.d__law_alike ["wins"] (spOf ⟨K, mg⟩ 1 F__law_alike) :=
  show FnOk P w K mg base (L2.CX P w) (0 + 1) fx.a__law_alike fx.d__law_alike ["wins"] (spOf ⟨K, mg⟩ 1 (mkFn 1 5 [0] D__law_alike)) from
  v_fnN (k := 0) (np := 1) (ns := 5) (N := ["wins", "many", "found", "mask", "player"]) (pr := [0]) (d := D__law_alike) fx.F__law_alike sc__law_alike rfl rfl (by decide) fun cdv A outer s H E hr tk hp =>
    (v_seq (v_par2 (i := 1) (j := 2) rfl sc__law_alike.nd (v_cons (v_blt call_len_seq pn_len (by rfl) fx.z_len bt_len (v_cons (v_var (i := 0) (by rfl) (by exact .inr (.inl rfl))) v_nil)) (v_cons (v_lst v_nil) v_nil)) rfl rfl (by decide) rfl rfl rfl)
      (v_seq (v_for (wr := [3]) hp rfl (v_rng2 (by rfl) fx.z_range (v_cons v_int (v_cons (v_bin op_shlW p2_shl v_int (v_var (i := 1) (by rfl) (by exact .inl rfl))) v_nil))) (v_tgN (i := 3) sc__law_alike.nd (by rfl) (by exact .inr rfl)) (v_sone (v_ifs (v_tcmp (op_eqD (hu64 hr)) p2_eq (v_comp (own := [("player", 4)]) rfl sc__law_alike.nd (v_rng1 (by rfl) fx.z_range (v_cons (v_var (i := 1) (by rfl) (by exact .inl rfl)) v_nil)) (blkOk_by (by kernel_rfl)) (fun _ _ _ _ _ => (v_tgN (i := 4) sc__law_alike.nd (by rfl) (by exact .inl rfl))) (fun _ _ _ _ _ => (v_tone (VW.vt (v_and (v_tcmp (op_eqD (hu64 hr)) p2_eq (v_bin op_and p2_band (v_bin op_shr p2_shr (v_var (i := 3) (by rfl) (by exact .inr (.inl rfl))) (v_var (i := 4) (by rfl) (by exact .inl rfl))) v_int) v_int rfl gEq_bl) (v_and1 (v_tcmp op_notIn_seq p2_in (v_bin op_and p2_band (v_ixP (v_var (i := 0) (by rfl) (by exact .inr (.inl rfl))) (v_var (i := 4) (by rfl) (by exact .inl rfl))) (v_var (i := 3) (by rfl) (by exact .inr (.inl rfl)))) (v_tup (v_cons v_int (v_cons (v_frz (i := 3) (by rfl) (by exact .inr (.inl rfl))) v_nil))) rfl gIn_bl)))))) (fun _ _ _ _ _ => v_int)) (v_lst v_nil) rfl gEq_bl) (v_sone (v_do (v_mut PySem.F.slot_list_append PySem.F.type_list_append mt_append mr_append (v_p0 (i := 2) (by rfl) (by exact .inl rfl)) (v_cons (v_frz (i := 3) (by rfl) (by exact .inr (.inl rfl))) v_nil)))) v_sdone)))
      (v_sone (v_ret (v_mov (i := 2) (by rfl) (by exact .inl rfl))))))
theorem ok__law_right (fx : Fx K mg) : FnOk P w K mg base (L2.CX P w) 9 fx.a__law_right fx.d__law_right ["wins"] (spOf ⟨K, mg⟩ 1 F__law_right) :=
  show FnOk P w K mg base (L2.CX P w) (8 + 1) fx.a__law_right fx.d__law_right ["wins"] (spOf ⟨K, mg⟩ 1 (mkFn 1 9 [0] D__law_right)) from
  v_fnN (k := 8) (np := 1) (ns := 9) (N := ["wins", "table", "alike", "due", "firm", "simple", "told", "mask", "other"]) (pr := [0]) (d := D__law_right) fx.F__law_right sc__law_right rfl rfl (by decide) fun cdv A outer s H E hr tk hp =>
    (v_seq (v_asg (wr := [1, 2]) (v_tupO (v_cons (v_call ((ok__law_table (P := P) (w := w) (base := base) fx).mono (by omega)) rfl hr tk (by rfl) fx.m__law_table fx.F__law_table.kp fx.b__law_table (v_glend (i := 0) (by rfl) (by exact .inl rfl) v_gnil) F__law_table_len) (v_cons (v_call ((ok__law_alike (P := P) (w := w) (base := base) fx).mono (by omega)) rfl hr tk (by rfl) fx.m__law_alike fx.F__law_alike.kp fx.b__law_alike (v_glend (i := 0) (by rfl) (by exact .inl rfl) v_gnil) F__law_alike_len) v_nil))) (v_tgT rfl (v_tgsCons (v_tgN (i := 1) sc__law_right.nd (by rfl) (by exact .inl rfl)) (v_tgsCons (v_tgN (i := 2) sc__law_right.nd (by rfl) (by exact .inr rfl)) v_tgsNil)) (tgs_lenS (tgs_lenS tgs_len0))))
      (v_seq (v_set (i := 3) (v_blt (cr_sortU (hu64 hr)) pn_sortU (by rfl) fx.z_sorted bt_sorted (v_cons (v_comp (own := [("mask", 7)]) rfl sc__law_right.nd (v_its (v_frz (i := 2) (by rfl) (by exact .inr (.inl rfl)))) (blkOk_by (by kernel_rfl)) (fun _ _ _ _ _ => (v_tgN (i := 7) sc__law_right.nd (by rfl) (by exact .inl rfl))) (fun _ _ _ _ _ => v_yes) (fun _ _ _ _ _ => (v_call ((ok__law_lot (P := P) (w := w) (base := base) fx).mono (by omega)) rfl hr takes0 (by rfl) fx.m__law_lot fx.F__law_lot.kp fx.b__law_lot (v_glend (i := 7) (by rfl) (by exact .inl rfl) v_gnil) F__law_lot_len))) v_nil)) sc__law_right.nd (by rfl) (by exact .inl rfl))
      (v_seq (v_set (i := 4) (v_blt (cr_sortU (hu64 hr)) pn_sortU (by rfl) fx.z_sorted bt_sorted (v_cons (v_comp (own := [("mask", 7)]) rfl sc__law_right.nd (v_its (v_frz (i := 2) (by rfl) (by exact .inr (.inl rfl)))) (blkOk_by (by kernel_rfl)) (fun _ _ _ _ _ => (v_tgN (i := 7) sc__law_right.nd (by rfl) (by exact .inr rfl))) (fun _ _ _ _ _ => (v_tone (v_tcmp (op_eqD (hu64 hr)) p2_eq (v_comp (own := [("other", 8)]) rfl sc__law_right.nd (v_its (v_frz (i := 2) (by rfl) (by exact .inr (.inl rfl)))) (blkOk_by (by kernel_rfl)) (fun _ _ _ _ _ => (v_tgN (i := 8) sc__law_right.nd (by rfl) (by exact .inl rfl))) (fun _ _ _ _ _ => (v_tone (v_tcmp op_notIn_seq p2_in (v_bin op_and p2_band (v_var (i := 7) (by rfl) (by exact .inr (.inl rfl))) (v_var (i := 8) (by rfl) (by exact .inl rfl))) (v_tup (v_cons v_int (v_cons (v_frz (i := 7) (by rfl) (by exact .inr (.inl rfl))) (v_cons (v_frz (i := 8) (by rfl) (by exact .inl rfl)) v_nil)))) rfl gIn_bl))) (fun _ _ _ _ _ => v_int)) (v_lst v_nil) rfl gEq_bl))) (fun _ _ _ _ _ => (v_call ((ok__law_lot (P := P) (w := w) (base := base) fx).mono (by omega)) rfl hr takes0 (by rfl) fx.m__law_lot fx.F__law_lot.kp fx.b__law_lot (v_glend (i := 7) (by rfl) (by exact .inr (.inl rfl)) v_gnil) F__law_lot_len))) v_nil)) sc__law_right.nd (by rfl) (by exact .inl rfl))
      (v_seq (v_set (i := 5) (v_andV (v_cmp op_gt p2_gt (v_blt call_len_seq pn_len (by rfl) fx.z_len bt_len (v_cons (v_var (i := 0) (by rfl) (by exact .inl rfl)) v_nil)) v_int rfl) (v_one (v_cmp (op_eqD (hu64 hr)) p2_eq (v_blt call_len_seq pn_len (by rfl) fx.z_len bt_len (v_cons (v_var (i := 2) (by rfl) (by exact .inr (.inl rfl))) v_nil)) (v_bin o_add p2_add (v_blt call_len_seq pn_len (by rfl) fx.z_len bt_len (v_cons (v_var (i := 0) (by rfl) (by exact .inl rfl)) v_nil)) v_int) rfl))) sc__law_right.nd (by rfl) (by exact .inl rfl))
      (v_seq (v_set (i := 6) (v_lst (v_cons (v_call ((ok_alike_lots (P := P) (w := w) (base := base) fx).mono (by omega)) rfl hr tk (by rfl) fx.m_alike_lots fx.F_alike_lots.kp fx.b_alike_lots (v_glend (i := 1) (by rfl) (by exact .inl rfl) v_gnil) F_alike_lots_len) (v_cons (v_call ((ok_firm_lots (P := P) (w := w) (base := base) fx).mono (by omega)) rfl hr tk (by rfl) fx.m_firm_lots fx.F_firm_lots.kp fx.b_firm_lots (v_glend (i := 1) (by rfl) (by exact .inl rfl) v_gnil) F_firm_lots_len) (v_cons (v_call ((ok_is_simple (P := P) (w := w) (base := base) fx).mono (by omega)) rfl hr tk (by rfl) fx.m_is_simple fx.F_is_simple.kp fx.b_is_simple (v_glend (i := 1) (by rfl) (by exact .inl rfl) v_gnil) F_is_simple_len) v_nil)))) sc__law_right.nd (by rfl) (by exact .inl rfl))
      (v_seq (v_ifs (v_not (v_tst (v_pcall ((ok__law_same (P := P) (w := w) (base := base) fx).mono (by omega)) rfl hr tk (by rfl) fx.m__law_same fx.F__law_same.kp fx.b__law_same (v_cons (v_var (i := 6) (by rfl) (by exact .inl rfl)) (v_cons (v_lst (v_cons (v_frz (i := 3) (by rfl) (by exact .inl rfl)) (v_cons (v_frz (i := 4) (by rfl) (by exact .inl rfl)) (v_cons (v_frz (i := 5) (by rfl) (by exact .inl rfl)) v_nil)))) v_nil)) F__law_same_len))) (v_sone (v_ret v_bl)) v_sdone)
      (v_seq (v_do (v_mut PySem.F.slot_list_append PySem.F.type_list_append mt_append mr_append (v_pS (v_p0 (i := 6) (by rfl) (by exact .inl rfl)) v_int) (v_cons v_non v_nil)))
      (v_seq (v_do (v_mut PySem.F.slot_list_append PySem.F.type_list_append mt_append mr_append (v_pS (v_p0 (i := 6) (by rfl) (by exact .inl rfl)) v_int) (v_cons v_non v_nil)))
      (v_sone (v_ret (v_pcall ((ok__law_same (P := P) (w := w) (base := base) fx).mono (by omega)) rfl hr tk (by rfl) fx.m__law_same fx.F__law_same.kp fx.b__law_same (v_cons (v_lst (v_cons (v_callK0 ((ok_firm_lots (P := P) (w := w) (base := base) fx).mono (by omega)) rfl hr tk (by rfl) fx.m_firm_lots fx.F_firm_lots.kp fx.kb_firm_lots_0 (v_gklend (i := 1) (by rfl) (by exact .inl rfl) v_gknil) F_firm_lots_len rfl) (v_cons (v_callK0 ((ok_is_simple (P := P) (w := w) (base := base) fx).mono (by omega)) rfl hr tk (by rfl) fx.m_is_simple fx.F_is_simple.kp fx.kb_is_simple_1 (v_gklend (i := 1) (by rfl) (by exact .inl rfl) v_gknil) F_is_simple_len rfl) (v_cons (v_callK0 ((ok_alike_lots (P := P) (w := w) (base := base) fx).mono (by omega)) rfl hr tk (by rfl) fx.m_alike_lots fx.F_alike_lots.kp fx.kb_alike_lots_2 (v_gklend (i := 1) (by rfl) (by exact .inl rfl) v_gknil) F_alike_lots_len rfl) v_nil)))) (v_cons (v_lst (v_cons (v_frz (i := 4) (by rfl) (by exact .inl rfl)) (v_cons (v_frz (i := 5) (by rfl) (by exact .inl rfl)) (v_cons (v_frz (i := 3) (by rfl) (by exact .inl rfl)) v_nil)))) v_nil)) F__law_same_len)))))))))))
theorem ok__law_draw (fx : Fx K mg) : FnOk P w K mg base (L2.CX P w) 1 fx.a__law_draw fx.d__law_draw ["feed", "many"] (spOf ⟨K, mg⟩ 2 F__law_draw) :=
  show FnOk P w K mg base (L2.CX P w) (0 + 1) fx.a__law_draw fx.d__law_draw ["feed", "many"] (spOf ⟨K, mg⟩ 2 (mkFn 2 4 [0, 1] D__law_draw)) from
  v_fnN (k := 0) (np := 2) (ns := 4) (N := ["feed", "many", "rest", "seed"]) (pr := [0, 1]) (d := D__law_draw) fx.F__law_draw sc__law_draw rfl rfl (by decide) fun cdv A outer s H E hr tk hp =>
    (v_seq (v_ifs (v_tcmp op_gt p2_gt (v_ixP (v_var (i := 0) (by rfl) (by exact .inl rfl)) v_int) v_int rfl gGt_bl) (v_seq (v_set (i := 2) (v_own (v_ixP (v_var (i := 0) (by rfl) (by exact .inl rfl)) v_int)) sc__law_draw.nd (by rfl) (by exact .inl rfl))
      (v_seq (v_store set_list mr_set (v_bin op_fdivW p2_div (v_var (i := 2) (by rfl) (by exact .inl rfl)) (v_var (i := 1) (by rfl) (by exact .inl rfl))) (v_p0 (i := 0) (by rfl) (by exact .inl rfl)) v_int)
      (v_sone (v_ret (v_bin op_mod p2_mod (v_blty call_int1 pn_int (by rfl) fx.z_int bt_int (v_cons (v_var (i := 2) (by rfl) (by exact .inl rfl)) v_nil)) (v_var (i := 1) (by rfl) (by exact .inl rfl))))))) v_sdone)
      (v_seq (v_store set_list mr_set (v_bin o_add p2_add (v_ixP (v_var (i := 0) (by rfl) (by exact .inl rfl)) v_int) v_int) (v_p0 (i := 0) (by rfl) (by exact .inl rfl)) v_int)
      (v_seq (v_set (i := 3) (v_bin o_add p2_add (v_bin o_add p2_add (v_bin o_mulU p2_mulU (v_ixP (v_var (i := 0) (by rfl) (by exact .inl rfl)) v_int) v_int) (v_bin o_mulU p2_mulU (v_ixP (v_var (i := 0) (by rfl) (by exact .inl rfl)) v_int) v_int)) v_int) sc__law_draw.nd (by rfl) (by exact .inl rfl))
      (v_seq (v_set (i := 3) (v_bin op_mod p2_mod (v_blty call_int1 pn_int (by rfl) fx.z_int bt_int (v_cons (v_bin o_add p2_add (v_bin o_mulU p2_mulU (v_var (i := 3) (by rfl) (by exact .inl rfl)) (v_var (i := 3) (by rfl) (by exact .inl rfl))) (v_bin o_mulU p2_mulU v_int (v_ixP (v_var (i := 0) (by rfl) (by exact .inl rfl)) v_int))) v_nil)) (v_bin o_add p2_add (v_bin op_pow p2_pow v_int v_int) v_int)) sc__law_draw.nd (by rfl) (by exact .inl rfl))
      (v_seq (v_set (i := 3) (v_bin op_mod p2_mod (v_blty call_int1 pn_int (by rfl) fx.z_int bt_int (v_cons (v_bin o_add p2_add (v_bin o_mulU p2_mulU (v_bin o_mulU p2_mulU (v_var (i := 3) (by rfl) (by exact .inl rfl)) (v_var (i := 3) (by rfl) (by exact .inl rfl))) (v_var (i := 3) (by rfl) (by exact .inl rfl))) v_int) v_nil)) (v_bin o_add p2_add (v_bin op_pow p2_pow v_int v_int) v_int)) sc__law_draw.nd (by rfl) (by exact .inl rfl))
      (v_sone (v_ret (v_bin op_mod p2_mod (v_blty call_int1 pn_int (by rfl) fx.z_int bt_int (v_cons (v_bin op_fdivW p2_div (v_var (i := 3) (by rfl) (by exact .inl rfl)) (v_bin op_pow p2_pow v_int v_int)) v_nil)) (v_var (i := 1) (by rfl) (by exact .inl rfl))))))))))
theorem ok__law_mixed (fx : Fx K mg) : FnOk P w K mg base (L2.CX P w) 2 fx.a__law_mixed fx.d__law_mixed ["feed", "things"] (spOf ⟨K, mg⟩ 2 F__law_mixed) :=
  show FnOk P w K mg base (L2.CX P w) (1 + 1) fx.a__law_mixed fx.d__law_mixed ["feed", "things"] (spOf ⟨K, mg⟩ 2 (mkFn 2 5 [0, 1] D__law_mixed)) from
  v_fnN (k := 1) (np := 2) (ns := 5) (N := ["feed", "things", "left", "got", "turn"]) (pr := [0, 1]) (d := D__law_mixed) fx.F__law_mixed sc__law_mixed rfl rfl (by decide) fun cdv A outer s H E hr tk hp =>
    (v_seq (v_par2 (i := 2) (j := 3) rfl sc__law_mixed.nd (v_cons (v_blty call_list_of pn_list (by rfl) fx.z_list bt_list (v_cons (v_var (i := 1) (by rfl) (by exact .inl rfl)) v_nil)) (v_cons (v_lst v_nil) v_nil)) rfl rfl (by decide) rfl rfl rfl)
      (v_seq (v_for (wr := [4]) hp rfl (v_rng1 (by rfl) fx.z_range (v_cons (v_blt call_len_seq pn_len (by rfl) fx.z_len bt_len (v_cons (v_var (i := 1) (by rfl) (by exact .inl rfl)) v_nil)) v_nil)) (v_tgN (i := 4) sc__law_mixed.nd (by rfl) (by exact .inl rfl)) (v_sone (v_do (v_mut PySem.F.slot_list_append PySem.F.type_list_append mt_append mr_append (v_p0 (i := 3) (by rfl) (by exact .inl rfl)) (v_cons (v_mut PySem.F.slot_list_pop PySem.F.type_list_pop mt_popAt mr_pop1 (v_p0 (i := 2) (by rfl) (by exact .inl rfl)) (v_cons (v_call ((ok__law_draw (P := P) (w := w) (base := base) fx).mono (by omega)) rfl hr tk (by rfl) fx.m__law_draw fx.F__law_draw.kp fx.b__law_draw (v_glend (i := 0) (by rfl) (by exact .inl rfl) (v_gcons (v_blt call_len_seq pn_len (by rfl) fx.z_len bt_len (v_cons (v_var (i := 2) (by rfl) (by exact .inl rfl)) v_nil)) v_gnil)) F__law_draw_len) v_nil)) v_nil)))))
      (v_sone (v_ret (v_mov (i := 3) (by rfl) (by exact .inl rfl))))))
theorem ok__law_beats (fx : Fx K mg) : FnOk P w K mg base (L2.CX P w) 2 fx.a__law_beats fx.d__law_beats ["feed", "way", "marks", "one", "other"] (spOf ⟨K, mg⟩ 5 F__law_beats) :=
  show FnOk P w K mg base (L2.CX P w) (1 + 1) fx.a__law_beats fx.d__law_beats ["feed", "way", "marks", "one", "other"] (spOf ⟨K, mg⟩ 5 (mkFn 5 10 [0, 1, 2, 3, 4] D__law_beats)) from
  v_fnN (k := 1) (np := 5) (ns := 10) (N := ["feed", "way", "marks", "one", "other", "many", "apart", "outer", "gap", "is_ring"]) (pr := [0, 1, 2, 3, 4]) (d := D__law_beats) fx.F__law_beats sc__law_beats rfl rfl (by decide) fun cdv A outer s H E hr tk hp =>
    (v_seq (v_par2 (i := 5) (j := 6) rfl sc__law_beats.nd (v_cons (v_blt call_len_seq pn_len (by rfl) fx.z_len bt_len (v_cons (v_var (i := 2) (by rfl) (by exact .inl rfl)) v_nil)) (v_cons (v_bin op_sub p2_sub (v_var (i := 4) (by rfl) (by exact .inl rfl)) (v_var (i := 3) (by rfl) (by exact .inl rfl))) v_nil)) rfl rfl (by decide) rfl rfl rfl)
      (v_seq (v_ifs (v_tcmp (op_eqD (hu64 hr)) p2_eq (v_var (i := 1) (by rfl) (by exact .inl rfl)) v_int rfl gEq_bl) (v_sone (v_ret (v_cmp op_gt p2_gt (v_call ((ok__law_draw (P := P) (w := w) (base := base) fx).mono (by omega)) rfl hr tk (by rfl) fx.m__law_draw fx.F__law_draw.kp fx.b__law_draw (v_glend (i := 0) (by rfl) (by exact .inl rfl) (v_gcons v_int v_gnil)) F__law_draw_len) v_int rfl))) v_sdone)
      (v_seq (v_ifs (VW.vt (v_and (v_tcmp (op_eqD (hu64 hr)) p2_eq (v_var (i := 1) (by rfl) (by exact .inl rfl)) v_int rfl gEq_bl) (v_and1 (v_tcmp (op_neD (hu64 hr)) p2_ne (v_bin o_mulU p2_mulU v_int (v_var (i := 6) (by rfl) (by exact .inl rfl))) (v_var (i := 5) (by rfl) (by exact .inl rfl)) rfl gNe_bl)))) (v_sone (v_ret (v_cmp (op_eqD (hu64 hr)) p2_eq (v_cmp op_lt p2_lt (v_ixP (v_var (i := 2) (by rfl) (by exact .inl rfl)) (v_blt (call_min2 rfl) pn_min2 (by rfl) fx.z_min bt_min (v_cons (v_var (i := 6) (by rfl) (by exact .inl rfl)) (v_cons (v_bin op_sub p2_sub (v_var (i := 5) (by rfl) (by exact .inl rfl)) (v_var (i := 6) (by rfl) (by exact .inl rfl))) v_nil)))) v_int rfl) (v_cmp op_lt p2_lt (v_bin o_mulU p2_mulU v_int (v_var (i := 6) (by rfl) (by exact .inl rfl))) (v_var (i := 5) (by rfl) (by exact .inl rfl)) rfl) rfl))) v_sdone)
      (v_seq (v_ifs (VW.vt (v_and (v_tcmp op_in_seq p2_in (v_var (i := 1) (by rfl) (by exact .inl rfl)) (v_tup (v_cons v_int (v_cons v_int (v_cons v_int v_nil)))) rfl gIn_bl) (v_and1 (v_tcmp (op_neD (hu64 hr)) p2_ne (v_ixP (v_var (i := 2) (by rfl) (by exact .inl rfl)) (v_var (i := 3) (by rfl) (by exact .inl rfl))) (v_ixP (v_var (i := 2) (by rfl) (by exact .inl rfl)) (v_var (i := 4) (by rfl) (by exact .inl rfl))) rfl gNe_bl)))) (v_seq (v_set (i := 7) (v_bin op_sub p2_sub (v_bin op_fdivW p2_div (v_ixP (v_var (i := 2) (by rfl) (by exact .inl rfl)) (v_var (i := 4) (by rfl) (by exact .inl rfl))) v_int) (v_bin op_fdivW p2_div (v_ixP (v_var (i := 2) (by rfl) (by exact .inl rfl)) (v_var (i := 3) (by rfl) (by exact .inl rfl))) v_int)) sc__law_beats.nd (by rfl) (by exact .inl rfl))
      (v_seq (v_set (i := 8) (v_if (v_tcmp (op_neD (hu64 hr)) p2_ne (v_var (i := 7) (by rfl) (by exact .inl rfl)) v_int rfl gNe_bl) (v_frz (i := 7) (by rfl) (by exact .inl rfl)) (v_bin op_sub p2_sub (v_ixP (v_var (i := 2) (by rfl) (by exact .inl rfl)) (v_var (i := 4) (by rfl) (by exact .inl rfl))) (v_ixP (v_var (i := 2) (by rfl) (by exact .inl rfl)) (v_var (i := 3) (by rfl) (by exact .inl rfl))))) sc__law_beats.nd (by rfl) (by exact .inl rfl))
      (v_seq (v_set (i := 9) (v_if (v_tcmp (op_neD (hu64 hr)) p2_ne (v_var (i := 7) (by rfl) (by exact .inl rfl)) v_int rfl gNe_bl) (v_cmp (op_neD (hu64 hr)) p2_ne (v_var (i := 1) (by rfl) (by exact .inl rfl)) v_int rfl) (v_cmp (op_neD (hu64 hr)) p2_ne (v_var (i := 1) (by rfl) (by exact .inl rfl)) v_int rfl)) sc__law_beats.nd (by rfl) (by exact .inl rfl))
      (v_sone (v_ret (v_if (v_tst (v_var (i := 9) (by rfl) (by exact .inl rfl))) (v_cmp (op_eqD (hu64 hr)) p2_eq (v_bin op_mod p2_mod (v_blty call_int1 pn_int (by rfl) fx.z_int bt_int (v_cons (v_bin o_add p2_add (v_var (i := 8) (by rfl) (by exact .inl rfl)) v_int) v_nil)) v_int) v_int rfl) (v_cmp op_gt p2_gt (v_var (i := 8) (by rfl) (by exact .inl rfl)) v_int rfl))))))) v_sdone)
      (v_seq (v_ifs (v_tcmp (op_eqD (hu64 hr)) p2_eq (v_var (i := 1) (by rfl) (by exact .inl rfl)) v_int rfl gEq_bl) (v_sone (v_ret (v_cmp (op_eqD (hu64 hr)) p2_eq (v_cmp op_lt p2_lt (v_ixP (v_var (i := 2) (by rfl) (by exact .inl rfl)) (v_var (i := 3) (by rfl) (by exact .inl rfl))) v_int rfl) (v_cmp op_lt p2_lt (v_ixP (v_var (i := 2) (by rfl) (by exact .inl rfl)) (v_var (i := 4) (by rfl) (by exact .inl rfl))) v_int rfl) rfl))) v_sdone)
      (v_seq (v_ifs (v_tcmp (op_eqD (hu64 hr)) p2_eq (v_var (i := 1) (by rfl) (by exact .inl rfl)) v_int rfl gEq_bl) (v_sone (v_ret (v_orV (v_cmp op_lt p2_lt (v_var (i := 4) (by rfl) (by exact .inl rfl)) (v_bin op_sub p2_sub (v_var (i := 5) (by rfl) (by exact .inl rfl)) v_int) rfl) (v_one (v_cmp (op_eqD (hu64 hr)) p2_eq (v_bin op_mod p2_mod (v_blty call_int1 pn_int (by rfl) fx.z_int bt_int (v_cons (v_var (i := 3) (by rfl) (by exact .inl rfl)) v_nil)) v_int) v_int rfl))))) v_sdone)
      (v_sone (v_ret (v_cmp (op_eqD (hu64 hr)) p2_eq (v_call ((ok__law_draw (P := P) (w := w) (base := base) fx).mono (by omega)) rfl hr tk (by rfl) fx.m__law_draw fx.F__law_draw.kp fx.b__law_draw (v_glend (i := 0) (by rfl) (by exact .inl rfl) (v_gcons v_int v_gnil)) F__law_draw_len) v_int rfl)))))))))
theorem ok__law_wins (fx : Fx K mg) : FnOk P w K mg base (L2.CX P w) 3 fx.a__law_wins fx.d__law_wins ["feed", "least", "most"] (spOf ⟨K, mg⟩ 3 F__law_wins) :=
  show FnOk P w K mg base (L2.CX P w) (2 + 1) fx.a__law_wins fx.d__law_wins ["feed", "least", "most"] (spOf ⟨K, mg⟩ 3 (mkFn 3 14 [0, 1, 2] D__law_wins)) from
  v_fnN (k := 2) (np := 3) (ns := 14) (N := ["feed", "least", "most", "many", "way", "pool", "marks", "names", "wins", "one", "other", "winner", "loser", "turn"]) (pr := [0, 1, 2]) (d := D__law_wins) fx.F__law_wins sc__law_wins rfl rfl (by decide) fun cdv A outer s H E hr tk hp =>
    (v_seq (v_asg (wr := [3, 4, 5]) (v_tupO (v_cons (v_bin o_add p2_add (v_own (v_var (i := 1) (by rfl) (by exact .inl rfl))) (v_call ((ok__law_draw (P := P) (w := w) (base := base) fx).mono (by omega)) rfl hr tk (by rfl) fx.m__law_draw fx.F__law_draw.kp fx.b__law_draw (v_glend (i := 0) (by rfl) (by exact .inr (.inl rfl)) (v_gcons (v_bin o_add p2_add (v_bin op_sub p2_sub (v_var (i := 2) (by rfl) (by exact .inl rfl)) (v_var (i := 1) (by rfl) (by exact .inl rfl))) v_int) v_gnil)) F__law_draw_len)) (v_cons (v_call ((ok__law_draw (P := P) (w := w) (base := base) fx).mono (by omega)) rfl hr tk (by rfl) fx.m__law_draw fx.F__law_draw.kp fx.b__law_draw (v_glend (i := 0) (by rfl) (by exact .inr (.inl rfl)) (v_gcons v_int v_gnil)) F__law_draw_len) (v_cons (v_bin o_add p2_add v_int (v_bin o_mulU p2_mulU v_int (v_call ((ok__law_draw (P := P) (w := w) (base := base) fx).mono (by omega)) rfl hr tk (by rfl) fx.m__law_draw fx.F__law_draw.kp fx.b__law_draw (v_glend (i := 0) (by rfl) (by exact .inr (.inl rfl)) (v_gcons v_int v_gnil)) F__law_draw_len))) v_nil)))) (v_tgT rfl (v_tgsCons (v_tgN (i := 3) sc__law_wins.nd (by rfl) (by exact .inl rfl)) (v_tgsCons (v_tgN (i := 4) sc__law_wins.nd (by rfl) (by exact .inl rfl)) (v_tgsCons (v_tgN (i := 5) sc__law_wins.nd (by rfl) (by exact .inr rfl)) v_tgsNil))) (tgs_lenS (tgs_lenS (tgs_lenS tgs_len0)))))
      (v_seq (v_par3 (i := 6) (j := 7) (l := 8) rfl sc__law_wins.nd (v_cons (v_comp (own := [("turn", 13)]) rfl sc__law_wins.nd (v_rng1 (by rfl) fx.z_range (v_cons (v_var (i := 3) (by rfl) (by exact .inl rfl)) v_nil)) (blkOk_by (by kernel_rfl)) (fun _ _ _ _ _ => (v_tgN (i := 13) sc__law_wins.nd (by rfl) (by exact .inl rfl))) (fun _ _ _ _ _ => v_yes) (fun _ _ _ _ _ => (v_call ((ok__law_draw (P := P) (w := w) (base := base) fx).mono (by omega)) rfl hr takes0 (by rfl) fx.m__law_draw fx.F__law_draw.kp fx.b__law_draw (v_glend (i := 0) (by rfl) (by exact .inr (.inl rfl)) (v_glend (i := 5) (by rfl) (by exact .inr (.inl rfl)) v_gnil)) F__law_draw_len))) (v_cons (v_call ((ok__law_mixed (P := P) (w := w) (base := base) fx).mono (by omega)) rfl hr tk (by rfl) fx.m__law_mixed fx.F__law_mixed.kp fx.b__law_mixed (v_glend (i := 0) (by rfl) (by exact .inr (.inl rfl)) (v_gcons (v_listRg (by rfl) (by rfl) fx.z_list (by rfl) fx.z_range (v_var (i := 3) (by rfl) (by exact .inl rfl))) v_gnil)) F__law_mixed_len) (v_cons (v_bin o_mulU p2_mulU (v_lst (v_cons v_int v_nil)) (v_var (i := 3) (by rfl) (by exact .inl rfl))) v_nil))) rfl rfl rfl (by decide) (by decide) (by decide) rfl rfl rfl rfl)
      (v_seq (v_for (wr := [9]) hp rfl (v_rng1 (by rfl) fx.z_range (v_cons (v_var (i := 3) (by rfl) (by exact .inl rfl)) v_nil)) (v_tgN (i := 9) sc__law_wins.nd (by rfl) (by exact .inl rfl)) (v_sone (v_for (wr := [10]) hp rfl (v_rng2 (by rfl) fx.z_range (v_cons (v_bin o_add p2_add (v_var (i := 9) (by rfl) (by exact .inl rfl)) v_int) (v_cons (v_var (i := 3) (by rfl) (by exact .inl rfl)) v_nil))) (v_tgN (i := 10) sc__law_wins.nd (by rfl) (by exact .inl rfl)) (v_seq (v_asg (wr := [11, 12]) (v_if (v_tst (v_call ((ok__law_beats (P := P) (w := w) (base := base) fx).mono (by omega)) rfl hr tk (by rfl) fx.m__law_beats fx.F__law_beats.kp fx.b__law_beats (v_glend (i := 0) (by rfl) (by exact .inr (.inl rfl)) (v_glend (i := 4) (by rfl) (by exact .inl rfl) (v_glend (i := 6) (by rfl) (by exact .inl rfl) (v_glend (i := 9) (by rfl) (by exact .inl rfl) (v_glend (i := 10) (by rfl) (by exact .inl rfl) v_gnil))))) F__law_beats_len)) (v_tup (v_cons (v_frz (i := 9) (by rfl) (by exact .inl rfl)) (v_cons (v_frz (i := 10) (by rfl) (by exact .inl rfl)) v_nil))) (v_tup (v_cons (v_frz (i := 10) (by rfl) (by exact .inl rfl)) (v_cons (v_frz (i := 9) (by rfl) (by exact .inl rfl)) v_nil)))) (v_tgT rfl (v_tgsCons (v_tgN (i := 11) sc__law_wins.nd (by rfl) (by exact .inl rfl)) (v_tgsCons (v_tgN (i := 12) sc__law_wins.nd (by rfl) (by exact .inl rfl)) v_tgsNil)) (tgs_lenS (tgs_lenS tgs_len0))))
      (v_sone (v_store set_list mr_set (v_bin o_add p2_add (v_ixP (v_var (i := 8) (by rfl) (by exact .inl rfl)) (v_ixP (v_var (i := 7) (by rfl) (by exact .inl rfl)) (v_var (i := 11) (by rfl) (by exact .inl rfl)))) (v_bin op_shlW p2_shl v_int (v_ixP (v_var (i := 7) (by rfl) (by exact .inl rfl)) (v_var (i := 12) (by rfl) (by exact .inl rfl))))) (v_p0 (i := 8) (by rfl) (by exact .inl rfl)) (v_ixP (v_var (i := 7) (by rfl) (by exact .inl rfl)) (v_var (i := 11) (by rfl) (by exact .inl rfl)))))))))
      (v_sone (v_ret (v_mov (i := 8) (by rfl) (by exact .inl rfl)))))))
theorem ok__law_put (fx : Fx K mg) : FnOk P w K mg base (L2.CX P w) 2 fx.a__law_put fx.d__law_put ["wins", "parts"] (spOf ⟨K, mg⟩ 2 F__law_put) :=
  show FnOk P w K mg base (L2.CX P w) (1 + 1) fx.a__law_put fx.d__law_put ["wins", "parts"] (spOf ⟨K, mg⟩ 2 (mkFn 2 10 [0, 1] D__law_put)) from
  v_fnN (k := 1) (np := 2) (ns := 10) (N := ["wins", "parts", "starts", "found", "many", "part", "at", "below", "one", "mask"]) (pr := [0, 1]) (d := D__law_put) fx.F__law_put sc__law_put rfl rfl (by decide) fun cdv A outer s H E hr tk hp =>
    (v_seq (v_asg (wr := [2, 3, 4]) (v_tupO (v_cons (v_lst v_nil) (v_cons (v_lst v_nil) (v_cons v_int v_nil)))) (v_tgT rfl (v_tgsCons (v_tgN (i := 2) sc__law_put.nd (by rfl) (by exact .inr rfl)) (v_tgsCons (v_tgN (i := 3) sc__law_put.nd (by rfl) (by exact .inl rfl)) (v_tgsCons (v_tgN (i := 4) sc__law_put.nd (by rfl) (by exact .inl rfl)) v_tgsNil))) (tgs_lenS (tgs_lenS (tgs_lenS tgs_len0)))))
      (v_seq (v_for (wr := [5]) hp rfl (v_its (v_frz (i := 1) (by rfl) (by exact .inr (.inl rfl)))) (v_tgN (i := 5) sc__law_put.nd (by rfl) (by exact .inl rfl)) (v_seq (v_do (v_mut PySem.F.slot_list_append PySem.F.type_list_append mt_append mr_append (v_p0 (i := 2) (by rfl) (by exact .inr (.inl rfl))) (v_cons (v_frz (i := 4) (by rfl) (by exact .inl rfl)) v_nil)))
      (v_sone (v_set (i := 4) (v_bin o_add p2_add (v_var (i := 4) (by rfl) (by exact .inl rfl)) (v_blt call_len_seq pn_len (by rfl) fx.z_len bt_len (v_cons (v_var (i := 5) (by rfl) (by exact .inl rfl)) v_nil))) sc__law_put.nd (by rfl) (by exact .inl rfl)))))
      (v_seq (v_for (wr := [6]) hp rfl (v_rng1 (by rfl) fx.z_range (v_cons (v_blt call_len_seq pn_len (by rfl) fx.z_len bt_len (v_cons (v_var (i := 1) (by rfl) (by exact .inr (.inl rfl))) v_nil)) v_nil)) (v_tgN (i := 6) sc__law_put.nd (by rfl) (by exact .inr rfl)) (v_seq (v_set (i := 7) (v_blt (cr_sum rfl) pn_sum (by rfl) fx.z_sum bt_sum (v_cons (v_comp (own := [("one", 8)]) rfl sc__law_put.nd (v_its (v_call ((ok__law_lot (P := P) (w := w) (base := base) fx).mono (by omega)) rfl hr tk (by rfl) fx.m__law_lot fx.F__law_lot.kp fx.b__law_lot (v_gcons (v_own (v_ixP (v_var (i := 0) (by rfl) (by exact .inl rfl)) (v_var (i := 6) (by rfl) (by exact .inr (.inl rfl))))) v_gnil) F__law_lot_len)) (blkOk_by (by kernel_rfl)) (fun _ _ _ _ _ => (v_tgN (i := 8) sc__law_put.nd (by rfl) (by exact .inl rfl))) (fun _ _ _ _ _ => v_yes) (fun _ _ _ _ _ => (v_bin op_shlW p2_shl (v_bin op_sub p2_sub (v_bin op_shlW p2_shl v_int (v_blt call_len_seq pn_len (by rfl) fx.z_len bt_len (v_cons (v_ixP (v_var (i := 1) (by rfl) (by exact .inr (.inl rfl))) (v_var (i := 8) (by rfl) (by exact .inl rfl))) v_nil))) v_int) (v_ixP (v_var (i := 2) (by rfl) (by exact .inr (.inl rfl))) (v_var (i := 8) (by rfl) (by exact .inl rfl)))))) v_nil)) sc__law_put.nd (by rfl) (by exact .inr rfl))
      (v_sone (v_do (v_mut PySem.F.slot_list_extend PySem.F.type_list_extend mt_extend mr_extend (v_p0 (i := 3) (by rfl) (by exact .inl rfl)) (v_cons (v_comp (own := [("mask", 9)]) rfl sc__law_put.nd (v_its (v_own (v_ixP (v_var (i := 1) (by rfl) (by exact .inr (.inl rfl))) (v_var (i := 6) (by rfl) (by exact .inr (.inl rfl)))))) (blkOk_by (by kernel_rfl)) (fun _ _ _ _ _ => (v_tgN (i := 9) sc__law_put.nd (by rfl) (by exact .inl rfl))) (fun _ _ _ _ _ => v_yes) (fun _ _ _ _ _ => (v_bin o_add p2_add (v_var (i := 7) (by rfl) (by exact .inr (.inl rfl))) (v_bin op_shlW p2_shl (v_var (i := 9) (by rfl) (by exact .inl rfl)) (v_ixP (v_var (i := 2) (by rfl) (by exact .inr (.inl rfl))) (v_var (i := 6) (by rfl) (by exact .inr (.inl rfl)))))))) v_nil))))))
      (v_sone (v_ret (v_mov (i := 3) (by rfl) (by exact .inl rfl)))))))
theorem ok__law_places (fx : Fx K mg) : FnOk P w K mg base (L2.CX P w) 10 fx.a__law_places fx.d__law_places ["feed"] (spOf ⟨K, mg⟩ 1 F__law_places) :=
  show FnOk P w K mg base (L2.CX P w) (9 + 1) fx.a__law_places fx.d__law_places ["feed"] (spOf ⟨K, mg⟩ 1 (mkFn 1 9 [0] D__law_places)) from
  v_fnN (k := 9) (np := 1) (ns := 9) (N := ["feed", "wins", "parts", "room", "at", "whole", "start", "told", "part"]) (pr := [0]) (d := D__law_places) fx.F__law_places sc__law_places rfl rfl (by decide) fun cdv A outer s H E hr tk hp =>
    (v_seq (v_par3 (i := 1) (j := 2) (l := 3) rfl sc__law_places.nd (v_cons (v_call ((ok__law_wins (P := P) (w := w) (base := base) fx).mono (by omega)) rfl hr tk (by rfl) fx.m__law_wins fx.F__law_wins.kp fx.b__law_wins (v_glend (i := 0) (by rfl) (by exact .inl rfl) (v_gcons v_int (v_gcons v_int v_gnil))) F__law_wins_len) (v_cons (v_lst v_nil) (v_cons v_int v_nil))) rfl rfl rfl (by decide) (by decide) (by decide) rfl rfl rfl rfl)
      (v_seq (v_for (wr := [4]) hp rfl (v_rng1 (by rfl) fx.z_range (v_cons (v_blt call_len_seq pn_len (by rfl) fx.z_len bt_len (v_cons (v_var (i := 1) (by rfl) (by exact .inl rfl)) v_nil)) v_nil)) (v_tgN (i := 4) sc__law_places.nd (by rfl) (by exact .inl rfl)) (v_seq (v_do (v_mut PySem.F.slot_list_append PySem.F.type_list_append mt_append mr_append (v_p0 (i := 2) (by rfl) (by exact .inl rfl)) (v_cons (v_call ((ok__law_wins (P := P) (w := w) (base := base) fx).mono (by omega)) rfl hr tk (by rfl) fx.m__law_wins fx.F__law_wins.kp fx.b__law_wins (v_glend (i := 0) (by rfl) (by exact .inl rfl) (v_gcons v_int (v_gcons (v_bin o_add p2_add v_int (v_blt (call_min2 rfl) pn_min2 (by rfl) fx.z_min bt_min (v_cons (v_bin op_sub p2_sub (v_var (i := 3) (by rfl) (by exact .inl rfl)) (v_blt call_len_seq pn_len (by rfl) fx.z_len bt_len (v_cons (v_var (i := 1) (by rfl) (by exact .inl rfl)) v_nil))) (v_cons v_int v_nil)))) v_gnil))) F__law_wins_len) v_nil)))
      (v_sone (v_set (i := 3) (v_bin op_sub p2_sub (v_bin o_add p2_add (v_var (i := 3) (by rfl) (by exact .inl rfl)) v_int) (v_blt call_len_seq pn_len (by rfl) fx.z_len bt_len (v_cons (v_ixP (v_var (i := 2) (by rfl) (by exact .inl rfl)) (v_var (i := 4) (by rfl) (by exact .inl rfl))) v_nil))) sc__law_places.nd (by rfl) (by exact .inl rfl)))))
      (v_seq (v_par2 (i := 5) (j := 6) rfl sc__law_places.nd (v_cons (v_call ((ok__law_put (P := P) (w := w) (base := base) fx).mono (by omega)) rfl hr tk (by rfl) fx.m__law_put fx.F__law_put.kp fx.b__law_put (v_glend (i := 1) (by rfl) (by exact .inl rfl) (v_glend (i := 2) (by rfl) (by exact .inl rfl) v_gnil)) F__law_put_len) (v_cons v_int v_nil)) rfl rfl (by decide) rfl rfl rfl)
      (v_seq (v_ifs (v_not (v_tst (v_call ((ok__law_right (P := P) (w := w) (base := base) fx).mono (by omega)) rfl hr tk (by rfl) fx.m__law_right fx.F__law_right.kp fx.b__law_right (v_glend (i := 5) (by rfl) (by exact .inl rfl) v_gnil) F__law_right_len))) (v_sone (v_ret v_bl)) v_sdone)
      (v_seq (v_set (i := 7) (v_call ((ok_alike_lots (P := P) (w := w) (base := base) fx).mono (by omega)) rfl hr tk (by rfl) fx.m_alike_lots fx.F_alike_lots.kp fx.b_alike_lots (v_gcons (v_call ((ok__law_table (P := P) (w := w) (base := base) fx).mono (by omega)) rfl hr tk (by rfl) fx.m__law_table fx.F__law_table.kp fx.b__law_table (v_glend (i := 5) (by rfl) (by exact .inl rfl) v_gnil) F__law_table_len) v_gnil) F_alike_lots_len) sc__law_places.nd (by rfl) (by exact .inl rfl))
      (v_seq (v_for (wr := [8]) hp rfl (v_its (v_frz (i := 2) (by rfl) (by exact .inl rfl))) (v_tgN (i := 8) sc__law_places.nd (by rfl) (by exact .inl rfl)) (v_seq (v_ifs (v_tcmp (op_ninU (hu65 hr)) p2_ninU (v_tupRg2 (by rfl) (by rfl) fx.z_tuple (by rfl) fx.z_range (v_var (i := 6) (by rfl) (by exact .inl rfl)) (v_bin o_add p2_add (v_var (i := 6) (by rfl) (by exact .inl rfl)) (v_blt call_len_seq pn_len (by rfl) fx.z_len bt_len (v_cons (v_var (i := 8) (by rfl) (by exact .inl rfl)) v_nil)))) (v_var (i := 7) (by rfl) (by exact .inl rfl)) rfl gInU_bl) (v_sone (v_ret v_bl)) v_sdone)
      (v_sone (v_set (i := 6) (v_bin o_add p2_add (v_var (i := 6) (by rfl) (by exact .inl rfl)) (v_blt call_len_seq pn_len (by rfl) fx.z_len bt_len (v_cons (v_var (i := 8) (by rfl) (by exact .inl rfl)) v_nil))) sc__law_places.nd (by rfl) (by exact .inl rfl)))))
      (v_sone (v_ret v_bl))))))))
theorem ok__law_called (fx : Fx K mg) : FnOk P w K mg base (L2.CX P w) 2 fx.a__law_called fx.d__law_called ["wins", "names"] (spOf ⟨K, mg⟩ 2 F__law_called) :=
  show FnOk P w K mg base (L2.CX P w) (1 + 1) fx.a__law_called fx.d__law_called ["wins", "names"] (spOf ⟨K, mg⟩ 2 (mkFn 2 5 [0, 1] D__law_called)) from
  v_fnN (k := 1) (np := 2) (ns := 5) (N := ["wins", "names", "found", "player", "other"]) (pr := [0, 1]) (d := D__law_called) fx.F__law_called sc__law_called rfl rfl (by decide) fun cdv A outer s H E hr tk hp =>
    (v_seq (v_set (i := 2) (v_bin o_mulU p2_mulU (v_lst (v_cons v_int v_nil)) (v_blt call_len_seq pn_len (by rfl) fx.z_len bt_len (v_cons (v_var (i := 0) (by rfl) (by exact .inl rfl)) v_nil))) sc__law_called.nd (by rfl) (by exact .inl rfl))
      (v_seq (v_for (wr := [3]) hp rfl (v_rng1 (by rfl) fx.z_range (v_cons (v_blt call_len_seq pn_len (by rfl) fx.z_len bt_len (v_cons (v_var (i := 0) (by rfl) (by exact .inl rfl)) v_nil)) v_nil)) (v_tgN (i := 3) sc__law_called.nd (by rfl) (by exact .inl rfl)) (v_sone (v_store set_list mr_set (v_blt (cr_sum rfl) pn_sum (by rfl) fx.z_sum bt_sum (v_cons (v_comp (own := [("other", 4)]) rfl sc__law_called.nd (v_its (v_call ((ok__law_lot (P := P) (w := w) (base := base) fx).mono (by omega)) rfl hr tk (by rfl) fx.m__law_lot fx.F__law_lot.kp fx.b__law_lot (v_gcons (v_own (v_ixP (v_var (i := 0) (by rfl) (by exact .inl rfl)) (v_var (i := 3) (by rfl) (by exact .inl rfl)))) v_gnil) F__law_lot_len)) (blkOk_by (by kernel_rfl)) (fun _ _ _ _ _ => (v_tgN (i := 4) sc__law_called.nd (by rfl) (by exact .inl rfl))) (fun _ _ _ _ _ => v_yes) (fun _ _ _ _ _ => (v_bin op_shlW p2_shl v_int (v_ixP (v_var (i := 1) (by rfl) (by exact .inr (.inl rfl))) (v_var (i := 4) (by rfl) (by exact .inl rfl)))))) v_nil)) (v_p0 (i := 2) (by rfl) (by exact .inl rfl)) (v_ixP (v_var (i := 1) (by rfl) (by exact .inr (.inl rfl))) (v_var (i := 3) (by rfl) (by exact .inl rfl))))))
      (v_sone (v_ret (v_mov (i := 2) (by rfl) (by exact .inl rfl))))))
theorem ok__law_bare (fx : Fx K mg) : FnOk P w K mg base (L2.CX P w) 3 fx.a__law_bare fx.d__law_bare ["feed"] (spOf ⟨K, mg⟩ 1 F__law_bare) :=
  show FnOk P w K mg base (L2.CX P w) (2 + 1) fx.a__law_bare fx.d__law_bare ["feed"] (spOf ⟨K, mg⟩ 1 (mkFn 1 10 [0] D__law_bare)) from
  v_fnN (k := 2) (np := 1) (ns := 10) (N := ["feed", "half", "way", "size", "wins", "one", "other", "first", "winner", "loser"]) (pr := [0]) (d := D__law_bare) fx.F__law_bare sc__law_bare rfl rfl (by decide) fun cdv A outer s H E hr tk hp =>
    (v_seq (v_par2 (i := 1) (j := 2) rfl sc__law_bare.nd (v_cons (v_bin o_add p2_add v_int (v_call ((ok__law_draw (P := P) (w := w) (base := base) fx).mono (by omega)) rfl hr tk (by rfl) fx.m__law_draw fx.F__law_draw.kp fx.b__law_draw (v_glend (i := 0) (by rfl) (by exact .inl rfl) (v_gcons v_int v_gnil)) F__law_draw_len)) (v_cons (v_call ((ok__law_draw (P := P) (w := w) (base := base) fx).mono (by omega)) rfl hr tk (by rfl) fx.m__law_draw fx.F__law_draw.kp fx.b__law_draw (v_glend (i := 0) (by rfl) (by exact .inl rfl) (v_gcons v_int v_gnil)) F__law_draw_len) v_nil)) rfl rfl (by decide) rfl rfl rfl)
      (v_seq (v_par2 (i := 3) (j := 4) rfl sc__law_bare.nd (v_cons (v_bin o_add p2_add (v_bin o_mulU p2_mulU v_int (v_var (i := 1) (by rfl) (by exact .inl rfl))) v_int) (v_cons (v_bin o_mulU p2_mulU (v_lst (v_cons v_int v_nil)) (v_bin o_add p2_add (v_bin o_mulU p2_mulU v_int (v_var (i := 1) (by rfl) (by exact .inl rfl))) v_int)) v_nil)) rfl rfl (by decide) rfl rfl rfl)
      (v_seq (v_for (wr := [5]) hp rfl (v_rng1 (by rfl) fx.z_range (v_cons (v_var (i := 3) (by rfl) (by exact .inl rfl)) v_nil)) (v_tgN (i := 5) sc__law_bare.nd (by rfl) (by exact .inl rfl)) (v_sone (v_for (wr := [6]) hp rfl (v_rng2 (by rfl) fx.z_range (v_cons (v_bin o_add p2_add (v_var (i := 5) (by rfl) (by exact .inl rfl)) v_int) (v_cons (v_var (i := 3) (by rfl) (by exact .inl rfl)) v_nil))) (v_tgN (i := 6) sc__law_bare.nd (by rfl) (by exact .inl rfl)) (v_seq (v_set (i := 7) (v_cmp (op_eqD (hu64 hr)) p2_eq (v_cmp op_lt p2_lt (v_bin o_mulU p2_mulU v_int (v_bin op_sub p2_sub (v_var (i := 6) (by rfl) (by exact .inl rfl)) (v_var (i := 5) (by rfl) (by exact .inl rfl)))) (v_var (i := 3) (by rfl) (by exact .inl rfl)) rfl) (v_orV (v_cmp (op_eqD (hu64 hr)) p2_eq (v_var (i := 2) (by rfl) (by exact .inl rfl)) v_int rfl) (v_one (v_cmp op_le p2_le (v_var (i := 5) (by rfl) (by exact .inl rfl)) (v_var (i := 1) (by rfl) (by exact .inl rfl)) rfl))) rfl) sc__law_bare.nd (by rfl) (by exact .inl rfl))
      (v_seq (v_ifs (v_tcmp (op_eqD (hu64 hr)) p2_eq (v_var (i := 2) (by rfl) (by exact .inl rfl)) v_int rfl gEq_bl) (v_sone (v_set (i := 7) (v_orV (v_cmp op_lt p2_lt (v_var (i := 6) (by rfl) (by exact .inl rfl)) (v_bin op_sub p2_sub (v_var (i := 3) (by rfl) (by exact .inl rfl)) v_int) rfl) (v_one (v_cmp (op_eqD (hu64 hr)) p2_eq (v_bin op_mod p2_mod (v_blty call_int1 pn_int (by rfl) fx.z_int bt_int (v_cons (v_var (i := 5) (by rfl) (by exact .inl rfl)) v_nil)) v_int) v_int rfl))) sc__law_bare.nd (by rfl) (by exact .inl rfl))) v_sdone)
      (v_seq (v_asg (wr := [8, 9]) (v_if (v_tst (v_var (i := 7) (by rfl) (by exact .inl rfl))) (v_tup (v_cons (v_frz (i := 5) (by rfl) (by exact .inl rfl)) (v_cons (v_frz (i := 6) (by rfl) (by exact .inl rfl)) v_nil))) (v_tup (v_cons (v_frz (i := 6) (by rfl) (by exact .inl rfl)) (v_cons (v_frz (i := 5) (by rfl) (by exact .inl rfl)) v_nil)))) (v_tgT rfl (v_tgsCons (v_tgN (i := 8) sc__law_bare.nd (by rfl) (by exact .inl rfl)) (v_tgsCons (v_tgN (i := 9) sc__law_bare.nd (by rfl) (by exact .inl rfl)) v_tgsNil)) (tgs_lenS (tgs_lenS tgs_len0))))
      (v_sone (v_store set_list mr_set (v_bin o_add p2_add (v_ixP (v_var (i := 4) (by rfl) (by exact .inl rfl)) (v_var (i := 8) (by rfl) (by exact .inl rfl))) (v_bin op_shlW p2_shl v_int (v_var (i := 9) (by rfl) (by exact .inl rfl)))) (v_p0 (i := 4) (by rfl) (by exact .inl rfl)) (v_var (i := 8) (by rfl) (by exact .inl rfl))))))))))
      (v_sone (v_ret (v_call ((ok__law_called (P := P) (w := w) (base := base) fx).mono (by omega)) rfl hr tk (by rfl) fx.m__law_called fx.F__law_called.kp fx.b__law_called (v_glend (i := 4) (by rfl) (by exact .inl rfl) (v_gcons (v_call ((ok__law_mixed (P := P) (w := w) (base := base) fx).mono (by omega)) rfl hr tk (by rfl) fx.m__law_mixed fx.F__law_mixed.kp fx.b__law_mixed (v_glend (i := 0) (by rfl) (by exact .inl rfl) (v_gcons (v_listRg (by rfl) (by rfl) fx.z_list (by rfl) fx.z_range (v_var (i := 3) (by rfl) (by exact .inl rfl))) v_gnil)) F__law_mixed_len) v_gnil)) F__law_called_len))))))
theorem ok_law (fx : Fx K mg) : FnOk P w K mg base (L2.CX P w) 11 fx.a_law fx.d_law ["script"] (spOf ⟨K, mg⟩ 1 F_law) :=
  show FnOk P w K mg base (L2.CX P w) (10 + 1) fx.a_law fx.d_law ["script"] (spOf ⟨K, mg⟩ 1 (mkFn 1 3 [0] D_law)) from
  v_fnN (k := 10) (np := 1) (ns := 3) (N := ["script", "k", "feed"]) (pr := [0]) (d := D_law) fx.F_law sc_law rfl rfl (by decide) fun cdv A outer s H E hr tk hp =>
    (v_seq (v_for (wr := [1]) hp rfl (v_rng1 (by rfl) fx.z_range (v_cons (v_blt (call_max2 rfl) pn_max2 (by rfl) fx.z_max bt_max (v_cons v_int (v_cons (v_blt (call_min2 rfl) pn_min2 (by rfl) fx.z_min bt_min (v_cons (v_blt call_len_seq pn_len (by rfl) fx.z_len bt_len (v_cons (v_var (i := 0) (by rfl) (by exact .inl rfl)) v_nil)) (v_cons v_int v_nil))) v_nil))) v_nil)) (v_tgN (i := 1) sc_law.nd (by rfl) (by exact .inl rfl)) (v_seq (v_set (i := 2) (v_call ((ok__law_feed (P := P) (w := w) (base := base) fx).mono (by omega)) rfl hr tk (by rfl) fx.m__law_feed fx.F__law_feed.kp fx.b__law_feed (v_glend (i := 0) (by rfl) (by exact .inl rfl) (v_glend (i := 1) (by rfl) (by exact .inl rfl) v_gnil)) F__law_feed_len) sc_law.nd (by rfl) (by exact .inl rfl))
      (v_sone (v_ifs (VW.vt (v_or (v_not (v_tst (v_call ((ok__law_right (P := P) (w := w) (base := base) fx).mono (by omega)) rfl hr tk (by rfl) fx.m__law_right fx.F__law_right.kp fx.b__law_right (v_gcons (v_call ((ok__law_wins (P := P) (w := w) (base := base) fx).mono (by omega)) rfl hr tk (by rfl) fx.m__law_wins fx.F__law_wins.kp fx.b__law_wins (v_glend (i := 2) (by rfl) (by exact .inl rfl) (v_gcons v_int (v_gcons v_int v_gnil))) F__law_wins_len) v_gnil) F__law_right_len))) (v_or (v_not (v_tst (v_call ((ok__law_places (P := P) (w := w) (base := base) fx).mono (by omega)) rfl hr tk (by rfl) fx.m__law_places fx.F__law_places.kp fx.b__law_places (v_glend (i := 2) (by rfl) (by exact .inl rfl) v_gnil) F__law_places_len))) (v_or1 (v_not (v_tst (v_call ((ok__law_right (P := P) (w := w) (base := base) fx).mono (by omega)) rfl hr tk (by rfl) fx.m__law_right fx.F__law_right.kp fx.b__law_right (v_gcons (v_call ((ok__law_bare (P := P) (w := w) (base := base) fx).mono (by omega)) rfl hr tk (by rfl) fx.m__law_bare fx.F__law_bare.kp fx.b__law_bare (v_glend (i := 2) (by rfl) (by exact .inl rfl) v_gnil) F__law_bare_len) v_gnil) F__law_right_len))))))) (v_sone (v_ret v_bl)) v_sdone))))
      (v_sone (v_ret (v_pcall ((ok__law_same (P := P) (w := w) (base := base) fx).mono (by omega)) rfl hr tk (by rfl) fx.m__law_same fx.F__law_same.kp fx.b__law_same (v_cons (v_lst (v_cons (v_call ((ok_alike_lots (P := P) (w := w) (base := base) fx).mono (by omega)) rfl hr tk (by rfl) fx.m_alike_lots fx.F_alike_lots.kp fx.b_alike_lots (v_gcons (v_tup v_nil) v_gnil) F_alike_lots_len) (v_cons (v_call ((ok_firm_lots (P := P) (w := w) (base := base) fx).mono (by omega)) rfl hr tk (by rfl) fx.m_firm_lots fx.F_firm_lots.kp fx.b_firm_lots (v_gcons (v_tup v_nil) v_gnil) F_firm_lots_len) (v_cons (v_call ((ok_is_simple (P := P) (w := w) (base := base) fx).mono (by omega)) rfl hr tk (by rfl) fx.m_is_simple fx.F_is_simple.kp fx.b_is_simple (v_gcons (v_tup v_nil) v_gnil) F_is_simple_len) (v_cons (v_call ((ok_alike_lots (P := P) (w := w) (base := base) fx).mono (by omega)) rfl hr tk (by rfl) fx.m_alike_lots fx.F_alike_lots.kp fx.b_alike_lots (v_gcons (v_tup (v_cons (v_tup v_nil) v_nil)) v_gnil) F_alike_lots_len) (v_cons (v_call ((ok_is_simple (P := P) (w := w) (base := base) fx).mono (by omega)) rfl hr tk (by rfl) fx.m_is_simple fx.F_is_simple.kp fx.b_is_simple (v_gcons (v_tup (v_cons (v_tup v_nil) v_nil)) v_gnil) F_is_simple_len) v_nil)))))) (v_cons (v_lst (v_cons (v_lst v_nil) (v_cons (v_lst v_nil) (v_cons v_bl (v_cons (v_lst (v_cons (v_tup (v_cons v_int v_nil)) v_nil)) (v_cons v_bl v_nil)))))) v_nil)) F__law_same_len))))
end
end PV.K48

namespace PV.K48
open PySem PySem.Spec PyProof.Rows L2 PV
set_option maxHeartbeats 0 in
theorem all_mk {l : PySem.W.OpenLaw} {w : World} {K : PySem.W.Frag} {h : Heap} {mg : Str → Option Value} {fa : Addr} (X : K.In h) (G : h.Ns mainGlobals mg) (hfa : mg "law" = some (.ref fa))
    {f0 : Addr} {od0 an0 : Option Addr} {sl0 : Array (Option Value)} {oc0 kV0 dc0 pm0 cd0 ct0 : Value} (a0 : PySem.W.nsIn K mainGlobals "_law_same" = some (some (.ref f0))) (l0 : K.lookup f0 = some ⟨oc0, od0, .func (PySem.W.fnOf "_law_same" "_law_same" (defArgs s__law_same) (defBody s__law_same) (defScope s__law_same) .none kV0 dc0 pm0 an0 cd0 ct0), sl0⟩) (c0 : PySem.W.codeIn K cd0 "_law_same" = true) (k0 : PySem.W.keepIn K (.ref f0) = true)
    {f1 : Addr} {od1 an1 : Option Addr} {sl1 : Array (Option Value)} {oc1 kV1 dc1 pm1 cd1 ct1 : Value} (a1 : PySem.W.nsIn K mainGlobals "_law_feed" = some (some (.ref f1))) (l1 : K.lookup f1 = some ⟨oc1, od1, .func (PySem.W.fnOf "_law_feed" "_law_feed" (defArgs s__law_feed) (defBody s__law_feed) (defScope s__law_feed) .none kV1 dc1 pm1 an1 cd1 ct1), sl1⟩) (c1 : PySem.W.codeIn K cd1 "_law_feed" = true) (k1 : PySem.W.keepIn K (.ref f1) = true)
    {f2 : Addr} {od2 an2 : Option Addr} {sl2 : Array (Option Value)} {oc2 kV2 dc2 pm2 cd2 ct2 : Value} (a2 : PySem.W.nsIn K mainGlobals "is_tuple_of" = some (some (.ref f2))) (l2 : K.lookup f2 = some ⟨oc2, od2, .func (PySem.W.fnOf "is_tuple_of" "is_tuple_of" (defArgs s_is_tuple_of) (defBody s_is_tuple_of) (defScope s_is_tuple_of) .none kV2 dc2 pm2 an2 cd2 ct2), sl2⟩) (c2 : PySem.W.codeIn K cd2 "is_tuple_of" = true) (k2 : PySem.W.keepIn K (.ref f2) = true)
    {f3 : Addr} {od3 an3 : Option Addr} {sl3 : Array (Option Value)} {oc3 kV3 dc3 pm3 cd3 ct3 : Value} (a3 : PySem.W.nsIn K mainGlobals "is_rising" = some (some (.ref f3))) (l3 : K.lookup f3 = some ⟨oc3, od3, .func (PySem.W.fnOf "is_rising" "is_rising" (defArgs s_is_rising) (defBody s_is_rising) (defScope s_is_rising) .none kV3 dc3 pm3 an3 cd3 ct3), sl3⟩) (c3 : PySem.W.codeIn K cd3 "is_rising" = true) (k3 : PySem.W.keepIn K (.ref f3) = true)
    {f4 : Addr} {od4 an4 : Option Addr} {sl4 : Array (Option Value)} {oc4 kV4 dc4 pm4 cd4 ct4 : Value} (a4 : PySem.W.nsIn K mainGlobals "is_integer" = some (some (.ref f4))) (l4 : K.lookup f4 = some ⟨oc4, od4, .func (PySem.W.fnOf "is_integer" "is_integer" (defArgs s_is_integer) (defBody s_is_integer) (defScope s_is_integer) .none kV4 dc4 pm4 an4 cd4 ct4), sl4⟩) (c4 : PySem.W.codeIn K cd4 "is_integer" = true) (k4 : PySem.W.keepIn K (.ref f4) = true)
    {f5 : Addr} {od5 an5 : Option Addr} {sl5 : Array (Option Value)} {oc5 kV5 dc5 pm5 cd5 ct5 : Value} (a5 : PySem.W.nsIn K mainGlobals "is_within" = some (some (.ref f5))) (l5 : K.lookup f5 = some ⟨oc5, od5, .func (PySem.W.fnOf "is_within" "is_within" (defArgs s_is_within) (defBody s_is_within) (defScope s_is_within) .none kV5 dc5 pm5 an5 cd5 ct5), sl5⟩) (c5 : PySem.W.codeIn K cd5 "is_within" = true) (k5 : PySem.W.keepIn K (.ref f5) = true)
    {f6 : Addr} {od6 an6 : Option Addr} {sl6 : Array (Option Value)} {oc6 kV6 dc6 pm6 cd6 ct6 : Value} (a6 : PySem.W.nsIn K mainGlobals "is_lot" = some (some (.ref f6))) (l6 : K.lookup f6 = some ⟨oc6, od6, .func (PySem.W.fnOf "is_lot" "is_lot" (defArgs s_is_lot) (defBody s_is_lot) (defScope s_is_lot) .none kV6 dc6 pm6 an6 cd6 ct6), sl6⟩) (c6 : PySem.W.codeIn K cd6 "is_lot" = true) (k6 : PySem.W.keepIn K (.ref f6) = true)
    {f7 : Addr} {od7 an7 : Option Addr} {sl7 : Array (Option Value)} {oc7 kV7 dc7 pm7 cd7 ct7 : Value} (a7 : PySem.W.nsIn K mainGlobals "is_table_form" = some (some (.ref f7))) (l7 : K.lookup f7 = some ⟨oc7, od7, .func (PySem.W.fnOf "is_table_form" "is_table_form" (defArgs s_is_table_form) (defBody s_is_table_form) (defScope s_is_table_form) .none kV7 dc7 pm7 an7 cd7 ct7), sl7⟩) (c7 : PySem.W.codeIn K cd7 "is_table_form" = true) (k7 : PySem.W.keepIn K (.ref f7) = true)
    {f8 : Addr} {od8 an8 : Option Addr} {sl8 : Array (Option Value)} {oc8 kV8 dc8 pm8 cd8 ct8 : Value} (a8 : PySem.W.nsIn K mainGlobals "need_table" = some (some (.ref f8))) (l8 : K.lookup f8 = some ⟨oc8, od8, .func (PySem.W.fnOf "need_table" "need_table" (defArgs s_need_table) (defBody s_need_table) (defScope s_need_table) .none kV8 dc8 pm8 an8 cd8 ct8), sl8⟩) (c8 : PySem.W.codeIn K cd8 "need_table" = true) (k8 : PySem.W.keepIn K (.ref f8) = true)
    {f9 : Addr} {od9 an9 : Option Addr} {sl9 : Array (Option Value)} {oc9 kV9 dc9 pm9 cd9 ct9 : Value} (a9 : PySem.W.nsIn K mainGlobals "lot_by" = some (some (.ref f9))) (l9 : K.lookup f9 = some ⟨oc9, od9, .func (PySem.W.fnOf "lot_by" "lot_by" (defArgs s_lot_by) (defBody s_lot_by) (defScope s_lot_by) .none kV9 dc9 pm9 an9 cd9 ct9), sl9⟩) (c9 : PySem.W.codeIn K cd9 "lot_by" = true) (k9 : PySem.W.keepIn K (.ref f9) = true)
    {f10 : Addr} {od10 an10 : Option Addr} {sl10 : Array (Option Value)} {oc10 kV10 dc10 pm10 cd10 ct10 : Value} (a10 : PySem.W.nsIn K mainGlobals "lots_of" = some (some (.ref f10))) (l10 : K.lookup f10 = some ⟨oc10, od10, .func (PySem.W.fnOf "lots_of" "lots_of" (defArgs s_lots_of) (defBody s_lots_of) (defScope s_lots_of) .none kV10 dc10 pm10 an10 cd10 ct10), sl10⟩) (c10 : PySem.W.codeIn K cd10 "lots_of" = true) (k10 : PySem.W.keepIn K (.ref f10) = true)
    {f11 : Addr} {od11 an11 : Option Addr} {sl11 : Array (Option Value)} {oc11 kV11 dc11 pm11 cd11 ct11 : Value} (a11 : PySem.W.nsIn K mainGlobals "masks_of" = some (some (.ref f11))) (l11 : K.lookup f11 = some ⟨oc11, od11, .func (PySem.W.fnOf "masks_of" "masks_of" (defArgs s_masks_of) (defBody s_masks_of) (defScope s_masks_of) .none kV11 dc11 pm11 an11 cd11 ct11), sl11⟩) (c11 : PySem.W.codeIn K cd11 "masks_of" = true) (k11 : PySem.W.keepIn K (.ref f11) = true)
    {f12 : Addr} {od12 an12 : Option Addr} {sl12 : Array (Option Value)} {oc12 kV12 dc12 pm12 cd12 ct12 : Value} (a12 : PySem.W.nsIn K mainGlobals "is_alike_mask" = some (some (.ref f12))) (l12 : K.lookup f12 = some ⟨oc12, od12, .func (PySem.W.fnOf "is_alike_mask" "is_alike_mask" (defArgs s_is_alike_mask) (defBody s_is_alike_mask) (defScope s_is_alike_mask) .none kV12 dc12 pm12 an12 cd12 ct12), sl12⟩) (c12 : PySem.W.codeIn K cd12 "is_alike_mask" = true) (k12 : PySem.W.keepIn K (.ref f12) = true)
    {f13 : Addr} {od13 an13 : Option Addr} {sl13 : Array (Option Value)} {oc13 kV13 dc13 pm13 cd13 ct13 : Value} (a13 : PySem.W.nsIn K mainGlobals "alike_masks" = some (some (.ref f13))) (l13 : K.lookup f13 = some ⟨oc13, od13, .func (PySem.W.fnOf "alike_masks" "alike_masks" (defArgs s_alike_masks) (defBody s_alike_masks) (defScope s_alike_masks) .none kV13 dc13 pm13 an13 cd13 ct13), sl13⟩) (c13 : PySem.W.codeIn K cd13 "alike_masks" = true) (k13 : PySem.W.keepIn K (.ref f13) = true)
    {f14 : Addr} {od14 an14 : Option Addr} {sl14 : Array (Option Value)} {oc14 kV14 dc14 pm14 cd14 ct14 : Value} (a14 : PySem.W.nsIn K mainGlobals "alike_lots" = some (some (.ref f14))) (l14 : K.lookup f14 = some ⟨oc14, od14, .func (PySem.W.fnOf "alike_lots" "alike_lots" (defArgs s_alike_lots) (defBody s_alike_lots) (defScope s_alike_lots) .none kV14 dc14 pm14 an14 cd14 ct14), sl14⟩) (c14 : PySem.W.codeIn K cd14 "alike_lots" = true) (k14 : PySem.W.keepIn K (.ref f14) = true)
    {f15 : Addr} {od15 an15 : Option Addr} {sl15 : Array (Option Value)} {oc15 kV15 dc15 pm15 cd15 ct15 : Value} (a15 : PySem.W.nsIn K mainGlobals "do_cross" = some (some (.ref f15))) (l15 : K.lookup f15 = some ⟨oc15, od15, .func (PySem.W.fnOf "do_cross" "do_cross" (defArgs s_do_cross) (defBody s_do_cross) (defScope s_do_cross) .none kV15 dc15 pm15 an15 cd15 ct15), sl15⟩) (c15 : PySem.W.codeIn K cd15 "do_cross" = true) (k15 : PySem.W.keepIn K (.ref f15) = true)
    {f16 : Addr} {od16 an16 : Option Addr} {sl16 : Array (Option Value)} {oc16 kV16 dc16 pm16 cd16 ct16 : Value} (a16 : PySem.W.nsIn K mainGlobals "firm_masks" = some (some (.ref f16))) (l16 : K.lookup f16 = some ⟨oc16, od16, .func (PySem.W.fnOf "firm_masks" "firm_masks" (defArgs s_firm_masks) (defBody s_firm_masks) (defScope s_firm_masks) .none kV16 dc16 pm16 an16 cd16 ct16), sl16⟩) (c16 : PySem.W.codeIn K cd16 "firm_masks" = true) (k16 : PySem.W.keepIn K (.ref f16) = true)
    {f17 : Addr} {od17 an17 : Option Addr} {sl17 : Array (Option Value)} {oc17 kV17 dc17 pm17 cd17 ct17 : Value} (a17 : PySem.W.nsIn K mainGlobals "firm_lots" = some (some (.ref f17))) (l17 : K.lookup f17 = some ⟨oc17, od17, .func (PySem.W.fnOf "firm_lots" "firm_lots" (defArgs s_firm_lots) (defBody s_firm_lots) (defScope s_firm_lots) .none kV17 dc17 pm17 an17 cd17 ct17), sl17⟩) (c17 : PySem.W.codeIn K cd17 "firm_lots" = true) (k17 : PySem.W.keepIn K (.ref f17) = true)
    {f18 : Addr} {od18 an18 : Option Addr} {sl18 : Array (Option Value)} {oc18 kV18 dc18 pm18 cd18 ct18 : Value} (a18 : PySem.W.nsIn K mainGlobals "bits_in" = some (some (.ref f18))) (l18 : K.lookup f18 = some ⟨oc18, od18, .func (PySem.W.fnOf "bits_in" "bits_in" (defArgs s_bits_in) (defBody s_bits_in) (defScope s_bits_in) .none kV18 dc18 pm18 an18 cd18 ct18), sl18⟩) (c18 : PySem.W.codeIn K cd18 "bits_in" = true) (k18 : PySem.W.keepIn K (.ref f18) = true)
    {f19 : Addr} {od19 an19 : Option Addr} {sl19 : Array (Option Value)} {oc19 kV19 dc19 pm19 cd19 ct19 : Value} (a19 : PySem.W.nsIn K mainGlobals "is_simple_form" = some (some (.ref f19))) (l19 : K.lookup f19 = some ⟨oc19, od19, .func (PySem.W.fnOf "is_simple_form" "is_simple_form" (defArgs s_is_simple_form) (defBody s_is_simple_form) (defScope s_is_simple_form) .none kV19 dc19 pm19 an19 cd19 ct19), sl19⟩) (c19 : PySem.W.codeIn K cd19 "is_simple_form" = true) (k19 : PySem.W.keepIn K (.ref f19) = true)
    {f20 : Addr} {od20 an20 : Option Addr} {sl20 : Array (Option Value)} {oc20 kV20 dc20 pm20 cd20 ct20 : Value} (a20 : PySem.W.nsIn K mainGlobals "is_simple" = some (some (.ref f20))) (l20 : K.lookup f20 = some ⟨oc20, od20, .func (PySem.W.fnOf "is_simple" "is_simple" (defArgs s_is_simple) (defBody s_is_simple) (defScope s_is_simple) .none kV20 dc20 pm20 an20 cd20 ct20), sl20⟩) (c20 : PySem.W.codeIn K cd20 "is_simple" = true) (k20 : PySem.W.keepIn K (.ref f20) = true)
    {f21 : Addr} {od21 an21 : Option Addr} {sl21 : Array (Option Value)} {oc21 kV21 dc21 pm21 cd21 ct21 : Value} (a21 : PySem.W.nsIn K mainGlobals "_law_lot" = some (some (.ref f21))) (l21 : K.lookup f21 = some ⟨oc21, od21, .func (PySem.W.fnOf "_law_lot" "_law_lot" (defArgs s__law_lot) (defBody s__law_lot) (defScope s__law_lot) .none kV21 dc21 pm21 an21 cd21 ct21), sl21⟩) (c21 : PySem.W.codeIn K cd21 "_law_lot" = true) (k21 : PySem.W.keepIn K (.ref f21) = true)
    {f22 : Addr} {od22 an22 : Option Addr} {sl22 : Array (Option Value)} {oc22 kV22 dc22 pm22 cd22 ct22 : Value} (a22 : PySem.W.nsIn K mainGlobals "_law_table" = some (some (.ref f22))) (l22 : K.lookup f22 = some ⟨oc22, od22, .func (PySem.W.fnOf "_law_table" "_law_table" (defArgs s__law_table) (defBody s__law_table) (defScope s__law_table) .none kV22 dc22 pm22 an22 cd22 ct22), sl22⟩) (c22 : PySem.W.codeIn K cd22 "_law_table" = true) (k22 : PySem.W.keepIn K (.ref f22) = true)
    {f23 : Addr} {od23 an23 : Option Addr} {sl23 : Array (Option Value)} {oc23 kV23 dc23 pm23 cd23 ct23 : Value} (a23 : PySem.W.nsIn K mainGlobals "_law_alike" = some (some (.ref f23))) (l23 : K.lookup f23 = some ⟨oc23, od23, .func (PySem.W.fnOf "_law_alike" "_law_alike" (defArgs s__law_alike) (defBody s__law_alike) (defScope s__law_alike) .none kV23 dc23 pm23 an23 cd23 ct23), sl23⟩) (c23 : PySem.W.codeIn K cd23 "_law_alike" = true) (k23 : PySem.W.keepIn K (.ref f23) = true)
    {f24 : Addr} {od24 an24 : Option Addr} {sl24 : Array (Option Value)} {oc24 kV24 dc24 pm24 cd24 ct24 : Value} (a24 : PySem.W.nsIn K mainGlobals "_law_right" = some (some (.ref f24))) (l24 : K.lookup f24 = some ⟨oc24, od24, .func (PySem.W.fnOf "_law_right" "_law_right" (defArgs s__law_right) (defBody s__law_right) (defScope s__law_right) .none kV24 dc24 pm24 an24 cd24 ct24), sl24⟩) (c24 : PySem.W.codeIn K cd24 "_law_right" = true) (k24 : PySem.W.keepIn K (.ref f24) = true)
    {f25 : Addr} {od25 an25 : Option Addr} {sl25 : Array (Option Value)} {oc25 kV25 dc25 pm25 cd25 ct25 : Value} (a25 : PySem.W.nsIn K mainGlobals "_law_draw" = some (some (.ref f25))) (l25 : K.lookup f25 = some ⟨oc25, od25, .func (PySem.W.fnOf "_law_draw" "_law_draw" (defArgs s__law_draw) (defBody s__law_draw) (defScope s__law_draw) .none kV25 dc25 pm25 an25 cd25 ct25), sl25⟩) (c25 : PySem.W.codeIn K cd25 "_law_draw" = true) (k25 : PySem.W.keepIn K (.ref f25) = true)
    {f26 : Addr} {od26 an26 : Option Addr} {sl26 : Array (Option Value)} {oc26 kV26 dc26 pm26 cd26 ct26 : Value} (a26 : PySem.W.nsIn K mainGlobals "_law_mixed" = some (some (.ref f26))) (l26 : K.lookup f26 = some ⟨oc26, od26, .func (PySem.W.fnOf "_law_mixed" "_law_mixed" (defArgs s__law_mixed) (defBody s__law_mixed) (defScope s__law_mixed) .none kV26 dc26 pm26 an26 cd26 ct26), sl26⟩) (c26 : PySem.W.codeIn K cd26 "_law_mixed" = true) (k26 : PySem.W.keepIn K (.ref f26) = true)
    {f27 : Addr} {od27 an27 : Option Addr} {sl27 : Array (Option Value)} {oc27 kV27 dc27 pm27 cd27 ct27 : Value} (a27 : PySem.W.nsIn K mainGlobals "_law_beats" = some (some (.ref f27))) (l27 : K.lookup f27 = some ⟨oc27, od27, .func (PySem.W.fnOf "_law_beats" "_law_beats" (defArgs s__law_beats) (defBody s__law_beats) (defScope s__law_beats) .none kV27 dc27 pm27 an27 cd27 ct27), sl27⟩) (c27 : PySem.W.codeIn K cd27 "_law_beats" = true) (k27 : PySem.W.keepIn K (.ref f27) = true)
    {f28 : Addr} {od28 an28 : Option Addr} {sl28 : Array (Option Value)} {oc28 kV28 dc28 pm28 cd28 ct28 : Value} (a28 : PySem.W.nsIn K mainGlobals "_law_wins" = some (some (.ref f28))) (l28 : K.lookup f28 = some ⟨oc28, od28, .func (PySem.W.fnOf "_law_wins" "_law_wins" (defArgs s__law_wins) (defBody s__law_wins) (defScope s__law_wins) .none kV28 dc28 pm28 an28 cd28 ct28), sl28⟩) (c28 : PySem.W.codeIn K cd28 "_law_wins" = true) (k28 : PySem.W.keepIn K (.ref f28) = true)
    {f29 : Addr} {od29 an29 : Option Addr} {sl29 : Array (Option Value)} {oc29 kV29 dc29 pm29 cd29 ct29 : Value} (a29 : PySem.W.nsIn K mainGlobals "_law_put" = some (some (.ref f29))) (l29 : K.lookup f29 = some ⟨oc29, od29, .func (PySem.W.fnOf "_law_put" "_law_put" (defArgs s__law_put) (defBody s__law_put) (defScope s__law_put) .none kV29 dc29 pm29 an29 cd29 ct29), sl29⟩) (c29 : PySem.W.codeIn K cd29 "_law_put" = true) (k29 : PySem.W.keepIn K (.ref f29) = true)
    {f30 : Addr} {od30 an30 : Option Addr} {sl30 : Array (Option Value)} {oc30 kV30 dc30 pm30 cd30 ct30 : Value} (a30 : PySem.W.nsIn K mainGlobals "_law_places" = some (some (.ref f30))) (l30 : K.lookup f30 = some ⟨oc30, od30, .func (PySem.W.fnOf "_law_places" "_law_places" (defArgs s__law_places) (defBody s__law_places) (defScope s__law_places) .none kV30 dc30 pm30 an30 cd30 ct30), sl30⟩) (c30 : PySem.W.codeIn K cd30 "_law_places" = true) (k30 : PySem.W.keepIn K (.ref f30) = true)
    {f31 : Addr} {od31 an31 : Option Addr} {sl31 : Array (Option Value)} {oc31 kV31 dc31 pm31 cd31 ct31 : Value} (a31 : PySem.W.nsIn K mainGlobals "_law_called" = some (some (.ref f31))) (l31 : K.lookup f31 = some ⟨oc31, od31, .func (PySem.W.fnOf "_law_called" "_law_called" (defArgs s__law_called) (defBody s__law_called) (defScope s__law_called) .none kV31 dc31 pm31 an31 cd31 ct31), sl31⟩) (c31 : PySem.W.codeIn K cd31 "_law_called" = true) (k31 : PySem.W.keepIn K (.ref f31) = true)
    {f32 : Addr} {od32 an32 : Option Addr} {sl32 : Array (Option Value)} {oc32 kV32 dc32 pm32 cd32 ct32 : Value} (a32 : PySem.W.nsIn K mainGlobals "_law_bare" = some (some (.ref f32))) (l32 : K.lookup f32 = some ⟨oc32, od32, .func (PySem.W.fnOf "_law_bare" "_law_bare" (defArgs s__law_bare) (defBody s__law_bare) (defScope s__law_bare) .none kV32 dc32 pm32 an32 cd32 ct32), sl32⟩) (c32 : PySem.W.codeIn K cd32 "_law_bare" = true) (k32 : PySem.W.keepIn K (.ref f32) = true)
    {f33 : Addr} {od33 an33 : Option Addr} {sl33 : Array (Option Value)} {oc33 kV33 dc33 pm33 cd33 ct33 : Value} (a33 : PySem.W.nsIn K mainGlobals "law" = some (some (.ref f33))) (l33 : K.lookup f33 = some ⟨oc33, od33, .func (PySem.W.fnOf "law" "law" (defArgs s_law) (defBody s_law) (defScope s_law) .none kV33 dc33 pm33 an33 cd33 ct33), sl33⟩) (c33 : PySem.W.codeIn K cd33 "law" = true) (k33 : PySem.W.keepIn K (.ref f33) = true)
    (z_all : PySem.W.nsIn K mainGlobals "all" = some none)
    (z_any : PySem.W.nsIn K mainGlobals "any" = some none)
    (z_bool : PySem.W.nsIn K mainGlobals "bool" = some none)
    (z_enumerate : PySem.W.nsIn K mainGlobals "enumerate" = some none)
    (z_int : PySem.W.nsIn K mainGlobals "int" = some none)
    (z_isinstance : PySem.W.nsIn K mainGlobals "isinstance" = some none)
    (z_len : PySem.W.nsIn K mainGlobals "len" = some none)
    (z_list : PySem.W.nsIn K mainGlobals "list" = some none)
    (z_max : PySem.W.nsIn K mainGlobals "max" = some none)
    (z_min : PySem.W.nsIn K mainGlobals "min" = some none)
    (z_range : PySem.W.nsIn K mainGlobals "range" = some none)
    (z_sorted : PySem.W.nsIn K mainGlobals "sorted" = some none)
    (z_str : PySem.W.nsIn K mainGlobals "str" = some none)
    (z_sum : PySem.W.nsIn K mainGlobals "sum" = some none)
    (z_tuple : PySem.W.nsIn K mainGlobals "tuple" = some none)
    (z_zip : PySem.W.nsIn K mainGlobals "zip" = some none)
    {t_MOST_PLAYERS : Tok} (g_MOST_PLAYERS : PySem.W.nsIn K mainGlobals "MOST_PLAYERS" = some (some (.int 8 t_MOST_PLAYERS)))
    : ∃ fd : FuncData, (∀ (s : Shared) (v : Value), BindsTo s fd ⟨[v], []⟩ [("script", v)]) ∧ ∀ base : Heap, K.In base → base.Ns mainGlobals mg → FnOk l.prog w K mg base (L2.CX l.prog w) 11 fa fd ["script"] (spLaw K) := by
  have e := hfa.symm.trans (PySem.W.mg_of X G a33)
  cases e
  have F0 := fun_mk (st := s__law_same) l0 c0 k0
  have F1 := fun_mk (st := s__law_feed) l1 c1 k1
  have F2 := fun_mk (st := s_is_tuple_of) l2 c2 k2
  have F3 := fun_mk (st := s_is_rising) l3 c3 k3
  have F4 := fun_mk (st := s_is_integer) l4 c4 k4
  have F5 := fun_mk (st := s_is_within) l5 c5 k5
  have F6 := fun_mk (st := s_is_lot) l6 c6 k6
  have F7 := fun_mk (st := s_is_table_form) l7 c7 k7
  have F8 := fun_mk (st := s_need_table) l8 c8 k8
  have F9 := fun_mk (st := s_lot_by) l9 c9 k9
  have F10 := fun_mk (st := s_lots_of) l10 c10 k10
  have F11 := fun_mk (st := s_masks_of) l11 c11 k11
  have F12 := fun_mk (st := s_is_alike_mask) l12 c12 k12
  have F13 := fun_mk (st := s_alike_masks) l13 c13 k13
  have F14 := fun_mk (st := s_alike_lots) l14 c14 k14
  have F15 := fun_mk (st := s_do_cross) l15 c15 k15
  have F16 := fun_mk (st := s_firm_masks) l16 c16 k16
  have F17 := fun_mk (st := s_firm_lots) l17 c17 k17
  have F18 := fun_mk (st := s_bits_in) l18 c18 k18
  have F19 := fun_mk (st := s_is_simple_form) l19 c19 k19
  have F20 := fun_mk (st := s_is_simple) l20 c20 k20
  have F21 := fun_mk (st := s__law_lot) l21 c21 k21
  have F22 := fun_mk (st := s__law_table) l22 c22 k22
  have F23 := fun_mk (st := s__law_alike) l23 c23 k23
  have F24 := fun_mk (st := s__law_right) l24 c24 k24
  have F25 := fun_mk (st := s__law_draw) l25 c25 k25
  have F26 := fun_mk (st := s__law_mixed) l26 c26 k26
  have F27 := fun_mk (st := s__law_beats) l27 c27 k27
  have F28 := fun_mk (st := s__law_wins) l28 c28 k28
  have F29 := fun_mk (st := s__law_put) l29 c29 k29
  have F30 := fun_mk (st := s__law_places) l30 c30 k30
  have F31 := fun_mk (st := s__law_called) l31 c31 k31
  have F32 := fun_mk (st := s__law_bare) l32 c32 k32
  have F33 := fun_mk (st := s_law) l33 c33 k33
  have b0 := F0.binds (ps := ["told", "due"]) fun _ _ _ _ _ _ us hl => match us, hl with | [_, _], _ => rfl
  have b1 := F1.binds (ps := ["script", "k"]) fun _ _ _ _ _ _ us hl => match us, hl with | [_, _], _ => rfl
  have b2 := F2.binds (ps := ["thing", "least", "most"]) fun _ _ _ _ _ _ us hl => match us, hl with | [_, _, _], _ => rfl
  have b3 := F3.binds (ps := ["parts"]) fun _ _ _ _ _ _ us hl => match us, hl with | [_], _ => rfl
  have b4 := F4.binds (ps := ["thing"]) fun _ _ _ _ _ _ us hl => match us, hl with | [_], _ => rfl
  have b5 := F5.binds (ps := ["thing", "least", "most"]) fun _ _ _ _ _ _ us hl => match us, hl with | [_, _, _], _ => rfl
  have b6 := F6.binds (ps := ["thing", "many"]) fun _ _ _ _ _ _ us hl => match us, hl with | [_, _], _ => rfl
  have b7 := F7.binds (ps := ["thing"]) fun _ _ _ _ _ _ us hl => match us, hl with | [_], _ => rfl
  have b8 := F8.binds (ps := ["table"]) fun _ _ _ _ _ _ us hl => match us, hl with | [_], _ => rfl
  have b9 := F9.binds (ps := ["mask"]) fun _ _ _ _ _ _ us hl => match us, hl with | [_], _ => rfl
  have b10 := F10.binds (ps := ["masks"]) fun _ _ _ _ _ _ us hl => match us, hl with | [_], _ => rfl
  have b11 := F11.binds (ps := ["table"]) fun _ _ _ _ _ _ us hl => match us, hl with | [_], _ => rfl
  have b12 := F12.binds (ps := ["masks", "mask"]) fun _ _ _ _ _ _ us hl => match us, hl with | [_, _], _ => rfl
  have b13 := F13.binds (ps := ["table"]) fun _ _ _ _ _ _ us hl => match us, hl with | [_], _ => rfl
  have b14 := F14.binds (ps := ["table"]) fun _ _ _ _ _ _ us hl => match us, hl with | [_], _ => rfl
  have b15 := F15.binds (ps := ["one", "other"]) fun _ _ _ _ _ _ us hl => match us, hl with | [_, _], _ => rfl
  have b16 := F16.binds (ps := ["table"]) fun _ _ _ _ _ _ us hl => match us, hl with | [_], _ => rfl
  have b17 := F17.binds (ps := ["table"]) fun _ _ _ _ _ _ us hl => match us, hl with | [_], _ => rfl
  have b18 := F18.binds (ps := ["mask"]) fun _ _ _ _ _ _ us hl => match us, hl with | [_], _ => rfl
  have b19 := F19.binds (ps := ["table"]) fun _ _ _ _ _ _ us hl => match us, hl with | [_], _ => rfl
  have b20 := F20.binds (ps := ["table"]) fun _ _ _ _ _ _ us hl => match us, hl with | [_], _ => rfl
  have b21 := F21.binds (ps := ["mask"]) fun _ _ _ _ _ _ us hl => match us, hl with | [_], _ => rfl
  have b22 := F22.binds (ps := ["wins"]) fun _ _ _ _ _ _ us hl => match us, hl with | [_], _ => rfl
  have b23 := F23.binds (ps := ["wins"]) fun _ _ _ _ _ _ us hl => match us, hl with | [_], _ => rfl
  have b24 := F24.binds (ps := ["wins"]) fun _ _ _ _ _ _ us hl => match us, hl with | [_], _ => rfl
  have b25 := F25.binds (ps := ["feed", "many"]) fun _ _ _ _ _ _ us hl => match us, hl with | [_, _], _ => rfl
  have b26 := F26.binds (ps := ["feed", "things"]) fun _ _ _ _ _ _ us hl => match us, hl with | [_, _], _ => rfl
  have b27 := F27.binds (ps := ["feed", "way", "marks", "one", "other"]) fun _ _ _ _ _ _ us hl => match us, hl with | [_, _, _, _, _], _ => rfl
  have b28 := F28.binds (ps := ["feed", "least", "most"]) fun _ _ _ _ _ _ us hl => match us, hl with | [_, _, _], _ => rfl
  have b29 := F29.binds (ps := ["wins", "parts"]) fun _ _ _ _ _ _ us hl => match us, hl with | [_, _], _ => rfl
  have b30 := F30.binds (ps := ["feed"]) fun _ _ _ _ _ _ us hl => match us, hl with | [_], _ => rfl
  have b31 := F31.binds (ps := ["wins", "names"]) fun _ _ _ _ _ _ us hl => match us, hl with | [_, _], _ => rfl
  have b32 := F32.binds (ps := ["feed"]) fun _ _ _ _ _ _ us hl => match us, hl with | [_], _ => rfl
  have b33 := F33.binds (ps := ["script"]) fun _ _ _ _ _ _ us hl => match us, hl with | [_], _ => rfl
  have q0 := Fun.kb (ps := ["table"]) (ks := ["table"]) (π := [0]) F17 0 rfl fun _ _ _ _ _ _ us ws h1 h2 => match us, ws, h1, h2 with | [], [_], _, _ => rfl
  have q1 := Fun.kb (ps := ["table"]) (ks := ["table"]) (π := [0]) F20 0 rfl fun _ _ _ _ _ _ us ws h1 h2 => match us, ws, h1, h2 with | [], [_], _, _ => rfl
  have q2 := Fun.kb (ps := ["table"]) (ks := ["table"]) (π := [0]) F14 0 rfl fun _ _ _ _ _ _ us ws h1 h2 => match us, ws, h1, h2 with | [], [_], _, _ => rfl
  let fx : Fx K mg := { a__law_same := f0, d__law_same := _, F__law_same := F0, m__law_same := PySem.W.mg_of X G a0, b__law_same := b0, a__law_feed := f1, d__law_feed := _, F__law_feed := F1, m__law_feed := PySem.W.mg_of X G a1, b__law_feed := b1, a_is_tuple_of := f2, d_is_tuple_of := _, F_is_tuple_of := F2, m_is_tuple_of := PySem.W.mg_of X G a2, b_is_tuple_of := b2, a_is_rising := f3, d_is_rising := _, F_is_rising := F3, m_is_rising := PySem.W.mg_of X G a3, b_is_rising := b3, a_is_integer := f4, d_is_integer := _, F_is_integer := F4, m_is_integer := PySem.W.mg_of X G a4, b_is_integer := b4, a_is_within := f5, d_is_within := _, F_is_within := F5, m_is_within := PySem.W.mg_of X G a5, b_is_within := b5, a_is_lot := f6, d_is_lot := _, F_is_lot := F6, m_is_lot := PySem.W.mg_of X G a6, b_is_lot := b6, a_is_table_form := f7, d_is_table_form := _, F_is_table_form := F7, m_is_table_form := PySem.W.mg_of X G a7, b_is_table_form := b7, a_need_table := f8, d_need_table := _, F_need_table := F8, m_need_table := PySem.W.mg_of X G a8, b_need_table := b8, a_lot_by := f9, d_lot_by := _, F_lot_by := F9, m_lot_by := PySem.W.mg_of X G a9, b_lot_by := b9, a_lots_of := f10, d_lots_of := _, F_lots_of := F10, m_lots_of := PySem.W.mg_of X G a10, b_lots_of := b10, a_masks_of := f11, d_masks_of := _, F_masks_of := F11, m_masks_of := PySem.W.mg_of X G a11, b_masks_of := b11, a_is_alike_mask := f12, d_is_alike_mask := _, F_is_alike_mask := F12, m_is_alike_mask := PySem.W.mg_of X G a12, b_is_alike_mask := b12, a_alike_masks := f13, d_alike_masks := _, F_alike_masks := F13, m_alike_masks := PySem.W.mg_of X G a13, b_alike_masks := b13, a_alike_lots := f14, d_alike_lots := _, F_alike_lots := F14, m_alike_lots := PySem.W.mg_of X G a14, b_alike_lots := b14, a_do_cross := f15, d_do_cross := _, F_do_cross := F15, m_do_cross := PySem.W.mg_of X G a15, b_do_cross := b15, a_firm_masks := f16, d_firm_masks := _, F_firm_masks := F16, m_firm_masks := PySem.W.mg_of X G a16, b_firm_masks := b16, a_firm_lots := f17, d_firm_lots := _, F_firm_lots := F17, m_firm_lots := PySem.W.mg_of X G a17, b_firm_lots := b17, a_bits_in := f18, d_bits_in := _, F_bits_in := F18, m_bits_in := PySem.W.mg_of X G a18, b_bits_in := b18, a_is_simple_form := f19, d_is_simple_form := _, F_is_simple_form := F19, m_is_simple_form := PySem.W.mg_of X G a19, b_is_simple_form := b19, a_is_simple := f20, d_is_simple := _, F_is_simple := F20, m_is_simple := PySem.W.mg_of X G a20, b_is_simple := b20, a__law_lot := f21, d__law_lot := _, F__law_lot := F21, m__law_lot := PySem.W.mg_of X G a21, b__law_lot := b21, a__law_table := f22, d__law_table := _, F__law_table := F22, m__law_table := PySem.W.mg_of X G a22, b__law_table := b22, a__law_alike := f23, d__law_alike := _, F__law_alike := F23, m__law_alike := PySem.W.mg_of X G a23, b__law_alike := b23, a__law_right := f24, d__law_right := _, F__law_right := F24, m__law_right := PySem.W.mg_of X G a24, b__law_right := b24, a__law_draw := f25, d__law_draw := _, F__law_draw := F25, m__law_draw := PySem.W.mg_of X G a25, b__law_draw := b25, a__law_mixed := f26, d__law_mixed := _, F__law_mixed := F26, m__law_mixed := PySem.W.mg_of X G a26, b__law_mixed := b26, a__law_beats := f27, d__law_beats := _, F__law_beats := F27, m__law_beats := PySem.W.mg_of X G a27, b__law_beats := b27, a__law_wins := f28, d__law_wins := _, F__law_wins := F28, m__law_wins := PySem.W.mg_of X G a28, b__law_wins := b28, a__law_put := f29, d__law_put := _, F__law_put := F29, m__law_put := PySem.W.mg_of X G a29, b__law_put := b29, a__law_places := f30, d__law_places := _, F__law_places := F30, m__law_places := PySem.W.mg_of X G a30, b__law_places := b30, a__law_called := f31, d__law_called := _, F__law_called := F31, m__law_called := PySem.W.mg_of X G a31, b__law_called := b31, a__law_bare := f32, d__law_bare := _, F__law_bare := F32, m__law_bare := PySem.W.mg_of X G a32, b__law_bare := b32, a_law := fa, d_law := _, F_law := F33, m_law := PySem.W.mg_of X G a33, b_law := b33, kb_firm_lots_0 := q0, kb_is_simple_1 := q1, kb_alike_lots_2 := q2, z_all := PySem.W.mg_none_of X G z_all, z_any := PySem.W.mg_none_of X G z_any, z_bool := PySem.W.mg_none_of X G z_bool, z_enumerate := PySem.W.mg_none_of X G z_enumerate, z_int := PySem.W.mg_none_of X G z_int, z_isinstance := PySem.W.mg_none_of X G z_isinstance, z_len := PySem.W.mg_none_of X G z_len, z_list := PySem.W.mg_none_of X G z_list, z_max := PySem.W.mg_none_of X G z_max, z_min := PySem.W.mg_none_of X G z_min, z_range := PySem.W.mg_none_of X G z_range, z_sorted := PySem.W.mg_none_of X G z_sorted, z_str := PySem.W.mg_none_of X G z_str, z_sum := PySem.W.mg_none_of X G z_sum, z_tuple := PySem.W.mg_none_of X G z_tuple, z_zip := PySem.W.mg_none_of X G z_zip, g_MOST_PLAYERS := ⟨_, PySem.W.mg_of X G g_MOST_PLAYERS⟩ }
  exact ⟨PySem.W.fnOf "law" "law" (defArgs s_law) (defBody s_law) (defScope s_law) .none kV33 dc33 pm33 an33 cd33 ct33, fun s v => .of_eq rfl, fun base _ _ => (ok_law fx).imp (fun vs H Q E h => law_sp law_true h)⟩
end PV.K48

open PySem PySem.W PyProof.Rows
set_option maxHeartbeats 0 in
theorem PySem.Challenge.cw_eachmeets_k48_whole_alike_and_firm_lots_holds : PySem.Challenge.rw_eachmeets_k48_whole_alike_and_firm_lots.Holds := by
  w_on; o_law; k_head; (case hw => w_witness2)
  k_fill
  refine L2.walk_ofB (l := PySem.Challenge.rw_eachmeets_k48_whole_alike_and_firm_lots) (n := 63) (k := 11) (x := "script") (CX := fun w => L2.CX PySem.Challenge.rw_eachmeets_k48_whole_alike_and_firm_lots.prog w) (sp := fun w => PV.spLaw _) rfl (by decide) rfl ⟨rfl, by decide, by decide⟩ (fun w h Y => PySem.W.kIn_of Y) ?F (fun w H a ns hl hb ho hS => ⟨a, ns, rfl, hS, hl, hb, fun _ => rfl⟩) (fun w H s e s' h => PV.cx_false h)
  case F =>
    intro w mg fa h KX G hmg
    refine' PV.K48.all_mk KX G hmg ?a0 ?l0 ?c0 ?k0 ?a1 ?l1 ?c1 ?k1 ?a2 ?l2 ?c2 ?k2 ?a3 ?l3 ?c3 ?k3 ?a4 ?l4 ?c4 ?k4 ?a5 ?l5 ?c5 ?k5 ?a6 ?l6 ?c6 ?k6 ?a7 ?l7 ?c7 ?k7 ?a8 ?l8 ?c8 ?k8 ?a9 ?l9 ?c9 ?k9 ?a10 ?l10 ?c10 ?k10 ?a11 ?l11 ?c11 ?k11 ?a12 ?l12 ?c12 ?k12 ?a13 ?l13 ?c13 ?k13 ?a14 ?l14 ?c14 ?k14 ?a15 ?l15 ?c15 ?k15 ?a16 ?l16 ?c16 ?k16 ?a17 ?l17 ?c17 ?k17 ?a18 ?l18 ?c18 ?k18 ?a19 ?l19 ?c19 ?k19 ?a20 ?l20 ?c20 ?k20 ?a21 ?l21 ?c21 ?k21 ?a22 ?l22 ?c22 ?k22 ?a23 ?l23 ?c23 ?k23 ?a24 ?l24 ?c24 ?k24 ?a25 ?l25 ?c25 ?k25 ?a26 ?l26 ?c26 ?k26 ?a27 ?l27 ?c27 ?k27 ?a28 ?l28 ?c28 ?k28 ?a29 ?l29 ?c29 ?k29 ?a30 ?l30 ?c30 ?k30 ?a31 ?l31 ?c31 ?k31 ?a32 ?l32 ?c32 ?k32 ?a33 ?l33 ?c33 ?k33 ?z_all ?z_any ?z_bool ?z_enumerate ?z_int ?z_isinstance ?z_len ?z_list ?z_max ?z_min ?z_range ?z_sorted ?z_str ?z_sum ?z_tuple ?z_zip ?g_MOST_PLAYERS
    (case a0 => k_is); (case l0 => k_is); (case c0 => k_is); (case k0 => k_is); (case a1 => k_is); (case l1 => k_is); (case c1 => k_is); (case k1 => k_is); (case a2 => k_is); (case l2 => k_is); (case c2 => k_is); (case k2 => k_is); (case a3 => k_is); (case l3 => k_is); (case c3 => k_is); (case k3 => k_is); (case a4 => k_is); (case l4 => k_is); (case c4 => k_is); (case k4 => k_is); (case a5 => k_is); (case l5 => k_is); (case c5 => k_is); (case k5 => k_is); (case a6 => k_is); (case l6 => k_is); (case c6 => k_is); (case k6 => k_is); (case a7 => k_is); (case l7 => k_is); (case c7 => k_is); (case k7 => k_is); (case a8 => k_is); (case l8 => k_is); (case c8 => k_is); (case k8 => k_is); (case a9 => k_is); (case l9 => k_is); (case c9 => k_is); (case k9 => k_is); (case a10 => k_is); (case l10 => k_is); (case c10 => k_is); (case k10 => k_is); (case a11 => k_is); (case l11 => k_is); (case c11 => k_is); (case k11 => k_is); (case a12 => k_is); (case l12 => k_is); (case c12 => k_is); (case k12 => k_is); (case a13 => k_is); (case l13 => k_is); (case c13 => k_is); (case k13 => k_is); (case a14 => k_is); (case l14 => k_is); (case c14 => k_is); (case k14 => k_is); (case a15 => k_is); (case l15 => k_is); (case c15 => k_is); (case k15 => k_is); (case a16 => k_is); (case l16 => k_is); (case c16 => k_is); (case k16 => k_is); (case a17 => k_is); (case l17 => k_is); (case c17 => k_is); (case k17 => k_is); (case a18 => k_is); (case l18 => k_is); (case c18 => k_is); (case k18 => k_is); (case a19 => k_is); (case l19 => k_is); (case c19 => k_is); (case k19 => k_is); (case a20 => k_is); (case l20 => k_is); (case c20 => k_is); (case k20 => k_is); (case a21 => k_is); (case l21 => k_is); (case c21 => k_is); (case k21 => k_is); (case a22 => k_is); (case l22 => k_is); (case c22 => k_is); (case k22 => k_is); (case a23 => k_is); (case l23 => k_is); (case c23 => k_is); (case k23 => k_is); (case a24 => k_is); (case l24 => k_is); (case c24 => k_is); (case k24 => k_is); (case a25 => k_is); (case l25 => k_is); (case c25 => k_is); (case k25 => k_is); (case a26 => k_is); (case l26 => k_is); (case c26 => k_is); (case k26 => k_is); (case a27 => k_is); (case l27 => k_is); (case c27 => k_is); (case k27 => k_is); (case a28 => k_is); (case l28 => k_is); (case c28 => k_is); (case k28 => k_is); (case a29 => k_is); (case l29 => k_is); (case c29 => k_is); (case k29 => k_is); (case a30 => k_is); (case l30 => k_is); (case c30 => k_is); (case k30 => k_is); (case a31 => k_is); (case l31 => k_is); (case c31 => k_is); (case k31 => k_is); (case a32 => k_is); (case l32 => k_is); (case c32 => k_is); (case k32 => k_is); (case a33 => k_is); (case l33 => k_is); (case c33 => k_is); (case k33 => k_is); (case z_all => k_is); (case z_any => k_is); (case z_bool => k_is); (case z_enumerate => k_is); (case z_int => k_is); (case z_isinstance => k_is); (case z_len => k_is); (case z_list => k_is); (case z_max => k_is); (case z_min => k_is); (case z_range => k_is); (case z_sorted => k_is); (case z_str => k_is); (case z_sum => k_is); (case z_tuple => k_is); (case z_zip => k_is); (case g_MOST_PLAYERS => k_is)

