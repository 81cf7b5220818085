import PyProof.Rows.All
import Wide.All
import OpenK.AllK
import Wide.FinOn
import HandS.ForMost
import HandS.Exc
import HandS.Defaults
import HandS.Deep
import HandS.IsInst
import HandS.CallLocal
import PyProof.CollectIter
import PyProof.P3In
import PyProof.ReprReads
import KE.KStateDown
import Lean
import HandS.More
import HandS.Head0
import HandS.Head1
import HandS.Head2
import HandS.HeadEnd
import HandS.HeadHook1
import HandS.HeadHook2
import HandS.HeadHook3
import HandS.HeadHook4
import PySem.Challenge.RW_wallseal_k51_whole_forms_and_marks
import KE.GoesZip
import KE.GoesMore
import KE.GoesEnumKw
import HandS.Iter
import HandS.SortKw
import HandS.Zip
import HandS.TupAny
import HandS.TupMul
import HandS.WideBits
import HandS.Wide
import HandS.FStr
import HandS.DictComp
import HandS.CallRecv
import HandS.Style
import HandS.Rev
import HandS.Strs
import HandS.Conv
import HandS.Codes
import HandS.NoneIn
import HandS.MakeKwOnly
import HandS.Small
import HandS.ListItems
import HandS.SetFor
import HandS.SortInts
import KE.KIntText
set_option Elab.async false
set_option linter.all false
set_option maxRecDepth 100000
set_option maxHeartbeats 4000000
/-! The plain law: forms, terms, what placing gives. -/
namespace WS
open PySem
inductive Form where
  | any | num | text
  | deed (a b : Form)
  | box (a : Form)
  deriving DecidableEq
inductive Term where
  | number (n : Int) | txt (w : Str) | name (x : Str)
  | deed (x : Str) (A : Form) (e : Term)
  | call (f e : Term)
  | lets (x : Str) (e f : Term)
  | tell (A : Form) (e : Term)
  | ite (c e f : Term)
  | sum (s : Bool) (e f : Term)
  | size (e : Term)
  | box (A : Form) (e : Term)
  | read (e : Term)
  | write (e f : Term)
  | same (e f : Term)
  | wall (m : Str) (A B : Form) (e : Term)
abbrev Ctx := List (Str × Form)
def Form.d : Form → PyData
  | .any => .str "any"
  | .num => .str "num"
  | .text => .str "text"
  | .deed a b => .tuple [.str "deed", a.d, b.d]
  | .box a => .tuple [.str "box", a.d]
def word : Bool → Str
  | true => "sub"
  | false => "add"
def Term.d : Term → PyData
  | .number n => .tuple [.str "number", .int n]
  | .txt w => .tuple [.str "text", .str w]
  | .name x => .tuple [.str "name", .str x]
  | .deed x A e => .tuple [.str "deed", .str x, A.d, e.d]
  | .call f e => .tuple [.str "call", f.d, e.d]
  | .lets x e f => .tuple [.str "let", .str x, e.d, f.d]
  | .tell A e => .tuple [.str "tell", A.d, e.d]
  | .ite c e f => .tuple [.str "if", c.d, e.d, f.d]
  | .sum s e f => .tuple [.str (word s), e.d, f.d]
  | .size e => .tuple [.str "size", e.d]
  | .box A e => .tuple [.str "box", A.d, e.d]
  | .read e => .tuple [.str "read", e.d]
  | .write e f => .tuple [.str "write", e.d, f.d]
  | .same e f => .tuple [.str "same", e.d, f.d]
  | .wall m A B e => .tuple [.str "wall", .str m, A.d, B.d, e.d]
def Form.height : Form → Nat
  | .any => 0
  | .num => 0
  | .text => 0
  | .deed a b => 1 + max a.height b.height
  | .box a => 1 + a.height
/-- every deed's form within takes things of a form no higher than one -/
def Form.low1 : Form → Prop
  | .any => True
  | .num => True
  | .text => True
  | .deed a b => a.height ≤ 1 ∧ b.low1
  | .box a => a.low1
def near : Form → Form → Bool
  | .any, _ => true
  | _, .any => true
  | .num, .num => true
  | .text, .text => true
  | .deed a b, .deed c d => near a c && near b d
  | .box a, .box b => near a b
  | _, _ => false
def look : Ctx → Str → Option Form
  | [], _ => none
  | (y, F) :: r, x => match look r x with
    | some G => some G
    | none => if y = x then some F else none
def asDeed : Form → Option (Form × Form)
  | .any => some (.any, .any)
  | .deed a b => some (a, b)
  | _ => none
def asBox : Form → Option Form
  | .any => some .any
  | .box a => some a
  | _ => none
def dom (F : Form) : Form := match asDeed F with
  | some p => p.1
  | none => .any
def cod (F : Form) : Form := match asDeed F with
  | some p => p.2
  | none => .any
def inn (F : Form) : Form := match asBox F with
  | some p => p
  | none => .any
def fo (g : Ctx) : Term → Form
  | .number _ => .num
  | .txt _ => .text
  | .name x => (look g x).getD .any
  | .deed x A e => .deed A (fo (g ++ [(x, A)]) e)
  | .call f _ => cod (fo g f)
  | .lets x e f => fo (g ++ [(x, fo g e)]) f
  | .tell A _ => A
  | .ite _ _ _ => .any
  | .sum _ _ _ => .num
  | .size _ => .num
  | .box A _ => .box A
  | .read e => inn (fo g e)
  | .write _ _ => .num
  | .same _ _ => .num
  | .wall _ _ B _ => B
def Ok (g : Ctx) : Term → Prop
  | .number _ => True
  | .txt _ => True
  | .name x => (look g x).isSome = true
  | .deed x A e => Ok (g ++ [(x, A)]) e ∧ A.height ≤ 4 ∧ (fo (g ++ [(x, A)]) e).height ≤ 4
  | .call f e => Ok g f ∧ (asDeed (fo g f)).isSome = true ∧ Ok g e ∧ near (fo g e) (dom (fo g f)) = true
  | .lets x e f => Ok g e ∧ Ok (g ++ [(x, fo g e)]) f
  | .tell A e => Ok g e ∧ near (fo g e) A = true
  | .ite c e f => Ok g c ∧ near (fo g c) .num = true ∧ Ok g e ∧ fo g e = .any ∧ Ok g f ∧ fo g f = .any
  | .sum _ e f => Ok g e ∧ near (fo g e) .num = true ∧ Ok g f ∧ near (fo g f) .num = true
  | .size e => Ok g e ∧ near (fo g e) .text = true
  | .box A e => Ok g e ∧ near (fo g e) A = true ∧ A.height ≤ 4
  | .read e => Ok g e ∧ (asBox (fo g e)).isSome = true
  | .write e f => Ok g e ∧ (asBox (fo g e)).isSome = true ∧ Ok g f ∧ near (fo g f) (inn (fo g e)) = true
  | .same e f => Ok g e ∧ (asBox (fo g e)).isSome = true ∧ Ok g f ∧ (asBox (fo g f)).isSome = true
  | .wall _ _ _ _ => False
def letter (c : Nat) : Prop := 97 ≤ c ∧ c ≤ 122
def letters (x : Str) : Prop := ∀ c ∈ x.cps.toList, letter c
structure IsName (x : Str) : Prop where
  pos : 1 ≤ x.length
  le : x.length ≤ 8
  abc : letters x
/-- a term as it is written: names, texts, heights of forms; no walls -/
def Wr : Term → Prop
  | .number n => n.natAbs < 10 ^ 31
  | .txt w => w.length ≤ 8 ∧ letters w
  | .name x => IsName x
  | .deed x A e => IsName x ∧ A.height ≤ 5 ∧ Wr e
  | .call f e => Wr f ∧ Wr e
  | .lets x e f => IsName x ∧ Wr e ∧ Wr f
  | .tell A e => A.height ≤ 5 ∧ Wr e
  | .ite c e f => Wr c ∧ Wr e ∧ Wr f
  | .sum _ e f => Wr e ∧ Wr f
  | .size e => Wr e
  | .box A e => A.height ≤ 5 ∧ Wr e
  | .read e => Wr e
  | .write e f => Wr e ∧ Wr f
  | .same e f => Wr e ∧ Wr f
  | .wall _ _ _ _ => False
def Term.depth : Term → Nat
  | .number _ => 1
  | .txt _ => 1
  | .name _ => 1
  | .deed _ _ e => 1 + e.depth
  | .call f e => 1 + max f.depth e.depth
  | .lets _ e f => 1 + max e.depth f.depth
  | .tell _ e => 1 + e.depth
  | .ite c e f => 1 + max c.depth (max e.depth f.depth)
  | .sum _ e f => 1 + max e.depth f.depth
  | .size e => 1 + e.depth
  | .box _ e => 1 + e.depth
  | .read e => 1 + e.depth
  | .write e f => 1 + max e.depth f.depth
  | .same e f => 1 + max e.depth f.depth
  | .wall _ _ _ e => 1 + e.depth
def Term.sz : Term → Nat
  | .number _ => 1
  | .txt _ => 1
  | .name _ => 1
  | .deed _ _ e => 1 + e.sz
  | .call f e => 1 + f.sz + e.sz
  | .lets _ e f => 1 + e.sz + f.sz
  | .tell _ e => 1 + e.sz
  | .ite c e f => 1 + c.sz + e.sz + f.sz
  | .sum _ e f => 1 + e.sz + f.sz
  | .size e => 1 + e.sz
  | .box _ e => 1 + e.sz
  | .read e => 1 + e.sz
  | .write e f => 1 + e.sz + f.sz
  | .same e f => 1 + e.sz + f.sz
  | .wall _ _ _ e => 1 + e.sz
def cnt : Term → Nat
  | .number _ => 0
  | .txt _ => 0
  | .name _ => 0
  | .deed _ _ e => cnt e
  | .call f e => 2 + (cnt f + cnt e)
  | .lets _ e f => cnt e + cnt f
  | .tell _ e => 1 + cnt e
  | .ite c e f => 3 + (cnt c + (cnt e + cnt f))
  | .sum _ e f => 2 + (cnt e + cnt f)
  | .size e => 1 + cnt e
  | .box _ e => 1 + cnt e
  | .read e => 1 + cnt e
  | .write e f => 2 + (cnt e + cnt f)
  | .same e f => 2 + (cnt e + cnt f)
  | .wall _ _ _ e => cnt e
def mk (a : Str) (n : Nat) : Str := a ++ "." ++ Str.ofString (toString ((n : Nat) : Int))
def fence (m : Str) (A B : Form) (t : Term) : Term := if A = B then t else .wall m A B t
def pl (a : Str) (g : Ctx) (n : Nat) : Term → Term
  | .number i => .number i
  | .txt w => .txt w
  | .name x => .name x
  | .deed x A e => .deed x A (pl a (g ++ [(x, A)]) n e)
  | .call f e => .call (fence (mk a (n + 1)) (fo g f) (.deed (dom (fo g f)) (cod (fo g f))) (pl a g (n + 1) f)) (fence (mk a (n + 1 + cnt f + 1)) (fo g e) (dom (fo g f)) (pl a g (n + 1 + cnt f + 1) e))
  | .lets x e f => .lets x (pl a g n e) (pl a (g ++ [(x, fo g e)]) (n + cnt e) f)
  | .tell A e => .tell A (fence (mk a (n + 1)) (fo g e) A (pl a g (n + 1) e))
  | .ite c e f => .ite (fence (mk a (n + 1)) (fo g c) .num (pl a g (n + 1) c)) (pl a g (n + 1 + cnt c + 1) e) (pl a g (n + 1 + cnt c + 1 + cnt e + 1) f)
  | .sum s e f => .sum s (fence (mk a (n + 1)) (fo g e) .num (pl a g (n + 1) e)) (fence (mk a (n + 1 + cnt e + 1)) (fo g f) .num (pl a g (n + 1 + cnt e + 1) f))
  | .size e => .size (fence (mk a (n + 1)) (fo g e) .text (pl a g (n + 1) e))
  | .box A e => .box A (fence (mk a (n + 1)) (fo g e) A (pl a g (n + 1) e))
  | .read e => .read (fence (mk a (n + 1)) (fo g e) (.box (inn (fo g e))) (pl a g (n + 1) e))
  | .write e f => .write (fence (mk a (n + 1)) (fo g e) (.box (inn (fo g e))) (pl a g (n + 1) e)) (fence (mk a (n + 1 + cnt e + 1)) (fo g f) (inn (fo g e)) (pl a g (n + 1 + cnt e + 1) f))
  | .same e f => .same (fence (mk a (n + 1)) (fo g e) (.box (inn (fo g e))) (pl a g (n + 1) e)) (fence (mk a (n + 1 + cnt e + 1)) (fo g f) (.box (inn (fo g f))) (pl a g (n + 1 + cnt e + 1) f))
  | .wall m A B e => .wall m A B e
def opn : Term → Term
  | .number i => .number i
  | .txt w => .txt w
  | .name x => .name x
  | .deed x A e => .deed x A (opn e)
  | .call f e => .call (opn f) (opn e)
  | .lets x e f => .lets x (opn e) (opn f)
  | .tell A e => .tell A (opn e)
  | .ite c e f => .ite (opn c) (opn e) (opn f)
  | .sum s e f => .sum s (opn e) (opn f)
  | .size e => .size (opn e)
  | .box A e => .box A (opn e)
  | .read e => .read (opn e)
  | .write e f => .write (opn e) (opn f)
  | .same e f => .same (opn e) (opn f)
  | .wall _ _ _ e => opn e
abbrev Wl := Str × Form × Form
def wl : Term → List Wl
  | .number _ => []
  | .txt _ => []
  | .name _ => []
  | .deed _ _ e => wl e
  | .call f e => wl f ++ wl e
  | .lets _ e f => wl e ++ wl f
  | .tell _ e => wl e
  | .ite c e f => wl c ++ (wl e ++ wl f)
  | .sum _ e f => wl e ++ wl f
  | .size e => wl e
  | .box _ e => wl e
  | .read e => wl e
  | .write e f => wl e ++ wl f
  | .same e f => wl e ++ wl f
  | .wall m A B e => (m, A, B) :: wl e
/-! ### forms -/
theorem near_any (F : Form) : near F .any = true := by cases F <;> rfl
theorem any_near (F : Form) : near .any F = true := by cases F <;> rfl
theorem near_refl : ∀ F : Form, near F F = true
  | .any => rfl
  | .num => rfl
  | .text => rfl
  | .deed a b => by simp only [near, near_refl a, near_refl b, Bool.and_self]
  | .box a => by simp only [near, near_refl a]
theorem near_num {F : Form} (h : near F .num = true) : F = .any ∨ F = .num := by
  cases F <;> first | exact .inl rfl | exact .inr rfl | cases h
theorem near_text {F : Form} (h : near F .text = true) : F = .any ∨ F = .text := by
  cases F <;> first | exact .inl rfl | exact .inr rfl | cases h
theorem near_box {F A : Form} (h : near F (.box A) = true) : (asBox F).isSome = true := by
  cases F <;> first | rfl | cases h
theorem near_deed {F A B : Form} (h : near F (.deed A B) = true) : (asDeed F).isSome = true := by
  cases F <;> first | rfl | cases h
theorem near_inn {F A : Form} (h : near F (.box A) = true) : near (inn F) A = true := by
  cases F with
  | any => exact any_near A
  | box a => exact h
  | _ => cases h
theorem low1_of : ∀ F : Form, F.height ≤ 2 → F.low1
  | .any, _ => True.intro
  | .num, _ => True.intro
  | .text, _ => True.intro
  | .deed a b, h => by
    have h' : 1 + max a.height b.height ≤ 2 := h
    exact ⟨by omega, low1_of b (by omega)⟩
  | .box a, h => by
    have h' : 1 + a.height ≤ 2 := h
    exact low1_of a (by omega)
theorem asDeed_eq {F : Form} (h : (asDeed F).isSome = true) : (F = .any ∧ dom F = .any ∧ cod F = .any) ∨ F = .deed (dom F) (cod F) := by
  cases F <;> first | exact .inl ⟨rfl, rfl, rfl⟩ | exact .inr rfl | cases h
theorem asBox_eq {F : Form} (h : (asBox F).isSome = true) : (F = .any ∧ inn F = .any) ∨ F = .box (inn F) := by
  cases F <;> first | exact .inl ⟨rfl, rfl⟩ | exact .inr rfl | cases h
theorem near_wideD {F : Form} (h : (asDeed F).isSome = true) : near F (.deed (dom F) (cod F)) = true := by
  rcases asDeed_eq h with ⟨e, _, _⟩ | e
  · rw [e]; rfl
  · rw [← e]; exact near_refl F
theorem near_wideB {F : Form} (h : (asBox F).isSome = true) : near F (.box (inn F)) = true := by
  rcases asBox_eq h with ⟨e, _⟩ | e
  · rw [e]; rfl
  · rw [← e]; exact near_refl F
/-! ### contexts -/
theorem look_snoc (g : Ctx) (y : Str) (F : Form) (x : Str) : look (g ++ [(y, F)]) x = if y = x then some F else look g x := by
  induction g with
  | nil => rfl
  | cons p r ih =>
    obtain ⟨z, G⟩ := p
    show (match look (r ++ [(y, F)]) x with | some G => some G | none => if z = x then some G else none) = if y = x then some F else (match look r x with | some G => some G | none => if z = x then some G else none)
    rw [ih]
    by_cases h : y = x
    · rw [if_pos h, if_pos h]
    · rw [if_neg h, if_neg h]
/-! ### opened -/
theorem opn_fence (m : Str) (A B : Form) (t : Term) : opn (fence m A B t) = opn t := by
  unfold fence
  split <;> rfl
theorem opn_pl (a : Str) : ∀ (t : Term) (g : Ctx) (n : Nat), Ok g t → opn (pl a g n t) = t
  | .number _, _, _, _ => rfl
  | .txt _, _, _, _ => rfl
  | .name _, _, _, _ => rfl
  | .deed x A e, g, n, h => by simp only [pl, opn, opn_pl a e _ _ h.1]
  | .call f e, g, n, h => by simp only [pl, opn, opn_fence, opn_pl a f _ _ h.1, opn_pl a e _ _ h.2.2.1]
  | .lets x e f, g, n, h => by simp only [pl, opn, opn_pl a e _ _ h.1, opn_pl a f _ _ h.2]
  | .tell A e, g, n, h => by simp only [pl, opn, opn_fence, opn_pl a e _ _ h.1]
  | .ite c e f, g, n, h => by simp only [pl, opn, opn_fence, opn_pl a c _ _ h.1, opn_pl a e _ _ h.2.2.1, opn_pl a f _ _ h.2.2.2.2.1]
  | .sum s e f, g, n, h => by simp only [pl, opn, opn_fence, opn_pl a e _ _ h.1, opn_pl a f _ _ h.2.2.1]
  | .size e, g, n, h => by simp only [pl, opn, opn_fence, opn_pl a e _ _ h.1]
  | .box A e, g, n, h => by simp only [pl, opn, opn_fence, opn_pl a e _ _ h.1]
  | .read e, g, n, h => by simp only [pl, opn, opn_fence, opn_pl a e _ _ h.1]
  | .write e f, g, n, h => by simp only [pl, opn, opn_fence, opn_pl a e _ _ h.1, opn_pl a f _ _ h.2.2.1]
  | .same e f, g, n, h => by simp only [pl, opn, opn_fence, opn_pl a e _ _ h.1, opn_pl a f _ _ h.2.2.1]
  | .wall _ _ _ _, _, _, h => h.elim
/-! ### the walls' marks -/
/-- the walls l bear marks a.k, k rising from above n to m; each between near and unlike forms -/
def Marks (a : Str) (n m : Nat) (l : List Wl) : Prop :=
  ∃ ks : List Nat, l.map (·.1) = ks.map (mk a) ∧ ks.Pairwise (· < ·) ∧ (∀ k ∈ ks, n < k ∧ k ≤ m) ∧ ∀ w ∈ l, near w.2.1 w.2.2 = true ∧ w.2.1 ≠ w.2.2
theorem Marks.nil {a : Str} {n m : Nat} : Marks a n m [] := ⟨[], rfl, .nil, (fun _ h => nomatch h), (fun _ h => nomatch h)⟩
theorem Marks.mono {a : Str} {n n' m m' : Nat} {l : List Wl} (h : Marks a n m l) (h1 : n' ≤ n) (h2 : m ≤ m') : Marks a n' m' l := by
  obtain ⟨ks, e, p, b, w⟩ := h
  exact ⟨ks, e, p, fun k hk => by have := b k hk; omega, w⟩
theorem Marks.app {a : Str} {n k m : Nat} {l r : List Wl} (h : Marks a n k l) (h' : Marks a k m r) (hnk : n ≤ k) (hkm : k ≤ m) : Marks a n m (l ++ r) := by
  obtain ⟨ks, e, p, b, w⟩ := h
  obtain ⟨ls, e', p', b', w'⟩ := h'
  refine ⟨ks ++ ls, by rw [List.map_append, List.map_append, e, e'], List.pairwise_append.mpr ⟨p, p', fun x hx y hy => ?_⟩, fun x hx => ?_, fun x hx => ?_⟩
  · have := b x hx
    have := b' y hy
    omega
  · rcases List.mem_append.mp hx with h | h
    · have := b x h; omega
    · have := b' x h; omega
  · rcases List.mem_append.mp hx with h | h
    · exact w x h
    · exact w' x h
theorem Marks.fence {a : Str} {n m : Nat} {A B : Form} {t : Term} (hn : near A B = true) (h : Marks a (n + 1) m (wl t)) (hm : n + 1 ≤ m) : Marks a n m (wl (fence (mk a (n + 1)) A B t)) := by
  unfold WS.fence
  split
  · exact h.mono (Nat.le_succ n) (Nat.le_refl m)
  · rename_i hne
    obtain ⟨ks, e, p, b, w⟩ := h
    refine ⟨(n + 1) :: ks, by show mk a (n + 1) :: (wl t).map (·.1) = _; rw [e] <;> rfl, List.pairwise_cons.mpr ⟨fun k hk => (b k hk).1, p⟩, fun k hk => ?_, fun x hx => ?_⟩
    · rcases List.mem_cons.mp hk with h | h
      · omega
      · have := b k h; omega
    · rcases List.mem_cons.mp (show x ∈ (mk a (n + 1), A, B) :: wl t from hx) with h | h
      · rw [h]; exact ⟨hn, hne⟩
      · exact w x h
theorem marks_pl (a : Str) : ∀ (t : Term) (g : Ctx) (n m : Nat), Ok g t → m = n + cnt t → Marks a n m (wl (pl a g n t))
  | .number _, _, _, _, _, _ => .nil
  | .txt _, _, _, _, _, _ => .nil
  | .name _, _, _, _, _, _ => .nil
  | .deed x A e, g, n, m, h, hm => marks_pl a e _ n m h.1 hm
  | .call f e, g, n, m, h, hm => by
    have hm : m = n + (2 + (cnt f + cnt e)) := hm
    exact ((marks_pl a f g (n + 1) (n + 1 + cnt f) h.1 rfl).fence (near_wideD h.2.1) (by omega)).app ((marks_pl a e g (n + 1 + cnt f + 1) m h.2.2.1 (by omega)).fence h.2.2.2 (by omega)) (by omega) (by omega)
  | .lets x e f, g, n, m, h, hm => by
    have hm : m = n + (cnt e + cnt f) := hm
    exact (marks_pl a e g n (n + cnt e) h.1 rfl).app (marks_pl a f _ (n + cnt e) m h.2 (by omega)) (by omega) (by omega)
  | .tell A e, g, n, m, h, hm => by
    have hm : m = n + (1 + cnt e) := hm
    exact (marks_pl a e g (n + 1) m h.1 (by omega)).fence h.2 (by omega)
  | .ite c e f, g, n, m, h, hm => by
    have hm : m = n + (3 + (cnt c + (cnt e + cnt f))) := hm
    exact ((marks_pl a c g (n + 1) (n + 1 + cnt c) h.1 rfl).fence h.2.1 (by omega)).app
      (((marks_pl a e g (n + 1 + cnt c + 1) (n + 1 + cnt c + 1 + cnt e) h.2.2.1 rfl).mono (Nat.le_succ _) (Nat.le_refl _)).app ((marks_pl a f g (n + 1 + cnt c + 1 + cnt e + 1) m h.2.2.2.2.1 (by omega)).mono (Nat.le_succ _) (Nat.le_refl _)) (by omega) (by omega)) (by omega) (by omega)
  | .sum s e f, g, n, m, h, hm => by
    have hm : m = n + (2 + (cnt e + cnt f)) := hm
    exact ((marks_pl a e g (n + 1) (n + 1 + cnt e) h.1 rfl).fence h.2.1 (by omega)).app ((marks_pl a f g (n + 1 + cnt e + 1) m h.2.2.1 (by omega)).fence h.2.2.2 (by omega)) (by omega) (by omega)
  | .size e, g, n, m, h, hm => by
    have hm : m = n + (1 + cnt e) := hm
    exact (marks_pl a e g (n + 1) m h.1 (by omega)).fence h.2 (by omega)
  | .box A e, g, n, m, h, hm => by
    have hm : m = n + (1 + cnt e) := hm
    exact (marks_pl a e g (n + 1) m h.1 (by omega)).fence h.2.1 (by omega)
  | .read e, g, n, m, h, hm => by
    have hm : m = n + (1 + cnt e) := hm
    exact (marks_pl a e g (n + 1) m h.1 (by omega)).fence (near_wideB h.2) (by omega)
  | .write e f, g, n, m, h, hm => by
    have hm : m = n + (2 + (cnt e + cnt f)) := hm
    exact ((marks_pl a e g (n + 1) (n + 1 + cnt e) h.1 rfl).fence (near_wideB h.2.1) (by omega)).app ((marks_pl a f g (n + 1 + cnt e + 1) m h.2.2.1 (by omega)).fence h.2.2.2 (by omega)) (by omega) (by omega)
  | .same e f, g, n, m, h, hm => by
    have hm : m = n + (2 + (cnt e + cnt f)) := hm
    exact ((marks_pl a e g (n + 1) (n + 1 + cnt e) h.1 rfl).fence (near_wideB h.2.1) (by omega)).app ((marks_pl a f g (n + 1 + cnt e + 1) m h.2.2.1 (by omega)).fence (near_wideB h.2.2.2) (by omega)) (by omega) (by omega)
  | .wall _ _ _ _, _, _, _, h, _ => h.elim
end WS
set_option Elab.async false
set_option linter.all false
set_option maxRecDepth 100000
set_option maxHeartbeats 4000000
/-! Rules that the layer lacks: a starred target, a call of a subscript, repr of data, in a tuple of data. -/
namespace WR
open PySem PySem.Spec PyProof.Rows
section
variable {prog : Program} {w : World} {A : Around} {E : Value → Shared → Prop} {s : Shared}
theorem walks_off {prog : Program} {w : World} {A : Around} (hh : A.handled = none) (I ax : Addr) (hne : ax ≠ I) (x : Value) (rest : List Value) :
    Walks prog w A I [I, ax] [I] rest.length (fun i v => rest[i]? = some v) (fun i h => h.IsTupleIter I ax (i + 1) ∧ h.IsTuple ax (x :: rest).toArray) where
  sub := fun b hb => by simp at hb; simp [hb]
  frame := fun _ _ _ st hk => ⟨st.1.at fun o e => hk I (by simp) o e, st.2.at fun o e => hk ax (by simp) o e⟩
  item := fun i s Q E hi st hQ => by
    refine wpAny_pyNext_tuple_item st.1 st.2 (x := rest[i]) (by simp [hi]) fun h' hit' hs' => ?_
    exact hQ _ h' s.toks (by simp [hi]) ⟨hit', st.2.extBut hs'.extBut hne⟩ fun b o hb e => hs'.extBut b o (fun h => hb (by simp [h])) e
  done := fun s Q E st hQ => wpAny_pyNext_tuple_end hh st.1 st.2 (by simp) fun h' he' => hQ h' s.toks fun b o hb e => he' b o (fun h => hb (by simp [h])) e
  self := fun _ _ _ _ st hQ => wpAny_pyIter_tupleiter st.1 hQ
theorem items_eq {rest : List Value} {acc : Array Value} (h : ItemsOf (fun i v => rest[i]? = some v) acc rest.length) : acc.toList = rest := by
  obtain ⟨h1, h2⟩ := h
  refine List.ext_getElem? fun i => ?_
  by_cases hi : i < acc.size
  · have e : acc[i]? = some acc[i] := Array.getElem?_eq_getElem hi
    have := h2 i _ e
    rw [this, Array.getElem?_toList]
    exact e
  · rw [List.getElem?_eq_none (by simpa using hi), List.getElem?_eq_none (by omega)]
theorem unpackItems_star1 {t : Addr} {x : Value} {rest : List Value} {Q : List Value → Shared → Prop} (hh : A.handled = none) (ht : IsTup s.heap t (x :: rest).toArray) (hn : rest.length ≤ sizeLine)
    (hQ : ∀ (h' : Heap) (tk : Nat), (∀ b o, s.heap.get? b = some o → h'.get? b = some o) →
      Q [x, .ref h'.objs.size] { s with heap := h'.push { cls := .type "list", data := .seq rest.toArray }, toks := tk }) :
    wpAny (model prog w) A (unpackItems (.ref t) 2 (some 1)) Q E s := by
  have hlt : t ≠ s.heap.objs.size := by obtain ⟨o, ho, _⟩ := ht; exact Nat.ne_of_lt (Heap.lt_size ho)
  unfold unpackItems
  refine wpAny_bind ?_
  unfold notIterableAtAll
  refine wpAny_bind (wpAny_specialOf ht.typeIs slot_tuple_iter.lookup ?_)
  refine wpAny_pure ?_
  simp only [Bool.false_eq_true, if_false]
  refine wpAny_bind (wpAny_holding (iter_tuple ht ?_))
  refine wpAny_bind (wpAny_holding (draw_tuple hlt 1 0 _ _ ⟨_, Heap.get?_push_size _ rfl, rfl, rfl⟩ (ht.push _) (by simp) fun h₁ hit₁ hs₁ => ?_))
  have hall : List.take 1 (List.drop 0 (x :: rest).toArray.toList) = [x] := by simp
  rw [hall]
  rw [if_neg (by simp)]
  have ht₁ : IsTup h₁ t (x :: rest).toArray := (ht.push _).extBut hs₁.extBut hlt
  refine wpAny_bind (wpAny_holding (wpAny_collect_iter (T := "tuple_iterator") (.inr (.inr (.inr rfl))) (walks_off (A := A.in1) hh s.heap.objs.size t hlt x rest).toS (fun _ _ st => ?_) ⟨hit₁, ht₁⟩ (fun b hb => ?_) (by simp) (fun s' acc hm ha => ?_) hn))
  · obtain ⟨⟨o, ho, hc, _⟩, _⟩ := st
    exact ⟨o, ho, hc⟩
  · have hb' : b = s.heap.objs.size ∨ b = t := by simpa using hb
    rcases hb' with e | e
    · rw [e]; obtain ⟨o, ho, _⟩ := hit₁; exact Heap.lt_size ho
    · rw [e]; obtain ⟨o, ho, _⟩ := ht₁; exact Heap.lt_size ho
  · have ea := items_eq ha
    rw [ea]
    rw [if_neg (show ¬ rest.length < 2 - 1 - 1 by omega)]
    simp only [Nat.sub_zero, Nat.reduceSub, List.take_length, List.drop_length]
    refine wpAny_bind (wpAny_newList ?_ hn)
    refine wpAny_pure ?_
    obtain ⟨h', g', d', t', o'⟩ := s'
    have eg : g' = s.gens := hm.gens
    have ed : d' = s.drawn := hm.drawn
    have eo : o' = s.os := hm.os
    subst eg ed eo
    exact hQ h' t' fun b o e => by
      have hb : b ≠ s.heap.objs.size := Nat.ne_of_lt (Heap.lt_size e)
      exact hm.heap b o (by simpa using hb) (hs₁.extBut b o hb (Heap.get?_push_of_some _ e))
end
end WR
namespace L2
open PySem PySem.Spec PyProof.Rows
section
variable {X : Cx} {pos : Pos}
/-- (e, *t) = a tuple of one item or more: the rest is a new list -/
def gStar (K : PySem.W.Frag) (u : TGs) : TG := fun v σ H Q => ∃ a x xs, v = .ref a ∧ SqT K H a (x :: xs) ∧ xs.length ≤ sizeLine ∧ ∀ l, H l = none → u [x, .ref l] σ (upd H l (.lst xs)) Q
theorem pg_star {e t : Expr} {p : Pos} {k : Nat} {u : TGs} (hc : X.calm = true) (h : PGs X [e, t] u)
    (hs : assignEach [e, .Starred t p] X.env = [(false, assign e X.env), (true, assign t X.env)] := by rfl)
    (hs2 : (assignEach [e, t] X.env).map (·.2) = [assign e X.env, assign t X.env] := by rfl) : PG X (.Tuple [e, .Starred t p] k pos) (gStar X.K u) := by
  refine ⟨fun pins s σ H v u Q I r hw => ?_⟩
  obtain ⟨a, x, xs, e1, hq, hl, hw⟩ := hw
  subst e1
  cases r
  obtain ⟨its, rv, ht, hz⟩ := I.tuple hq
  cases rv with
  | cons r0 rr =>
    rename_i u0 us
    rw [assign_Tuple]
    refine wpAny_bind (wpAny_standAt ?_)
    unfold unpack
    rw [hs]
    have e2 : ([(false, assign e X.env), (true, assign t X.env)] : List (Bool × (Value → Sem Unit))).findIdx? (·.1) = some 1 := rfl
    rw [e2]
    refine wpAny_bind (wpAny_holding (WR.unpackItems_star1 (I.ok.hd hc) ht (by rw [← rr.length]; exact hl) fun h' tk up => ?_))
    have I1 : Inv X pins σ H { s with heap := h', toks := tk } := I.kept (t' := tk) up
    have hf : H h'.objs.size = none := I1.hok.fresh (Nat.le_refl _)
    have I2 : Inv X pins σ (upd H h'.objs.size (.lst xs)) { s with heap := h'.push { cls := .type "list", data := .seq us.toArray }, toks := tk } :=
      I1.laid (t' := tk) (fun b u e => Heap.get?_push_of_some _ e) (Nat.le_refl _) ⟨hl, us, 0, rr, Heap.get?_push_size _ rfl⟩
    have q := h.run pins _ σ _ [x, .ref h'.objs.size] [u0, .ref h'.objs.size] Q I2 (.cons r0 (.cons rfl .nil)) (hw _ hf)
    rw [hs2] at q
    exact q
/-- repr of a tuple, a list of data, where no repr is under way -/
theorem call_repr_data (hg : X.A.guards = some []) (hu : X.A.units + 64 < cLine) : CallR X (.builtin "repr") (fun xs H Q => ∃ a d, xs = [.ref a] ∧ Dp X.K H (.ref a) d ∧ d.showable = true ∧ d.hasDict = false ∧ d.depth ≤ 60 ∧ d.shown.length ≤ sizeLine ∧ Q (.str d.shown) H) := by
  intro pins s σ H xs us Q I r h
  obtain ⟨a, d, rfl, hd, hs, hn, hdp, hz, q⟩ := h
  cases r with
  | cons r0 rr =>
    cases rr
    rename_i u
    obtain ⟨as, rd⟩ := Dp.reads I d _ u hd r0
    cases r0
    exact repr_of_reads' rd hs (PyData.noDict_hsm hn) hg (by omega) (fun _ _ e => e) (fun h' u tk up => ⟨.str d.shown, H, I.kept (t' := tk) up, ⟨u, rfl⟩, q⟩) hz
/-- x in a tuple of data -/
def rInDT (K : PySem.W.Frag) : R2 := fun x y H Q => ∃ d ds, Dp K H x d ∧ Dp K H y (.tuple ds) ∧ SeqAt.shaped d = true ∧ SeqAt.shaped (.tuple ds) = true ∧ Q (.bl (ds.any fun z => PyData.eqv z d)) H
theorem op_inDT (hu : X.A.units + 65 < cLine) : OpR X (compareOp .In) (rInDT X.K) := by
  intro pins s σ H x y v u Q I rx ry h
  obtain ⟨d, ds, hd, he, sd, se, q⟩ := h
  obtain ⟨as, r1⟩ := Dp.reads I d x v hd rx
  obtain ⟨bs, r2⟩ := Dp.reads I (.tuple ds) y u he ry
  exact SeqAt.in_tuple_reads r2 r1 (SeqAt.canLay_of_shaped se) (SeqAt.canLay_of_shaped sd) (room_in_shaped sd hu) ⟨.bl _, H, I, rfl, q⟩
end
/-! ### defs by their promises alone -/
section
variable {X : Cx} {k : Nat} {f C : Addr} {sp : Sp} {x m : Str} {p pos apos : Pos} {e o fe : Expr} {es : List Expr} {ta tf : TE} {t : TA}
theorem Held.mono {P : Program} {w : World} {K : PySem.W.Frag} {mg : Str → Option Value} {base : Heap} {j k : Nat} (h : Held P w K mg base j f sp) (hk : j ≤ k) : Held P w K mg base k f sp := by
  obtain ⟨fd, ps, F, a, b⟩ := h.ex
  exact ⟨fd, ps, F.mono hk, a, b⟩
theorem Held.imp {P : Program} {w : World} {K : PySem.W.Frag} {mg : Str → Option Value} {base : Heap} {k : Nat} {sp' : Sp} (h : Held P w K mg base k f sp) (i : ∀ vs H Q E, sp' vs H Q E → sp vs H Q E) : Held P w K mg base k f sp' := by
  obtain ⟨fd, ps, F, a, b⟩ := h.ex
  exact ⟨fd, ps, F.imp i, a, b⟩
def tCl (sp : Sp) (t : TA) : TE := fun σ H Q => t σ H fun vs H1 => sp vs H1 Q E0
/-- f(e, ..) -/
theorem pe_cl (G : Held X.prog X.w X.K X.mg X.base k f sp) (hr : Room k X.A) (hm : X.mg x = some (.ref f)) (ha : PA X (e :: es) t) (hg : Gl X x := by rfl)
    (hdb : (x == ("__debug__" : Str)) = false := by decide) (he : starEach (e :: es) X.env = (false, eval e X.env) :: starEach es X.env := by rfl) (hpl : (backTo pos (starEach es X.env)).any (·.1) = false := by rfl) :
    PE X (.Call (.Name x p) (e :: es) [] pos) (tCl sp t) := by
  obtain ⟨fd, ps, F, hk, hb⟩ := G.ex
  refine ⟨fun pins s σ H Q I h => ?_⟩
  refine wpAny_Call_Name_kw (ld_glob I hg hm ?_ hdb)
  refine PySem.W.callWith_K (h₀ := X.base) I.ok.mod.kin hk (thn (ha.run pos pins s σ H _ I h) fun us s1 ⟨vs, H1, I1, r, q⟩ => ⟨I1.kIn, ?_⟩) he hpl
  exact run_fn (dvs := []) (ds := []) (E := E0) F hr hb .nil pass0 I1 r (by rw [List.append_nil]; exact q)
/-- g(..)(e, ..): the called thing is reckoned -/
def tClV (S : Addr → Sp → Prop) (tf : TE) (t : TA) : TE := fun σ H Q => tf σ H fun x H1 => ∃ f sp, x = .ref f ∧ S f sp ∧ t σ H1 fun vs H2 => sp vs H2 Q E0
theorem pe_clV {S : Addr → Sp → Prop} (A : ∀ f sp, S f sp → Held X.prog X.w X.K X.mg X.base k f sp) (hr : Room k X.A) (hf : PE X fe tf) (ha : PA X (e :: es) t)
    (he : starEach (e :: es) X.env = (false, eval e X.env) :: starEach es X.env := by rfl) (hpl : (backTo pos (starEach es X.env)).any (·.1) = false := by rfl)
    (hev : eval (.Call fe (e :: es) [] pos) X.env = (do callWith pos (← eval fe X.env) [] (backTo pos (starEach (e :: es) X.env)) (backToKw pos (keywordEach [] X.env))) := by rfl) :
    PE X (.Call fe (e :: es) [] pos) (tClV S tf t) := by
  refine ⟨fun pins s σ H Q I h => ?_⟩
  refine Call_ (thn (hf.run pins s σ H _ I h) fun u s1 ⟨v, H1, I1, r1, q1⟩ => ?_) hev
  obtain ⟨f, sp, rfl, hS, ht⟩ := q1
  obtain ⟨fd, ps, F, hk, hb⟩ := (A f sp hS).ex
  cases r1
  refine PySem.W.callWith_K (h₀ := X.base) I.ok.mod.kin hk (thn (ha.run pos pins s1 σ _ _ I1 ht) fun us s2 ⟨vs, H2, I2, r, q⟩ => ⟨I2.kIn, ?_⟩) he hpl
  exact run_fn (dvs := []) (ds := []) (E := E0) F hr hb .nil pass0 I2 r (by rw [List.append_nil]; exact q)
/-- o.m(e, ..) -/
def tMt (C : Addr) (m : Str) (sp : Sp) (ta : TE) (t : TA) : TE := fun σ H Q => ta σ H fun x H1 => ∃ a dx fs, x = .ref a ∧ H1 a = some (.ins C dx fs) ∧ fs.lookup m = none ∧ t σ H1 fun vs H2 => sp (x :: vs) H2 Q E0
theorem pe_mt {pl : Sem Bool} (G : Held X.prog X.w X.K X.mg X.base k f sp) (hr : Room k X.A) (c : Cls X.K C) (hm : Meth X.K C m f) (he : PE X o ta) (ha : PA X (e :: es) t)
    (hst : starEach (e :: es) X.env = (false, eval e X.env) :: starEach es X.env := by rfl) (hpl : (backTo pos (starEach es X.env)).any (·.1) = false := by rfl)
    (ht : eval (.Call (.Attribute o m apos) (e :: es) [] pos) X.env = (do
      let ov ← eval o X.env
      standAt apos.atName
      let (f, first) ← holding [ov] (getMethod ov m pl)
      callWith pos f first (backTo pos (starEach (e :: es) X.env)) (backToKw pos (keywordEach [] X.env))) := by rfl) :
    PE X (.Call (.Attribute o m apos) (e :: es) [] pos) (tMt C m sp ta t) := by
  obtain ⟨fd, ps, F, hk, hb⟩ := G.ex
  have q := pe_meth (X := X) (dvs := []) (ds := []) (E := E0) (pl := pl) (apos := apos) (pos := pos) he c hm F hr hb .nil pass0 ha hst hpl ht
  refine ⟨fun pins s σ H Q I h => q.run pins s σ H Q I ?_⟩
  have e0 : tMeth C m sp [] E0 ta t = tMt C m sp ta t := by
    unfold tMeth tMt
    simp only [List.append_nil]
  rw [e0]
  exact h
theorem pe_mt0 {pl : Sem Bool} (G : Held X.prog X.w X.K X.mg X.base k f sp) (hr : Room k X.A) (c : Cls X.K C) (hm : Meth X.K C m f) (he : PE X o ta)
    (ht : eval (.Call (.Attribute o m apos) [] [] pos) X.env = (do
      let ov ← eval o X.env
      standAt apos.atName
      let (f, first) ← holding [ov] (getMethod ov m pl)
      callWith pos f first (backTo pos (starEach [] X.env)) (backToKw pos (keywordEach [] X.env))) := by rfl) :
    PE X (.Call (.Attribute o m apos) [] [] pos) (tMt C m sp ta tNil) := by
  obtain ⟨fd, ps, F, hk, hb⟩ := G.ex
  have q := pe_meth0 (X := X) (dvs := []) (ds := []) (E := E0) (pl := pl) (apos := apos) (pos := pos) he c hm F hr hb .nil pass0 ht
  refine ⟨fun pins s σ H Q I h => q.run pins s σ H Q I ?_⟩
  have e0 : tMeth C m sp [] E0 ta tNil = tMt C m sp ta tNil := by
    unfold tMeth tMt
    simp only [List.append_nil]
  rw [e0]
  exact h
/-- C(e, ..) -/
def tMk (C : Addr) (sp : Sp) (t : TA) : TE := fun σ H Q => t σ H fun vs H1 => ∀ x dx, H1 x = none → H1 dx = none → dx ≠ x → sp (.ref x :: vs) (upd (upd H1 dx (.own x)) x (.ins C dx [])) (fun v H2 => v = .non ∧ Q (.ref x) H2) E0
theorem pe_mkI (G : Held X.prog X.w X.K X.mg X.base k f sp) (hr : Room (k + 1) X.A) (M : Mk X.K C f) (hm : X.mg x = some (.ref C)) (ha : PA X (e :: es) t) (hg : Gl X x := by rfl)
    (hdb : (x == ("__debug__" : Str)) = false := by decide) (he : starEach (e :: es) X.env = (false, eval e X.env) :: starEach es X.env := by rfl) (hpl : (backTo pos (starEach es X.env)).any (·.1) = false := by rfl) :
    PE X (.Call (.Name x p) (e :: es) [] pos) (tMk C sp t) := by
  obtain ⟨fd, ps, F, hk, hb⟩ := G.ex
  have q := pe_make (X := X) (dvs := []) (ds := []) (E := E0) (p := p) (pos := pos) M F hr hg hm hb .nil pass0 ha hdb he hpl
  refine ⟨fun pins s σ H Q I h => q.run pins s σ H Q I ?_⟩
  have e0 : tMake C sp [] E0 t = tMk C sp t := by
    unfold tMake tMk
    simp only [List.append_nil]
  rw [e0]
  exact h
/-- a module's name: a text, a number, an object -/
theorem pe_gs {z : Str} (hm : ∃ t, X.mg x = some (.str z t)) (hg : Gl X x := by rfl) (hdb : (x == ("__debug__" : Str)) = false := by decide) : PE X (.Name x pos) (tC (.str z)) := by
  obtain ⟨tk, hm⟩ := hm
  exact pe_glob hg hm ⟨tk, rfl⟩ (hd := hdb)
theorem pe_gi {z : Int} (hm : ∃ t, X.mg x = some (.int z t)) (hg : Gl X x := by rfl) (hdb : (x == ("__debug__" : Str)) = false := by decide) : PE X (.Name x pos) (tC (.int z)) := by
  obtain ⟨tk, hm⟩ := hm
  exact pe_glob hg hm ⟨tk, rfl⟩ (hd := hdb)
theorem pe_gr {a : Addr} (hm : X.mg x = some (.ref a)) (hg : Gl X x := by rfl) (hdb : (x == ("__debug__" : Str)) = false := by decide) : PE X (.Name x pos) (tC (.ref a)) :=
  pe_glob hg hm rfl (hd := hdb)
/-- a def keeps its promise -/
theorem FunD.held {P : Program} {w : World} {K : PySem.W.Frag} {mg : Str → Option Value} {base : Heap} {N ps : List Str} {nm q : Str} {pa : Arguments} {bd : List Stmt} {sc : Scope} {k : Nat} {sp : Sp}
    (F : ∃ fd, FunD K nm q pa bd sc [] [] f fd) (S : FnScope N ps sc)
    (hb : ∀ (kV doc pm : Value) (an : Option Addr) (cdv ct : Value) (us : List Value), us.length = ps.length → bindArgs (PySem.W.fnOf nm q pa bd sc .none kV doc pm an cdv ct) ⟨us, []⟩ = pure (ps.zip us))
    (len : ∀ vs H Q E, sp vs H Q E → vs.length = ps.length)
    (hbody : ∀ (fd : FuncData) (cdv : Value) (A : Around) (outer : List Env) (s : Shared) (H : Hp) (vs : List V) (Q : VK) (E : XK), Room k (A.deeper (envOfC q sc s.heap.objs.size f cdv)) → sp vs H Q E →
      ∃ t, PSs (cxOf CX0 P w K mg base N q sc f cdv A outer s H E).nox bd t ∧ t { nx := fun _ H' => Q .non H', rt := Q } (start N vs) H) : Held P w K mg base (k + 1) f sp := by
  obtain ⟨fd, F⟩ := F
  refine ⟨fd, ps, F.ok S len fun cdv A outer s H vs Q E hr h => ?_, F.kp, F.bindsN hb⟩
  obtain ⟨t, h1, h2⟩ := hbody fd cdv A outer s H vs Q E hr h
  exact ⟨t, h1.nox, h2⟩
end
end L2
set_option Elab.async false
set_option linter.all false
set_option maxRecDepth 100000
set_option maxHeartbeats 0
/-! The text by places; the facts of its top. -/
namespace WS
open PySem L2
def top (i : Nat) : Stmt := PySem.Challenge.pw_wallseal_k51_whole_forms_and_marks.main.body.getD i (.Pass ⟨0, 0, 0, 0⟩)
abbrev s_is_name : Stmt := top 17
def d_is_name : He.DefD := ⟨("is_name", none), "is_name", "is_name", defArgs s_is_name, defBody s_is_name, defScope s_is_name, [], []⟩
abbrev s_is_form_to : Stmt := top 18
def d_is_form_to : He.DefD := ⟨("is_form_to", none), "is_form_to", "is_form_to", defArgs s_is_form_to, defBody s_is_form_to, defScope s_is_form_to, [], []⟩
abbrev s_is_form : Stmt := top 19
def d_is_form : He.DefD := ⟨("is_form", none), "is_form", "is_form", defArgs s_is_form, defBody s_is_form, defScope s_is_form, [], []⟩
abbrev s_want_form : Stmt := top 20
def d_want_form : He.DefD := ⟨("want_form", none), "want_form", "want_form", defArgs s_want_form, defBody s_want_form, defScope s_want_form, [], []⟩
abbrev s_head_of_form : Stmt := top 21
def d_head_of_form : He.DefD := ⟨("head_of_form", none), "head_of_form", "head_of_form", defArgs s_head_of_form, defBody s_head_of_form, defScope s_head_of_form, [], []⟩
abbrev s_head_of : Stmt := top 22
def d_head_of : He.DefD := ⟨("head_of", none), "head_of", "head_of", defArgs s_head_of, defBody s_head_of, defScope s_head_of, [], []⟩
abbrev s_height_of_form : Stmt := top 23
def d_height_of_form : He.DefD := ⟨("height_of_form", none), "height_of_form", "height_of_form", defArgs s_height_of_form, defBody s_height_of_form, defScope s_height_of_form, [], []⟩
abbrev s_near_forms : Stmt := top 24
def d_near_forms : He.DefD := ⟨("near_forms", none), "near_forms", "near_forms", defArgs s_near_forms, defBody s_near_forms, defScope s_near_forms, [], []⟩
abbrev s_met_forms : Stmt := top 25
def d_met_forms : He.DefD := ⟨("met_forms", none), "met_forms", "met_forms", defArgs s_met_forms, defBody s_met_forms, defScope s_met_forms, [], []⟩
abbrev s_wide_of : Stmt := top 26
def d_wide_of : He.DefD := ⟨("wide_of", none), "wide_of", "wide_of", defArgs s_wide_of, defBody s_wide_of, defScope s_wide_of, [], []⟩
abbrev s_is_whole : Stmt := top 31
def d_is_whole : He.DefD := ⟨("is_whole", none), "is_whole", "is_whole", defArgs s_is_whole, defBody s_is_whole, defScope s_is_whole, [], []⟩
abbrev s_is_written : Stmt := top 32
def d_is_written : He.DefD := ⟨("is_written", none), "is_written", "is_written", defArgs s_is_written, defBody s_is_written, defScope s_is_written, [], []⟩
abbrev s_fits : Stmt := top 33
def d_fits : He.DefD := ⟨("fits", none), "fits", "fits", defArgs s_fits, defBody s_fits, defScope s_fits, [], []⟩
abbrev s_is_term : Stmt := top 34
def d_is_term : He.DefD := ⟨("is_term", none), "is_term", "is_term", defArgs s_is_term, defBody s_is_term, defScope s_is_term, [], []⟩
abbrev s_want_term : Stmt := top 35
def d_want_term : He.DefD := ⟨("want_term", none), "want_term", "want_term", defArgs s_want_term, defBody s_want_term, defScope s_want_term, [], []⟩
abbrev s_terms_in : Stmt := top 36
def d_terms_in : He.DefD := ⟨("terms_in", none), "terms_in", "terms_in", defArgs s_terms_in, defBody s_terms_in, defScope s_terms_in, [], []⟩
abbrev s_is_hall_form : Stmt := top 40
def d_is_hall_form : He.DefD := ⟨("is_hall_form", none), "is_hall_form", "is_hall_form", defArgs s_is_hall_form, defBody s_is_hall_form, defScope s_is_hall_form, [], []⟩
abbrev s_is_hall : Stmt := top 41
def d_is_hall : He.DefD := ⟨("is_hall", none), "is_hall", "is_hall", defArgs s_is_hall, defBody s_is_hall, defScope s_is_hall, [], []⟩
abbrev s_low : Stmt := top 48
def d_low : He.DefD := ⟨("low", none), "low", "low", defArgs s_low, defBody s_low, defScope s_low, [], []⟩
abbrev s_walled : Stmt := top 49
def d_walled : He.DefD := ⟨("walled", none), "walled", "walled", defArgs s_walled, defBody s_walled, defScope s_walled, [], []⟩
abbrev s_of_number : Stmt := top 50
def d_of_number : He.DefD := ⟨("of_number", none), "of_number", "of_number", defArgs s_of_number, defBody s_of_number, defScope s_of_number, [], []⟩
abbrev s_of_text : Stmt := top 51
def d_of_text : He.DefD := ⟨("of_text", none), "of_text", "of_text", defArgs s_of_text, defBody s_of_text, defScope s_of_text, [], []⟩
abbrev s_of_name : Stmt := top 52
def d_of_name : He.DefD := ⟨("of_name", none), "of_name", "of_name", defArgs s_of_name, defBody s_of_name, defScope s_of_name, [], []⟩
abbrev s_of_deed : Stmt := top 53
def d_of_deed : He.DefD := ⟨("of_deed", none), "of_deed", "of_deed", defArgs s_of_deed, defBody s_of_deed, defScope s_of_deed, [], []⟩
abbrev s_of_call : Stmt := top 54
def d_of_call : He.DefD := ⟨("of_call", none), "of_call", "of_call", defArgs s_of_call, defBody s_of_call, defScope s_of_call, [], []⟩
abbrev s_of_let : Stmt := top 55
def d_of_let : He.DefD := ⟨("of_let", none), "of_let", "of_let", defArgs s_of_let, defBody s_of_let, defScope s_of_let, [], []⟩
abbrev s_of_tell : Stmt := top 56
def d_of_tell : He.DefD := ⟨("of_tell", none), "of_tell", "of_tell", defArgs s_of_tell, defBody s_of_tell, defScope s_of_tell, [], []⟩
abbrev s_of_if : Stmt := top 57
def d_of_if : He.DefD := ⟨("of_if", none), "of_if", "of_if", defArgs s_of_if, defBody s_of_if, defScope s_of_if, [], []⟩
abbrev s_of_sum : Stmt := top 58
def d_of_sum : He.DefD := ⟨("of_sum", none), "of_sum", "of_sum", defArgs s_of_sum, defBody s_of_sum, defScope s_of_sum, [], []⟩
abbrev s_of_size : Stmt := top 59
def d_of_size : He.DefD := ⟨("of_size", none), "of_size", "of_size", defArgs s_of_size, defBody s_of_size, defScope s_of_size, [], []⟩
abbrev s_of_box : Stmt := top 60
def d_of_box : He.DefD := ⟨("of_box", none), "of_box", "of_box", defArgs s_of_box, defBody s_of_box, defScope s_of_box, [], []⟩
abbrev s_of_read : Stmt := top 61
def d_of_read : He.DefD := ⟨("of_read", none), "of_read", "of_read", defArgs s_of_read, defBody s_of_read, defScope s_of_read, [], []⟩
abbrev s_of_write : Stmt := top 62
def d_of_write : He.DefD := ⟨("of_write", none), "of_write", "of_write", defArgs s_of_write, defBody s_of_write, defScope s_of_write, [], []⟩
abbrev s_of_same : Stmt := top 63
def d_of_same : He.DefD := ⟨("of_same", none), "of_same", "of_same", defArgs s_of_same, defBody s_of_same, defScope s_of_same, [], []⟩
abbrev s_of_do : Stmt := top 64
def d_of_do : He.DefD := ⟨("of_do", none), "of_do", "of_do", defArgs s_of_do, defBody s_of_do, defScope s_of_do, [], []⟩
abbrev s_Placer_init : Stmt := inClass (top 66) 0
def d_Placer_init : He.DefD := ⟨("Placer", some "__init__"), "__init__", "Placer.__init__", defArgs s_Placer_init, defBody s_Placer_init, defScope s_Placer_init, [], []⟩
abbrev s_Placer_form_of : Stmt := inClass (top 66) 1
def d_Placer_form_of : He.DefD := ⟨("Placer", some "form_of"), "form_of", "Placer.form_of", defArgs s_Placer_form_of, defBody s_Placer_form_of, defScope s_Placer_form_of, [], []⟩
abbrev s_Placer_placed : Stmt := inClass (top 66) 2
def d_Placer_placed : He.DefD := ⟨("Placer", some "placed"), "placed", "Placer.placed", defArgs s_Placer_placed, defBody s_Placer_placed, defScope s_Placer_placed, [], []⟩
abbrev s_Placer_begun : Stmt := inClass (top 66) 3
def d_Placer_begun : He.DefD := ⟨("Placer", some "begun"), "begun", "Placer.begun", defArgs s_Placer_begun, defBody s_Placer_begun, defScope s_Placer_begun, [], []⟩
abbrev s_Placer_wanted : Stmt := inClass (top 66) 4
def d_Placer_wanted : He.DefD := ⟨("Placer", some "wanted"), "wanted", "Placer.wanted", defArgs s_Placer_wanted, defBody s_Placer_wanted, defScope s_Placer_wanted, [], []⟩
abbrev s_Placer_wanted_head : Stmt := inClass (top 66) 5
def d_Placer_wanted_head : He.DefD := ⟨("Placer", some "wanted_head"), "wanted_head", "Placer.wanted_head", defArgs s_Placer_wanted_head, defBody s_Placer_wanted_head, defScope s_Placer_wanted_head, [], []⟩
abbrev s_terms_within : Stmt := top 67
def d_terms_within : He.DefD := ⟨("terms_within", none), "terms_within", "terms_within", defArgs s_terms_within, defBody s_terms_within, defScope s_terms_within, [], []⟩
abbrev s_walls_in : Stmt := top 68
def d_walls_in : He.DefD := ⟨("walls_in", none), "walls_in", "walls_in", defArgs s_walls_in, defBody s_walls_in, defScope s_walls_in, [], []⟩
abbrev s_want_halls : Stmt := top 69
def d_want_halls : He.DefD := ⟨("want_halls", none), "want_halls", "want_halls", defArgs s_want_halls, defBody s_want_halls, defScope s_want_halls, [], []⟩
abbrev s_Program_init : Stmt := inClass (top 70) 0
def d_Program_init : He.DefD := ⟨("Program", some "__init__"), "__init__", "Program.__init__", defArgs s_Program_init, defBody s_Program_init, defScope s_Program_init, [], []⟩
abbrev s_Program_want_name : Stmt := inClass (top 70) 3
def d_Program_want_name : He.DefD := ⟨("Program", some "want_name"), "want_name", "Program.want_name", defArgs s_Program_want_name, defBody s_Program_want_name, defScope s_Program_want_name, [], []⟩
abbrev s_Program_placed : Stmt := inClass (top 70) 5
def d_Program_placed : He.DefD := ⟨("Program", some "placed"), "placed", "Program.placed", defArgs s_Program_placed, defBody s_Program_placed, defScope s_Program_placed, [], []⟩
abbrev s_Program_walls : Stmt := inClass (top 70) 6
def d_Program_walls : He.DefD := ⟨("Program", some "walls"), "walls", "Program.walls", defArgs s_Program_walls, defBody s_Program_walls, defScope s_Program_walls, [], []⟩
abbrev s_Program_place : Stmt := inClass (top 70) 7
def d_Program_place : He.DefD := ⟨("Program", some "place"), "place", "Program.place", defArgs s_Program_place, defBody s_Program_place, defScope s_Program_place, [], [("mark", .str "0"), ("kept", .non)]⟩
abbrev s__law_pot : Stmt := top 72
def d__law_pot : He.DefD := ⟨("_law_pot", none), "_law_pot", "_law_pot", defArgs s__law_pot, defBody s__law_pot, defScope s__law_pot, [], []⟩
abbrev s__law_digit : Stmt := top 73
def d__law_digit : He.DefD := ⟨("_law_digit", none), "_law_digit", "_law_digit", defArgs s__law_digit, defBody s__law_digit, defScope s__law_digit, [], []⟩
abbrev s__law_pick : Stmt := top 74
def d__law_pick : He.DefD := ⟨("_law_pick", none), "_law_pick", "_law_pick", defArgs s__law_pick, defBody s__law_pick, defScope s__law_pick, [], []⟩
abbrev s__law_name : Stmt := top 75
def d__law_name : He.DefD := ⟨("_law_name", none), "_law_name", "_law_name", defArgs s__law_name, defBody s__law_name, defScope s__law_name, [], []⟩
abbrev s__law_form : Stmt := top 76
def d__law_form : He.DefD := ⟨("_law_form", none), "_law_form", "_law_form", defArgs s__law_form, defBody s__law_form, defScope s__law_form, [], []⟩
abbrev s__law_near : Stmt := top 77
def d__law_near : He.DefD := ⟨("_law_near", none), "_law_near", "_law_near", defArgs s__law_near, defBody s__law_near, defScope s__law_near, [], []⟩
abbrev s__law_is_near : Stmt := top 78
def d__law_is_near : He.DefD := ⟨("_law_is_near", none), "_law_is_near", "_law_is_near", defArgs s__law_is_near, defBody s__law_is_near, defScope s__law_is_near, [], []⟩
abbrev s__law_plain : Stmt := top 79
def d__law_plain : He.DefD := ⟨("_law_plain", none), "_law_plain", "_law_plain", defArgs s__law_plain, defBody s__law_plain, defScope s__law_plain, [], []⟩
abbrev s__law_by_head : Stmt := top 80
def d__law_by_head : He.DefD := ⟨("_law_by_head", none), "_law_by_head", "_law_by_head", defArgs s__law_by_head, defBody s__law_by_head, defScope s__law_by_head, [], []⟩
abbrev s__law_term : Stmt := top 81
def d__law_term : He.DefD := ⟨("_law_term", none), "_law_term", "_law_term", defArgs s__law_term, defBody s__law_term, defScope s__law_term, [], []⟩
abbrev s__law_halls : Stmt := top 82
def d__law_halls : He.DefD := ⟨("_law_halls", none), "_law_halls", "_law_halls", defArgs s__law_halls, defBody s__law_halls, defScope s__law_halls, [], []⟩
abbrev s__law_height : Stmt := top 83
def d__law_height : He.DefD := ⟨("_law_height", none), "_law_height", "_law_height", defArgs s__law_height, defBody s__law_height, defScope s__law_height, [], []⟩
abbrev s__law_low : Stmt := top 84
def d__law_low : He.DefD := ⟨("_law_low", none), "_law_low", "_law_low", defArgs s__law_low, defBody s__law_low, defScope s__law_low, [], []⟩
abbrev s__law_joint : Stmt := top 85
def d__law_joint : He.DefD := ⟨("_law_joint", none), "_law_joint", "_law_joint", defArgs s__law_joint, defBody s__law_joint, defScope s__law_joint, [], []⟩
abbrev s__law_form_of : Stmt := top 86
def d__law_form_of : He.DefD := ⟨("_law_form_of", none), "_law_form_of", "_law_form_of", defArgs s__law_form_of, defBody s__law_form_of, defScope s__law_form_of, [], []⟩
abbrev s__law_fenced : Stmt := top 87
def d__law_fenced : He.DefD := ⟨("_law_fenced", none), "_law_fenced", "_law_fenced", defArgs s__law_fenced, defBody s__law_fenced, defScope s__law_fenced, [], []⟩
abbrev s__law_begun : Stmt := top 88
def d__law_begun : He.DefD := ⟨("_law_begun", none), "_law_begun", "_law_begun", defArgs s__law_begun, defBody s__law_begun, defScope s__law_begun, [], []⟩
abbrev s__law_aimed : Stmt := top 89
def d__law_aimed : He.DefD := ⟨("_law_aimed", none), "_law_aimed", "_law_aimed", defArgs s__law_aimed, defBody s__law_aimed, defScope s__law_aimed, [], []⟩
abbrev s__law_headed : Stmt := top 90
def d__law_headed : He.DefD := ⟨("_law_headed", none), "_law_headed", "_law_headed", defArgs s__law_headed, defBody s__law_headed, defScope s__law_headed, [], []⟩
abbrev s__law_place_loose : Stmt := top 91
def d__law_place_loose : He.DefD := ⟨("_law_place_loose", none), "_law_place_loose", "_law_place_loose", defArgs s__law_place_loose, defBody s__law_place_loose, defScope s__law_place_loose, [], []⟩
abbrev s__law_place_headed : Stmt := top 92
def d__law_place_headed : He.DefD := ⟨("_law_place_headed", none), "_law_place_headed", "_law_place_headed", defArgs s__law_place_headed, defBody s__law_place_headed, defScope s__law_place_headed, [], []⟩
abbrev s__law_place_choice : Stmt := top 93
def d__law_place_choice : He.DefD := ⟨("_law_place_choice", none), "_law_place_choice", "_law_place_choice", defArgs s__law_place_choice, defBody s__law_place_choice, defScope s__law_place_choice, [], []⟩
abbrev s__law_place : Stmt := top 94
def d__law_place : He.DefD := ⟨("_law_place", none), "_law_place", "_law_place", defArgs s__law_place, defBody s__law_place, defScope s__law_place, [], []⟩
abbrev s__law_terms_of : Stmt := top 95
def d__law_terms_of : He.DefD := ⟨("_law_terms_of", none), "_law_terms_of", "_law_terms_of", defArgs s__law_terms_of, defBody s__law_terms_of, defScope s__law_terms_of, [], []⟩
abbrev s__law_opened : Stmt := top 96
def d__law_opened : He.DefD := ⟨("_law_opened", none), "_law_opened", "_law_opened", defArgs s__law_opened, defBody s__law_opened, defScope s__law_opened, [], []⟩
abbrev s__law_fences : Stmt := top 97
def d__law_fences : He.DefD := ⟨("_law_fences", none), "_law_fences", "_law_fences", defArgs s__law_fences, defBody s__law_fences, defScope s__law_fences, [], []⟩
abbrev s__law_places : Stmt := top 98
def d__law_places : He.DefD := ⟨("_law_places", none), "_law_places", "_law_places", defArgs s__law_places, defBody s__law_places, defScope s__law_places, [], []⟩
abbrev s__law_marks_right : Stmt := top 99
def d__law_marks_right : He.DefD := ⟨("_law_marks_right", none), "_law_marks_right", "_law_marks_right", defArgs s__law_marks_right, defBody s__law_marks_right, defScope s__law_marks_right, [], []⟩
abbrev s__law_right : Stmt := top 100
def d__law_right : He.DefD := ⟨("_law_right", none), "_law_right", "_law_right", defArgs s__law_right, defBody s__law_right, defScope s__law_right, [], []⟩
abbrev s__law_halls_right : Stmt := top 101
def d__law_halls_right : He.DefD := ⟨("_law_halls_right", none), "_law_halls_right", "_law_halls_right", defArgs s__law_halls_right, defBody s__law_halls_right, defScope s__law_halls_right, [], []⟩
abbrev s_law : Stmt := top 102
def d_law : He.DefD := ⟨("law", none), "law", "law", defArgs s_law, defBody s_law, defScope s_law, [], []⟩
def fn : List He.DefD := [d_is_name, d_is_form_to, d_is_form, d_want_form, d_head_of_form, d_head_of, d_height_of_form, d_near_forms, d_met_forms, d_wide_of, d_is_whole, d_is_written, d_fits, d_is_term, d_want_term, d_terms_in, d_is_hall_form, d_is_hall, d_low, d_walled, d_of_number, d_of_text, d_of_name, d_of_deed, d_of_call, d_of_let, d_of_tell, d_of_if, d_of_sum, d_of_size, d_of_box, d_of_read, d_of_write, d_of_same, d_of_do, d_Placer_init, d_Placer_form_of, d_Placer_placed, d_Placer_begun, d_Placer_wanted, d_Placer_wanted_head, d_terms_within, d_walls_in, d_want_halls, d_Program_init, d_Program_want_name, d_Program_placed, d_Program_walls, d_Program_place, d__law_pot, d__law_digit, d__law_pick, d__law_name, d__law_form, d__law_near, d__law_is_near, d__law_plain, d__law_by_head, d__law_term, d__law_halls, d__law_height, d__law_low, d__law_joint, d__law_form_of, d__law_fenced, d__law_begun, d__law_aimed, d__law_headed, d__law_place_loose, d__law_place_headed, d__law_place_choice, d__law_place, d__law_terms_of, d__law_opened, d__law_fences, d__law_places, d__law_marks_right, d__law_right, d__law_halls_right, d_law]
def fa : List He.Fa := [.glo "is_name",
  .glo "is_form_to",
  .glo "is_form",
  .glo "want_form",
  .glo "head_of_form",
  .glo "head_of",
  .glo "height_of_form",
  .glo "near_forms",
  .glo "met_forms",
  .glo "wide_of",
  .glo "is_whole",
  .glo "is_written",
  .glo "fits",
  .glo "is_term",
  .glo "want_term",
  .glo "terms_in",
  .glo "is_hall_form",
  .glo "is_hall",
  .glo "low",
  .glo "walled",
  .glo "of_number",
  .glo "of_text",
  .glo "of_name",
  .glo "of_deed",
  .glo "of_call",
  .glo "of_let",
  .glo "of_tell",
  .glo "of_if",
  .glo "of_sum",
  .glo "of_size",
  .glo "of_box",
  .glo "of_read",
  .glo "of_write",
  .glo "of_same",
  .glo "of_do",
  .glo "terms_within",
  .glo "walls_in",
  .glo "want_halls",
  .glo "_law_pot",
  .glo "_law_digit",
  .glo "_law_pick",
  .glo "_law_name",
  .glo "_law_form",
  .glo "_law_near",
  .glo "_law_is_near",
  .glo "_law_plain",
  .glo "_law_by_head",
  .glo "_law_term",
  .glo "_law_halls",
  .glo "_law_height",
  .glo "_law_low",
  .glo "_law_joint",
  .glo "_law_form_of",
  .glo "_law_fenced",
  .glo "_law_begun",
  .glo "_law_aimed",
  .glo "_law_headed",
  .glo "_law_place_loose",
  .glo "_law_place_headed",
  .glo "_law_place_choice",
  .glo "_law_place",
  .glo "_law_terms_of",
  .glo "_law_opened",
  .glo "_law_fences",
  .glo "_law_places",
  .glo "_law_marks_right",
  .glo "_law_right",
  .glo "_law_halls_right",
  .glo "law",
  .glo "Placer",
  .cls "Placer",
  .mkr "Placer",
  .noat "Placer" "ahead",
  .noat "Placer" "forms",
  .noat "Placer" "places",
  .meth "Placer" "__init__",
  .meth "Placer" "form_of",
  .meth "Placer" "placed",
  .meth "Placer" "begun",
  .meth "Placer" "wanted",
  .meth "Placer" "wanted_head",
  .glo "Program",
  .cls "Program",
  .mkr "Program",
  .noat "Program" "own_halls",
  .noat "Program" "forms",
  .noat "Program" "terms",
  .meth "Program" "__init__",
  .meth "Program" "want_name",
  .meth "Program" "placed",
  .meth "Program" "walls",
  .meth "Program" "place",
  .glo "WIDTHS",
  .glo "SHAPES",
  .glo "WAYS",
  .glo "PLAIN",
  .str "ANY_forms" "any",
  .str "DEED_forms" "deed",
  .str "BOX" "box",
  .str "LETTERS_forms" "abcdefghijklmnopqrstuvwxyz",
  .str "LETTERS_terms" "abcdefghijklmnopqrstuvwxyz",
  .str "ANY_halls" "any",
  .str "DEED_halls" "deed",
  .str "WALL" "wall",
  .str "NUM" "num",
  .str "TEXT" "text",
  .int "MOST_HEIGHT" (5),
  .int "MOST_LETTERS" (8),
  .int "MOST_SIGNS" (8),
  .int "MOST_HALLS" (12),
  .int "NO_LIST" (-1),
  .free "LookupError",
  .free "ValueError",
  .free "abs",
  .free "all",
  .free "bool",
  .free "dict",
  .free "divmod",
  .free "enumerate",
  .free "int",
  .free "isinstance",
  .free "len",
  .free "list",
  .free "max",
  .free "min",
  .free "range",
  .free "repr",
  .free "reversed",
  .free "set",
  .free "sorted",
  .free "str",
  .free "sum",
  .free "tuple",
  .free "zip"]
def ts : List He.Tab := [((fun K => He.ga K "WIDTHS"), ["deed", "box"]), ((fun K => He.ga K "SHAPES"), ["number", "text", "name", "deed", "call", "let", "tell", "if", "add", "sub", "size", "box", "read", "write", "same", "do"]), ((fun K => He.ga K "WAYS"), ["number", "text", "name", "deed", "call", "let", "tell", "if", "add", "sub", "size", "box", "read", "write", "same", "do"])]
def v_WIDTHS : List (Str × He.Dv) := [("deed", .int 3), ("box", .int 2)]
def v_SHAPES : List (Str × He.Dv) := [("number", .str "w"), ("text", .str "l"), ("name", .str "x"), ("deed", .str "xAe"), ("call", .str "ee"), ("let", .str "xee"), ("tell", .str "Ae"), ("if", .str "eee"), ("add", .str "ee"), ("sub", .str "ee"), ("size", .str "e"), ("box", .str "Ae"), ("read", .str "e"), ("write", .str "ee"), ("same", .str "ee"), ("do", .str "ee")]
def v_WAYS : List (Str × He.Dv) := [("number", .glo "of_number"), ("text", .glo "of_text"), ("name", .glo "of_name"), ("deed", .glo "of_deed"), ("call", .glo "of_call"), ("let", .glo "of_let"), ("tell", .glo "of_tell"), ("if", .glo "of_if"), ("add", .glo "of_sum"), ("sub", .glo "of_sum"), ("size", .glo "of_size"), ("box", .glo "of_box"), ("read", .glo "of_read"), ("write", .glo "of_write"), ("same", .glo "of_same"), ("do", .glo "of_do")]
def v_PLAIN : List He.Dv := [.str "any", .str "num", .str "text"]
def ex (K : PySem.W.Frag) : Bool := He.valsB K (He.ga K "WIDTHS") v_WIDTHS && He.valsB K (He.ga K "SHAPES") v_SHAPES && He.valsB K (He.ga K "WAYS") v_WAYS && He.tupB K "PLAIN" v_PLAIN
def loose0 : List Str := ["__name__", "WallError", "NoForm", "NoTerm", "NoProgram", "NotLet", "TooHigh", "NoName", "ANY_forms", "DEED_forms", "BOX", "PLAIN", "MOST_HEIGHT", "LETTERS_forms", "MOST_LETTERS", "WIDTHS", "is_name", "is_form_to", "is_form", "want_form"]
def loose1 : List Str := ["head_of_form", "head_of", "height_of_form", "near_forms", "met_forms", "wide_of", "LETTERS_terms", "MOST_SIGNS", "SHAPES", "is_whole", "is_written", "fits", "is_term", "want_term", "terms_in", "ANY_halls", "DEED_halls", "is_hall_form", "is_hall", "WALL"]
def loose2 : List Str := ["NUM", "TEXT", "MOST_HALLS", "NO_LIST", "low", "walled", "of_number", "of_text", "of_name", "of_deed", "of_call", "of_let", "of_tell", "of_if", "of_sum", "of_size", "of_box", "of_read", "of_write", "of_same"]
def loose3 : List Str := ["of_do", "WAYS", "Placer", "terms_within", "walls_in", "want_halls", "Program", "_law_pot", "_law_digit", "_law_pick", "_law_name", "_law_form", "_law_near", "_law_is_near", "_law_plain", "_law_by_head", "_law_term", "_law_halls", "_law_height", "_law_low"]
def loose4 : List Str := ["_law_joint", "_law_form_of", "_law_fenced", "_law_begun", "_law_aimed", "_law_headed", "_law_place_loose", "_law_place_headed", "_law_place_choice", "_law_place", "_law_terms_of", "_law_opened", "_law_fences", "_law_places", "_law_marks_right", "_law_right", "_law_halls_right"]
def loose : List Str := loose0 ++ loose1 ++ loose2 ++ loose3 ++ loose4
/-- what every walk leans on -/
structure Tx (w : World) (K : PySem.W.Frag) (mg : Str → Option Value) : Prop where
  t : He.SaysT fa fn ts w K
  ex : ex K = true
  gl : ∃ h : Heap, K.In h ∧ h.Ns mainGlobals mg
section
variable {w : World} {K : PySem.W.Frag} {mg : Str → Option Value}
theorem Tx.glo (T : Tx w K mg) (i : Nat) {x : Str} (h : fa[i]? = some (.glo x)) : mg x = some (.ref (He.ga K x)) := by
  obtain ⟨hp, X, G⟩ := T.gl
  exact He.glo_ok X G (T.t.d.fact i h)
theorem Tx.free (T : Tx w K mg) (i : Nat) {x : Str} (h : fa[i]? = some (.free x)) : mg x = none := by
  obtain ⟨hp, X, G⟩ := T.gl
  exact He.free_ok X G (T.t.d.fact i h)
theorem Tx.int (T : Tx w K mg) (i : Nat) {x : Str} {z : Int} (h : fa[i]? = some (.int x z)) : ∃ t, mg x = some (.int z t) := by
  obtain ⟨hp, X, G⟩ := T.gl
  exact He.int_ok X G (T.t.d.fact i h)
theorem Tx.str (T : Tx w K mg) (i : Nat) {x z : Str} (h : fa[i]? = some (.str x z)) : ∃ t, mg x = some (.str z t) := by
  obtain ⟨hp, X, G⟩ := T.gl
  exact He.str_ok X G (T.t.d.fact i h)
theorem Tx.g_is_name (T : Tx w K mg) : mg "is_name" = some (.ref (He.ga K "is_name")) := T.glo 0 rfl
theorem Tx.g_is_form_to (T : Tx w K mg) : mg "is_form_to" = some (.ref (He.ga K "is_form_to")) := T.glo 1 rfl
theorem Tx.g_is_form (T : Tx w K mg) : mg "is_form" = some (.ref (He.ga K "is_form")) := T.glo 2 rfl
theorem Tx.g_want_form (T : Tx w K mg) : mg "want_form" = some (.ref (He.ga K "want_form")) := T.glo 3 rfl
theorem Tx.g_head_of_form (T : Tx w K mg) : mg "head_of_form" = some (.ref (He.ga K "head_of_form")) := T.glo 4 rfl
theorem Tx.g_head_of (T : Tx w K mg) : mg "head_of" = some (.ref (He.ga K "head_of")) := T.glo 5 rfl
theorem Tx.g_height_of_form (T : Tx w K mg) : mg "height_of_form" = some (.ref (He.ga K "height_of_form")) := T.glo 6 rfl
theorem Tx.g_near_forms (T : Tx w K mg) : mg "near_forms" = some (.ref (He.ga K "near_forms")) := T.glo 7 rfl
theorem Tx.g_met_forms (T : Tx w K mg) : mg "met_forms" = some (.ref (He.ga K "met_forms")) := T.glo 8 rfl
theorem Tx.g_wide_of (T : Tx w K mg) : mg "wide_of" = some (.ref (He.ga K "wide_of")) := T.glo 9 rfl
theorem Tx.g_is_whole (T : Tx w K mg) : mg "is_whole" = some (.ref (He.ga K "is_whole")) := T.glo 10 rfl
theorem Tx.g_is_written (T : Tx w K mg) : mg "is_written" = some (.ref (He.ga K "is_written")) := T.glo 11 rfl
theorem Tx.g_fits (T : Tx w K mg) : mg "fits" = some (.ref (He.ga K "fits")) := T.glo 12 rfl
theorem Tx.g_is_term (T : Tx w K mg) : mg "is_term" = some (.ref (He.ga K "is_term")) := T.glo 13 rfl
theorem Tx.g_want_term (T : Tx w K mg) : mg "want_term" = some (.ref (He.ga K "want_term")) := T.glo 14 rfl
theorem Tx.g_terms_in (T : Tx w K mg) : mg "terms_in" = some (.ref (He.ga K "terms_in")) := T.glo 15 rfl
theorem Tx.g_is_hall_form (T : Tx w K mg) : mg "is_hall_form" = some (.ref (He.ga K "is_hall_form")) := T.glo 16 rfl
theorem Tx.g_is_hall (T : Tx w K mg) : mg "is_hall" = some (.ref (He.ga K "is_hall")) := T.glo 17 rfl
theorem Tx.g_low (T : Tx w K mg) : mg "low" = some (.ref (He.ga K "low")) := T.glo 18 rfl
theorem Tx.g_walled (T : Tx w K mg) : mg "walled" = some (.ref (He.ga K "walled")) := T.glo 19 rfl
theorem Tx.g_of_number (T : Tx w K mg) : mg "of_number" = some (.ref (He.ga K "of_number")) := T.glo 20 rfl
theorem Tx.g_of_text (T : Tx w K mg) : mg "of_text" = some (.ref (He.ga K "of_text")) := T.glo 21 rfl
theorem Tx.g_of_name (T : Tx w K mg) : mg "of_name" = some (.ref (He.ga K "of_name")) := T.glo 22 rfl
theorem Tx.g_of_deed (T : Tx w K mg) : mg "of_deed" = some (.ref (He.ga K "of_deed")) := T.glo 23 rfl
theorem Tx.g_of_call (T : Tx w K mg) : mg "of_call" = some (.ref (He.ga K "of_call")) := T.glo 24 rfl
theorem Tx.g_of_let (T : Tx w K mg) : mg "of_let" = some (.ref (He.ga K "of_let")) := T.glo 25 rfl
theorem Tx.g_of_tell (T : Tx w K mg) : mg "of_tell" = some (.ref (He.ga K "of_tell")) := T.glo 26 rfl
theorem Tx.g_of_if (T : Tx w K mg) : mg "of_if" = some (.ref (He.ga K "of_if")) := T.glo 27 rfl
theorem Tx.g_of_sum (T : Tx w K mg) : mg "of_sum" = some (.ref (He.ga K "of_sum")) := T.glo 28 rfl
theorem Tx.g_of_size (T : Tx w K mg) : mg "of_size" = some (.ref (He.ga K "of_size")) := T.glo 29 rfl
theorem Tx.g_of_box (T : Tx w K mg) : mg "of_box" = some (.ref (He.ga K "of_box")) := T.glo 30 rfl
theorem Tx.g_of_read (T : Tx w K mg) : mg "of_read" = some (.ref (He.ga K "of_read")) := T.glo 31 rfl
theorem Tx.g_of_write (T : Tx w K mg) : mg "of_write" = some (.ref (He.ga K "of_write")) := T.glo 32 rfl
theorem Tx.g_of_same (T : Tx w K mg) : mg "of_same" = some (.ref (He.ga K "of_same")) := T.glo 33 rfl
theorem Tx.g_of_do (T : Tx w K mg) : mg "of_do" = some (.ref (He.ga K "of_do")) := T.glo 34 rfl
theorem Tx.g_terms_within (T : Tx w K mg) : mg "terms_within" = some (.ref (He.ga K "terms_within")) := T.glo 35 rfl
theorem Tx.g_walls_in (T : Tx w K mg) : mg "walls_in" = some (.ref (He.ga K "walls_in")) := T.glo 36 rfl
theorem Tx.g_want_halls (T : Tx w K mg) : mg "want_halls" = some (.ref (He.ga K "want_halls")) := T.glo 37 rfl
theorem Tx.g__law_pot (T : Tx w K mg) : mg "_law_pot" = some (.ref (He.ga K "_law_pot")) := T.glo 38 rfl
theorem Tx.g__law_digit (T : Tx w K mg) : mg "_law_digit" = some (.ref (He.ga K "_law_digit")) := T.glo 39 rfl
theorem Tx.g__law_pick (T : Tx w K mg) : mg "_law_pick" = some (.ref (He.ga K "_law_pick")) := T.glo 40 rfl
theorem Tx.g__law_name (T : Tx w K mg) : mg "_law_name" = some (.ref (He.ga K "_law_name")) := T.glo 41 rfl
theorem Tx.g__law_form (T : Tx w K mg) : mg "_law_form" = some (.ref (He.ga K "_law_form")) := T.glo 42 rfl
theorem Tx.g__law_near (T : Tx w K mg) : mg "_law_near" = some (.ref (He.ga K "_law_near")) := T.glo 43 rfl
theorem Tx.g__law_is_near (T : Tx w K mg) : mg "_law_is_near" = some (.ref (He.ga K "_law_is_near")) := T.glo 44 rfl
theorem Tx.g__law_plain (T : Tx w K mg) : mg "_law_plain" = some (.ref (He.ga K "_law_plain")) := T.glo 45 rfl
theorem Tx.g__law_by_head (T : Tx w K mg) : mg "_law_by_head" = some (.ref (He.ga K "_law_by_head")) := T.glo 46 rfl
theorem Tx.g__law_term (T : Tx w K mg) : mg "_law_term" = some (.ref (He.ga K "_law_term")) := T.glo 47 rfl
theorem Tx.g__law_halls (T : Tx w K mg) : mg "_law_halls" = some (.ref (He.ga K "_law_halls")) := T.glo 48 rfl
theorem Tx.g__law_height (T : Tx w K mg) : mg "_law_height" = some (.ref (He.ga K "_law_height")) := T.glo 49 rfl
theorem Tx.g__law_low (T : Tx w K mg) : mg "_law_low" = some (.ref (He.ga K "_law_low")) := T.glo 50 rfl
theorem Tx.g__law_joint (T : Tx w K mg) : mg "_law_joint" = some (.ref (He.ga K "_law_joint")) := T.glo 51 rfl
theorem Tx.g__law_form_of (T : Tx w K mg) : mg "_law_form_of" = some (.ref (He.ga K "_law_form_of")) := T.glo 52 rfl
theorem Tx.g__law_fenced (T : Tx w K mg) : mg "_law_fenced" = some (.ref (He.ga K "_law_fenced")) := T.glo 53 rfl
theorem Tx.g__law_begun (T : Tx w K mg) : mg "_law_begun" = some (.ref (He.ga K "_law_begun")) := T.glo 54 rfl
theorem Tx.g__law_aimed (T : Tx w K mg) : mg "_law_aimed" = some (.ref (He.ga K "_law_aimed")) := T.glo 55 rfl
theorem Tx.g__law_headed (T : Tx w K mg) : mg "_law_headed" = some (.ref (He.ga K "_law_headed")) := T.glo 56 rfl
theorem Tx.g__law_place_loose (T : Tx w K mg) : mg "_law_place_loose" = some (.ref (He.ga K "_law_place_loose")) := T.glo 57 rfl
theorem Tx.g__law_place_headed (T : Tx w K mg) : mg "_law_place_headed" = some (.ref (He.ga K "_law_place_headed")) := T.glo 58 rfl
theorem Tx.g__law_place_choice (T : Tx w K mg) : mg "_law_place_choice" = some (.ref (He.ga K "_law_place_choice")) := T.glo 59 rfl
theorem Tx.g__law_place (T : Tx w K mg) : mg "_law_place" = some (.ref (He.ga K "_law_place")) := T.glo 60 rfl
theorem Tx.g__law_terms_of (T : Tx w K mg) : mg "_law_terms_of" = some (.ref (He.ga K "_law_terms_of")) := T.glo 61 rfl
theorem Tx.g__law_opened (T : Tx w K mg) : mg "_law_opened" = some (.ref (He.ga K "_law_opened")) := T.glo 62 rfl
theorem Tx.g__law_fences (T : Tx w K mg) : mg "_law_fences" = some (.ref (He.ga K "_law_fences")) := T.glo 63 rfl
theorem Tx.g__law_places (T : Tx w K mg) : mg "_law_places" = some (.ref (He.ga K "_law_places")) := T.glo 64 rfl
theorem Tx.g__law_marks_right (T : Tx w K mg) : mg "_law_marks_right" = some (.ref (He.ga K "_law_marks_right")) := T.glo 65 rfl
theorem Tx.g__law_right (T : Tx w K mg) : mg "_law_right" = some (.ref (He.ga K "_law_right")) := T.glo 66 rfl
theorem Tx.g__law_halls_right (T : Tx w K mg) : mg "_law_halls_right" = some (.ref (He.ga K "_law_halls_right")) := T.glo 67 rfl
theorem Tx.g_law (T : Tx w K mg) : mg "law" = some (.ref (He.ga K "law")) := T.glo 68 rfl
theorem Tx.g_Placer (T : Tx w K mg) : mg "Placer" = some (.ref (He.ga K "Placer")) := T.glo 69 rfl
theorem Tx.c_Placer (T : Tx w K mg) : Cls K (He.ga K "Placer") := He.cls_ok (T.t.d.fact 70 rfl)
theorem Tx.k_Placer (T : Tx w K mg) : Mk K (He.ga K "Placer") (He.ma K (He.ga K "Placer") "__init__") := He.mkr_ok (T.t.d.fact 71 rfl)
theorem Tx.n_Placer_ahead (T : Tx w K mg) : NoAttr K (He.ga K "Placer") "ahead" := He.noat_ok (T.t.d.fact 72 rfl)
theorem Tx.n_Placer_forms (T : Tx w K mg) : NoAttr K (He.ga K "Placer") "forms" := He.noat_ok (T.t.d.fact 73 rfl)
theorem Tx.n_Placer_places (T : Tx w K mg) : NoAttr K (He.ga K "Placer") "places" := He.noat_ok (T.t.d.fact 74 rfl)
theorem Tx.m_Placer_init (T : Tx w K mg) : Meth K (He.ga K "Placer") "__init__" (He.ma K (He.ga K "Placer") "__init__") := He.meth_ok (T.t.d.fact 75 rfl)
theorem Tx.m_Placer_form_of (T : Tx w K mg) : Meth K (He.ga K "Placer") "form_of" (He.ma K (He.ga K "Placer") "form_of") := He.meth_ok (T.t.d.fact 76 rfl)
theorem Tx.m_Placer_placed (T : Tx w K mg) : Meth K (He.ga K "Placer") "placed" (He.ma K (He.ga K "Placer") "placed") := He.meth_ok (T.t.d.fact 77 rfl)
theorem Tx.m_Placer_begun (T : Tx w K mg) : Meth K (He.ga K "Placer") "begun" (He.ma K (He.ga K "Placer") "begun") := He.meth_ok (T.t.d.fact 78 rfl)
theorem Tx.m_Placer_wanted (T : Tx w K mg) : Meth K (He.ga K "Placer") "wanted" (He.ma K (He.ga K "Placer") "wanted") := He.meth_ok (T.t.d.fact 79 rfl)
theorem Tx.m_Placer_wanted_head (T : Tx w K mg) : Meth K (He.ga K "Placer") "wanted_head" (He.ma K (He.ga K "Placer") "wanted_head") := He.meth_ok (T.t.d.fact 80 rfl)
theorem Tx.g_Program (T : Tx w K mg) : mg "Program" = some (.ref (He.ga K "Program")) := T.glo 81 rfl
theorem Tx.c_Program (T : Tx w K mg) : Cls K (He.ga K "Program") := He.cls_ok (T.t.d.fact 82 rfl)
theorem Tx.k_Program (T : Tx w K mg) : Mk K (He.ga K "Program") (He.ma K (He.ga K "Program") "__init__") := He.mkr_ok (T.t.d.fact 83 rfl)
theorem Tx.n_Program_own_halls (T : Tx w K mg) : NoAttr K (He.ga K "Program") "own_halls" := He.noat_ok (T.t.d.fact 84 rfl)
theorem Tx.n_Program_forms (T : Tx w K mg) : NoAttr K (He.ga K "Program") "forms" := He.noat_ok (T.t.d.fact 85 rfl)
theorem Tx.n_Program_terms (T : Tx w K mg) : NoAttr K (He.ga K "Program") "terms" := He.noat_ok (T.t.d.fact 86 rfl)
theorem Tx.m_Program_init (T : Tx w K mg) : Meth K (He.ga K "Program") "__init__" (He.ma K (He.ga K "Program") "__init__") := He.meth_ok (T.t.d.fact 87 rfl)
theorem Tx.m_Program_want_name (T : Tx w K mg) : Meth K (He.ga K "Program") "want_name" (He.ma K (He.ga K "Program") "want_name") := He.meth_ok (T.t.d.fact 88 rfl)
theorem Tx.m_Program_placed (T : Tx w K mg) : Meth K (He.ga K "Program") "placed" (He.ma K (He.ga K "Program") "placed") := He.meth_ok (T.t.d.fact 89 rfl)
theorem Tx.m_Program_walls (T : Tx w K mg) : Meth K (He.ga K "Program") "walls" (He.ma K (He.ga K "Program") "walls") := He.meth_ok (T.t.d.fact 90 rfl)
theorem Tx.m_Program_place (T : Tx w K mg) : Meth K (He.ga K "Program") "place" (He.ma K (He.ga K "Program") "place") := He.meth_ok (T.t.d.fact 91 rfl)
theorem Tx.g_WIDTHS (T : Tx w K mg) : mg "WIDTHS" = some (.ref (He.ga K "WIDTHS")) := T.glo 92 rfl
theorem Tx.g_SHAPES (T : Tx w K mg) : mg "SHAPES" = some (.ref (He.ga K "SHAPES")) := T.glo 93 rfl
theorem Tx.g_WAYS (T : Tx w K mg) : mg "WAYS" = some (.ref (He.ga K "WAYS")) := T.glo 94 rfl
theorem Tx.g_PLAIN (T : Tx w K mg) : mg "PLAIN" = some (.ref (He.ga K "PLAIN")) := T.glo 95 rfl
theorem Tx.s_ANY_forms (T : Tx w K mg) : ∃ t, mg "ANY_forms" = some (.str "any" t) := T.str 96 rfl
theorem Tx.s_DEED_forms (T : Tx w K mg) : ∃ t, mg "DEED_forms" = some (.str "deed" t) := T.str 97 rfl
theorem Tx.s_BOX (T : Tx w K mg) : ∃ t, mg "BOX" = some (.str "box" t) := T.str 98 rfl
theorem Tx.s_LETTERS_forms (T : Tx w K mg) : ∃ t, mg "LETTERS_forms" = some (.str "abcdefghijklmnopqrstuvwxyz" t) := T.str 99 rfl
theorem Tx.s_LETTERS_terms (T : Tx w K mg) : ∃ t, mg "LETTERS_terms" = some (.str "abcdefghijklmnopqrstuvwxyz" t) := T.str 100 rfl
theorem Tx.s_ANY_halls (T : Tx w K mg) : ∃ t, mg "ANY_halls" = some (.str "any" t) := T.str 101 rfl
theorem Tx.s_DEED_halls (T : Tx w K mg) : ∃ t, mg "DEED_halls" = some (.str "deed" t) := T.str 102 rfl
theorem Tx.s_WALL (T : Tx w K mg) : ∃ t, mg "WALL" = some (.str "wall" t) := T.str 103 rfl
theorem Tx.s_NUM (T : Tx w K mg) : ∃ t, mg "NUM" = some (.str "num" t) := T.str 104 rfl
theorem Tx.s_TEXT (T : Tx w K mg) : ∃ t, mg "TEXT" = some (.str "text" t) := T.str 105 rfl
theorem Tx.i_MOST_HEIGHT (T : Tx w K mg) : ∃ t, mg "MOST_HEIGHT" = some (.int (5) t) := T.int 106 rfl
theorem Tx.i_MOST_LETTERS (T : Tx w K mg) : ∃ t, mg "MOST_LETTERS" = some (.int (8) t) := T.int 107 rfl
theorem Tx.i_MOST_SIGNS (T : Tx w K mg) : ∃ t, mg "MOST_SIGNS" = some (.int (8) t) := T.int 108 rfl
theorem Tx.i_MOST_HALLS (T : Tx w K mg) : ∃ t, mg "MOST_HALLS" = some (.int (12) t) := T.int 109 rfl
theorem Tx.i_NO_LIST (T : Tx w K mg) : ∃ t, mg "NO_LIST" = some (.int (-1) t) := T.int 110 rfl
theorem Tx.b_LookupError (T : Tx w K mg) : mg "LookupError" = none := T.free 111 rfl
theorem Tx.b_ValueError (T : Tx w K mg) : mg "ValueError" = none := T.free 112 rfl
theorem Tx.b_abs (T : Tx w K mg) : mg "abs" = none := T.free 113 rfl
theorem Tx.b_all (T : Tx w K mg) : mg "all" = none := T.free 114 rfl
theorem Tx.b_bool (T : Tx w K mg) : mg "bool" = none := T.free 115 rfl
theorem Tx.b_dict (T : Tx w K mg) : mg "dict" = none := T.free 116 rfl
theorem Tx.b_divmod (T : Tx w K mg) : mg "divmod" = none := T.free 117 rfl
theorem Tx.b_enumerate (T : Tx w K mg) : mg "enumerate" = none := T.free 118 rfl
theorem Tx.b_int (T : Tx w K mg) : mg "int" = none := T.free 119 rfl
theorem Tx.b_isinstance (T : Tx w K mg) : mg "isinstance" = none := T.free 120 rfl
theorem Tx.b_len (T : Tx w K mg) : mg "len" = none := T.free 121 rfl
theorem Tx.b_list (T : Tx w K mg) : mg "list" = none := T.free 122 rfl
theorem Tx.b_max (T : Tx w K mg) : mg "max" = none := T.free 123 rfl
theorem Tx.b_min (T : Tx w K mg) : mg "min" = none := T.free 124 rfl
theorem Tx.b_range (T : Tx w K mg) : mg "range" = none := T.free 125 rfl
theorem Tx.b_repr (T : Tx w K mg) : mg "repr" = none := T.free 126 rfl
theorem Tx.b_reversed (T : Tx w K mg) : mg "reversed" = none := T.free 127 rfl
theorem Tx.b_set (T : Tx w K mg) : mg "set" = none := T.free 128 rfl
theorem Tx.b_sorted (T : Tx w K mg) : mg "sorted" = none := T.free 129 rfl
theorem Tx.b_str (T : Tx w K mg) : mg "str" = none := T.free 130 rfl
theorem Tx.b_sum (T : Tx w K mg) : mg "sum" = none := T.free 131 rfl
theorem Tx.b_tuple (T : Tx w K mg) : mg "tuple" = none := T.free 132 rfl
theorem Tx.b_zip (T : Tx w K mg) : mg "zip" = none := T.free 133 rfl
theorem Tx.t_WIDTHS (T : Tx w K mg) : ∃ es n, KDict K w (He.ga K "WIDTHS") es n := T.t.tab 0 rfl
theorem Tx.t_SHAPES (T : Tx w K mg) : ∃ es n, KDict K w (He.ga K "SHAPES") es n := T.t.tab 1 rfl
theorem Tx.t_WAYS (T : Tx w K mg) : ∃ es n, KDict K w (He.ga K "WAYS") es n := T.t.tab 2 rfl
theorem Tx.v_WIDTHS (T : Tx w K mg) {q : Str × He.Dv} (hq : q ∈ v_WIDTHS) : ∃ u, PySem.W.nsIn K (He.ga K "WIDTHS") q.1 = some (some u) ∧ RelV (q.2.v K) u := by
  have h1 := He.ba T.ex
  have h2 := He.ba h1.1
  have h3 := He.ba h2.1
  exact He.valsB_ok h3.1 hq
theorem Tx.v_SHAPES (T : Tx w K mg) {q : Str × He.Dv} (hq : q ∈ v_SHAPES) : ∃ u, PySem.W.nsIn K (He.ga K "SHAPES") q.1 = some (some u) ∧ RelV (q.2.v K) u := by
  have h1 := He.ba T.ex
  have h2 := He.ba h1.1
  have h3 := He.ba h2.1
  exact He.valsB_ok h3.2 hq
theorem Tx.v_WAYS (T : Tx w K mg) {q : Str × He.Dv} (hq : q ∈ v_WAYS) : ∃ u, PySem.W.nsIn K (He.ga K "WAYS") q.1 = some (some u) ∧ RelV (q.2.v K) u := by
  have h1 := He.ba T.ex
  have h2 := He.ba h1.1
  have h3 := He.ba h2.1
  exact He.valsB_ok h2.2 hq
theorem Tx.v_PLAIN (T : Tx w K mg) (H : Hp) : SqT K H (He.ga K "PLAIN") [.str "any", .str "num", .str "text"] := by
  exact He.tupB_ok (He.ba T.ex).2 H
theorem Tx.f_is_name (T : Tx w K mg) : ∃ fd, FunD K "is_name" "is_name" (defArgs s_is_name) (defBody s_is_name) (defScope s_is_name) [] [] (He.fAd K ("is_name", none)) fd := T.t.d.def_ 0 (d := d_is_name) rfl
theorem Tx.f_is_form_to (T : Tx w K mg) : ∃ fd, FunD K "is_form_to" "is_form_to" (defArgs s_is_form_to) (defBody s_is_form_to) (defScope s_is_form_to) [] [] (He.fAd K ("is_form_to", none)) fd := T.t.d.def_ 1 (d := d_is_form_to) rfl
theorem Tx.f_is_form (T : Tx w K mg) : ∃ fd, FunD K "is_form" "is_form" (defArgs s_is_form) (defBody s_is_form) (defScope s_is_form) [] [] (He.fAd K ("is_form", none)) fd := T.t.d.def_ 2 (d := d_is_form) rfl
theorem Tx.f_want_form (T : Tx w K mg) : ∃ fd, FunD K "want_form" "want_form" (defArgs s_want_form) (defBody s_want_form) (defScope s_want_form) [] [] (He.fAd K ("want_form", none)) fd := T.t.d.def_ 3 (d := d_want_form) rfl
theorem Tx.f_head_of_form (T : Tx w K mg) : ∃ fd, FunD K "head_of_form" "head_of_form" (defArgs s_head_of_form) (defBody s_head_of_form) (defScope s_head_of_form) [] [] (He.fAd K ("head_of_form", none)) fd := T.t.d.def_ 4 (d := d_head_of_form) rfl
theorem Tx.f_head_of (T : Tx w K mg) : ∃ fd, FunD K "head_of" "head_of" (defArgs s_head_of) (defBody s_head_of) (defScope s_head_of) [] [] (He.fAd K ("head_of", none)) fd := T.t.d.def_ 5 (d := d_head_of) rfl
theorem Tx.f_height_of_form (T : Tx w K mg) : ∃ fd, FunD K "height_of_form" "height_of_form" (defArgs s_height_of_form) (defBody s_height_of_form) (defScope s_height_of_form) [] [] (He.fAd K ("height_of_form", none)) fd := T.t.d.def_ 6 (d := d_height_of_form) rfl
theorem Tx.f_near_forms (T : Tx w K mg) : ∃ fd, FunD K "near_forms" "near_forms" (defArgs s_near_forms) (defBody s_near_forms) (defScope s_near_forms) [] [] (He.fAd K ("near_forms", none)) fd := T.t.d.def_ 7 (d := d_near_forms) rfl
theorem Tx.f_met_forms (T : Tx w K mg) : ∃ fd, FunD K "met_forms" "met_forms" (defArgs s_met_forms) (defBody s_met_forms) (defScope s_met_forms) [] [] (He.fAd K ("met_forms", none)) fd := T.t.d.def_ 8 (d := d_met_forms) rfl
theorem Tx.f_wide_of (T : Tx w K mg) : ∃ fd, FunD K "wide_of" "wide_of" (defArgs s_wide_of) (defBody s_wide_of) (defScope s_wide_of) [] [] (He.fAd K ("wide_of", none)) fd := T.t.d.def_ 9 (d := d_wide_of) rfl
theorem Tx.f_is_whole (T : Tx w K mg) : ∃ fd, FunD K "is_whole" "is_whole" (defArgs s_is_whole) (defBody s_is_whole) (defScope s_is_whole) [] [] (He.fAd K ("is_whole", none)) fd := T.t.d.def_ 10 (d := d_is_whole) rfl
theorem Tx.f_is_written (T : Tx w K mg) : ∃ fd, FunD K "is_written" "is_written" (defArgs s_is_written) (defBody s_is_written) (defScope s_is_written) [] [] (He.fAd K ("is_written", none)) fd := T.t.d.def_ 11 (d := d_is_written) rfl
theorem Tx.f_fits (T : Tx w K mg) : ∃ fd, FunD K "fits" "fits" (defArgs s_fits) (defBody s_fits) (defScope s_fits) [] [] (He.fAd K ("fits", none)) fd := T.t.d.def_ 12 (d := d_fits) rfl
theorem Tx.f_is_term (T : Tx w K mg) : ∃ fd, FunD K "is_term" "is_term" (defArgs s_is_term) (defBody s_is_term) (defScope s_is_term) [] [] (He.fAd K ("is_term", none)) fd := T.t.d.def_ 13 (d := d_is_term) rfl
theorem Tx.f_want_term (T : Tx w K mg) : ∃ fd, FunD K "want_term" "want_term" (defArgs s_want_term) (defBody s_want_term) (defScope s_want_term) [] [] (He.fAd K ("want_term", none)) fd := T.t.d.def_ 14 (d := d_want_term) rfl
theorem Tx.f_terms_in (T : Tx w K mg) : ∃ fd, FunD K "terms_in" "terms_in" (defArgs s_terms_in) (defBody s_terms_in) (defScope s_terms_in) [] [] (He.fAd K ("terms_in", none)) fd := T.t.d.def_ 15 (d := d_terms_in) rfl
theorem Tx.f_is_hall_form (T : Tx w K mg) : ∃ fd, FunD K "is_hall_form" "is_hall_form" (defArgs s_is_hall_form) (defBody s_is_hall_form) (defScope s_is_hall_form) [] [] (He.fAd K ("is_hall_form", none)) fd := T.t.d.def_ 16 (d := d_is_hall_form) rfl
theorem Tx.f_is_hall (T : Tx w K mg) : ∃ fd, FunD K "is_hall" "is_hall" (defArgs s_is_hall) (defBody s_is_hall) (defScope s_is_hall) [] [] (He.fAd K ("is_hall", none)) fd := T.t.d.def_ 17 (d := d_is_hall) rfl
theorem Tx.f_low (T : Tx w K mg) : ∃ fd, FunD K "low" "low" (defArgs s_low) (defBody s_low) (defScope s_low) [] [] (He.fAd K ("low", none)) fd := T.t.d.def_ 18 (d := d_low) rfl
theorem Tx.f_walled (T : Tx w K mg) : ∃ fd, FunD K "walled" "walled" (defArgs s_walled) (defBody s_walled) (defScope s_walled) [] [] (He.fAd K ("walled", none)) fd := T.t.d.def_ 19 (d := d_walled) rfl
theorem Tx.f_of_number (T : Tx w K mg) : ∃ fd, FunD K "of_number" "of_number" (defArgs s_of_number) (defBody s_of_number) (defScope s_of_number) [] [] (He.fAd K ("of_number", none)) fd := T.t.d.def_ 20 (d := d_of_number) rfl
theorem Tx.f_of_text (T : Tx w K mg) : ∃ fd, FunD K "of_text" "of_text" (defArgs s_of_text) (defBody s_of_text) (defScope s_of_text) [] [] (He.fAd K ("of_text", none)) fd := T.t.d.def_ 21 (d := d_of_text) rfl
theorem Tx.f_of_name (T : Tx w K mg) : ∃ fd, FunD K "of_name" "of_name" (defArgs s_of_name) (defBody s_of_name) (defScope s_of_name) [] [] (He.fAd K ("of_name", none)) fd := T.t.d.def_ 22 (d := d_of_name) rfl
theorem Tx.f_of_deed (T : Tx w K mg) : ∃ fd, FunD K "of_deed" "of_deed" (defArgs s_of_deed) (defBody s_of_deed) (defScope s_of_deed) [] [] (He.fAd K ("of_deed", none)) fd := T.t.d.def_ 23 (d := d_of_deed) rfl
theorem Tx.f_of_call (T : Tx w K mg) : ∃ fd, FunD K "of_call" "of_call" (defArgs s_of_call) (defBody s_of_call) (defScope s_of_call) [] [] (He.fAd K ("of_call", none)) fd := T.t.d.def_ 24 (d := d_of_call) rfl
theorem Tx.f_of_let (T : Tx w K mg) : ∃ fd, FunD K "of_let" "of_let" (defArgs s_of_let) (defBody s_of_let) (defScope s_of_let) [] [] (He.fAd K ("of_let", none)) fd := T.t.d.def_ 25 (d := d_of_let) rfl
theorem Tx.f_of_tell (T : Tx w K mg) : ∃ fd, FunD K "of_tell" "of_tell" (defArgs s_of_tell) (defBody s_of_tell) (defScope s_of_tell) [] [] (He.fAd K ("of_tell", none)) fd := T.t.d.def_ 26 (d := d_of_tell) rfl
theorem Tx.f_of_if (T : Tx w K mg) : ∃ fd, FunD K "of_if" "of_if" (defArgs s_of_if) (defBody s_of_if) (defScope s_of_if) [] [] (He.fAd K ("of_if", none)) fd := T.t.d.def_ 27 (d := d_of_if) rfl
theorem Tx.f_of_sum (T : Tx w K mg) : ∃ fd, FunD K "of_sum" "of_sum" (defArgs s_of_sum) (defBody s_of_sum) (defScope s_of_sum) [] [] (He.fAd K ("of_sum", none)) fd := T.t.d.def_ 28 (d := d_of_sum) rfl
theorem Tx.f_of_size (T : Tx w K mg) : ∃ fd, FunD K "of_size" "of_size" (defArgs s_of_size) (defBody s_of_size) (defScope s_of_size) [] [] (He.fAd K ("of_size", none)) fd := T.t.d.def_ 29 (d := d_of_size) rfl
theorem Tx.f_of_box (T : Tx w K mg) : ∃ fd, FunD K "of_box" "of_box" (defArgs s_of_box) (defBody s_of_box) (defScope s_of_box) [] [] (He.fAd K ("of_box", none)) fd := T.t.d.def_ 30 (d := d_of_box) rfl
theorem Tx.f_of_read (T : Tx w K mg) : ∃ fd, FunD K "of_read" "of_read" (defArgs s_of_read) (defBody s_of_read) (defScope s_of_read) [] [] (He.fAd K ("of_read", none)) fd := T.t.d.def_ 31 (d := d_of_read) rfl
theorem Tx.f_of_write (T : Tx w K mg) : ∃ fd, FunD K "of_write" "of_write" (defArgs s_of_write) (defBody s_of_write) (defScope s_of_write) [] [] (He.fAd K ("of_write", none)) fd := T.t.d.def_ 32 (d := d_of_write) rfl
theorem Tx.f_of_same (T : Tx w K mg) : ∃ fd, FunD K "of_same" "of_same" (defArgs s_of_same) (defBody s_of_same) (defScope s_of_same) [] [] (He.fAd K ("of_same", none)) fd := T.t.d.def_ 33 (d := d_of_same) rfl
theorem Tx.f_of_do (T : Tx w K mg) : ∃ fd, FunD K "of_do" "of_do" (defArgs s_of_do) (defBody s_of_do) (defScope s_of_do) [] [] (He.fAd K ("of_do", none)) fd := T.t.d.def_ 34 (d := d_of_do) rfl
theorem Tx.f_Placer_init (T : Tx w K mg) : ∃ fd, FunD K "__init__" "Placer.__init__" (defArgs s_Placer_init) (defBody s_Placer_init) (defScope s_Placer_init) [] [] (He.fAd K ("Placer", some "__init__")) fd := T.t.d.def_ 35 (d := d_Placer_init) rfl
theorem Tx.f_Placer_form_of (T : Tx w K mg) : ∃ fd, FunD K "form_of" "Placer.form_of" (defArgs s_Placer_form_of) (defBody s_Placer_form_of) (defScope s_Placer_form_of) [] [] (He.fAd K ("Placer", some "form_of")) fd := T.t.d.def_ 36 (d := d_Placer_form_of) rfl
theorem Tx.f_Placer_placed (T : Tx w K mg) : ∃ fd, FunD K "placed" "Placer.placed" (defArgs s_Placer_placed) (defBody s_Placer_placed) (defScope s_Placer_placed) [] [] (He.fAd K ("Placer", some "placed")) fd := T.t.d.def_ 37 (d := d_Placer_placed) rfl
theorem Tx.f_Placer_begun (T : Tx w K mg) : ∃ fd, FunD K "begun" "Placer.begun" (defArgs s_Placer_begun) (defBody s_Placer_begun) (defScope s_Placer_begun) [] [] (He.fAd K ("Placer", some "begun")) fd := T.t.d.def_ 38 (d := d_Placer_begun) rfl
theorem Tx.f_Placer_wanted (T : Tx w K mg) : ∃ fd, FunD K "wanted" "Placer.wanted" (defArgs s_Placer_wanted) (defBody s_Placer_wanted) (defScope s_Placer_wanted) [] [] (He.fAd K ("Placer", some "wanted")) fd := T.t.d.def_ 39 (d := d_Placer_wanted) rfl
theorem Tx.f_Placer_wanted_head (T : Tx w K mg) : ∃ fd, FunD K "wanted_head" "Placer.wanted_head" (defArgs s_Placer_wanted_head) (defBody s_Placer_wanted_head) (defScope s_Placer_wanted_head) [] [] (He.fAd K ("Placer", some "wanted_head")) fd := T.t.d.def_ 40 (d := d_Placer_wanted_head) rfl
theorem Tx.f_terms_within (T : Tx w K mg) : ∃ fd, FunD K "terms_within" "terms_within" (defArgs s_terms_within) (defBody s_terms_within) (defScope s_terms_within) [] [] (He.fAd K ("terms_within", none)) fd := T.t.d.def_ 41 (d := d_terms_within) rfl
theorem Tx.f_walls_in (T : Tx w K mg) : ∃ fd, FunD K "walls_in" "walls_in" (defArgs s_walls_in) (defBody s_walls_in) (defScope s_walls_in) [] [] (He.fAd K ("walls_in", none)) fd := T.t.d.def_ 42 (d := d_walls_in) rfl
theorem Tx.f_want_halls (T : Tx w K mg) : ∃ fd, FunD K "want_halls" "want_halls" (defArgs s_want_halls) (defBody s_want_halls) (defScope s_want_halls) [] [] (He.fAd K ("want_halls", none)) fd := T.t.d.def_ 43 (d := d_want_halls) rfl
theorem Tx.f_Program_init (T : Tx w K mg) : ∃ fd, FunD K "__init__" "Program.__init__" (defArgs s_Program_init) (defBody s_Program_init) (defScope s_Program_init) [] [] (He.fAd K ("Program", some "__init__")) fd := T.t.d.def_ 44 (d := d_Program_init) rfl
theorem Tx.f_Program_want_name (T : Tx w K mg) : ∃ fd, FunD K "want_name" "Program.want_name" (defArgs s_Program_want_name) (defBody s_Program_want_name) (defScope s_Program_want_name) [] [] (He.fAd K ("Program", some "want_name")) fd := T.t.d.def_ 45 (d := d_Program_want_name) rfl
theorem Tx.f_Program_placed (T : Tx w K mg) : ∃ fd, FunD K "placed" "Program.placed" (defArgs s_Program_placed) (defBody s_Program_placed) (defScope s_Program_placed) [] [] (He.fAd K ("Program", some "placed")) fd := T.t.d.def_ 46 (d := d_Program_placed) rfl
theorem Tx.f_Program_walls (T : Tx w K mg) : ∃ fd, FunD K "walls" "Program.walls" (defArgs s_Program_walls) (defBody s_Program_walls) (defScope s_Program_walls) [] [] (He.fAd K ("Program", some "walls")) fd := T.t.d.def_ 47 (d := d_Program_walls) rfl
theorem Tx.f_Program_place (T : Tx w K mg) : ∃ fd, FunD K "place" "Program.place" (defArgs s_Program_place) (defBody s_Program_place) (defScope s_Program_place) [] [("mark", .str "0"), ("kept", .non)] (He.fAd K ("Program", some "place")) fd := T.t.d.def_ 48 (d := d_Program_place) rfl
theorem Tx.f__law_pot (T : Tx w K mg) : ∃ fd, FunD K "_law_pot" "_law_pot" (defArgs s__law_pot) (defBody s__law_pot) (defScope s__law_pot) [] [] (He.fAd K ("_law_pot", none)) fd := T.t.d.def_ 49 (d := d__law_pot) rfl
theorem Tx.f__law_digit (T : Tx w K mg) : ∃ fd, FunD K "_law_digit" "_law_digit" (defArgs s__law_digit) (defBody s__law_digit) (defScope s__law_digit) [] [] (He.fAd K ("_law_digit", none)) fd := T.t.d.def_ 50 (d := d__law_digit) rfl
theorem Tx.f__law_pick (T : Tx w K mg) : ∃ fd, FunD K "_law_pick" "_law_pick" (defArgs s__law_pick) (defBody s__law_pick) (defScope s__law_pick) [] [] (He.fAd K ("_law_pick", none)) fd := T.t.d.def_ 51 (d := d__law_pick) rfl
theorem Tx.f__law_name (T : Tx w K mg) : ∃ fd, FunD K "_law_name" "_law_name" (defArgs s__law_name) (defBody s__law_name) (defScope s__law_name) [] [] (He.fAd K ("_law_name", none)) fd := T.t.d.def_ 52 (d := d__law_name) rfl
theorem Tx.f__law_form (T : Tx w K mg) : ∃ fd, FunD K "_law_form" "_law_form" (defArgs s__law_form) (defBody s__law_form) (defScope s__law_form) [] [] (He.fAd K ("_law_form", none)) fd := T.t.d.def_ 53 (d := d__law_form) rfl
theorem Tx.f__law_near (T : Tx w K mg) : ∃ fd, FunD K "_law_near" "_law_near" (defArgs s__law_near) (defBody s__law_near) (defScope s__law_near) [] [] (He.fAd K ("_law_near", none)) fd := T.t.d.def_ 54 (d := d__law_near) rfl
theorem Tx.f__law_is_near (T : Tx w K mg) : ∃ fd, FunD K "_law_is_near" "_law_is_near" (defArgs s__law_is_near) (defBody s__law_is_near) (defScope s__law_is_near) [] [] (He.fAd K ("_law_is_near", none)) fd := T.t.d.def_ 55 (d := d__law_is_near) rfl
theorem Tx.f__law_plain (T : Tx w K mg) : ∃ fd, FunD K "_law_plain" "_law_plain" (defArgs s__law_plain) (defBody s__law_plain) (defScope s__law_plain) [] [] (He.fAd K ("_law_plain", none)) fd := T.t.d.def_ 56 (d := d__law_plain) rfl
theorem Tx.f__law_by_head (T : Tx w K mg) : ∃ fd, FunD K "_law_by_head" "_law_by_head" (defArgs s__law_by_head) (defBody s__law_by_head) (defScope s__law_by_head) [] [] (He.fAd K ("_law_by_head", none)) fd := T.t.d.def_ 57 (d := d__law_by_head) rfl
theorem Tx.f__law_term (T : Tx w K mg) : ∃ fd, FunD K "_law_term" "_law_term" (defArgs s__law_term) (defBody s__law_term) (defScope s__law_term) [] [] (He.fAd K ("_law_term", none)) fd := T.t.d.def_ 58 (d := d__law_term) rfl
theorem Tx.f__law_halls (T : Tx w K mg) : ∃ fd, FunD K "_law_halls" "_law_halls" (defArgs s__law_halls) (defBody s__law_halls) (defScope s__law_halls) [] [] (He.fAd K ("_law_halls", none)) fd := T.t.d.def_ 59 (d := d__law_halls) rfl
theorem Tx.f__law_height (T : Tx w K mg) : ∃ fd, FunD K "_law_height" "_law_height" (defArgs s__law_height) (defBody s__law_height) (defScope s__law_height) [] [] (He.fAd K ("_law_height", none)) fd := T.t.d.def_ 60 (d := d__law_height) rfl
theorem Tx.f__law_low (T : Tx w K mg) : ∃ fd, FunD K "_law_low" "_law_low" (defArgs s__law_low) (defBody s__law_low) (defScope s__law_low) [] [] (He.fAd K ("_law_low", none)) fd := T.t.d.def_ 61 (d := d__law_low) rfl
theorem Tx.f__law_joint (T : Tx w K mg) : ∃ fd, FunD K "_law_joint" "_law_joint" (defArgs s__law_joint) (defBody s__law_joint) (defScope s__law_joint) [] [] (He.fAd K ("_law_joint", none)) fd := T.t.d.def_ 62 (d := d__law_joint) rfl
theorem Tx.f__law_form_of (T : Tx w K mg) : ∃ fd, FunD K "_law_form_of" "_law_form_of" (defArgs s__law_form_of) (defBody s__law_form_of) (defScope s__law_form_of) [] [] (He.fAd K ("_law_form_of", none)) fd := T.t.d.def_ 63 (d := d__law_form_of) rfl
theorem Tx.f__law_fenced (T : Tx w K mg) : ∃ fd, FunD K "_law_fenced" "_law_fenced" (defArgs s__law_fenced) (defBody s__law_fenced) (defScope s__law_fenced) [] [] (He.fAd K ("_law_fenced", none)) fd := T.t.d.def_ 64 (d := d__law_fenced) rfl
theorem Tx.f__law_begun (T : Tx w K mg) : ∃ fd, FunD K "_law_begun" "_law_begun" (defArgs s__law_begun) (defBody s__law_begun) (defScope s__law_begun) [] [] (He.fAd K ("_law_begun", none)) fd := T.t.d.def_ 65 (d := d__law_begun) rfl
theorem Tx.f__law_aimed (T : Tx w K mg) : ∃ fd, FunD K "_law_aimed" "_law_aimed" (defArgs s__law_aimed) (defBody s__law_aimed) (defScope s__law_aimed) [] [] (He.fAd K ("_law_aimed", none)) fd := T.t.d.def_ 66 (d := d__law_aimed) rfl
theorem Tx.f__law_headed (T : Tx w K mg) : ∃ fd, FunD K "_law_headed" "_law_headed" (defArgs s__law_headed) (defBody s__law_headed) (defScope s__law_headed) [] [] (He.fAd K ("_law_headed", none)) fd := T.t.d.def_ 67 (d := d__law_headed) rfl
theorem Tx.f__law_place_loose (T : Tx w K mg) : ∃ fd, FunD K "_law_place_loose" "_law_place_loose" (defArgs s__law_place_loose) (defBody s__law_place_loose) (defScope s__law_place_loose) [] [] (He.fAd K ("_law_place_loose", none)) fd := T.t.d.def_ 68 (d := d__law_place_loose) rfl
theorem Tx.f__law_place_headed (T : Tx w K mg) : ∃ fd, FunD K "_law_place_headed" "_law_place_headed" (defArgs s__law_place_headed) (defBody s__law_place_headed) (defScope s__law_place_headed) [] [] (He.fAd K ("_law_place_headed", none)) fd := T.t.d.def_ 69 (d := d__law_place_headed) rfl
theorem Tx.f__law_place_choice (T : Tx w K mg) : ∃ fd, FunD K "_law_place_choice" "_law_place_choice" (defArgs s__law_place_choice) (defBody s__law_place_choice) (defScope s__law_place_choice) [] [] (He.fAd K ("_law_place_choice", none)) fd := T.t.d.def_ 70 (d := d__law_place_choice) rfl
theorem Tx.f__law_place (T : Tx w K mg) : ∃ fd, FunD K "_law_place" "_law_place" (defArgs s__law_place) (defBody s__law_place) (defScope s__law_place) [] [] (He.fAd K ("_law_place", none)) fd := T.t.d.def_ 71 (d := d__law_place) rfl
theorem Tx.f__law_terms_of (T : Tx w K mg) : ∃ fd, FunD K "_law_terms_of" "_law_terms_of" (defArgs s__law_terms_of) (defBody s__law_terms_of) (defScope s__law_terms_of) [] [] (He.fAd K ("_law_terms_of", none)) fd := T.t.d.def_ 72 (d := d__law_terms_of) rfl
theorem Tx.f__law_opened (T : Tx w K mg) : ∃ fd, FunD K "_law_opened" "_law_opened" (defArgs s__law_opened) (defBody s__law_opened) (defScope s__law_opened) [] [] (He.fAd K ("_law_opened", none)) fd := T.t.d.def_ 73 (d := d__law_opened) rfl
theorem Tx.f__law_fences (T : Tx w K mg) : ∃ fd, FunD K "_law_fences" "_law_fences" (defArgs s__law_fences) (defBody s__law_fences) (defScope s__law_fences) [] [] (He.fAd K ("_law_fences", none)) fd := T.t.d.def_ 74 (d := d__law_fences) rfl
theorem Tx.f__law_places (T : Tx w K mg) : ∃ fd, FunD K "_law_places" "_law_places" (defArgs s__law_places) (defBody s__law_places) (defScope s__law_places) [] [] (He.fAd K ("_law_places", none)) fd := T.t.d.def_ 75 (d := d__law_places) rfl
theorem Tx.f__law_marks_right (T : Tx w K mg) : ∃ fd, FunD K "_law_marks_right" "_law_marks_right" (defArgs s__law_marks_right) (defBody s__law_marks_right) (defScope s__law_marks_right) [] [] (He.fAd K ("_law_marks_right", none)) fd := T.t.d.def_ 76 (d := d__law_marks_right) rfl
theorem Tx.f__law_right (T : Tx w K mg) : ∃ fd, FunD K "_law_right" "_law_right" (defArgs s__law_right) (defBody s__law_right) (defScope s__law_right) [] [] (He.fAd K ("_law_right", none)) fd := T.t.d.def_ 77 (d := d__law_right) rfl
theorem Tx.f__law_halls_right (T : Tx w K mg) : ∃ fd, FunD K "_law_halls_right" "_law_halls_right" (defArgs s__law_halls_right) (defBody s__law_halls_right) (defScope s__law_halls_right) [] [] (He.fAd K ("_law_halls_right", none)) fd := T.t.d.def_ 78 (d := d__law_halls_right) rfl
theorem Tx.f_law (T : Tx w K mg) : ∃ fd, FunD K "law" "law" (defArgs s_law) (defBody s_law) (defScope s_law) [] [] (He.fAd K ("law", none)) fd := T.t.d.def_ 79 (d := d_law) rfl
end
end WS
set_option Elab.async false
set_option linter.all false
set_option maxRecDepth 100000
set_option maxHeartbeats 0
/-! The head: one run of the top in the kernel, the facts read off by names. -/
namespace WS
open PySem L2
def refsN (o : Obj) : List Addr := match o.data with
  | .func fd => He.refV fd.code ++ (He.refV fd.defaults ++ He.refV fd.kwdefaults)
  | .cls cd => cd.ns :: cd.mro.flatMap He.refV
  | _ => []
def refsM (o : Obj) : List Addr := match o.data with
  | .dict es _ => es.toList.flatMap fun e => He.refV e.val
  | _ => []
def bind1 (g : Addr → Option Obj) (f : Obj → List Addr) (as : List Addr) : List Addr := as.flatMap fun a => match g a with
  | some o => f o
  | none => []
def asN (g : Addr → Option Obj) : List Addr :=
  (fun l1 => (fun l2 => (fun l3 => mainGlobals :: (l1 ++ (l2 ++ (l3 ++ bind1 g refsN l3)))) (bind1 g refsM l2)) (bind1 g refsN l1)) (bind1 g refsM [mainGlobals])
abbrev AlN : Type := He.AlT × Bool
def obsN (g : Addr → Option Obj) : AlN := (fun K => (He.obsT fa fn ts K, ex K)) (He.frG g (asN g))
def hk : PySem.W.Hook where
  α := AlN
  obs := fun s => obsN s.heap.get?
  val := fun w => (He.valT fn ts w, true)
  says := fun w h => ∃ K : PySem.W.Frag, K.In h ∧ (He.SaysT fa fn ts w K ∧ ex K = true)
  of := fun _ _ e => ⟨_, He.frG_in, congrArg (fun z : AlN => z.1) e, congrArg (fun z : AlN => z.2) e⟩
  keeps := fun _ _ _ ⟨K, hK, c⟩ k => ⟨K, PySem.W.Frag.In.keeps hK k, c⟩
abbrev R : PySem.W.OpenRow := PySem.W.OpenLaw.row PySem.Challenge.rw_wallseal_k51_whole_forms_and_marks
def ob (s : PySem.W.SharedT) : AlN := obsN (HandSHeadRun.getT s)
theorem ob_eq (s : PySem.W.SharedT) : ob s = hk.obs s.abs := by
  have e : HandSHeadRun.getT s = s.abs.heap.get? := funext (HandSHeadRun.getT_eq s)
  unfold ob
  rw [e]
  rfl
end WS
set_option Elab.async false
set_option linter.all false
set_option maxRecDepth 100000
set_option maxHeartbeats 0
namespace WS
open PySem L2
theorem runF (w : World) : HandSHeadRun.RunEq R (PySem.W.view R.prog [102]) hk ob 20000 loose (w.withFollow "special-get-raises" false) := by
  intro os
  kernel_rfl
theorem runT (w : World) : HandSHeadRun.RunEq R (PySem.W.view R.prog [102]) hk ob 20000 loose (w.withFollow "special-get-raises" true) := by
  intro os
  kernel_rfl
theorem run (w : World) : HandSHeadRun.RunEq R (PySem.W.view R.prog [102]) hk ob 20000 loose w := PySem.W.byRow2 "special-get-raises" runF runT w
end WS
set_option Elab.async false
set_option linter.all false
set_option maxRecDepth 100000
set_option maxHeartbeats 8000000
/-! zip with strict=True over two things of one length (texts, lists, tuples), walked. -/
namespace WR
open PySem PyProof.Rows
open Sem (wp)
/-- a zip object that is strict -/
abbrev IsZipX (h : Heap) (z TI TO : Addr) (f0 : Value) : Prop :=
  h.get? z = some { cls := .type "zip", dict := none, data := .fields #[f0, .bool false, .bool true, .ref TI, .ref TO], slots := #[] }
section
variable {prog : Program} {w : World} {A : Around} {E : Value → Shared → Prop} {s : Shared} {z TI TO i1 i2 : Addr} {fp1 fp2 : List Addr} {n i : Nat} {P1 P2 : Nat → Value → Prop} {St1 St2 : Nat → Heap → Prop} {a1 a2 : Value}
theorem orEnd_item {it : Addr} {fp : List Addr} {P : Nat → Value → Prop} {St : Nat → Heap → Prop} {Q : Option Value → Shared → Prop} (D : Draws prog w A it fp n P St) (hi : i < n) (st : St i s.heap)
    (h : ∀ x h' tk, P i x → St (i + 1) h' → Heap.SameBut it s.heap h' → Q (some x) { s with heap := h', toks := tk }) : wpAny (model prog w) A (Builtin.SmallTypes.nextOrEnd (.ref it)) Q E s := by
  unfold Builtin.SmallTypes.nextOrEnd
  exact wpAny_bind (wpAny_attempt (D.item i s _ _ hi st fun x h' tk a b c => wpAny_pure (h x h' tk a b c)))
theorem orEnd_end {it : Addr} {fp : List Addr} {P : Nat → Value → Prop} {St : Nat → Heap → Prop} {Q : Option Value → Shared → Prop} (D : Draws prog w A it fp n P St) (st : St n s.heap)
    (h : ∀ h', Heap.ExtBut it s.heap h' → Q none { s with heap := h' }) : wpAny (model prog w) A (Builtin.SmallTypes.nextOrEnd (.ref it)) Q E s := by
  unfold Builtin.SmallTypes.nextOrEnd
  refine wpAny_bind (wpAny_attempt (D.done s _ _ st fun h' e hx he => ?_))
  obtain ⟨o, ho, hc⟩ := he
  refine wpAny_bind (wpAny_isInstance (T := "StopIteration") (b := true) ⟨o, ho, hc⟩ isSubtype_stop ?_)
  exact wpAny_pure (h h' hx)
theorem stop_raised {α : Type} {Q : α → Shared → Prop} (hh : A.handled = none) (h : ∀ h' e, (∀ b o, s.heap.get? b = some o → h'.get? b = some o) → (∃ o, h'.get? e = some o ∧ o.cls = .type "StopIteration") → E (.ref e) { s with heap := h' }) :
    wpAny (model prog w) A (Builtin.SmallTypes.stopIteration : Sem α) Q E s := by
  unfold Builtin.SmallTypes.stopIteration
  first
    | refine wpAny_bind ?_
    | skip
  simp only [newExc, newTuple]
  refine wpAny_bind (wpAny_newObj_type ?_ (by size_fits))
  refine wpAny_bind (m := firstArgMember _ _) (wpAny_of_eq (a := Value.none) (by first | rfl | (simp only [firstArgMember]; rfl)) ?_)
  refine wpAny_newObj_type ?_ (by size_fits)
  simp only [raiseNew]
  refine wpAny_bind (wpAny_handled ?_)
  first | rw [show A.in1.handled = none from hh] | rw [hh]
  refine wpAny_bind (wpAny_pure (wpAny_throw ?_))
  exact h _ _ (fun b o e => Heap.get?_push_of_some _ (Heap.get?_push_of_some _ e)) ⟨_, Heap.get?_push_size _ rfl, rfl⟩
theorem zipX_item {Q : Value → Shared → Prop} (S : ZipSep2 z TI TO i1 i2 fp1 fp2) (D1 : Draws prog w A i1 fp1 n P1 St1) (D2 : Draws prog w A i2 fp2 n P2 St2)
    (hz : IsZipX s.heap z TI TO .none) (hTI : IsTupOf2 s.heap TI (.ref i1) (.ref i2)) (hTO : IsTupOf2 s.heap TO a1 a2) (st1 : St1 i s.heap) (st2 : St2 i s.heap) (hlt : i < n)
    (hQ : ∀ x1 x2 h' tk, P1 i x1 → P2 i x2 → IsZipX h' z TI TO (rawInt s.heap.objs.size) → IsTupOf2 h' TO x1 x2 → St1 (i + 1) h' → St2 (i + 1) h' → IsTupOf2 h' s.heap.objs.size x1 x2 → h'.objs.size = s.heap.objs.size + 1 →
      (∀ c o, c ≠ z → c ≠ TO → c ≠ i1 → c ≠ i2 → s.heap.get? c = some o → h'.get? c = some o) → Q (.ref s.heap.objs.size) { s with heap := h', toks := tk }) :
    wpAny (model prog w) A (Builtin.«zip.__next__» ⟨[.ref z], []⟩) (fun fin s' => ∃ v, fin = .done (.ret v) ∧ Q v s') E s := by
  obtain ⟨hp, g, d, tk0, os⟩ := s
  show wpAny _ _ (field (.ref z) 2 >>= _) _ _ _
  refine wpAny_bind (wpAny_field hz rfl (x := .bool true) rfl ?_)
  show wpAny _ _ (field (.ref z) 3 >>= _) _ _ _
  refine wpAny_bind (wpAny_field hz rfl (x := .ref TI) rfl ?_)
  refine wpAny_bind (wpAny_seqItems hTI rfl ?_)
  show wpAny _ _ (Builtin.SmallTypes.ownedTupleIsFree (.ref z) >>= _) _ _ _
  refine wpAny_bind ?_
  unfold Builtin.SmallTypes.ownedTupleIsFree
  refine wpAny_bind (wpAny_field hz rfl (x := .none) rfl (wpAny_pure ?_))
  simp only [if_true]
  refine wpAny_bind (wpAny_rule ?_)
  refine wpAny_bind (wpAny_field hz rfl (x := .ref TO) rfl ?_)
  refine wpAny_bind (wpAny_setField_rec hz (by simp) fun g0 hz0 hs0 => ?_)
  replace hz0 : IsZipX g0 z TI TO .ellipsis := hz0
  replace hs0 : Heap.SameBut z hp g0 := hs0
  refine wpAny_bind ?_
  simp only [List.zipIdx_cons, List.zipIdx_nil, List.forIn_cons, List.forIn_nil]
  refine wpAny_bind (wpAny_bind (wpAny_onRaise ?_))
  show wpAny _ _ (Builtin.SmallTypes.nextOrEnd (.ref i1)) _ _ ⟨g0, g, d, tk0, os⟩
  refine orEnd_item D1 hlt (D1.over st1 hs0 S.zf1) fun x1 p1 tk1 hx1 sn1 hp1 => ?_
  replace hp1 : Heap.SameBut i1 g0 p1 := hp1
  have hU1 : IsTupOf2 p1 TO a1 a2 := hp1.extBut _ _ S.Ti1 (hs0.extBut _ _ S.TOz hTO)
  refine wpAny_bind (wpAny_seqItems (s := ⟨p1, g, d, tk1, os⟩) hU1 rfl ?_)
  refine wpAny_bind (updateSeq_IsTupOf2 (s := ⟨p1, g, d, tk1, os⟩) hU1 fun g1 hT1 hs1 => ?_)
  replace hT1 : IsTupOf2 g1 TO x1 a2 := hT1
  replace hs1 : Heap.SameBut TO p1 g1 := hs1
  refine wpAny_bind (wpAny_letGo (wpAny_pure ?_))
  refine wpAny_bind (wpAny_bind (wpAny_onRaise ?_))
  show wpAny _ _ (Builtin.SmallTypes.nextOrEnd (.ref i2)) _ _ ⟨g1, g, d, tk1, os⟩
  refine orEnd_item D2 hlt (D2.over (D2.over (D2.over st2 hs0 S.zf2) hp1 S.sep1_2) hs1 S.Tf2) fun x2 p2 tk2 hx2 sn2 hp2 => ?_
  replace hp2 : Heap.SameBut i2 g1 p2 := hp2
  have hU2 : IsTupOf2 p2 TO x1 a2 := hp2.extBut _ _ S.Ti2 hT1
  refine wpAny_bind (wpAny_seqItems (s := ⟨p2, g, d, tk2, os⟩) hU2 rfl ?_)
  refine wpAny_bind (updateSeq_IsTupOf2 (s := ⟨p2, g, d, tk2, os⟩) hU2 fun g2 hT2 hs2 => ?_)
  replace hT2 : IsTupOf2 g2 TO x1 x2 := hT2
  replace hs2 : Heap.SameBut TO p2 g2 := hs2
  refine wpAny_bind (wpAny_letGo (wpAny_pure (wpAny_pure ?_)))
  refine wpAny_bind (wpAny_seqItems (s := ⟨g2, g, d, tk2, os⟩) hT2 rfl ?_)
  refine wpAny_bind (wpAny_newTuple ?_)
  have hsz : g2.objs.size = hp.objs.size := by rw [hs2.1, hp2.1, hs1.1, hp1.1, hs0.1]
  have hzz : IsZipX g2 z TI TO .ellipsis := (hs2.extBut _ _ S.TOz.symm (hp2.extBut _ _ S.zi2 (hs1.extBut _ _ S.TOz.symm (hp1.extBut _ _ S.zi1 hz0))))
  have hkk : ∀ c o, c ≠ z → c ≠ TO → c ≠ i1 → c ≠ i2 → hp.get? c = some o → g2.get? c = some o := fun c o cz cT c1 c2 e =>
    (hs2.extBut _ _ cT (hp2.extBut _ _ c2 (hs1.extBut _ _ cT (hp1.extBut _ _ c1 (hs0.extBut _ _ cz e)))))
  have hj1 : St1 (i + 1) g2 := (D1.over (D1.over (D1.over sn1 hs1 S.Tf1) hp2 S.sep2_1) hs2 S.Tf1)
  have hj2 : St2 (i + 1) g2 := (D2.over sn2 hs2 S.Tf2)
  have hzlt : z < g2.objs.size := Heap.lt_size hzz
  show wpAny _ _ (Builtin.SmallTypes.ownedTupleHandOut (.ref z) (.ref g2.objs.size) >>= _) _ _ ⟨g2.push { cls := .type "tuple", data := .seq #[x1, x2] }, g, d, tk2, os⟩
  refine wpAny_bind ?_
  unfold Builtin.SmallTypes.ownedTupleHandOut
  have hz6 : IsZipX (g2.push { cls := .type "tuple", data := .seq #[x1, x2] }) z TI TO .ellipsis := Heap.get?_push_of_some _ hzz
  refine wpAny_bind (wpAny_setField_rec hz6 (by simp) fun h7 hz7 hs7 => ?_)
  replace hz7 : IsZipX h7 z TI TO (rawInt g2.objs.size) := hz7
  refine wpAny_setField_rec hz7 (by simp) fun h8 hz8 hs8 => ?_
  replace hz8 : IsZipX h8 z TI TO (rawInt g2.objs.size) := hz8
  replace hs7 : Heap.SameBut z (g2.push { cls := .type "tuple", data := .seq #[x1, x2] }) h7 := hs7
  replace hs8 : Heap.SameBut z h7 h8 := hs8
  have up : ∀ c o, c ≠ z → g2.get? c = some o → h8.get? c = some o := fun c o c1 e => hs8.extBut _ _ c1 (hs7.extBut _ _ c1 (Heap.get?_push_of_some _ e))
  have hT8 : IsTupOf2 h8 g2.objs.size x1 x2 := hs8.extBut _ _ (Nat.ne_of_gt hzlt) (hs7.extBut _ _ (Nat.ne_of_gt hzlt) (Heap.get?_push_size _ rfl))
  have hs : h8.objs.size = g2.objs.size + 1 := by rw [hs8.1, hs7.1, Heap.size_push]
  rw [hsz] at hz8 hT8 hs
  refine wpAny_pure ⟨_, rfl, ?_⟩
  show Q (.ref g2.objs.size) ⟨h8, g, d, tk2, os⟩
  rw [hsz]
  exact hQ x1 x2 h8 tk2 hx1 hx2 hz8 (up _ _ S.TOz hT2) (D1.frame _ _ _ hj1 fun b hb o e => up b o (fun q => S.zf1 (q ▸ hb)) e) (D2.frame _ _ _ hj2 fun b hb o e => up b o (fun q => S.zf2 (q ▸ hb)) e) hT8 hs fun c o cz cT c1 c2 e => up c o cz (hkk c o cz cT c1 c2 e)
theorem zipX_end {Q : Fin → Shared → Prop} (hh : A.handled = none) (S : ZipSep2 z TI TO i1 i2 fp1 fp2) (D1 : Draws prog w A i1 fp1 n P1 St1) (D2 : Draws prog w A i2 fp2 n P2 St2)
    (hz : IsZipX s.heap z TI TO .none) (hTI : IsTupOf2 s.heap TI (.ref i1) (.ref i2)) (hTO : IsTupOf2 s.heap TO a1 a2) (st1 : St1 n s.heap) (st2 : St2 n s.heap)
    (hE : ∀ h' e, (∀ c o, c ≠ z → c ≠ TO → c ≠ i1 → c ≠ i2 → s.heap.get? c = some o → h'.get? c = some o) → (∃ o, h'.get? e = some o ∧ o.cls = .type "StopIteration") → E (.ref e) { s with heap := h' }) :
    wpAny (model prog w) A (Builtin.«zip.__next__» ⟨[.ref z], []⟩) Q E s := by
  obtain ⟨hp, g, d, tk0, os⟩ := s
  show wpAny _ _ (field (.ref z) 2 >>= _) _ _ _
  refine wpAny_bind (wpAny_field hz rfl (x := .bool true) rfl ?_)
  show wpAny _ _ (field (.ref z) 3 >>= _) _ _ _
  refine wpAny_bind (wpAny_field hz rfl (x := .ref TI) rfl ?_)
  refine wpAny_bind (wpAny_seqItems hTI rfl ?_)
  show wpAny _ _ (Builtin.SmallTypes.ownedTupleIsFree (.ref z) >>= _) _ _ _
  refine wpAny_bind ?_
  unfold Builtin.SmallTypes.ownedTupleIsFree
  refine wpAny_bind (wpAny_field hz rfl (x := .none) rfl (wpAny_pure ?_))
  simp only [if_true]
  refine wpAny_bind (wpAny_rule ?_)
  refine wpAny_bind (wpAny_field hz rfl (x := .ref TO) rfl ?_)
  refine wpAny_bind (wpAny_setField_rec hz (by simp) fun g0 hz0 hs0 => ?_)
  replace hz0 : IsZipX g0 z TI TO .ellipsis := hz0
  replace hs0 : Heap.SameBut z hp g0 := hs0
  refine wpAny_bind ?_
  simp only [List.zipIdx_cons, List.zipIdx_nil, List.forIn_cons, List.forIn_nil]
  refine wpAny_bind (wpAny_bind (wpAny_onRaise ?_))
  show wpAny _ _ (Builtin.SmallTypes.nextOrEnd (.ref i1)) _ _ ⟨g0, g, d, tk0, os⟩
  refine orEnd_end D1 (D1.over st1 hs0 S.zf1) fun p1 hp1 => ?_
  replace hp1 : Heap.ExtBut i1 g0 p1 := hp1
  have hzq : IsZipX p1 z TI TO .ellipsis := hp1 _ _ S.zi1 hz0
  refine wpAny_bind (wpAny_setField_rec (s := ⟨p1, g, d, tk0, os⟩) hzq (by simp) fun q hq1 hq => ?_)
  replace hq : Heap.SameBut z p1 q := hq
  refine wpAny_bind ?_
  wp_delta
  rw [if_neg (show ¬ (0 > 0) by omega)]
  dsimp only
  simp only [List.drop_succ_cons, List.drop_zero, List.zipIdx_cons, List.zipIdx_nil, List.forIn_cons, List.forIn_nil]
  have st2' : St2 n q := D2.frame _ _ _ st2 fun b hb o e => hq.extBut b o (fun x => S.zf2 (x ▸ hb)) (hp1 b o (fun x => S.sep1_2 (x ▸ hb)) (hs0.extBut b o (fun x => S.zf2 (x ▸ hb)) e))
  refine wpAny_bind (wpAny_bind (wpAny_bind (orEnd_end (s := ⟨q, g, d, tk0, os⟩) D2 st2' fun p2 hp2 => ?_)))
  replace hp2 : Heap.ExtBut i2 q p2 := hp2
  simp only [Option.isSome_none, Bool.false_eq_true, if_false]
  refine wpAny_pure (wpAny_pure (wpAny_bind (wpAny_rule ?_)))
  refine stop_raised hh fun h' e up he => ?_
  exact hE h' e (fun c o cz cT c1 c2 x => up c o (hp2 c o c2 (hq.extBut c o cz (hp1 c o c1 (hs0.extBut c o cz x))))) he
end
end WR
set_option Elab.async false
set_option linter.all false
set_option maxRecDepth 100000
set_option maxHeartbeats 8000000
/-! zip of two things of one length (texts, lists, tuples), strict or not, as a thing that is walked. -/
namespace WR
open PySem PyProof.Rows
open Sem (wp)
abbrev IsZipB (h : Heap) (z TI TO : Addr) (f0 : Value) (b : Bool) : Prop :=
  h.get? z = some { cls := .type "zip", dict := none, data := .fields #[f0, .bool false, .bool b, .ref TI, .ref TO], slots := #[] }
section
variable {prog : Program} {w : World} {A : Around} {E : Value → Shared → Prop} {s : Shared} {z TI TO i1 i2 : Addr} {fp1 fp2 : List Addr} {n i : Nat} {P1 P2 : Nat → Value → Prop} {St1 St2 : Nat → Heap → Prop} {a1 a2 : Value} {b : Bool}
theorem zipB_item {Q : Option Value → Shared → Prop} (S : ZipSep2 z TI TO i1 i2 fp1 fp2) (D1 : Draws prog w A.in1 i1 fp1 n P1 St1) (D2 : Draws prog w A.in1 i2 fp2 n P2 St2)
    (hz : IsZipB s.heap z TI TO .none b) (hTI : IsTupOf2 s.heap TI (.ref i1) (.ref i2)) (hTO : IsTupOf2 s.heap TO a1 a2) (st1 : St1 i s.heap) (st2 : St2 i s.heap) (hlt : i < n)
    (hQ : ∀ x1 x2 h' tk, P1 i x1 → P2 i x2 → IsZipB h' z TI TO (rawInt s.heap.objs.size) b → IsTupOf2 h' TO x1 x2 → St1 (i + 1) h' → St2 (i + 1) h' → IsTupOf2 h' s.heap.objs.size x1 x2 → h'.objs.size = s.heap.objs.size + 1 →
      (∀ c o, c ≠ z → c ≠ TO → c ≠ i1 → c ≠ i2 → s.heap.get? c = some o → h'.get? c = some o) → Q (some (.ref s.heap.objs.size)) { s with heap := h', toks := tk }) :
    wpAny (model prog w) A (pyNext (.ref z)) Q E s := by
  cases b with
  | false => exact wpAny_pyNext_zipD2_item S D1 D2 hz hTI hTO st1 st2 hlt hlt hQ
  | true =>
    have hT : s.TypeIs (.ref z) "zip" := ⟨_, hz, rfl⟩
    unfold pyNext
    exact wpAny_bind (wpAny_attempt (wpAny_callSpecial?_slot (name := Str.ofString "__next__") hT F.slot_zip_next
      (wpAny_call_entry F.slot_zip_next hT F.entry_zip_next
        (zipX_item S D1 D2 hz hTI hTO st1 st2 hlt fun x1 x2 h' tk y1 y2 b1 b2 d1 d2 b5 b6 b7 => wpAny_pure (hQ x1 x2 h' tk y1 y2 b1 b2 d1 d2 b5 b6 b7)) (F.args_zip_next_1 _))))
theorem zipB_end {Q : Option Value → Shared → Prop} (hh : A.handled = none) (S : ZipSep2 z TI TO i1 i2 fp1 fp2) (D1 : Draws prog w A.in1 i1 fp1 n P1 St1) (D2 : Draws prog w A.in1 i2 fp2 n P2 St2)
    (hz : IsZipB s.heap z TI TO .none b) (hTI : IsTupOf2 s.heap TI (.ref i1) (.ref i2)) (hTO : IsTupOf2 s.heap TO a1 a2) (st1 : St1 n s.heap) (st2 : St2 n s.heap)
    (hQ : ∀ h' tk, (∀ c o, c ≠ z → c ≠ TO → c ≠ i1 → c ≠ i2 → s.heap.get? c = some o → h'.get? c = some o) → Q none { s with heap := h', toks := tk }) : wpAny (model prog w) A (pyNext (.ref z)) Q E s := by
  cases b with
  | false => exact wpAny_pyNext_zipD2_end S D1 D2 hz hTI hTO st1 st2 (Nat.le_refl _) (Nat.le_refl _) (.inl rfl) hQ
  | true =>
    have hT : s.TypeIs (.ref z) "zip" := ⟨_, hz, rfl⟩
    unfold pyNext
    refine wpAny_bind (wpAny_attempt (wpAny_callSpecial?_slot (name := Str.ofString "__next__") hT F.slot_zip_next
      (wpAny_call_entry F.slot_zip_next hT F.entry_zip_next (zipX_end (show A.in1.handled = none from hh) S D1 D2 hz hTI hTO st1 st2 fun h' e hk he => ?_) (F.args_zip_next_1 _))))
    obtain ⟨o, ho, hc⟩ := he
    refine wpAny_bind (wpAny_isInstance (T := "StopIteration") (b := true) ⟨o, ho, hc⟩ isSubtype_stop ?_)
    exact wpAny_pure (hQ _ s.toks hk)
theorem zipB_go {elts : List Expr} {x1} {pos : Pos} {T : Addr} {Q : Unit → Shared → Prop} (hz : IsZipB s.heap z TI TO (rawInt T) b)
    (hQ : ∀ h', IsZipB h' z TI TO .none b → Heap.SameBut z s.heap h' → Q () { s with heap := h' }) :
    wpAny (model prog w) A (letOwnedTupleGo (.Tuple elts x1 pos) (.ref z) (.ref T)) Q E s := by
  unfold letOwnedTupleGo
  refine wpAny_bind (wpAny_load hz ?_)
  show wpAny _ _ (if (["enumerate", "zip", "dict_itemiterator", "dict_reverseitemiterator", "odict_iterator", "itertools.zip_longest", "itertools.pairwise"].contains "zip" &&
      (#[rawInt T, .bool false, .bool b, .ref TI, .ref TO] : Array Value)[0]? == some (rawInt T)) = true then _ else _) Q E s
  rw [if_pos (by simp)]
  refine wpAny_bind (wpAny_rule ?_)
  show wpAny _ _ (setField (.ref z) 0 .none) Q E s
  exact wpAny_setField_rec hz (by simp) fun h' hz' hs' => hQ h' hz' hs'
theorem zipB_iter {f0 : Value} {Q : Value → Shared → Prop} (hz : IsZipB s.heap z TI TO f0 b) (h : Q (.ref z) s) : wpAny (model prog w) A (pyIter (.ref z)) Q E s := by
  have hT : s.TypeIs (.ref z) "zip" := ⟨_, hz, rfl⟩
  refine wpAny_pyIter_slot hT F.slot_zip_iter (wpAny_call_entry F.slot_zip_iter hT F.entry_zip_iter ?_ (F.args_zip_iter_1 _))
  show wpAny _ _ (ret (.ref z)) _ _ s
  exact wpAny_pure ⟨_, rfl, "zip", _, hT, F.slot_zip_next.lookup, h⟩
theorem typeCall_zip_strict (a b v : Value) : checkTypeCall "zip" ⟨[a, b], [(Str.ofString "strict", v)]⟩ = pure () := by kernel_rfl
theorem newCall_zip_strict (a b v : Value) : checkBuiltinCall "zip.__new__" ⟨[.type "zip", a, b], [(Str.ofString "strict", v)]⟩ = pure () := by kernel_rfl
theorem args_init_strict (obj a b v : Value) : argsOk "object.__init__" ⟨[obj, a, b], [(Str.ofString "strict", v)]⟩ := by unfold argsOk; kernel_rfl
abbrev gxZ2 (h : Heap) (o1 o2 : Obj) : Heap := (gzO2 h o1 o2).push { cls := .type "zip", data := .fields #[.none, .bool false, .bool true, .ref ((h.push o1).push o2).objs.size, .ref (gzT2 h o1 o2).objs.size] }
theorem meets_zip_newX {v1 v2 : Value} {o1 o2 : Obj} {H1 H2 : Heap → Prop} (B1 : Begins v1 o1 H1) (B2 : Begins v2 o2 H2) :
    Meets (Builtin.«zip.__new__» ⟨[.type "zip", v1, v2], [(Str.ofString "strict", .bool true)]⟩) (fun _ R s => (H1 s.heap ∧ H2 s.heap) ∧
      R (.ok (.ret (.ref (gzO2 s.heap o1 o2).objs.size))) { s with heap := gxZ2 s.heap o1 o2 }) :=
  .of_wp fun prog w A R s h => by
    obtain ⟨hp, g, d, tk, os⟩ := s; obtain ⟨⟨h1, h2⟩, h⟩ := h
    have hsub := sub_zip
    have q1 : ∀ {A' : Around} {E : Value → Shared → Prop} {Q : Value → Shared → Prop}, Q (.ref hp.objs.size) ⟨(hp.push o1), g, d, tk, os⟩ → wpAny (model prog w) A' (pyIter v1) Q E ⟨hp, g, d, tk, os⟩ :=
      fun q => B1.iter prog w _ _ ⟨hp, g, d, tk, os⟩ _ (B1.keeps _ _ h1 fun b o' e => e) q
    have q2 : ∀ {A' : Around} {E : Value → Shared → Prop} {Q : Value → Shared → Prop}, Q (.ref (hp.push o1).objs.size) ⟨((hp.push o1).push o2), g, d, tk, os⟩ → wpAny (model prog w) A' (pyIter v2) Q E ⟨(hp.push o1), g, d, tk, os⟩ :=
      fun q => B2.iter prog w _ _ ⟨(hp.push o1), g, d, tk, os⟩ _ (B2.keeps _ _ h2 fun b o' e => (Heap.get?_push_of_some _ e)) q
    have e2 : (Str.ofString "strict" != ("strict" : Str)) = false := by decide +kernel
    wp_walk using q1, q2
    all_goals first | exact ⟨_, rfl, h⟩ | trace_state
end
end WR
set_option Elab.async false
set_option linter.all false
set_option maxRecDepth 100000
set_option maxHeartbeats 400000
/-! .. the rules over the layer. -/
namespace WR
open PySem PyProof.Rows
open Sem (wp)
section
variable {prog : Program} {w : World} {A : Around} {E : Value → Shared → Prop} {s : Shared}
theorem zipX_begins2 {v1 v2 : Value} {o1 o2 : Obj} {H1 H2 : Heap → Prop} {Q : Value → Shared → Prop} (B1 : Begins v1 o1 H1) (B2 : Begins v2 o2 H2) (h1 : H1 s.heap) (h2 : H2 s.heap)
    (h : ∀ h', IsZipB h' (s.heap.objs.size + 4) (s.heap.objs.size + 2) (s.heap.objs.size + 3) .none true → IsTupOf2 h' (s.heap.objs.size + 2) (.ref s.heap.objs.size) (.ref (s.heap.objs.size + 1)) →
      IsTupOf2 h' (s.heap.objs.size + 3) .none .none → h'.get? s.heap.objs.size = some o1 → h'.get? (s.heap.objs.size + 1) = some o2 → h'.objs.size = s.heap.objs.size + 5 →
      (∀ c o, s.heap.get? c = some o → h'.get? c = some o) → Q (.ref (s.heap.objs.size + 4)) { s with heap := h' }) :
    wpAny (model prog w) A (call (.type "zip") [v1, v2] [(Str.ofString "strict", .bool true)]) Q E s := by
  refine callType_newKw F.called_zip (by decide) (typeCall_zip_strict _ _ _) (newCall_zip_strict _ _ _) (fun obj => args_init_strict obj _ _ _) F.entry_zip_new
    (meets_zip_newX B1 B2) ⟨⟨h1, h2⟩, ?_⟩
  have z1 : (s.heap.push o1).objs.size = s.heap.objs.size + 1 := by rw [Heap.size_push]
  have z2 : ((s.heap.push o1).push o2).objs.size = s.heap.objs.size + 2 := by rw [Heap.size_push, z1]
  have zT : (gzT2 s.heap o1 o2).objs.size = s.heap.objs.size + 3 := by rw [Heap.size_push, z2]
  have zO : (gzO2 s.heap o1 o2).objs.size = s.heap.objs.size + 4 := by rw [Heap.size_push, zT]
  have zZ : (gxZ2 s.heap o1 o2).objs.size = s.heap.objs.size + 5 := by rw [Heap.size_push, zO]
  have gZ : (gxZ2 s.heap o1 o2).get? (gzO2 s.heap o1 o2).objs.size = some { cls := .type "zip", data := .fields #[.none, .bool false, .bool true, .ref ((s.heap.push o1).push o2).objs.size, .ref (gzT2 s.heap o1 o2).objs.size] } := Heap.get?_push_size _ rfl
  have gO : (gxZ2 s.heap o1 o2).get? (gzT2 s.heap o1 o2).objs.size = some { cls := .type "tuple", data := .seq #[.none, .none] } := Heap.get?_push_of_some _ (Heap.get?_push_size _ rfl)
  have gT : (gxZ2 s.heap o1 o2).get? ((s.heap.push o1).push o2).objs.size = some { cls := .type "tuple", data := .seq #[.ref s.heap.objs.size, .ref (s.heap.push o1).objs.size] } := Heap.get?_push_of_some _ (Heap.get?_push_of_some _ (Heap.get?_push_size _ rfl))
  have g1 : (gxZ2 s.heap o1 o2).get? s.heap.objs.size = some o1 := Heap.get?_push_of_some _ (Heap.get?_push_of_some _ (Heap.get?_push_of_some _ (Heap.get?_push_of_some _ (Heap.get?_push_size _ B1.free))))
  have g2 : (gxZ2 s.heap o1 o2).get? (s.heap.push o1).objs.size = some o2 := Heap.get?_push_of_some _ (Heap.get?_push_of_some _ (Heap.get?_push_of_some _ (Heap.get?_push_size _ B2.free)))
  rw [zO, zT, z2] at gZ
  rw [zT] at gO
  rw [z2, z1] at gT
  rw [z1] at g2
  show _ ∧ _
  rw [zO]
  exact ⟨⟨_, gZ, rfl⟩, h _ gZ gT gO g1 g2 zZ fun c o e => Heap.get?_push_of_some _ (Heap.get?_push_of_some _ (Heap.get?_push_of_some _ (Heap.get?_push_of_some _ (Heap.get?_push_of_some _ e))))⟩
end
end WR
namespace L2
open PySem PySem.Spec PyProof.Rows WR
/-! ### what is zipped -/
inductive ZC where
  | tup (a : Addr) | lst (a : Addr) | txt (x : Str)
def signs (x : Str) : List V := x.cps.toList.map fun c => V.str ⟨#[c]⟩
def ZC.val : ZC → V
  | .tup a => .ref a
  | .lst a => .ref a
  | .txt x => .str x
def ZC.has (K : PySem.W.Frag) (H : Hp) : ZC → List V → Prop
  | .tup a, xs => SqT K H a xs
  | .lst a, xs => SqL K H a xs
  | .txt x, xs => xs = signs x
/-- the objects beneath -/
def ZC.un : ZC → List Addr
  | .tup a => [a]
  | .lst a => [a]
  | .txt _ => []
def ZC.at_ (c : ZC) (I : Addr) (i : Nat) (h : Heap) : Prop := match c with
  | .tup a => h.IsTupleIter I a i
  | .lst a => h.IsListIter I a i
  | .txt x => ∃ t, h.IsStrIter I (strIterType x) x t i
theorem ZC.at_obj {c : ZC} {I : Addr} {i : Nat} {h : Heap} (x : c.at_ I i h) : ∃ o vs, h.get? I = some o ∧ o.data = .fields vs := by
  cases c with
  | tup a => obtain ⟨o, e, _, d⟩ := x; exact ⟨o, _, e, d⟩
  | lst a => obtain ⟨o, e, _, d⟩ := x; exact ⟨o, _, e, d⟩
  | txt z => obtain ⟨t, o, e, _, d⟩ := x; exact ⟨o, _, e, d⟩
theorem ZC.at_keep {c : ZC} {I : Addr} {i : Nat} {h h' : Heap} (x : c.at_ I i h) (k : ∀ o, h.get? I = some o → h'.get? I = some o) : c.at_ I i h' := by
  cases c with
  | tup a => exact Heap.IsTupleIter.at x k
  | lst a => exact Heap.IsListIter.at x k
  | txt z => obtain ⟨t, o, e, r⟩ := x; exact ⟨t, o, k _ e, r⟩
theorem ZC.inj {X : Cx} {pins : List (Addr × Obj)} {σ : St} {H : Hp} {s : Shared} (I : Inv X pins σ H s) {c : ZC} {xs ys : List V} (h : c.has X.K H xs) (h' : c.has X.K H ys) : xs = ys := by
  cases c with
  | tup a => exact I.tuple_inj h h'
  | lst a => exact I.list_inj h h'
  | txt z => exact (show xs = signs z from h).trans (show ys = signs z from h').symm
theorem ZC.keep {K : PySem.W.Frag} {H H' : Hp} (s : Same H H') {c : ZC} {xs : List V} (h : c.has K H xs) : c.has K H' xs := by
  cases c with
  | tup a =>
    rcases (show SqT K H a xs from h) with (q | ⟨o, q⟩) | q
    · exact .inl (.inl (s _ _ q))
    · exact .inl (.inr ⟨o, s _ _ q⟩)
    · exact .inr q
  | lst a => exact s.seq h
  | txt z => exact h
/-- such an iterator draws the things -/
theorem ZC.draws {X : Cx} {pins : List (Addr × Obj)} {σ : St} {H : Hp} {s : Shared} (Iv : Inv X pins σ H s) {c : ZC} {xs : List V} (h : c.has X.K H xs) {I : Addr} {i : Nat} (hI : I ∉ c.un) (st : c.at_ I i s.heap) {A : Around} (hh : A.handled = none) :
    ∃ (P : Nat → Value → Prop) (St : Nat → Heap → Prop), Draws X.prog X.w A I (I :: c.un) xs.length P St ∧ St i s.heap ∧ (∀ j h, St j h → c.at_ I j h) ∧ ∀ j u, P j u → ∃ x, xs[j]? = some x ∧ RelV x u := by
  cases c with
  | tup a =>
    obtain ⟨its, rv, p, _⟩ := Iv.tuple h
    have hne : a ≠ I := fun e => hI (by rw [e]; exact List.mem_cons_self)
    have hl : its.toArray.size = xs.length := by rw [List.size_toArray, rv.length]
    have D := Draws.tuple (prog := X.prog) (w := X.w) hh I a hne its.toArray
    rw [hl] at D
    refine ⟨_, _, D, ⟨st, p⟩, fun j h q => q.1, fun j u q => ?_⟩
    have q' : its[j]? = some u := by simpa using q
    cases e : xs[j]? with
    | none => rw [rv.none_of e] at q'; cases q'
    | some x =>
      obtain ⟨u', e1, r1⟩ := rv.get e
      rw [e1] at q'
      cases q'
      exact ⟨x, rfl, r1⟩
  | lst a =>
    obtain ⟨its, rv, p, _⟩ := Iv.list h
    have hne : a ≠ I := fun e => hI (by rw [e]; exact List.mem_cons_self)
    have hl : its.toArray.size = xs.length := by rw [List.size_toArray, rv.length]
    have D := Draws.list (prog := X.prog) (w := X.w) hh I a hne its.toArray
    rw [hl] at D
    refine ⟨_, _, D, ⟨st, p.isList⟩, fun j h q => q.1, fun j u q => ?_⟩
    have q' : its[j]? = some u := by simpa using q
    cases e : xs[j]? with
    | none => rw [rv.none_of e] at q'; cases q'
    | some x =>
      obtain ⟨u', e1, r1⟩ := rv.get e
      rw [e1] at q'
      cases q'
      exact ⟨x, rfl, r1⟩
  | txt z =>
    have h' : xs = signs z := h
    subst h'
    obtain ⟨t, st⟩ := st
    have hl : z.cps.size = (signs z).length := by unfold signs; rw [List.length_map, Array.length_toList]
    have D := Draws.text (prog := X.prog) (w := X.w) hh I z t
    rw [hl] at D
    refine ⟨_, _, D, st, fun j h q => ⟨t, q⟩, fun j u q => ?_⟩
    obtain ⟨c, tk, e, rfl⟩ := q
    refine ⟨.str ⟨#[c]⟩, ?_, tk, rfl⟩
    unfold signs
    rw [List.getElem?_map, Array.getElem?_toList, e]
    rfl
/-- .. and begins -/
theorem ZC.begins {X : Cx} {pins : List (Addr × Obj)} {σ : St} {H : Hp} {s : Shared} (Iv : Inv X pins σ H s) {c : ZC} {xs : List V} (h : c.has X.K H xs) {u : Value} (r : RelV c.val u) :
    ∃ (o : Obj) (G : Heap → Prop), Begins u o G ∧ G s.heap ∧ (∀ b ∈ c.un, b < s.heap.objs.size) ∧ ∀ I (h' : Heap), h'.get? I = some o → c.at_ I 0 h' := by
  cases c with
  | tup a =>
    obtain ⟨its, rv, p, _⟩ := Iv.tuple h
    cases r
    refine ⟨_, _, begins_tuple a its.toArray, p, fun b hb => ?_, fun I h' e => ⟨_, e, rfl, rfl⟩⟩
    rw [List.mem_singleton.mp hb]
    obtain ⟨o, ho, _⟩ := p
    exact Heap.lt_size ho
  | lst a =>
    obtain ⟨its, rv, p, _⟩ := Iv.list h
    cases r
    refine ⟨_, _, begins_list a its.toArray, p.isList, fun b hb => ?_, fun I h' e => ⟨_, e, rfl, rfl⟩⟩
    rw [List.mem_singleton.mp hb]
    exact p.lt
  | txt z =>
    obtain ⟨t, rfl⟩ := r
    exact ⟨_, _, begins_text z t, trivial, fun b hb => (nomatch hb), fun I h' e => ⟨t, _, e, rfl, rfl⟩⟩
/-- both, of one length, in new pairs -/
def ItzB (K : PySem.W.Frag) (c1 c2 : ZC) : It :=
  ⟨fun i H => ∃ (xs ys : List V) (x y : V), c1.has K H xs ∧ c2.has K H ys ∧ xs.length = ys.length ∧ xs[i]? = some x ∧ ys[i]? = some y,
    fun i H v H' => ∃ T x y, v = .ref T ∧ H T = none ∧ H' = upd H T (.tup [x, y]) ∧ (∀ xs, c1.has K H xs → xs[i]? = some x) ∧ ∀ ys, c2.has K H ys → ys[i]? = some y,
    fun i H => ∃ xs ys : List V, c1.has K H xs ∧ c2.has K H ys ∧ xs.length = ys.length ∧ i = xs.length⟩
theorem turn_zipB {P : Program} {w : World} {K : PySem.W.Frag} {elts : List Expr} {kk : Nat} {tpos : Pos} {c1 c2 : ZC} {b : Bool} {z TI TO i1 i2 : Addr} (D : ZipSep2 z TI TO i1 i2 (i1 :: c1.un) (i2 :: c2.un)) (n1 : i1 ∉ c1.un) (n2 : i2 ∉ c2.un) :
    Turn P w K (.Tuple elts kk tpos) (ItzB K c1 c2) [z, TI, TO, i1, i2] z (fun i h => IsZipB h z TI TO .none b ∧ IsTupOf2 h TI (.ref i1) (.ref i2) ∧ (∃ x y, IsTupOf2 h TO x y) ∧ c1.at_ i1 i h ∧ c2.at_ i2 i h) where
  mem := by simp
  obj := fun i h st c hc => by
    obtain ⟨hz, hTI, ⟨x, y, hTO⟩, h1, h2⟩ := st
    obtain ⟨o1, v1, e1, d1⟩ := ZC.at_obj (c := c1) (I := i1) (i := i) (h := h) h1
    obtain ⟨o2, v2, e2, d2⟩ := ZC.at_obj (c := c2) (I := i2) (i := i) (h := h) h2
    have e' : c = z ∨ c = TI ∨ c = TO ∨ c = i1 ∨ c = i2 := by simpa using hc
    rcases e' with q | q | q | q | q
    · rw [q]; exact ⟨_, hz, fun v q => nomatch q⟩
    · rw [q]; exact ⟨_, hTI, fun v q => nomatch q⟩
    · rw [q]; exact ⟨_, hTO, fun v q => nomatch q⟩
    · rw [q]; exact ⟨o1, e1, fun v q => by rw [d1] at q; cases q⟩
    · rw [q]; exact ⟨o2, e2, fun v q => by rw [d2] at q; cases q⟩
  keep := fun i h h' st k => by
    obtain ⟨hz, hTI, ⟨x, y, hTO⟩, h1, h2⟩ := st
    exact ⟨k z (by simp) _ hz, k TI (by simp) _ hTI, ⟨x, y, k TO (by simp) _ hTO⟩, ZC.at_keep (c := c1) (I := i1) (i := i) (h := h) (h' := h') h1 fun o q => k i1 (by simp) o q, ZC.at_keep (c := c2) (I := i2) (i := i) (h := h) (h' := h') h2 fun o q => k i2 (by simp) o q⟩
  item := by
    intro X hP hw hK hc i pins s σ H E I hf st hg
    subst hP hw hK
    obtain ⟨hz, hTI, ⟨x0, y0, hTO⟩, h1, h2⟩ := st
    obtain ⟨xs, ys, x, y, hqx, hqy, hlen, hx, hy⟩ := hg
    obtain ⟨P1, S1, D1, s1, f1, g1⟩ := ZC.draws I hqx n1 h1 (A := X.A.in1) (I.ok.hd hc)
    obtain ⟨P2, S2, D2, s2, f2, g2⟩ := ZC.draws I hqy n2 h2 (A := X.A.in1) (I.ok.hd hc)
    rw [← hlen] at D2
    have hzl : z < s.heap.objs.size := Heap.lt_size hz
    have hi : i < xs.length := (List.getElem?_eq_some_iff.mp hx).1
    refine zipB_item D D1 D2 hz hTI hTO s1 s2 hi fun u u2 h' tk p1 p2 z' TO' h1' h2' hT hsz hk => ?_
    obtain ⟨x', ex, ru⟩ := g1 i u p1
    obtain ⟨y', ey, ru2⟩ := g2 i u2 p2
    rw [hx] at ex
    cases ex
    rw [hy] at ey
    cases ey
    refine ⟨_, rfl, zipB_go (s := { s with heap := h', toks := tk }) z' fun h'' z'' sb => ?_⟩
    have hT2 : h''.get? s.heap.objs.size = some { cls := .type "tuple", data := .seq #[u, u2] } := (sb.2 _ (Nat.ne_of_gt hzl)).trans hT
    have new : ObjOk X.prog X.w (upd H s.heap.objs.size (.tup [x, y])) h'' s.heap.objs.size (.tup [x, y]) :=
      ⟨by show 2 ≤ sizeLine; decide, [u, u2], .cons ru (.cons ru2 .nil), ⟨_, hT2, rfl, _, rfl⟩⟩
    have I1 : Inv X pins σ (upd H s.heap.objs.size (.tup [x, y])) { s with heap := h'', toks := tk } :=
      I.turnedNew (t' := tk) (ch := [z, TI, TO, i1, i2]) (fun c o hb q => (sb.2 c (fun q' => hb (by simp [q']))).trans (hk c o (fun q' => hb (by simp [q'])) (fun q' => hb (by simp [q'])) (fun q' => hb (by simp [q'])) (fun q' => hb (by simp [q'])) q)) hf (Nat.le_refl _) new
    refine ⟨.ref s.heap.objs.size, _, I1, rfl, ⟨_, x, y, rfl, I.hok.fresh (Nat.le_refl _), rfl, fun l hl => by rw [ZC.inj I hl hqx]; exact hx, fun l hl => by rw [ZC.inj I hl hqy]; exact hy⟩, ⟨z'', ?_, ⟨u, u2, ?_⟩, ?_, ?_⟩, fun c hcm => ?_⟩
    · exact (sb.2 _ D.TIz).trans (hk _ _ D.TIz D.TITO D.TIi1 D.TIi2 hTI)
    · exact (sb.2 _ D.TOz).trans TO'
    · exact ZC.at_keep (c := c1) (I := i1) (i := i + 1) (h := h') (h' := h'') (f1 _ _ h1') fun o q => (sb.2 _ D.zi1.symm).trans q
    · exact ZC.at_keep (c := c2) (I := i2) (i := i + 1) (h := h') (h' := h'') (f2 _ _ h2') fun o q => (sb.2 _ D.zi2.symm).trans q
    · have hlt : c < s.heap.objs.size := by
        have e' : c = z ∨ c = TI ∨ c = TO ∨ c = i1 ∨ c = i2 := by simpa using hcm
        rcases e' with q | q | q | q | q
        · rw [q]; exact hzl
        · rw [q]; exact Heap.lt_size hTI
        · rw [q]; exact Heap.lt_size hTO
        · rw [q]; obtain ⟨_, _, e1, _⟩ := ZC.at_obj (c := c1) (I := i1) (i := i) (h := s.heap) h1; exact Heap.lt_size e1
        · rw [q]; obtain ⟨_, _, e2, _⟩ := ZC.at_obj (c := c2) (I := i2) (i := i) (h := s.heap) h2; exact Heap.lt_size e2
      rw [upd_ne (Nat.ne_of_lt hlt)]
      exact (hf c hcm).1
  done := by
    intro X hP hw hK hc i pins s σ H E I hf st hg
    subst hP hw hK
    obtain ⟨hz, hTI, ⟨x0, y0, hTO⟩, h1, h2⟩ := st
    obtain ⟨xs, ys, hqx, hqy, hlen, he⟩ := hg
    obtain ⟨P1, S1, D1, s1, f1, g1⟩ := ZC.draws I hqx n1 h1 (A := X.A.in1) (I.ok.hd hc)
    obtain ⟨P2, S2, D2, s2, f2, g2⟩ := ZC.draws I hqy n2 h2 (A := X.A.in1) (I.ok.hd hc)
    rw [← hlen] at D2
    subst he
    exact zipB_end (I.ok.hd hc) D D1 D2 hz hTI hTO s1 s2 fun h' tk hk => ⟨rfl, I.turnedL (t' := tk) (ch := [z, TI, TO, i1, i2]) (fun c o hb q =>
      hk c o (fun q' => hb (by simp [q'])) (fun q' => hb (by simp [q'])) (fun q' => hb (by simp [q'])) (fun q' => hb (by simp [q'])) q) hf⟩
  self := fun A i s Q E st h => zipB_iter st.1 h
/-- what zip asks: two things of one length -/
def iZipB (K : PySem.W.Frag) (ta : TA) : TI := fun σ H R => ta σ H fun vs H1 => ∃ (c1 c2 : ZC) (xs ys : List V), vs = [c1.val, c2.val] ∧ c1.has K H1 xs ∧ c2.has K H1 ys ∧ xs.length = ys.length ∧ R (ItzB K c1 c2) H1
theorem zip_ready {X : Cx} {pins : List (Addr × Obj)} {σ : St} {H1 : Hp} {s1 : Shared} {tg : Expr} {elts : List Expr} {kk : Nat} {tpos : Pos} {R : It → Hp → Prop} (I1 : Inv X pins σ H1 s1) {c1 c2 : ZC} {xs ys : List V} (hqx : c1.has X.K H1 xs) (hqy : c2.has X.K H1 ys) (b : Bool) (q : R (ItzB X.K c1 c2) H1)
    (b1 : ∀ b ∈ c1.un, b < s1.heap.objs.size) (b2 : ∀ b ∈ c2.un, b < s1.heap.objs.size) {h' : Heap} (hz : IsZipB h' (s1.heap.objs.size + 4) (s1.heap.objs.size + 2) (s1.heap.objs.size + 3) .none b)
    (hTI : IsTupOf2 h' (s1.heap.objs.size + 2) (.ref s1.heap.objs.size) (.ref (s1.heap.objs.size + 1))) (hTO : IsTupOf2 h' (s1.heap.objs.size + 3) .none .none) (h1 : c1.at_ s1.heap.objs.size 0 h') (h2 : c2.at_ (s1.heap.objs.size + 1) 0 h') (hk : ∀ c o, s1.heap.get? c = some o → h'.get? c = some o) :
    wpAny (model X.prog X.w) X.A (pyIter (.ref (s1.heap.objs.size + 4))) (PIE X pins σ (.Tuple elts kk tpos) R) X.xe { s1 with heap := h' } := by
  refine zipB_iter hz ?_
  have I2 : Inv X pins σ H1 { s1 with heap := h' } := I1.kept (t' := s1.toks) hk
  have D : ZipSep2 (s1.heap.objs.size + 4) (s1.heap.objs.size + 2) (s1.heap.objs.size + 3) s1.heap.objs.size (s1.heap.objs.size + 1) (s1.heap.objs.size :: c1.un) ((s1.heap.objs.size + 1) :: c2.un) := zip_sep2 b1 b2
  have n1 : s1.heap.objs.size ∉ c1.un := fun h => Nat.lt_irrefl _ (b1 _ h)
  have n2 : s1.heap.objs.size + 1 ∉ c2.un := fun h => Nat.lt_irrefl _ (Nat.lt_trans (Nat.lt_succ_self _) (b2 _ h))
  refine ⟨s1.heap.objs.size + 4, [s1.heap.objs.size + 4, s1.heap.objs.size + 2, s1.heap.objs.size + 3, s1.heap.objs.size, s1.heap.objs.size + 1], _, _, H1, rfl, I2,
    turn_zipB (b := b) D n1 n2, ⟨hz, hTI, ⟨_, _, hTO⟩, h1, h2⟩, fun c hcm => ?_, q⟩
  have e' : c = s1.heap.objs.size + 4 ∨ c = s1.heap.objs.size + 2 ∨ c = s1.heap.objs.size + 3 ∨ c = s1.heap.objs.size ∨ c = s1.heap.objs.size + 1 := by simpa using hcm
  have hle : s1.heap.objs.size ≤ c := by
    rcases e' with z | z | z | z | z
    · rw [z]; exact Nat.le_add_right _ _
    · rw [z]; exact Nat.le_add_right _ _
    · rw [z]; exact Nat.le_add_right _ _
    · rw [z]; exact Nat.le_refl _
    · rw [z]; exact Nat.le_add_right _ _
  exact I1.fpOk hle (I1.hok.fresh hle)
/-- zip(a, b) -/
theorem pi_zipB {X : Cx} {e e2 : Expr} {ta : TA} {p pos tpos : Pos} {elts : List Expr} {kk : Nat} (hg : Gl X "zip") (hm : X.mg "zip" = none) (ha : PA X [e, e2] ta)
    (hs : starEach [e, e2] X.env = (false, eval e X.env) :: starEach [e2] X.env := by rfl) (hpl : (backTo pos (starEach [e2] X.env)).any (·.1) = false := by rfl) :
    PI X (.Tuple elts kk tpos) (.Call (.Name "zip" p) [e, e2] [] pos) (iZipB X.K ta) := by
  refine ⟨fun pins s σ H R I h => ?_⟩
  refine Call_ (ld_blt I hg hm PyProof.Rows.boot_zip (PyProof.Rows.callWith_type1 (thn (ha.run pos pins s σ H _ I h) fun us s1 ⟨vs, H1, I1, r1, q1⟩ => ?_) hs hpl))
  obtain ⟨c1, c2, xs, ys, ex, hqx, hqy, hlen, q⟩ := q1
  subst ex
  cases r1 with
  | cons r rr =>
    cases rr with
    | cons r' rr =>
      cases rr
      obtain ⟨o1, G1, B1, g1, b1, a1⟩ := ZC.begins I1 hqx r
      obtain ⟨o2, G2, B2, g2, b2, a2⟩ := ZC.begins I1 hqy r'
      exact zip_begins2 B1 B2 g1 g2 fun h' hz hTI hTO h1 h2 hsz hk => zip_ready (tg := e) I1 hqx hqy false q b1 b2 hz hTI hTO (a1 _ _ h1) (a2 _ _ h2) hk
theorem callWith_typeX {M : Model} {A : Around} {env : Env} {E : Value → Shared → Prop} {s : Shared} {pos : Pos} {T : String} {e : Expr} {rest : List Expr} {kws : List Keyword} {Q : Value → Shared → Prop}
    (h : wpAny M A (spliced (backTo pos (starEach (e :: rest) env))) (fun vs s₁ => wpAny M A (evalAll ((backToKw pos (keywordEach kws env)).map (·.2)))
      (fun kvs s₂ => wpAny M A (call (.type T) vs (((backToKw pos (keywordEach kws env)).filterMap (·.1)).zip kvs)) Q E s₂) E s₁) E s)
    (he : backTo pos (starEach (e :: rest) env) = (false, eval e env) :: backTo pos (starEach rest env) := by rfl)
    (hplain : (backTo pos (starEach (e :: rest) env)).any (·.1) = false := by rfl)
    (hall : (backToKw pos (keywordEach kws env)).all (·.1.isSome) = true := by rfl)
    (hkw : (backToKw pos (keywordEach kws env)).any (·.1.isNone) = false := by rfl) :
    wpAny M A (callWith pos (.type T) [] (backTo pos (starEach (e :: rest) env)) (backToKw pos (keywordEach kws env))) Q E s := by
  rw [he] at h
  have h2 := PyProof.Rows.evalArgs_kwB (f := .type T) (Q := fun a s₁ => wpAny M A (call (.type T) a.pos a.kw) Q E s₁) hall h
  rw [← he] at h2
  unfold callWith
  refine wpAny_bind (wpAny_holding (wpAny_mono h2 (fun a s₁ h₁ => wpAny_bind (wpAny_standAt ?_)) fun _ _ x => x))
  simp only [hplain, hkw, Bool.or_false]
  refine wpAny_bind (wpAny_pure ?_)
  exact wpAny_bind (wpAny_mono h₁ (fun r s₂ hr => wpAny_bind (wpAny_holding (wpAny_point (wpAny_pure hr)))) fun _ _ x => x)
/-- zip(a, b, strict=True) -/
theorem pi_zipS {X : Cx} {e e2 : Expr} {ta : TA} {p pos tpos cp kp : Pos} {j : Nat} {elts : List Expr} {kk : Nat} (hg : Gl X "zip") (hm : X.mg "zip" = none) (ha : PA X [e, e2] ta)
    (hs : backTo pos (starEach [e, e2] X.env) = (false, eval e X.env) :: backTo pos (starEach [e2] X.env) := by rfl) (hpl : (backTo pos (starEach [e, e2] X.env)).any (·.1) = false := by rfl) :
    PI X (.Tuple elts kk tpos) (.Call (.Name "zip" p) [e, e2] [⟨some "strict", .Constant (.bool true) j cp, kp⟩] pos) (iZipB X.K ta) := by
  refine ⟨fun pins s σ H R I h => ?_⟩
  refine wpAny_Call_Name_kw (ld_blt I hg hm PyProof.Rows.boot_zip ?_)
  refine callWith_typeX (thn (ha.run pos pins s σ H _ I h) fun us s1 ⟨vs, H1, I1, r1, q1⟩ => thn ((pk_cons (nm := some "strict") (kpos := kp) (pe_bl (j := j) (pos := cp)) pk_nil).run pos pins s1 σ H1 (fun zs H2 => zs = [.bl true] ∧ H2 = H1) I1 ⟨rfl, rfl⟩) fun ws s2 ⟨zs, H2, I2, r2, q2⟩ => ?_) hs hpl rfl rfl
  obtain ⟨rfl, rfl⟩ := q2
  obtain ⟨c1, c2, xs, ys, ex, hqx, hqy, hlen, q⟩ := q1
  subst ex
  cases r1 with
  | cons r rr =>
    cases rr with
    | cons r' rr =>
      cases rr
      cases r2 with
      | cons r3 rr =>
        cases rr
        cases r3
        obtain ⟨o1, G1, B1, g1, b1, a1⟩ := ZC.begins I2 hqx r
        obtain ⟨o2, G2, B2, g2, b2, a2⟩ := ZC.begins I2 hqy r'
        exact zipX_begins2 B1 B2 g1 g2 fun h' hz hTI hTO h1 h2 hsz hk => zip_ready (tg := e) I2 hqx hqy true q b1 b2 hz hTI hTO (a1 _ _ h1) (a2 _ _ h2) hk
/-- a comprehension over a zip -/
theorem lc_zipB {K : PySem.W.Frag} {c1 c2 : ZC} {xs ys : List V} {g : TG} {tt : TT} {te : TE} {vs : List Nat} {σ : St} {H1 : Hp} {D : Addr} {Qd : Hp → Prop} (hl : xs.length = ys.length) (Pv : Nat → Hp → Prop) (h0 : Pv 0 (upd H1 D (.lst [])))
    (hq : ∀ i H, Pv i H → c1.has K H xs ∧ c2.has K H ys)
    (hs : ∀ i x y T H, xs[i]? = some x → ys[i]? = some y → Pv i H → H T = none → g (.ref T) (wipe σ vs) (upd H T (.tup [x, y])) fun σ2 H2 => wipe σ2 vs = wipe σ vs ∧ tt σ2 H2 fun b H3 =>
      if b = true then te σ2 H3 fun y H4 => ∃ acc, H4 D = some (.lst acc) ∧ acc.length < sizeLine ∧ Pv (i + 1) (upd H4 D (.lst (acc ++ [y]))) else Pv (i + 1) H3)
    (hd : ∀ H, Pv xs.length H → Qd H) :
    ∃ W : Nat → Nat → Hp → Prop, (∃ m, W 0 m (upd H1 D (.lst []))) ∧ ∀ i m H, W i m H →
      ((ItzB K c1 c2).stop i H ∧ Qd H) ∨ ((ItzB K c1 c2).go i H ∧ ∃ Nx : Hp → Prop, (∀ H', Nx H' → ∃ m', m' < m ∧ W (i + 1) m' H') ∧ ∀ x H', (ItzB K c1 c2).yld i H x H' → g x (wipe σ vs) H' fun σ2 H2 => wipe σ2 vs = wipe σ vs ∧ tt σ2 H2 fun b H3 =>
        if b = true then te σ2 H3 fun y H4 => ∃ acc, H4 D = some (.lst acc) ∧ acc.length < sizeLine ∧ Nx (upd H4 D (.lst (acc ++ [y]))) else Nx H3) := by
  refine ⟨fun i m H => m = xs.length - i ∧ i ≤ xs.length ∧ Pv i H, ⟨xs.length, rfl, Nat.zero_le _, h0⟩, ?_⟩
  rintro i m H ⟨rfl, hi, p⟩
  obtain ⟨qx, qy⟩ := hq i H p
  by_cases hlt : i < xs.length
  · have hx : xs[i]? = some xs[i] := List.getElem?_eq_getElem hlt
    have hlt2 : i < ys.length := by omega
    have hy : ys[i]? = some ys[i] := List.getElem?_eq_getElem hlt2
    refine .inr ⟨⟨xs, ys, _, _, qx, qy, hl, hx, hy⟩, Pv (i + 1), fun H' p' => ⟨xs.length - (i + 1), by omega, rfl, hlt, p'⟩, fun v H' y => ?_⟩
    obtain ⟨T, x', y', rfl, hT, rfl, f1, f2⟩ := y
    exact hs i x' y' T H (f1 xs qx) (f2 ys qy) p hT
  · have e : i = xs.length := by omega
    subst e
    exact .inl ⟨⟨xs, ys, qx, qy, hl, rfl⟩, hd H p⟩
end L2
set_option Elab.async false
set_option linter.all false
set_option maxRecDepth 100000
set_option maxHeartbeats 4000000
/-! Data of tuples, texts, numbers as it lies in the heap; small words for the walks. -/
namespace L2
open PySem PySem.Spec PyProof.Rows
inductive TyN (H : Hp) : V → String → Prop where
  | str (x : Str) : TyN H (.str x) "str"
  | int (i : Int) : TyN H (.int i) "int"
  | tup {a : Addr} {xs : List V} (e : H a = some (.tup xs)) : TyN H (.ref a) "tuple"
  | lst {a : Addr} {xs : List V} (e : H a = some (.lst xs)) : TyN H (.ref a) "list"
theorem TyN.x {K : PySem.W.Frag} {H : Hp} {x : V} {t : String} (h : TyN H x t) : TyX K H x (.type t) := by
  cases h with
  | str x => exact .base (.str x)
  | int i => exact .base (.int i)
  | tup e => exact .base (.tup e)
  | lst e => exact .base (.lst e)
def rIsN : List V → Hp → VK → Prop := fun xs H Q => ∃ (x : V) (T ty : String) (b : Bool), xs = [x, .ty T] ∧ TyN H x ty ∧ kitB ty T = some b ∧ Q (.bl b) H
theorem call_isN {X : Cx} : CallR X (.builtin "isinstance") rIsN := by
  intro pins s σ H xs us Q I r h
  obtain ⟨x, T, ty, b, e, t, k, q⟩ := h
  exact call_isi pins s σ H xs us Q I r ⟨x, .ty T, .type ty, .type T, b, e, .ty T, t.x, kit_ty k, q⟩
theorem kss : kitB "str" "str" = some true := by decide +kernel
theorem kst : kitB "str" "tuple" = some false := by decide +kernel
theorem kts : kitB "tuple" "str" = some false := by decide +kernel
theorem ktt : kitB "tuple" "tuple" = some true := by decide +kernel
theorem kii : kitB "int" "int" = some true := by decide +kernel
theorem kib : kitB "int" "bool" = some false := by decide +kernel
theorem kll : kitB "list" "list" = some true := by decide +kernel
end L2
namespace WS
open PySem L2
/-! ### data that never changes -/
mutual
inductive Pd (H : Hp) : V → PyData → Prop
  | non : Pd H .non .none
  | bl (b : Bool) : Pd H (.bl b) (.bool b)
  | int (i : Int) : Pd H (.int i) (.int i)
  | str (x : Str) : Pd H (.str x) (.str x)
  | tup {a : Addr} {xs : List V} {ds : List PyData} : H a = some (.tup xs) → PdAll H xs ds → Pd H (.ref a) (.tuple ds)
inductive PdAll (H : Hp) : List V → List PyData → Prop
  | nil : PdAll H [] []
  | cons {v : V} {vs : List V} {d : PyData} {ds : List PyData} : Pd H v d → PdAll H vs ds → PdAll H (v :: vs) (d :: ds)
end
/-- tuples stay -/
def TK (H H' : Hp) : Prop := ∀ a xs, H a = some (.tup xs) → H' a = some (.tup xs)
/-- all but p stays -/
def Kp (p : Addr) (H H' : Hp) : Prop := ∀ a o, a ≠ p → H a = some o → H' a = some o
theorem Kp.refl (p : Addr) (H : Hp) : Kp p H H := fun _ _ _ h => h
theorem Kp.trans {p : Addr} {H H1 H2 : Hp} (a : Kp p H H1) (b : Kp p H1 H2) : Kp p H H2 := fun c o n h => b c o n (a c o n h)
theorem _root_.L2.Same.kp {H H' : Hp} (h : Same H H') (p : Addr) : Kp p H H' := fun a o _ e => h a o e
theorem _root_.L2.Same.tk {H H' : Hp} (h : Same H H') : TK H H' := fun a _ e => h a _ e
theorem _root_.L2.Same.new {H : Hp} {p : Addr} {o : HO} (h : H p = none) : Same H (upd H p o) := fun b u e => by
  rw [upd_ne (ne_of_none e h)]
  exact e
theorem Kp.mut (p : Addr) (H : Hp) (o : HO) : Kp p H (upd H p o) := fun b u n e => by
  rw [upd_ne n]
  exact e
theorem Kp.tk {p : Addr} {H H' : Hp} (h : Kp p H H') (hp : ∀ xs, H p ≠ some (.tup xs)) : TK H H' := fun a xs e => h a _ (fun q => hp xs (by rw [← q]; exact e)) e
theorem TK.refl (H : Hp) : TK H H := fun _ _ h => h
theorem TK.trans {H H1 H2 : Hp} (a : TK H H1) (b : TK H1 H2) : TK H H2 := fun c o h => b c o (a c o h)
mutual
theorem Pd.keep {H H' : Hp} (t : TK H H') : ∀ {v : V} {d : PyData}, Pd H v d → Pd H' v d
  | _, _, .non => .non
  | _, _, .bl b => .bl b
  | _, _, .int i => .int i
  | _, _, .str x => .str x
  | _, _, .tup e a => .tup (t _ _ e) (PdAll.keep t a)
theorem PdAll.keep {H H' : Hp} (t : TK H H') : ∀ {vs : List V} {ds : List PyData}, PdAll H vs ds → PdAll H' vs ds
  | _, _, .nil => .nil
  | _, _, .cons h r => .cons (h.keep t) (PdAll.keep t r)
end
mutual
theorem Pd.dp {K : PySem.W.Frag} {H : Hp} : ∀ {v : V} {d : PyData}, Pd H v d → Dp K H v d
  | _, _, .non => .non
  | _, _, .bl b => .bl b
  | _, _, .int i => .int i
  | _, _, .str x => .str x
  | _, _, .tup e a => .tup (.inl (.inl e)) (PdAll.dp a)
theorem PdAll.dp {K : PySem.W.Frag} {H : Hp} : ∀ {vs : List V} {ds : List PyData}, PdAll H vs ds → DpAll K H vs ds
  | _, _, .nil => .nil
  | _, _, .cons h r => .cons h.dp (PdAll.dp r)
end
theorem Pd.same {H H' : Hp} (s : Same H H') {v : V} {d : PyData} (h : Pd H v d) : Pd H' v d := h.keep s.tk
theorem PdAll.same {H H' : Hp} (s : Same H H') {v : List V} {d : List PyData} (h : PdAll H v d) : PdAll H' v d := h.keep s.tk
theorem Pd.str_of {H : Hp} {v : V} {x : Str} (h : Pd H v (.str x)) : v = .str x := by cases h; rfl
theorem Pd.int_of {H : Hp} {v : V} {x : Int} (h : Pd H v (.int x)) : v = .int x := by cases h; rfl
theorem Pd.non_of {H : Hp} {v : V} (h : Pd H v .none) : v = .non := by cases h; rfl
theorem Pd.tup_of {H : Hp} {v : V} {ds : List PyData} (h : Pd H v (.tuple ds)) : ∃ a xs, v = .ref a ∧ H a = some (.tup xs) ∧ PdAll H xs ds := by
  cases h with
  | tup e r => exact ⟨_, _, rfl, e, r⟩
theorem PdAll.nil_of {H : Hp} {vs : List V} (h : PdAll H vs []) : vs = [] := by cases h; rfl
theorem PdAll.cons_of {H : Hp} {vs : List V} {d : PyData} {ds : List PyData} (h : PdAll H vs (d :: ds)) : ∃ v r, vs = v :: r ∧ Pd H v d ∧ PdAll H r ds := by
  cases h with
  | cons e r => exact ⟨_, _, rfl, e, r⟩
theorem PdAll.length {H : Hp} : ∀ {vs : List V} {ds : List PyData}, PdAll H vs ds → vs.length = ds.length
  | _, _, .nil => rfl
  | _, _, .cons _ r => congrArg Nat.succ (PdAll.length r)
theorem Pd.t1 {H : Hp} {v : V} {d : PyData} (h : Pd H v (.tuple [d])) : ∃ a x, v = .ref a ∧ H a = some (.tup [x]) ∧ Pd H x d := by
  obtain ⟨a, xs, rfl, e, r⟩ := h.tup_of
  obtain ⟨x, _, rfl, h1, r⟩ := r.cons_of
  cases r.nil_of
  exact ⟨a, x, rfl, e, h1⟩
theorem Pd.t2 {H : Hp} {v : V} {d1 d2 : PyData} (h : Pd H v (.tuple [d1, d2])) : ∃ a x y, v = .ref a ∧ H a = some (.tup [x, y]) ∧ Pd H x d1 ∧ Pd H y d2 := by
  obtain ⟨a, xs, rfl, e, r⟩ := h.tup_of
  obtain ⟨x, _, rfl, h1, r⟩ := r.cons_of
  obtain ⟨y, _, rfl, h2, r⟩ := r.cons_of
  cases r.nil_of
  exact ⟨a, x, y, rfl, e, h1, h2⟩
theorem Pd.t3 {H : Hp} {v : V} {d1 d2 d3 : PyData} (h : Pd H v (.tuple [d1, d2, d3])) : ∃ a x y z, v = .ref a ∧ H a = some (.tup [x, y, z]) ∧ Pd H x d1 ∧ Pd H y d2 ∧ Pd H z d3 := by
  obtain ⟨a, xs, rfl, e, r⟩ := h.tup_of
  obtain ⟨x, _, rfl, h1, r⟩ := r.cons_of
  obtain ⟨y, _, rfl, h2, r⟩ := r.cons_of
  obtain ⟨z, _, rfl, h3, r⟩ := r.cons_of
  cases r.nil_of
  exact ⟨a, x, y, z, rfl, e, h1, h2, h3⟩
theorem Pd.t4 {H : Hp} {v : V} {d1 d2 d3 d4 : PyData} (h : Pd H v (.tuple [d1, d2, d3, d4])) : ∃ a x y z u, v = .ref a ∧ H a = some (.tup [x, y, z, u]) ∧ Pd H x d1 ∧ Pd H y d2 ∧ Pd H z d3 ∧ Pd H u d4 := by
  obtain ⟨a, xs, rfl, e, r⟩ := h.tup_of
  obtain ⟨x, _, rfl, h1, r⟩ := r.cons_of
  obtain ⟨y, _, rfl, h2, r⟩ := r.cons_of
  obtain ⟨z, _, rfl, h3, r⟩ := r.cons_of
  obtain ⟨u, _, rfl, h4, r⟩ := r.cons_of
  cases r.nil_of
  exact ⟨a, x, y, z, u, rfl, e, h1, h2, h3, h4⟩
theorem Pd.t5 {H : Hp} {v : V} {d1 d2 d3 d4 d5 : PyData} (h : Pd H v (.tuple [d1, d2, d3, d4, d5])) : ∃ a x y z u t, v = .ref a ∧ H a = some (.tup [x, y, z, u, t]) ∧ Pd H x d1 ∧ Pd H y d2 ∧ Pd H z d3 ∧ Pd H u d4 ∧ Pd H t d5 := by
  obtain ⟨a, xs, rfl, e, r⟩ := h.tup_of
  obtain ⟨x, _, rfl, h1, r⟩ := r.cons_of
  obtain ⟨y, _, rfl, h2, r⟩ := r.cons_of
  obtain ⟨z, _, rfl, h3, r⟩ := r.cons_of
  obtain ⟨u, _, rfl, h4, r⟩ := r.cons_of
  obtain ⟨t, _, rfl, h5, r⟩ := r.cons_of
  cases r.nil_of
  exact ⟨a, x, y, z, u, t, rfl, e, h1, h2, h3, h4, h5⟩
theorem Pd.m2 {H : Hp} {a : Addr} {x y : V} {d1 d2 : PyData} (e : H a = some (.tup [x, y])) (h1 : Pd H x d1) (h2 : Pd H y d2) : Pd H (.ref a) (.tuple [d1, d2]) := .tup e (.cons h1 (.cons h2 .nil))
theorem Pd.m3 {H : Hp} {a : Addr} {x y z : V} {d1 d2 d3 : PyData} (e : H a = some (.tup [x, y, z])) (h1 : Pd H x d1) (h2 : Pd H y d2) (h3 : Pd H z d3) : Pd H (.ref a) (.tuple [d1, d2, d3]) := .tup e (.cons h1 (.cons h2 (.cons h3 .nil)))
theorem Pd.m4 {H : Hp} {a : Addr} {x y z u : V} {d1 d2 d3 d4 : PyData} (e : H a = some (.tup [x, y, z, u])) (h1 : Pd H x d1) (h2 : Pd H y d2) (h3 : Pd H z d3) (h4 : Pd H u d4) : Pd H (.ref a) (.tuple [d1, d2, d3, d4]) := .tup e (.cons h1 (.cons h2 (.cons h3 (.cons h4 .nil))))
theorem Pd.m5 {H : Hp} {a : Addr} {x y z u t : V} {d1 d2 d3 d4 d5 : PyData} (e : H a = some (.tup [x, y, z, u, t])) (h1 : Pd H x d1) (h2 : Pd H y d2) (h3 : Pd H z d3) (h4 : Pd H u d4) (h5 : Pd H t d5) : Pd H (.ref a) (.tuple [d1, d2, d3, d4, d5]) := .tup e (.cons h1 (.cons h2 (.cons h3 (.cons h4 (.cons h5 .nil)))))
theorem st {K : PySem.W.Frag} {H : Hp} {a : Addr} {xs : List V} (h : H a = some (.tup xs)) : SqT K H a xs := .inl (.inl h)
theorem sl {K : PySem.W.Frag} {H : Hp} {a : Addr} {xs : List V} (h : H a = some (.lst xs)) : SqL K H a xs := .inl (.inl h)
/-! ### forms -/
theorem fd_cases {H : Hp} {v : V} (F : Form) (h : Pd H v F.d) : (F = .any ∧ v = .str "any") ∨ (F = .num ∧ v = .str "num") ∨ (F = .text ∧ v = .str "text") ∨
    (∃ a b p x y, F = .deed a b ∧ v = .ref p ∧ H p = some (.tup [.str "deed", x, y]) ∧ Pd H x a.d ∧ Pd H y b.d) ∨ (∃ a p x, F = .box a ∧ v = .ref p ∧ H p = some (.tup [.str "box", x]) ∧ Pd H x a.d) := by
  cases F with
  | any => exact .inl ⟨rfl, h.str_of⟩
  | num => exact .inr (.inl ⟨rfl, h.str_of⟩)
  | text => exact .inr (.inr (.inl ⟨rfl, h.str_of⟩))
  | deed a b =>
    obtain ⟨p, w, x, y, e, hp, hw, hx, hy⟩ := Pd.t3 h
    cases hw.str_of
    exact .inr (.inr (.inr (.inl ⟨a, b, p, x, y, rfl, e, hp, hx, hy⟩)))
  | box a =>
    obtain ⟨p, w, x, e, hp, hw, hx⟩ := Pd.t2 h
    cases hw.str_of
    exact .inr (.inr (.inr (.inr ⟨a, p, x, rfl, e, hp, hx⟩)))
/-! ### == of data -/
theorem lay_form : ∀ F : Form, F.d.canLay0 = true ∧ F.d.depth ≤ F.height + 1
  | .any => ⟨by decide +kernel, by decide +kernel⟩
  | .num => ⟨by decide +kernel, by decide +kernel⟩
  | .text => ⟨by decide +kernel, by decide +kernel⟩
  | .deed a b => by
    have ha := lay_form a
    have hb := lay_form b
    refine ⟨?_, ?_⟩
    · simp only [Form.d, PyData.canLay0, PyData.canLayAll0, ha.1, hb.1, Bool.and_true]
      decide +kernel
    · simp only [Form.d, PyData.depth, PyData.depthAll, Form.height]
      omega
  | .box a => by
    have ha := lay_form a
    refine ⟨?_, ?_⟩
    · simp only [Form.d, PyData.canLay0, PyData.canLayAll0, ha.1, Bool.and_true]
      decide +kernel
    · simp only [Form.d, PyData.depth, PyData.depthAll, Form.height]
      omega
theorem shaped_form (F : Form) (h : F.height ≤ 60) : SeqAt.shaped F.d = true := by
  have h1 := lay_form F
  unfold SeqAt.shaped
  rw [h1.1, Bool.true_and, decide_eq_true_eq]
  omega
theorem shaped_str {x : Str} (h : PyData.strOk x = true) : SeqAt.shaped (.str x) = true := by
  unfold SeqAt.shaped
  simp only [PyData.canLay0, PyData.depth]
  rw [h]
  rfl
theorem str_beq (x y : Str) : (x == y) = decide (x = y) := by
  by_cases h : x = y
  · subst h; simp
  · rw [decide_eq_false h]
    exact beq_eq_false_iff_ne.mpr h
theorem eqv_form : ∀ A B : Form, PyData.eqv A.d B.d = decide (A = B)
  | .any, B => by cases B <;> first | decide +kernel | rfl
  | .num, B => by cases B <;> first | decide +kernel | rfl
  | .text, B => by cases B <;> first | decide +kernel | rfl
  | .deed a b, B => by
    cases B with
    | deed c d =>
      have e : ("deed" : Str) == ("deed" : Str) := by decide +kernel
      simp only [Form.d, PyData.eqv, PyData.eqvAll, eqv_form a c, eqv_form b d, e, Bool.true_and, Bool.and_true, Form.deed.injEq, Bool.decide_and]
    | box c =>
      have e : (("deed" : Str) == ("box" : Str)) = false := by decide +kernel
      simp only [Form.d, PyData.eqv, PyData.eqvAll, e, Bool.false_and]
      rfl
    | any => rfl
    | num => rfl
    | text => rfl
  | .box a, B => by
    cases B with
    | box c =>
      have e : ("box" : Str) == ("box" : Str) := by decide +kernel
      simp only [Form.d, PyData.eqv, PyData.eqvAll, eqv_form a c, e, Bool.true_and, Bool.and_true, Form.box.injEq]
    | deed c d =>
      have e : (("box" : Str) == ("deed" : Str)) = false := by decide +kernel
      simp only [Form.d, PyData.eqv, PyData.eqvAll, e, Bool.false_and]
      rfl
    | any => rfl
    | num => rfl
    | text => rfl
theorem any_d : Form.any.d = .str "any" := rfl
theorem num_d : Form.num.d = .str "num" := rfl
theorem text_d : Form.text.d = .str "text" := rfl
theorem pd_str (H : Hp) (x : Str) : Pd H (.str x) (.str x) := .str x
theorem fany (H : Hp) : Pd H (.str "any") Form.any.d := .str _
theorem fnum (H : Hp) : Pd H (.str "num") Form.num.d := .str _
theorem ftext (H : Hp) : Pd H (.str "text") Form.text.d := .str _
theorem fdeed {H : Hp} {p : Addr} {x y : V} {a b : Form} (e : H p = some (.tup [.str "deed", x, y])) (hx : Pd H x a.d) (hy : Pd H y b.d) : Pd H (.ref p) (Form.deed a b).d := .m3 e (.str _) hx hy
theorem fbox {H : Hp} {p : Addr} {x : V} {a : Form} (e : H p = some (.tup [.str "box", x])) (hx : Pd H x a.d) : Pd H (.ref p) (Form.box a).d := .m2 e (.str _) hx
end WS
set_option Elab.async false
set_option linter.all false
set_option maxRecDepth 100000
set_option maxHeartbeats 4000000
/-! Comprehensions over any source, in one word. -/
namespace L2
open PySem PySem.Spec PyProof.Rows WS
/-- what J gives where U holds: n items, the i-th I i -/
structure Src (J : It) (U : Hp → Prop) (n : Nat) (I : Nat → V → Hp → Prop) : Prop where
  go : ∀ i H, U H → i < n → J.go i H
  yld : ∀ i x H H', U H → i < n → J.yld i H x H' → Same H H' ∧ I i x H'
  stop : ∀ H, U H → J.stop n H
theorem src_tup {K : PySem.W.Frag} {a : Addr} {xs : List V} : Src (Itt K a) (fun H => SqT K H a xs) xs.length (fun i x _ => xs[i]? = some x) where
  go := fun i H u h => ⟨xs, xs[i], u, List.getElem?_eq_getElem h⟩
  yld := fun i x H H' u h y => by
    obtain ⟨e, y⟩ := y
    subst e
    exact ⟨Same.refl _, y xs u⟩
  stop := fun H u => ⟨xs, u, Nat.le_refl _⟩
theorem src_list {K : PySem.W.Frag} {a : Addr} {xs : List V} : Src (Itl K a) (fun H => SqL K H a xs) xs.length (fun i x _ => xs[i]? = some x) where
  go := fun i H u h => ⟨xs, xs[i], u, List.getElem?_eq_getElem h⟩
  yld := fun i x H H' u h y => by
    obtain ⟨e, y⟩ := y
    subst e
    exact ⟨Same.refl _, y xs u⟩
  stop := fun H u => ⟨xs, u, Nat.le_refl _⟩
theorem src_str {z : Str} : Src (Its z) (fun _ => True) z.cps.size (fun i x _ => ∃ c, z.cps[i]? = some c ∧ x = .str ⟨#[c]⟩) where
  go := fun i H u h => h
  yld := fun i x H H' u h y => by
    obtain ⟨e, y⟩ := y
    subst e
    exact ⟨Same.refl _, y⟩
  stop := fun H u => Nat.le_refl _
theorem src_range {lo : Int} {n : Nat} : Src (Itr lo n) (fun _ => True) n (fun i x _ => x = .int (lo + i)) where
  go := fun i H u h => h
  yld := fun i x H H' u h y => by
    obtain ⟨e, y⟩ := y
    subst e
    exact ⟨Same.refl _, y⟩
  stop := fun H u => Nat.le_refl _
theorem src_zip {K : PySem.W.Frag} {c1 c2 : ZC} {xs ys : List V} (hl : xs.length = ys.length) :
    Src (ItzB K c1 c2) (fun H => c1.has K H xs ∧ c2.has K H ys) xs.length (fun i v H => ∃ T x y, v = .ref T ∧ H T = some (.tup [x, y]) ∧ xs[i]? = some x ∧ ys[i]? = some y) where
  go := fun i H u h => ⟨xs, ys, xs[i], ys[i], u.1, u.2, hl, List.getElem?_eq_getElem h, List.getElem?_eq_getElem (by omega)⟩
  yld := fun i x H H' u h y => by
    obtain ⟨T, x', y', rfl, hT, rfl, f1, f2⟩ := y
    exact ⟨Same.new hT, T, x', y', rfl, upd_same, f1 xs u.1, f2 ys u.2⟩
  stop := fun H u => ⟨xs, ys, u.1, u.2, hl, rfl⟩
/-- a list comprehension -/
theorem lcS {J : It} {U : Hp → Prop} {n : Nat} {I : Nat → V → Hp → Prop} (S : Src J U n I) {g : TG} {tt : TT} {te : TE} {vs : List Nat} {σ : St} {H1 : Hp} {D : Addr} {Qd : Hp → Prop} (Pv : Nat → List V → Hp → Prop) (hn : n ≤ sizeLine)
    (h0 : Pv 0 [] (upd H1 D (.lst []))) (hU : ∀ i acc H, Pv i acc H → U H)
    (hs : ∀ i x acc H H' (KK : VK) (K2 : Hp → Prop), i < n → acc.length ≤ i → Pv i acc H → H D = some (.lst acc) → Same H H' → I i x H' →
      (∀ y H4, H4 D = some (.lst acc) → Pv (i + 1) (acc ++ [y]) (upd H4 D (.lst (acc ++ [y]))) → KK y H4) → (∀ H3, H3 D = some (.lst acc) → Pv (i + 1) acc H3 → K2 H3) →
      g x (wipe σ vs) H' fun σ2 H2 => wipe σ2 vs = wipe σ vs ∧ tt σ2 H2 fun b H3 => if b = true then te σ2 H3 KK else K2 H3)
    (hd : ∀ acc H, acc.length ≤ n → Pv n acc H → H D = some (.lst acc) → Qd H) :
    ∃ W : Nat → Nat → Hp → Prop, (∃ m, W 0 m (upd H1 D (.lst []))) ∧ ∀ i m H, W i m H →
      (J.stop i H ∧ Qd H) ∨ (J.go i H ∧ ∃ Nx : Hp → Prop, (∀ H', Nx H' → ∃ m', m' < m ∧ W (i + 1) m' H') ∧ ∀ x H', J.yld i H x H' → g x (wipe σ vs) H' fun σ2 H2 => wipe σ2 vs = wipe σ vs ∧ tt σ2 H2 fun b H3 =>
        if b = true then te σ2 H3 fun y H4 => ∃ acc, H4 D = some (.lst acc) ∧ acc.length < sizeLine ∧ Nx (upd H4 D (.lst (acc ++ [y]))) else Nx H3) := by
  refine ⟨fun i m H => m = n - i ∧ i ≤ n ∧ ∃ acc, acc.length ≤ i ∧ H D = some (.lst acc) ∧ Pv i acc H, ⟨n, rfl, Nat.zero_le _, [], Nat.le_refl _, upd_same, h0⟩, ?_⟩
  rintro i m H ⟨rfl, hi, acc, hl, hD, p⟩
  have u := hU i acc H p
  by_cases hlt : i < n
  · refine .inr ⟨S.go i H u hlt, fun H' => ∃ acc, acc.length ≤ i + 1 ∧ H' D = some (.lst acc) ∧ Pv (i + 1) acc H', fun H' p' => ⟨n - (i + 1), by omega, rfl, hlt, p'⟩, fun x H' y => ?_⟩
    obtain ⟨sm, ix⟩ := S.yld i x H H' u hlt y
    refine hs i x acc H H' _ _ hlt hl p hD sm ix (fun y H4 e q => ⟨acc, e, by omega, acc ++ [y], by simp; omega, upd_same, q⟩) (fun H3 e q => ⟨acc, by omega, e, q⟩)
  · have e : i = n := by omega
    subst e
    exact .inl ⟨S.stop H u, hd acc H hl p hD⟩
/-- a list comprehension without a test, of values told ahead -/
theorem lcF {J : It} {U : Hp → Prop} {n : Nat} {I : Nat → V → Hp → Prop} (S : Src J U n I) {g : TG} {te : TE} {vs : List Nat} {σ : St} {H1 : Hp} {D : Addr} {Qd : Hp → Prop} (ys : List V) (hn : n ≤ sizeLine) (hl : ys.length = n) (h1 : H1 D = none)
    (hU : ∀ H, Kp D H1 H → U H)
    (hs : ∀ i x y H H' (KK : VK), i < n → ys[i]? = some y → Kp D H1 H → Same H H' → I i x H' → (∀ H4, Same H' H4 → KK y H4) → g x (wipe σ vs) H' fun σ2 H2 => wipe σ2 vs = wipe σ vs ∧ te σ2 H2 KK)
    (hd : ∀ H, Kp D H1 H → H D = some (.lst ys) → Qd H) :
    ∃ W : Nat → Nat → Hp → Prop, (∃ m, W 0 m (upd H1 D (.lst []))) ∧ ∀ i m H, W i m H →
      (J.stop i H ∧ Qd H) ∨ (J.go i H ∧ ∃ Nx : Hp → Prop, (∀ H', Nx H' → ∃ m', m' < m ∧ W (i + 1) m' H') ∧ ∀ x H', J.yld i H x H' → g x (wipe σ vs) H' fun σ2 H2 => wipe σ2 vs = wipe σ vs ∧ tYes σ2 H2 fun b H3 =>
        if b = true then te σ2 H3 fun y H4 => ∃ acc, H4 D = some (.lst acc) ∧ acc.length < sizeLine ∧ Nx (upd H4 D (.lst (acc ++ [y]))) else Nx H3) := by
  refine lcS S (tt := tYes) (fun i acc H => acc = ys.take i ∧ Kp D H1 H) hn ⟨by simp, .mut D H1 _⟩ (fun i acc H p => hU H p.2) (fun i x acc H H' KK K2 hi hl' p hD sm ix k1 k2 => ?_) (fun acc H _ p hD => ?_)
  · have hy : ys[i]? = some ys[i] := List.getElem?_eq_getElem (by omega)
    exact hs i x ys[i] H H' KK hi hy p.2 sm ix fun H4 s4 => k1 _ _ (s4 _ _ (sm _ _ hD)) ⟨by rw [p.1, List.take_succ, hy]; rfl, (p.2.trans (sm.kp D)).trans ((s4.kp D).trans (.mut D H4 _))⟩
  · obtain ⟨rfl, k⟩ := p
    rw [← hl, List.take_length] at hD
    exact hd H k hD
end L2
set_option Elab.async false
set_option linter.all false
set_option maxRecDepth 100000
set_option maxHeartbeats 4000000
/-! tuple * 1 -/
namespace L2
open PySem PySem.Spec PyProof.Rows WS
theorem tuple_mul1 (l : Addr) (items : Array Value) (n : Nat) (dd : Option Addr) (sl : Array (Option Value)) (u : Tok) :
    Meets (Builtin.«tuple.__mul__» ⟨[.ref l, .int 1 u], []⟩) (fun _ R s => s.heap.get? l = some { cls := .type "tuple", dict := dd, data := .seq items n, slots := sl } ∧
      R (.ok (.ret (Value.ref l))) s) :=
  .of_wp fun prog w A R s h => by
    obtain ⟨hp, g, d, tk, os⟩ := s
    obtain ⟨hl, h⟩ := h
    have f1 := AutoSeq1.idx_int
    have c0 : (decide ((1 : Int) < -(2 ^ 63)) || decide ((1 : Int) ≥ 2 ^ 63)) = false := by decide
    have c1 : (items.isEmpty || (1 : Int) == 1) = true := by simp
    wp_walk using wpAny_loadPart' hl
    repeat (first
      | (refine wpAny_ite_false (decide_eq_false (by rw [c0]; exact Bool.false_ne_true)) ?_; wp_walk using wpAny_loadPart' hl)
      | (refine wpAny_ite_true (decide_eq_true c1) ?_; wp_walk using wpAny_loadPart' hl))
    exact ⟨_, rfl, h⟩
def rRepA (K : PySem.W.Frag) : R2 := fun x y H Q => (∃ l xs, x = .ref l ∧ y = .int 1 ∧ SqT K H l xs ∧ Q (.ref l) H) ∨ rRepT K x y H Q
section
variable {X : Cx}
theorem op_repA : OpR X (binaryOp .Mult) (rRepA X.K) := by
  intro pins s σ H x y v u Q I rx ry h
  rcases h with h | h
  · obtain ⟨l, xs, rfl, rfl, hT, q⟩ := h
    cases rx
    obtain ⟨t, rfl⟩ := ry
    obtain ⟨its, r, ⟨⟨cls, dd, data, sl⟩, ho, hc, n, hd⟩, hs⟩ := I.tuple hT
    simp only at hc hd
    subst hc hd
    refine wpAny_binaryOp_repeat_ref (T := "tuple") (U := "int") (by decide) ⟨_, ho, rfl⟩ (fun s' => typeIs_int s' 1 t) noFill_tuple_mul F.fills_int_mul F.slot_int_rmul repeat_tuple F.slot_int_index.lookup
      (call_meets F.slot_int_rmul (typeIs_int s 1 t) F.entry_int_rmul (F.args_int_rmul_2 _ _) (int_rmul_tuple 1 t l its.toArray n dd sl)
        ⟨ho, rfl, ⟨_, ho, rfl⟩, call_meets F.slot_tuple_mul ⟨_, ho, rfl⟩ F.entry_tuple_mul (F.args_tuple_mul_2 _ _) (tuple_mul1 l its.toArray n dd sl t) ⟨ho, ?_⟩⟩)
    exact ⟨.ref l, H, I, rfl, q⟩
  · exact op_repT pins s σ H x y v u Q I rx ry h
/-! within a comprehension the readings may not tell of X -/
variable {K : PySem.W.Frag} {pos : Pos}
theorem pg_tupK {es : List Expr} {k : Nat} {t : TGs} {n : Nat} (hc : X.calm = true) (h : PGs X es t)
    (hn : (assignEach es X.env).length = n := by rfl) (hst : (assignEach es X.env).findIdx? (·.1) = none := by rfl) (hK : X.K = K := by rfl) : PG X (.Tuple es k pos) (gTup K n t) := by
  subst hK
  exact pg_tup hc h hn hst
theorem pe_fldK {e : Expr} {f : Str} {ta : TE} (he : PE X e ta) (hb : attributeBase e f X.env (eval e X.env) = eval e X.env) (hK : X.K = K := by rfl) : PE X (.Attribute e f pos) (tFld K ta f) := by
  subst hK
  exact pe_fld he hb
theorem ix_listK (hK : X.K = K := by rfl) : IxR X (rIxL K) := by
  subst hK
  exact ix_list
theorem ix_tupK (hK : X.K = K := by rfl) : IxR X (rIxT K) := by
  subst hK
  exact ix_tup
theorem op_notIn_seqK (hK : X.K = K := by rfl) : OpR X (compareOp .NotIn) (rIn K true) := by
  subst hK
  exact op_notIn_seq
end
end L2
set_option Elab.async false
set_option linter.all false
set_option maxRecDepth 100000
set_option maxHeartbeats 4000000
/-! enumerate(any) -/
namespace L2
open PySem PySem.Spec PyProof.Rows WS
theorem meets_enumerate_new1 {v : Value} {o : Obj} {H : Heap → Prop} (B : Begins v o H) :
    Meets (Builtin.«enumerate.__new__» ⟨[.type "enumerate", v], []⟩) (fun _ R s => H s.heap ∧
      R (.ok (.ret (.ref (s.heap.push o).objs.size))) { s with heap := (s.heap.push o).push { cls := .type "enumerate", data := .fields #[.none, .bool false, .ref s.heap.objs.size, rawInt 0, .none, .none] } }) :=
  .of_wp fun prog w A R s h => by
    obtain ⟨hp, g, d, tk, os⟩ := s; obtain ⟨h1, h⟩ := h
    have hsub := sub_enumerate
    have q1 : ∀ {A' : Around} {E : Value → Shared → Prop} {Q : Value → Shared → Prop}, Q (.ref hp.objs.size) ⟨hp.push o, g, d, tk, os⟩ → wpAny (model prog w) A' (pyIter v) Q E ⟨hp, g, d, tk, os⟩ :=
      fun q => B.iter prog w _ _ ⟨hp, g, d, tk, os⟩ _ h1 q
    wp_walk using q1
    first
      | exact ⟨_, rfl, h⟩
      | (refine wpAny_stack_any fun st => wpAny_pure ?_
         split
         · rename_i c _ _ _ _ _
           cases (c == Value.type "enumerate")
           · wp_walk using q1
             exact ⟨_, rfl, h⟩
           · wp_walk using q1
             exact ⟨_, rfl, h⟩
         · wp_walk using q1
           exact ⟨_, rfl, h⟩)
section
variable {prog : Program} {w : World} {A : Around} {E : Value → Shared → Prop} {s : Shared}
theorem enum_begins1 {v : Value} {o : Obj} {H : Heap → Prop} {Q : Value → Shared → Prop} (B : Begins v o H) (h1 : H s.heap)
    (h : ∀ h', IsEnum h' (s.heap.objs.size + 1) s.heap.objs.size 0 .none → h'.get? s.heap.objs.size = some o → h'.objs.size = s.heap.objs.size + 2 →
      (∀ b o, s.heap.get? b = some o → h'.get? b = some o) → Q (.ref (s.heap.objs.size + 1)) { s with heap := h' }) :
    wpAny (model prog w) A (call (.type "enumerate") [v]) Q E s := by
  refine callType_new F.called_enumerate (by decide) (F.typeCall_enumerate_1 _) (F.newCall_enumerate_1 _) (fun obj => F.args_object_init_2 obj _) F.entry_enumerate_new
    (meets_enumerate_new1 B) ⟨h1, ?_⟩
  have hz : (s.heap.push o).objs.size = s.heap.objs.size + 1 := Heap.size_push ..
  show _ ∧ _
  rw [hz]
  have he : IsEnum ((s.heap.push o).push { cls := .type "enumerate", data := .fields #[.none, .bool false, .ref s.heap.objs.size, rawInt 0, .none, .none] }) (s.heap.objs.size + 1) s.heap.objs.size 0 .none := by
    have := Heap.get?_push_size (s.heap.push o) (o := { cls := .type "enumerate", data := .fields #[.none, .bool false, .ref s.heap.objs.size, rawInt 0, .none, .none] }) rfl
    rw [hz] at this; exact this
  refine ⟨⟨_, he, rfl⟩, h _ he (Heap.get?_push_of_some _ (Heap.get?_push_size _ B.free)) (by rw [Heap.size_push, hz]) fun b o x => Heap.get?_push_of_some _ (Heap.get?_push_of_some _ x)⟩
end
def ItEB (K : PySem.W.Frag) (c1 : ZC) : It :=
  ⟨fun i H => ∃ (xs : List V) (x : V), c1.has K H xs ∧ xs[i]? = some x,
    fun i H v H' => ∃ T x, v = .ref T ∧ H T = none ∧ H' = upd H T (.tup [.int (i : Nat), x]) ∧ ∀ xs, c1.has K H xs → xs[i]? = some x,
    fun i H => ∃ xs : List V, c1.has K H xs ∧ i = xs.length⟩
theorem turn_enumB {P : Program} {w : World} {K : PySem.W.Frag} {elts : List Expr} {kk : Nat} {tpos : Pos} {c1 : ZC} {e it : Addr} (n1 : it ∉ c1.un) (hef : e ∉ it :: c1.un) :
    Turn P w K (.Tuple elts kk tpos) (ItEB K c1) [e, it] e (fun i h => (∃ old, IsEnum h e it ((i : Nat) : Int) old) ∧ c1.at_ it i h) where
  mem := by simp
  obj := fun i h st b hb => by
    obtain ⟨⟨old, he⟩, h1⟩ := st
    obtain ⟨o1, v1, e1, d1⟩ := ZC.at_obj (c := c1) (I := it) (i := i) (h := h) h1
    have e' : b = e ∨ b = it := by simpa using hb
    rcases e' with z | z
    · rw [z]; exact ⟨_, he, fun v q => nomatch q⟩
    · rw [z]; exact ⟨o1, e1, fun v q => by rw [d1] at q; cases q⟩
  keep := fun i h h' st k => by
    obtain ⟨⟨old, he⟩, h1⟩ := st
    exact ⟨⟨old, k e (by simp) _ he⟩, ZC.at_keep (c := c1) (I := it) (i := i) (h := h) (h' := h') h1 fun o q => k it (by simp) o q⟩
  item := by
    intro X hP hw hK hc i pins s σ H E I hf st hg
    subst hP hw hK
    obtain ⟨⟨old, he⟩, h1⟩ := st
    obtain ⟨xs, x, hqx, hx⟩ := hg
    obtain ⟨P1, S1, D1, s1, f1, g1⟩ := ZC.draws I hqx n1 h1 (A := X.A.in1) (I.ok.hd hc)
    have hlt : i < xs.length := (List.getElem?_eq_some_iff.mp hx).1
    have hne : e ≠ it := fun q => hef (by rw [q]; exact List.mem_cons_self)
    have hel : e < s.heap.objs.size := Heap.lt_size he
    have hil : it < s.heap.objs.size := by obtain ⟨_, _, q, _⟩ := ZC.at_obj (c := c1) (I := it) (i := i) (h := s.heap) h1; exact Heap.lt_size q
    refine wpAny_pyNext_enum_itemD D1 he s1 hlt hne hef fun u h' tk hP ho hs' hT hsz hk => ?_
    obtain ⟨x', hx', ru⟩ := g1 _ _ hP
    rw [hx] at hx'
    cases hx'
    refine ⟨_, rfl, wpAny_letOwnedTupleGo_enum (s := { s with heap := h', toks := tk + 1 }) ho fun h'' he' sb => ?_⟩
    have hT2 : h''.get? s.heap.objs.size = some { cls := .type "tuple", data := .seq #[.int i tk, u] } := (sb.2 _ (Nat.ne_of_gt hel)).trans hT
    have new : ObjOk X.prog X.w (upd H s.heap.objs.size (.tup [.int (i : Nat), x])) h'' s.heap.objs.size (.tup [.int (i : Nat), x]) :=
      ⟨by show 2 ≤ sizeLine; decide, [.int i tk, u], .cons ⟨_, rfl⟩ (.cons ru .nil), ⟨_, hT2, rfl, _, rfl⟩⟩
    have I1 : Inv X pins σ (upd H s.heap.objs.size (.tup [.int (i : Nat), x])) { s with heap := h'', toks := tk + 1 } :=
      I.turnedNew (ch := [e, it]) (fun b ob hb q => (sb.2 b (fun z => hb (by simp [z]))).trans (hk b ob (fun z => hb (by simp [z])) (fun z => hb (by simp [z])) q)) hf (Nat.le_refl _) new
    refine ⟨.ref s.heap.objs.size, _, I1, rfl, ⟨_, x, rfl, I.hok.fresh (Nat.le_refl _), rfl, fun ys hy => by rw [ZC.inj I hy hqx]; exact hx⟩, ⟨⟨u, ?_⟩, ?_⟩, fun b hb => ?_⟩
    · have e1 : ((i + 1 : Nat) : Int) = (i : Int) + 1 := by omega
      rw [e1]; exact he'
    · exact ZC.at_keep (c := c1) (I := it) (i := i + 1) (h := h') (h' := h'') (f1 _ _ hs') fun o q => (sb.2 it (Ne.symm hne)).trans q
    · have hb' : b < s.heap.objs.size := by
        have e' : b = e ∨ b = it := by simpa using hb
        rcases e' with z | z
        · rw [z]; exact hel
        · rw [z]; exact hil
      rw [upd_ne (Nat.ne_of_lt hb')]
      exact (hf b hb).1
  done := by
    intro X hP hw hK hc i pins s σ H E I hf st hg
    subst hP hw hK
    obtain ⟨⟨old, he⟩, h1⟩ := st
    obtain ⟨xs, hqx, rfl⟩ := hg
    obtain ⟨P1, S1, D1, s1, f1, g1⟩ := ZC.draws I hqx n1 h1 (A := X.A.in1) (I.ok.hd hc)
    obtain ⟨f0, f1, f2, f3, f4, f5⟩ := hf it (by simp)
    exact wpAny_pyNext_enum_endD D1 he s1 fun h' eb => ⟨rfl, I.turned (t' := s.toks) (fun b o hb q => eb b o hb q) f0 f1 f3 f4 f5⟩
  self := fun A i s Q E st h => let ⟨⟨_, he⟩, _⟩ := st; wpAny_pyIter_enum he h
def iEnumB (K : PySem.W.Frag) (ta : TA) : TI := fun σ H R => ta σ H fun vs H1 => ∃ (c : ZC) (xs : List V), vs = [c.val] ∧ c.has K H1 xs ∧ R (ItEB K c) H1
theorem pi_enumB {X : Cx} {e : Expr} {ta : TA} {p pos tpos : Pos} {elts : List Expr} {kk : Nat} (hg : Gl X "enumerate") (hm : X.mg "enumerate" = none) (ha : PA X [e] ta) (hs : starEach [e] X.env = [(false, eval e X.env)] := by rfl) :
    PI X (.Tuple elts kk tpos) (.Call (.Name "enumerate" p) [e] [] pos) (iEnumB X.K ta) := by
  refine ⟨fun pins s σ H R I h => ?_⟩
  refine Call_ (ld_blt I hg hm boot_enumerate (PyProof.Rows.callWith_type1 (thn (ha.run pos pins s σ H _ I h) fun us s1 ⟨vs, H1, I1, r1, q1⟩ => ?_) hs rfl))
  obtain ⟨c, xs, ex, hq, q⟩ := q1
  subst ex
  cases r1 with
  | cons r rr =>
    cases rr
    obtain ⟨o1, G1, B1, g1, b1, a1⟩ := ZC.begins I1 hq r
    refine enum_begins1 B1 g1 fun h' he hit hsz hk => wpAny_pyIter_enum he ?_
    have I2 : Inv X pins σ H1 { s1 with heap := h' } := I1.kept (t' := s1.toks) hk
    have n1 : s1.heap.objs.size ∉ c.un := fun h => Nat.lt_irrefl _ (b1 _ h)
    have n2 : s1.heap.objs.size + 1 ∉ s1.heap.objs.size :: c.un := fun h => by
      rcases List.mem_cons.mp h with z | z
      · exact Nat.succ_ne_self _ z
      · exact Nat.lt_irrefl _ (Nat.lt_trans (Nat.lt_succ_self _) (b1 _ z))
    refine ⟨s1.heap.objs.size + 1, [s1.heap.objs.size + 1, s1.heap.objs.size], _, _, H1, rfl, I2, turn_enumB n1 n2, ⟨⟨.none, he⟩, a1 _ _ hit⟩, fun b hb => ?_, q⟩
    have e' : b = s1.heap.objs.size + 1 ∨ b = s1.heap.objs.size := by simpa using hb
    have hle : s1.heap.objs.size ≤ b := by
      rcases e' with z | z
      · rw [z]; exact Nat.le_add_right _ _
      · rw [z]; exact Nat.le_refl _
    exact I1.fpOk hle (I1.hok.fresh hle)
theorem src_enum {K : PySem.W.Frag} {c : ZC} {xs : List V} :
    Src (ItEB K c) (fun H => c.has K H xs) xs.length (fun i v H => ∃ T x, v = .ref T ∧ H T = some (.tup [.int (i : Nat), x]) ∧ xs[i]? = some x) where
  go := fun i H u h => ⟨xs, xs[i], u, List.getElem?_eq_getElem h⟩
  yld := fun i x H H' u h y => by
    obtain ⟨T, x', rfl, hT, rfl, f1⟩ := y
    exact ⟨Same.new hT, T, x', rfl, upd_same, f1 xs u⟩
  stop := fun H u => ⟨xs, u, rfl⟩
end L2
namespace L2
open PySem PySem.Spec PyProof.Rows WS
theorem forS {J : It} {U : Hp → Prop} {n : Nat} {I : Nat → V → Hp → Prop} (S : Src J U n I) {g : TG} {tb : TS} {D : Ends} {σ : St} {H : Hp} (Pv : Nat → St → Hp → Prop) (h0 : Pv 0 σ H) (hU : ∀ i σ H, Pv i σ H → U H)
    (hs : ∀ i x σ H H', i < n → Pv i σ H → Same H H' → I i x H' → g x σ H' fun σ2 H2 => tb { D with nx := Pv (i + 1), ct := Pv (i + 1), bk := D.nx } σ2 H2) (hd : ∀ σ H, Pv n σ H → D.nx σ H) :
    ∃ W : Nat → Nat → St → Hp → Prop, (∃ m, W 0 m σ H) ∧ ∀ i m σ H, W i m σ H →
      (J.stop i H ∧ D.nx σ H) ∨ (J.go i H ∧ ∃ N : St → Hp → Prop, (∀ σ' H', N σ' H' → ∃ m', m' < m ∧ W (i + 1) m' σ' H') ∧ ∀ x H', J.yld i H x H' → g x σ H' fun σ2 H2 => tb { D with nx := N, ct := N, bk := D.nx } σ2 H2) := by
  refine ⟨fun i m σ H => m = n - i ∧ i ≤ n ∧ Pv i σ H, ⟨n, rfl, Nat.zero_le _, h0⟩, ?_⟩
  rintro i m σ H ⟨rfl, hi, p⟩
  have u := hU i σ H p
  by_cases hlt : i < n
  · refine .inr ⟨S.go i H u hlt, Pv (i + 1), fun σ' H' p' => ⟨n - (i + 1), by omega, rfl, hlt, p'⟩, fun x H' y => ?_⟩
    obtain ⟨sm, ix⟩ := S.yld i x H H' u hlt y
    exact hs i x σ H H' hlt p sm ix
  · have e : i = n := by omega
    subst e
    exact .inl ⟨S.stop H u, hd σ H p⟩
end L2
set_option Elab.async false
set_option linter.all false
set_option maxRecDepth 100000
set_option maxHeartbeats 4000000
/-! The walks: forms. -/
namespace L2
theorem Room.u65 {k : Nat} {A : PySem.Around} (r : Room k A) : A.units + 65 < PySem.cLine := by have := r.un; omega
end L2
namespace WS
open PySem L2
section
variable {P : Program} {w : World} {K : PySem.W.Frag} {mg : Str → Option Value} {base : Heap}
/-! ### head_of_form -/
def hdV : Form → V
  | .any => .non
  | .num => .str "num"
  | .text => .str "text"
  | .deed _ _ => .str "deed"
  | .box _ => .str "box"
def sp_head : Sp := fun vs H Q _ => ∃ v F, vs = [v] ∧ Pd H v (Form.d F) ∧ F.height ≤ 60 ∧ Q (hdV F) H
theorem sc_head_of_form : FnScope ["form"] ["form"] (defScope s_head_of_form) := ⟨rfl, rfl, rfl, by decide +kernel, rfl, by decide +kernel, by decide +kernel⟩
theorem ok_head_of_form (T : Tx w K mg) (k : Nat) : Held P w K mg base (k + 1) (He.fAd K ("head_of_form", none)) sp_head := by
  refine FunD.held T.f_head_of_form sc_head_of_form (fun _ _ _ _ _ _ us hl => match us, hl with | [_], _ => rfl) (fun vs H Q E h => ?len) (fun fd cdv A outer s H vs Q E hr h => ?body)
  case len => obtain ⟨v, F, rfl, _⟩ := h; rfl
  case body =>
    obtain ⟨v, F, rfl, hF, hh, q⟩ := h
    refine ⟨_, (pss_cons (ps_if (pt_cmpR (op_eqD hr.units) (pv 0) (pe_gs T.s_ANY_forms) (nomark _)) (pss_one (ps_ret pe_non)) pss_nil)
      (pss_one (ps_ret (pe_ifExp (pt_val (pe_callB call_isN (by rfl) T.b_isinstance (by decide +kernel) (pa_cons (pv 0) (pa_cons (pe_bltn (v := .ty "str") (by rfl) T.b_str (by decide +kernel) rfl) pa_nil)))) (pv 0) (pe_ix ix_tup (pv 0) pe_int (fun _ _ => rfl)))))), ?_⟩
    refine ⟨_, rfl, _, _, hF.dp, (fany _).dp, shaped_form F hh, shaped_form .any (by decide), _, rfl, ?_⟩
    rw [eqv_form]
    rcases fd_cases F hF with ⟨rfl, rfl⟩ | ⟨rfl, rfl⟩ | ⟨rfl, rfl⟩ | ⟨a, b, p, x, y, rfl, rfl, hp, hx, hy⟩ | ⟨a, p, x, rfl, rfl, hp, hx⟩
    · exact iteT q
    · exact iteF ⟨_, rfl, _, _, _, _, rfl, .str _, kss, _, rfl, iteT ⟨_, rfl, q⟩⟩
    · exact iteF ⟨_, rfl, _, _, _, _, rfl, .str _, kss, _, rfl, iteT ⟨_, rfl, q⟩⟩
    · exact iteF ⟨_, rfl, _, _, _, _, rfl, .tup hp, kts, _, rfl, iteF ⟨_, rfl, _, _, _, _, rfl, rfl, st hp, rfl, q⟩⟩
    · exact iteF ⟨_, rfl, _, _, _, _, rfl, .tup hp, kts, _, rfl, iteF ⟨_, rfl, _, _, _, _, rfl, rfl, st hp, rfl, q⟩⟩
end
end WS
set_option Elab.async false
set_option linter.all false
set_option maxRecDepth 100000
set_option maxHeartbeats 4000000
namespace WS
open PySem L2
theorem itD {c A B : Prop} [Decidable c] (h : c) (a : A) : if decide c = true then A else B := by
  rw [decide_eq_true h]
  exact iteT a
theorem itDn {c A B : Prop} [Decidable c] (h : ¬ c) (b : B) : if decide c = true then A else B := by
  rw [decide_eq_false h]
  exact iteF b
theorem itN {c A B : Prop} [Decidable c] (h : c) (b : B) : if (!decide c) = true then A else B := by
  rw [decide_eq_true h]
  exact iteF b
theorem itNn {c A B : Prop} [Decidable c] (h : ¬ c) (a : A) : if (!decide c) = true then A else B := by
  rw [decide_eq_false h]
  exact iteT a
section
variable {P : Program} {w : World} {K : PySem.W.Frag} {mg : Str → Option Value} {base : Heap}
theorem abc_letters : ∀ c : Nat, 97 ≤ c ∧ c ≤ 122 → c ∈ ("abcdefghijklmnopqrstuvwxyz" : Str).cps.toList := by
  intro c h
  have e : ("abcdefghijklmnopqrstuvwxyz" : Str).cps.toList = (List.range 26).map (· + 97) := by decide +kernel
  rw [e, List.mem_map]
  exact ⟨c - 97, List.mem_range.mpr (by omega), by omega⟩
theorem small_sz {n : Nat} (h : n ≤ 1000000) : n ≤ sizeLine := Nat.le_trans h (by decide)
/-- the comprehension over a text's letters -/
theorem len_size (x : Str) : x.length = x.cps.size := rfl
def sp_is_name : Sp := fun vs H Q _ => ∃ x, vs = [.str x] ∧ IsName x ∧ ∀ H', Same H H' → Q (.bl true) H'
theorem sc_is_name : FnScope ["thing", "sign"] ["thing"] (defScope s_is_name) := ⟨rfl, rfl, rfl, by decide +kernel, rfl, by decide +kernel, by decide +kernel⟩
theorem ok_is_name (T : Tx w K mg) (k : Nat) : Held P w K mg base (k + 1) (He.fAd K ("is_name", none)) sp_is_name := by
  refine FunD.held T.f_is_name sc_is_name (fun _ _ _ _ _ _ us hl => match us, hl with | [_], _ => rfl) (fun vs H Q E h => ?len) (fun fd cdv A outer s H vs Q E hr h => ?body)
  case len => obtain ⟨x, rfl, _⟩ := h; rfl
  case body =>
    obtain ⟨x, rfl, hx, q⟩ := h
    refine ⟨_, (pss_cons (ps_if (PW.pt (pw_or (pt_not (pt_val (pe_callB call_isN (by rfl) T.b_isinstance (by decide +kernel) (pa_cons (pv 0) (pa_cons (pe_bltn (v := .ty "str") (by rfl) T.b_str (by decide +kernel) rfl) pa_nil))))) (pw_or1 (pt_not (pt_chain op_le op_le pe_int (pe_callB call_len_str (by rfl) T.b_len PySem.boot_len (pa_cons (pv 0) pa_nil)) (pe_gi T.i_MOST_LETTERS)))))) (pss_one (ps_ret pe_bl)) pss_nil)
      (pss_one (ps_ret (pe_callB (cr_all rfl) (by rfl) T.b_all (by decide +kernel) (pa_cons (pe_lc (own := [("sign", 1)]) rfl sc_is_name.nd (pi_str (pv 0)) (blkOk_by (own := [("sign", 1)]) (N := ["thing", "sign"]) (sc := defScope s_is_name) (by decide +kernel)) (fun _ _ _ _ _ => (pg_name (i := 1) sc_is_name.nd rfl (Or.inl rfl))) (fun _ _ _ _ _ => pts_nil) (fun _ _ _ _ _ => (pe_cmpR op_in_sign (pv 1) (pe_gs T.s_LETTERS_forms) (by rfl)))) pa_nil))))), ?_⟩
    have h1 := hx.pos
    have h2 := hx.le
    refine ⟨_, rfl, _, _, _, _, rfl, .str _, kss, _, rfl, iteF ⟨_, rfl, _, rfl, small_sz (by omega), _, _, rfl, rfl, _, rfl, itD (by omega) ⟨_, _, rfl, rfl, _, rfl, ?_⟩⟩⟩
    refine (show (if (!decide _) = true then _ else _) from itN (by omega) ?_)
    refine ⟨_, rfl, _, rfl, fun D hD => lcF src_str (List.replicate x.length (.bl true)) (small_sz (by rw [← len_size]; omega)) (by simp [len_size]) hD (fun _ _ => trivial) (fun i y z H' H2 KK hi hz kp sm hI kk => ?_) (fun H' kp e => ?_)⟩
    · obtain ⟨c, hc, rfl⟩ := hI
      refine ⟨rfl, _, rfl, _, _, rfl, rfl, ?_⟩
      have hm := abc_letters c (hx.abc c (by rw [← Array.getElem?_toList] at hc; exact List.mem_of_getElem? hc))
      rw [decide_eq_true hm]
      have := List.mem_of_getElem? hz
      rw [List.mem_replicate] at this
      rw [this.2] at kk
      exact kk _ (Same.refl _)
    · refine ⟨D, List.replicate x.length true, rfl, sl (by rw [List.map_replicate]; exact e), ?_⟩
      rw [show (List.replicate x.length true).all id = true by simp]
      exact q _ fun b o hb => kp b o (ne_of_none hb hD) hb
end
end WS
set_option Elab.async false
set_option linter.all false
set_option maxRecDepth 100000
set_option maxHeartbeats 4000000
namespace WS
open PySem L2
section
variable {P : Program} {w : World} {K : PySem.W.Frag} {mg : Str → Option Value} {base : Heap}
theorem dplain (T : Tx w K mg) (H : Hp) : Dp K H (.ref (He.ga K "PLAIN")) (.tuple [.str "any", .str "num", .str "text"]) := .tup (T.v_PLAIN H) (.cons (.str _) (.cons (.str _) (.cons (.str _) .nil)))
theorem wd_deed (T : Tx w K mg) : ∃ u, PySem.W.nsIn K (He.ga K "WIDTHS") "deed" = some (some u) ∧ RelV (.int 3) u := T.v_WIDTHS (q := ("deed", .int 3)) (by simp [v_WIDTHS])
theorem wd_box (T : Tx w K mg) : ∃ u, PySem.W.nsIn K (He.ga K "WIDTHS") "box" = some (some u) ∧ RelV (.int 2) u := T.v_WIDTHS (q := ("box", .int 2)) (by simp [v_WIDTHS])
theorem kd_deed (T : Tx w K mg) : KDct K w (He.ga K "WIDTHS") "deed" (.int 3) := by
  obtain ⟨es, n, D⟩ := T.t_WIDTHS
  obtain ⟨u, e, r⟩ := wd_deed T
  exact ⟨es, n, u, D.at_, D.lit, e, r⟩
theorem kd_box (T : Tx w K mg) : KDct K w (He.ga K "WIDTHS") "box" (.int 2) := by
  obtain ⟨es, n, D⟩ := T.t_WIDTHS
  obtain ⟨u, e, r⟩ := wd_box T
  exact ⟨es, n, u, D.at_, D.lit, e, r⟩
theorem eqv_form_nil (F : Form) : PyData.eqv F.d (.tuple []) = false := by
  cases F <;> rfl
theorem eqv_int (i j : Int) : PyData.eqv (.int i) (.int j) = decide (i = j) := by
  rw [Bool.eq_iff_iff]
  simp [PyData.eqv]
theorem eqv_str (i j : Str) : PyData.eqv (.str i) (.str j) = decide (i = j) := by
  rw [← str_beq]
  rfl
theorem sh3 : SeqAt.shaped (.int 3) = true := by decide +kernel
theorem sh2 : SeqAt.shaped (.int 2) = true := by decide +kernel
/-! ### is_form_to -/
def sp_is_form_to (n : Nat) : Sp := fun vs H Q _ => ∃ v F h, vs = [v, .int h] ∧ Pd H v (Form.d F) ∧ F.height < n ∧ (n : Int) ≤ h + 1 ∧ n ≤ 60 ∧ ∀ H', Same H H' → Q (.bl true) H'
theorem sc_is_form_to : FnScope ["thing", "high", "word", "parts", "part"] ["thing", "high"] (defScope s_is_form_to) := ⟨rfl, rfl, rfl, by decide +kernel, rfl, by decide +kernel, by decide +kernel⟩
theorem ok_is_form_to (T : Tx w K mg) (k : Nat) : ∀ n, Held P w K mg base (k + n + 1) (He.fAd K ("is_form_to", none)) (sp_is_form_to n)
  | 0 => by
    refine FunD.held T.f_is_form_to sc_is_form_to (fun _ _ _ _ _ _ us hl => match us, hl with | [_, _], _ => rfl) (fun vs H Q E h => ?len) (fun fd cdv A outer s H vs Q E hr h => ?body)
    case len => obtain ⟨v, F, h, rfl, _⟩ := h; rfl
    case body => obtain ⟨v, F, h, rfl, _, hF, _⟩ := h; exact absurd hF (Nat.not_lt_zero _)
  | n + 1 => by
    have G_is_form_to := ok_is_form_to T k n
    obtain ⟨es, m, hkd_WIDTHS⟩ := T.t_WIDTHS
    refine FunD.held T.f_is_form_to sc_is_form_to (fun _ _ _ _ _ _ us hl => match us, hl with | [_, _], _ => rfl) (fun vs H Q E h => ?len) (fun fd cdv A outer s H vs Q E hr h => ?body)
    case len => obtain ⟨v, F, h, rfl, _⟩ := h; rfl
    case body =>
      obtain ⟨v, F, i, rfl, hF, hh, hi, hn, q⟩ := h
      have hu65 := Room.u65 hr
      refine ⟨_, (pss_cons (ps_if (pt_val (pe_callB call_isN (by rfl) T.b_isinstance (by decide +kernel) (pa_cons (pv 0) (pa_cons (pe_bltn (v := .ty "str") (by rfl) T.b_str (by decide +kernel) rfl) pa_nil)))) (pss_one (ps_ret (pe_cmpR (op_inDT hu65) (pv 0) (pe_gr T.g_PLAIN) (by rfl)))) pss_nil)
      (pss_cons (ps_if (PW.pt (pw_or (pt_not (pt_val (pe_callB call_isN (by rfl) T.b_isinstance (by decide +kernel) (pa_cons (pv 0) (pa_cons (pe_bltn (v := .ty "tuple") (by rfl) T.b_tuple (by decide +kernel) rfl) pa_nil))))) (pw_or (pt_cmpR (op_eqD hr.units) (pv 0) (pe_tup pa_nil) (nomark _)) (pw_or1 (pt_cmpR op_eq (pv 1) pe_int (nomark _)))))) (pss_one (ps_ret pe_bl)) pss_nil)
      (pss_cons (ps_asg (pv 0) (pg_star rfl (pgs_cons (pg_name (i := 2) sc_is_form_to.nd rfl (Or.inl rfl)) (pgs_cons (pg_name (i := 3) sc_is_form_to.nd rfl (Or.inl rfl)) pgs_nil))))
      (pss_cons (ps_if (PW.pt (pw_or (pt_not (pt_val (pe_callB call_isN (by rfl) T.b_isinstance (by decide +kernel) (pa_cons (pv 2) (pa_cons (pe_bltn (v := .ty "str") (by rfl) T.b_str (by decide +kernel) rfl) pa_nil))))) (pw_or (pt_cmpR (op_notIn_kd hkd_WIDTHS) (pv 2) (pe_gr T.g_WIDTHS) (by rfl)) (pw_or1 (pt_cmpR (op_neD hr.units) (pe_callB call_len_seq (by rfl) T.b_len PySem.boot_len (pa_cons (pv 0) pa_nil)) (pe_ix ix_kdict (pe_gr T.g_WIDTHS) (pv 2) (fun _ _ => rfl)) (nomark _)))))) (pss_one (ps_ret pe_bl)) pss_nil)
      (pss_one (ps_ret (pe_callB (cr_all rfl) (by rfl) T.b_all (by decide +kernel) (pa_cons (pe_lc (own := [("part", 4)]) rfl sc_is_form_to.nd (pi_list (pv 3)) (blkOk_by (own := [("part", 4)]) (N := ["thing", "high", "word", "parts", "part"]) (sc := defScope s_is_form_to) (by decide +kernel)) (fun _ _ _ _ _ => (pg_name (i := 4) sc_is_form_to.nd rfl (Or.inl rfl))) (fun _ _ _ _ _ => pts_nil) (fun _ _ _ _ _ => (pe_cl G_is_form_to hr T.g_is_form_to (pa_cons (pv 4) (pa_cons (pe_op op_sub (pv 1) pe_int) pa_nil))))) pa_nil)))))))), ?_⟩
      have hps := shaped_form F (by omega)
      rcases fd_cases F hF with ⟨rfl, rfl⟩ | ⟨rfl, rfl⟩ | ⟨rfl, rfl⟩ | ⟨a, b, p, x, y, rfl, rfl, hp, hx, hy⟩ | ⟨a, p, x, rfl, rfl, hp, hx⟩
      · exact ⟨_, rfl, _, _, _, _, rfl, .str _, kss, _, rfl, iteT ⟨_, rfl, _, _, hF.dp, dplain T _, by decide +kernel, by decide +kernel, q _ (Same.refl _)⟩⟩
      · exact ⟨_, rfl, _, _, _, _, rfl, .str _, kss, _, rfl, iteT ⟨_, rfl, _, _, hF.dp, dplain T _, by decide +kernel, by decide +kernel, q _ (Same.refl _)⟩⟩
      · exact ⟨_, rfl, _, _, _, _, rfl, .str _, kss, _, rfl, iteT ⟨_, rfl, _, _, hF.dp, dplain T _, by decide +kernel, by decide +kernel, q _ (Same.refl _)⟩⟩
      · have ha : 1 + max a.height b.height < n + 1 := hh
        refine ⟨_, rfl, _, _, _, _, rfl, .tup hp, kts, _, rfl, iteF ⟨_, rfl, _, _, _, _, rfl, .tup hp, ktt, _, rfl, iteF ⟨_, rfl, Nat.zero_le _, fun t ht => ?_⟩⟩⟩
        have s1 : Same H (upd H t (.tup [])) := Same.new ht
        refine ⟨_, _, (hF.same s1).dp, .tup (st upd_same) .nil, hps, by decide +kernel, _, rfl, ?_⟩
        rw [eqv_form_nil]
        refine iteF ⟨_, rfl, rfl, _, rfl, itDn (by intro e; injection e; omega) ⟨_, rfl, p, _, _, rfl, st (s1 _ _ hp), small_sz (by simp), fun l hl => ?_⟩⟩
        have s2 : Same H (upd (upd H t (.tup [])) l (.lst [x, y])) := s1.trans (Same.new hl)
        refine ⟨_, _, rfl, _, _, rfl, rfl, ?_⟩
        obtain ⟨u, eu, ru⟩ := wd_deed T
        refine ⟨_, rfl, _, _, _, _, rfl, .str _, kss, _, rfl, iteF ⟨_, rfl, _, _, rfl, rfl, eu, _, rfl, iteF ⟨_, rfl, p, _, rfl, .inr (st (s2 _ _ hp)), _, rfl, _, _, _, rfl, rfl, kd_deed T, _, _, .int _, .int _, sh3, sh3, _, rfl, ?_⟩⟩⟩
        refine (show (if (!PyData.eqv (.int _) (.int _)) = true then _ else _) from ?_)
        rw [eqv_int]
        refine itN (by rfl) ?_
        refine ⟨_, rfl, _, rfl, ⟨_, sl upd_same⟩, fun D hD => lcF src_list (List.replicate 2 (.bl true)) (small_sz (by simp)) (by simp) hD (fun H' kp => sl (kp _ _ (ne_of_none upd_same hD) upd_same)) (fun j z o H' H2 KK hj hz kp sm hI kk => ?_) (fun H' kp e => ?_)⟩
        · refine ⟨rfl, _, rfl, _, rfl, _, _, rfl, rfl, ?_⟩
          have s3 : Same H H2 := fun b u e => sm _ _ (kp _ _ (ne_of_none (s2 _ _ e) hD) (s2 _ _ e))
          have hj2 : j = 0 ∨ j = 1 := by
            have : j < 2 := hj
            omega
          rcases hj2 with rfl | rfl
          · cases hI
            cases hz
            exact ⟨_, a, _, rfl, hx.same s3, by omega, by omega, by omega, kk⟩
          · cases hI
            cases hz
            exact ⟨_, b, _, rfl, hy.same s3, by omega, by omega, by omega, kk⟩
        · exact ⟨D, [true, true], rfl, sl e, q _ fun b u e => kp _ _ (ne_of_none (s2 _ _ e) hD) (s2 _ _ e)⟩
      · have ha : 1 + a.height < n + 1 := hh
        refine ⟨_, rfl, _, _, _, _, rfl, .tup hp, kts, _, rfl, iteF ⟨_, rfl, _, _, _, _, rfl, .tup hp, ktt, _, rfl, iteF ⟨_, rfl, Nat.zero_le _, fun t ht => ?_⟩⟩⟩
        have s1 : Same H (upd H t (.tup [])) := Same.new ht
        refine ⟨_, _, (hF.same s1).dp, .tup (st upd_same) .nil, hps, by decide +kernel, _, rfl, ?_⟩
        rw [eqv_form_nil]
        refine iteF ⟨_, rfl, rfl, _, rfl, itDn (by intro e; injection e; omega) ⟨_, rfl, p, _, _, rfl, st (s1 _ _ hp), small_sz (by simp), fun l hl => ?_⟩⟩
        have s2 : Same H (upd (upd H t (.tup [])) l (.lst [x])) := s1.trans (Same.new hl)
        refine ⟨_, _, rfl, _, _, rfl, rfl, ?_⟩
        obtain ⟨u, eu, ru⟩ := wd_box T
        refine ⟨_, rfl, _, _, _, _, rfl, .str _, kss, _, rfl, iteF ⟨_, rfl, _, _, rfl, rfl, eu, _, rfl, iteF ⟨_, rfl, p, _, rfl, .inr (st (s2 _ _ hp)), _, rfl, _, _, _, rfl, rfl, kd_box T, _, _, .int _, .int _, sh2, sh2, _, rfl, ?_⟩⟩⟩
        refine (show (if (!PyData.eqv (.int _) (.int _)) = true then _ else _) from ?_)
        rw [eqv_int]
        refine itN (by rfl) ?_
        refine ⟨_, rfl, _, rfl, ⟨_, sl upd_same⟩, fun D hD => lcF src_list (List.replicate 1 (.bl true)) (small_sz (by simp)) (by simp) hD (fun H' kp => sl (kp _ _ (ne_of_none upd_same hD) upd_same)) (fun j z o H' H2 KK hj hz kp sm hI kk => ?_) (fun H' kp e => ?_)⟩
        · refine ⟨rfl, _, rfl, _, rfl, _, _, rfl, rfl, ?_⟩
          have s3 : Same H H2 := fun b u e => sm _ _ (kp _ _ (ne_of_none (s2 _ _ e) hD) (s2 _ _ e))
          have hj2 : j = 0 := by
            have : j < 1 := hj
            omega
          subst hj2
          cases hI
          cases hz
          exact ⟨_, a, _, rfl, hx.same s3, by omega, by omega, by omega, kk⟩
        · exact ⟨D, [true], rfl, sl e, q _ fun b u e => kp _ _ (ne_of_none (s2 _ _ e) hD) (s2 _ _ e)⟩
/-! ### is_form, want_form, head_of -/
def sp_is_form : Sp := fun vs H Q _ => ∃ v F, vs = [v] ∧ Pd H v (Form.d F) ∧ F.height ≤ 5 ∧ ∀ H', Same H H' → Q (.bl true) H'
theorem sc_is_form : FnScope ["thing"] ["thing"] (defScope s_is_form) := ⟨rfl, rfl, rfl, by decide +kernel, rfl, by decide +kernel, by decide +kernel⟩
theorem ok_is_form (T : Tx w K mg) (k : Nat) : Held P w K mg base (k + 8) (He.fAd K ("is_form", none)) sp_is_form := by
  have G_is_form_to := ok_is_form_to (P := P) (base := base) T k 6
  refine FunD.held T.f_is_form sc_is_form (fun _ _ _ _ _ _ us hl => match us, hl with | [_], _ => rfl) (fun vs H Q E h => ?len) (fun fd cdv A outer s H vs Q E hr h => ?body)
  case len => obtain ⟨v, F, rfl, _⟩ := h; rfl
  case body =>
    obtain ⟨v, F, rfl, hF, hh, q⟩ := h
    exact ⟨_, (pss_one (ps_ret (pe_cl G_is_form_to hr T.g_is_form_to (pa_cons (pv 0) (pa_cons (pe_gi T.i_MOST_HEIGHT) pa_nil))))), _, rfl, v, F, _, rfl, hF, by omega, by decide, by decide, q⟩
def sp_want_form : Sp := fun vs H Q _ => ∃ v F, vs = [v] ∧ Pd H v (Form.d F) ∧ F.height ≤ 5 ∧ ∀ H', Same H H' → Q .non H'
theorem sc_want_form : FnScope ["thing"] ["thing"] (defScope s_want_form) := ⟨rfl, rfl, rfl, by decide +kernel, rfl, by decide +kernel, by decide +kernel⟩
theorem ok_want_form (T : Tx w K mg) (k : Nat) : Held P w K mg base (k + 9) (He.fAd K ("want_form", none)) sp_want_form := by
  have G_is_form := ok_is_form (P := P) (base := base) T k
  refine FunD.held T.f_want_form sc_want_form (fun _ _ _ _ _ _ us hl => match us, hl with | [_], _ => rfl) (fun vs H Q E h => ?len) (fun fd cdv A outer s H vs Q E hr h => ?body)
  case len => obtain ⟨v, F, rfl, _⟩ := h; rfl
  case body =>
    obtain ⟨v, F, rfl, hF, hh, q⟩ := h
    exact ⟨_, (pss_one (ps_if (pt_not (pt_val (pe_cl G_is_form hr T.g_is_form (pa_cons (pv 0) pa_nil)))) (pss_one ps_never) pss_nil)), _, rfl, v, F, rfl, hF, hh, fun H' s => ⟨_, rfl, iteF (q _ s)⟩⟩
def sp_head_of : Sp := fun vs H Q _ => ∃ v F, vs = [v] ∧ Pd H v (Form.d F) ∧ F.height ≤ 5 ∧ ∀ H', Same H H' → Q (hdV F) H'
theorem sc_head_of : FnScope ["form"] ["form"] (defScope s_head_of) := ⟨rfl, rfl, rfl, by decide +kernel, rfl, by decide +kernel, by decide +kernel⟩
theorem ok_head_of (T : Tx w K mg) (k : Nat) : Held P w K mg base (k + 10) (He.fAd K ("head_of", none)) sp_head_of := by
  have G_want_form := ok_want_form (P := P) (base := base) T k
  have G_head_of_form := (ok_head_of_form (P := P) (base := base) T (k + 8))
  refine FunD.held T.f_head_of sc_head_of (fun _ _ _ _ _ _ us hl => match us, hl with | [_], _ => rfl) (fun vs H Q E h => ?len) (fun fd cdv A outer s H vs Q E hr h => ?body)
  case len => obtain ⟨v, F, rfl, _⟩ := h; rfl
  case body =>
    obtain ⟨v, F, rfl, hF, hh, q⟩ := h
    exact ⟨_, (pss_cons (ps_expr (pe_cl G_want_form hr T.g_want_form (pa_cons (pv 0) pa_nil)))
      (pss_one (ps_ret (pe_cl G_head_of_form hr T.g_head_of_form (pa_cons (pv 0) pa_nil))))), _, rfl, v, F, rfl, hF, hh, fun H' s => ⟨_, rfl, v, F, rfl, hF.same s, by omega, q _ s⟩⟩
end
end WS
set_option Elab.async false
set_option linter.all false
set_option maxRecDepth 100000
set_option maxHeartbeats 4000000
namespace WS
open PySem L2
section
variable {P : Program} {w : World} {K : PySem.W.Frag} {mg : Str → Option Value} {base : Heap}
theorem qe {Q : VK} {v v' : V} {H : Hp} (e : v = v') (h : Q v' H) : Q v H := by
  rw [e]
  exact h
theorem sIx_one (n : Nat) : HT.sIx (n + 1) 0 (some 1) = 1 := by
  unfold HT.sIx
  simp
theorem tail_ne (x : V) (xs : List V) : ¬ HT.sIx (x :: xs).length 0 (some 1) = 0 := by
  rw [List.length_cons, sIx_one]
  decide
theorem cut_tail (x : V) (xs : List V) : cutV (x :: xs) (some 1) none = xs := by
  unfold cutV
  rw [List.length_cons, sIx_one]
  unfold HT.sIx
  simp
def sp_height (n : Nat) : Sp := fun vs H Q _ => ∃ v F, vs = [v] ∧ Pd H v (Form.d F) ∧ F.height < n ∧ ∀ H', Same H H' → Q (.int F.height) H'
theorem sc_height_of_form : FnScope ["form", "part"] ["form"] (defScope s_height_of_form) := ⟨rfl, rfl, rfl, by decide +kernel, rfl, by decide +kernel, by decide +kernel⟩
theorem ok_height_of_form (T : Tx w K mg) (k : Nat) : ∀ n, Held P w K mg base (k + n + 1) (He.fAd K ("height_of_form", none)) (sp_height n)
  | 0 => by
    refine FunD.held T.f_height_of_form sc_height_of_form (fun _ _ _ _ _ _ us hl => match us, hl with | [_], _ => rfl) (fun vs H Q E h => ?len) (fun fd cdv A outer s H vs Q E hr h => ?body)
    case len => obtain ⟨v, F, rfl, _⟩ := h; rfl
    case body => obtain ⟨v, F, rfl, _, hF, _⟩ := h; exact absurd hF (Nat.not_lt_zero _)
  | n + 1 => by
    have G_height_of_form := ok_height_of_form T k n
    refine FunD.held T.f_height_of_form sc_height_of_form (fun _ _ _ _ _ _ us hl => match us, hl with | [_], _ => rfl) (fun vs H Q E h => ?len) (fun fd cdv A outer s H vs Q E hr h => ?body)
    case len => obtain ⟨v, F, rfl, _⟩ := h; rfl
    case body =>
      obtain ⟨v, F, rfl, hF, hh, q⟩ := h
      refine ⟨_, (pss_cons (ps_if (pt_val (pe_callB call_isN (by rfl) T.b_isinstance (by decide +kernel) (pa_cons (pv 0) (pa_cons (pe_bltn (v := .ty "str") (by rfl) T.b_str (by decide +kernel) rfl) pa_nil)))) (pss_one (ps_ret pe_int)) pss_nil)
      (pss_one (ps_ret (pe_op op_add pe_int (pe_callB (cr_max rfl) (by rfl) T.b_max (by decide +kernel) (pa_cons (pe_lc (own := [("part", 1)]) rfl sc_height_of_form.nd (pi_tup (pe_slice sl_tupA (pv 0) (po_some pe_int) po_none)) (blkOk_by (own := [("part", 1)]) (N := ["form", "part"]) (sc := defScope s_height_of_form) (by decide +kernel)) (fun _ _ _ _ _ => (pg_name (i := 1) sc_height_of_form.nd rfl (Or.inl rfl))) (fun _ _ _ _ _ => pts_nil) (fun _ _ _ _ _ => (pe_cl G_height_of_form hr T.g_height_of_form (pa_cons (pv 1) pa_nil)))) pa_nil)))))), ?_⟩
      rcases fd_cases F hF with ⟨rfl, rfl⟩ | ⟨rfl, rfl⟩ | ⟨rfl, rfl⟩ | ⟨a, b, p, x, y, rfl, rfl, hp, hx, hy⟩ | ⟨a, p, x, rfl, rfl, hp, hx⟩
      · exact ⟨_, rfl, _, _, _, _, rfl, .str _, kss, _, rfl, iteT (q _ (Same.refl _))⟩
      · exact ⟨_, rfl, _, _, _, _, rfl, .str _, kss, _, rfl, iteT (q _ (Same.refl _))⟩
      · exact ⟨_, rfl, _, _, _, _, rfl, .str _, kss, _, rfl, iteT (q _ (Same.refl _))⟩
      · have ha : 1 + max a.height b.height < n + 1 := hh
        refine ⟨_, rfl, _, _, _, _, rfl, .tup hp, kts, _, rfl, iteF ⟨_, rfl, _, rfl, p, _, rfl, st hp, fun z => absurd z.1 (tail_ne _ _), fun _ t ht => ?_⟩⟩
        rw [cut_tail]
        have s1 : Same H (upd H t (.tup [x, y])) := Same.new ht
        refine ⟨t, rfl, ⟨_, st upd_same⟩, fun D hD => lcF (src_tup (xs := [x, y])) [.int a.height, .int b.height] (small_sz (by simp)) rfl hD (fun H' kp => st (kp _ _ (ne_of_none upd_same hD) upd_same)) (fun j z o H' H2 KK hj hz kp sm hI kk => ?_) (fun H' kp e => ?_)⟩
        · refine ⟨rfl, _, rfl, ?_⟩
          have s3 : Same H H2 := fun b u e => sm _ _ (kp _ _ (ne_of_none (s1 _ _ e) hD) (s1 _ _ e))
          have hj2 : j = 0 ∨ j = 1 := by
            have : j < 2 := hj
            omega
          rcases hj2 with rfl | rfl
          · cases hI
            cases hz
            exact ⟨_, a, rfl, hx.same s3, by omega, kk⟩
          · cases hI
            cases hz
            exact ⟨_, b, rfl, hy.same s3, by omega, kk⟩
        · refine ⟨D, [(a.height : Int), (b.height : Int)], rfl, sl e, Nat.succ_pos _, fun m hm hle => ⟨_, _, rfl, rfl, ?_⟩⟩
          have h1 := hle _ (List.mem_cons_self)
          have h2 := hle _ (List.mem_cons_of_mem _ List.mem_cons_self)
          have h3 : m = a.height ∨ m = b.height := by simpa using hm
          have em : (1 : Int) + m = ((1 + max a.height b.height : Nat) : Int) := by omega
          exact qe (congrArg V.int em) (q _ fun b u e => kp _ _ (ne_of_none (s1 _ _ e) hD) (s1 _ _ e))
      · have ha : 1 + a.height < n + 1 := hh
        refine ⟨_, rfl, _, _, _, _, rfl, .tup hp, kts, _, rfl, iteF ⟨_, rfl, _, rfl, p, _, rfl, st hp, fun z => absurd z.1 (tail_ne _ _), fun _ t ht => ?_⟩⟩
        rw [cut_tail]
        have s1 : Same H (upd H t (.tup [x])) := Same.new ht
        refine ⟨t, rfl, ⟨_, st upd_same⟩, fun D hD => lcF (src_tup (xs := [x])) [.int a.height] (small_sz (by simp)) rfl hD (fun H' kp => st (kp _ _ (ne_of_none upd_same hD) upd_same)) (fun j z o H' H2 KK hj hz kp sm hI kk => ?_) (fun H' kp e => ?_)⟩
        · refine ⟨rfl, _, rfl, ?_⟩
          have s3 : Same H H2 := fun b u e => sm _ _ (kp _ _ (ne_of_none (s1 _ _ e) hD) (s1 _ _ e))
          have hj2 : j = 0 := by
            have : j < 1 := hj
            omega
          subst hj2
          cases hI
          cases hz
          exact ⟨_, a, rfl, hx.same s3, by omega, kk⟩
        · refine ⟨D, [(a.height : Int)], rfl, sl e, Nat.succ_pos _, fun m hm hle => ⟨_, _, rfl, rfl, ?_⟩⟩
          have h3 : m = a.height := by simpa using hm
          have em : (1 : Int) + m = ((1 + a.height : Nat) : Int) := by omega
          exact qe (congrArg V.int em) (q _ fun b u e => kp _ _ (ne_of_none (s1 _ _ e) hD) (s1 _ _ e))
theorem sc_law_height : FnScope ["_law_form_here", "_law_part"] ["_law_form_here"] (defScope s__law_height) := ⟨rfl, rfl, rfl, by decide +kernel, rfl, by decide +kernel, by decide +kernel⟩
theorem ok_law_height (T : Tx w K mg) (k : Nat) : ∀ n, Held P w K mg base (k + n + 1) (He.fAd K ("_law_height", none)) (sp_height n)
  | 0 => by
    refine FunD.held T.f__law_height sc_law_height (fun _ _ _ _ _ _ us hl => match us, hl with | [_], _ => rfl) (fun vs H Q E h => ?len) (fun fd cdv A outer s H vs Q E hr h => ?body)
    case len => obtain ⟨v, F, rfl, _⟩ := h; rfl
    case body => obtain ⟨v, F, rfl, _, hF, _⟩ := h; exact absurd hF (Nat.not_lt_zero _)
  | n + 1 => by
    have G_law_height := ok_law_height T k n
    refine FunD.held T.f__law_height sc_law_height (fun _ _ _ _ _ _ us hl => match us, hl with | [_], _ => rfl) (fun vs H Q E h => ?len) (fun fd cdv A outer s H vs Q E hr h => ?body)
    case len => obtain ⟨v, F, rfl, _⟩ := h; rfl
    case body =>
      obtain ⟨v, F, rfl, hF, hh, q⟩ := h
      refine ⟨_, (pss_cons (ps_if (pt_val (pe_callB call_isN (by rfl) T.b_isinstance (by decide +kernel) (pa_cons (pv 0) (pa_cons (pe_bltn (v := .ty "str") (by rfl) T.b_str (by decide +kernel) rfl) pa_nil)))) (pss_one (ps_ret pe_int)) pss_nil)
      (pss_one (ps_ret (pe_op op_add pe_int (pe_callB (cr_max rfl) (by rfl) T.b_max (by decide +kernel) (pa_cons (pe_lc (own := [("_law_part", 1)]) rfl sc_law_height.nd (pi_tup (pe_slice sl_tupA (pv 0) (po_some pe_int) po_none)) (blkOk_by (own := [("_law_part", 1)]) (N := ["_law_form_here", "_law_part"]) (sc := defScope s__law_height) (by decide +kernel)) (fun _ _ _ _ _ => (pg_name (i := 1) sc_law_height.nd rfl (Or.inl rfl))) (fun _ _ _ _ _ => pts_nil) (fun _ _ _ _ _ => (pe_cl G_law_height hr T.g__law_height (pa_cons (pv 1) pa_nil)))) pa_nil)))))), ?_⟩
      rcases fd_cases F hF with ⟨rfl, rfl⟩ | ⟨rfl, rfl⟩ | ⟨rfl, rfl⟩ | ⟨a, b, p, x, y, rfl, rfl, hp, hx, hy⟩ | ⟨a, p, x, rfl, rfl, hp, hx⟩
      · exact ⟨_, rfl, _, _, _, _, rfl, .str _, kss, _, rfl, iteT (q _ (Same.refl _))⟩
      · exact ⟨_, rfl, _, _, _, _, rfl, .str _, kss, _, rfl, iteT (q _ (Same.refl _))⟩
      · exact ⟨_, rfl, _, _, _, _, rfl, .str _, kss, _, rfl, iteT (q _ (Same.refl _))⟩
      · have ha : 1 + max a.height b.height < n + 1 := hh
        refine ⟨_, rfl, _, _, _, _, rfl, .tup hp, kts, _, rfl, iteF ⟨_, rfl, _, rfl, p, _, rfl, st hp, fun z => absurd z.1 (tail_ne _ _), fun _ t ht => ?_⟩⟩
        rw [cut_tail]
        have s1 : Same H (upd H t (.tup [x, y])) := Same.new ht
        refine ⟨t, rfl, ⟨_, st upd_same⟩, fun D hD => lcF (src_tup (xs := [x, y])) [.int a.height, .int b.height] (small_sz (by simp)) rfl hD (fun H' kp => st (kp _ _ (ne_of_none upd_same hD) upd_same)) (fun j z o H' H2 KK hj hz kp sm hI kk => ?_) (fun H' kp e => ?_)⟩
        · refine ⟨rfl, _, rfl, ?_⟩
          have s3 : Same H H2 := fun b u e => sm _ _ (kp _ _ (ne_of_none (s1 _ _ e) hD) (s1 _ _ e))
          have hj2 : j = 0 ∨ j = 1 := by
            have : j < 2 := hj
            omega
          rcases hj2 with rfl | rfl
          · cases hI
            cases hz
            exact ⟨_, a, rfl, hx.same s3, by omega, kk⟩
          · cases hI
            cases hz
            exact ⟨_, b, rfl, hy.same s3, by omega, kk⟩
        · refine ⟨D, [(a.height : Int), (b.height : Int)], rfl, sl e, Nat.succ_pos _, fun m hm hle => ⟨_, _, rfl, rfl, ?_⟩⟩
          have h1 := hle _ (List.mem_cons_self)
          have h2 := hle _ (List.mem_cons_of_mem _ List.mem_cons_self)
          have h3 : m = a.height ∨ m = b.height := by simpa using hm
          have em : (1 : Int) + m = ((1 + max a.height b.height : Nat) : Int) := by omega
          exact qe (congrArg V.int em) (q _ fun b u e => kp _ _ (ne_of_none (s1 _ _ e) hD) (s1 _ _ e))
      · have ha : 1 + a.height < n + 1 := hh
        refine ⟨_, rfl, _, _, _, _, rfl, .tup hp, kts, _, rfl, iteF ⟨_, rfl, _, rfl, p, _, rfl, st hp, fun z => absurd z.1 (tail_ne _ _), fun _ t ht => ?_⟩⟩
        rw [cut_tail]
        have s1 : Same H (upd H t (.tup [x])) := Same.new ht
        refine ⟨t, rfl, ⟨_, st upd_same⟩, fun D hD => lcF (src_tup (xs := [x])) [.int a.height] (small_sz (by simp)) rfl hD (fun H' kp => st (kp _ _ (ne_of_none upd_same hD) upd_same)) (fun j z o H' H2 KK hj hz kp sm hI kk => ?_) (fun H' kp e => ?_)⟩
        · refine ⟨rfl, _, rfl, ?_⟩
          have s3 : Same H H2 := fun b u e => sm _ _ (kp _ _ (ne_of_none (s1 _ _ e) hD) (s1 _ _ e))
          have hj2 : j = 0 := by
            have : j < 1 := hj
            omega
          subst hj2
          cases hI
          cases hz
          exact ⟨_, a, rfl, hx.same s3, by omega, kk⟩
        · refine ⟨D, [(a.height : Int)], rfl, sl e, Nat.succ_pos _, fun m hm hle => ⟨_, _, rfl, rfl, ?_⟩⟩
          have h3 : m = a.height := by simpa using hm
          have em : (1 : Int) + m = ((1 + a.height : Nat) : Int) := by omega
          exact qe (congrArg V.int em) (q _ fun b u e => kp _ _ (ne_of_none (s1 _ _ e) hD) (s1 _ _ e))
end
end WS
set_option Elab.async false
set_option linter.all false
set_option maxRecDepth 100000
set_option maxHeartbeats 4000000
namespace WS
open PySem L2
section
variable {P : Program} {w : World} {K : PySem.W.Frag} {mg : Str → Option Value} {base : Heap}
theorem shaped_pair (F G : Form) (hF : F.height ≤ 60) (hG : G.height ≤ 60) : SeqAt.shaped (.tuple [F.d, G.d]) = true := by
  have h1 := lay_form F
  have h2 := lay_form G
  unfold SeqAt.shaped
  simp only [PyData.canLay0, PyData.canLayAll0, PyData.depth, PyData.depthAll, h1.1, h2.1, Bool.and_true, Bool.true_and, decide_eq_true_eq]
  exact decide_eq_true (by omega)
theorem dpair {K : PySem.W.Frag} {H : Hp} {p : Addr} {x y : V} {F G : Form} (h : H p = some (.tup [x, y])) (hx : Pd H x F.d) (hy : Pd H y G.d) : Dp K H (.ref p) (.tuple [F.d, G.d]) := .tup (st h) (.cons hx.dp (.cons hy.dp .nil))
theorem any_pair (F G : Form) : ([F.d, G.d].any fun z => PyData.eqv z (.str "any")) = (decide (F = .any) || decide (G = .any)) := by
  rw [← any_d]
  simp only [List.any_cons, List.any_nil, Bool.or_false, eqv_form]
theorem sany : SeqAt.shaped (.str "any") = true := shaped_form .any (by decide)
def str? : Form → Bool
  | .any => true
  | .num => true
  | .text => true
  | _ => false
theorem near_str {F G : Form} (hF : F ≠ .any) (hG : G ≠ .any) (h : str? F = true ∨ str? G = true) : near F G = decide (F = G) := by
  cases F <;> cases G <;> first | exact absurd rfl hF | exact absurd rfl hG | decide | rfl | (rcases h with h | h <;> cases h) 
theorem near_head1 (a b c : Form) : near (.deed a b) (.box c) = false := rfl
theorem near_head2 (a b c : Form) : near (.box c) (.deed a b) = false := rfl
/-- a form's value: a text or a tuple -/
theorem fd_str {H : Hp} {v : V} (F : Form) (h : Pd H v F.d) (hs : str? F = true) : ∃ x : Str, v = .str x := by
  rcases fd_cases F h with ⟨rfl, rfl⟩ | ⟨rfl, rfl⟩ | ⟨rfl, rfl⟩ | ⟨a, b, p, x, y, rfl, rfl, hp, hx, hy⟩ | ⟨a, p, x, rfl, rfl, hp, hx⟩
  · exact ⟨_, rfl⟩
  · exact ⟨_, rfl⟩
  · exact ⟨_, rfl⟩
  · cases hs
  · cases hs
/-- .. its head and parts -/
def hd1 : Form → Str
  | .deed _ _ => "deed"
  | _ => "box"
def prt : Form → List Form
  | .deed a b => [a, b]
  | .box a => [a]
  | _ => []
theorem fd_tup {H : Hp} {v : V} (F : Form) (h : Pd H v F.d) (hs : str? F = false) : ∃ p xs, v = .ref p ∧ H p = some (.tup (.str (hd1 F) :: xs)) ∧ PdAll H xs ((prt F).map Form.d) := by
  rcases fd_cases F h with ⟨rfl, rfl⟩ | ⟨rfl, rfl⟩ | ⟨rfl, rfl⟩ | ⟨a, b, p, x, y, rfl, rfl, hp, hx, hy⟩ | ⟨a, p, x, rfl, rfl, hp, hx⟩
  · cases hs
  · cases hs
  · cases hs
  · exact ⟨p, _, rfl, hp, .cons hx (.cons hy .nil)⟩
  · exact ⟨p, _, rfl, hp, .cons hx .nil⟩
theorem hd1_cases (F G : Form) (hF : str? F = false) (hG : str? G = false) (h : hd1 F ≠ hd1 G) : near F G = false ∧ decide (F = G) = false := by
  cases F with
  | deed a b => cases G with
    | deed c d => exact absurd rfl h
    | box c => exact ⟨rfl, rfl⟩
    | _ => cases hG
  | box a => cases G with
    | box c => exact absurd rfl h
    | deed c d => exact ⟨rfl, rfl⟩
    | _ => cases hG
  | _ => cases hF
theorem near_parts (F G : Form) (hF : str? F = false) (hG : str? G = false) (h : hd1 F = hd1 G) : (prt F).length = (prt G).length ∧ (((prt F).zip (prt G)).map fun p => near p.1 p.2).all id = near F G := by
  cases F with
  | deed a b => cases G with
    | deed c d => exact ⟨rfl, by simp [prt, near]⟩
    | box c => exact absurd (show ("deed" : Str) = "box" from h) (by decide)
    | _ => cases hG
  | box a => cases G with
    | box c => exact ⟨rfl, by simp [prt, near]⟩
    | deed c d => exact absurd (show ("box" : Str) = "deed" from h) (by decide)
    | _ => cases hG
  | _ => cases hF
theorem prt_height {F : Form} {n : Nat} (h : F.height ≤ n) (a : Form) (ha : a ∈ prt F) : a.height + 1 ≤ n := by
  cases F with
  | deed b c =>
    have h : 1 + max b.height c.height ≤ n := h
    rcases List.mem_cons.mp ha with e | e
    · rw [e]; omega
    · rw [List.mem_singleton.mp e]; omega
  | box b =>
    have h : 1 + b.height ≤ n := h
    rw [List.mem_singleton.mp ha]; omega
  | _ => cases ha
theorem prt_len (F : Form) : (prt F).length ≤ 2 := by
  cases F <;> simp [prt]
theorem PdAll.at {H : Hp} : ∀ {vs : List V} {Fs : List Form} {i : Nat} {v : V}, PdAll H vs (Fs.map Form.d) → vs[i]? = some v → ∃ F, Fs[i]? = some F ∧ Pd H v F.d
  | _, [], i, v, h, e => by
    cases h
    simp at e
  | _, F :: Fs, 0, v, h, e => by
    obtain ⟨x, r, rfl, h1, h2⟩ := h.cons_of
    cases e
    exact ⟨F, rfl, h1⟩
  | _, F :: Fs, i + 1, v, h, e => by
    obtain ⟨x, r, rfl, h1, h2⟩ := h.cons_of
    exact PdAll.at (i := i) h2 e
theorem shaped_hd (F : Form) : SeqAt.shaped (.str (hd1 F)) = true := by
  cases F <;> first | exact (by decide +kernel : SeqAt.shaped (.str "deed") = true) | exact (by decide +kernel : SeqAt.shaped (.str "box") = true)
theorem at0 (x : V) (xs : List V) : atI (x :: xs) 0 = some x := by
  unfold atI ixN
  simp
def sp_near (n : Nat) : Sp := fun vs H Q _ => ∃ v u F G, vs = [v, u] ∧ Pd H v (Form.d F) ∧ Pd H u (Form.d G) ∧ F.height < n ∧ F.height ≤ 60 ∧ G.height ≤ 60 ∧ ∀ H', Same H H' → Q (.bl (near F G)) H'
/-- the last row: all([near(..) for part, beside in zip(one[1:], other[1:])]) -/
theorem sc_near_forms : FnScope ["one", "other", "part", "beside"] ["one", "other"] (defScope s_near_forms) := ⟨rfl, rfl, rfl, by decide +kernel, rfl, by decide +kernel, by decide +kernel⟩
theorem ok_near_forms (T : Tx w K mg) (k : Nat) : ∀ n, Held P w K mg base (k + n + 1) (He.fAd K ("near_forms", none)) (sp_near n)
  | 0 => by
    refine FunD.held T.f_near_forms sc_near_forms (fun _ _ _ _ _ _ us hl => match us, hl with | [_, _], _ => rfl) (fun vs H Q E h => ?len) (fun fd cdv A outer s H vs Q E hr h => ?body)
    case len => obtain ⟨v, u, F, G, rfl, _⟩ := h; rfl
    case body => obtain ⟨v, u, F, G, rfl, _, _, hF, _⟩ := h; exact absurd hF (Nat.not_lt_zero _)
  | n + 1 => by
    have G_near_forms := ok_near_forms T k n
    refine FunD.held T.f_near_forms sc_near_forms (fun _ _ _ _ _ _ us hl => match us, hl with | [_, _], _ => rfl) (fun vs H Q E h => ?len) (fun fd cdv A outer s H vs Q E hr h => ?body)
    case len => obtain ⟨v, u, F, G, rfl, _⟩ := h; rfl
    case body =>
      obtain ⟨v, u, F, G, rfl, hF, hG, hh, hh2, hh3, q⟩ := h
      have hu65 := Room.u65 hr
      refine ⟨_, (pss_cons (ps_if (pt_cmpR (op_inDT hu65) (pe_gs T.s_ANY_forms) (pe_tup (pa_cons (pv 0) (pa_cons (pv 1) pa_nil))) (by rfl)) (pss_one (ps_ret pe_bl)) pss_nil)
      (pss_cons (ps_if (PW.pt (pw_or (pt_val (pe_callB call_isN (by rfl) T.b_isinstance (by decide +kernel) (pa_cons (pv 0) (pa_cons (pe_bltn (v := .ty "str") (by rfl) T.b_str (by decide +kernel) rfl) pa_nil)))) (pw_or (pt_val (pe_callB call_isN (by rfl) T.b_isinstance (by decide +kernel) (pa_cons (pv 1) (pa_cons (pe_bltn (v := .ty "str") (by rfl) T.b_str (by decide +kernel) rfl) pa_nil)))) (pw_or1 (pt_cmpR (op_neD hr.units) (pe_ix ix_tup (pv 0) pe_int (fun _ _ => rfl)) (pe_ix ix_tup (pv 1) pe_int (fun _ _ => rfl)) (nomark _)))))) (pss_one (ps_ret (pe_cmpR (op_eqD hr.units) (pv 0) (pv 1) (nomark _)))) pss_nil)
      (pss_one (ps_ret (pe_callB (cr_all rfl) (by rfl) T.b_all (by decide +kernel) (pa_cons (pe_lc (own := [("part", 2), ("beside", 3)]) rfl sc_near_forms.nd (pi_zipS (by rfl) T.b_zip (pa_cons (pe_slice sl_tupA (pv 0) (po_some pe_int) po_none) (pa_cons (pe_slice sl_tupA (pv 1) (po_some pe_int) po_none) pa_nil))) (blkOk_by (own := [("part", 2), ("beside", 3)]) (N := ["one", "other", "part", "beside"]) (sc := defScope s_near_forms) (by decide +kernel)) (fun _ _ _ _ _ => (pg_tupK (K := K) (n := 2) rfl (pgs_cons (pg_name (i := 2) sc_near_forms.nd rfl (Or.inl rfl)) (pgs_cons (pg_name (i := 3) sc_near_forms.nd rfl (Or.inl rfl)) pgs_nil)))) (fun _ _ _ _ _ => pts_nil) (fun _ _ _ _ _ => (pe_cl G_near_forms hr T.g_near_forms (pa_cons (pv 2) (pa_cons (pv 3) pa_nil))))) pa_nil)))))), ?_⟩
      refine ⟨_, rfl, _, rfl, small_sz (by simp), fun t ht => ?_⟩
      have s1 : Same H (upd H t (.tup [v, u])) := Same.new ht
      refine ⟨_, _, .str _, dpair upd_same (hF.same s1) (hG.same s1), sany, shaped_pair F G hh2 hh3, _, rfl, ?_⟩
      rw [any_pair]
      by_cases hFa : F = .any
      · subst hFa
        refine (show (if true = true then _ else _) from iteT (qe ?_ (q _ s1)))
        rw [any_near]
      by_cases hGa : G = .any
      · subst hGa
        rw [decide_eq_true (rfl : Form.any = Form.any), Bool.or_true]
        refine iteT (qe ?_ (q _ s1))
        rw [near_any]
      rw [decide_eq_false hFa, decide_eq_false hGa]
      refine iteF ?_
      cases hFs : str? F with
      | true =>
        obtain ⟨x, rfl⟩ := fd_str F hF hFs
        refine ⟨_, rfl, _, _, _, _, rfl, .str _, kss, _, rfl, iteT (iteT ⟨_, rfl, _, rfl, _, _, (hF.same s1).dp, (hG.same s1).dp, shaped_form F hh2, shaped_form G hh3, ?_⟩)⟩
        refine qe ?_ (q _ s1)
        rw [near_str hFa hGa (.inl hFs), eqv_form]
      | false =>
      cases hGs : str? G with
      | true =>
        obtain ⟨x, rfl⟩ := fd_str G hG hGs
        obtain ⟨p, xs, rfl, hp, hxs⟩ := fd_tup F hF hFs
        refine ⟨_, rfl, _, _, _, _, rfl, .tup (s1 _ _ hp), kts, _, rfl, iteF ⟨_, rfl, _, _, _, _, rfl, .str _, kss, _, rfl, iteT (iteT ⟨_, rfl, _, rfl, _, _, (hF.same s1).dp, (hG.same s1).dp, shaped_form F hh2, shaped_form G hh3, ?_⟩)⟩⟩
        refine qe ?_ (q _ s1)
        rw [near_str hFa hGa (.inr hGs), eqv_form]
      | false =>
      obtain ⟨p, xs, rfl, hp, hxs⟩ := fd_tup F hF hFs
      obtain ⟨p2, ys, rfl, hp2, hys⟩ := fd_tup G hG hGs
      refine ⟨_, rfl, _, _, _, _, rfl, .tup (s1 _ _ hp), kts, _, rfl, iteF ⟨_, rfl, _, _, _, _, rfl, .tup (s1 _ _ hp2), kts, _, rfl, iteF ⟨_, rfl, _, _, _, _, rfl, rfl, st (s1 _ _ hp), at0 _ _, _, rfl, _, _, _, _, rfl, rfl, st (s1 _ _ hp2), at0 _ _, _, _, .str _, .str _, shaped_hd F, shaped_hd G, _, rfl, ?_⟩⟩⟩
      rw [eqv_str]
      by_cases hd : hd1 F = hd1 G
      · refine itN hd ?_
        refine ⟨_, rfl, _, rfl, p, _, rfl, st (s1 _ _ hp), fun z => absurd z.1 (tail_ne _ _), fun _ t1 ht1 => ?_⟩
        rw [cut_tail]
        refine ⟨_, rfl, _, rfl, p2, _, rfl, st (Same.new ht1 _ _ (s1 _ _ hp2)), fun z => absurd z.1 (tail_ne _ _), fun _ t2 ht2 => ?_⟩
        rw [cut_tail]
        have s2 : Same H (upd (upd (upd H t (.tup [.ref p, .ref p2])) t1 (.tup xs)) t2 (.tup ys)) := s1.trans ((Same.new ht1).trans (Same.new ht2))
        have g1 : (upd (upd (upd H t (.tup [.ref p, .ref p2])) t1 (.tup xs)) t2 (.tup ys)) t1 = some (.tup xs) := Same.new ht2 _ _ upd_same
        have hlp := near_parts F G (by simpa using hFs) (by simpa using hGs) (by simpa using hd)
        have hlx : xs.length = (prt F).length := by rw [hxs.length, List.length_map]
        have hly : ys.length = (prt G).length := by rw [hys.length, List.length_map]
        refine ⟨.tup t1, .tup t2, xs, ys, rfl, st g1, st upd_same, by omega, fun D hD => lcF (src_zip (c1 := .tup t1) (c2 := .tup t2) (xs := xs) (ys := ys) (by omega)) ((((prt F).zip (prt G)).map fun p => near p.1 p.2).map V.bl) (small_sz (by have := prt_len F; omega)) (by simp; omega) hD
          (fun H' kp => ⟨st (kp _ _ (ne_of_none g1 hD) g1), st (kp _ _ (ne_of_none upd_same hD) upd_same)⟩) (fun j z o H' H2 KK hj hz kp sm hI kk => ?_) (fun H' kp e => ?_)⟩
        · obtain ⟨tt, x, y, rfl, et, ex, ey⟩ := hI
          have s3 : Same H H2 := fun b u e => sm _ _ (kp _ _ (ne_of_none (s2 _ _ e) hD) (s2 _ _ e))
          obtain ⟨a, ea, ha⟩ := PdAll.at hxs ex
          obtain ⟨b, eb, hb⟩ := PdAll.at hys ey
          have ez : ((prt F).zip (prt G))[j]? = some (a, b) := by
            rw [List.getElem?_zip_eq_some]
            exact ⟨ea, eb⟩
          rw [List.getElem?_map, List.getElem?_map, ez] at hz
          cases hz
          have h1 := prt_height (Nat.le_of_lt_succ hh) a (List.mem_of_getElem? ea)
          have h1b := prt_height hh2 a (List.mem_of_getElem? ea)
          have h2 := prt_height hh3 b (List.mem_of_getElem? eb)
          refine ⟨tt, _, rfl, st et, rfl, x, _, rfl, y, _, rfl, rfl, rfl, ?_⟩
          exact ⟨_, rfl, _, rfl, _, _, a, b, rfl, ha.same s3, hb.same s3, by omega, by omega, by omega, kk⟩
        · refine ⟨D, _, rfl, sl e, qe (congrArg V.bl hlp.2) (q _ fun b u e => kp _ _ (ne_of_none (s2 _ _ e) hD) (s2 _ _ e))⟩
      · refine itNn hd ?_
        obtain ⟨e1, e2⟩ := hd1_cases F G (by simpa using hFs) (by simpa using hGs) hd
        refine ⟨_, rfl, _, rfl, _, _, (hF.same s1).dp, (hG.same s1).dp, shaped_form F hh2, shaped_form G hh3, ?_⟩
        refine qe ?_ (q _ s1)
        rw [eqv_form, e1, e2]
theorem sc_law_is_near : FnScope ["_law_left", "_law_right_here", "_law_part", "_law_beside"] ["_law_left", "_law_right_here"] (defScope s__law_is_near) := ⟨rfl, rfl, rfl, by decide +kernel, rfl, by decide +kernel, by decide +kernel⟩
theorem ok_law_is_near (T : Tx w K mg) (k : Nat) : ∀ n, Held P w K mg base (k + n + 1) (He.fAd K ("_law_is_near", none)) (sp_near n)
  | 0 => by
    refine FunD.held T.f__law_is_near sc_law_is_near (fun _ _ _ _ _ _ us hl => match us, hl with | [_, _], _ => rfl) (fun vs H Q E h => ?len) (fun fd cdv A outer s H vs Q E hr h => ?body)
    case len => obtain ⟨v, u, F, G, rfl, _⟩ := h; rfl
    case body => obtain ⟨v, u, F, G, rfl, _, _, hF, _⟩ := h; exact absurd hF (Nat.not_lt_zero _)
  | n + 1 => by
    have G_law_is_near := ok_law_is_near T k n
    refine FunD.held T.f__law_is_near sc_law_is_near (fun _ _ _ _ _ _ us hl => match us, hl with | [_, _], _ => rfl) (fun vs H Q E h => ?len) (fun fd cdv A outer s H vs Q E hr h => ?body)
    case len => obtain ⟨v, u, F, G, rfl, _⟩ := h; rfl
    case body =>
      obtain ⟨v, u, F, G, rfl, hF, hG, hh, hh2, hh3, q⟩ := h
      have hu65 := Room.u65 hr
      refine ⟨_, (pss_cons (ps_if (PW.pt (pw_or (pt_cmpR (op_inDT hu65) pe_str (pe_tup (pa_cons (pv 0) (pa_cons (pv 1) pa_nil))) (by rfl)) (pw_or1 (pt_cmpR (op_eqD hr.units) (pv 0) (pv 1) (nomark _))))) (pss_one (ps_ret pe_bl)) pss_nil)
      (pss_cons (ps_if (PW.pt (pw_or (pt_val (pe_callB call_isN (by rfl) T.b_isinstance (by decide +kernel) (pa_cons (pv 0) (pa_cons (pe_bltn (v := .ty "str") (by rfl) T.b_str (by decide +kernel) rfl) pa_nil)))) (pw_or (pt_val (pe_callB call_isN (by rfl) T.b_isinstance (by decide +kernel) (pa_cons (pv 1) (pa_cons (pe_bltn (v := .ty "str") (by rfl) T.b_str (by decide +kernel) rfl) pa_nil)))) (pw_or1 (pt_cmpR (op_neD hr.units) (pe_ix ix_tup (pv 0) pe_int (fun _ _ => rfl)) (pe_ix ix_tup (pv 1) pe_int (fun _ _ => rfl)) (nomark _)))))) (pss_one (ps_ret pe_bl)) pss_nil)
      (pss_one (ps_ret (pe_callB (cr_all rfl) (by rfl) T.b_all (by decide +kernel) (pa_cons (pe_lc (own := [("_law_part", 2), ("_law_beside", 3)]) rfl sc_law_is_near.nd (pi_zipB (by rfl) T.b_zip (pa_cons (pe_slice sl_tupA (pv 0) (po_some pe_int) po_none) (pa_cons (pe_slice sl_tupA (pv 1) (po_some pe_int) po_none) pa_nil))) (blkOk_by (own := [("_law_part", 2), ("_law_beside", 3)]) (N := ["_law_left", "_law_right_here", "_law_part", "_law_beside"]) (sc := defScope s__law_is_near) (by decide +kernel)) (fun _ _ _ _ _ => (pg_tupK (K := K) (n := 2) rfl (pgs_cons (pg_name (i := 2) sc_law_is_near.nd rfl (Or.inl rfl)) (pgs_cons (pg_name (i := 3) sc_law_is_near.nd rfl (Or.inl rfl)) pgs_nil)))) (fun _ _ _ _ _ => pts_nil) (fun _ _ _ _ _ => (pe_cl G_law_is_near hr T.g__law_is_near (pa_cons (pv 2) (pa_cons (pv 3) pa_nil))))) pa_nil)))))), ?_⟩
      refine ⟨_, rfl, _, rfl, small_sz (by simp), fun t ht => ?_⟩
      have s1 : Same H (upd H t (.tup [v, u])) := Same.new ht
      refine ⟨_, _, .str _, dpair upd_same (hF.same s1) (hG.same s1), sany, shaped_pair F G hh2 hh3, _, rfl, ?_⟩
      rw [any_pair]
      by_cases hFa : F = .any
      · subst hFa
        refine (show (if true = true then _ else _) from iteT (iteT (qe ?_ (q _ s1))))
        rw [any_near]
      by_cases hGa : G = .any
      · subst hGa
        rw [decide_eq_true (rfl : Form.any = Form.any), Bool.or_true]
        refine iteT (iteT (qe ?_ (q _ s1)))
        rw [near_any]
      rw [decide_eq_false hFa, decide_eq_false hGa]
      refine iteF ⟨_, rfl, _, rfl, _, _, (hF.same s1).dp, (hG.same s1).dp, shaped_form F hh2, shaped_form G hh3, _, rfl, ?_⟩
      rw [eqv_form]
      by_cases hFG : F = G
      · subst hFG
        rw [decide_eq_true rfl]
        refine iteT (qe ?_ (q _ s1))
        rw [near_refl]
      rw [decide_eq_false hFG]
      refine iteF ?_
      cases hFs : str? F with
      | true =>
        obtain ⟨x, rfl⟩ := fd_str F hF hFs
        refine ⟨_, rfl, _, _, _, _, rfl, .str _, kss, _, rfl, iteT (iteT (qe ?_ (q _ s1)))⟩
        rw [near_str hFa hGa (.inl hFs), decide_eq_false hFG]
      | false =>
      cases hGs : str? G with
      | true =>
        obtain ⟨x, rfl⟩ := fd_str G hG hGs
        obtain ⟨p, xs, rfl, hp, hxs⟩ := fd_tup F hF hFs
        refine ⟨_, rfl, _, _, _, _, rfl, .tup (s1 _ _ hp), kts, _, rfl, iteF ⟨_, rfl, _, _, _, _, rfl, .str _, kss, _, rfl, iteT (iteT (qe ?_ (q _ s1)))⟩⟩
        rw [near_str hFa hGa (.inr hGs), decide_eq_false hFG]
      | false =>
      obtain ⟨p, xs, rfl, hp, hxs⟩ := fd_tup F hF hFs
      obtain ⟨p2, ys, rfl, hp2, hys⟩ := fd_tup G hG hGs
      refine ⟨_, rfl, _, _, _, _, rfl, .tup (s1 _ _ hp), kts, _, rfl, iteF ⟨_, rfl, _, _, _, _, rfl, .tup (s1 _ _ hp2), kts, _, rfl, iteF ⟨_, rfl, _, _, _, _, rfl, rfl, st (s1 _ _ hp), at0 _ _, _, rfl, _, _, _, _, rfl, rfl, st (s1 _ _ hp2), at0 _ _, _, _, .str _, .str _, shaped_hd F, shaped_hd G, _, rfl, ?_⟩⟩⟩
      rw [eqv_str]
      by_cases hd : hd1 F = hd1 G
      · refine itN hd ?_
        refine ⟨_, rfl, _, rfl, p, _, rfl, st (s1 _ _ hp), fun z => absurd z.1 (tail_ne _ _), fun _ t1 ht1 => ?_⟩
        rw [cut_tail]
        refine ⟨_, rfl, _, rfl, p2, _, rfl, st (Same.new ht1 _ _ (s1 _ _ hp2)), fun z => absurd z.1 (tail_ne _ _), fun _ t2 ht2 => ?_⟩
        rw [cut_tail]
        have s2 : Same H (upd (upd (upd H t (.tup [.ref p, .ref p2])) t1 (.tup xs)) t2 (.tup ys)) := s1.trans ((Same.new ht1).trans (Same.new ht2))
        have g1 : (upd (upd (upd H t (.tup [.ref p, .ref p2])) t1 (.tup xs)) t2 (.tup ys)) t1 = some (.tup xs) := Same.new ht2 _ _ upd_same
        have hlp := near_parts F G (by simpa using hFs) (by simpa using hGs) (by simpa using hd)
        have hlx : xs.length = (prt F).length := by rw [hxs.length, List.length_map]
        have hly : ys.length = (prt G).length := by rw [hys.length, List.length_map]
        refine ⟨.tup t1, .tup t2, xs, ys, rfl, st g1, st upd_same, by omega, fun D hD => lcF (src_zip (c1 := .tup t1) (c2 := .tup t2) (xs := xs) (ys := ys) (by omega)) ((((prt F).zip (prt G)).map fun p => near p.1 p.2).map V.bl) (small_sz (by have := prt_len F; omega)) (by simp; omega) hD
          (fun H' kp => ⟨st (kp _ _ (ne_of_none g1 hD) g1), st (kp _ _ (ne_of_none upd_same hD) upd_same)⟩) (fun j z o H' H2 KK hj hz kp sm hI kk => ?_) (fun H' kp e => ?_)⟩
        · obtain ⟨tt, x, y, rfl, et, ex, ey⟩ := hI
          have s3 : Same H H2 := fun b u e => sm _ _ (kp _ _ (ne_of_none (s2 _ _ e) hD) (s2 _ _ e))
          obtain ⟨a, ea, ha⟩ := PdAll.at hxs ex
          obtain ⟨b, eb, hb⟩ := PdAll.at hys ey
          have ez : ((prt F).zip (prt G))[j]? = some (a, b) := by
            rw [List.getElem?_zip_eq_some]
            exact ⟨ea, eb⟩
          rw [List.getElem?_map, List.getElem?_map, ez] at hz
          cases hz
          have h1 := prt_height (Nat.le_of_lt_succ hh) a (List.mem_of_getElem? ea)
          have h1b := prt_height hh2 a (List.mem_of_getElem? ea)
          have h2 := prt_height hh3 b (List.mem_of_getElem? eb)
          refine ⟨tt, _, rfl, st et, rfl, x, _, rfl, y, _, rfl, rfl, rfl, ?_⟩
          exact ⟨_, rfl, _, rfl, _, _, a, b, rfl, ha.same s3, hb.same s3, by omega, by omega, by omega, kk⟩
        · refine ⟨D, _, rfl, sl e, qe (congrArg V.bl hlp.2) (q _ fun b u e => kp _ _ (ne_of_none (s2 _ _ e) hD) (s2 _ _ e))⟩
      · refine itNn hd (qe ?_ (q _ s1))
        rw [(hd1_cases F G (by simpa using hFs) (by simpa using hGs) hd).1]
/-! ### met_forms: only two that are any -/
def sp_met : Sp := fun vs H Q _ => vs = [.str "any", .str "any"] ∧ Q (.str "any") H
theorem sc_met_forms : FnScope ["one", "other", "part", "beside"] ["one", "other"] (defScope s_met_forms) := ⟨rfl, rfl, rfl, by decide +kernel, rfl, by decide +kernel, by decide +kernel⟩
theorem ok_met_forms (T : Tx w K mg) (k : Nat) : Held P w K mg base (k + 1) (He.fAd K ("met_forms", none)) sp_met := by
  refine FunD.held T.f_met_forms sc_met_forms (fun _ _ _ _ _ _ us hl => match us, hl with | [_, _], _ => rfl) (fun vs H Q E h => ?len) (fun fd cdv A outer s H vs Q E hr h => ?body)
  case len => obtain ⟨rfl, _⟩ := h; rfl
  case body =>
    obtain ⟨rfl, q⟩ := h
    refine ⟨_, (pss_cons (ps_if (pt_cmpR (op_eqD hr.units) (pv 0) (pe_gs T.s_ANY_forms) (nomark _)) (pss_one (ps_ret (pv 1))) pss_nil)
      pss_never), ?_⟩
    exact ⟨_, rfl, _, _, .str _, .str _, sany, sany, _, rfl, iteT ⟨_, rfl, q⟩⟩
theorem sc_law_joint : FnScope ["_law_left", "_law_right_here", "_law_part", "_law_beside"] ["_law_left", "_law_right_here"] (defScope s__law_joint) := ⟨rfl, rfl, rfl, by decide +kernel, rfl, by decide +kernel, by decide +kernel⟩
theorem ok_law_joint (T : Tx w K mg) (k : Nat) : Held P w K mg base (k + 1) (He.fAd K ("_law_joint", none)) sp_met := by
  refine FunD.held T.f__law_joint sc_law_joint (fun _ _ _ _ _ _ us hl => match us, hl with | [_, _], _ => rfl) (fun vs H Q E h => ?len) (fun fd cdv A outer s H vs Q E hr h => ?body)
  case len => obtain ⟨rfl, _⟩ := h; rfl
  case body =>
    obtain ⟨rfl, q⟩ := h
    refine ⟨_, (pss_cons (ps_if (pt_cmpR (op_eqD hr.units) (pv 0) pe_str (nomark _)) (pss_one (ps_ret (pv 1))) pss_nil)
      pss_never), ?_⟩
    exact ⟨_, rfl, _, _, .str _, .str _, sany, sany, _, rfl, iteT ⟨_, rfl, q⟩⟩
/-! ### wide_of -/
def sp_wide : Sp := fun vs H Q _ => ∃ F, (F = .deed .any .any ∨ F = .box .any) ∧ vs = [.str (hd1 F)] ∧ ∀ H' v, Same H H' → Pd H' v (Form.d F) → Q v H'
theorem sc_wide_of : FnScope ["head"] ["head"] (defScope s_wide_of) := ⟨rfl, rfl, rfl, by decide +kernel, rfl, by decide +kernel, by decide +kernel⟩
theorem ok_wide_of (T : Tx w K mg) (k : Nat) : Held P w K mg base (k + 1) (He.fAd K ("wide_of", none)) sp_wide := by
  obtain ⟨es, m, hkd_WIDTHS⟩ := T.t_WIDTHS
  refine FunD.held T.f_wide_of sc_wide_of (fun _ _ _ _ _ _ us hl => match us, hl with | [_], _ => rfl) (fun vs H Q E h => ?len) (fun fd cdv A outer s H vs Q E hr h => ?body)
  case len => obtain ⟨F, _, rfl, _⟩ := h; rfl
  case body =>
    obtain ⟨F, hF, rfl, q⟩ := h
    refine ⟨_, (pss_cons (ps_if (pt_cmpR (op_in_kd hkd_WIDTHS) (pv 0) (pe_gr T.g_WIDTHS) (by rfl)) (pss_one (ps_ret (pe_op op_catA (pe_tup (pa_cons (pv 0) pa_nil)) (pe_op op_repA (pe_tup (pa_cons (pe_gs T.s_ANY_forms) pa_nil)) (pe_op op_sub (pe_ix ix_kdict (pe_gr T.g_WIDTHS) (pv 0) (fun _ _ => rfl)) pe_int))))) pss_nil)
      pss_never), ?_⟩
    rcases hF with rfl | rfl
    · obtain ⟨u, eu, ru⟩ := wd_deed T
      refine ⟨_, rfl, _, _, rfl, rfl, eu, _, rfl, iteT ⟨_, rfl, small_sz (by simp), fun p hp => ⟨small_sz (by simp), fun p2 hp2 => ⟨_, rfl, _, _, _, rfl, rfl, kd_deed T, _, _, rfl, rfl, ?_⟩⟩⟩⟩
      have e2 : (upd (upd H p (.tup [.str "deed"])) p2 (.tup [.str "any"])) p = some (.tup [.str "deed"]) := Same.new hp2 _ _ upd_same
      refine .inr ⟨p2, 2, _, rfl, rfl, st upd_same, by simp, by decide, by decide, by simp, fun p3 hp3 => ?_⟩
      refine ⟨p, p3, _, _, rfl, rfl, st (Same.new hp3 _ _ e2), st upd_same, small_sz (by simp), fun z => (List.cons_ne_nil _ _ z).elim, fun _ z => ?_, fun _ _ p4 hp4 => ?_⟩
      · exact absurd z (by simp [List.replicate])
      · exact q _ _ ((Same.new hp).trans ((Same.new hp2).trans ((Same.new hp3).trans (Same.new hp4)))) (fdeed upd_same (fany _) (fany _))
    · obtain ⟨u, eu, ru⟩ := wd_box T
      refine ⟨_, rfl, _, _, rfl, rfl, eu, _, rfl, iteT ⟨_, rfl, small_sz (by simp), fun p hp => ⟨small_sz (by simp), fun p2 hp2 => ⟨_, rfl, _, _, _, rfl, rfl, kd_box T, _, _, rfl, rfl, ?_⟩⟩⟩⟩
      have e2 : (upd (upd H p (.tup [.str "box"])) p2 (.tup [.str "any"])) p = some (.tup [.str "box"]) := Same.new hp2 _ _ upd_same
      refine .inl ⟨p2, _, rfl, rfl, st upd_same, ?_⟩
      refine ⟨p, p2, _, _, rfl, rfl, st e2, st upd_same, small_sz (by simp), fun z => (List.cons_ne_nil _ _ z).elim, fun _ z => ?_, fun _ _ p4 hp4 => ?_⟩
      · exact absurd z (by simp)
      · exact q _ _ ((Same.new hp).trans ((Same.new hp2).trans (Same.new hp4))) (fbox upd_same (fany _))
/-! ### low -/
def sp_low : Sp := fun vs H Q _ => ∃ v F, vs = [v] ∧ Pd H v (Form.d F) ∧ F.height ≤ 5 ∧ ∀ H', Same H H' → Q v H'
theorem sc_low : FnScope ["form"] ["form"] (defScope s_low) := ⟨rfl, rfl, rfl, by decide +kernel, rfl, by decide +kernel, by decide +kernel⟩
theorem ok_low (T : Tx w K mg) (k : Nat) : Held P w K mg base (k + 8) (He.fAd K ("low", none)) sp_low := by
  have G_height_of_form := ok_height_of_form (P := P) (base := base) T k 6
  refine FunD.held T.f_low sc_low (fun _ _ _ _ _ _ us hl => match us, hl with | [_], _ => rfl) (fun vs H Q E h => ?len) (fun fd cdv A outer s H vs Q E hr h => ?body)
  case len => obtain ⟨v, F, rfl, _⟩ := h; rfl
  case body =>
    obtain ⟨v, F, rfl, hF, hh, q⟩ := h
    refine ⟨_, (pss_cons (ps_if (pt_cmpR op_gt (pe_cl G_height_of_form hr T.g_height_of_form (pa_cons (pv 0) pa_nil)) (pe_gi T.i_MOST_HEIGHT) (nomark _)) (pss_one ps_never) pss_nil)
      (pss_one (ps_ret (pv 0)))), ?_⟩
    refine ⟨_, rfl, v, F, rfl, hF, by omega, fun H' s => ⟨_, _, rfl, rfl, _, rfl, itDn (by omega) ⟨_, rfl, q _ s⟩⟩⟩
def sp_law_low : Sp := fun vs H Q _ => ∃ v u F, vs = [v, u] ∧ Pd H u (Form.d F) ∧ F.height ≤ 5 ∧ ∀ H' p, Same H H' → H' p = some (.tup [v, u, .non]) → Q (.ref p) H'
theorem sc_law_low : FnScope ["_law_placed", "_law_form_here"] ["_law_placed", "_law_form_here"] (defScope s__law_low) := ⟨rfl, rfl, rfl, by decide +kernel, rfl, by decide +kernel, by decide +kernel⟩
theorem ok_law_low (T : Tx w K mg) (k : Nat) : Held P w K mg base (k + 8) (He.fAd K ("_law_low", none)) sp_law_low := by
  have G_law_height := ok_law_height (P := P) (base := base) T k 6
  refine FunD.held T.f__law_low sc_law_low (fun _ _ _ _ _ _ us hl => match us, hl with | [_, _], _ => rfl) (fun vs H Q E h => ?len) (fun fd cdv A outer s H vs Q E hr h => ?body)
  case len => obtain ⟨v, u, F, rfl, _⟩ := h; rfl
  case body =>
    obtain ⟨v, u, F, rfl, hF, hh, q⟩ := h
    refine ⟨_, (pss_one (ps_ret (pe_ifExp (pt_cmpR op_gt (pe_cl G_law_height hr T.g__law_height (pa_cons (pv 1) pa_nil)) pe_int (nomark _)) (pe_tup (pa_cons pe_non (pa_cons pe_non (pa_cons (pe_tup (pa_cons pe_str (pa_cons pe_non pa_nil))) pa_nil)))) (pe_tup (pa_cons (pv 0) (pa_cons (pv 1) (pa_cons pe_non pa_nil))))))), ?_⟩
    refine ⟨_, rfl, u, F, rfl, hF, by omega, fun H' s => ⟨_, _, rfl, rfl, _, rfl, itDn (by omega) ⟨_, rfl, _, rfl, small_sz (by simp), fun p hp => q _ _ (s.trans (Same.new hp)) upd_same⟩⟩⟩
/-! ### walled -/
def sp_walled : Sp := fun vs H Q _ => ∃ m v a b t A B, vs = [.str m, v, a, b] ∧ Pd H v (Term.d t) ∧ Pd H a (Form.d A) ∧ Pd H b (Form.d B) ∧ A.height ≤ 8 ∧ B.height ≤ 8 ∧ near A B = true ∧
  ∀ H' v', Same H H' → Pd H' v' (Term.d (fence m A B t)) → Q v' H'
theorem fence_eq (m : Str) (A : Form) (t : Term) : fence m A A t = t := if_pos rfl
theorem fence_ne (m : Str) {A B : Form} (h : A ≠ B) (t : Term) : fence m A B t = .wall m A B t := if_neg h
theorem sc_walled : FnScope ["mark", "placed", "form", "want"] ["mark", "placed", "form", "want"] (defScope s_walled) := ⟨rfl, rfl, rfl, by decide +kernel, rfl, by decide +kernel, by decide +kernel⟩
theorem ok_walled (T : Tx w K mg) (k : Nat) : Held P w K mg base (k + 11) (He.fAd K ("walled", none)) sp_walled := by
  have G_near_forms := ok_near_forms (P := P) (base := base) T k 9
  refine FunD.held T.f_walled sc_walled (fun _ _ _ _ _ _ us hl => match us, hl with | [_, _, _, _], _ => rfl) (fun vs H Q E h => ?len) (fun fd cdv A outer s H vs Q E hr h => ?body)
  case len => obtain ⟨m, v, a, b, t, A, B, rfl, _⟩ := h; rfl
  case body =>
    obtain ⟨m, v, a, b, t, A, B, rfl, hv, ha, hb, hA, hB, hn, q⟩ := h
    refine ⟨_, (pss_cons (ps_if (pt_cmpR (op_eqD hr.units) (pv 2) (pv 3) (nomark _)) (pss_one (ps_ret (pv 1))) pss_nil)
      (pss_cons (ps_if (pt_not (pt_val (pe_cl G_near_forms hr T.g_near_forms (pa_cons (pv 2) (pa_cons (pv 3) pa_nil))))) (pss_one ps_never) pss_nil)
      (pss_one (ps_ret (pe_tup (pa_cons (pe_gs T.s_WALL) (pa_cons (pv 0) (pa_cons (pv 2) (pa_cons (pv 3) (pa_cons (pv 1) pa_nil)))))))))), ?_⟩
    refine ⟨_, rfl, _, rfl, _, _, ha.dp, hb.dp, shaped_form A (by omega), shaped_form B (by omega), _, rfl, ?_⟩
    rw [eqv_form]
    by_cases e : A = B
    · subst e
      refine itD rfl ⟨_, rfl, q _ _ (Same.refl _) ?_⟩
      rw [fence_eq]
      exact hv
    · refine itDn e ⟨_, rfl, _, rfl, a, b, A, B, rfl, ha, hb, by omega, by omega, by omega, fun H' s => ⟨_, rfl, ?_⟩⟩
      rw [hn]
      refine iteF ⟨_, rfl, _, rfl, _, rfl, _, rfl, small_sz (by simp), fun p hp => q _ _ (s.trans (Same.new hp)) ?_⟩
      rw [fence_ne m e]
      have s2 := s.trans (Same.new hp (o := .tup [.str "wall", .str m, a, b, v]))
      exact .m5 upd_same (.str _) (.str _) (ha.same s2) (hb.same s2) (hv.same s2)
end
end WS
set_option Elab.async false
set_option linter.all false
set_option maxRecDepth 100000
set_option maxHeartbeats 4000000
/-! terms as they lie: the word, then the rest by sorts -/
namespace WS
open PySem L2
inductive Ar where
  | w (n : Int) | l (x : Str) | nm (x : Str) | A (F : Form) | e (t : Term)
def Ar.d : Ar → PyData
  | .w n => .int n
  | .l x => .str x
  | .nm x => .str x
  | .A F => F.d
  | .e t => t.d
def Ar.c : Ar → Nat
  | .w _ => 119
  | .l _ => 108
  | .nm _ => 120
  | .A _ => 65
  | .e _ => 101
def hdw : Term → Str
  | .number _ => "number"
  | .txt _ => "text"
  | .name _ => "name"
  | .deed _ _ _ => "deed"
  | .call _ _ => "call"
  | .lets _ _ _ => "let"
  | .tell _ _ => "tell"
  | .ite _ _ _ => "if"
  | .sum s _ _ => word s
  | .size _ => "size"
  | .box _ _ => "box"
  | .read _ => "read"
  | .write _ _ => "write"
  | .same _ _ => "same"
  | .wall _ _ _ _ => "wall"
def ars : Term → List Ar
  | .number n => [.w n]
  | .txt x => [.l x]
  | .name x => [.nm x]
  | .deed x A e => [.nm x, .A A, .e e]
  | .call f e => [.e f, .e e]
  | .lets x e f => [.nm x, .e e, .e f]
  | .tell A e => [.A A, .e e]
  | .ite c e f => [.e c, .e e, .e f]
  | .sum _ e f => [.e e, .e f]
  | .size e => [.e e]
  | .box A e => [.A A, .e e]
  | .read e => [.e e]
  | .write e f => [.e e, .e f]
  | .same e f => [.e e, .e f]
  | .wall m A B e => [.nm m, .A A, .A B, .e e]
def wall? : Term → Bool
  | .wall _ _ _ _ => true
  | _ => false
theorem d_ars (t : Term) : t.d = .tuple (.str (hdw t) :: (ars t).map Ar.d) := by cases t <;> rfl
def shp (t : Term) : Str := ⟨((ars t).map Ar.c).toArray⟩
def Ar.sub : Ar → Option Term
  | .e t => some t
  | _ => none
def subs (t : Term) : List Term := (ars t).filterMap Ar.sub
theorem PdAll.atG {α : Type} {f : α → PyData} {H : Hp} : ∀ {vs : List V} {Fs : List α} {i : Nat} {v : V}, PdAll H vs (Fs.map f) → vs[i]? = some v → ∃ F, Fs[i]? = some F ∧ Pd H v (f F)
  | _, [], i, v, h, e => by
    cases h
    simp at e
  | _, F :: Fs, 0, v, h, e => by
    obtain ⟨x, r, rfl, h1, h2⟩ := h.cons_of
    cases e
    exact ⟨F, rfl, h1⟩
  | _, F :: Fs, i + 1, v, h, e => by
    obtain ⟨x, r, rfl, h1, h2⟩ := h.cons_of
    exact PdAll.atG (i := i) h2 e
theorem td_tup {H : Hp} {v : V} (t : Term) (h : Pd H v t.d) : ∃ p xs, v = .ref p ∧ H p = some (.tup (.str (hdw t) :: xs)) ∧ PdAll H xs ((ars t).map Ar.d) := by
  rw [d_ars] at h
  obtain ⟨p, ys, rfl, hp, hys⟩ := h.tup_of
  obtain ⟨x, r, rfl, h1, h2⟩ := hys.cons_of
  cases h1.str_of
  exact ⟨p, r, rfl, hp, h2⟩
theorem td_mk {H : Hp} {p : Addr} {xs : List V} (t : Term) (hp : H p = some (.tup (.str (hdw t) :: xs))) (h : PdAll H xs ((ars t).map Ar.d)) : Pd H (.ref p) t.d := by
  rw [d_ars]
  exact .tup hp (.cons (.str _) h)
theorem ars_len (t : Term) : (ars t).length ≤ 4 := by cases t <;> simp [ars]
/-- what Wr says of the rest -/
def Ar.ok : Ar → Prop
  | .w n => n.natAbs < 10 ^ 31
  | .l x => x.length ≤ 8 ∧ letters x
  | .nm x => IsName x
  | .A F => F.height ≤ 5
  | .e t => Wr t
theorem wr_ars (t : Term) (h : Wr t) : wall? t = false ∧ ∀ r ∈ ars t, r.ok := by
  cases t with
  | wall => exact h.elim
  | number n => exact ⟨rfl, fun r hr => by cases List.mem_singleton.mp hr; exact h⟩
  | txt n => exact ⟨rfl, fun r hr => by cases List.mem_singleton.mp hr; exact h⟩
  | name n => exact ⟨rfl, fun r hr => by cases List.mem_singleton.mp hr; exact h⟩
  | deed x A e =>
    obtain ⟨h1, h2, h3⟩ := h
    refine ⟨rfl, fun r hr => ?_⟩
    simp only [ars, List.mem_cons, List.not_mem_nil, or_false] at hr
    rcases hr with rfl | rfl | rfl <;> assumption
  | call f e =>
    obtain ⟨h1, h2⟩ := h
    refine ⟨rfl, fun r hr => ?_⟩
    simp only [ars, List.mem_cons, List.not_mem_nil, or_false] at hr
    rcases hr with rfl | rfl <;> assumption
  | lets x e f =>
    obtain ⟨h1, h2, h3⟩ := h
    refine ⟨rfl, fun r hr => ?_⟩
    simp only [ars, List.mem_cons, List.not_mem_nil, or_false] at hr
    rcases hr with rfl | rfl | rfl <;> assumption
  | tell A e =>
    obtain ⟨h1, h2⟩ := h
    refine ⟨rfl, fun r hr => ?_⟩
    simp only [ars, List.mem_cons, List.not_mem_nil, or_false] at hr
    rcases hr with rfl | rfl <;> assumption
  | ite c e f =>
    obtain ⟨h1, h2, h3⟩ := h
    refine ⟨rfl, fun r hr => ?_⟩
    simp only [ars, List.mem_cons, List.not_mem_nil, or_false] at hr
    rcases hr with rfl | rfl | rfl <;> assumption
  | sum s e f =>
    obtain ⟨h1, h2⟩ := h
    refine ⟨rfl, fun r hr => ?_⟩
    simp only [ars, List.mem_cons, List.not_mem_nil, or_false] at hr
    rcases hr with rfl | rfl <;> assumption
  | size e => exact ⟨rfl, fun r hr => by cases List.mem_singleton.mp hr; exact h⟩
  | box A e =>
    obtain ⟨h1, h2⟩ := h
    refine ⟨rfl, fun r hr => ?_⟩
    simp only [ars, List.mem_cons, List.not_mem_nil, or_false] at hr
    rcases hr with rfl | rfl <;> assumption
  | read e => exact ⟨rfl, fun r hr => by cases List.mem_singleton.mp hr; exact h⟩
  | write e f =>
    obtain ⟨h1, h2⟩ := h
    refine ⟨rfl, fun r hr => ?_⟩
    simp only [ars, List.mem_cons, List.not_mem_nil, or_false] at hr
    rcases hr with rfl | rfl <;> assumption
  | same e f =>
    obtain ⟨h1, h2⟩ := h
    refine ⟨rfl, fun r hr => ?_⟩
    simp only [ars, List.mem_cons, List.not_mem_nil, or_false] at hr
    rcases hr with rfl | rfl <;> assumption
theorem sub_depth (t : Term) : ∀ s, Ar.e s ∈ ars t → s.depth + 1 ≤ t.depth := by
  intro s hs
  cases t <;> simp only [ars, List.mem_cons, List.not_mem_nil, or_false, Ar.e.injEq, reduceCtorEq, false_or] at hs <;> simp only [Term.depth]
  all_goals first
    | (rcases hs with rfl | rfl | rfl <;> omega)
    | (rcases hs with rfl | rfl <;> omega)
    | (subst hs; omega)
theorem hdw_ok (t : Term) : PyData.strOk (hdw t) = true := by
  cases t with
  | sum s _ _ => cases s <;> simp only [hdw, word] <;> decide +kernel
  | _ =>
    simp only [hdw]
    decide +kernel
theorem letters_ok {x : Str} (h : letters x) : PyData.strOk x = true := by
  unfold PyData.strOk
  rw [Array.all_eq_true]
  intro i hi
  have := h x.cps[i] (Array.getElem_mem_toList hi)
  exact decide_eq_true (by have := this.2; omega)
theorem layAll {ds : List PyData} (h : ∀ d ∈ ds, d.canLay0 = true) : PyData.canLayAll0 ds = true := by
  induction ds with
  | nil => rfl
  | cons d r ih =>
    simp only [PyData.canLayAll0]
    rw [h d List.mem_cons_self, ih fun x hx => h x (List.mem_cons_of_mem _ hx)]
    rfl
theorem depthAll_le {ds : List PyData} {n : Nat} (h : ∀ d ∈ ds, d.depth ≤ n) : PyData.depthAll ds ≤ n := by
  induction ds with
  | nil => exact Nat.zero_le _
  | cons d r ih =>
    simp only [PyData.depthAll]
    have h1 := h d List.mem_cons_self
    have h2 := ih fun x hx => h x (List.mem_cons_of_mem _ hx)
    omega
theorem lay_term : ∀ (n : Nat) (t : Term), t.depth ≤ n → Wr t → t.d.canLay0 = true ∧ t.d.depth ≤ t.depth + 6
  | 0, t, h, _ => by cases t <;> simp [Term.depth] at h
  | n + 1, t, h, hw => by
    have ha := (wr_ars t hw).2
    have hs := sub_depth t
    have hr : ∀ d ∈ (ars t).map Ar.d, d.canLay0 = true ∧ d.depth ≤ t.depth + 5 := fun d hd => by
      obtain ⟨r, hr, rfl⟩ := List.mem_map.mp hd
      have ok := ha r hr
      cases r with
      | w n => exact ⟨rfl, Nat.zero_le _⟩
      | l x => exact ⟨letters_ok ok.2, Nat.zero_le _⟩
      | nm x => exact ⟨letters_ok ok.abc, Nat.zero_le _⟩
      | A F =>
        have l := lay_form F
        have ok : F.height ≤ 5 := ok
        have h1 : 1 ≤ t.depth := by cases t <;> simp [Term.depth]
        exact ⟨l.1, by have := l.2; show F.d.depth ≤ _; omega⟩
      | e s =>
        have h2 := hs s hr
        have l := lay_term n s (by omega) ok
        exact ⟨l.1, by have := l.2; show s.d.depth ≤ _; omega⟩
    rw [d_ars]
    refine ⟨?_, ?_⟩
    · simp only [PyData.canLay0, PyData.canLayAll0]
      rw [hdw_ok, layAll fun d hd => (hr d hd).1]
      rfl
    · simp only [PyData.depth, PyData.depthAll]
      have := depthAll_le fun d hd => (hr d hd).2
      omega
theorem shaped_term (t : Term) (h : t.depth ≤ 50) (hw : Wr t) : SeqAt.shaped t.d = true := by
  have l := lay_term t.depth t (Nat.le_refl _) hw
  unfold SeqAt.shaped
  rw [l.1, Bool.true_and, decide_eq_true_eq]
  have := l.2
  omega
section
variable {w : World} {K : PySem.W.Frag} {mg : Str → Option Value}
theorem sh_of (T : Tx w K mg) (t : Term) (hw : wall? t = false) : ∃ u, PySem.W.nsIn K (He.ga K "SHAPES") (hdw t) = some (some u) ∧ RelV (.str (shp t)) u := by
  cases t with
  | wall => cases hw
  | sum s _ _ => cases s with
    | true => exact T.v_SHAPES (q := ("sub", .str "ee")) (by simp [v_SHAPES])
    | false => exact T.v_SHAPES (q := ("add", .str "ee")) (by simp [v_SHAPES])
  | number => exact T.v_SHAPES (q := ("number", .str "w")) (by simp [v_SHAPES])
  | txt => exact T.v_SHAPES (q := ("text", .str "l")) (by simp [v_SHAPES])
  | name => exact T.v_SHAPES (q := ("name", .str "x")) (by simp [v_SHAPES])
  | deed => exact T.v_SHAPES (q := ("deed", .str "xAe")) (by simp [v_SHAPES])
  | call => exact T.v_SHAPES (q := ("call", .str "ee")) (by simp [v_SHAPES])
  | lets => exact T.v_SHAPES (q := ("let", .str "xee")) (by simp [v_SHAPES])
  | tell => exact T.v_SHAPES (q := ("tell", .str "Ae")) (by simp [v_SHAPES])
  | ite => exact T.v_SHAPES (q := ("if", .str "eee")) (by simp [v_SHAPES])
  | size => exact T.v_SHAPES (q := ("size", .str "e")) (by simp [v_SHAPES])
  | box => exact T.v_SHAPES (q := ("box", .str "Ae")) (by simp [v_SHAPES])
  | read => exact T.v_SHAPES (q := ("read", .str "e")) (by simp [v_SHAPES])
  | write => exact T.v_SHAPES (q := ("write", .str "ee")) (by simp [v_SHAPES])
  | same => exact T.v_SHAPES (q := ("same", .str "ee")) (by simp [v_SHAPES])
theorem kd_sh (T : Tx w K mg) (t : Term) (hw : wall? t = false) : KDct K w (He.ga K "SHAPES") (hdw t) (.str (shp t)) := by
  obtain ⟨es, n, D⟩ := T.t_SHAPES
  obtain ⟨u, e, r⟩ := sh_of T t hw
  exact ⟨es, n, u, D.at_, D.lit, e, r⟩
end
end WS
set_option Elab.async false
set_option linter.all false
set_option maxRecDepth 100000
set_option maxHeartbeats 4000000
namespace WS
open PySem L2
section
variable {P : Program} {w : World} {K : PySem.W.Frag} {mg : Str → Option Value} {base : Heap}
def sp_is_whole : Sp := fun vs H Q _ => ∃ n : Int, vs = [.int n] ∧ Q (.bl true) H
theorem sc_is_whole : FnScope ["thing"] ["thing"] (defScope s_is_whole) := ⟨rfl, rfl, rfl, by decide +kernel, rfl, by decide +kernel, by decide +kernel⟩
theorem ok_is_whole (T : Tx w K mg) (k : Nat) : Held P w K mg base (k + 1) (He.fAd K ("is_whole", none)) sp_is_whole := by
  refine FunD.held T.f_is_whole sc_is_whole (fun _ _ _ _ _ _ us hl => match us, hl with | [_], _ => rfl) (fun vs H Q E h => ?len) (fun fd cdv A outer s H vs Q E hr h => ?body)
  case len => obtain ⟨n, rfl, _⟩ := h; rfl
  case body =>
    obtain ⟨n, rfl, q⟩ := h
    exact ⟨_, (pss_one (ps_ret (pe_and (pe_callB call_isN (by rfl) T.b_isinstance (by decide +kernel) (pa_cons (pv 0) (pa_cons (pe_bltn (v := .ty "int") (by rfl) T.b_int (by decide +kernel) rfl) pa_nil))) (pe_one (pe_not (pe_callB call_isN (by rfl) T.b_isinstance (by decide +kernel) (pa_cons (pv 0) (pa_cons (pe_bltn (v := .ty "bool") (by rfl) T.b_bool (by decide +kernel) rfl) pa_nil)))))))), _, rfl, _, _, _, _, rfl, .int _, kii, _, rfl, iteT ⟨_, rfl, _, _, _, _, rfl, .int _, kib, _, rfl, q⟩⟩
def sp_is_written : Sp := fun vs H Q _ => ∃ x : Str, vs = [.str x] ∧ x.length ≤ 8 ∧ letters x ∧ ∀ H', Same H H' → Q (.bl true) H'
theorem sc_is_written : FnScope ["thing", "sign"] ["thing"] (defScope s_is_written) := ⟨rfl, rfl, rfl, by decide +kernel, rfl, by decide +kernel, by decide +kernel⟩
theorem ok_is_written (T : Tx w K mg) (k : Nat) : Held P w K mg base (k + 1) (He.fAd K ("is_written", none)) sp_is_written := by
  refine FunD.held T.f_is_written sc_is_written (fun _ _ _ _ _ _ us hl => match us, hl with | [_], _ => rfl) (fun vs H Q E h => ?len) (fun fd cdv A outer s H vs Q E hr h => ?body)
  case len => obtain ⟨x, rfl, _⟩ := h; rfl
  case body =>
    obtain ⟨x, rfl, h2, hx, q⟩ := h
    refine ⟨_, (pss_one (ps_ret (pe_and (pe_callB call_isN (by rfl) T.b_isinstance (by decide +kernel) (pa_cons (pv 0) (pa_cons (pe_bltn (v := .ty "str") (by rfl) T.b_str (by decide +kernel) rfl) pa_nil))) (pe_and (pe_cmpR op_le (pe_callB call_len_str (by rfl) T.b_len PySem.boot_len (pa_cons (pv 0) pa_nil)) (pe_gi T.i_MOST_SIGNS) (nomark _)) (pe_one (pe_callB (cr_all rfl) (by rfl) T.b_all (by decide +kernel) (pa_cons (pe_lc (own := [("sign", 1)]) rfl sc_is_written.nd (pi_str (pv 0)) (blkOk_by (own := [("sign", 1)]) (N := ["thing", "sign"]) (sc := defScope s_is_written) (by decide +kernel)) (fun _ _ _ _ _ => (pg_name (i := 1) sc_is_written.nd rfl (Or.inl rfl))) (fun _ _ _ _ _ => pts_nil) (fun _ _ _ _ _ => (pe_cmpR op_in_sign (pv 1) (pe_gs T.s_LETTERS_terms) (by rfl)))) pa_nil))))))), ?_⟩
    refine ⟨_, rfl, _, _, _, _, rfl, .str _, kss, _, rfl, iteT ⟨_, rfl, _, rfl, small_sz (by omega), _, _, rfl, rfl, _, rfl, itD (by omega) ?_⟩⟩
    refine ⟨_, rfl, _, rfl, fun D hD => lcF src_str (List.replicate x.length (.bl true)) (small_sz (by rw [← len_size]; omega)) (by simp [len_size]) hD (fun _ _ => trivial) (fun i y z H' H2 KK hi hz kp sm hI kk => ?_) (fun H' kp e => ?_)⟩
    · obtain ⟨c, hc, rfl⟩ := hI
      refine ⟨rfl, _, rfl, _, _, rfl, rfl, ?_⟩
      have hm := abc_letters c (hx c (by rw [← Array.getElem?_toList] at hc; exact List.mem_of_getElem? hc))
      rw [decide_eq_true hm]
      have := List.mem_of_getElem? hz
      rw [List.mem_replicate] at this
      rw [this.2] at kk
      exact kk _ (Same.refl _)
    · refine ⟨D, List.replicate x.length true, rfl, sl (by rw [List.map_replicate]; exact e), ?_⟩
      rw [show (List.replicate x.length true).all id = true by simp]
      exact q _ fun b o hb => kp b o (ne_of_none hb hD) hb
def sp_fits (n : Nat) : Sp := fun vs H Q _ => ∃ c r v, vs = [.str ⟨#[c]⟩, v] ∧ c = Ar.c r ∧ Pd H v (Ar.d r) ∧ r.ok ∧ (∀ t, r = .e t → t.depth < n) ∧ ∀ H', Same H H' → Q (.bl true) H'
def sp_is_term (n : Nat) : Sp := fun vs H Q _ => ∃ v t, vs = [v] ∧ Pd H v (Term.d t) ∧ Wr t ∧ t.depth < n ∧ t.depth ≤ 50 ∧ ∀ H', Same H H' → Q (.bl true) H'
theorem sc_fits : FnScope ["sort", "thing"] ["sort", "thing"] (defScope s_fits) := ⟨rfl, rfl, rfl, by decide +kernel, rfl, by decide +kernel, by decide +kernel⟩
theorem ok_fits (T : Tx w K mg) (k n : Nat) (hn : n ≤ 50) (G_is_term : Held P w K mg base (k + 8) (He.fAd K ("is_term", none)) (sp_is_term n)) : Held P w K mg base (k + 9) (He.fAd K ("fits", none)) (sp_fits n) := by
  have G_is_whole := (ok_is_whole (P := P) (base := base) T (k + 7))
  have G_is_written := (ok_is_written (P := P) (base := base) T (k + 7))
  have G_is_name := (ok_is_name (P := P) (base := base) T (k + 7))
  have G_is_form := (ok_is_form (P := P) (base := base) T k)
  refine FunD.held T.f_fits sc_fits (fun _ _ _ _ _ _ us hl => match us, hl with | [_, _], _ => rfl) (fun vs H Q E h => ?len) (fun fd cdv A outer s H vs Q E hr h => ?body)
  case len => obtain ⟨c, r, v, rfl, _⟩ := h; rfl
  case body =>
    obtain ⟨c, r, v, rfl, hc, hv, ok, hd, q⟩ := h
    refine ⟨_, (pss_cons (ps_if (pt_cmpR op_eq (pv 0) pe_str (nomark _)) (pss_one (ps_ret (pe_cl G_is_whole hr T.g_is_whole (pa_cons (pv 1) pa_nil)))) pss_nil)
      (pss_cons (ps_if (pt_cmpR op_eq (pv 0) pe_str (nomark _)) (pss_one (ps_ret (pe_cl G_is_written hr T.g_is_written (pa_cons (pv 1) pa_nil)))) pss_nil)
      (pss_cons (ps_if (pt_cmpR op_eq (pv 0) pe_str (nomark _)) (pss_one (ps_ret (pe_cl G_is_name hr T.g_is_name (pa_cons (pv 1) pa_nil)))) pss_nil)
      (pss_one (ps_ret (pe_ifExp (pt_cmpR op_eq (pv 0) pe_str (nomark _)) (pe_cl G_is_form hr T.g_is_form (pa_cons (pv 1) pa_nil)) (pe_cl G_is_term hr T.g_is_term (pa_cons (pv 1) pa_nil)))))))), ?_⟩
    cases r with
    | w i =>
      obtain rfl : c = 119 := hc
      cases (show Pd H v (.int i) from hv).int_of
      exact ⟨_, rfl, rfl, _, rfl, itD (by decide +kernel) ⟨_, rfl, _, rfl, q _ (Same.refl _)⟩⟩
    | l x =>
      obtain rfl : c = 108 := hc
      cases (show Pd H v (.str x) from hv).str_of
      exact ⟨_, rfl, rfl, _, rfl, itDn (by decide +kernel) ⟨_, rfl, rfl, _, rfl, itD (by decide +kernel) ⟨_, rfl, _, rfl, ok.1, ok.2, q⟩⟩⟩
    | nm x =>
      obtain rfl : c = 120 := hc
      cases (show Pd H v (.str x) from hv).str_of
      exact ⟨_, rfl, rfl, _, rfl, itDn (by decide +kernel) ⟨_, rfl, rfl, _, rfl, itDn (by decide +kernel) ⟨_, rfl, rfl, _, rfl, itD (by decide +kernel) ⟨_, rfl, _, rfl, ok, q⟩⟩⟩⟩
    | A F =>
      obtain rfl : c = 65 := hc
      exact ⟨_, rfl, rfl, _, rfl, itDn (by decide +kernel) ⟨_, rfl, rfl, _, rfl, itDn (by decide +kernel) ⟨_, rfl, rfl, _, rfl, itDn (by decide +kernel) ⟨_, rfl, rfl, _, rfl, itD (by decide +kernel) ⟨_, rfl, v, F, rfl, hv, ok, q⟩⟩⟩⟩⟩
    | e t =>
      obtain rfl : c = 101 := hc
      have h1 := hd t rfl
      exact ⟨_, rfl, rfl, _, rfl, itDn (by decide +kernel) ⟨_, rfl, rfl, _, rfl, itDn (by decide +kernel) ⟨_, rfl, rfl, _, rfl, itDn (by decide +kernel) ⟨_, rfl, rfl, _, rfl, itDn (by decide +kernel) ⟨_, rfl, v, t, rfl, hv, ok, h1, by omega, q⟩⟩⟩⟩⟩
theorem signs_get {x : Str} {i : Nat} {v : V} (h : (signs x)[i]? = some v) : ∃ c, x.cps[i]? = some c ∧ v = .str ⟨#[c]⟩ := by
  unfold signs at h
  rw [List.getElem?_map, Option.map_eq_some_iff] at h
  obtain ⟨c, hc, rfl⟩ := h
  exact ⟨c, by rw [← Array.getElem?_toList]; exact hc, rfl⟩
theorem signs_len (x : Str) : (signs x).length = x.length := by
  unfold signs
  rw [List.length_map, Array.length_toList]
  rfl
theorem shp_len (t : Term) : (shp t).length = (ars t).length := by
  show ((ars t).map Ar.c).toArray.size = _
  simp
theorem eqv_term_nil (t : Term) : PyData.eqv t.d (.tuple []) = false := by
  rw [d_ars]
  rfl
theorem sc_is_term : FnScope ["thing", "word", "others", "shape", "sort", "one"] ["thing"] (defScope s_is_term) := ⟨rfl, rfl, rfl, by decide +kernel, rfl, by decide +kernel, by decide +kernel⟩
theorem ok_is_term (T : Tx w K mg) (k : Nat) : ∀ n, n ≤ 50 → Held P w K mg base (k + 2 * n + 8) (He.fAd K ("is_term", none)) (sp_is_term n)
  | 0, _ => by
    obtain ⟨es, m, hkd_SHAPES⟩ := T.t_SHAPES
    refine FunD.held T.f_is_term sc_is_term (fun _ _ _ _ _ _ us hl => match us, hl with | [_], _ => rfl) (fun vs H Q E h => ?len) (fun fd cdv A outer s H vs Q E hr h => ?body)
    case len => obtain ⟨v, t, rfl, _⟩ := h; rfl
    case body => obtain ⟨v, t, rfl, _, _, hF, _⟩ := h; exact absurd hF (Nat.not_lt_zero _)
  | n + 1, hn => by
    have G_fits := ok_fits T (k + 2 * n) n (by omega) (ok_is_term T k n (by omega))
    obtain ⟨es, m, hkd_SHAPES⟩ := T.t_SHAPES
    refine FunD.held T.f_is_term sc_is_term (fun _ _ _ _ _ _ us hl => match us, hl with | [_], _ => rfl) (fun vs H Q E h => ?len) (fun fd cdv A outer s H vs Q E hr h => ?body)
    case len => obtain ⟨v, t, rfl, _⟩ := h; rfl
    case body =>
      obtain ⟨v, t, rfl, hv, hw, hd, hd2, q⟩ := h
      refine ⟨_, (pss_cons (ps_if (PW.pt (pw_or (pt_not (pt_val (pe_callB call_isN (by rfl) T.b_isinstance (by decide +kernel) (pa_cons (pv 0) (pa_cons (pe_bltn (v := .ty "tuple") (by rfl) T.b_tuple (by decide +kernel) rfl) pa_nil))))) (pw_or (pt_cmpR (op_eqD hr.units) (pv 0) (pe_tup pa_nil) (nomark _)) (pw_or (pt_not (pt_val (pe_callB call_isN (by rfl) T.b_isinstance (by decide +kernel) (pa_cons (pe_ix ix_tup (pv 0) pe_int (fun _ _ => rfl)) (pa_cons (pe_bltn (v := .ty "str") (by rfl) T.b_str (by decide +kernel) rfl) pa_nil))))) (pw_or1 (pt_cmpR (op_notIn_kd hkd_SHAPES) (pe_ix ix_tup (pv 0) pe_int (fun _ _ => rfl)) (pe_gr T.g_SHAPES) (by rfl))))))) (pss_one (ps_ret pe_bl)) pss_nil)
      (pss_cons (ps_asg (pv 0) (pg_star rfl (pgs_cons (pg_name (i := 1) sc_is_term.nd rfl (Or.inl rfl)) (pgs_cons (pg_name (i := 2) sc_is_term.nd rfl (Or.inl rfl)) pgs_nil))))
      (pss_cons (ps_set (i := 3) sc_is_term.nd rfl (by first | exact Or.inl rfl | exact Or.inr rfl) (pe_ix ix_kdict (pe_gr T.g_SHAPES) (pv 1) (fun _ _ => rfl)))
      (pss_one (ps_ret (pe_and (pe_cmpR op_eq (pe_callB call_len_seq (by rfl) T.b_len PySem.boot_len (pa_cons (pv 2) pa_nil)) (pe_callB call_len_str (by rfl) T.b_len PySem.boot_len (pa_cons (pv 3) pa_nil)) (nomark _)) (pe_one (pe_callB (cr_all rfl) (by rfl) T.b_all (by decide +kernel) (pa_cons (pe_lc (own := [("sort", 4), ("one", 5)]) rfl sc_is_term.nd (pi_zipB (by rfl) T.b_zip (pa_cons (pv 3) (pa_cons (pv 2) pa_nil))) (blkOk_by (own := [("sort", 4), ("one", 5)]) (N := ["thing", "word", "others", "shape", "sort", "one"]) (sc := defScope s_is_term) (by decide +kernel)) (fun _ _ _ _ _ => (pg_tupK (K := K) (n := 2) rfl (pgs_cons (pg_name (i := 4) sc_is_term.nd rfl (Or.inl rfl)) (pgs_cons (pg_name (i := 5) sc_is_term.nd rfl (Or.inl rfl)) pgs_nil)))) (fun _ _ _ _ _ => pts_nil) (fun _ _ _ _ _ => (pe_cl G_fits hr T.g_fits (pa_cons (pv 4) (pa_cons (pv 5) pa_nil))))) pa_nil))))))))), ?_⟩
      have hsh := shaped_term t hd2 hw
      obtain ⟨hnw, hok⟩ := wr_ars t hw
      obtain ⟨p, xs, rfl, hp, hxs⟩ := td_tup t hv
      refine ⟨_, rfl, _, _, _, _, rfl, .tup hp, ktt, _, rfl, iteF ⟨_, rfl, Nat.zero_le _, fun e he => ?_⟩⟩
      have s1 : Same H (upd H e (.tup [])) := Same.new he
      refine ⟨_, _, (hv.same s1).dp, .tup (st upd_same) .nil, hsh, by decide +kernel, _, rfl, ?_⟩
      rw [eqv_term_nil]
      obtain ⟨u, eu, ru⟩ := sh_of T t hnw
      refine iteF ⟨_, rfl, _, _, _, _, rfl, rfl, st (s1 _ _ hp), at0 _ _, _, _, _, _, rfl, .str _, kss, _, rfl, iteF ⟨_, rfl, _, _, _, _, rfl, rfl, st (s1 _ _ hp), at0 _ _, _, _, rfl, rfl, eu, _, rfl, iteF ?_⟩⟩
      have hlx : xs.length = (ars t).length := by rw [hxs.length, List.length_map]
      have hl4 := ars_len t
      refine ⟨_, rfl, p, _, xs, rfl, st (s1 _ _ hp), small_sz (by omega), fun l hl => ?_⟩
      have s2 : Same H (upd (upd H e (.tup [])) l (.lst xs)) := s1.trans (Same.new hl)
      refine ⟨_, _, rfl, _, _, rfl, rfl, _, rfl, _, _, _, rfl, rfl, kd_sh T t hnw, ?_⟩
      have hls := shp_len t
      refine ⟨_, rfl, l, xs, rfl, .inl (sl upd_same), _, rfl, _, rfl, small_sz (by omega), rfl, _, rfl, itD (by rw [hls, hlx]) ?_⟩
      refine ⟨_, rfl, _, rfl, .txt (shp t), .lst l, signs (shp t), xs, rfl, rfl, sl upd_same, by rw [signs_len]; omega, fun D hD => lcF (src_zip (c1 := .txt (shp t)) (c2 := .lst l) (xs := signs (shp t)) (ys := xs) (by rw [signs_len]; omega)) (List.replicate xs.length (.bl true)) (small_sz (by rw [signs_len]; omega)) (by rw [List.length_replicate, signs_len]; omega) hD (fun H' kp => ⟨rfl, sl (kp _ _ (ne_of_none upd_same hD) upd_same)⟩) (fun j z o H' H2 KK hj hz kp sm hI kk => ?_) (fun H' kp e => ?_)⟩
      · obtain ⟨tt, x, y, rfl, et, ex, ey⟩ := hI
        have s3 : Same H H2 := fun b u e => sm _ _ (kp _ _ (ne_of_none (s2 _ _ e) hD) (s2 _ _ e))
        obtain ⟨c, hc, rfl⟩ := signs_get ex
        obtain ⟨r, er, hr1⟩ := PdAll.atG hxs ey
        have hcr : c = r.c := by
          have hc : ((ars t).map Ar.c).toArray[j]? = some c := hc
          rw [List.getElem?_toArray, List.getElem?_map, er] at hc
          cases hc
          rfl
        have hm := List.mem_of_getElem? er
        refine ⟨tt, _, rfl, st et, rfl, _, _, rfl, y, _, rfl, rfl, rfl, ?_⟩
        have := List.mem_of_getElem? hz
        rw [List.mem_replicate] at this
        rw [this.2] at kk
        exact ⟨_, rfl, _, rfl, c, r, y, rfl, hcr, hr1.same s3, hok r hm, fun s e => by subst e; have := sub_depth t s hm; omega, kk⟩
      · refine ⟨D, List.replicate xs.length true, rfl, sl (by rw [List.map_replicate]; exact e), ?_⟩
        rw [show (List.replicate xs.length true).all id = true by simp]
        exact q _ fun b u e => kp _ _ (ne_of_none (s2 _ _ e) hD) (s2 _ _ e)
end
end WS
set_option Elab.async false
set_option linter.all false
set_option maxRecDepth 100000
set_option maxHeartbeats 4000000
namespace WS
open PySem L2
section
variable {P : Program} {w : World} {K : PySem.W.Frag} {mg : Str → Option Value} {base : Heap}
def sp_want_term : Sp := fun vs H Q _ => ∃ v t, vs = [v] ∧ Pd H v (Term.d t) ∧ Wr t ∧ t.depth ≤ 20 ∧ ∀ H', Same H H' → Q .non H'
theorem sc_want_term : FnScope ["thing"] ["thing"] (defScope s_want_term) := ⟨rfl, rfl, rfl, by decide +kernel, rfl, by decide +kernel, by decide +kernel⟩
theorem ok_want_term (T : Tx w K mg) (k : Nat) : Held P w K mg base (k + 51) (He.fAd K ("want_term", none)) sp_want_term := by
  have G_is_term := ok_is_term (P := P) (base := base) T k 21 (by omega)
  refine FunD.held T.f_want_term sc_want_term (fun _ _ _ _ _ _ us hl => match us, hl with | [_], _ => rfl) (fun vs H Q E h => ?len) (fun fd cdv A outer s H vs Q E hr h => ?body)
  case len => obtain ⟨v, t, rfl, _⟩ := h; rfl
  case body =>
    obtain ⟨v, t, rfl, hv, hw, hd, q⟩ := h
    exact ⟨_, (pss_one (ps_if (pt_not (pt_val (pe_cl G_is_term hr T.g_is_term (pa_cons (pv 0) pa_nil)))) (pss_one ps_never) pss_nil)), _, rfl, v, t, rfl, hv, hw, by omega, by omega, fun H' s => ⟨_, rfl, iteF (q _ s)⟩⟩
/-! ### terms_in -/
theorem sort_e (r : Ar) : decide (V.str ⟨#[r.c]⟩ = V.str "e") = r.sub.isSome := by
  cases r with
  | w _ => exact (by decide +kernel : decide (V.str ⟨#[119]⟩ = V.str "e") = false)
  | l _ => exact (by decide +kernel : decide (V.str ⟨#[108]⟩ = V.str "e") = false)
  | nm _ => exact (by decide +kernel : decide (V.str ⟨#[120]⟩ = V.str "e") = false)
  | A _ => exact (by decide +kernel : decide (V.str ⟨#[65]⟩ = V.str "e") = false)
  | e _ => exact (by decide +kernel : decide (V.str ⟨#[101]⟩ = V.str "e") = true)
theorem take_sub {l : List Ar} {i : Nat} {r : Ar} (h : l[i]? = some r) : (l.take (i + 1)).filterMap Ar.sub = (l.take i).filterMap Ar.sub ++ r.sub.toList := by
  rw [List.take_succ, h, List.filterMap_append]
  cases r <;> rfl
theorem PdAll.app {H : Hp} : ∀ {xs ys : List V} {ds es : List PyData}, PdAll H xs ds → PdAll H ys es → PdAll H (xs ++ ys) (ds ++ es)
  | _, _, _, _, .nil, h => h
  | _, _, _, _, .cons a r, h => .cons a (r.app h)
theorem PdAll.one {H : Hp} {x : V} {d : PyData} (h : Pd H x d) : PdAll H [x] [d] := .cons h .nil
theorem tk_lst {H H' : Hp} {D : Addr} {acc : List V} (k : Kp D H H') (e : H D = some (.lst acc)) : TK H H' := k.tk fun xs q => by rw [e] at q; cases q
theorem e_some {r : Ar} (h : r.sub.isSome = true) : ∃ t, r = .e t := by
  cases r <;> first | exact ⟨_, rfl⟩ | cases h
theorem no_sub {r : Ar} (h : r.sub.isSome = false) : r.sub.toList = [] := by
  cases r <;> first | rfl | cases h
def sp_terms (w : Bool) : Sp := fun vs H Q _ => ∃ v t, vs = [v] ∧ Pd H v (Term.d t) ∧ (wall? t = true → w = true) ∧ ∀ H' p ys, Same H H' → H p = none → H' p = some (.lst ys) → PdAll H' ys ((subs t).map Term.d) → Q (.ref p) H'
theorem sc_terms_in : FnScope ["term", "word", "others", "sort", "one"] ["term"] (defScope s_terms_in) := ⟨rfl, rfl, rfl, by decide +kernel, rfl, by decide +kernel, by decide +kernel⟩
theorem ok_terms_in (T : Tx w K mg) (k : Nat) : Held P w K mg base (k + 1) (He.fAd K ("terms_in", none)) (sp_terms false) := by
  obtain ⟨es, m, hkd_SHAPES⟩ := T.t_SHAPES
  refine FunD.held T.f_terms_in sc_terms_in (fun _ _ _ _ _ _ us hl => match us, hl with | [_], _ => rfl) (fun vs H Q E h => ?len) (fun fd cdv A outer s H vs Q E hr h => ?body)
  case len => obtain ⟨v, t, rfl, _⟩ := h; rfl
  case body =>
    obtain ⟨v, t, rfl, hv, hnw, q⟩ := h
    refine ⟨_, (pss_cons (ps_asg (pv 0) (pg_star rfl (pgs_cons (pg_name (i := 1) sc_terms_in.nd rfl (Or.inl rfl)) (pgs_cons (pg_name (i := 2) sc_terms_in.nd rfl (Or.inl rfl)) pgs_nil))))
      (pss_one (ps_ret (pe_lc (own := [("sort", 3), ("one", 4)]) rfl sc_terms_in.nd (pi_zipS (by rfl) T.b_zip (pa_cons (pe_ix ix_kdict (pe_gr T.g_SHAPES) (pv 1) (fun _ _ => rfl)) (pa_cons (pv 2) pa_nil))) (blkOk_by (own := [("sort", 3), ("one", 4)]) (N := ["term", "word", "others", "sort", "one"]) (sc := defScope s_terms_in) (by decide +kernel)) (fun _ _ _ _ _ => (pg_tupK (K := K) (n := 2) rfl (pgs_cons (pg_name (i := 3) sc_terms_in.nd rfl (Or.inl rfl)) (pgs_cons (pg_name (i := 4) sc_terms_in.nd rfl (Or.inl rfl)) pgs_nil)))) (fun _ _ _ _ _ => (pts_one (pt_cmpR op_eq (pv 3) pe_str (nomark _)))) (fun _ _ _ _ _ => (pv 4)))))), ?_⟩
    have hnw : wall? t = false := by
      cases e : wall? t with
      | false => rfl
      | true => exact (hnw e).symm
    obtain ⟨p, xs, rfl, hp, hxs⟩ := td_tup t hv
    have hlx : xs.length = (ars t).length := by rw [hxs.length, List.length_map]
    have hl4 := ars_len t
    have hls := shp_len t
    refine ⟨_, rfl, p, _, xs, rfl, st hp, small_sz (by omega), fun l hl => ?_⟩
    have s2 : Same H (upd H l (.lst xs)) := Same.new hl
    refine ⟨_, _, rfl, _, _, rfl, rfl, ?_⟩
    refine ⟨_, rfl, _, _, _, rfl, rfl, kd_sh T t hnw, _, rfl, .txt (shp t), .lst l, signs (shp t), xs, rfl, rfl, sl upd_same, by rw [signs_len]; omega, fun D hD => lcS (src_zip (c1 := .txt (shp t)) (c2 := .lst l) (xs := signs (shp t)) (ys := xs) (by rw [signs_len]; omega))
      (fun i acc H' => Kp D (upd H l (.lst xs)) H' ∧ PdAll H' acc ((((ars t).take i).filterMap Ar.sub).map Term.d)) (small_sz (by rw [signs_len]; omega)) ⟨.mut _ _ _, .nil⟩ (fun i acc H' kp => ⟨rfl, sl (kp.1 _ _ (ne_of_none upd_same hD) upd_same)⟩) (fun j z acc H' H2 KK K2 hj hla pv hDl sm hI k1 k2 => ?_) (fun acc H' hla pv e => ?_)⟩
    · obtain ⟨kp, pa⟩ := pv
      obtain ⟨tt, x, y, rfl, et, ex, ey⟩ := hI
      have s3 : Same H H2 := fun b u e => sm _ _ (kp _ _ (ne_of_none (s2 _ _ e) hD) (s2 _ _ e))
      obtain ⟨c, hc, rfl⟩ := signs_get ex
      obtain ⟨r, er, hr1⟩ := PdAll.atG hxs ey
      have hcr : c = r.c := by
        have hc : ((ars t).map Ar.c).toArray[j]? = some c := hc
        rw [List.getElem?_toArray, List.getElem?_map, er] at hc
        cases hc
        rfl
      subst hcr
      refine ⟨tt, _, rfl, st et, rfl, _, _, rfl, y, _, rfl, rfl, rfl, _, rfl, rfl, _, rfl, ?_⟩
      rw [sort_e]
      cases hs : r.sub.isSome with
      | true =>
        obtain ⟨t1, rfl⟩ := e_some hs
        refine iteT ⟨_, rfl, k1 _ _ (sm _ _ hDl) ⟨(kp.trans (sm.kp D)).trans (.mut _ _ _), ?_⟩⟩
        rw [take_sub er, List.map_append]
        exact ((pa.same sm).app (.one (hr1.same s3))).keep (tk_lst (.mut D H2 _) (sm _ _ hDl))
      | false =>
        refine iteF (k2 _ (sm _ _ hDl) ⟨kp.trans (sm.kp D), ?_⟩)
        rw [take_sub er, no_sub hs, List.append_nil]
        exact pa.same sm
    · obtain ⟨kp, pa⟩ := pv
      rw [signs_len, hls, List.take_length] at pa
      exact q _ _ _ (fun b u e => kp _ _ (ne_of_none (s2 _ _ e) hD) (s2 _ _ e)) (s2.free hD) e pa
/-! ### _law_terms_of -/
def fsts : Term → Nat
  | .wall _ _ _ _ => 4
  | .deed _ _ _ => 3
  | .lets _ _ _ => 2
  | .tell _ _ => 2
  | .box _ _ => 2
  | .number _ => 9
  | .txt _ => 9
  | .name _ => 9
  | _ => 1
theorem fst_ok (t : Term) (i : Nat) (r : Ar) (h : (ars t)[i]? = some r) : decide (fsts t ≤ i + 1) = r.sub.isSome := by
  cases t <;> rcases i with _ | _ | _ | _ | i <;> simp [ars] at h <;> subst h <;> simp [fsts, Ar.sub]
theorem fst_pos (t : Term) : ¬ ((fsts t : Nat) : Int) ≤ ((0 : Nat) : Int) := by
  cases t <;> simp [fsts]
def kvsF : List (Key × V) := [(.inr "wall", .int 4), (.inr "deed", .int 3), (.inr "let", .int 2), (.inr "tell", .int 2), (.inr "box", .int 2), (.inr "number", .int 9), (.inr "text", .int 9), (.inr "name", .int 9)]
theorem kvsF_at (t : Term) : (valV (mergeK [] kvsF) (.inr (hdw t))).getD (.int 1) = .int (fsts t) := by
  cases t with
  | sum s _ _ => cases s <;> simp only [hdw, word, fsts] <;> decide +kernel
  | _ =>
    simp only [hdw, fsts]
    decide +kernel
theorem sc_law_terms_of : FnScope ["_law_piece", "_law_first", "_law_k", "_law_part"] ["_law_piece"] (defScope s__law_terms_of) := ⟨rfl, rfl, rfl, by decide +kernel, rfl, by decide +kernel, by decide +kernel⟩
theorem ok_law_terms_of (T : Tx w K mg) (k : Nat) : Held P w K mg base (k + 1) (He.fAd K ("_law_terms_of", none)) (sp_terms true) := by
  refine FunD.held T.f__law_terms_of sc_law_terms_of (fun _ _ _ _ _ _ us hl => match us, hl with | [_], _ => rfl) (fun vs H Q E h => ?len) (fun fd cdv A outer s H vs Q E hr h => ?body)
  case len => obtain ⟨v, t, rfl, _⟩ := h; rfl
  case body =>
    obtain ⟨v, t, rfl, hv, _, q⟩ := h
    have hu := hu_of hr
    refine ⟨_, (pss_cons (ps_set (i := 1) sc_law_terms_of.nd rfl (by first | exact Or.inl rfl | exact Or.inr rfl) (pe_dget2 hu (pe_disp (pps_cons pe_str pe_int (pps_cons pe_str pe_int (pps_cons pe_str pe_int (pps_cons pe_str pe_int (pps_cons pe_str pe_int (pps_cons pe_str pe_int (pps_cons pe_str pe_int (pps_cons pe_str pe_int pps_nil)))))))) (by rfl) (by rfl) (fun z => by cases z) (by decide)) (pe_ix ix_tup (pv 0) pe_int (fun _ _ => rfl)) pe_int ⟨rfl, rfl, rfl, rfl⟩))
      (pss_one (ps_ret (pe_lc (own := [("_law_k", 2), ("_law_part", 3)]) rfl sc_law_terms_of.nd (pi_enumB (by rfl) T.b_enumerate (pa_cons (pv 0) pa_nil)) (blkOk_by (own := [("_law_k", 2), ("_law_part", 3)]) (N := ["_law_piece", "_law_first", "_law_k", "_law_part"]) (sc := defScope s__law_terms_of) (by decide +kernel)) (fun _ _ _ _ _ => (pg_tupK (K := K) (n := 2) rfl (pgs_cons (pg_name (i := 2) sc_law_terms_of.nd rfl (Or.inl rfl)) (pgs_cons (pg_name (i := 3) sc_law_terms_of.nd rfl (Or.inl rfl)) pgs_nil)))) (fun _ _ _ _ _ => (pts_one (pt_cmpR op_ge (pv 2) (pv 1) (nomark _)))) (fun _ _ _ _ _ => (pv 3)))))), ?_⟩
    obtain ⟨p, xs, rfl, hp, hxs⟩ := td_tup t hv
    have hlx : xs.length = (ars t).length := by rw [hxs.length, List.length_map]
    have hl4 := ars_len t
    refine fun d hd => ⟨upd_same, kvsF, rfl, by decide, d, rfl, .inl ⟨_, .inl upd_same⟩, ?_⟩
    have s1 : Same H (upd (upd H d (.dK [])) d (.dK (mergeK [] kvsF))) := by
      rw [upd_upd]
      exact Same.new hd
    refine ⟨_, rfl, _, _, _, _, rfl, rfl, st (s1 _ _ hp), at0 _ _, _, DGet.k (k := .inr (hdw t)) upd_same, ?_⟩
    rw [kvsF_at]
    generalize upd (upd H d (.dK [])) d (.dK (mergeK [] kvsF)) = H1 at s1
    refine ⟨_, rfl, .tup p, _, rfl, st (s1 _ _ hp), fun D hD => lcS (src_enum (c := .tup p) (xs := .str (hdw t) :: xs))
      (fun i acc H' => Kp D H1 H' ∧ PdAll H' acc ((((ars t).take (i - 1)).filterMap Ar.sub).map Term.d)) (small_sz (by rw [List.length_cons]; omega)) ⟨.mut _ _ _, .nil⟩ (fun i acc H' kp => st (kp.1 _ _ (ne_of_none (s1 _ _ hp) hD) (s1 _ _ hp))) (fun j z acc H' H2 KK K2 hj hla pv hDl sm hI k1 k2 => ?_) (fun acc H' hla pv e => ?_)⟩
    · obtain ⟨kp, pa⟩ := pv
      obtain ⟨tt, x, rfl, et, ex⟩ := hI
      have s3 : Same H H2 := fun b u e => sm _ _ (kp _ _ (ne_of_none (s1 _ _ e) hD) (s1 _ _ e))
      refine ⟨tt, _, rfl, st et, rfl, _, _, rfl, x, _, rfl, rfl, rfl, _, rfl, _, rfl, _, _, rfl, rfl, _, rfl, ?_⟩
      cases j with
      | zero =>
        refine itDn (fst_pos t) (k2 _ (sm _ _ hDl) ⟨kp.trans (sm.kp D), pa.same sm⟩)
      | succ j =>
        obtain ⟨r, er, hr1⟩ := PdAll.atG hxs (show xs[j]? = some x from ex)
        have hf := fst_ok t j r er
        have e2 : decide (((fsts t : Nat) : Int) ≤ ((j + 1 : Nat) : Int)) = r.sub.isSome := by
          rw [← hf]
          exact decide_eq_decide.mpr (by omega)
        refine (show (if decide (((fsts t : Nat) : Int) ≤ ((j + 1 : Nat) : Int)) = true then _ else _) from ?_)
        rw [e2]
        rw [Nat.add_sub_cancel] at pa
        cases hs : r.sub.isSome with
        | true =>
          obtain ⟨t1, rfl⟩ := e_some hs
          refine iteT ⟨_, rfl, k1 _ _ (sm _ _ hDl) ⟨(kp.trans (sm.kp D)).trans (.mut _ _ _), ?_⟩⟩
          rw [show j + 1 + 1 - 1 = j + 1 from rfl, take_sub er, List.map_append]
          exact ((pa.same sm).app (.one (hr1.same s3))).keep (tk_lst (.mut D H2 _) (sm _ _ hDl))
        | false =>
          refine iteF (k2 _ (sm _ _ hDl) ⟨kp.trans (sm.kp D), ?_⟩)
          rw [show j + 1 + 1 - 1 = j + 1 from rfl, take_sub er, no_sub hs, List.append_nil]
          exact pa.same sm
    · obtain ⟨kp, pa⟩ := pv
      rw [List.length_cons, Nat.add_sub_cancel, hlx, List.take_length] at pa
      exact q _ _ _ (fun b u e => kp _ _ (ne_of_none (s1 _ _ e) hD) (s1 _ _ e)) (s1.free hD) e pa
end
end WS
set_option Elab.async false
set_option linter.all false
set_option maxRecDepth 100000
set_option maxHeartbeats 4000000
namespace WS
open PySem L2
theorem ty_lst {K : PySem.W.Frag} {H : Hp} {p : Addr} {xs : List V} (h : H p = some (.lst xs)) : tyV K "list" (.ref p) H := .inl ⟨rfl, xs, sl h⟩
theorem sstr (x : Str) (h : PyData.strOk x = true) : SeqAt.shaped (.str x) = true := shaped_str h
theorem swall : SeqAt.shaped (.str "wall") = true := by decide +kernel
theorem hdw_wall (t : Term) : decide (hdw t = "wall") = wall? t := by
  cases t with
  | sum s _ _ => cases s <;> first | exact (by decide +kernel : decide (("add" : Str) = "wall") = false) | exact (by decide +kernel : decide (("sub" : Str) = "wall") = false)
  | wall => exact decide_eq_true rfl
  | number => exact (by decide +kernel : decide (("number" : Str) = "wall") = false)
  | txt => exact (by decide +kernel : decide (("text" : Str) = "wall") = false)
  | name => exact (by decide +kernel : decide (("name" : Str) = "wall") = false)
  | deed => exact (by decide +kernel : decide (("deed" : Str) = "wall") = false)
  | call => exact (by decide +kernel : decide (("call" : Str) = "wall") = false)
  | lets => exact (by decide +kernel : decide (("let" : Str) = "wall") = false)
  | tell => exact (by decide +kernel : decide (("tell" : Str) = "wall") = false)
  | ite => exact (by decide +kernel : decide (("if" : Str) = "wall") = false)
  | size => exact (by decide +kernel : decide (("size" : Str) = "wall") = false)
  | box => exact (by decide +kernel : decide (("box" : Str) = "wall") = false)
  | read => exact (by decide +kernel : decide (("read" : Str) = "wall") = false)
  | write => exact (by decide +kernel : decide (("write" : Str) = "wall") = false)
  | same => exact (by decide +kernel : decide (("same" : Str) = "wall") = false)
def sbs : Term → List Term
  | .deed _ _ e => [e]
  | .call f e => [f, e]
  | .lets _ e f => [e, f]
  | .tell _ e => [e]
  | .ite c e f => [c, e, f]
  | .sum _ e f => [e, f]
  | .size e => [e]
  | .box _ e => [e]
  | .read e => [e]
  | .write e f => [e, f]
  | .same e f => [e, f]
  | .wall _ _ _ e => [e]
  | _ => []
theorem subs_eq (t : Term) : subs t = sbs t := by cases t <;> rfl
abbrev Wl.d (q : Wl) : PyData := .tuple [.str q.1, q.2.1.d, q.2.2.d]
def own : Term → List Wl
  | .wall m A B _ => [(m, A, B)]
  | _ => []
theorem wl_subs (t : Term) : wl t = own t ++ (subs t).flatMap wl := by
  rw [subs_eq]
  cases t <;> simp [wl, own, sbs]
theorem sub_mem {t s : Term} (h : s ∈ subs t) : Ar.e s ∈ ars t := by
  unfold subs at h
  obtain ⟨r, hr, e⟩ := List.mem_filterMap.mp h
  cases r <;> first | cases e; exact hr | cases e
theorem subs_depth {t s : Term} (h : s ∈ subs t) : s.depth + 1 ≤ t.depth := sub_depth t s (sub_mem h)
theorem subs_len (t : Term) : (subs t).length ≤ 4 := Nat.le_trans (List.length_filterMap_le _ _) (ars_len t)
theorem sz_subs (t : Term) : t.sz = 1 + ((subs t).map Term.sz).sum := by
  rw [subs_eq]
  cases t <;> simp [Term.sz, sbs] <;> omega
theorem sum_le {l : List Nat} {x : Nat} (h : x ∈ l) : x ≤ l.sum := by
  induction l with
  | nil => cases h
  | cons a r ih =>
    rw [List.sum_cons]
    rcases List.mem_cons.mp h with e | e
    · omega
    · have := ih e; omega
theorem sum_take_le (l : List Nat) (i : Nat) : (l.take i).sum ≤ l.sum := by
  have h : (l.take i).sum + (l.drop i).sum = l.sum := by
    rw [← List.sum_append, List.take_append_drop]
  omega
theorem subs_sz {t s : Term} (h : s ∈ subs t) : s.sz < t.sz := by
  rw [sz_subs t]
  have := sum_le (List.mem_map_of_mem (f := Term.sz) h)
  omega
theorem own_len (t : Term) : (own t).length ≤ 1 := by
  cases t <;> simp [own]
theorem wl_len : ∀ t : Term, (wl t).length ≤ t.sz
  | .number _ => Nat.zero_le _
  | .txt _ => Nat.zero_le _
  | .name _ => Nat.zero_le _
  | .deed _ _ e => by have := wl_len e; simp only [wl, Term.sz]; omega
  | .call f e => by have := wl_len e; have := wl_len f; simp only [wl, Term.sz, List.length_append]; omega
  | .lets _ e f => by have := wl_len e; have := wl_len f; simp only [wl, Term.sz, List.length_append]; omega
  | .tell _ e => by have := wl_len e; simp only [wl, Term.sz]; omega
  | .ite c e f => by have := wl_len c; have := wl_len e; have := wl_len f; simp only [wl, Term.sz, List.length_append]; omega
  | .sum _ e f => by have := wl_len e; have := wl_len f; simp only [wl, Term.sz, List.length_append]; omega
  | .size e => by have := wl_len e; simp only [wl, Term.sz]; omega
  | .box _ e => by have := wl_len e; simp only [wl, Term.sz]; omega
  | .read e => by have := wl_len e; simp only [wl, Term.sz]; omega
  | .write e f => by have := wl_len e; have := wl_len f; simp only [wl, Term.sz, List.length_append]; omega
  | .same e f => by have := wl_len e; have := wl_len f; simp only [wl, Term.sz, List.length_append]; omega
  | .wall _ _ _ e => by have := wl_len e; simp only [wl, Term.sz, List.length_cons]; omega
/-- a placed wall as it lies -/
theorem wall_at {H : Hp} {v : V} {t : Term} (h : Pd H v t.d) (hw : wall? t = true) : ∃ m A B e p a b x, t = .wall m A B e ∧ v = .ref p ∧ H p = some (.tup [.str "wall", .str m, a, b, x]) ∧ Pd H a A.d ∧ Pd H b B.d ∧ Pd H x e.d := by
  cases t with
  | wall m A B e =>
    obtain ⟨p, c, y, a, b, x, rfl, hp, hc, hy, ha, hb, hx⟩ := Pd.t5 h
    cases hc.str_of
    cases hy.str_of
    exact ⟨m, A, B, e, p, a, b, x, rfl, rfl, hp, ha, hb, hx⟩
  | _ => cases hw
section
variable {P : Program} {w : World} {K : PySem.W.Frag} {mg : Str → Option Value} {base : Heap}
theorem sc_terms_within : FnScope ["placed"] ["placed"] (defScope s_terms_within) := ⟨rfl, rfl, rfl, by decide +kernel, rfl, by decide +kernel, by decide +kernel⟩
theorem ok_terms_within (T : Tx w K mg) (k : Nat) : Held P w K mg base (k + 2) (He.fAd K ("terms_within", none)) (sp_terms true) := by
  have G_terms_in := ok_terms_in (P := P) (base := base) T k
  refine FunD.held T.f_terms_within sc_terms_within (fun _ _ _ _ _ _ us hl => match us, hl with | [_], _ => rfl) (fun vs H Q E h => ?len) (fun fd cdv A outer s H vs Q E hr h => ?body)
  case len => obtain ⟨v, t, rfl, _⟩ := h; rfl
  case body =>
    obtain ⟨v, t, rfl, hv, _, q⟩ := h
    refine ⟨_, (pss_one (ps_ret (pe_ifExp (pt_cmpR (op_eqD hr.units) (pe_ix ix_tup (pv 0) pe_int (fun _ _ => rfl)) (pe_gs T.s_WALL) (nomark _)) (pe_lst (pa_cons (pe_ix ix_tup (pv 0) pe_int (fun _ _ => rfl)) pa_nil)) (pe_cl G_terms_in hr T.g_terms_in (pa_cons (pv 0) pa_nil))))), ?_⟩
    cases hw : wall? t with
    | true =>
      obtain ⟨m, A, B, e, p, a, b, x, rfl, rfl, hp, ha, hb, hx⟩ := wall_at hv hw
      refine ⟨_, rfl, _, _, _, _, rfl, rfl, st hp, at0 _ _, _, _, .str _, .str _, swall, swall, _, rfl, ?_⟩
      rw [eqv_str]
      refine itD rfl ⟨_, rfl, p, _, _, _, rfl, rfl, st hp, by rfl, small_sz (by simp), fun l hl => q _ _ _ (Same.new hl) hl upd_same (.one (hx.same (Same.new hl)))⟩
    | false =>
      obtain ⟨p, xs, rfl, hp, hxs⟩ := td_tup t hv
      refine ⟨_, rfl, _, _, _, _, rfl, rfl, st hp, at0 _ _, _, _, .str _, .str _, sstr _ (hdw_ok t), swall, _, rfl, ?_⟩
      rw [eqv_str, hdw_wall, hw]
      exact iteF ⟨_, rfl, _, t, rfl, hv, (fun z => by rw [hw] at z; cases z), q⟩
/-! ### walls_in -/
def sp_walls_in (n : Nat) : Sp := fun vs H Q _ => ∃ v t, vs = [v] ∧ Pd H v (Term.d t) ∧ t.depth < n ∧ t.sz ≤ 1000000 ∧ ∀ H' p ys, Same H H' → H p = none → H' p = some (.lst ys) → PdAll H' ys ((wl t).map Wl.d) → Q (.ref p) H'
theorem sc_walls_in : FnScope ["placed", "found", "one"] ["placed"] (defScope s_walls_in) := ⟨rfl, rfl, rfl, by decide +kernel, rfl, by decide +kernel, by decide +kernel⟩
theorem ok_walls_in (T : Tx w K mg) (k : Nat) : ∀ n, Held P w K mg base (k + n + 3) (He.fAd K ("walls_in", none)) (sp_walls_in n)
  | 0 => by
    have G_terms_within := ok_terms_within (P := P) (base := base) T k
    refine FunD.held T.f_walls_in sc_walls_in (fun _ _ _ _ _ _ us hl => match us, hl with | [_], _ => rfl) (fun vs H Q E h => ?len) (fun fd cdv A outer s H vs Q E hr h => ?body)
    case len => obtain ⟨v, t, rfl, _⟩ := h; rfl
    case body => obtain ⟨v, t, rfl, _, hF, _⟩ := h; exact absurd hF (Nat.not_lt_zero _)
  | n + 1 => by
    have G_walls_in := ok_walls_in T k n
    have G_terms_within := (ok_terms_within (P := P) (base := base) T (k + n + 1)).mono (show _ ≤ k + n + 3 by omega)
    refine FunD.held T.f_walls_in sc_walls_in (fun _ _ _ _ _ _ us hl => match us, hl with | [_], _ => rfl) (fun vs H Q E h => ?len) (fun fd cdv A outer s H vs Q E hr h => ?body)
    case len => obtain ⟨v, t, rfl, _⟩ := h; rfl
    case body =>
      obtain ⟨v, t, rfl, hv, hd, hz, q⟩ := h
      refine ⟨_, (C8.pss_cut (ps_set (i := 1) sc_walls_in.nd rfl (by first | exact Or.inl rfl | exact Or.inr rfl) (pe_ifExp (pt_cmpR (op_eqD hr.units) (pe_ix ix_tup (pv 0) pe_int (fun _ _ => rfl)) (pe_gs T.s_WALL) (nomark _)) (pe_lst (pa_cons (pe_slice sl_tupA (pv 0) (po_some pe_int) (po_some pe_int)) pa_nil)) (pe_lst pa_nil)))
      (pss_cons (ps_for PassesOwn.never rfl (pi_list (pe_cl G_terms_within hr T.g_terms_within (pa_cons (pv 0) pa_nil))) (pg_name (i := 2) sc_walls_in.nd rfl (Or.inl rfl)) (pss_one (ps_expr (pe_bm PySem.F.plainAttrs_list PySem.F.slot_list_extend PySem.F.type_list_extend mt_extend (pv 1) (pa_cons (pe_cl G_walls_in hr T.g_walls_in (pa_cons (pv 2) pa_nil)) pa_nil)))))
      (pss_one (ps_ret (pv 1))))), ?_⟩
      refine ⟨fun σ' H' => ∃ f acc0, σ' = [some v, some (.ref f), none] ∧ Same H H' ∧ H f = none ∧ H' f = some (.lst acc0) ∧ PdAll H' acc0 ((own t).map Wl.d), ?_, ?_⟩
      · cases hw : wall? t with
        | true =>
          obtain ⟨m, A, B, e, p, a, b, x, rfl, rfl, hp, ha, hb, hx⟩ := wall_at hv hw
          refine ⟨_, rfl, _, _, _, _, rfl, rfl, st hp, at0 _ _, _, _, .str _, .str _, swall, swall, _, rfl, ?_⟩
          rw [eqv_str]
          refine itD rfl ⟨_, rfl, _, rfl, _, rfl, p, _, rfl, st hp, fun z => absurd z.1 (tail_ne _ _), fun _ s ns => ⟨small_sz (by simp), fun f nf => ?_⟩⟩
          have s1 := (Same.new ns (o := .tup (cutV [V.str "wall", .str m, a, b, x] (some 1) (some 4)))).trans (Same.new nf (o := .lst [V.ref s]))
          exact ⟨f, _, rfl, s1, (Same.new ns).free nf, upd_same, .one (.m3 (Same.new nf _ _ upd_same) (.str _) (ha.same s1) (hb.same s1))⟩
        | false =>
          obtain ⟨p, xs, rfl, hp, hxs⟩ := td_tup t hv
          refine ⟨_, rfl, _, _, _, _, rfl, rfl, st hp, at0 _ _, _, _, .str _, .str _, sstr _ (hdw_ok t), swall, _, rfl, ?_⟩
          rw [eqv_str, hdw_wall, hw]
          refine iteF ⟨small_sz (by simp), fun f nf => ⟨f, _, rfl, Same.new nf, nf, upd_same, ?_⟩⟩
          rw [show own t = [] by cases t <;> first | rfl | cases hw]
          exact .nil
      · rintro σ' H1 ⟨f, acc0, rfl, s1, nf, ef, pf⟩
        refine ⟨_, rfl, v, t, rfl, hv.same s1, fun _ => rfl, fun H2 l ys s2 nl el pl => ⟨l, rfl, ⟨_, sl el⟩, ?_⟩⟩
        have hfl : f ≠ l := ne_of_none ef nl
        have hlen : ys.length = (subs t).length := by rw [pl.length, List.length_map]
        have hl4 := subs_len t
        refine forS (src_list (xs := ys)) (fun i σ H' => ∃ y2 acc, σ = [some v, some (.ref f), y2] ∧ Same H H' ∧ H' f = some (.lst acc) ∧ H' l = some (.lst ys) ∧ PdAll H' ys ((subs t).map Term.d) ∧ acc.length ≤ 1 + (((subs t).take i).map Term.sz).sum ∧ PdAll H' acc ((own t ++ ((subs t).take i).flatMap wl).map Wl.d)) ?_ ?_ ?_ ?_
        · refine ⟨_, _, rfl, s1.trans s2, s2 _ _ ef, el, pl, ?_, ?_⟩
          · rw [pf.length, List.length_map]
            have := own_len t
            simpa using this
          · rw [List.take_zero, List.flatMap_nil, List.append_nil]
            exact pf.same s2
        · rintro i σ H' ⟨y2, acc, _, _, _, e, _⟩
          exact sl e
        · rintro i x σ H3 H3' hi ⟨y2, acc, rfl, s3, e1, e2, p1, p2, p3⟩ sm hx
          obtain ⟨s', es', hs'⟩ := PdAll.atG p1 hx
          have hm := List.mem_of_getElem? es'
          have d1 := subs_depth hm
          have d2 := subs_sz hm
          refine ⟨_, rfl, ty_lst (sm _ _ e1), _, rfl, x, s', rfl, hs'.same sm, by omega, by omega, fun H4 l2 zs s4 nl2 el2 pz => ?_⟩
          have sT := (s3.trans sm).trans s4
          have ef4 := s4 _ _ (sm _ _ e1)
          have hsz : (((subs t).take (i + 1)).map Term.sz).sum = (((subs t).take i).map Term.sz).sum + s'.sz := by
            rw [List.take_succ, es']
            simp
          have hzl : zs.length ≤ s'.sz := by
            rw [pz.length, List.length_map]
            exact wl_len s'
          have hsum : (((subs t).take i).map Term.sz).sum ≤ t.sz := by
            have h1 := sz_subs t
            have h2 : (((subs t).take i).map Term.sz).sum ≤ ((subs t).map Term.sz).sum := by
              rw [List.map_take]
              exact sum_take_le _ _
            omega
          have hsum2 : (((subs t).take (i + 1)).map Term.sz).sum ≤ ((subs t).map Term.sz).sum := by
            rw [List.map_take]
            exact sum_take_le _ _
          have hsz1 := sz_subs t
          have hne : f ≠ l2 := ne_of_none (sm _ _ e1) nl2
          have tk : TK H4 (upd H4 f (.lst (acc ++ zs))) := tk_lst (.mut f H4 _) ef4
          refine ⟨f, l2, acc, zs, rfl, rfl, ef4, el2, small_sz (by omega), ?_⟩
          refine ⟨_, _, rfl, fun b u e => ?_, upd_same, ?_, ((p1.same sm).same s4).keep tk, ?_, ?_⟩
          · rw [upd_ne (ne_of_none e nf)]
            exact sT _ _ e
          · rw [upd_ne (Ne.symm hfl)]
            exact s4 _ _ (sm _ _ e2)
          · rw [List.length_append, hsz]
            omega
          · rw [List.take_succ, es', List.flatMap_append, ← List.append_assoc, List.map_append]
            refine (((p3.same sm).same s4).keep tk).app ?_
            have := pz.keep tk
            simpa using this
        · rintro σ H' ⟨y2, acc, rfl, s3, e1, e2, p1, p2, p3⟩
          rw [hlen, List.take_length, ← wl_subs] at p3
          exact ⟨_, rfl, q _ _ _ s3 nf e1 p3⟩
theorem sc_law_fences : FnScope ["_law_placed", "_law_found", "_law_part"] ["_law_placed"] (defScope s__law_fences) := ⟨rfl, rfl, rfl, by decide +kernel, rfl, by decide +kernel, by decide +kernel⟩
theorem ok_law_fences (T : Tx w K mg) (k : Nat) : ∀ n, Held P w K mg base (k + n + 3) (He.fAd K ("_law_fences", none)) (sp_walls_in n)
  | 0 => by
    have G_law_terms_of := ok_law_terms_of (P := P) (base := base) T k
    refine FunD.held T.f__law_fences sc_law_fences (fun _ _ _ _ _ _ us hl => match us, hl with | [_], _ => rfl) (fun vs H Q E h => ?len) (fun fd cdv A outer s H vs Q E hr h => ?body)
    case len => obtain ⟨v, t, rfl, _⟩ := h; rfl
    case body => obtain ⟨v, t, rfl, _, hF, _⟩ := h; exact absurd hF (Nat.not_lt_zero _)
  | n + 1 => by
    have G_law_fences := ok_law_fences T k n
    have G_law_terms_of := (ok_law_terms_of (P := P) (base := base) T (k + n + 1)).mono (show _ ≤ k + n + 3 by omega)
    refine FunD.held T.f__law_fences sc_law_fences (fun _ _ _ _ _ _ us hl => match us, hl with | [_], _ => rfl) (fun vs H Q E h => ?len) (fun fd cdv A outer s H vs Q E hr h => ?body)
    case len => obtain ⟨v, t, rfl, _⟩ := h; rfl
    case body =>
      obtain ⟨v, t, rfl, hv, hd, hz, q⟩ := h
      refine ⟨_, (C8.pss_cut (ps_set (i := 1) sc_law_fences.nd rfl (by first | exact Or.inl rfl | exact Or.inr rfl) (pe_ifExp (pt_cmpR (op_eqD hr.units) (pe_ix ix_tup (pv 0) pe_int (fun _ _ => rfl)) pe_str (nomark _)) (pe_lst (pa_cons (pe_slice sl_tupA (pv 0) (po_some pe_int) (po_some pe_int)) pa_nil)) (pe_lst pa_nil)))
      (pss_cons (ps_for PassesOwn.never rfl (pi_list (pe_cl G_law_terms_of hr T.g__law_terms_of (pa_cons (pv 0) pa_nil))) (pg_name (i := 2) sc_law_fences.nd rfl (Or.inl rfl)) (pss_one (ps_expr (pe_bm PySem.F.plainAttrs_list PySem.F.slot_list_extend PySem.F.type_list_extend mt_extend (pv 1) (pa_cons (pe_cl G_law_fences hr T.g__law_fences (pa_cons (pv 2) pa_nil)) pa_nil)))))
      (pss_one (ps_ret (pv 1))))), ?_⟩
      refine ⟨fun σ' H' => ∃ f acc0, σ' = [some v, some (.ref f), none] ∧ Same H H' ∧ H f = none ∧ H' f = some (.lst acc0) ∧ PdAll H' acc0 ((own t).map Wl.d), ?_, ?_⟩
      · cases hw : wall? t with
        | true =>
          obtain ⟨m, A, B, e, p, a, b, x, rfl, rfl, hp, ha, hb, hx⟩ := wall_at hv hw
          refine ⟨_, rfl, _, _, _, _, rfl, rfl, st hp, at0 _ _, _, _, .str _, .str _, swall, swall, _, rfl, ?_⟩
          rw [eqv_str]
          refine itD rfl ⟨_, rfl, _, rfl, _, rfl, p, _, rfl, st hp, fun z => absurd z.1 (tail_ne _ _), fun _ s ns => ⟨small_sz (by simp), fun f nf => ?_⟩⟩
          have s1 := (Same.new ns (o := .tup (cutV [V.str "wall", .str m, a, b, x] (some 1) (some 4)))).trans (Same.new nf (o := .lst [V.ref s]))
          exact ⟨f, _, rfl, s1, (Same.new ns).free nf, upd_same, .one (.m3 (Same.new nf _ _ upd_same) (.str _) (ha.same s1) (hb.same s1))⟩
        | false =>
          obtain ⟨p, xs, rfl, hp, hxs⟩ := td_tup t hv
          refine ⟨_, rfl, _, _, _, _, rfl, rfl, st hp, at0 _ _, _, _, .str _, .str _, sstr _ (hdw_ok t), swall, _, rfl, ?_⟩
          rw [eqv_str, hdw_wall, hw]
          refine iteF ⟨small_sz (by simp), fun f nf => ⟨f, _, rfl, Same.new nf, nf, upd_same, ?_⟩⟩
          rw [show own t = [] by cases t <;> first | rfl | cases hw]
          exact .nil
      · rintro σ' H1 ⟨f, acc0, rfl, s1, nf, ef, pf⟩
        refine ⟨_, rfl, v, t, rfl, hv.same s1, fun _ => rfl, fun H2 l ys s2 nl el pl => ⟨l, rfl, ⟨_, sl el⟩, ?_⟩⟩
        have hfl : f ≠ l := ne_of_none ef nl
        have hlen : ys.length = (subs t).length := by rw [pl.length, List.length_map]
        have hl4 := subs_len t
        refine forS (src_list (xs := ys)) (fun i σ H' => ∃ y2 acc, σ = [some v, some (.ref f), y2] ∧ Same H H' ∧ H' f = some (.lst acc) ∧ H' l = some (.lst ys) ∧ PdAll H' ys ((subs t).map Term.d) ∧ acc.length ≤ 1 + (((subs t).take i).map Term.sz).sum ∧ PdAll H' acc ((own t ++ ((subs t).take i).flatMap wl).map Wl.d)) ?_ ?_ ?_ ?_
        · refine ⟨_, _, rfl, s1.trans s2, s2 _ _ ef, el, pl, ?_, ?_⟩
          · rw [pf.length, List.length_map]
            have := own_len t
            simpa using this
          · rw [List.take_zero, List.flatMap_nil, List.append_nil]
            exact pf.same s2
        · rintro i σ H' ⟨y2, acc, _, _, _, e, _⟩
          exact sl e
        · rintro i x σ H3 H3' hi ⟨y2, acc, rfl, s3, e1, e2, p1, p2, p3⟩ sm hx
          obtain ⟨s', es', hs'⟩ := PdAll.atG p1 hx
          have hm := List.mem_of_getElem? es'
          have d1 := subs_depth hm
          have d2 := subs_sz hm
          refine ⟨_, rfl, ty_lst (sm _ _ e1), _, rfl, x, s', rfl, hs'.same sm, by omega, by omega, fun H4 l2 zs s4 nl2 el2 pz => ?_⟩
          have sT := (s3.trans sm).trans s4
          have ef4 := s4 _ _ (sm _ _ e1)
          have hsz : (((subs t).take (i + 1)).map Term.sz).sum = (((subs t).take i).map Term.sz).sum + s'.sz := by
            rw [List.take_succ, es']
            simp
          have hzl : zs.length ≤ s'.sz := by
            rw [pz.length, List.length_map]
            exact wl_len s'
          have hsum : (((subs t).take i).map Term.sz).sum ≤ t.sz := by
            have h1 := sz_subs t
            have h2 : (((subs t).take i).map Term.sz).sum ≤ ((subs t).map Term.sz).sum := by
              rw [List.map_take]
              exact sum_take_le _ _
            omega
          have hsum2 : (((subs t).take (i + 1)).map Term.sz).sum ≤ ((subs t).map Term.sz).sum := by
            rw [List.map_take]
            exact sum_take_le _ _
          have hsz1 := sz_subs t
          have hne : f ≠ l2 := ne_of_none (sm _ _ e1) nl2
          have tk : TK H4 (upd H4 f (.lst (acc ++ zs))) := tk_lst (.mut f H4 _) ef4
          refine ⟨f, l2, acc, zs, rfl, rfl, ef4, el2, small_sz (by omega), ?_⟩
          refine ⟨_, _, rfl, fun b u e => ?_, upd_same, ?_, ((p1.same sm).same s4).keep tk, ?_, ?_⟩
          · rw [upd_ne (ne_of_none e nf)]
            exact sT _ _ e
          · rw [upd_ne (Ne.symm hfl)]
            exact s4 _ _ (sm _ _ e2)
          · rw [List.length_append, hsz]
            omega
          · rw [List.take_succ, es', List.flatMap_append, ← List.append_assoc, List.map_append]
            refine (((p3.same sm).same s4).keep tk).app ?_
            have := pz.keep tk
            simpa using this
        · rintro σ H' ⟨y2, acc, rfl, s3, e1, e2, p1, p2, p3⟩
          rw [hlen, List.take_length, ← wl_subs] at p3
          exact ⟨_, rfl, q _ _ _ s3 nf e1 p3⟩
end
end WS
set_option Elab.async false
set_option linter.all false
set_option maxRecDepth 100000
set_option maxHeartbeats 4000000
namespace WS
open PySem L2
section
variable {P : Program} {w : World} {K : PySem.W.Frag} {mg : Str → Option Value} {base : Heap}
theorem sum_cast (l : List Nat) : (l.map fun n : Nat => (n : Int)).sum = ((l.sum : Nat) : Int) := by
  induction l with
  | nil => rfl
  | cons a r ih => rw [List.map_cons, List.sum_cons, List.sum_cons, ih]; omega
/-! ### _law_opened -/
theorem opn_ars (t : Term) (hw : wall? t = false) : hdw (opn t) = hdw t ∧ ars (opn t) = (ars t).take ((ars t).length - (subs t).length) ++ (subs t).map (fun s => Ar.e (opn s)) := by
  rw [subs_eq]
  cases t with
  | wall => cases hw
  | _ => exact ⟨rfl, rfl⟩
theorem PdAll.take {H : Hp} : ∀ {xs : List V} {ds : List PyData} (i : Nat), PdAll H xs ds → PdAll H (xs.take i) (ds.take i)
  | _, _, 0, _ => .nil
  | _, _, i + 1, .nil => .nil
  | _, _, i + 1, .cons a r => .cons a (r.take i)
theorem cut_take (xs : List V) (n : Nat) : cutV xs none (some (n : Int)) = xs.take n := by
  unfold cutV
  rw [HT.sIx_nat, HT.sIx_none, List.drop_zero, Nat.sub_zero]
  rcases Nat.le_total n xs.length with h | h
  · rw [Nat.min_eq_left h]
  · rw [Nat.min_eq_right h, List.take_length, List.take_of_length_le h]
def sp_opened (n : Nat) : Sp := fun vs H Q _ => ∃ v t, vs = [v] ∧ Pd H v (Term.d t) ∧ t.depth < n ∧ ∀ H' v', Same H H' → Pd H' v' (opn t).d → Q v' H'
theorem sc_law_opened : FnScope ["_law_placed", "_law_some", "_law_part"] ["_law_placed"] (defScope s__law_opened) := ⟨rfl, rfl, rfl, by decide +kernel, rfl, by decide +kernel, by decide +kernel⟩
theorem ok_law_opened (T : Tx w K mg) (k : Nat) : ∀ n, Held P w K mg base (k + n + 2) (He.fAd K ("_law_opened", none)) (sp_opened n)
  | 0 => by
    have G_law_terms_of := ok_law_terms_of (P := P) (base := base) T k
    refine FunD.held T.f__law_opened sc_law_opened (fun _ _ _ _ _ _ us hl => match us, hl with | [_], _ => rfl) (fun vs H Q E h => ?len) (fun fd cdv A outer s H vs Q E hr h => ?body)
    case len => obtain ⟨v, t, rfl, _⟩ := h; rfl
    case body => obtain ⟨v, t, rfl, _, hF, _⟩ := h; exact absurd hF (Nat.not_lt_zero _)
  | n + 1 => by
    have G_law_opened := ok_law_opened T k n
    have G_law_terms_of := ok_law_terms_of (P := P) (base := base) T (k + n + 1)
    refine FunD.held T.f__law_opened sc_law_opened (fun _ _ _ _ _ _ us hl => match us, hl with | [_], _ => rfl) (fun vs H Q E h => ?len) (fun fd cdv A outer s H vs Q E hr h => ?body)
    case len => obtain ⟨v, t, rfl, _⟩ := h; rfl
    case body =>
      obtain ⟨v, t, rfl, hv, hd, q⟩ := h
      refine ⟨_, (pss_cons (ps_if (pt_cmpR (op_eqD hr.units) (pe_ix ix_tup (pv 0) pe_int (fun _ _ => rfl)) pe_str (nomark _)) (pss_one (ps_ret (pe_cl G_law_opened hr T.g__law_opened (pa_cons (pe_ix ix_tup (pv 0) pe_int (fun _ _ => rfl)) pa_nil)))) pss_nil)
      (pss_cons (ps_set (i := 1) sc_law_opened.nd rfl (by first | exact Or.inl rfl | exact Or.inr rfl) (pe_cl G_law_terms_of hr T.g__law_terms_of (pa_cons (pv 0) pa_nil)))
      (pss_one (ps_ret (pe_op op_catA (pe_slice sl_tupA (pv 0) po_none (po_some (pe_op op_sub (pe_callB call_len_seq (by rfl) T.b_len PySem.boot_len (pa_cons (pv 0) pa_nil)) (pe_callB call_len_seq (by rfl) T.b_len PySem.boot_len (pa_cons (pv 1) pa_nil))))) (pe_callTy call_tuple_of (by rfl) T.b_tuple (by decide +kernel) (pa_cons (pe_lc (own := [("_law_part", 2)]) rfl sc_law_opened.nd (pi_list (pv 1)) (blkOk_by (own := [("_law_part", 2)]) (N := ["_law_placed", "_law_some", "_law_part"]) (sc := defScope s__law_opened) (by decide +kernel)) (fun _ _ _ _ _ => (pg_name (i := 2) sc_law_opened.nd rfl (Or.inl rfl))) (fun _ _ _ _ _ => pts_nil) (fun _ _ _ _ _ => (pe_cl G_law_opened hr T.g__law_opened (pa_cons (pv 2) pa_nil)))) pa_nil))))))), ?_⟩
      cases hw : wall? t with
      | true =>
        obtain ⟨m, A, B, e, p, a, b, x, rfl, rfl, hp, ha, hb, hx⟩ := wall_at hv hw
        refine ⟨_, rfl, _, _, _, _, rfl, rfl, st hp, at0 _ _, _, _, .str _, .str _, swall, swall, _, rfl, ?_⟩
        rw [eqv_str]
        have hd' : 1 + e.depth < n + 1 := hd
        exact itD rfl ⟨_, rfl, p, _, _, _, rfl, rfl, st hp, by rfl, _, e, rfl, hx, by omega, q⟩
      | false =>
        obtain ⟨p, xs, rfl, hp, hxs⟩ := td_tup t hv
        refine ⟨_, rfl, _, _, _, _, rfl, rfl, st hp, at0 _ _, _, _, .str _, .str _, sstr _ (hdw_ok t), swall, _, rfl, ?_⟩
        rw [eqv_str, hdw_wall, hw]
        have hlx : xs.length = (ars t).length := by rw [hxs.length, List.length_map]
        have hl4 := ars_len t
        have hsl : (subs t).length ≤ (ars t).length := List.length_filterMap_le _ _
        refine iteF ⟨_, rfl, _, t, rfl, hv, fun _ => rfl, fun H1 l ys s1 nl el pl => ?_⟩
        have hlen : ys.length = (subs t).length := by rw [pl.length, List.length_map]
        have hp1 := s1 _ _ hp
        -- what the sum of the two tuples is
        have fin : ∀ (H3 : Hp) (r : Addr) (zs : List V), Same H H3 → H3 r = some (.tup (.str (hdw t) :: (xs.take (xs.length - ys.length) ++ zs))) → PdAll H3 zs ((subs t).map fun s => (opn s).d) → Q (.ref r) H3 := by
          intro H3 r zs s3 er pz
          obtain ⟨o1, o2⟩ := opn_ars t hw
          refine q _ _ s3 (td_mk (opn t) (by rw [o1]; exact er) ?_)
          rw [o2, List.map_append, List.map_take, hlx, hlen]
          refine ((hxs.same s3).take _).app ?_
          rw [List.map_map]
          exact pz
        have eN : (((V.str (hdw t) :: xs).length : Nat) : Int) - ((ys.length : Nat) : Int) = ((xs.length - ys.length + 1 : Nat) : Int) := by
          rw [List.length_cons]
          omega
        have cut : ∀ (pa : Addr) (H2 : Hp), Same H1 H2 → H2 pa = some (.tup (.str (hdw t) :: xs.take (xs.length - ys.length))) →
            (tCB (fun xs H Q => ∃ p ys, xs = [.ref p] ∧ ((SqL K H p ys ∧ ∀ l, H l = none → Q (.ref l) (upd H l (.tup ys))) ∨ (SqT K H p ys ∧ Q (.ref p) H))) (tCons (tLc (iList K (tVar 1)) (gName 2) tYes (tCl (sp_opened n) (tCons (tVar 2) tNil)) [2]) tNil)) [some (.ref p), some (.ref l), none] H2 fun y H3 => rCatA K (.ref pa) y H3 Q := by
          intro pa H2 s2 epa
          have s12 := s1.trans s2
          refine ⟨_, rfl, l, rfl, ⟨_, sl (s2 _ _ el)⟩, fun D hD => lcS (src_list (xs := ys)) (fun i acc H' => Kp D H2 H' ∧ PdAll H' acc (((subs t).take i).map fun s => (opn s).d)) (small_sz (by omega)) ⟨.mut _ _ _, .nil⟩ (fun i acc H' kp => sl (kp.1 _ _ (ne_of_none (s2 _ _ el) hD) (s2 _ _ el))) (fun j z acc H' H4 KK K2 hj hla pv hDl sm hI k1 k2 => ?_) (fun acc H' hla pv e => ?_)⟩
          · obtain ⟨kp, pa'⟩ := pv
            obtain ⟨s', es', hs'⟩ := PdAll.atG pl hI
            have hm := List.mem_of_getElem? es'
            have d1 := subs_depth hm
            have s24 : Same H2 H4 := fun b u e => sm _ _ (kp _ _ (ne_of_none e hD) e)
            refine ⟨rfl, _, rfl, z, s', rfl, hs'.same (s2.trans s24), by omega, fun H5 v' s5 hv' => k1 _ _ (s5 _ _ (sm _ _ hDl)) ⟨((kp.trans (sm.kp D)).trans (s5.kp D)).trans (.mut _ _ _), ?_⟩⟩
            have tk : TK H5 (upd H5 D (.lst (acc ++ [v']))) := tk_lst (.mut D H5 _) (s5 _ _ (sm _ _ hDl))
            rw [List.take_succ, es', List.map_append]
            exact (((pa'.same sm).same s5).keep tk).app (.one (hv'.keep tk))
          · obtain ⟨kp, pa'⟩ := pv
            have sH' : Same H2 H' := fun b u e => kp _ _ (ne_of_none e hD) e
            rw [hlen, List.take_length] at pa'
            refine ⟨D, acc, rfl, .inl ⟨sl e, fun l2 hl2 => ?_⟩⟩
            have s3 := sH'.trans (Same.new hl2 (o := .tup acc))
            refine ⟨pa, l2, _, acc, rfl, rfl, st (s3 _ _ epa), st upd_same, small_sz (by rw [List.length_cons, List.length_take]; omega), fun z => (List.cons_ne_nil _ _ z).elim, fun _ z => ?_, fun _ _ p4 hp4 => ?_⟩
            · subst z
              exact fin _ _ [] (s12.trans s3) (by rw [List.append_nil]; exact s3 _ _ epa) (pa'.same (Same.new hl2))
            · exact fin _ _ acc ((s12.trans s3).trans (Same.new hp4)) upd_same ((pa'.same (Same.new hl2)).same (Same.new hp4))
        refine ⟨_, rfl, _, rfl, p, _, rfl, .inr (st hp1), _, rfl, l, _, rfl, .inl (sl el), _, _, rfl, rfl, _, rfl, p, _, rfl, st hp1, fun z => ?_, fun _ t2 ht2 => ?_⟩
        · refine cut p H1 (Same.refl _) ?_
          have z2 := z.2
          rw [eN, HT.sIx_nat, List.length_cons] at z2
          rw [List.take_of_length_le (by omega)]
          exact hp1
        · refine cut t2 _ (Same.new ht2) (upd_same.trans ?_)
          rw [eN, cut_take, List.take_succ_cons]
/-! ### _law_places -/
def kvsP : List (Key × V) := [(.inr "call", .int 2), (.inr "tell", .int 1), (.inr "if", .int 3), (.inr "add", .int 2), (.inr "sub", .int 2), (.inr "size", .int 1), (.inr "box", .int 1), (.inr "read", .int 1), (.inr "write", .int 2), (.inr "same", .int 2)]
def plc : Term → Nat
  | .call _ _ => 2
  | .tell _ _ => 1
  | .ite _ _ _ => 3
  | .sum _ _ _ => 2
  | .size _ => 1
  | .box _ _ => 1
  | .read _ => 1
  | .write _ _ => 2
  | .same _ _ => 2
  | _ => 0
theorem kvsP_at (t : Term) : (valV (mergeK [] kvsP) (.inr (hdw t))).getD (.int 0) = .int (plc t) := by
  cases t with
  | sum s _ _ => cases s <;> simp only [hdw, word, plc] <;> decide +kernel
  | _ =>
    simp only [hdw, plc]
    decide +kernel
theorem cnt_subs (t : Term) : cnt t = plc t + ((subs t).map cnt).sum := by
  rw [subs_eq]
  cases t <;> simp [cnt, plc, sbs] <;> omega
def sp_places (n : Nat) : Sp := fun vs H Q _ => ∃ v t, vs = [v] ∧ Pd H v (Term.d t) ∧ t.depth < n ∧ ∀ H', Same H H' → Q (.int (cnt t)) H'
theorem sc_law_places : FnScope ["_law_piece", "_law_many", "_law_part"] ["_law_piece"] (defScope s__law_places) := ⟨rfl, rfl, rfl, by decide +kernel, rfl, by decide +kernel, by decide +kernel⟩
theorem ok_law_places (T : Tx w K mg) (k : Nat) : ∀ n, Held P w K mg base (k + n + 2) (He.fAd K ("_law_places", none)) (sp_places n)
  | 0 => by
    have G_law_terms_of := ok_law_terms_of (P := P) (base := base) T k
    refine FunD.held T.f__law_places sc_law_places (fun _ _ _ _ _ _ us hl => match us, hl with | [_], _ => rfl) (fun vs H Q E h => ?len) (fun fd cdv A outer s H vs Q E hr h => ?body)
    case len => obtain ⟨v, t, rfl, _⟩ := h; rfl
    case body => obtain ⟨v, t, rfl, _, hF, _⟩ := h; exact absurd hF (Nat.not_lt_zero _)
  | n + 1 => by
    have G_law_places := ok_law_places T k n
    have G_law_terms_of := ok_law_terms_of (P := P) (base := base) T (k + n + 1)
    refine FunD.held T.f__law_places sc_law_places (fun _ _ _ _ _ _ us hl => match us, hl with | [_], _ => rfl) (fun vs H Q E h => ?len) (fun fd cdv A outer s H vs Q E hr h => ?body)
    case len => obtain ⟨v, t, rfl, _⟩ := h; rfl
    case body =>
      obtain ⟨v, t, rfl, hv, hd, q⟩ := h
      have hu := hu_of hr
      refine ⟨_, (pss_cons (ps_set (i := 1) sc_law_places.nd rfl (by first | exact Or.inl rfl | exact Or.inr rfl) (pe_disp (pps_cons pe_str pe_int (pps_cons pe_str pe_int (pps_cons pe_str pe_int (pps_cons pe_str pe_int (pps_cons pe_str pe_int (pps_cons pe_str pe_int (pps_cons pe_str pe_int (pps_cons pe_str pe_int (pps_cons pe_str pe_int (pps_cons pe_str pe_int pps_nil)))))))))) (by rfl) (by rfl) (fun z => by cases z) (by decide)))
      (pss_one (ps_ret (pe_op op_add (pe_dget2 hu (pv 1) (pe_ix ix_tup (pv 0) pe_int (fun _ _ => rfl)) pe_int ⟨rfl, rfl, rfl, rfl⟩) (pe_callB (cr_sum rfl) (by rfl) T.b_sum (by decide +kernel) (pa_cons (pe_lc (own := [("_law_part", 2)]) rfl sc_law_places.nd (pi_list (pe_cl G_law_terms_of hr T.g__law_terms_of (pa_cons (pv 0) pa_nil))) (blkOk_by (own := [("_law_part", 2)]) (N := ["_law_piece", "_law_many", "_law_part"]) (sc := defScope s__law_places) (by decide +kernel)) (fun _ _ _ _ _ => (pg_name (i := 2) sc_law_places.nd rfl (Or.inl rfl))) (fun _ _ _ _ _ => pts_nil) (fun _ _ _ _ _ => (pe_cl G_law_places hr T.g__law_places (pa_cons (pv 2) pa_nil)))) pa_nil)))))), ?_⟩
      obtain ⟨p, xs, rfl, hp, hxs⟩ := td_tup t hv
      refine fun d hd0 => ⟨upd_same, kvsP, rfl, by decide, ?_⟩
      have s0 : Same H (upd (upd H d (.dK [])) d (.dK (mergeK [] kvsP))) := by
        rw [upd_upd]
        exact Same.new hd0
      have ed : (upd (upd H d (.dK [])) d (.dK (mergeK [] kvsP))) d = some (.dK (mergeK [] kvsP)) := upd_same
      generalize upd (upd H d (.dK [])) d (.dK (mergeK [] kvsP)) = H0 at s0 ed
      refine ⟨_, rfl, d, rfl, .inl ⟨_, .inl ed⟩, _, rfl, _, _, _, _, rfl, rfl, st (s0 _ _ hp), at0 _ _, _, DGet.k (k := .inr (hdw t)) ed, ?_⟩
      rw [kvsP_at]
      refine ⟨_, rfl, _, t, rfl, hv.same s0, fun _ => rfl, fun H1 l ys s1 nl el pl => ⟨l, rfl, ⟨_, sl el⟩, fun D hD => lcF (src_list (xs := ys)) (((subs t).map cnt).map fun n : Nat => V.int n) (small_sz (by rw [pl.length, List.length_map]; have := subs_len t; omega)) (by rw [pl.length]; simp) hD (fun H' kp => sl (kp _ _ (ne_of_none el hD) el)) (fun j z o H' H2 KK hj hz kp sm hI kk => ?_) (fun H' kp e => ?_)⟩⟩
      · obtain ⟨s', es', hs'⟩ := PdAll.atG pl hI
        have hm := List.mem_of_getElem? es'
        have d1 := subs_depth hm
        have s3 : Same H1 H2 := fun b u e => sm _ _ (kp _ _ (ne_of_none e hD) e)
        rw [List.getElem?_map, List.getElem?_map, es'] at hz
        cases hz
        exact ⟨rfl, _, rfl, _, s', rfl, hs'.same s3, by omega, kk⟩
      · have sH : Same H H' := (s0.trans s1).trans fun b u e => kp _ _ (ne_of_none e hD) e
        refine ⟨D, ((subs t).map cnt).map (fun n : Nat => (n : Int)), rfl, sl (by rw [List.map_map]; exact e), _, _, rfl, rfl, ?_⟩
        refine qe (congrArg V.int ?_) (q _ sH)
        rw [cnt_subs t]
        rw [sum_cast]
        omega
end
end WS
set_option Elab.async false
set_option linter.all false
set_option maxRecDepth 100000
set_option maxHeartbeats 4000000
namespace WS
open PySem L2
structure Hall where
  x : Str
  F : Form
  e : Term
abbrev Hall.d (h : Hall) : PyData := .tuple [.str h.x, h.F.d, h.e.d]
structure HallOk (h : Hall) : Prop where
  nm : IsName h.x
  fo : h.F = .any ∨ ∃ a b, h.F = .deed a b
  hi : h.F.height ≤ 5
  wr : Wr h.e
  dp : h.e.depth ≤ 20
  dd : hdw h.e = "deed"
theorem inV_strs (x : Str) (l : List Str) : inV (.str x) (l.map V.str) = decide (x ∈ l) := by
  unfold inV
  rw [Bool.eq_iff_iff, List.any_map, List.any_eq_true]
  constructor
  · rintro ⟨y, hy, e⟩
    have e : (y == x) = true := e
    rw [eq_of_beq e] at hy
    exact decide_eq_true hy
  · intro h
    exact ⟨x, of_decide_eq_true h, by show (x == x) = true; simp⟩
theorem flat_strs (l : List Str) : (l.map V.str).all flatV = true := by
  rw [List.all_map, List.all_eq_true]
  intro x _
  rfl
theorem ihall {H : Hp} {v : V} {h : Hall} (p : Pd H v h.d) : ∃ a f e, v = .ref a ∧ H a = some (.tup [.str h.x, f, e]) ∧ Pd H f h.F.d ∧ Pd H e h.e.d := by
  obtain ⟨a, x, f, e, rfl, ha, hx, hf, he⟩ := Pd.t3 p
  cases hx.str_of
  exact ⟨a, f, e, rfl, ha, hf, he⟩
theorem sdeed : SeqAt.shaped (.str "deed") = true := by decide +kernel
section
variable {P : Program} {w : World} {K : PySem.W.Frag} {mg : Str → Option Value} {base : Heap}
def sp_is_hall_form : Sp := fun vs H Q _ => ∃ v F, vs = [v] ∧ Pd H v (Form.d F) ∧ (F = .any ∨ ∃ a b, F = .deed a b) ∧ F.height ≤ 5 ∧ ∀ H', Same H H' → Q (.bl true) H'
theorem sc_is_hall_form : FnScope ["thing"] ["thing"] (defScope s_is_hall_form) := ⟨rfl, rfl, rfl, by decide +kernel, rfl, by decide +kernel, by decide +kernel⟩
theorem ok_is_hall_form (T : Tx w K mg) (k : Nat) : Held P w K mg base (k + 11) (He.fAd K ("is_hall_form", none)) sp_is_hall_form := by
  have G_is_form := (ok_is_form (P := P) (base := base) T (k + 2))
  have G_head_of := ok_head_of (P := P) (base := base) T k
  refine FunD.held T.f_is_hall_form sc_is_hall_form (fun _ _ _ _ _ _ us hl => match us, hl with | [_], _ => rfl) (fun vs H Q E h => ?len) (fun fd cdv A outer s H vs Q E hr h => ?body)
  case len => obtain ⟨v, F, rfl, _⟩ := h; rfl
  case body =>
    obtain ⟨v, F, rfl, hv, hF, hh, q⟩ := h
    refine ⟨_, (pss_one (ps_ret (pe_and (pe_cl G_is_form hr T.g_is_form (pa_cons (pv 0) pa_nil)) (pe_one (pe_or (pe_cmpR (op_eqD hr.units) (pv 0) (pe_gs T.s_ANY_halls) (nomark _)) (pe_one (pe_cmpR (op_eqD hr.units) (pe_cl G_head_of hr T.g_head_of (pa_cons (pv 0) pa_nil)) (pe_gs T.s_DEED_halls) (nomark _)))))))), ?_⟩
    refine ⟨_, rfl, v, F, rfl, hv, hh, fun H1 s1 => ⟨_, rfl, iteT ⟨_, rfl, _, _, (hv.same s1).dp, (fany _).dp, shaped_form F (by omega), sany, _, rfl, ?_⟩⟩⟩
    rw [eqv_form]
    rcases hF with rfl | ⟨a, b, rfl⟩
    · exact itD rfl (q _ s1)
    · refine itDn (by intro e; cases e) ⟨_, rfl, v, _, rfl, hv.same s1, hh, fun H2 s2 => ⟨_, _, .str _, .str _, sdeed, sdeed, ?_⟩⟩
      rw [eqv_str]
      exact qe (congrArg V.bl (decide_eq_true rfl)) (q _ (s1.trans s2))
def sp_is_hall : Sp := fun vs H Q _ => ∃ v h, vs = [v] ∧ Pd H v (Hall.d h) ∧ HallOk h ∧ ∀ H', Same H H' → Q (.bl true) H'
theorem sc_is_hall : FnScope ["thing", "name", "form", "term"] ["thing"] (defScope s_is_hall) := ⟨rfl, rfl, rfl, by decide +kernel, rfl, by decide +kernel, by decide +kernel⟩
theorem ok_is_hall (T : Tx w K mg) (k : Nat) : Held P w K mg base (k + 51) (He.fAd K ("is_hall", none)) sp_is_hall := by
  have G_is_name := (ok_is_name (P := P) (base := base) T (k + 49))
  have G_is_hall_form := (ok_is_hall_form (P := P) (base := base) T (k + 39))
  have G_is_term := ok_is_term (P := P) (base := base) T k 21 (by omega)
  refine FunD.held T.f_is_hall sc_is_hall (fun _ _ _ _ _ _ us hl => match us, hl with | [_], _ => rfl) (fun vs H Q E h => ?len) (fun fd cdv A outer s H vs Q E hr h => ?body)
  case len => obtain ⟨v, F, rfl, _⟩ := h; rfl
  case body =>
    obtain ⟨v, h, rfl, hv, ok, q⟩ := h
    refine ⟨_, (pss_cons (ps_if (PW.pt (pw_or (pt_not (pt_val (pe_callB call_isN (by rfl) T.b_isinstance (by decide +kernel) (pa_cons (pv 0) (pa_cons (pe_bltn (v := .ty "tuple") (by rfl) T.b_tuple (by decide +kernel) rfl) pa_nil))))) (pw_or1 (pt_cmpR op_ne (pe_callB call_len_seq (by rfl) T.b_len PySem.boot_len (pa_cons (pv 0) pa_nil)) pe_int (nomark _))))) (pss_one (ps_ret pe_bl)) pss_nil)
      (pss_cons (ps_asg (pv 0) (pg_tup (n := 3) rfl (pgs_cons (pg_name (i := 1) sc_is_hall.nd rfl (Or.inl rfl)) (pgs_cons (pg_name (i := 2) sc_is_hall.nd rfl (Or.inl rfl)) (pgs_cons (pg_name (i := 3) sc_is_hall.nd rfl (Or.inl rfl)) pgs_nil)))))
      (pss_one (ps_ret (pe_and (pe_cl G_is_name hr T.g_is_name (pa_cons (pv 1) pa_nil)) (pe_and (pe_cl G_is_hall_form hr T.g_is_hall_form (pa_cons (pv 2) pa_nil)) (pe_and (pe_cl G_is_term hr T.g_is_term (pa_cons (pv 3) pa_nil)) (pe_one (pe_cmpR (op_eqD hr.units) (pe_ix ix_tup (pv 3) pe_int (fun _ _ => rfl)) (pe_gs T.s_DEED_halls) (nomark _)))))))))), ?_⟩
    obtain ⟨a, f, e, rfl, ha, hf, he⟩ := ihall hv
    have dp := ok.dp
    refine ⟨_, rfl, _, _, _, _, rfl, .tup ha, ktt, _, rfl, iteF ⟨_, rfl, a, _, rfl, .inr (st ha), rfl, _, rfl, iteF ⟨_, rfl, a, _, rfl, st ha, rfl, _, _, rfl, _, _, rfl, _, _, rfl, rfl, ?_⟩⟩⟩
    refine ⟨_, rfl, _, rfl, ok.nm, fun H1 s1 => ⟨_, rfl, iteT ⟨_, rfl, f, h.F, rfl, hf.same s1, ok.fo, ok.hi, fun H2 s2 => ⟨_, rfl, iteT ⟨_, rfl, e, h.e, rfl, (he.same s1).same s2, ok.wr, by omega, by omega, fun H3 s3 => ⟨_, rfl, iteT ?_⟩⟩⟩⟩⟩⟩
    have s := (s1.trans s2).trans s3
    obtain ⟨p, xs, rfl, hp, hxs⟩ := td_tup h.e (he.same s)
    refine ⟨_, rfl, _, _, _, _, rfl, rfl, st hp, at0 _ _, _, _, .str _, .str _, sstr _ (hdw_ok _), sdeed, ?_⟩
    rw [eqv_str, ok.dd]
    exact qe (congrArg V.bl (decide_eq_true rfl)) (q _ s)
def sp_want_halls : Sp := fun vs H Q _ => ∃ (l : Addr) (vs' : List V) (hs : List Hall), vs = [.ref l] ∧ H l = some (.lst vs') ∧ PdAll H vs' (hs.map Hall.d) ∧ (∀ h ∈ hs, HallOk h) ∧ hs.length ≤ 12 ∧ (hs.map (·.x)).Nodup ∧ ∀ H', Same H H' → Q .non H'
theorem sc_want_halls : FnScope ["thing", "names", "number", "hall"] ["thing"] (defScope s_want_halls) := ⟨rfl, rfl, rfl, by decide +kernel, rfl, by decide +kernel, by decide +kernel⟩
theorem ok_want_halls (T : Tx w K mg) (k : Nat) : Held P w K mg base (k + 52) (He.fAd K ("want_halls", none)) sp_want_halls := by
  have G_is_hall := ok_is_hall (P := P) (base := base) T k
  refine FunD.held T.f_want_halls sc_want_halls (fun _ _ _ _ _ _ us hl => match us, hl with | [_], _ => rfl) (fun vs H Q E h => ?len) (fun fd cdv A outer s H vs Q E hr h => ?body)
  case len => obtain ⟨l, vs', hs, rfl, _⟩ := h; rfl
  case body =>
    obtain ⟨l, vs', hs, rfl, hl, hp, ok, hlen, nd, q⟩ := h
    refine ⟨_, (pss_cons (ps_if (PW.pt (pw_or (pt_not (pt_val (pe_callB call_isN (by rfl) T.b_isinstance (by decide +kernel) (pa_cons (pv 0) (pa_cons (pe_bltn (v := .ty "list") (by rfl) T.b_list (by decide +kernel) rfl) pa_nil))))) (pw_or1 (pt_cmpR op_gt (pe_callB call_len_seq (by rfl) T.b_len PySem.boot_len (pa_cons (pv 0) pa_nil)) (pe_gi T.i_MOST_HALLS) (nomark _))))) (pss_one ps_never) pss_nil)
      (pss_cons (ps_set (i := 1) sc_want_halls.nd rfl (by first | exact Or.inl rfl | exact Or.inr rfl) (pe_lst pa_nil))
      (pss_one (ps_for PassesOwn.never rfl (pi_enumB (by rfl) T.b_enumerate (pa_cons (pv 0) pa_nil)) (pg_tup (n := 2) rfl (pgs_cons (pg_name (i := 2) sc_want_halls.nd rfl (Or.inl rfl)) (pgs_cons (pg_name (i := 3) sc_want_halls.nd rfl (Or.inl rfl)) pgs_nil))) (pss_cons (ps_if (PW.pt (pw_or (pt_not (pt_val (pe_cl G_is_hall hr T.g_is_hall (pa_cons (pv 3) pa_nil)))) (pw_or1 (pt_cmpR op_in_seq (pe_ix ix_tup (pv 3) pe_int (fun _ _ => rfl)) (pv 1) (by rfl))))) (pss_one ps_never) pss_nil)
      (pss_one (ps_expr (pe_bm PySem.F.plainAttrs_list PySem.F.slot_list_append PySem.F.type_list_append mt_append (pv 1) (pa_cons (pe_ix ix_tup (pv 3) pe_int (fun _ _ => rfl)) pa_nil))))))))), ?_⟩
    have hvl : vs'.length = hs.length := by rw [hp.length, List.length_map]
    refine ⟨_, rfl, _, _, _, _, rfl, .lst hl, kll, _, rfl, iteF ⟨_, rfl, l, _, rfl, .inl (sl hl), _, _, rfl, rfl, _, rfl, itDn (by omega) ⟨small_sz (by simp), fun nl hnl => ?_⟩⟩⟩
    have s1 : Same H (upd H nl (.lst [])) := Same.new hnl
    have hne : nl ≠ l := (ne_of_none hl hnl).symm
    refine ⟨_, rfl, .lst l, vs', rfl, sl (s1 _ _ hl), forS (src_enum (c := .lst l) (xs := vs')) (fun i σ H' => ∃ y2 y3, σ = [some (.ref l), some (.ref nl), y2, y3] ∧ Same H H' ∧ H' nl = some (.lst (((hs.take i).map (·.x)).map V.str))) ⟨_, _, rfl, s1, upd_same⟩ ?_ ?_ ?_⟩
    · rintro i σ H' ⟨_, _, _, s, _⟩
      exact sl (s _ _ hl)
    · rintro i x σ H2 H3 hi ⟨y2, y3, rfl, s2, en⟩ sm ⟨tt, y, rfl, et, ey⟩
      obtain ⟨h, eh, ph⟩ := PdAll.atG hp ey
      have hm := List.mem_of_getElem? eh
      have s3 := s2.trans sm
      refine ⟨tt, _, rfl, st et, rfl, _, _, rfl, y, _, rfl, rfl, ?_⟩
      refine ⟨_, rfl, y, h, rfl, ph.same s3, ok h hm, fun H4 s4 => ⟨_, rfl, iteF ?_⟩⟩
      obtain ⟨a, f, e, rfl, ha, hf, he⟩ := ihall (ph.same (s3.trans s4))
      have en4 := s4 _ _ (sm _ _ en)
      refine ⟨_, rfl, _, _, _, _, rfl, rfl, st ha, at0 _ _, _, rfl, nl, _, rfl, .inl (sl en4), rfl, flat_strs _, _, rfl, ?_⟩
      refine (show (if inV (.str h.x) _ = true then _ else _) from ?_)
      rw [inV_strs]
      have hn : h.x ∉ (hs.take i).map (·.x) := by
        intro hh
        have e1 : hs.map (·.x) = (hs.take i).map (·.x) ++ (hs.drop i).map (·.x) := by rw [← List.map_append, List.take_append_drop]
        rw [e1] at nd
        have hd : h.x ∈ (hs.drop i).map (·.x) := List.mem_map_of_mem (f := Hall.x) (by
          rw [List.mem_iff_getElem?]
          exact ⟨0, by rw [List.getElem?_drop, Nat.add_zero]; exact eh⟩)
        exact (List.nodup_append.mp nd).2.2 _ hh _ hd rfl
      refine itDn hn ⟨_, rfl, ty_lst en4, _, rfl, _, _, _, _, rfl, rfl, st ha, at0 _ _, nl, _, _, rfl, rfl, en4, small_sz (by rw [List.length_map, List.length_map, List.length_take]; omega), _, _, rfl, fun b u eb => ?_, ?_⟩
      · rw [upd_ne (ne_of_none eb hnl)]
        exact (s3.trans s4) _ _ eb
      · rw [upd_same, List.take_succ, eh]
        simp
    · rintro σ H' ⟨y2, y3, rfl, s, en⟩
      exact q _ s
end
end WS
set_option Elab.async false
set_option linter.all false
set_option maxRecDepth 100000
set_option maxHeartbeats 4000000
/-! What placing keeps. -/
namespace WS
open PySem L2
abbrev PC (K : PySem.W.Frag) : Addr := He.ga K "Placer"
def Pc (K : PySem.W.Frag) (H : Hp) (p : Addr) (a : Str) (d : Addr) (n : Nat) : Prop := ∃ dx, H p = some (.ins (PC K) dx [("ahead", .str a), ("forms", .ref d), ("places", .int (n : Nat))])
def EnvAt (H : Hp) (d : Addr) (g0 : Ctx) : Prop := ∃ kvs, H d = some (.dK kvs) ∧ ∀ x, match look g0 x with
  | some F => ∃ v, valV kvs (.inr x) = some v ∧ Pd H v F.d
  | none => valV kvs (.inr x) = none
abbrev bdD (q : Str × Form) : PyData := .tuple [.str q.1, q.2.d]
def BdAt (H : Hp) (b : Addr) (g : Ctx) : Prop := ∃ xs, H b = some (.lst xs) ∧ PdAll H xs (g.map bdD)
def Low (g : Ctx) : Prop := ∀ x F, look g x = some F → F.height ≤ 5
theorem Pc.ntup {K : PySem.W.Frag} {H : Hp} {p : Addr} {a : Str} {d : Addr} {n : Nat} (h : Pc K H p a d n) (xs : List V) : H p ≠ some (.tup xs) := fun e => by
  obtain ⟨dx, h⟩ := h
  rw [h] at e
  cases e
theorem Pc.tk {K : PySem.W.Frag} {H H' : Hp} {p : Addr} {a : Str} {d : Addr} {n : Nat} (h : Pc K H p a d n) (k : Kp p H H') : TK H H' := k.tk h.ntup
theorem Pc.same {K : PySem.W.Frag} {H H' : Hp} {p : Addr} {a : Str} {d : Addr} {n : Nat} (h : Pc K H p a d n) (s : Same H H') : Pc K H' p a d n := by
  obtain ⟨dx, h⟩ := h
  exact ⟨dx, s _ _ h⟩
theorem EnvAt.keep {H H' : Hp} {d : Addr} {g0 : Ctx} (h : EnvAt H d g0) (hd : ∀ kvs, H d = some (.dK kvs) → H' d = some (.dK kvs)) (t : TK H H') : EnvAt H' d g0 := by
  obtain ⟨kvs, e, q⟩ := h
  refine ⟨kvs, hd _ e, fun x => ?_⟩
  have := q x
  revert this
  cases look g0 x with
  | none => exact fun h => h
  | some F => exact fun ⟨v, h1, h2⟩ => ⟨v, h1, h2.keep t⟩
theorem BdAt.keep {H H' : Hp} {b : Addr} {g : Ctx} (h : BdAt H b g) (hb : ∀ xs, H b = some (.lst xs) → H' b = some (.lst xs)) (t : TK H H') : BdAt H' b g := by
  obtain ⟨xs, e, q⟩ := h
  exact ⟨xs, hb _ e, q.keep t⟩
/-- what stays: the globals' forms, the bound list -/
structure PlB (H : Hp) (b d : Addr) (g0 g : Ctx) : Prop where
  env : EnvAt H d g0
  bd : BdAt H b g
  low : Low (g0 ++ g)
theorem PlB.kp {H H' : Hp} {p b d : Addr} {g0 g : Ctx} (h : PlB H b d g0 g) (k : Kp p H H') (hp : ∀ xs, H p ≠ some (.tup xs)) (hl : ∀ xs, H p ≠ some (.lst xs)) (hk : ∀ xs, H p ≠ some (.dK xs) ∨ p ≠ d) : PlB H' b d g0 g where
  env := h.env.keep (fun kvs e => k _ _ (fun q => by
    rcases hk kvs with z | z
    · exact z (by rw [← q]; exact e)
    · exact z q.symm) e) (k.tk hp)
  bd := h.bd.keep (fun xs e => k _ _ (fun q => hl xs (by rw [← q]; exact e)) e) (k.tk hp)
  low := h.low
theorem PlB.pc {K : PySem.W.Frag} {H H' : Hp} {p b d d' : Addr} {a : Str} {n : Nat} {g0 g : Ctx} (h : PlB H b d g0 g) (c : Pc K H p a d' n) (k : Kp p H H') : PlB H' b d g0 g := by
  obtain ⟨dx, e⟩ := c
  exact h.kp k (fun xs q => by rw [e] at q; cases q) (fun xs q => by rw [e] at q; cases q) (fun xs => .inl fun q => by rw [e] at q; cases q)
theorem PlB.same {H H' : Hp} {b d : Addr} {g0 g : Ctx} (h : PlB H b d g0 g) (s : Same H H') : PlB H' b d g0 g where
  env := h.env.keep (fun kvs e => s _ _ e) s.tk
  bd := h.bd.keep (fun xs e => s _ _ e) s.tk
  low := h.low
/-- the forms of what is drawn -/
theorem fo_height : ∀ (t : Term) (g : Ctx), Ok g t → Wr t → Low g → (fo g t).height ≤ 5
  | .number _, _, _, _, _ => Nat.zero_le _
  | .txt _, _, _, _, _ => Nat.zero_le _
  | .name x, g, ok, _, lo => by
    show ((look g x).getD .any).height ≤ 5
    cases e : look g x with
    | none => exact Nat.zero_le _
    | some F => exact lo x F e
  | .deed x A e, g, ok, _, _ => by
    show 1 + max A.height (fo (g ++ [(x, A)]) e).height ≤ 5
    have := ok.2.1
    have := ok.2.2
    omega
  | .call f e, g, ok, wr, lo => by
    have h := fo_height f g ok.1 wr.1 lo
    show (cod (fo g f)).height ≤ 5
    rcases asDeed_eq ok.2.1 with ⟨_, _, e3⟩ | e3
    · rw [e3]; exact Nat.zero_le _
    · rw [e3] at h
      have h : 1 + max (dom (fo g f)).height (cod (fo g f)).height ≤ 5 := h
      omega
  | .lets x e f, g, ok, wr, lo => by
    refine fo_height f _ ok.2 wr.2.2 fun y F h => ?_
    rw [look_snoc] at h
    split at h
    · cases h; exact fo_height e g ok.1 wr.2.1 lo
    · exact lo y F h
  | .tell A e, g, ok, wr, lo => wr.1
  | .ite _ _ _, _, _, _, _ => Nat.zero_le _
  | .sum _ _ _, _, _, _, _ => Nat.zero_le _
  | .size _, _, _, _, _ => Nat.zero_le _
  | .box A e, g, ok, wr, lo => by
    have := ok.2.2
    show 1 + A.height ≤ 5
    omega
  | .read e, g, ok, wr, lo => by
    have h := fo_height e g ok.1 wr lo
    show (inn (fo g e)).height ≤ 5
    rcases asBox_eq ok.2 with ⟨_, e3⟩ | e3
    · rw [e3]; exact Nat.zero_le _
    · rw [e3] at h
      have h : 1 + (inn (fo g e)).height ≤ 5 := h
      omega
  | .write _ _, _, _, _, _ => Nat.zero_le _
  | .same _ _, _, _, _, _ => Nat.zero_le _
  | .wall _ _ _ _, _, ok, _, _ => ok.elim
theorem Low.snoc {g : Ctx} {x : Str} {F : Form} (h : Low g) (hF : F.height ≤ 5) : Low (g ++ [(x, F)]) := fun y G e => by
  rw [look_snoc] at e
  split at e
  · cases e; exact hF
  · exact h y G e
theorem BdAt.snoc {H H' : Hp} {b b2 q : Addr} {g : Ctx} {xs : List V} {x : Str} {F : Form} (e2 : H' b2 = some (.lst (xs ++ [.ref q]))) (hx : PdAll H' xs (g.map bdD)) (hq : Pd H' (.ref q) (bdD (x, F))) : BdAt H' b2 (g ++ [(x, F)]) :=
  ⟨_, e2, by rw [List.map_append]; exact hx.app (.one hq)⟩
theorem mark_len {n : Nat} (hn : n ≤ 200000) : (Str.ofString (toString ((n : Nat) : Int))).length ≤ 6 := by
  refine PyProof.Rows.toString_length_le (by omega) (k := 6) (by decide) ?_
  have h : (200000 : Int) < 10 ^ 6 := by decide
  exact Int.lt_of_le_of_lt (by omega) h
theorem mark_log {n : Nat} (hn : n ≤ 200000) : ((n : Nat) : Int).natAbs.log2 < 1920 := by
  rw [Int.natAbs_natCast]
  have h1 : n.log2 ≤ n := Nat.log2_le_self n
  rcases Nat.eq_zero_or_pos n with h | h
  · subst h; decide
  · have h2 : n < 2 ^ 18 := Nat.lt_of_le_of_lt hn (by decide)
    have h3 := (Nat.log2_lt (by omega)).mpr h2
    omega
end WS
set_option Elab.async false
set_option linter.all false
set_option maxRecDepth 100000
set_option maxHeartbeats 4000000
namespace WS
open PySem L2
abbrev PF (a d n : V) : List (Str × V) := [("ahead", a), ("forms", d), ("places", n)]
theorem putF1 (a : V) : putF "ahead" a [] = ([("ahead", a)] : List (Str × V)) := rfl
theorem putF2 (a d : V) : putF "forms" d [("ahead", a)] = ([("ahead", a), ("forms", d)] : List (Str × V)) := by
  unfold putF
  rw [if_neg (by decide)]
  rfl
theorem putF3 (a d n : V) : putF "places" n [("ahead", a), ("forms", d)] = PF a d n := by
  unfold putF
  rw [if_neg (by decide)]
  unfold putF
  rw [if_neg (by decide)]
  rfl
theorem putF4 (a d n m : V) : putF "places" m (PF a d n) = PF a d m := by
  unfold putF
  rw [if_neg (by decide)]
  unfold putF
  rw [if_neg (by decide)]
  unfold putF
  rw [if_pos rfl]
theorem lk1 (a d n : V) : (PF a d n).lookup ("ahead" : Str) = some a := rfl
theorem lk2 (a d n : V) : (PF a d n).lookup ("forms" : Str) = some d := rfl
theorem lk3 (a d n : V) : (PF a d n).lookup ("places" : Str) = some n := rfl
section
variable {P : Program} {w : World} {K : PySem.W.Frag} {mg : Str → Option Value} {base : Heap}
abbrev fP (K : PySem.W.Frag) (m : Str) : Addr := He.fAd K ("Placer", some m)
def sp_Placer_init (K : PySem.W.Frag) : Sp := fun vs H Q _ => ∃ (p dx d : Addr) (a : Str), vs = [.ref p, .str a, .ref d] ∧ H p = some (.ins (PC K) dx []) ∧ ∀ H', Kp p H H' → Pc K H' p a d 0 → Q .non H'
theorem sc_Placer_init : FnScope ["self", "ahead", "forms"] ["self", "ahead", "forms"] (defScope s_Placer_init) := ⟨rfl, rfl, rfl, by decide +kernel, rfl, by decide +kernel, by decide +kernel⟩
theorem ok_Placer_init (T : Tx w K mg) (k : Nat) : Held P w K mg base (k + 1) (fP K "__init__") (sp_Placer_init K) := by
  refine FunD.held T.f_Placer_init sc_Placer_init (fun _ _ _ _ _ _ us hl => match us, hl with | [_, _, _], _ => rfl) (fun vs H Q E h => ?len) (fun fd cdv A outer s H vs Q E hr h => ?body)
  case len => obtain ⟨p, dx, d, a, rfl, _⟩ := h; rfl
  case body =>
    obtain ⟨p, dx, d, a, rfl, hp, q⟩ := h
    refine ⟨_, (pss_cons (ps_fld (pv 0) (pv 1) rfl)
      (pss_cons (ps_fld (pv 0) (pv 2) rfl)
      (pss_one (ps_fld (pv 0) pe_int rfl)))), ?_⟩
    refine ⟨_, rfl, _, rfl, p, _, dx, _, rfl, hp, T.c_Placer, T.n_Placer_ahead, by simp, ?_⟩
    rw [putF1]
    refine ⟨_, rfl, _, rfl, p, _, dx, _, rfl, upd_same, T.c_Placer, T.n_Placer_forms, by simp, ?_⟩
    rw [putF2, upd_upd]
    refine ⟨_, rfl, p, _, dx, _, rfl, upd_same, T.c_Placer, T.n_Placer_places, by simp, ?_⟩
    rw [putF3, upd_upd]
    exact q _ (.mut _ _ _) ⟨dx, upd_same⟩
/-! ### form_of -/
theorem look_app (l r : Ctx) (x : Str) : look (l ++ r) x = match look r x with
  | some F => some F
  | none => look l x := by
  induction l with
  | nil =>
    show look r x = _
    cases look r x <;> rfl
  | cons q l ih =>
    obtain ⟨y, G⟩ := q
    show (match look (l ++ r) x with | some F => some F | none => if y = x then some G else none) = _
    rw [ih]
    cases look r x <;> rfl
theorem src_rev {K : PySem.W.Frag} {a : Addr} {xs : List V} : Src (Itv K a xs.length) (fun H => SqL K H a xs) xs.length (fun i x _ => xs[xs.length - 1 - i]? = some x) where
  go := fun i H u h => ⟨h, xs, xs[xs.length - 1 - i], u, List.getElem?_eq_getElem (by omega)⟩
  yld := fun i x H H' u h y => by
    obtain ⟨e, y⟩ := y
    subst e
    exact ⟨Same.refl _, y xs u⟩
  stop := fun H u => Nat.le_refl _
def sp_form_of (K : PySem.W.Frag) : Sp := fun vs H Q _ => ∃ (p b d : Addr) (a x : Str) (n : Nat) (g0 g : Ctx) (F : Form), vs = [.ref p, .str x, .ref b] ∧ Pc K H p a d n ∧ PlB H b d g0 g ∧ look (g0 ++ g) x = some F ∧ g.length ≤ 1000 ∧
  ∀ H' v, Same H H' → Pd H' v F.d → Q v H'
theorem sc_Placer_form_of : FnScope ["self", "name", "bound", "other", "form"] ["self", "name", "bound"] (defScope s_Placer_form_of) := ⟨rfl, rfl, rfl, by decide +kernel, rfl, by decide +kernel, by decide +kernel⟩
theorem ok_Placer_form_of (T : Tx w K mg) (k : Nat) : Held P w K mg base (k + 1) (fP K "form_of") (sp_form_of K) := by
  refine FunD.held T.f_Placer_form_of sc_Placer_form_of (fun _ _ _ _ _ _ us hl => match us, hl with | [_, _, _], _ => rfl) (fun vs H Q E h => ?len) (fun fd cdv A outer s H vs Q E hr h => ?body)
  case len => obtain ⟨p, b, d, a, x, n, g0, g, F, rfl, _⟩ := h; rfl
  case body =>
    obtain ⟨p, b, d, a, x, n, g0, g, F, rfl, ⟨dx, hp⟩, pb, lo, gl, q⟩ := h
    have hu := hu_of hr
    refine ⟨_, (pss_cons (ps_for PassesOwn.never rfl (pi_reversed (by rfl) T.b_reversed (pa_cons (pv 2) pa_nil)) (pg_tup (n := 2) rfl (pgs_cons (pg_name (i := 3) sc_Placer_form_of.nd rfl (Or.inl rfl)) (pgs_cons (pg_name (i := 4) sc_Placer_form_of.nd rfl (Or.inl rfl)) pgs_nil))) (pss_one (ps_if (pt_cmpR op_eq (pv 3) (pv 1) (nomark _)) (pss_one (ps_ret (pv 4))) pss_nil)))
      (pss_cons (ps_if (pt_cmp (pc_dnotin hu (pv 1) (pe_fld (pv 0) rfl))) (pss_one ps_never) pss_nil)
      (pss_one (ps_ret (pe_dget hu (pe_fld (pv 0) rfl) (pv 1) (fun _ _ => rfl)))))), ?_⟩
    obtain ⟨xs, hb, hxs⟩ := pb.bd
    have hlen : xs.length = g.length := by rw [hxs.length, List.length_map]
    refine ⟨_, rfl, b, xs, rfl, sl hb, forS src_rev (fun i σ H' => ∃ y3 y4, σ = [some (.ref p), some (.str x), some (.ref b), y3, y4] ∧ Same H H' ∧ look (g.drop (g.length - i)) x = none) ⟨none, none, rfl, Same.refl _, by rw [Nat.sub_zero, List.drop_length]; rfl⟩ ?_ ?_ ?_⟩
    · rintro i σ H' ⟨_, _, _, s, _⟩
      exact sl (s _ _ hb)
    · rintro i y σ H2 H3 hi ⟨y3, y4, rfl, s2, nl⟩ sm ey
      have s3 := s2.trans sm
      obtain ⟨⟨z, G⟩, eg, hg⟩ := PdAll.atG (hxs.same s3) ey
      rw [hlen] at eg hi
      obtain ⟨tt, z', f, rfl, et, hz, hf⟩ := Pd.t2 hg
      cases hz.str_of
      refine ⟨tt, _, rfl, st et, rfl, _, _, rfl, f, _, rfl, rfl, ?_⟩
      refine ⟨_, rfl, _, rfl, rfl, _, rfl, ?_⟩
      have e1 : g.length - i = g.length - 1 - i + 1 := by omega
      have ed : g.drop (g.length - 1 - i) = (z, G) :: g.drop (g.length - i) := by
        obtain ⟨hlt, hge⟩ := List.getElem?_eq_some_iff.mp eg
        rw [e1, List.drop_eq_getElem_cons hlt, hge]
      have el : look (g.drop (g.length - 1 - i)) x = if z = x then some G else none := by
        rw [ed]
        show (match look (g.drop (g.length - i)) x with | some F => some F | none => if z = x then some G else none) = _
        rw [nl]
      by_cases hzx : z = x
      · refine itD (by rw [hzx]) ⟨_, rfl, ?_⟩
        rw [if_pos hzx] at el
        have eF : look (g0 ++ g) x = some G := by
          rw [← List.take_append_drop (g.length - 1 - i) g, ← List.append_assoc, look_app, el]
        rw [lo] at eF
        cases eF
        exact q _ _ s3 hf
      · refine itDn (by intro e; cases e; exact hzx rfl) ⟨_, _, rfl, s3, ?_⟩
        rw [if_neg hzx] at el
        rw [show g.length - (i + 1) = g.length - 1 - i by omega]
        exact el
    · rintro σ H' ⟨y3, y4, rfl, s, nl⟩
      rw [hlen, Nat.sub_self, List.drop_zero] at nl
      have pb' := pb.same s
      obtain ⟨kvs, ek, hk⟩ := pb'.env
      have e0 : look g0 x = some F := by
        rw [look_app, nl] at lo
        exact lo
      have := hk x
      rw [e0] at this
      obtain ⟨v, ev, hv⟩ := this
      have hp' := s _ _ hp
      refine ⟨_, rfl, _, rfl, p, _, dx, _, _, rfl, hp', T.c_Placer, T.n_Placer_forms, lk2 _ _ _, d, some v, rfl, .inl ⟨kvs, .inr x, .inl ek, rfl, ev.symm⟩, _, rfl, iteF ?_⟩
      exact ⟨_, rfl, p, _, dx, _, _, rfl, hp', T.c_Placer, T.n_Placer_forms, lk2 _ _ _, _, rfl, d, v, rfl, .inl ⟨kvs, .inr x, .inl ek, rfl, ev.symm⟩, q _ _ s hv⟩
end
end WS
set_option Elab.async false
set_option linter.all false
set_option maxRecDepth 100000
set_option maxHeartbeats 4000000
namespace WS
open PySem L2
/-- what a placing is handed -/
structure PlIn (K : PySem.W.Frag) (H : Hp) (p b d : Addr) (v : V) (a : Str) (g0 g : Ctx) (n : Nat) (t : Term) : Prop where
  pc : Pc K H p a d n
  pb : PlB H b d g0 g
  pd : Pd H v t.d
  ok : Ok (g0 ++ g) t
  wr : Wr t
  al : a.length ≤ 8
  nb : n + cnt t ≤ 100000
  gl : g.length + t.depth ≤ 1000
theorem PlIn.fh {K : PySem.W.Frag} {H : Hp} {p b d : Addr} {v : V} {a : Str} {g0 g : Ctx} {n : Nat} {t : Term} (h : PlIn K H p b d v a g0 g n t) : (fo (g0 ++ g) t).height ≤ 5 := fo_height t _ h.ok h.wr h.pb.low
/-- where nothing but new things lie -/
theorem PlIn.same {K : PySem.W.Frag} {H H' : Hp} {p b d : Addr} {v : V} {a : Str} {g0 g : Ctx} {n : Nat} {t : Term} (h : PlIn K H p b d v a g0 g n t) (s : Same H H') : PlIn K H' p b d v a g0 g n t :=
  ⟨h.pc.same s, h.pb.same s, h.pd.same s, h.ok, h.wr, h.al, h.nb, h.gl⟩
/-- what a placing gives: the pair r -/
def PlOut (K : PySem.W.Frag) (H : Hp) (p d : Addr) (a : Str) (g : Ctx) (n : Nat) (t : Term) (Q : VK) : Prop :=
  ∀ H' r x y, Kp p H H' → Pc K H' p a d (n + cnt t) → H' r = some (.tup [x, y]) → Pd H' x (pl a g n t).d → Pd H' y (fo g t).d → Q (.ref r) H'
def sp_placed (K : PySem.W.Frag) (C : Term → Prop) (N : Nat) : Sp := fun vs H Q _ => ∃ p b d v a g0 g n t, vs = [.ref p, v, .ref b] ∧ PlIn K H p b d v a g0 g n t ∧ t.depth < N ∧ C t ∧ PlOut K H p d a (g0 ++ g) n t Q
def sp_begun (K : PySem.W.Frag) (N : Nat) : Sp := fun vs H Q _ => ∃ p b d v a g0 g n t, vs = [.ref p, v, .ref b] ∧ PlIn K H p b d v a g0 g n t ∧ n + 1 + cnt t ≤ 100000 ∧ t.depth < N ∧
  ∀ H' r x y, Kp p H H' → Pc K H' p a d (n + 1 + cnt t) → H' r = some (.tup [.str (mk a (n + 1)), x, y]) → Pd H' x (pl a (g0 ++ g) (n + 1) t).d → Pd H' y (fo (g0 ++ g) t).d → Q (.ref r) H'
def sp_wanted (K : PySem.W.Frag) (N : Nat) : Sp := fun vs H Q _ => ∃ p b d v a g0 g n t f F, vs = [.ref p, v, .ref b, f] ∧ PlIn K H p b d v a g0 g n t ∧ n + 1 + cnt t ≤ 100000 ∧ t.depth < N ∧ Pd H f (Form.d F) ∧ F.height ≤ 8 ∧ near (fo (g0 ++ g) t) F = true ∧
  ∀ H' x, Kp p H H' → Pc K H' p a d (n + 1 + cnt t) → Pd H' x (fence (mk a (n + 1)) (fo (g0 ++ g) t) F (pl a (g0 ++ g) (n + 1) t)).d → Q x H'
/-- the head that is wanted: deed, box -/
inductive HdOk (F : Form) : Str → Form → Prop where
  | deed (h : (asDeed F).isSome = true) : HdOk F "deed" (.deed (dom F) (cod F))
  | box (h : (asBox F).isSome = true) : HdOk F "box" (.box (inn F))
def sp_wanted_head (K : PySem.W.Frag) (N : Nat) : Sp := fun vs H Q _ => ∃ p b d v a g0 g n t hd W, vs = [.ref p, v, .ref b, .str hd] ∧ PlIn K H p b d v a g0 g n t ∧ n + 1 + cnt t ≤ 100000 ∧ t.depth < N ∧ HdOk (fo (g0 ++ g) t) hd W ∧
  ∀ H' r x y, Kp p H H' → Pc K H' p a d (n + 1 + cnt t) → H' r = some (.tup [x, y]) → Pd H' x (fence (mk a (n + 1)) (fo (g0 ++ g) t) W (pl a (g0 ++ g) (n + 1) t)).d → Pd H' y W.d → Q (.ref r) H'
section
variable {P : Program} {w : World} {K : PySem.W.Frag} {mg : Str → Option Value} {base : Heap}
theorem sc_Placer_begun : FnScope ["self", "term", "bound", "mark", "placed", "form"] ["self", "term", "bound"] (defScope s_Placer_begun) := ⟨rfl, rfl, rfl, by decide +kernel, rfl, by decide +kernel, by decide +kernel⟩
theorem ok_Placer_begun (T : Tx w K mg) (k N : Nat) (G_Placer_placed : Held P w K mg base k (fP K "placed") (sp_placed K (fun _ => True) N)) : Held P w K mg base (k + 1) (fP K "begun") (sp_begun K N) := by
  refine FunD.held T.f_Placer_begun sc_Placer_begun (fun _ _ _ _ _ _ us hl => match us, hl with | [_, _, _], _ => rfl) (fun vs H Q E h => ?len) (fun fd cdv A outer s H vs Q E hr h => ?body)
  case len => obtain ⟨p, b, d, v, a, g0, g, n, t, rfl, _⟩ := h; rfl
  case body =>
    obtain ⟨p, b, d, v, a, g0, g, n, t, rfl, i, nb, hN, q⟩ := h
    refine ⟨_, (pss_cons (ps_fldaug (pv 0) pe_int in_add)
      (pss_cons (ps_set (i := 3) sc_Placer_begun.nd rfl (by first | exact Or.inl rfl | exact Or.inr rfl) (pe_joined (PJ.cons (pe_fmt (pe_fld (pv 0) rfl)) (PJ.cons pe_str (PJ.cons (pe_fmt (pe_fld (pv 0) rfl)) PJ.nil)))))
      (pss_cons (ps_asg (pe_mt G_Placer_placed hr T.c_Placer T.m_Placer_placed (pv 0) (pa_cons (pv 1) (pa_cons (pv 2) pa_nil))) (pg_tup (n := 2) rfl (pgs_cons (pg_name (i := 4) sc_Placer_begun.nd rfl (Or.inl rfl)) (pgs_cons (pg_name (i := 5) sc_Placer_begun.nd rfl (Or.inl rfl)) pgs_nil))))
      (pss_one (ps_ret (pe_tup (pa_cons (pv 3) (pa_cons (pv 4) (pa_cons (pv 5) pa_nil))))))))), ?_⟩
    obtain ⟨dx, hp⟩ := i.pc
    have al := i.al
    refine ⟨_, rfl, p, _, dx, _, _, rfl, hp, T.c_Placer, T.n_Placer_places, lk3 _ _ _, _, _, rfl, rfl, dx, _, hp, by simp, ?_⟩
    rw [putF4]
    have ec : ((n : Nat) : Int) + 1 = ((n + 1 : Nat) : Int) := by omega
    refine (show _ from ?_)
    have k1 : Kp p H (upd H p (.ins (PC K) dx (PF (.str a) (.ref d) (.int ((n + 1 : Nat) : Int))))) := .mut _ _ _
    have c1 : Pc K (upd H p (.ins (PC K) dx (PF (.str a) (.ref d) (.int ((n + 1 : Nat) : Int))))) p a d (n + 1) := ⟨dx, upd_same⟩
    have e1 : (upd H p (.ins (PC K) dx (PF (.str a) (.ref d) (.int (((n : Nat) : Int) + 1))))) = upd H p (.ins (PC K) dx (PF (.str a) (.ref d) (.int ((n + 1 : Nat) : Int)))) := by rw [ec]
    rw [e1]
    generalize (upd H p (.ins (PC K) dx (PF (.str a) (.ref d) (.int ((n + 1 : Nat) : Int))))) = H1 at k1 c1
    obtain ⟨dx1, hp1⟩ := c1
    have ml := mark_len (n := n + 1) (by omega)
    have l1 : (Str.empty ++ a).length = a.length := by rw [Str.empty_append]
    have l2 : (Str.empty ++ a ++ ".").length = a.length + 1 := by rw [Str.length_append, l1]; rfl
    have l3 : (Str.empty ++ a ++ "." ++ Str.ofString (toString ((n + 1 : Nat) : Int))).length ≤ a.length + 1 + 6 := by rw [Str.length_append, l2]; omega
    have em : Str.empty ++ a ++ "." ++ Str.ofString (toString ((n + 1 : Nat) : Int)) = mk a (n + 1) := by rw [Str.empty_append]; rfl
    refine ⟨_, rfl, p, _, dx1, _, _, rfl, hp1, T.c_Placer, T.n_Placer_ahead, lk1 _ _ _, .inl ⟨a, rfl, small_sz (by omega), a, rfl, small_sz (by omega), ".", rfl, small_sz (by omega), _, rfl, p, _, dx1, _, _, rfl, hp1, T.c_Placer, T.n_Placer_places, lk3 _ _ _, .inr ⟨_, rfl, mark_log (n := n + 1) (by omega), _, rfl, small_sz (by omega), ?_⟩⟩⟩
    rw [em]
    have i1 : PlIn K H1 p b d v a g0 g (n + 1) t := ⟨⟨dx1, hp1⟩, i.pb.pc i.pc k1, i.pd.keep (i.pc.tk k1), i.ok, i.wr, i.al, by omega, i.gl⟩
    refine ⟨_, rfl, p, dx1, _, rfl, hp1, by rfl, _, rfl, _, rfl, p, b, d, v, a, g0, g, n + 1, t, rfl, i1, hN, True.intro, fun H2 r x y k2 c2 er px py => ?_⟩
    refine ⟨r, _, rfl, st er, rfl, _, _, rfl, y, _, rfl, rfl, ?_⟩
    refine ⟨_, rfl, _, rfl, _, rfl, small_sz (by simp), fun z nz => ?_⟩
    have s3 : Same H2 (upd H2 z (.tup [.str (mk a (n + 1)), x, y])) := Same.new nz
    exact q _ _ _ _ ((k1.trans k2).trans (s3.kp p)) (c2.same s3) upd_same (px.same s3) (py.same s3)
theorem sc_Placer_wanted : FnScope ["self", "term", "bound", "want", "mark", "placed", "form"] ["self", "term", "bound", "want"] (defScope s_Placer_wanted) := ⟨rfl, rfl, rfl, by decide +kernel, rfl, by decide +kernel, by decide +kernel⟩
theorem ok_Placer_wanted (T : Tx w K mg) (k N : Nat) (G_Placer_begun : Held P w K mg base (k + 11) (fP K "begun") (sp_begun K N)) : Held P w K mg base (k + 12) (fP K "wanted") (sp_wanted K N) := by
  have G_walled := ok_walled (P := P) (base := base) T k
  refine FunD.held T.f_Placer_wanted sc_Placer_wanted (fun _ _ _ _ _ _ us hl => match us, hl with | [_, _, _, _], _ => rfl) (fun vs H Q E h => ?len) (fun fd cdv A outer s H vs Q E hr h => ?body)
  case len => obtain ⟨p, b, d, v, a, g0, g, n, t, f, F, rfl, _⟩ := h; rfl
  case body =>
    obtain ⟨p, b, d, v, a, g0, g, n, t, f, F, rfl, i, nb, hN, hf, hF, hn, q⟩ := h
    refine ⟨_, (pss_cons (ps_asg (pe_mt G_Placer_begun hr T.c_Placer T.m_Placer_begun (pv 0) (pa_cons (pv 1) (pa_cons (pv 2) pa_nil))) (pg_tup (n := 3) rfl (pgs_cons (pg_name (i := 4) sc_Placer_wanted.nd rfl (Or.inl rfl)) (pgs_cons (pg_name (i := 5) sc_Placer_wanted.nd rfl (Or.inl rfl)) (pgs_cons (pg_name (i := 6) sc_Placer_wanted.nd rfl (Or.inl rfl)) pgs_nil)))))
      (pss_one (ps_ret (pe_cl G_walled hr T.g_walled (pa_cons (pv 4) (pa_cons (pv 5) (pa_cons (pv 6) (pa_cons (pv 3) pa_nil)))))))), ?_⟩
    have fh := i.fh
    obtain ⟨dx, hp⟩ := i.pc
    refine ⟨_, rfl, p, dx, _, rfl, hp, by rfl, _, rfl, _, rfl, p, b, d, v, a, g0, g, n, t, rfl, i, nb, hN, fun H1 r x y k1 c1 er px py => ?_⟩
    refine ⟨r, _, rfl, st er, rfl, _, _, rfl, x, _, rfl, y, _, rfl, rfl, ?_⟩
    exact ⟨_, rfl, _, rfl, _, rfl, _, rfl, _, x, y, f, _, _, F, rfl, px, py, hf.keep (i.pc.tk k1), by omega, hF, hn, fun H2 v' s2 pv => q _ _ (k1.trans (s2.kp p)) (c1.same s2) pv⟩
theorem HdOk.height {F : Form} {hd : Str} {W : Form} (h : HdOk F hd W) (hF : F.height ≤ 5) : W.height ≤ 5 := by
  cases h with
  | deed h =>
    rcases asDeed_eq h with ⟨_, e1, e2⟩ | e
    · rw [e1, e2]; decide
    · rw [← e]; exact hF
  | box h =>
    rcases asBox_eq h with ⟨_, e1⟩ | e
    · rw [e1]; decide
    · rw [← e]; exact hF
theorem HdOk.near {F : Form} {hd : Str} {W : Form} (h : HdOk F hd W) : near F W = true := by
  cases h with
  | deed h => exact near_wideD h
  | box h => exact near_wideB h
theorem hd_dp {H : Hp} {F : Form} : ∃ dd, Dp K H (hdV F) dd ∧ SeqAt.shaped dd = true ∧ PyData.eqv dd (.str "deed") = (match F with | .deed _ _ => true | _ => false) ∧ PyData.eqv dd (.str "box") = (match F with | .box _ => true | _ => false) := by
  cases F with
  | any => exact ⟨.none, .non, by decide +kernel, rfl, rfl⟩
  | num => exact ⟨.str "num", .str _, by decide +kernel, by decide +kernel, by decide +kernel⟩
  | text => exact ⟨.str "text", .str _, by decide +kernel, by decide +kernel, by decide +kernel⟩
  | deed a b => exact ⟨.str "deed", .str _, by decide +kernel, (by decide +kernel : PyData.eqv (.str "deed") (.str "deed") = true), (by decide +kernel : PyData.eqv (.str "deed") (.str "box") = false)⟩
  | box a => exact ⟨.str "box", .str _, by decide +kernel, (by decide +kernel : PyData.eqv (.str "box") (.str "deed") = false), (by decide +kernel : PyData.eqv (.str "box") (.str "box") = true)⟩
theorem sc_Placer_wanted_head : FnScope ["self", "term", "bound", "head", "mark", "placed", "form", "want"] ["self", "term", "bound", "head"] (defScope s_Placer_wanted_head) := ⟨rfl, rfl, rfl, by decide +kernel, rfl, by decide +kernel, by decide +kernel⟩
theorem ok_Placer_wanted_head (T : Tx w K mg) (k N : Nat) (G_Placer_begun : Held P w K mg base (k + 11) (fP K "begun") (sp_begun K N)) : Held P w K mg base (k + 12) (fP K "wanted_head") (sp_wanted_head K N) := by
  have G_walled := ok_walled (P := P) (base := base) T k
  have G_head_of_form := ok_head_of_form (P := P) (base := base) T (k + 10)
  have G_wide_of := ok_wide_of (P := P) (base := base) T (k + 10)
  refine FunD.held T.f_Placer_wanted_head sc_Placer_wanted_head (fun _ _ _ _ _ _ us hl => match us, hl with | [_, _, _, _], _ => rfl) (fun vs H Q E h => ?len) (fun fd cdv A outer s H vs Q E hr h => ?body)
  case len => obtain ⟨p, b, d, v, a, g0, g, n, t, hd, W, rfl, _⟩ := h; rfl
  case body =>
    obtain ⟨p, b, d, v, a, g0, g, n, t, hd, W, rfl, i, nb, hN, hw, q⟩ := h
    refine ⟨_, (pss_cons (ps_asg (pe_mt G_Placer_begun hr T.c_Placer T.m_Placer_begun (pv 0) (pa_cons (pv 1) (pa_cons (pv 2) pa_nil))) (pg_tup (n := 3) rfl (pgs_cons (pg_name (i := 4) sc_Placer_wanted_head.nd rfl (Or.inl rfl)) (pgs_cons (pg_name (i := 5) sc_Placer_wanted_head.nd rfl (Or.inl rfl)) (pgs_cons (pg_name (i := 6) sc_Placer_wanted_head.nd rfl (Or.inl rfl)) pgs_nil)))))
      (C8.pss_cut (ps_set (i := 7) sc_Placer_wanted_head.nd rfl (by first | exact Or.inl rfl | exact Or.inr rfl) (pe_ifExp (pt_cmpR (op_eqD hr.units) (pe_cl G_head_of_form hr T.g_head_of_form (pa_cons (pv 6) pa_nil)) (pv 3) (nomark _)) (pv 6) (pe_cl G_wide_of hr T.g_wide_of (pa_cons (pv 3) pa_nil))))
      (pss_one (ps_ret (pe_tup (pa_cons (pe_cl G_walled hr T.g_walled (pa_cons (pv 4) (pa_cons (pv 5) (pa_cons (pv 6) (pa_cons (pv 7) pa_nil))))) (pa_cons (pv 7) pa_nil))))))), ?_⟩
    have fh := i.fh
    have wh := hw.height fh
    obtain ⟨dx, hp⟩ := i.pc
    refine ⟨_, rfl, p, dx, _, rfl, hp, by rfl, _, rfl, _, rfl, p, b, d, v, a, g0, g, n, t, rfl, i, nb, hN, fun H1 r x y k1 c1 er px py => ?_⟩
    refine ⟨r, _, rfl, st er, rfl, _, _, rfl, x, _, rfl, y, _, rfl, rfl, ?_⟩
    refine ⟨fun σ H2 => ∃ u, σ = [some (.ref p), some v, some (.ref b), some (.str hd), some (.str (mk a (n + 1))), some x, some y, some u] ∧ Same H1 H2 ∧ Pd H2 u W.d, ?_, ?_⟩
    · refine ⟨_, rfl, y, _, rfl, py, by omega, _, rfl, ?_⟩
      obtain ⟨dd, hdd, sdd, e1, e2⟩ := hd_dp (K := K) (H := H1) (F := fo (g0 ++ g) t)
      cases hw with
      | deed h =>
        refine ⟨_, _, hdd, .str _, sdd, sdeed, _, rfl, ?_⟩
        rw [e1]
        rcases asDeed_eq h with ⟨ea, e3, e4⟩ | ea
        · rw [ea]
          refine iteF ⟨_, rfl, .deed .any .any, .inl rfl, rfl, fun H2 u s2 pu => ⟨u, rfl, s2, ?_⟩⟩
          rw [← ea, e3, e4]
          exact pu
        · generalize fo (g0 ++ g) t = F at ea py
          rw [ea]
          refine iteT ⟨_, rfl, y, rfl, Same.refl _, ?_⟩
          rw [ea] at py
          exact py
      | box h =>
        refine ⟨_, _, hdd, .str _, sdd, (by decide +kernel), _, rfl, ?_⟩
        rw [e2]
        rcases asBox_eq h with ⟨ea, e3⟩ | ea
        · rw [ea]
          refine iteF ⟨_, rfl, .box .any, .inr rfl, rfl, fun H2 u s2 pu => ⟨u, rfl, s2, ?_⟩⟩
          rw [← ea, e3]
          exact pu
        · generalize fo (g0 ++ g) t = F at ea py
          rw [ea]
          refine iteT ⟨_, rfl, y, rfl, Same.refl _, ?_⟩
          rw [ea] at py
          exact py
    · rintro σ H2 ⟨u, rfl, s2, pu⟩
      refine ⟨_, rfl, _, rfl, _, rfl, _, rfl, _, x, y, u, _, _, W, rfl, px.same s2, py.same s2, pu, by omega, by omega, hw.near, fun H3 v' s3 pv => ⟨_, rfl, small_sz (by simp), fun z nz => ?_⟩⟩
      have s4 := Same.new nz (o := .tup [v', u])
      exact q _ _ _ _ (k1.trans (((s2.trans s3).trans s4).kp p)) (((c1.same s2).same s3).same s4) upd_same (pv.same s4) ((pu.same s3).same s4)
end
end WS
set_option Elab.async false
set_option linter.all false
set_option maxRecDepth 100000
set_option maxHeartbeats 4000000
namespace WS
open PySem L2
section
variable {P : Program} {w : World} {K : PySem.W.Frag} {mg : Str → Option Value} {base : Heap}
theorem Pc.eq {H : Hp} {p : Addr} {a : Str} {d : Addr} {n m : Nat} (h : Pc K H p a d n) (e : n = m) : Pc K H p a d m := e ▸ h
theorem PlIn.sub {H H1 : Hp} {p b d : Addr} {v u : V} {a : Str} {g0 g : Ctx} {n n1 : Nat} {t s : Term} (i : PlIn K H p b d v a g0 g n t) (k : Kp p H H1) (c : Pc K H1 p a d n1) (pd : Pd H u s.d) (ok : Ok (g0 ++ g) s) (wr : Wr s)
    (hn : n1 + cnt s ≤ n + cnt t) (hd : s.depth ≤ t.depth) : PlIn K H1 p b d u a g0 g n1 s :=
  ⟨c, i.pb.pc i.pc k, pd.keep (i.pc.tk k), ok, wr, i.al, by have := i.nb; omega, by have := i.gl; omega⟩
/-- .. beneath one more name -/
theorem PlIn.deep {H H1 : Hp} {p b b2 d : Addr} {v u : V} {a : Str} {g0 g : Ctx} {n n1 : Nat} {t s : Term} {x : Str} {F : Form} {f : V} {q : Addr} {xs : List V} (i : PlIn K H p b d v a g0 g n t) (k : Kp p H H1) (c : Pc K H1 p a d n1)
    (hb : H1 b = some (.lst xs)) (hq : H1 q = some (.tup [.str x, f])) (hb2 : H1 b2 = some (.lst (xs ++ [.ref q]))) (hf : Pd H1 f F.d) (hF : F.height ≤ 5)
    (pd : Pd H u s.d) (ok : Ok ((g0 ++ g) ++ [(x, F)]) s) (wr : Wr s) (hn : n1 + cnt s ≤ n + cnt t) (hd : s.depth + 1 ≤ t.depth) : PlIn K H1 p b2 d u a g0 (g ++ [(x, F)]) n1 s := by
  have pb := i.pb.pc i.pc k
  obtain ⟨ys, e, py⟩ := pb.bd
  rw [hb] at e
  cases e
  refine ⟨c, ⟨pb.env, BdAt.snoc (H := H1) (b := b) hb2 py (.m2 hq (.str _) hf), ?_⟩, pd.keep (i.pc.tk k), ?_, wr, i.al, by have := i.nb; omega, ?_⟩
  · rw [← List.append_assoc]
    exact pb.low.snoc hF
  · rw [← List.append_assoc]
    exact ok
  · rw [List.length_append]
    have := i.gl
    simp only [List.length_cons, List.length_nil]
    omega
theorem sc_of_number : FnScope ["placer", "term", "bound"] ["placer", "term", "bound"] (defScope s_of_number) := ⟨rfl, rfl, rfl, by decide +kernel, rfl, by decide +kernel, by decide +kernel⟩
theorem ok_of_number (T : Tx w K mg) (k N : Nat) : Held P w K mg base (k + 1) (He.fAd K ("of_number", none)) (sp_placed K (fun t => ∃ i, t = .number i) (N + 1)) := by
  refine FunD.held T.f_of_number sc_of_number (fun _ _ _ _ _ _ us hl => match us, hl with | [_, _, _], _ => rfl) (fun vs H Q E h => ?len) (fun fd cdv A outer s H vs Q E hr h => ?body)
  case len => obtain ⟨p, b, d, v, a, g0, g, n, t, rfl, _⟩ := h; rfl
  case body =>
    obtain ⟨p, b, d, v, a, g0, g, n, t, rfl, i, hN, ⟨z, rfl⟩, q⟩ := h
    refine ⟨_, (pss_one (ps_ret (pe_tup (pa_cons (pv 1) (pa_cons (pe_gs T.s_NUM) pa_nil))))), ?_⟩
    refine ⟨_, rfl, small_sz (by simp), fun r nr => ?_⟩
    have s := Same.new nr (o := .tup [v, .str "num"])
    exact q _ _ _ _ (s.kp p) (i.pc.same s) upd_same (i.pd.same s) (fnum _)
theorem sc_of_text : FnScope ["placer", "term", "bound"] ["placer", "term", "bound"] (defScope s_of_text) := ⟨rfl, rfl, rfl, by decide +kernel, rfl, by decide +kernel, by decide +kernel⟩
theorem ok_of_text (T : Tx w K mg) (k N : Nat) : Held P w K mg base (k + 1) (He.fAd K ("of_text", none)) (sp_placed K (fun t => ∃ i, t = .txt i) (N + 1)) := by
  refine FunD.held T.f_of_text sc_of_text (fun _ _ _ _ _ _ us hl => match us, hl with | [_, _, _], _ => rfl) (fun vs H Q E h => ?len) (fun fd cdv A outer s H vs Q E hr h => ?body)
  case len => obtain ⟨p, b, d, v, a, g0, g, n, t, rfl, _⟩ := h; rfl
  case body =>
    obtain ⟨p, b, d, v, a, g0, g, n, t, rfl, i, hN, ⟨z, rfl⟩, q⟩ := h
    refine ⟨_, (pss_one (ps_ret (pe_tup (pa_cons (pv 1) (pa_cons (pe_gs T.s_TEXT) pa_nil))))), ?_⟩
    refine ⟨_, rfl, small_sz (by simp), fun r nr => ?_⟩
    have s := Same.new nr (o := .tup [v, .str "text"])
    exact q _ _ _ _ (s.kp p) (i.pc.same s) upd_same (i.pd.same s) (ftext _)
theorem sc_of_name : FnScope ["placer", "term", "bound"] ["placer", "term", "bound"] (defScope s_of_name) := ⟨rfl, rfl, rfl, by decide +kernel, rfl, by decide +kernel, by decide +kernel⟩
theorem ok_of_name (T : Tx w K mg) (k N : Nat) : Held P w K mg base (k + 2) (He.fAd K ("of_name", none)) (sp_placed K (fun t => ∃ i, t = .name i) (N + 1)) := by
  have G_Placer_form_of := ok_Placer_form_of (P := P) (base := base) T k
  refine FunD.held T.f_of_name sc_of_name (fun _ _ _ _ _ _ us hl => match us, hl with | [_, _, _], _ => rfl) (fun vs H Q E h => ?len) (fun fd cdv A outer s H vs Q E hr h => ?body)
  case len => obtain ⟨p, b, d, v, a, g0, g, n, t, rfl, _⟩ := h; rfl
  case body =>
    obtain ⟨p, b, d, v, a, g0, g, n, t, rfl, i, hN, ⟨x, rfl⟩, q⟩ := h
    refine ⟨_, (pss_one (ps_ret (pe_tup (pa_cons (pv 1) (pa_cons (pe_mt G_Placer_form_of hr T.c_Placer T.m_Placer_form_of (pv 0) (pa_cons (pe_ix ix_tup (pv 1) pe_int (fun _ _ => rfl)) (pa_cons (pv 2) pa_nil))) pa_nil))))), ?_⟩
    obtain ⟨c, y1, y2, rfl, hc, h1, h2⟩ := Pd.t2 i.pd
    cases h1.str_of
    cases h2.str_of
    obtain ⟨dx, hp⟩ := i.pc
    obtain ⟨F, eF⟩ := Option.isSome_iff_exists.mp i.ok
    have gl := i.gl
    refine ⟨_, rfl, _, rfl, p, dx, _, rfl, hp, by rfl, ⟨_, rfl, c, _, _, _, rfl, rfl, st hc, by rfl, _, rfl, p, b, d, a, x, n, g0, g, F, rfl, ⟨dx, hp⟩, i.pb, eF, by omega, fun H1 f s1 pf => ⟨small_sz (by simp), fun r nr => ?_⟩⟩⟩
    have s := s1.trans (Same.new nr (o := .tup [.ref c, f]))
    refine q _ _ _ _ (s.kp p) (i.pc.same s) upd_same (i.pd.same s) ?_
    show Pd _ f ((look (g0 ++ g) x).getD .any).d
    rw [eF]
    exact pf.same (Same.new nr)
theorem sc_of_deed : FnScope ["placer", "term", "bound", "word", "name", "form", "body", "placed", "given"] ["placer", "term", "bound"] (defScope s_of_deed) := ⟨rfl, rfl, rfl, by decide +kernel, rfl, by decide +kernel, by decide +kernel⟩
theorem ok_of_deed (T : Tx w K mg) (k N : Nat) (G_Placer_placed : Held P w K mg base (k + 8) (fP K "placed") (sp_placed K (fun _ => True) N)) : Held P w K mg base (k + 9) (He.fAd K ("of_deed", none)) (sp_placed K (fun t => ∃ x A e, t = .deed x A e) (N + 1)) := by
  have G_low := ok_low (P := P) (base := base) T k
  refine FunD.held T.f_of_deed sc_of_deed (fun _ _ _ _ _ _ us hl => match us, hl with | [_, _, _], _ => rfl) (fun vs H Q E h => ?len) (fun fd cdv A outer s H vs Q E hr h => ?body)
  case len => obtain ⟨p, b, d, v, a, g0, g, n, t, rfl, _⟩ := h; rfl
  case body =>
    obtain ⟨p, b, d, v, a, g0, g, n, t, rfl, i, hN, ⟨x, A, e, rfl⟩, q⟩ := h
    refine ⟨_, (pss_cons (ps_asg (pv 1) (pg_tup (n := 4) rfl (pgs_cons (pg_name (i := 3) sc_of_deed.nd rfl (Or.inl rfl)) (pgs_cons (pg_name (i := 4) sc_of_deed.nd rfl (Or.inl rfl)) (pgs_cons (pg_name (i := 5) sc_of_deed.nd rfl (Or.inl rfl)) (pgs_cons (pg_name (i := 6) sc_of_deed.nd rfl (Or.inl rfl)) pgs_nil))))))
      (pss_cons (ps_asg (pe_mt G_Placer_placed hr T.c_Placer T.m_Placer_placed (pv 0) (pa_cons (pv 6) (pa_cons (pe_op op_cat (pv 2) (pe_lst (pa_cons (pe_tup (pa_cons (pv 4) (pa_cons (pv 5) pa_nil))) pa_nil))) pa_nil))) (pg_tup (n := 2) rfl (pgs_cons (pg_name (i := 7) sc_of_deed.nd rfl (Or.inl rfl)) (pgs_cons (pg_name (i := 8) sc_of_deed.nd rfl (Or.inl rfl)) pgs_nil))))
      (pss_one (ps_ret (pe_tup (pa_cons (pe_tup (pa_cons (pv 3) (pa_cons (pv 4) (pa_cons (pv 5) (pa_cons (pv 7) pa_nil))))) (pa_cons (pe_cl G_low hr T.g_low (pa_cons (pe_tup (pa_cons (pe_gs T.s_DEED_forms) (pa_cons (pv 5) (pa_cons (pv 8) pa_nil)))) pa_nil)) pa_nil))))))), ?_⟩
    obtain ⟨c, y1, y2, y3, y4, rfl, hc, h1, h2, h3, h4⟩ := Pd.t4 i.pd
    cases h1.str_of
    cases h2.str_of
    obtain ⟨dx, hp⟩ := i.pc
    obtain ⟨xs, hb, hxs⟩ := i.pb.bd
    have hN' : 1 + e.depth < N + 1 := hN
    have hgl : g.length + (1 + e.depth) ≤ 1000 := i.gl
    have hlx : xs.length = g.length := by rw [hxs.length, List.length_map]
    refine ⟨_, rfl, c, _, rfl, st hc, rfl, _, _, rfl, _, _, rfl, _, _, rfl, _, _, rfl, rfl, ?_⟩
    refine ⟨_, rfl, p, dx, _, rfl, hp, by rfl, _, rfl, _, rfl, _, rfl, _, rfl, small_sz (by simp), fun t1 n1 => ⟨small_sz (by simp), fun l1 nl1 => ?_⟩⟩
    have s1 : Same H (upd (upd H t1 (.tup [.str x, y3])) l1 (.lst [.ref t1])) := (Same.new n1).trans (Same.new nl1)
    have et1 : (upd (upd H t1 (.tup [.str x, y3])) l1 (.lst [.ref t1])) t1 = some (.tup [.str x, y3]) := Same.new nl1 _ _ upd_same
    refine ⟨b, l1, xs, _, rfl, rfl, s1 _ _ hb, upd_same, small_sz (by simp; omega), fun b2 nb2 => ?_⟩
    have s2 := s1.trans (Same.new nb2 (o := .lst (xs ++ [.ref t1])))
    refine ⟨p, b2, d, y4, a, g0, g ++ [(x, A)], n, e, rfl, ?_, by omega, True.intro, fun H2 r u f k2 c2 er pu pf => ?_⟩
    · exact i.deep (s2.kp p) (i.pc.same s2) (s2 _ _ hb) (Same.new nb2 _ _ et1) upd_same (h3.same s2) (by have := i.ok.2.1; omega) h4 i.ok.1 i.wr.2.2 (Nat.le_refl _) (by show e.depth + 1 ≤ 1 + e.depth; omega)
    · refine ⟨r, _, rfl, st er, rfl, _, _, rfl, f, _, rfl, rfl, ?_⟩
      have k3 := (s2.kp p).trans k2
      have tk := i.pc.tk k3
      refine ⟨_, rfl, _, rfl, _, rfl, _, rfl, small_sz (by simp), fun z1 nz1 => ⟨_, rfl, _, rfl, small_sz (by simp), fun z2 nz2 => ?_⟩⟩
      have s3 := Same.new nz1 (o := .tup [.str "deed", .str x, y3, u])
      have s4 := s3.trans (Same.new nz2 (o := .tup [.str "deed", y3, f]))
      rw [← List.append_assoc] at pu pf
      refine ⟨_, .deed A (fo ((g0 ++ g) ++ [(x, A)]) e), rfl, fdeed upd_same ((h3.keep tk).same s4) (pf.same s4), ?_, fun H5 s5 => ⟨small_sz (by simp), fun z3 nz3 => ?_⟩⟩
      · show 1 + max A.height _ ≤ 5
        have := i.ok.2.1
        have := i.ok.2.2
        omega
      · have s6 := (s4.trans s5).trans (Same.new nz3 (o := .tup [.ref z1, .ref z2]))
        have s7 := s5.trans (Same.new nz3 (o := .tup [.ref z1, .ref z2]))
        exact q _ _ _ _ (k3.trans (s6.kp p)) (c2.same s6) upd_same (.m4 (s6.trans (.refl _) |> fun _ => s7 _ _ (Same.new nz2 _ _ upd_same)) (.str _) (.str _) ((h3.keep tk).same s6) (pu.same s6)) (fdeed (s7 _ _ upd_same) ((h3.keep tk).same s6) (pf.same s6))
end
end WS
set_option Elab.async false
set_option linter.all false
set_option maxRecDepth 100000
set_option maxHeartbeats 4000000
namespace WS
open PySem L2
section
variable {P : Program} {w : World} {K : PySem.W.Frag} {mg : Str → Option Value} {base : Heap}
theorem sc_of_tell : FnScope ["placer", "term", "bound", "word", "form", "one"] ["placer", "term", "bound"] (defScope s_of_tell) := ⟨rfl, rfl, rfl, by decide +kernel, rfl, by decide +kernel, by decide +kernel⟩
theorem ok_of_tell (T : Tx w K mg) (k N : Nat) (G_Placer_wanted : Held P w K mg base (k + 12) (fP K "wanted") (sp_wanted K N)) : Held P w K mg base (k + 13) (He.fAd K ("of_tell", none)) (sp_placed K (fun t => ∃ A e, t = .tell A e) (N + 1)) := by
  refine FunD.held T.f_of_tell sc_of_tell (fun _ _ _ _ _ _ us hl => match us, hl with | [_, _, _], _ => rfl) (fun vs H Q E h => ?len) (fun fd cdv A outer s H vs Q E hr h => ?body)
  case len => obtain ⟨p, b, d, v, a, g0, g, n, t, rfl, _⟩ := h; rfl
  case body =>
    obtain ⟨p, b, d, v, a, g0, g, n, t, rfl, i, hN, ⟨A, e, rfl⟩, q⟩ := h
    refine ⟨_, (pss_cons (ps_asg (pv 1) (pg_tup (n := 3) rfl (pgs_cons (pg_name (i := 3) sc_of_tell.nd rfl (Or.inl rfl)) (pgs_cons (pg_name (i := 4) sc_of_tell.nd rfl (Or.inl rfl)) (pgs_cons (pg_name (i := 5) sc_of_tell.nd rfl (Or.inl rfl)) pgs_nil)))))
      (pss_one (ps_ret (pe_tup (pa_cons (pe_tup (pa_cons (pv 3) (pa_cons (pv 4) (pa_cons (pe_mt G_Placer_wanted hr T.c_Placer T.m_Placer_wanted (pv 0) (pa_cons (pv 5) (pa_cons (pv 2) (pa_cons (pv 4) pa_nil)))) pa_nil)))) (pa_cons (pv 4) pa_nil)))))), ?_⟩
    obtain ⟨c, y1, y2, y3, rfl, hc, h1, h2, h3⟩ := Pd.t3 i.pd
    cases h1.str_of
    obtain ⟨dx, hp⟩ := i.pc
    have hN' : 1 + e.depth < N + 1 := hN
    have nb : n + (1 + cnt e) ≤ 100000 := i.nb
    have hA : A.height ≤ 5 := i.wr.1
    refine ⟨_, rfl, c, _, rfl, st hc, rfl, _, _, rfl, _, _, rfl, _, _, rfl, rfl, ?_⟩
    refine ⟨_, rfl, _, rfl, _, rfl, p, dx, _, rfl, hp, by rfl, _, rfl, _, rfl, _, rfl, ?_⟩
    refine ⟨p, b, d, y3, a, g0, g, n, e, y2, A, rfl, i.sub (.refl _ _) i.pc h3 i.ok.1 i.wr.2 (by show n + cnt e ≤ n + (1 + cnt e); omega) (by show e.depth ≤ 1 + e.depth; omega), by omega, by omega, h2, by omega, i.ok.2, fun H1 x k1 c1 px => ?_⟩
    have tk := i.pc.tk k1
    refine ⟨small_sz (by simp), fun z1 nz1 => ⟨_, rfl, small_sz (by simp), fun z2 nz2 => ?_⟩⟩
    have s := (Same.new nz1 (o := .tup [.str "tell", y2, x])).trans (Same.new nz2 (o := .tup [.ref z1, y2]))
    exact q _ _ _ _ (k1.trans (s.kp p)) ((c1.same s).eq (by show n + 1 + cnt e = n + (1 + cnt e); omega)) upd_same (.m3 (Same.new nz2 _ _ upd_same) (.str _) ((h2.keep tk).same s) (px.same s)) ((h2.keep tk).same s)
theorem sc_of_size : FnScope ["placer", "term", "bound"] ["placer", "term", "bound"] (defScope s_of_size) := ⟨rfl, rfl, rfl, by decide +kernel, rfl, by decide +kernel, by decide +kernel⟩
theorem ok_of_size (T : Tx w K mg) (k N : Nat) (G_Placer_wanted : Held P w K mg base (k + 12) (fP K "wanted") (sp_wanted K N)) : Held P w K mg base (k + 13) (He.fAd K ("of_size", none)) (sp_placed K (fun t => ∃ e, t = .size e) (N + 1)) := by
  refine FunD.held T.f_of_size sc_of_size (fun _ _ _ _ _ _ us hl => match us, hl with | [_, _, _], _ => rfl) (fun vs H Q E h => ?len) (fun fd cdv A outer s H vs Q E hr h => ?body)
  case len => obtain ⟨p, b, d, v, a, g0, g, n, t, rfl, _⟩ := h; rfl
  case body =>
    obtain ⟨p, b, d, v, a, g0, g, n, t, rfl, i, hN, ⟨e, rfl⟩, q⟩ := h
    refine ⟨_, (pss_one (ps_ret (pe_tup (pa_cons (pe_tup (pa_cons (pe_ix ix_tup (pv 1) pe_int (fun _ _ => rfl)) (pa_cons (pe_mt G_Placer_wanted hr T.c_Placer T.m_Placer_wanted (pv 0) (pa_cons (pe_ix ix_tup (pv 1) pe_int (fun _ _ => rfl)) (pa_cons (pv 2) (pa_cons (pe_gs T.s_TEXT) pa_nil)))) pa_nil))) (pa_cons (pe_gs T.s_NUM) pa_nil))))), ?_⟩
    obtain ⟨c, y1, y3, rfl, hc, h1, h3⟩ := Pd.t2 i.pd
    cases h1.str_of
    obtain ⟨dx, hp⟩ := i.pc
    have hN' : 1 + e.depth < N + 1 := hN
    have nb : n + (1 + cnt e) ≤ 100000 := i.nb
    refine ⟨_, rfl, c, _, _, _, rfl, rfl, st hc, at0 _ _, _, rfl, p, dx, _, rfl, hp, by rfl, ⟨_, rfl, c, _, _, _, rfl, rfl, st hc, by rfl, _, rfl, ?_⟩⟩
    refine ⟨p, b, d, y3, a, g0, g, n, e, _, .text, rfl, i.sub (.refl _ _) i.pc h3 i.ok.1 i.wr (by show n + cnt e ≤ n + (1 + cnt e); omega) (by show e.depth ≤ 1 + e.depth; omega), by omega, by omega, ftext _, by decide, i.ok.2, fun H1 x k1 c1 px => ?_⟩
    refine ⟨small_sz (by simp), fun z1 nz1 => ⟨small_sz (by simp), fun z2 nz2 => ?_⟩⟩
    have s := (Same.new nz1 (o := .tup [.str "size", x])).trans (Same.new nz2 (o := .tup [.ref z1, .str "num"]))
    exact q _ _ _ _ (k1.trans (s.kp p)) ((c1.same s).eq (by show n + 1 + cnt e = n + (1 + cnt e); omega)) upd_same (.m2 (Same.new nz2 _ _ upd_same) (.str _) (px.same s)) (fnum _)
theorem sc_of_box : FnScope ["placer", "term", "bound", "word", "form", "one"] ["placer", "term", "bound"] (defScope s_of_box) := ⟨rfl, rfl, rfl, by decide +kernel, rfl, by decide +kernel, by decide +kernel⟩
theorem ok_of_box (T : Tx w K mg) (k N : Nat) (G_Placer_wanted : Held P w K mg base (k + 12) (fP K "wanted") (sp_wanted K N)) : Held P w K mg base (k + 13) (He.fAd K ("of_box", none)) (sp_placed K (fun t => ∃ A e, t = .box A e) (N + 1)) := by
  have G_low := ok_low (P := P) (base := base) T (k + 4)
  refine FunD.held T.f_of_box sc_of_box (fun _ _ _ _ _ _ us hl => match us, hl with | [_, _, _], _ => rfl) (fun vs H Q E h => ?len) (fun fd cdv A outer s H vs Q E hr h => ?body)
  case len => obtain ⟨p, b, d, v, a, g0, g, n, t, rfl, _⟩ := h; rfl
  case body =>
    obtain ⟨p, b, d, v, a, g0, g, n, t, rfl, i, hN, ⟨A, e, rfl⟩, q⟩ := h
    refine ⟨_, (pss_cons (ps_asg (pv 1) (pg_tup (n := 3) rfl (pgs_cons (pg_name (i := 3) sc_of_box.nd rfl (Or.inl rfl)) (pgs_cons (pg_name (i := 4) sc_of_box.nd rfl (Or.inl rfl)) (pgs_cons (pg_name (i := 5) sc_of_box.nd rfl (Or.inl rfl)) pgs_nil)))))
      (pss_one (ps_ret (pe_tup (pa_cons (pe_tup (pa_cons (pv 3) (pa_cons (pv 4) (pa_cons (pe_mt G_Placer_wanted hr T.c_Placer T.m_Placer_wanted (pv 0) (pa_cons (pv 5) (pa_cons (pv 2) (pa_cons (pv 4) pa_nil)))) pa_nil)))) (pa_cons (pe_cl G_low hr T.g_low (pa_cons (pe_tup (pa_cons (pe_gs T.s_BOX) (pa_cons (pv 4) pa_nil))) pa_nil)) pa_nil)))))), ?_⟩
    obtain ⟨c, y1, y2, y3, rfl, hc, h1, h2, h3⟩ := Pd.t3 i.pd
    cases h1.str_of
    obtain ⟨dx, hp⟩ := i.pc
    have hN' : 1 + e.depth < N + 1 := hN
    have nb : n + (1 + cnt e) ≤ 100000 := i.nb
    have hA : A.height ≤ 4 := i.ok.2.2
    refine ⟨_, rfl, c, _, rfl, st hc, rfl, _, _, rfl, _, _, rfl, _, _, rfl, rfl, ?_⟩
    refine ⟨_, rfl, _, rfl, _, rfl, p, dx, _, rfl, hp, by rfl, _, rfl, _, rfl, _, rfl, ?_⟩
    refine ⟨p, b, d, y3, a, g0, g, n, e, y2, A, rfl, i.sub (.refl _ _) i.pc h3 i.ok.1 i.wr.2 (by show n + cnt e ≤ n + (1 + cnt e); omega) (by show e.depth ≤ 1 + e.depth; omega), by omega, by omega, h2, by omega, i.ok.2.1, fun H1 x k1 c1 px => ?_⟩
    have tk := i.pc.tk k1
    refine ⟨small_sz (by simp), fun z1 nz1 => ⟨_, rfl, small_sz (by simp), fun z2 nz2 => ?_⟩⟩
    have s1 := (Same.new nz1 (o := .tup [.str "box", y2, x])).trans (Same.new nz2 (o := .tup [.str "box", y2]))
    refine ⟨_, .box A, rfl, fbox upd_same ((h2.keep tk).same s1), by show 1 + A.height ≤ 5; omega, fun H5 s5 => ⟨small_sz (by simp), fun z3 nz3 => ?_⟩⟩
    have s7 := s5.trans (Same.new nz3 (o := .tup [.ref z1, .ref z2]))
    have s := s1.trans s7
    exact q _ _ _ _ (k1.trans (s.kp p)) ((c1.same s).eq (by show n + 1 + cnt e = n + (1 + cnt e); omega)) upd_same (.m3 (s7 _ _ (Same.new nz2 _ _ upd_same)) (.str _) ((h2.keep tk).same s) (px.same s)) (fbox (s7 _ _ upd_same) ((h2.keep tk).same s))
theorem sc_of_sum : FnScope ["placer", "term", "bound", "word", "one", "other", "first"] ["placer", "term", "bound"] (defScope s_of_sum) := ⟨rfl, rfl, rfl, by decide +kernel, rfl, by decide +kernel, by decide +kernel⟩
theorem ok_of_sum (T : Tx w K mg) (k N : Nat) (G_Placer_wanted : Held P w K mg base (k + 12) (fP K "wanted") (sp_wanted K N)) : Held P w K mg base (k + 13) (He.fAd K ("of_sum", none)) (sp_placed K (fun t => ∃ s e f, t = .sum s e f) (N + 1)) := by
  refine FunD.held T.f_of_sum sc_of_sum (fun _ _ _ _ _ _ us hl => match us, hl with | [_, _, _], _ => rfl) (fun vs H Q E h => ?len) (fun fd cdv A outer s H vs Q E hr h => ?body)
  case len => obtain ⟨p, b, d, v, a, g0, g, n, t, rfl, _⟩ := h; rfl
  case body =>
    obtain ⟨p, b, d, v, a, g0, g, n, t, rfl, i, hN, ⟨ss, e, f, rfl⟩, q⟩ := h
    refine ⟨_, (pss_cons (ps_asg (pv 1) (pg_tup (n := 3) rfl (pgs_cons (pg_name (i := 3) sc_of_sum.nd rfl (Or.inl rfl)) (pgs_cons (pg_name (i := 4) sc_of_sum.nd rfl (Or.inl rfl)) (pgs_cons (pg_name (i := 5) sc_of_sum.nd rfl (Or.inl rfl)) pgs_nil)))))
      (pss_cons (ps_set (i := 6) sc_of_sum.nd rfl (by first | exact Or.inl rfl | exact Or.inr rfl) (pe_mt G_Placer_wanted hr T.c_Placer T.m_Placer_wanted (pv 0) (pa_cons (pv 4) (pa_cons (pv 2) (pa_cons (pe_gs T.s_NUM) pa_nil)))))
      (pss_one (ps_ret (pe_tup (pa_cons (pe_tup (pa_cons (pv 3) (pa_cons (pv 6) (pa_cons (pe_mt G_Placer_wanted hr T.c_Placer T.m_Placer_wanted (pv 0) (pa_cons (pv 5) (pa_cons (pv 2) (pa_cons (pe_gs T.s_NUM) pa_nil)))) pa_nil)))) (pa_cons (pe_gs T.s_NUM) pa_nil))))))), ?_⟩
    obtain ⟨c, y1, y2, y3, rfl, hc, h1, h2, h3⟩ := Pd.t3 i.pd
    cases h1.str_of
    obtain ⟨dx, hp⟩ := i.pc
    have hN' : 1 + max e.depth f.depth < N + 1 := hN
    have nb : n + (2 + (cnt e + cnt f)) ≤ 100000 := i.nb
    have dt : (Term.sum ss e f).depth = 1 + max e.depth f.depth := rfl
    have ct : cnt (Term.sum ss e f) = 2 + (cnt e + cnt f) := rfl
    refine ⟨_, rfl, c, _, rfl, st hc, rfl, _, _, rfl, _, _, rfl, _, _, rfl, rfl, ?_⟩
    refine ⟨_, rfl, p, dx, _, rfl, hp, by rfl, _, rfl, _, rfl, ?_⟩
    refine ⟨p, b, d, y2, a, g0, g, n, e, _, .num, rfl, i.sub (.refl _ _) i.pc h2 i.ok.1 i.wr.1 (by omega) (by omega), by omega, by omega, fnum _, by decide, i.ok.2.1, fun H1 x k1 c1 px => ?_⟩
    have i2 : PlIn K H1 p b d y3 a g0 g (n + 1 + cnt e) f := i.sub k1 c1 h3 i.ok.2.2.1 i.wr.2 (by omega) (by omega)
    obtain ⟨dx1, hp1⟩ := c1
    refine ⟨_, rfl, _, rfl, _, rfl, p, dx1, _, rfl, hp1, by rfl, _, rfl, _, rfl, ?_⟩
    refine ⟨p, b, d, y3, a, g0, g, n + 1 + cnt e, f, _, .num, rfl, i2, by omega, by omega, fnum _, by decide, i.ok.2.2.2, fun H2 x2 k2 c2 px2 => ?_⟩
    refine ⟨small_sz (by simp), fun z1 nz1 => ⟨small_sz (by simp), fun z2 nz2 => ?_⟩⟩
    have s := (Same.new nz1 (o := .tup [.str (word ss), x, x2])).trans (Same.new nz2 (o := .tup [.ref z1, .str "num"]))
    exact q _ _ _ _ ((k1.trans k2).trans (s.kp p)) ((c2.same s).eq (by omega)) upd_same (.m3 (Same.new nz2 _ _ upd_same) (.str _) ((px.keep (i2.pc.tk k2)).same s) (px2.same s)) (fnum _)
end
end WS
set_option Elab.async false
set_option linter.all false
set_option maxRecDepth 100000
set_option maxHeartbeats 4000000
namespace WS
open PySem L2
section
variable {P : Program} {w : World} {K : PySem.W.Frag} {mg : Str → Option Value} {base : Heap}
theorem sc_of_read : FnScope ["placer", "term", "bound", "first", "form"] ["placer", "term", "bound"] (defScope s_of_read) := ⟨rfl, rfl, rfl, by decide +kernel, rfl, by decide +kernel, by decide +kernel⟩
theorem ok_of_read (T : Tx w K mg) (k N : Nat) (G_Placer_wanted_head : Held P w K mg base (k + 12) (fP K "wanted_head") (sp_wanted_head K N)) : Held P w K mg base (k + 13) (He.fAd K ("of_read", none)) (sp_placed K (fun t => ∃ e, t = .read e) (N + 1)) := by
  refine FunD.held T.f_of_read sc_of_read (fun _ _ _ _ _ _ us hl => match us, hl with | [_, _, _], _ => rfl) (fun vs H Q E h => ?len) (fun fd cdv A outer s H vs Q E hr h => ?body)
  case len => obtain ⟨p, b, d, v, a, g0, g, n, t, rfl, _⟩ := h; rfl
  case body =>
    obtain ⟨p, b, d, v, a, g0, g, n, t, rfl, i, hN, ⟨e, rfl⟩, q⟩ := h
    refine ⟨_, (pss_cons (ps_asg (pe_mt G_Placer_wanted_head hr T.c_Placer T.m_Placer_wanted_head (pv 0) (pa_cons (pe_ix ix_tup (pv 1) pe_int (fun _ _ => rfl)) (pa_cons (pv 2) (pa_cons (pe_gs T.s_BOX) pa_nil)))) (pg_tup (n := 2) rfl (pgs_cons (pg_name (i := 3) sc_of_read.nd rfl (Or.inl rfl)) (pgs_cons (pg_name (i := 4) sc_of_read.nd rfl (Or.inl rfl)) pgs_nil))))
      (pss_one (ps_ret (pe_tup (pa_cons (pe_tup (pa_cons (pe_ix ix_tup (pv 1) pe_int (fun _ _ => rfl)) (pa_cons (pv 3) pa_nil))) (pa_cons (pe_ix ix_tup (pv 4) pe_int (fun _ _ => rfl)) pa_nil)))))), ?_⟩
    obtain ⟨c, y1, y3, rfl, hc, h1, h3⟩ := Pd.t2 i.pd
    cases h1.str_of
    obtain ⟨dx, hp⟩ := i.pc
    have hN' : 1 + e.depth < N + 1 := hN
    have nb : n + (1 + cnt e) ≤ 100000 := i.nb
    refine ⟨_, rfl, p, dx, _, rfl, hp, by rfl, _, rfl, c, _, _, _, rfl, rfl, st hc, by rfl, _, rfl, ?_⟩
    refine ⟨p, b, d, y3, a, g0, g, n, e, _, _, rfl, i.sub (.refl _ _) i.pc h3 i.ok.1 i.wr (by show n + cnt e ≤ n + (1 + cnt e); omega) (by show e.depth ≤ 1 + e.depth; omega), by omega, by omega, .box i.ok.2, fun H1 r x y k1 c1 er px py => ?_⟩
    have tk := i.pc.tk k1
    obtain ⟨py1, wb, wf, rfl, ew, hwb, hwf⟩ := Pd.t2 py
    have hc1 := k1 _ _ (fun q => by rw [q, hp] at hc; cases hc) hc
    refine ⟨r, _, rfl, st er, rfl, _, _, rfl, _, _, rfl, rfl, ?_⟩
    refine ⟨_, rfl, c, _, _, _, rfl, rfl, st hc1, at0 _ _, _, rfl, small_sz (by simp), fun z1 nz1 => ?_⟩
    have s1 := Same.new nz1 (o := .tup [.str "read", x])
    refine ⟨_, rfl, py1, _, _, _, rfl, rfl, st (s1 _ _ ew), by rfl, small_sz (by simp), fun z2 nz2 => ?_⟩
    have s := s1.trans (Same.new nz2 (o := .tup [.ref z1, wf]))
    exact q _ _ _ _ (k1.trans (s.kp p)) ((c1.same s).eq (by show n + 1 + cnt e = n + (1 + cnt e); omega)) upd_same (.m2 (Same.new nz2 _ _ upd_same) (.str _) (px.same s)) (hwf.same s)
theorem sc_of_call : FnScope ["placer", "term", "bound", "word", "called", "handed", "first", "form"] ["placer", "term", "bound"] (defScope s_of_call) := ⟨rfl, rfl, rfl, by decide +kernel, rfl, by decide +kernel, by decide +kernel⟩
theorem ok_of_call (T : Tx w K mg) (k N : Nat) (G_Placer_wanted_head : Held P w K mg base (k + 12) (fP K "wanted_head") (sp_wanted_head K N)) (G_Placer_wanted : Held P w K mg base (k + 12) (fP K "wanted") (sp_wanted K N)) : Held P w K mg base (k + 13) (He.fAd K ("of_call", none)) (sp_placed K (fun t => ∃ f e, t = .call f e) (N + 1)) := by
  refine FunD.held T.f_of_call sc_of_call (fun _ _ _ _ _ _ us hl => match us, hl with | [_, _, _], _ => rfl) (fun vs H Q E h => ?len) (fun fd cdv A outer s H vs Q E hr h => ?body)
  case len => obtain ⟨p, b, d, v, a, g0, g, n, t, rfl, _⟩ := h; rfl
  case body =>
    obtain ⟨p, b, d, v, a, g0, g, n, t, rfl, i, hN, ⟨e, f, rfl⟩, q⟩ := h
    refine ⟨_, (pss_cons (ps_asg (pv 1) (pg_tup (n := 3) rfl (pgs_cons (pg_name (i := 3) sc_of_call.nd rfl (Or.inl rfl)) (pgs_cons (pg_name (i := 4) sc_of_call.nd rfl (Or.inl rfl)) (pgs_cons (pg_name (i := 5) sc_of_call.nd rfl (Or.inl rfl)) pgs_nil)))))
      (pss_cons (ps_asg (pe_mt G_Placer_wanted_head hr T.c_Placer T.m_Placer_wanted_head (pv 0) (pa_cons (pv 4) (pa_cons (pv 2) (pa_cons (pe_gs T.s_DEED_forms) pa_nil)))) (pg_tup (n := 2) rfl (pgs_cons (pg_name (i := 6) sc_of_call.nd rfl (Or.inl rfl)) (pgs_cons (pg_name (i := 7) sc_of_call.nd rfl (Or.inl rfl)) pgs_nil))))
      (pss_one (ps_ret (pe_tup (pa_cons (pe_tup (pa_cons (pv 3) (pa_cons (pv 6) (pa_cons (pe_mt G_Placer_wanted hr T.c_Placer T.m_Placer_wanted (pv 0) (pa_cons (pv 5) (pa_cons (pv 2) (pa_cons (pe_ix ix_tup (pv 7) pe_int (fun _ _ => rfl)) pa_nil)))) pa_nil)))) (pa_cons (pe_ix ix_tup (pv 7) pe_int (fun _ _ => rfl)) pa_nil))))))), ?_⟩
    obtain ⟨c, y1, y2, y3, rfl, hc, h1, h2, h3⟩ := Pd.t3 i.pd
    cases h1.str_of
    obtain ⟨dx, hp⟩ := i.pc
    have hN' : 1 + max e.depth f.depth < N + 1 := hN
    have nb : n + (2 + (cnt e + cnt f)) ≤ 100000 := i.nb
    have dt : (Term.call e f).depth = 1 + max e.depth f.depth := rfl
    have ct : cnt (Term.call e f) = 2 + (cnt e + cnt f) := rfl
    refine ⟨_, rfl, c, _, rfl, st hc, rfl, _, _, rfl, _, _, rfl, _, _, rfl, rfl, ?_⟩
    refine ⟨_, rfl, p, dx, _, rfl, hp, by rfl, _, rfl, _, rfl, ?_⟩
    have i1 : PlIn K H p b d y2 a g0 g n e := i.sub (.refl _ _) i.pc h2 i.ok.1 i.wr.1 (by omega) (by omega)
    have fh := (HdOk.deed i.ok.2.1).height i1.fh
    refine ⟨p, b, d, y2, a, g0, g, n, e, _, _, rfl, i1, by omega, by omega, .deed i.ok.2.1, fun H1 r x y k1 c1 er px py => ?_⟩
    have tk := i.pc.tk k1
    obtain ⟨py1, wb, wd, wc, rfl, ew, hwb, hwd, hwc⟩ := Pd.t3 py
    have i2 : PlIn K H1 p b d y3 a g0 g (n + 1 + cnt e) f := i.sub k1 c1 h3 i.ok.2.2.1 i.wr.2 (by omega) (by omega)
    obtain ⟨dx1, hp1⟩ := c1
    have fh2 : (dom (fo (g0 ++ g) e)).height ≤ 8 := by
      have fh : 1 + max (dom (fo (g0 ++ g) e)).height (cod (fo (g0 ++ g) e)).height ≤ 5 := fh
      omega
    refine ⟨r, _, rfl, st er, rfl, _, _, rfl, _, _, rfl, rfl, ?_⟩
    refine ⟨_, rfl, _, rfl, _, rfl, p, dx1, _, rfl, hp1, by rfl, _, rfl, _, rfl, _, rfl, py1, _, _, _, rfl, rfl, st ew, by rfl, ?_⟩
    refine ⟨p, b, d, y3, a, g0, g, n + 1 + cnt e, f, _, _, rfl, i2, by omega, by omega, hwd, fh2, i.ok.2.2.2, fun H2 x2 k2 c2 px2 => ?_⟩
    have tk2 := i2.pc.tk k2
    refine ⟨small_sz (by simp), fun z1 nz1 => ?_⟩
    have s1 := Same.new nz1 (o := .tup [.str "call", x, x2])
    refine ⟨_, rfl, py1, _, _, _, rfl, rfl, st (s1 _ _ (tk2 _ _ ew)), by rfl, small_sz (by simp), fun z2 nz2 => ?_⟩
    have s := s1.trans (Same.new nz2 (o := .tup [.ref z1, wc]))
    exact q _ _ _ _ ((k1.trans k2).trans (s.kp p)) ((c2.same s).eq (by omega)) upd_same (.m3 (Same.new nz2 _ _ upd_same) (.str _) ((px.keep tk2).same s) (px2.same s)) ((hwc.keep tk2).same s)
theorem sc_of_write : FnScope ["placer", "term", "bound", "word", "one", "other", "first", "form"] ["placer", "term", "bound"] (defScope s_of_write) := ⟨rfl, rfl, rfl, by decide +kernel, rfl, by decide +kernel, by decide +kernel⟩
theorem ok_of_write (T : Tx w K mg) (k N : Nat) (G_Placer_wanted_head : Held P w K mg base (k + 12) (fP K "wanted_head") (sp_wanted_head K N)) (G_Placer_wanted : Held P w K mg base (k + 12) (fP K "wanted") (sp_wanted K N)) : Held P w K mg base (k + 13) (He.fAd K ("of_write", none)) (sp_placed K (fun t => ∃ f e, t = .write f e) (N + 1)) := by
  refine FunD.held T.f_of_write sc_of_write (fun _ _ _ _ _ _ us hl => match us, hl with | [_, _, _], _ => rfl) (fun vs H Q E h => ?len) (fun fd cdv A outer s H vs Q E hr h => ?body)
  case len => obtain ⟨p, b, d, v, a, g0, g, n, t, rfl, _⟩ := h; rfl
  case body =>
    obtain ⟨p, b, d, v, a, g0, g, n, t, rfl, i, hN, ⟨e, f, rfl⟩, q⟩ := h
    refine ⟨_, (pss_cons (ps_asg (pv 1) (pg_tup (n := 3) rfl (pgs_cons (pg_name (i := 3) sc_of_write.nd rfl (Or.inl rfl)) (pgs_cons (pg_name (i := 4) sc_of_write.nd rfl (Or.inl rfl)) (pgs_cons (pg_name (i := 5) sc_of_write.nd rfl (Or.inl rfl)) pgs_nil)))))
      (pss_cons (ps_asg (pe_mt G_Placer_wanted_head hr T.c_Placer T.m_Placer_wanted_head (pv 0) (pa_cons (pv 4) (pa_cons (pv 2) (pa_cons (pe_gs T.s_BOX) pa_nil)))) (pg_tup (n := 2) rfl (pgs_cons (pg_name (i := 6) sc_of_write.nd rfl (Or.inl rfl)) (pgs_cons (pg_name (i := 7) sc_of_write.nd rfl (Or.inl rfl)) pgs_nil))))
      (pss_one (ps_ret (pe_tup (pa_cons (pe_tup (pa_cons (pv 3) (pa_cons (pv 6) (pa_cons (pe_mt G_Placer_wanted hr T.c_Placer T.m_Placer_wanted (pv 0) (pa_cons (pv 5) (pa_cons (pv 2) (pa_cons (pe_ix ix_tup (pv 7) pe_int (fun _ _ => rfl)) pa_nil)))) pa_nil)))) (pa_cons (pe_gs T.s_NUM) pa_nil))))))), ?_⟩
    obtain ⟨c, y1, y2, y3, rfl, hc, h1, h2, h3⟩ := Pd.t3 i.pd
    cases h1.str_of
    obtain ⟨dx, hp⟩ := i.pc
    have hN' : 1 + max e.depth f.depth < N + 1 := hN
    have nb : n + (2 + (cnt e + cnt f)) ≤ 100000 := i.nb
    have dt : (Term.write e f).depth = 1 + max e.depth f.depth := rfl
    have ct : cnt (Term.write e f) = 2 + (cnt e + cnt f) := rfl
    refine ⟨_, rfl, c, _, rfl, st hc, rfl, _, _, rfl, _, _, rfl, _, _, rfl, rfl, ?_⟩
    refine ⟨_, rfl, p, dx, _, rfl, hp, by rfl, _, rfl, _, rfl, ?_⟩
    have i1 : PlIn K H p b d y2 a g0 g n e := i.sub (.refl _ _) i.pc h2 i.ok.1 i.wr.1 (by omega) (by omega)
    have fh := (HdOk.box i.ok.2.1).height i1.fh
    refine ⟨p, b, d, y2, a, g0, g, n, e, _, _, rfl, i1, by omega, by omega, .box i.ok.2.1, fun H1 r x y k1 c1 er px py => ?_⟩
    obtain ⟨py1, wb, wd, rfl, ew, hwb, hwd⟩ := Pd.t2 py
    have i2 : PlIn K H1 p b d y3 a g0 g (n + 1 + cnt e) f := i.sub k1 c1 h3 i.ok.2.2.1 i.wr.2 (by omega) (by omega)
    obtain ⟨dx1, hp1⟩ := c1
    have fh2 : (inn (fo (g0 ++ g) e)).height ≤ 8 := by
      have fh : 1 + (inn (fo (g0 ++ g) e)).height ≤ 5 := fh
      omega
    refine ⟨r, _, rfl, st er, rfl, _, _, rfl, _, _, rfl, rfl, ?_⟩
    refine ⟨_, rfl, _, rfl, _, rfl, p, dx1, _, rfl, hp1, by rfl, _, rfl, _, rfl, _, rfl, py1, _, _, _, rfl, rfl, st ew, by rfl, ?_⟩
    refine ⟨p, b, d, y3, a, g0, g, n + 1 + cnt e, f, _, _, rfl, i2, by omega, by omega, hwd, fh2, i.ok.2.2.2, fun H2 x2 k2 c2 px2 => ?_⟩
    have tk2 := i2.pc.tk k2
    refine ⟨small_sz (by simp), fun z1 nz1 => ⟨small_sz (by simp), fun z2 nz2 => ?_⟩⟩
    have s := (Same.new nz1 (o := .tup [.str "write", x, x2])).trans (Same.new nz2 (o := .tup [.ref z1, .str "num"]))
    exact q _ _ _ _ ((k1.trans k2).trans (s.kp p)) ((c2.same s).eq (by omega)) upd_same (.m3 (Same.new nz2 _ _ upd_same) (.str _) ((px.keep tk2).same s) (px2.same s)) (fnum _)
theorem sc_of_same : FnScope ["placer", "term", "bound", "word", "one", "other", "first", "form", "second"] ["placer", "term", "bound"] (defScope s_of_same) := ⟨rfl, rfl, rfl, by decide +kernel, rfl, by decide +kernel, by decide +kernel⟩
theorem ok_of_same (T : Tx w K mg) (k N : Nat) (G_Placer_wanted_head : Held P w K mg base (k + 12) (fP K "wanted_head") (sp_wanted_head K N)) : Held P w K mg base (k + 13) (He.fAd K ("of_same", none)) (sp_placed K (fun t => ∃ f e, t = .same f e) (N + 1)) := by
  refine FunD.held T.f_of_same sc_of_same (fun _ _ _ _ _ _ us hl => match us, hl with | [_, _, _], _ => rfl) (fun vs H Q E h => ?len) (fun fd cdv A outer s H vs Q E hr h => ?body)
  case len => obtain ⟨p, b, d, v, a, g0, g, n, t, rfl, _⟩ := h; rfl
  case body =>
    obtain ⟨p, b, d, v, a, g0, g, n, t, rfl, i, hN, ⟨e, f, rfl⟩, q⟩ := h
    refine ⟨_, (pss_cons (ps_asg (pv 1) (pg_tup (n := 3) rfl (pgs_cons (pg_name (i := 3) sc_of_same.nd rfl (Or.inl rfl)) (pgs_cons (pg_name (i := 4) sc_of_same.nd rfl (Or.inl rfl)) (pgs_cons (pg_name (i := 5) sc_of_same.nd rfl (Or.inl rfl)) pgs_nil)))))
      (pss_cons (ps_asg (pe_mt G_Placer_wanted_head hr T.c_Placer T.m_Placer_wanted_head (pv 0) (pa_cons (pv 4) (pa_cons (pv 2) (pa_cons (pe_gs T.s_BOX) pa_nil)))) (pg_tup (n := 2) rfl (pgs_cons (pg_name (i := 6) sc_of_same.nd rfl (Or.inl rfl)) (pgs_cons (pg_name (i := 7) sc_of_same.nd rfl (Or.inl rfl)) pgs_nil))))
      (pss_cons (ps_asg (pe_mt G_Placer_wanted_head hr T.c_Placer T.m_Placer_wanted_head (pv 0) (pa_cons (pv 5) (pa_cons (pv 2) (pa_cons (pe_gs T.s_BOX) pa_nil)))) (pg_tup (n := 2) rfl (pgs_cons (pg_name (i := 8) sc_of_same.nd rfl (Or.inl rfl)) (pgs_cons (pg_name (i := 7) sc_of_same.nd rfl (Or.inl rfl)) pgs_nil))))
      (pss_one (ps_ret (pe_tup (pa_cons (pe_tup (pa_cons (pv 3) (pa_cons (pv 6) (pa_cons (pv 8) pa_nil)))) (pa_cons (pe_gs T.s_NUM) pa_nil)))))))), ?_⟩
    obtain ⟨c, y1, y2, y3, rfl, hc, h1, h2, h3⟩ := Pd.t3 i.pd
    cases h1.str_of
    obtain ⟨dx, hp⟩ := i.pc
    have hN' : 1 + max e.depth f.depth < N + 1 := hN
    have nb : n + (2 + (cnt e + cnt f)) ≤ 100000 := i.nb
    have dt : (Term.same e f).depth = 1 + max e.depth f.depth := rfl
    have ct : cnt (Term.same e f) = 2 + (cnt e + cnt f) := rfl
    refine ⟨_, rfl, c, _, rfl, st hc, rfl, _, _, rfl, _, _, rfl, _, _, rfl, rfl, ?_⟩
    refine ⟨_, rfl, p, dx, _, rfl, hp, by rfl, _, rfl, _, rfl, ?_⟩
    have i1 : PlIn K H p b d y2 a g0 g n e := i.sub (.refl _ _) i.pc h2 i.ok.1 i.wr.1 (by omega) (by omega)
    refine ⟨p, b, d, y2, a, g0, g, n, e, _, _, rfl, i1, by omega, by omega, .box i.ok.2.1, fun H1 r x y k1 c1 er px py => ?_⟩
    have i2 : PlIn K H1 p b d y3 a g0 g (n + 1 + cnt e) f := i.sub k1 c1 h3 i.ok.2.2.1 i.wr.2 (by omega) (by omega)
    obtain ⟨dx1, hp1⟩ := c1
    refine ⟨r, _, rfl, st er, rfl, _, _, rfl, _, _, rfl, rfl, ?_⟩
    refine ⟨_, rfl, p, dx1, _, rfl, hp1, by rfl, _, rfl, _, rfl, ?_⟩
    refine ⟨p, b, d, y3, a, g0, g, n + 1 + cnt e, f, _, _, rfl, i2, by omega, by omega, .box i.ok.2.2.2, fun H2 r2 x2 y2' k2 c2 er2 px2 py2 => ?_⟩
    have tk2 := i2.pc.tk k2
    refine ⟨r2, _, rfl, st er2, rfl, _, _, rfl, _, _, rfl, rfl, ?_⟩
    refine ⟨_, rfl, _, rfl, _, rfl, small_sz (by simp), fun z1 nz1 => ⟨small_sz (by simp), fun z2 nz2 => ?_⟩⟩
    have s := (Same.new nz1 (o := .tup [.str "same", x, x2])).trans (Same.new nz2 (o := .tup [.ref z1, .str "num"]))
    exact q _ _ _ _ ((k1.trans k2).trans (s.kp p)) ((c2.same s).eq (by omega)) upd_same (.m3 (Same.new nz2 _ _ upd_same) (.str _) ((px.keep tk2).same s) (px2.same s)) (fnum _)
theorem sc_of_let : FnScope ["placer", "term", "bound", "word", "name", "one", "other", "first", "given", "second", "form"] ["placer", "term", "bound"] (defScope s_of_let) := ⟨rfl, rfl, rfl, by decide +kernel, rfl, by decide +kernel, by decide +kernel⟩
theorem ok_of_let (T : Tx w K mg) (k N : Nat) (G_Placer_placed : Held P w K mg base (k + 8) (fP K "placed") (sp_placed K (fun _ => True) N)) : Held P w K mg base (k + 9) (He.fAd K ("of_let", none)) (sp_placed K (fun t => ∃ x e f, t = .lets x e f) (N + 1)) := by
  refine FunD.held T.f_of_let sc_of_let (fun _ _ _ _ _ _ us hl => match us, hl with | [_, _, _], _ => rfl) (fun vs H Q E h => ?len) (fun fd cdv A outer s H vs Q E hr h => ?body)
  case len => obtain ⟨p, b, d, v, a, g0, g, n, t, rfl, _⟩ := h; rfl
  case body =>
    obtain ⟨p, b, d, v, a, g0, g, n, t, rfl, i, hN, ⟨x, e, f, rfl⟩, q⟩ := h
    refine ⟨_, (pss_cons (ps_asg (pv 1) (pg_tup (n := 4) rfl (pgs_cons (pg_name (i := 3) sc_of_let.nd rfl (Or.inl rfl)) (pgs_cons (pg_name (i := 4) sc_of_let.nd rfl (Or.inl rfl)) (pgs_cons (pg_name (i := 5) sc_of_let.nd rfl (Or.inl rfl)) (pgs_cons (pg_name (i := 6) sc_of_let.nd rfl (Or.inl rfl)) pgs_nil))))))
      (pss_cons (ps_asg (pe_mt G_Placer_placed hr T.c_Placer T.m_Placer_placed (pv 0) (pa_cons (pv 5) (pa_cons (pv 2) pa_nil))) (pg_tup (n := 2) rfl (pgs_cons (pg_name (i := 7) sc_of_let.nd rfl (Or.inl rfl)) (pgs_cons (pg_name (i := 8) sc_of_let.nd rfl (Or.inl rfl)) pgs_nil))))
      (pss_cons (ps_asg (pe_mt G_Placer_placed hr T.c_Placer T.m_Placer_placed (pv 0) (pa_cons (pv 6) (pa_cons (pe_op op_cat (pv 2) (pe_lst (pa_cons (pe_tup (pa_cons (pv 4) (pa_cons (pv 8) pa_nil))) pa_nil))) pa_nil))) (pg_tup (n := 2) rfl (pgs_cons (pg_name (i := 9) sc_of_let.nd rfl (Or.inl rfl)) (pgs_cons (pg_name (i := 10) sc_of_let.nd rfl (Or.inl rfl)) pgs_nil))))
      (pss_one (ps_ret (pe_tup (pa_cons (pe_tup (pa_cons (pv 3) (pa_cons (pv 4) (pa_cons (pv 7) (pa_cons (pv 9) pa_nil))))) (pa_cons (pv 10) pa_nil)))))))), ?_⟩
    obtain ⟨c, y1, y2, y3, y4, rfl, hc, h1, h2, h3, h4⟩ := Pd.t4 i.pd
    cases h1.str_of
    cases h2.str_of
    obtain ⟨dx, hp⟩ := i.pc
    obtain ⟨xs, hb, hxs⟩ := i.pb.bd
    have hN' : 1 + max e.depth f.depth < N + 1 := hN
    have nb : n + (cnt e + cnt f) ≤ 100000 := i.nb
    have hgl : g.length + (1 + max e.depth f.depth) ≤ 1000 := i.gl
    have hlx : xs.length = g.length := by rw [hxs.length, List.length_map]
    have dt : (Term.lets x e f).depth = 1 + max e.depth f.depth := rfl
    have ct : cnt (Term.lets x e f) = cnt e + cnt f := rfl
    refine ⟨_, rfl, c, _, rfl, st hc, rfl, _, _, rfl, _, _, rfl, _, _, rfl, _, _, rfl, rfl, ?_⟩
    refine ⟨_, rfl, p, dx, _, rfl, hp, by rfl, _, rfl, _, rfl, ?_⟩
    have i1 : PlIn K H p b d y3 a g0 g n e := i.sub (.refl _ _) i.pc h3 i.ok.1 i.wr.2.1 (by omega) (by omega)
    refine ⟨p, b, d, y3, a, g0, g, n, e, rfl, i1, by omega, True.intro, fun H1 r u y k1 c1 er pu py => ?_⟩
    refine ⟨r, _, rfl, st er, rfl, _, _, rfl, _, _, rfl, rfl, ?_⟩
    obtain ⟨dx1, hp1⟩ := c1
    have hb1 := k1 _ _ (fun q => by rw [q, hp] at hb; cases hb) hb
    refine ⟨_, rfl, p, dx1, _, rfl, hp1, by rfl, _, rfl, _, rfl, _, rfl, _, rfl, small_sz (by simp), fun t1 n1 => ⟨small_sz (by simp), fun l1 nl1 => ?_⟩⟩
    have s1 := (Same.new n1 (o := .tup [.str x, y])).trans (Same.new nl1 (o := .lst [.ref t1]))
    have et1 := Same.new nl1 (o := .lst [.ref t1]) _ _ (upd_same (H := H1) (a := t1) (o := .tup [.str x, y]))
    refine ⟨b, l1, xs, _, rfl, rfl, s1 _ _ hb1, upd_same, small_sz (by simp; omega), fun b2 nb2 => ?_⟩
    have s2 := s1.trans (Same.new nb2 (o := .lst (xs ++ [.ref t1])))
    have k2 := k1.trans (s2.kp p)
    have c2 : Pc K _ p a d (n + cnt e) := (show Pc K H1 p a d (n + cnt e) from ⟨dx1, hp1⟩).same s2
    have i2 := i.deep k2 c2 (s2 _ _ hb1) (Same.new nb2 _ _ et1) upd_same (py.same s2) i1.fh h4 i.ok.2 i.wr.2.2 (by omega) (by omega)
    refine ⟨p, b2, d, y4, a, g0, g ++ [(x, fo (g0 ++ g) e)], n + cnt e, f, rfl, i2, by omega, True.intro, fun H2 r2 u2 f2 k3 c3 er2 pu2 pf2 => ?_⟩
    refine ⟨r2, _, rfl, st er2, rfl, _, _, rfl, _, _, rfl, rfl, ?_⟩
    have tk3 := c2.tk k3
    refine ⟨_, rfl, _, rfl, _, rfl, _, rfl, small_sz (by simp), fun z1 nz1 => ⟨_, rfl, small_sz (by simp), fun z2 nz2 => ?_⟩⟩
    have s := (Same.new nz1 (o := .tup [.str "let", .str x, u, u2])).trans (Same.new nz2 (o := .tup [.ref z1, f2]))
    rw [← List.append_assoc] at pu2 pf2
    exact q _ _ _ _ ((k2.trans k3).trans (s.kp p)) ((c3.same s).eq (by omega)) upd_same (.m4 (Same.new nz2 _ _ upd_same) (.str _) (.str _) (((pu.same s2).keep tk3).same s) (pu2.same s)) (pf2.same s)
end
end WS
set_option Elab.async false
set_option linter.all false
set_option maxRecDepth 100000
set_option maxHeartbeats 4000000
namespace WS
open PySem L2
/-- one end of an if, begun: mark, what is placed, any -/
def EndAt (H : Hp) (r : Addr) (m : Str) (t : Term) : Prop := ∃ x, H r = some (.tup [.str m, x, .str "any"]) ∧ Pd H x t.d
theorem EndAt.keep {H H' : Hp} {r : Addr} {m : Str} {t : Term} (h : EndAt H r m t) (k : TK H H') : EndAt H' r m t := by
  obtain ⟨x, e, p⟩ := h
  exact ⟨x, k _ _ e, p.keep k⟩
def EndsIn (K : PySem.W.Frag) (H2 : Hp) (p d : Addr) (a : Str) (g : Ctx) (n1 : Nat) (e f : Term) : Nat → List V → Hp → Prop := fun i acc H' => Kp p H2 H' ∧
  ((i = 0 ∧ acc = [] ∧ Pc K H' p a d n1) ∨
   (i = 1 ∧ ∃ r1, acc = [.ref r1] ∧ Pc K H' p a d (n1 + 1 + cnt e) ∧ EndAt H' r1 (mk a (n1 + 1)) (pl a g (n1 + 1) e)) ∨
   (i = 2 ∧ ∃ r1 r2, acc = [.ref r1, .ref r2] ∧ Pc K H' p a d (n1 + 1 + cnt e + 1 + cnt f) ∧ EndAt H' r1 (mk a (n1 + 1)) (pl a g (n1 + 1) e) ∧ EndAt H' r2 (mk a (n1 + 1 + cnt e + 1)) (pl a g (n1 + 1 + cnt e + 1) f)))
theorem Pc.upd {K : PySem.W.Frag} {H : Hp} {p D : Addr} {a : Str} {d : Addr} {n : Nat} {o : HO} (h : Pc K H p a d n) (hD : D ≠ p) : Pc K (L2.upd H D o) p a d n := by
  obtain ⟨dx, e⟩ := h
  exact ⟨dx, by rw [upd_ne (Ne.symm hD)]; exact e⟩
theorem Kp.upd {p D : Addr} {H2 H : Hp} {o : HO} (k : Kp p H2 H) (hD : H2 D = none) : Kp p H2 (L2.upd H D o) := fun b u nb e => by
  rw [upd_ne (ne_of_none e hD)]
  exact k _ _ nb e
section
variable {P : Program} {w : World} {K : PySem.W.Frag} {mg : Str → Option Value} {base : Heap}
theorem sc_of_if : FnScope ["placer", "term", "bound", "word", "asked", "one", "other", "first", "ends", "end", "form", "second", "third", "mark", "placed", "given"] ["placer", "term", "bound"] (defScope s_of_if) := ⟨rfl, rfl, rfl, by decide +kernel, rfl, by decide +kernel, by decide +kernel⟩
theorem ok_of_if (T : Tx w K mg) (k N : Nat) (G_Placer_begun : Held P w K mg base (k + 12) (fP K "begun") (sp_begun K N)) (G_Placer_wanted : Held P w K mg base (k + 12) (fP K "wanted") (sp_wanted K N)) : Held P w K mg base (k + 13) (He.fAd K ("of_if", none)) (sp_placed K (fun t => ∃ c e f, t = .ite c e f) (N + 1)) := by
  have G_near_forms := (ok_near_forms (P := P) (base := base) T (k + 10) 1)
  have G_met_forms := (ok_met_forms (P := P) (base := base) T (k + 11))
  have G_walled := (ok_walled (P := P) (base := base) T (k + 1))
  refine FunD.held T.f_of_if sc_of_if (fun _ _ _ _ _ _ us hl => match us, hl with | [_, _, _], _ => rfl) (fun vs H Q E h => ?len) (fun fd cdv A outer s H vs Q E hr h => ?body)
  case len => obtain ⟨p, b, d, v, a, g0, g, n, t, rfl, _⟩ := h; rfl
  case body =>
    obtain ⟨p, b, d, v, a, g0, g, n, t, rfl, i, hN, ⟨c0, e, f, rfl⟩, q⟩ := h
    refine ⟨_, (pss_cons (ps_asg (pv 1) (pg_tup (n := 4) rfl (pgs_cons (pg_name (i := 3) sc_of_if.nd rfl (Or.inl rfl)) (pgs_cons (pg_name (i := 4) sc_of_if.nd rfl (Or.inl rfl)) (pgs_cons (pg_name (i := 5) sc_of_if.nd rfl (Or.inl rfl)) (pgs_cons (pg_name (i := 6) sc_of_if.nd rfl (Or.inl rfl)) pgs_nil))))))
      (pss_cons (ps_set (i := 7) sc_of_if.nd rfl (by first | exact Or.inl rfl | exact Or.inr rfl) (pe_mt G_Placer_wanted hr T.c_Placer T.m_Placer_wanted (pv 0) (pa_cons (pv 4) (pa_cons (pv 2) (pa_cons (pe_gs T.s_NUM) pa_nil)))))
      (pss_cons (ps_setLc (i := 8) (own := [("end", 9)]) rfl sc_of_if.nd rfl rfl (sw_true rfl rfl rfl (by decide +kernel)) (pi_tup (pe_tup (pa_cons (pv 5) (pa_cons (pv 6) pa_nil)))) (blkOk_by (own := [("end", 9)]) (N := ["placer", "term", "bound", "word", "asked", "one", "other", "first", "ends", "end", "form", "second", "third", "mark", "placed", "given"]) (sc := defScope s_of_if) (by decide +kernel)) (fun _ _ _ _ _ => (pg_name (i := 9) sc_of_if.nd rfl (Or.inl rfl))) (fun _ _ _ _ _ => pts_nil) (fun _ _ _ _ _ => (pe_mt G_Placer_begun hr T.c_Placer T.m_Placer_begun (pv 0) (pa_cons (pv 9) (pa_cons (pv 2) pa_nil)))))
      (pss_cons (ps_if (pt_not (pt_val (pe_cl G_near_forms hr T.g_near_forms (pa_cons (pe_ix ix_tup (pe_ix ix_list (pv 8) pe_int (fun _ _ => rfl)) pe_int (fun _ _ => rfl)) (pa_cons (pe_ix ix_tup (pe_ix ix_list (pv 8) pe_int (fun _ _ => rfl)) pe_int (fun _ _ => rfl)) pa_nil))))) (pss_one ps_never) pss_nil)
      (pss_cons (ps_set (i := 10) sc_of_if.nd rfl (by first | exact Or.inl rfl | exact Or.inr rfl) (pe_cl G_met_forms hr T.g_met_forms (pa_cons (pe_ix ix_tup (pe_ix ix_list (pv 8) pe_int (fun _ _ => rfl)) pe_int (fun _ _ => rfl)) (pa_cons (pe_ix ix_tup (pe_ix ix_list (pv 8) pe_int (fun _ _ => rfl)) pe_int (fun _ _ => rfl)) pa_nil))))
      (pss_cons (ps_asg (pe_lc (own := [("mark", 13), ("placed", 14), ("given", 15)]) rfl sc_of_if.nd (pi_list (pv 8)) (blkOk_by (own := [("mark", 13), ("placed", 14), ("given", 15)]) (N := ["placer", "term", "bound", "word", "asked", "one", "other", "first", "ends", "end", "form", "second", "third", "mark", "placed", "given"]) (sc := defScope s_of_if) (by decide +kernel)) (fun _ _ _ _ _ => (pg_tupK (K := K) (n := 3) rfl (pgs_cons (pg_name (i := 13) sc_of_if.nd rfl (Or.inl rfl)) (pgs_cons (pg_name (i := 14) sc_of_if.nd rfl (Or.inl rfl)) (pgs_cons (pg_name (i := 15) sc_of_if.nd rfl (Or.inl rfl)) pgs_nil))))) (fun _ _ _ _ _ => pts_nil) (fun _ _ _ _ _ => (pe_cl G_walled hr T.g_walled (pa_cons (pv 13) (pa_cons (pv 14) (pa_cons (pv 15) (pa_cons (pv 10) pa_nil))))))) (pg_unl (n := 2) rfl (pgs_cons (pg_name (i := 11) sc_of_if.nd rfl (Or.inl rfl)) (pgs_cons (pg_name (i := 12) sc_of_if.nd rfl (Or.inl rfl)) pgs_nil))))
      (pss_one (ps_ret (pe_tup (pa_cons (pe_tup (pa_cons (pv 3) (pa_cons (pv 7) (pa_cons (pv 11) (pa_cons (pv 12) pa_nil))))) (pa_cons (pv 10) pa_nil))))))))))), ?_⟩
    obtain ⟨c, y1, y2, y3, y4, rfl, hc, h1, h2, h3, h4⟩ := Pd.t4 i.pd
    cases h1.str_of
    obtain ⟨dx, hp⟩ := i.pc
    have hN' : 1 + max c0.depth (max e.depth f.depth) < N + 1 := hN
    have nb : n + (3 + (cnt c0 + (cnt e + cnt f))) ≤ 100000 := i.nb
    have dt : (Term.ite c0 e f).depth = 1 + max c0.depth (max e.depth f.depth) := rfl
    have ct : cnt (Term.ite c0 e f) = 3 + (cnt c0 + (cnt e + cnt f)) := rfl
    obtain ⟨ok1, ok2, ok3, ok4, ok5, ok6⟩ := i.ok
    obtain ⟨wr1, wr2, wr3⟩ := i.wr
    refine ⟨_, rfl, c, _, rfl, st hc, rfl, _, _, rfl, _, _, rfl, _, _, rfl, _, _, rfl, rfl, ?_⟩
    refine ⟨_, rfl, p, dx, _, rfl, hp, by rfl, _, rfl, _, rfl, ?_⟩
    refine ⟨p, b, d, y2, a, g0, g, n, c0, _, .num, rfl, i.sub (.refl _ _) i.pc h2 ok1 wr1 (by omega) (by omega), by omega, by omega, fnum _, by decide, ok2, fun H1 x k1 c1 px => ?_⟩
    refine ⟨_, rfl, _, rfl, small_sz (by simp), fun z nz => ⟨z, rfl, ⟨_, st upd_same⟩, fun D hD => ?_⟩⟩
    have sz := Same.new nz (o := .tup [y3, y4])
    have c2 := c1.same sz
    have k2 := k1.trans (sz.kp p)
    have ez : (upd H1 z (.tup [y3, y4])) z = some (.tup [y3, y4]) := upd_same
    generalize (upd H1 z (.tup [y3, y4])) = H2 at sz c2 k2 hD ez
    have hDp : D ≠ p := by
      obtain ⟨_, e⟩ := c2
      exact (ne_of_none e hD).symm
    refine lcS (src_tup (xs := [y3, y4])) (EndsIn K H2 p d a (g0 ++ g) (n + 1 + cnt c0) e f) (small_sz (by simp)) ⟨(Kp.refl _ _).upd hD, .inl ⟨rfl, rfl, c2.upd hDp⟩⟩ (fun j acc H' pv => st (pv.1 _ _ (by
      obtain ⟨_, e⟩ := c2
      intro q
      rw [q] at ez
      rw [ez] at e
      cases e) ez)) (fun j y acc H' H3 KK KK2 hj hla pv hDl sm hI kk1 _ => ?_) (fun acc H' hla pv eD => ?_)
    · obtain ⟨kp, pv⟩ := pv
      have k3 := (k2.trans kp).trans (sm.kp p)
      -- one end: from its own heap to the next
      have step : ∀ (m : Nat) (u : V) (s : Term), y = u → Pc K H' p a d m → Pd H u s.d → Ok (g0 ++ g) s → fo (g0 ++ g) s = .any → Wr s → m + 1 + cnt s ≤ n + cnt (Term.ite c0 e f) → s.depth ≤ max c0.depth (max e.depth f.depth) →
          (∀ H6 r, Kp p H2 (upd H6 D (.lst (acc ++ [.ref r]))) → TK H3 (upd H6 D (.lst (acc ++ [.ref r]))) → Pc K (upd H6 D (.lst (acc ++ [.ref r]))) p a d (m + 1 + cnt s) → EndAt (upd H6 D (.lst (acc ++ [.ref r]))) r (mk a (m + 1)) (pl a (g0 ++ g) (m + 1) s) → EndsIn K H2 p d a (g0 ++ g) (n + 1 + cnt c0) e f (j + 1) (acc ++ [.ref r]) (upd H6 D (.lst (acc ++ [.ref r])))) →
          sp_begun K N [.ref p, y, .ref b] H3 KK E0 := by
        intro m u s ey cm pu oks fos wrs hcs hds fin
        subst ey
        have i3 : PlIn K H3 p b d y a g0 g m s := i.sub k3 (cm.same sm) pu oks wrs (by omega) (by omega)
        refine ⟨p, b, d, y, a, g0, g, m, s, rfl, i3, by omega, by omega, fun H6 r x6 y6 k6 c6 er px6 py6 => ?_⟩
        have eD6 : H6 D = some (.lst acc) := k6 _ _ hDp (sm _ _ hDl)
        have tk : TK H6 (upd H6 D (.lst (acc ++ [.ref r]))) := tk_lst (.mut D H6 _) eD6
        rw [fos] at py6
        cases py6.str_of
        exact kk1 _ _ eD6 (fin H6 r (((kp.trans (sm.kp p)).trans k6).upd hD) ((i3.pc.tk k6).trans tk) (c6.upd hDp) ⟨x6, tk _ _ er, px6.keep tk⟩)
      have hp3 : ∃ dx3 m, H3 p = some (.ins (PC K) dx3 (PF (.str a) (.ref d) (.int m))) := by
        rcases pv with ⟨_, _, ⟨dx3, e3⟩⟩ | ⟨_, _, _, ⟨dx3, e3⟩, _⟩ | ⟨_, _, _, _, ⟨dx3, e3⟩, _⟩
        · exact ⟨dx3, _, sm _ _ e3⟩
        · exact ⟨dx3, _, sm _ _ e3⟩
        · exact ⟨dx3, _, sm _ _ e3⟩
      obtain ⟨dx3, m3, e3⟩ := hp3
      refine ⟨rfl, _, rfl, p, dx3, _, rfl, e3, by rfl, _, rfl, _, rfl, ?_⟩
      rcases pv with ⟨rfl, rfl, cm⟩ | ⟨rfl, r1, rfl, cm, en⟩ | ⟨rfl, _⟩
      · exact step (n + 1 + cnt c0) y3 e (Option.some.inj hI).symm cm h3 ok3 ok4 wr2 (by omega) (by omega) fun H6 r kk tt cc ee => ⟨kk, .inr (.inl ⟨rfl, r, rfl, cc, ee⟩)⟩
      · exact step (n + 1 + cnt c0 + 1 + cnt e) y4 f (Option.some.inj hI).symm cm h4 ok5 ok6 wr3 (by omega) (by omega) fun H6 r kk tt cc ee => ⟨kk, .inr (.inr ⟨rfl, r1, r, rfl, cc, (en.keep sm.tk).keep tt, ee⟩)⟩
      · exact absurd hj (by simp)
    · obtain ⟨kp, pv⟩ := pv
      rcases pv with ⟨e1, _⟩ | ⟨e1, _⟩ | ⟨_, r1, r2, rfl, c3, en1, en2⟩
      · cases e1
      · cases e1
      obtain ⟨x1, er1, px1⟩ := en1
      obtain ⟨x2, er2, px2⟩ := en2
      have k3 := k2.trans kp
      have px' := px.keep (c1.tk ((sz.kp p).trans kp))
      refine ⟨_, rfl, D, _, _, _, rfl, rfl, sl eD, at0 _ _, r1, _, _, _, rfl, rfl, st er1, by rfl, _, rfl, D, _, _, _, rfl, rfl, sl eD, by rfl, r2, _, _, _, rfl, rfl, st er2, by rfl, ?_⟩
      refine ⟨_, _, .any, .any, rfl, fany _, fany _, by decide, by decide, by decide, fun H4 s4 => ⟨_, rfl, iteF ?_⟩⟩
      refine ⟨_, rfl, D, _, _, _, rfl, rfl, sl (s4 _ _ eD), at0 _ _, r1, _, _, _, rfl, rfl, st (s4 _ _ er1), by rfl, _, rfl, D, _, _, _, rfl, rfl, sl (s4 _ _ eD), by rfl, r2, _, _, _, rfl, rfl, st (s4 _ _ er2), by rfl, rfl, ?_⟩
      refine ⟨_, rfl, D, rfl, ⟨_, sl (s4 _ _ eD)⟩, fun D2 hD2 => ?_⟩
      refine lcS (σ := [some (.ref p), some (.ref c), some (.ref b), some (.str "if"), some y2, some y3, some y4, some x, some (.ref D), none, some (.str "any"), none, none, none, none, none]) (src_list (xs := [.ref r1, .ref r2])) (fun j acc H5 => Same H4 H5 ∧ PdAll H5 acc (([(pl a (g0 ++ g) (n + 1 + cnt c0 + 1) e), (pl a (g0 ++ g) (n + 1 + cnt c0 + 1 + cnt e + 1) f)].take j).map Term.d)) (small_sz (by simp)) ⟨.new hD2, .nil⟩ (fun j acc H5 pv => sl (pv.1 _ _ (s4 _ _ eD))) (fun j y acc H5 H6 KK KK2 hj hla pv hDl sm hI kk1 _ => ?_) (fun acc H5 hla pv eD2 => ?_)
      · obtain ⟨s5, pa⟩ := pv
        have s6 := (s4.trans s5).trans sm
        have fin : ∀ (m : Str) (xx : V) (s : Term) (r : Addr), H6 r = some (.tup [.str m, xx, .str "any"]) → Pd H6 xx s.d → [(pl a (g0 ++ g) (n + 1 + cnt c0 + 1) e), (pl a (g0 ++ g) (n + 1 + cnt c0 + 1 + cnt e + 1) f)][j]? = some s → sp_walled [.str m, xx, .str "any", .str "any"] H6 KK E0 := by
          intro m xx s r er ps es
          refine ⟨m, xx, _, _, s, .any, .any, rfl, ps, fany _, fany _, by decide, by decide, by decide, fun H7 v' s7 pv' => ?_⟩
          rw [fence_eq] at pv'
          have e7 := s7 _ _ (sm _ _ hDl)
          have tk : TK H7 (upd H7 D2 (.lst (acc ++ [v']))) := tk_lst (.mut D2 H7 _) e7
          refine kk1 _ _ e7 ⟨fun b u eb => ?_, ?_⟩
          · rw [upd_ne (ne_of_none eb hD2)]
            exact s7 _ _ (sm _ _ (s5 _ _ eb))
          · rw [List.take_succ, es, List.map_append]
            exact (((pa.same sm).same s7).keep tk).app (.one (pv'.keep tk))
        have hj2 : j = 0 ∨ j = 1 := by
          have : j < 2 := hj
          omega
        rcases hj2 with rfl | rfl
        · cases hI
          have er := s6 _ _ er1
          exact ⟨r1, _, rfl, st er, rfl, _, _, rfl, _, _, rfl, _, _, rfl, rfl, rfl, _, rfl, _, rfl, _, rfl, _, rfl, fin _ _ _ _ er (px1.same s6) rfl⟩
        · cases hI
          have er := s6 _ _ er2
          exact ⟨r2, _, rfl, st er, rfl, _, _, rfl, _, _, rfl, _, _, rfl, rfl, rfl, _, rfl, _, rfl, _, rfl, _, rfl, fin _ _ _ _ er (px2.same s6) rfl⟩
      · obtain ⟨s5, pa⟩ := pv
        obtain ⟨u1, r', rfl, hu1, pa⟩ := PdAll.cons_of pa
        obtain ⟨u2, r'', rfl, hu2, pa⟩ := PdAll.cons_of pa
        cases pa.nil_of
        refine ⟨D2, _, rfl, sl eD2, rfl, _, _, rfl, _, _, rfl, rfl, ?_⟩
        refine ⟨_, rfl, _, rfl, _, rfl, _, rfl, small_sz (by simp), fun z1 nz1 => ⟨_, rfl, small_sz (by simp), fun z2 nz2 => ?_⟩⟩
        have s6 := (Same.new nz1 (o := .tup [.str "if", x, u1, u2])).trans (Same.new nz2 (o := .tup [.ref z1, .str "any"]))
        have s7 := (s4.trans s5).trans s6
        exact q _ _ _ _ (k3.trans (s7.kp p)) ((c3.same s7).eq (by omega)) upd_same (.m4 (Same.new nz2 _ _ upd_same) (.str _) (px'.same s7) (hu1.same s6) (hu2.same s6)) (fany _)
end
end WS
set_option Elab.async false
set_option linter.all false
set_option maxRecDepth 100000
set_option maxHeartbeats 4000000
namespace WS
open PySem L2
inductive Way (K : PySem.W.Frag) (N : Nat) : Addr → Sp → Prop where
  | w_number : Way K N (He.fAd K ("of_number", none)) (sp_placed K (fun t => ∃ i, t = .number i) (N + 1))
  | w_txt : Way K N (He.fAd K ("of_text", none)) (sp_placed K (fun t => ∃ i, t = .txt i) (N + 1))
  | w_name : Way K N (He.fAd K ("of_name", none)) (sp_placed K (fun t => ∃ i, t = .name i) (N + 1))
  | w_deed : Way K N (He.fAd K ("of_deed", none)) (sp_placed K (fun t => ∃ x A e, t = .deed x A e) (N + 1))
  | w_call : Way K N (He.fAd K ("of_call", none)) (sp_placed K (fun t => ∃ f e, t = .call f e) (N + 1))
  | w_lets : Way K N (He.fAd K ("of_let", none)) (sp_placed K (fun t => ∃ x e f, t = .lets x e f) (N + 1))
  | w_tell : Way K N (He.fAd K ("of_tell", none)) (sp_placed K (fun t => ∃ A e, t = .tell A e) (N + 1))
  | w_ite : Way K N (He.fAd K ("of_if", none)) (sp_placed K (fun t => ∃ c e f, t = .ite c e f) (N + 1))
  | w_size : Way K N (He.fAd K ("of_size", none)) (sp_placed K (fun t => ∃ e, t = .size e) (N + 1))
  | w_box : Way K N (He.fAd K ("of_box", none)) (sp_placed K (fun t => ∃ A e, t = .box A e) (N + 1))
  | w_read : Way K N (He.fAd K ("of_read", none)) (sp_placed K (fun t => ∃ e, t = .read e) (N + 1))
  | w_write : Way K N (He.fAd K ("of_write", none)) (sp_placed K (fun t => ∃ f e, t = .write f e) (N + 1))
  | w_same : Way K N (He.fAd K ("of_same", none)) (sp_placed K (fun t => ∃ f e, t = .same f e) (N + 1))
  | w_sum : Way K N (He.fAd K ("of_sum", none)) (sp_placed K (fun t => ∃ s e f, t = .sum s e f) (N + 1))
section
variable {P : Program} {w : World} {K : PySem.W.Frag} {mg : Str → Option Value} {base : Heap}
theorem kd_way (T : Tx w K mg) {x : Str} {f : Str} (h : (x, He.Dv.glo f) ∈ v_WAYS) : KDct K w (He.ga K "WAYS") x (.ref (He.fAd K (f, none))) := by
  obtain ⟨es, n, D⟩ := T.t_WAYS
  obtain ⟨u, e, r⟩ := T.v_WAYS h
  exact ⟨es, n, u, D.at_, D.lit, e, r⟩
theorem way_of (T : Tx w K mg) (N : Nat) (t : Term) (hw : wall? t = false) : ∃ (f : Addr) (C : Term → Prop), Way K N f (sp_placed K C (N + 1)) ∧ C t ∧ KDct K w (He.ga K "WAYS") (hdw t) (.ref f) := by
  cases t with
  | wall => cases hw
  | sum s _ _ => cases s with
    | true => exact ⟨_, _, .w_sum, ⟨_, _, _, rfl⟩, kd_way T (x := "sub") (f := "of_sum") (by simp [v_WAYS])⟩
    | false => exact ⟨_, _, .w_sum, ⟨_, _, _, rfl⟩, kd_way T (x := "add") (f := "of_sum") (by simp [v_WAYS])⟩
  | number => exact ⟨_, _, .w_number, ⟨_, rfl⟩, kd_way T (x := "number") (f := "of_number") (by simp [v_WAYS])⟩
  | txt => exact ⟨_, _, .w_txt, ⟨_, rfl⟩, kd_way T (x := "text") (f := "of_text") (by simp [v_WAYS])⟩
  | name => exact ⟨_, _, .w_name, ⟨_, rfl⟩, kd_way T (x := "name") (f := "of_name") (by simp [v_WAYS])⟩
  | deed => exact ⟨_, _, .w_deed, ⟨_, _, _, rfl⟩, kd_way T (x := "deed") (f := "of_deed") (by simp [v_WAYS])⟩
  | call => exact ⟨_, _, .w_call, ⟨_, _, rfl⟩, kd_way T (x := "call") (f := "of_call") (by simp [v_WAYS])⟩
  | lets => exact ⟨_, _, .w_lets, ⟨_, _, _, rfl⟩, kd_way T (x := "let") (f := "of_let") (by simp [v_WAYS])⟩
  | tell => exact ⟨_, _, .w_tell, ⟨_, _, rfl⟩, kd_way T (x := "tell") (f := "of_tell") (by simp [v_WAYS])⟩
  | ite => exact ⟨_, _, .w_ite, ⟨_, _, _, rfl⟩, kd_way T (x := "if") (f := "of_if") (by simp [v_WAYS])⟩
  | size => exact ⟨_, _, .w_size, ⟨_, rfl⟩, kd_way T (x := "size") (f := "of_size") (by simp [v_WAYS])⟩
  | box => exact ⟨_, _, .w_box, ⟨_, _, rfl⟩, kd_way T (x := "box") (f := "of_box") (by simp [v_WAYS])⟩
  | read => exact ⟨_, _, .w_read, ⟨_, rfl⟩, kd_way T (x := "read") (f := "of_read") (by simp [v_WAYS])⟩
  | write => exact ⟨_, _, .w_write, ⟨_, _, rfl⟩, kd_way T (x := "write") (f := "of_write") (by simp [v_WAYS])⟩
  | same => exact ⟨_, _, .w_same, ⟨_, _, rfl⟩, kd_way T (x := "same") (f := "of_same") (by simp [v_WAYS])⟩
theorem sc_Placer_placed : FnScope ["self", "term", "bound"] ["self", "term", "bound"] (defScope s_Placer_placed) := ⟨rfl, rfl, rfl, by decide +kernel, rfl, by decide +kernel, by decide +kernel⟩
theorem ok_Placer_placed (T : Tx w K mg) (k : Nat) : ∀ N, Held P w K mg base (k + 4 * N + 10) (fP K "placed") (sp_placed K (fun _ => True) N)
  | 0 => by
    have HV : ∀ f sp, (fun (_ : Addr) (_ : Sp) => False) f sp → Held P w K mg base (k + 9) f sp := fun _ _ h => h.elim
    refine FunD.held T.f_Placer_placed sc_Placer_placed (fun _ _ _ _ _ _ us hl => match us, hl with | [_, _, _], _ => rfl) (fun vs H Q E h => ?len) (fun fd cdv A outer s H vs Q E hr h => ?body)
    case len => obtain ⟨p, b, d, v, a, g0, g, n, t, rfl, _⟩ := h; rfl
    case body => obtain ⟨p, b, d, v, a, g0, g, n, t, rfl, _, hF, _⟩ := h; exact absurd hF (Nat.not_lt_zero _)
  | N + 1 => by
    have Gp := ok_Placer_placed T k N
    have Gb := ok_Placer_begun T (k + 4 * N + 10) N Gp
    have Gw := ok_Placer_wanted T (k + 4 * N) N Gb
    have Gh := ok_Placer_wanted_head T (k + 4 * N) N Gb
    have HV : ∀ f sp, Way K N f sp → Held P w K mg base (k + 4 * N + 13) f sp := by
      intro f sp h
      cases h with
      | w_number => exact (ok_of_number T (k + 4 * N + 12) N)
      | w_txt => exact (ok_of_text T (k + 4 * N + 12) N)
      | w_name => exact (ok_of_name T (k + 4 * N + 11) N)
      | w_deed => exact (ok_of_deed T (k + 4 * N + 2) N Gp).mono (by omega)
      | w_lets => exact (ok_of_let T (k + 4 * N + 2) N Gp).mono (by omega)
      | w_call => exact ok_of_call T (k + 4 * N) N Gh Gw
      | w_tell => exact ok_of_tell T (k + 4 * N) N Gw
      | w_ite => exact ok_of_if T (k + 4 * N) N (Gb.mono (by omega)) Gw
      | w_size => exact ok_of_size T (k + 4 * N) N Gw
      | w_box => exact ok_of_box T (k + 4 * N) N Gw
      | w_read => exact ok_of_read T (k + 4 * N) N Gh
      | w_write => exact ok_of_write T (k + 4 * N) N Gh Gw
      | w_same => exact ok_of_same T (k + 4 * N) N Gh
      | w_sum => exact ok_of_sum T (k + 4 * N) N Gw
    refine FunD.held T.f_Placer_placed sc_Placer_placed (fun _ _ _ _ _ _ us hl => match us, hl with | [_, _, _], _ => rfl) (fun vs H Q E h => ?len) (fun fd cdv A outer s H vs Q E hr h => ?body)
    case len => obtain ⟨p, b, d, v, a, g0, g, n, t, rfl, _⟩ := h; rfl
    case body =>
      obtain ⟨p, b, d, v, a, g0, g, n, t, rfl, i, hN, _, q⟩ := h
      refine ⟨_, (pss_one (ps_ret (pe_clV HV hr (pe_ix ix_kdict (pe_gr T.g_WAYS) (pe_ix ix_tup (pv 1) pe_int (fun _ _ => rfl)) (fun _ _ => rfl)) (pa_cons (pv 0) (pa_cons (pv 1) (pa_cons (pv 2) pa_nil)))))), ?_⟩
      obtain ⟨f, C, hW, hC, kd⟩ := way_of T N t (wr_ars t i.wr).1
      obtain ⟨c, xs, rfl, hc, hxs⟩ := td_tup t i.pd
      exact ⟨_, rfl, c, _, _, _, rfl, rfl, st hc, at0 _ _, _, _, _, rfl, rfl, kd, f, _, rfl, hW, _, rfl, _, rfl, _, rfl, p, b, d, _, a, g0, g, n, t, rfl, i, hN, hC, q⟩
theorem ok_wanted_all (T : Tx w K mg) (k N : Nat) : Held P w K mg base (k + 4 * N + 12) (fP K "wanted") (sp_wanted K N) :=
  ok_Placer_wanted T (k + 4 * N) N (ok_Placer_begun T (k + 4 * N + 10) N (ok_Placer_placed T k N))
end
end WS
set_option Elab.async false
set_option linter.all false
set_option maxRecDepth 100000
set_option maxHeartbeats 4000000
namespace L2
open PySem PySem.Spec PyProof.Rows WS
/-- a dict comprehension without a test -/
theorem dcS {J : It} {U : Hp → Prop} {n : Nat} {I : Nat → V → Hp → Prop} (S : Src J U n I) {g : TG} {tk tv : TE} {vs : List Nat} {σ : St} {H1 : Hp} {D : Addr} {Qd : Hp → Prop} (Pv : Nat → List (Key × V) → Hp → Prop) (hn : n ≤ sizeLine)
    (h0 : Pv 0 [] (upd H1 D (.dK []))) (hU : ∀ i acc H, Pv i acc H → U H) (hl : ∀ i acc H, Pv i acc H → acc.length ≤ i)
    (hs : ∀ i x kvs H H' (KK : V → V → Hp → Prop), i < n → Pv i kvs H → H D = some (.dK kvs) → Same H H' → I i x H' →
      (∀ k z H5, H5 D = some (.dK kvs) → Pv (i + 1) (putK kvs k z) (upd H5 D (.dK (putK kvs k z))) → KK (kV k) z H5) →
      g x (wipe σ vs) H' fun σ2 H2 => wipe σ2 vs = wipe σ vs ∧ tk σ2 H2 fun y H4 => tv σ2 H4 fun z H5 => KK y z H5)
    (hd : ∀ kvs H, Pv n kvs H → H D = some (.dK kvs) → Qd H) :
    ∃ W : Nat → Nat → Hp → Prop, (∃ m, W 0 m (upd H1 D (.dK []))) ∧ ∀ i m H, W i m H →
      (J.stop i H ∧ Qd H) ∨ (J.go i H ∧ ∃ Nx : Hp → Prop, (∀ H', Nx H' → ∃ m', m' < m ∧ W (i + 1) m' H') ∧ ∀ x H', J.yld i H x H' → g x (wipe σ vs) H' fun σ2 H2 => wipe σ2 vs = wipe σ vs ∧ tYes σ2 H2 fun b H3 =>
        if b = true then tk σ2 H3 fun y H4 => tv σ2 H4 fun z H5 => ∃ kvs k, y = kV k ∧ H5 D = some (.dK kvs) ∧ kvs.length < sizeLine ∧ Nx (upd H5 D (.dK (putK kvs k z))) else Nx H3) := by
  refine ⟨fun i m H => m = n - i ∧ i ≤ n ∧ ∃ kvs, H D = some (.dK kvs) ∧ Pv i kvs H, ⟨n, rfl, Nat.zero_le _, [], upd_same, h0⟩, ?_⟩
  rintro i m H ⟨rfl, hi, kvs, hD, p⟩
  have u := hU i kvs H p
  have l := hl i kvs H p
  by_cases hlt : i < n
  · refine .inr ⟨S.go i H u hlt, fun H' => ∃ kvs, H' D = some (.dK kvs) ∧ Pv (i + 1) kvs H', fun H' p' => ⟨n - (i + 1), by omega, rfl, hlt, p'⟩, fun x H' y => ?_⟩
    obtain ⟨sm, ix⟩ := S.yld i x H H' u hlt y
    exact hs i x kvs H H' (fun y z H5 => ∃ kvs k, y = kV k ∧ H5 D = some (.dK kvs) ∧ kvs.length < sizeLine ∧ ∃ kvs', (upd H5 D (.dK (putK kvs k z))) D = some (.dK kvs') ∧ Pv (i + 1) kvs' (upd H5 D (.dK (putK kvs k z)))) hlt p hD sm ix fun k z H5 e q => ⟨kvs, k, rfl, e, by omega, _, upd_same, q⟩
  · have e : i = n := by omega
    subst e
    exact .inl ⟨S.stop H u, hd kvs H p hD⟩
theorem valV_out {κ : Type} [DecidableEq κ] {kvs : List (κ × V)} {k : κ} (h : k ∉ kvs.map (·.1)) : valV kvs k = none := by
  induction kvs with
  | nil => rfl
  | cons p r ih =>
    rw [List.map_cons, List.mem_cons, not_or] at h
    rw [valV_neg (Ne.symm h.1), ih h.2]
theorem valV_at {κ : Type} [DecidableEq κ] {kvs : List (κ × V)} {k : κ} {i : Nat} {v : V} (nd : (kvs.map (·.1)).Nodup) (h : kvs[i]? = some (k, v)) : valV kvs k = some v := by
  induction kvs generalizing i with
  | nil => simp at h
  | cons p r ih =>
    rw [List.map_cons, List.nodup_cons] at nd
    cases i with
    | zero =>
      cases h
      exact valV_pos rfl
    | succ i =>
      have h : r[i]? = some (k, v) := h
      have hm : k ∈ r.map (·.1) := List.mem_map.mpr ⟨_, List.mem_of_getElem? h, rfl⟩
      rw [valV_neg (fun e => nd.1 (by rw [e]; exact hm)), ih nd.2 h]
/-- a dict, its keys and what lies at them in order -/
def DcAt (H : Hp) (d : Addr) (ks : List Str) (ds : List PyData) : Prop := ∃ kvs : List (Key × V), H d = some (.dK kvs) ∧ kvs.map (·.1) = ks.map Sum.inr ∧ PdAll H (kvs.map (·.2)) ds
theorem DcAt.keep {H H' : Hp} {d : Addr} {ks : List Str} {ds : List PyData} (h : DcAt H d ks ds) (hd : ∀ kvs, H d = some (.dK kvs) → H' d = some (.dK kvs)) (t : TK H H') : DcAt H' d ks ds := by
  obtain ⟨kvs, e, a, b⟩ := h
  exact ⟨kvs, hd _ e, a, b.keep t⟩
theorem DcAt.same {H H' : Hp} {d : Addr} {ks : List Str} {ds : List PyData} (h : DcAt H d ks ds) (s : Same H H') : DcAt H' d ks ds := h.keep (fun _ e => s _ _ e) s.tk
end L2
set_option Elab.async false
set_option linter.all false
set_option maxRecDepth 100000
set_option maxHeartbeats 4000000
namespace WS
open PySem L2
def hctx (hs : List Hall) : Ctx := hs.map fun h => (h.x, h.F)
/-- what the program keeps of a hall -/
def told (hs : List Hall) (h : Hall) : Term := fence (mk h.x 1) (fo (hctx hs) h.e) h.F (pl h.x (hctx hs) 1 h.e)
structure HsOk (hs : List Hall) : Prop where
  all : ∀ h ∈ hs, HallOk h
  len : hs.length ≤ 12
  nd : (hs.map (·.x)).Nodup
  ok : ∀ h ∈ hs, Ok (hctx hs) h.e ∧ near (fo (hctx hs) h.e) h.F = true ∧ h.e.sz ≤ 10000
theorem cnt_sz : ∀ t : Term, cnt t ≤ 3 * t.sz
  | .number _ => Nat.zero_le _
  | .txt _ => Nat.zero_le _
  | .name _ => Nat.zero_le _
  | .deed _ _ e => by have := cnt_sz e; simp only [cnt, Term.sz]; omega
  | .call f e => by have := cnt_sz e; have := cnt_sz f; simp only [cnt, Term.sz]; omega
  | .lets _ e f => by have := cnt_sz e; have := cnt_sz f; simp only [cnt, Term.sz]; omega
  | .tell _ e => by have := cnt_sz e; simp only [cnt, Term.sz]; omega
  | .ite c e f => by have := cnt_sz c; have := cnt_sz e; have := cnt_sz f; simp only [cnt, Term.sz]; omega
  | .sum _ e f => by have := cnt_sz e; have := cnt_sz f; simp only [cnt, Term.sz]; omega
  | .size e => by have := cnt_sz e; simp only [cnt, Term.sz]; omega
  | .box _ e => by have := cnt_sz e; simp only [cnt, Term.sz]; omega
  | .read e => by have := cnt_sz e; simp only [cnt, Term.sz]; omega
  | .write e f => by have := cnt_sz e; have := cnt_sz f; simp only [cnt, Term.sz]; omega
  | .same e f => by have := cnt_sz e; have := cnt_sz f; simp only [cnt, Term.sz]; omega
  | .wall _ _ _ e => by have := cnt_sz e; simp only [cnt, Term.sz]; omega
theorem look_mem : ∀ {g : Ctx} {x : Str} {F : Form}, look g x = some F → (x, F) ∈ g
  | (y, G) :: r, x, F, h => by
    have h : (match look r x with | some G => some G | none => if y = x then some G else none) = some F := h
    cases e : look r x with
    | some F' =>
      rw [e] at h
      cases h
      exact List.mem_cons_of_mem _ (look_mem e)
    | none =>
      rw [e] at h
      by_cases q : y = x
      · rw [if_pos q] at h
        cases h
        rw [q]
        exact List.mem_cons_self
      · rw [if_neg q] at h
        cases h
theorem look_none : ∀ {g : Ctx} {x : Str}, look g x = none → x ∉ g.map (·.1)
  | [], _, _ => by simp
  | (y, G) :: r, x, h => by
    have h : (match look r x with | some G => some G | none => if y = x then some G else none) = none := h
    cases e : look r x with
    | some F' => rw [e] at h; cases h
    | none =>
      rw [e] at h
      by_cases q : y = x
      · rw [if_pos q] at h
        cases h
      · rw [List.map_cons, List.mem_cons, not_or]
        exact ⟨Ne.symm q, look_none e⟩
theorem low_hctx {hs : List Hall} (h : ∀ x ∈ hs, HallOk x) : Low (hctx hs) := fun x F e => by
  obtain ⟨y, hy, q⟩ := List.mem_map.mp (look_mem e)
  cases q
  exact (h y hy).hi
theorem env_of_dc {H : Hp} {d : Addr} {hs : List Hall} (nd : (hs.map (·.x)).Nodup) (h : DcAt H d (hs.map (·.x)) (hs.map fun h => h.F.d)) : EnvAt H d (hctx hs) := by
  obtain ⟨kvs, e, hk, hv⟩ := h
  have ndk : (kvs.map (·.1)).Nodup := by
    rw [hk]
    exact List.pairwise_map.mpr (List.Pairwise.imp (fun h e => h (Sum.inr.inj e)) nd)
  refine ⟨kvs, e, fun x => ?_⟩
  cases el : look (hctx hs) x with
  | none =>
    refine valV_out fun hm => look_none el ?_
    rw [hk] at hm
    obtain ⟨y, hy, q⟩ := List.mem_map.mp hm
    cases q
    unfold hctx
    rw [List.map_map]
    exact hy
  | some F =>
    obtain ⟨h, hh, q⟩ := List.mem_map.mp (look_mem el)
    obtain ⟨i, ei⟩ := List.mem_iff_getElem?.mp hh
    cases q
    have e1 : (kvs.map (·.1))[i]? = some (Sum.inr h.x) := by
      rw [hk, List.getElem?_map, List.getElem?_map, ei]
      rfl
    rw [List.getElem?_map, Option.map_eq_some_iff] at e1
    obtain ⟨⟨k, v⟩, e2, e3⟩ := e1
    cases e3
    have e4 : (kvs.map (·.2))[i]? = some v := by
      rw [List.getElem?_map, e2]
      rfl
    obtain ⟨h', eh', ph⟩ := PdAll.atG (f := fun h : Hall => h.F.d) hv e4
    rw [ei] at eh'
    cases eh'
    exact ⟨v, valV_at ndk e2, ph⟩
abbrev PR (K : PySem.W.Frag) : Addr := He.ga K "Program"
abbrev RF (l df dt : V) : List (Str × V) := [("own_halls", l), ("forms", df), ("terms", dt)]
theorem putR1 (a : V) : putF "own_halls" a [] = ([("own_halls", a)] : List (Str × V)) := rfl
theorem putR2 (a d : V) : putF "forms" d [("own_halls", a)] = ([("own_halls", a), ("forms", d)] : List (Str × V)) := by
  unfold putF
  rw [if_neg (by decide)]
  rfl
theorem putR3 (a d n : V) : putF "terms" n [("own_halls", a), ("forms", d)] = RF a d n := by
  unfold putF
  rw [if_neg (by decide)]
  unfold putF
  rw [if_neg (by decide)]
  rfl
theorem lr2 (a d n : V) : (RF a d n).lookup ("forms" : Str) = some d := rfl
theorem lr3 (a d n : V) : (RF a d n).lookup ("terms" : Str) = some n := rfl
/-- a program of halls as it stands -/
def PgAt (K : PySem.W.Frag) (H : Hp) (q : Addr) (hs : List Hall) : Prop := ∃ dx l df dt, H q = some (.ins (PR K) dx (RF (.ref l) (.ref df) (.ref dt))) ∧ DcAt H df (hs.map (·.x)) (hs.map fun h => h.F.d) ∧ DcAt H dt (hs.map (·.x)) (hs.map fun h => (told hs h).d)
theorem PgAt.same {K : PySem.W.Frag} {H H' : Hp} {q : Addr} {hs : List Hall} (h : PgAt K H q hs) (s : Same H H') : PgAt K H' q hs := by
  obtain ⟨dx, l, df, dt, e, a, b⟩ := h
  exact ⟨dx, l, df, dt, s _ _ e, a.same s, b.same s⟩
section
variable {P : Program} {w : World} {K : PySem.W.Frag} {mg : Str → Option Value} {base : Heap}
abbrev fR (K : PySem.W.Frag) (m : Str) : Addr := He.fAd K ("Program", some m)
def sp_Program_init (K : PySem.W.Frag) : Sp := fun vs H Q _ => ∃ (q l dx : Addr) (vs' : List V) (hs : List Hall), vs = [.ref q, .ref l] ∧ H q = some (.ins (PR K) dx []) ∧ H l = some (.lst vs') ∧ PdAll H vs' (hs.map Hall.d) ∧ HsOk hs ∧
  ∀ H', Kp q H H' → PgAt K H' q hs → Q .non H'
theorem DcIn {hs : List Hall} {i : Nat} {h : Hall} (nd : (hs.map (·.x)).Nodup) (e : hs[i]? = some h) : h.x ∉ (hs.take i).map (·.x) := by
  intro hh
  have e1 : hs.map (·.x) = (hs.take i).map (·.x) ++ (hs.drop i).map (·.x) := by rw [← List.map_append, List.take_append_drop]
  rw [e1] at nd
  have hd : h.x ∈ (hs.drop i).map (·.x) := List.mem_map_of_mem (f := Hall.x) (by
    rw [List.mem_iff_getElem?]
    exact ⟨0, by rw [List.getElem?_drop, Nat.add_zero]; exact e⟩)
  exact (List.nodup_append.mp nd).2.2 _ hh _ hd rfl
/-- the dict so far -/
def DcSo (H1 : Hp) (hs : List Hall) (f : Hall → PyData) (i : Nat) (kvs : List (Key × V)) (H : Hp) : Prop := Same H1 H ∧ kvs.map (·.1) = ((hs.take i).map (·.x)).map Sum.inr ∧ PdAll H (kvs.map (·.2)) ((hs.take i).map f)
theorem DcSo.len {H1 : Hp} {hs : List Hall} {f : Hall → PyData} {i : Nat} {kvs : List (Key × V)} {H : Hp} (h : DcSo H1 hs f i kvs H) : kvs.length ≤ i := by
  have := congrArg List.length h.2.1
  rw [List.length_map, List.length_map, List.length_map, List.length_take] at this
  omega
theorem DcSo.step {H1 : Hp} {hs : List Hall} {f : Hall → PyData} {i : Nat} {kvs : List (Key × V)} {H H5 : Hp} {D : Addr} {h : Hall} {z : V} (s : DcSo H1 hs f i kvs H) (nd : (hs.map (·.x)).Nodup) (e : hs[i]? = some h) (hD : H1 D = none) (s5 : Same H H5) (e5 : H5 D = some (.dK kvs))
    (pz : Pd H5 z (f h)) : DcSo H1 hs f (i + 1) (putK kvs (.inr h.x) z) (upd H5 D (.dK (putK kvs (.inr h.x) z))) := by
  obtain ⟨s1, hk, hp⟩ := s
  have hn : valV kvs (.inr h.x) = none := valV_out (by
    rw [hk]
    intro hm
    obtain ⟨y, hy, q⟩ := List.mem_map.mp hm
    cases q
    exact DcIn nd e hy)
  rw [putK_new z hn]
  have tk : TK H5 (upd H5 D (.dK (kvs ++ [(.inr h.x, z)]))) := (Kp.mut D H5 _).tk fun xs q => by rw [e5] at q; cases q
  refine ⟨fun b u eb => ?_, ?_, ?_⟩
  · rw [upd_ne (ne_of_none eb hD)]
    exact s5 _ _ (s1 _ _ eb)
  · rw [List.map_append, hk, List.take_succ, e, List.map_append, List.map_append]
    rfl
  · rw [List.map_append, List.take_succ, e, List.map_append]
    exact ((hp.same s5).keep tk).app (.one (pz.keep tk))
theorem sc_Program_init : FnScope ["self", "halls", "name", "form", "term"] ["self", "halls"] (defScope s_Program_init) := ⟨rfl, rfl, rfl, by decide +kernel, rfl, by decide +kernel, by decide +kernel⟩
theorem ok_Program_init (T : Tx w K mg) (k : Nat) : Held P w K mg base (k + 98) (fR K "__init__") (sp_Program_init K) := by
  have G_want_halls := (ok_want_halls (P := P) (base := base) T (k + 45))
  have G_Placer_init := (ok_Placer_init (P := P) (base := base) T (k + 95))
  have G_Placer_wanted := (ok_wanted_all (P := P) (base := base) T (k + 1) 21)
  refine FunD.held T.f_Program_init sc_Program_init (fun _ _ _ _ _ _ us hl => match us, hl with | [_, _], _ => rfl) (fun vs H Q E h => ?len) (fun fd cdv A outer s H vs Q E hr h => ?body)
  case len => obtain ⟨q, l, dx, vs', hs, rfl, _⟩ := h; rfl
  case body =>
    obtain ⟨q, l, dx, vs', hs, rfl, hq, hl, hp, ok, qq⟩ := h
    have hrM := hr
    refine ⟨_, (pss_cons (ps_expr (pe_cl G_want_halls hr T.g_want_halls (pa_cons (pv 1) pa_nil)))
      (pss_cons (ps_fld (pv 0) (pe_callTy call_list_of (by rfl) T.b_list (by decide +kernel) (pa_cons (pv 1) pa_nil)) rfl)
      (pss_cons (ps_fld (pv 0) (pe_dc (own := [("name", 2), ("form", 3), ("term", 4)]) rfl sc_Program_init.nd (pi_list (pv 1)) (blkOk_by (own := [("name", 2), ("form", 3), ("term", 4)]) (N := ["self", "halls", "name", "form", "term"]) (sc := defScope s_Program_init) (by decide +kernel)) (fun _ _ _ _ _ => (pg_tupK (K := K) (n := 3) rfl (pgs_cons (pg_name (i := 2) sc_Program_init.nd rfl (Or.inl rfl)) (pgs_cons (pg_name (i := 3) sc_Program_init.nd rfl (Or.inl rfl)) (pgs_cons (pg_name (i := 4) sc_Program_init.nd rfl (Or.inl rfl)) pgs_nil))))) (fun _ _ _ _ _ => pts_nil) (fun _ _ _ _ _ => (pv 2)) (fun _ _ _ _ _ => (pv 3))) rfl)
      (pss_one (ps_fld (pv 0) (pe_dc (own := [("name", 2), ("form", 3), ("term", 4)]) rfl sc_Program_init.nd (pi_list (pv 1)) (blkOk_by (own := [("name", 2), ("form", 3), ("term", 4)]) (N := ["self", "halls", "name", "form", "term"]) (sc := defScope s_Program_init) (by decide +kernel)) (fun _ _ _ _ _ => (pg_tupK (K := K) (n := 3) rfl (pgs_cons (pg_name (i := 2) sc_Program_init.nd rfl (Or.inl rfl)) (pgs_cons (pg_name (i := 3) sc_Program_init.nd rfl (Or.inl rfl)) (pgs_cons (pg_name (i := 4) sc_Program_init.nd rfl (Or.inl rfl)) pgs_nil))))) (fun _ _ _ _ _ => pts_nil) (fun _ _ _ _ _ => (pv 2)) (fun _ _ _ _ _ => (pe_mt G_Placer_wanted hr T.c_Placer T.m_Placer_wanted (pe_mkI G_Placer_init hrM T.k_Placer T.g_Placer (pa_cons (pv 2) (pa_cons (pe_fldK (K := K) (pv 0) rfl) pa_nil))) (pa_cons (pv 4) (pa_cons (pe_lst pa_nil) (pa_cons (pv 3) pa_nil)))))) rfl))))), ?_⟩
    have hvl : vs'.length = hs.length := by rw [hp.length, List.length_map]
    have hl12 := ok.len
    refine ⟨_, rfl, l, vs', hs, rfl, hl, hp, ok.all, ok.len, ok.nd, fun H1 s1 => ?_⟩
    refine ⟨_, rfl, l, vs', rfl, .inl (sl (s1 _ _ hl)), fun l2 nl2 => ⟨_, rfl, q, _, dx, _, rfl, Same.new nl2 _ _ (s1 _ _ hq), T.c_Program, T.n_Program_own_halls, by simp, ?_⟩⟩
    rw [putR1]
    have hp1 := hp.same s1
    have hl1 := s1 _ _ hl
    have k2 : Kp q H (upd (upd H1 l2 (.lst vs')) q (.ins (PR K) dx [("own_halls", .ref l2)])) := ((s1.trans (Same.new nl2)).kp q).trans (.mut _ _ _)
    have hlq : l ≠ q := ne_of hl hq (fun e => by cases e)
    have tk2 : TK H (upd (upd H1 l2 (.lst vs')) q (.ins (PR K) dx [("own_halls", .ref l2)])) := k2.tk fun xs e => by rw [hq] at e; cases e
    have hl2 := k2 _ _ hlq hl
    have hp2 := hp.keep tk2
    have hq2 : (upd (upd H1 l2 (.lst vs')) q (.ins (PR K) dx [("own_halls", .ref l2)])) q = some (.ins (PR K) dx [("own_halls", .ref l2)]) := upd_same
    generalize (upd (upd H1 l2 (.lst vs')) q (.ins (PR K) dx [("own_halls", .ref l2)])) = H2 at k2 tk2 hl2 hp2 hq2
    refine ⟨_, rfl, l, rfl, ⟨_, sl hl2⟩, fun D hD => dcS (σ := [some (.ref q), some (.ref l), none, none, none]) (src_list (xs := vs')) (DcSo H2 hs fun h => h.F.d) (small_sz (by omega)) ⟨.new hD, rfl, .nil⟩ (fun i acc H' pv => sl (pv.1 _ _ hl2)) (fun i acc H' pv => pv.len) (fun i y kvs H' H3 KK hi pv hDl sm hI kk => ?_) (fun kvs H' pv eD => ?_)⟩
    · obtain ⟨h, eh, ph⟩ := PdAll.atG hp2 hI
      obtain ⟨a, f, e, rfl, ha, hf, he⟩ := ihall (ph.same (pv.1.trans sm))
      refine ⟨a, _, rfl, st ha, rfl, _, _, rfl, _, _, rfl, _, _, rfl, rfl, rfl, _, rfl, _, rfl, ?_⟩
      exact kk (.inr h.x) f H3 (sm _ _ hDl) (pv.step ok.nd eh hD sm (sm _ _ hDl) hf)
    · obtain ⟨s3, ek, ev⟩ := pv
      rw [show vs'.length = hs.length from hvl, List.take_length] at ek ev
      have hq3 := s3 _ _ hq2
      refine ⟨_, rfl, q, _, dx, _, rfl, hq3, T.c_Program, T.n_Program_forms, by simp, ?_⟩
      rw [putR2]
      have k3 : Kp q H2 (upd H' q (.ins (PR K) dx [("own_halls", .ref l2), ("forms", .ref D)])) := (s3.kp q).trans (.mut _ _ _)
      have tk3 : TK H2 (upd H' q (.ins (PR K) dx [("own_halls", .ref l2), ("forms", .ref D)])) := k3.tk fun xs e => by rw [hq2] at e; cases e
      have hDq : D ≠ q := (ne_of_none hq2 hD).symm
      have dc3 : DcAt (upd H' q (.ins (PR K) dx [("own_halls", .ref l2), ("forms", .ref D)])) D (hs.map (·.x)) (hs.map fun h => h.F.d) :=
        DcAt.keep (H := H') ⟨kvs, eD, ek, ev⟩ (fun kvs e => by rw [upd_ne hDq]; exact e) ((Kp.mut q H' _).tk fun xs e => by rw [hq3] at e; cases e)
      have hl3 := k3 _ _ hlq hl2
      have hp3 := hp2.keep tk3
      have hq4 : (upd H' q (.ins (PR K) dx [("own_halls", .ref l2), ("forms", .ref D)])) q = some (.ins (PR K) dx [("own_halls", .ref l2), ("forms", .ref D)]) := upd_same
      have k4 := k2.trans k3
      generalize (upd H' q (.ins (PR K) dx [("own_halls", .ref l2), ("forms", .ref D)])) = H4 at k3 tk3 dc3 hl3 hp3 hq4 k4
      refine ⟨_, rfl, l, rfl, ⟨_, sl hl3⟩, fun D2 hD2 => dcS (σ := [some (.ref q), some (.ref l), none, none, none]) (src_list (xs := vs')) (DcSo H4 hs fun h => (told hs h).d) (small_sz (by omega)) ⟨.new hD2, rfl, .nil⟩ (fun i acc H' pv => sl (pv.1 _ _ hl3)) (fun i acc H' pv => pv.len) (fun i y kvs H' H5 KK hi pv hDl sm hI kk => ?_) (fun kvs H' pv eD => ?_)⟩
      · obtain ⟨h, eh, ph⟩ := PdAll.atG hp3 hI
        have s5 := pv.1.trans sm
        obtain ⟨a, f, e, rfl, ha, hf, he⟩ := ihall (ph.same s5)
        have hm := List.mem_of_getElem? eh
        have ha1 := ok.all h hm
        obtain ⟨ok1, ok2, ok3⟩ := ok.ok h hm
        refine ⟨a, _, rfl, st ha, rfl, _, _, rfl, _, _, rfl, _, _, rfl, rfl, rfl, _, rfl, ?_⟩
        refine ⟨_, rfl, _, rfl, q, _, dx, _, _, rfl, s5 _ _ hq4, T.c_Program, T.n_Program_forms, rfl, fun p dxp np ndx hne => ?_⟩
        refine ⟨p, dxp, D, h.x, rfl, upd_same, fun H6 k6 c6 => ⟨rfl, ?_⟩⟩
        have s6 : Same H5 H6 := fun b u eb => k6 b u (ne_of_none eb np) (by rw [upd_ne (ne_of_none eb np), upd_ne (ne_of_none eb ndx)]; exact eb)
        obtain ⟨dx6, hp6⟩ := c6
        refine ⟨p, dx6, _, rfl, hp6, by rfl, _, rfl, small_sz (by simp), fun b nb => ⟨_, rfl, ?_⟩⟩
        have s7 := Same.new nb (o := .lst [])
        have s57 := s6.trans s7
        have d7 := (dc3.same (s5.trans s57))
        have cz := cnt_sz h.e
        have dp := ha1.dp
        have hnl := ha1.nm.le
        have i7 : PlIn K (upd H6 b (.lst [])) p b D e h.x (hctx hs) [] 0 h.e :=
          ⟨(show Pc K H6 p h.x D 0 from ⟨dx6, hp6⟩).same s7, ⟨env_of_dc ok.nd d7, ⟨[], upd_same, .nil⟩, by rw [List.append_nil]; exact low_hctx ok.all⟩, he.same s57, by rw [List.append_nil]; exact ok1, ha1.wr, hnl, by omega, by simp; omega⟩
        refine ⟨p, b, D, e, h.x, hctx hs, [], 0, h.e, f, h.F, rfl, i7, by omega, by omega, hf.same s57, by have := ha1.hi; omega, by rw [List.append_nil]; exact ok2, fun H8 x k8 c8 px => ?_⟩
        have s8 : Same H5 H8 := fun b' u eb => k8 _ _ (ne_of_none eb np) (s57 _ _ eb)
        rw [List.append_nil] at px
        exact kk (.inr h.x) x H8 (s8 _ _ (sm _ _ hDl)) (pv.step ok.nd eh hD2 (sm.trans s8) (s8 _ _ (sm _ _ hDl)) px)
      · obtain ⟨s6, ek2, ev2⟩ := pv
        rw [show vs'.length = hs.length from hvl, List.take_length] at ek2 ev2
        have hq6 := s6 _ _ hq4
        refine ⟨_, rfl, q, _, dx, _, rfl, hq6, T.c_Program, T.n_Program_terms, by simp, ?_⟩
        rw [putR3]
        have hD2q : D2 ≠ q := (ne_of_none hq4 hD2).symm
        have tk6 := (Kp.mut q H' (.ins (PR K) dx (RF (.ref l2) (.ref D) (.ref D2)))).tk fun xs e => by rw [hq6] at e; cases e
        refine qq _ ((k4.trans (s6.kp q)).trans (.mut _ _ _)) ⟨dx, l2, D, D2, upd_same, ?_, ?_⟩
        · exact (dc3.same s6).keep (fun kvs e => by rw [upd_ne hDq]; exact e) tk6
        · exact DcAt.keep (H := H') ⟨kvs, eD, ek2, ev2⟩ (fun kvs e => by rw [upd_ne hD2q]; exact e) tk6
end
end WS
set_option Elab.async false
set_option linter.all false
set_option maxRecDepth 100000
set_option maxHeartbeats 4000000
namespace WS
open PySem L2
theorem fence_depth (m : Str) (A B : Form) (t : Term) : (fence m A B t).depth ≤ 1 + t.depth := by
  unfold fence
  split
  · omega
  · exact Nat.le_refl _
theorem fence_sz (m : Str) (A B : Form) (t : Term) : (fence m A B t).sz ≤ 1 + t.sz := by
  unfold fence
  split
  · omega
  · exact Nat.le_refl _
theorem pl_depth (a : Str) : ∀ (t : Term) (g : Ctx) (n : Nat), Ok g t → (pl a g n t).depth ≤ 2 * t.depth
  | .number _, _, _, _ => by simp [pl, Term.depth]
  | .txt _, _, _, _ => by simp [pl, Term.depth]
  | .name _, _, _, _ => by simp [pl, Term.depth]
  | .deed x A e, g, n, h => by
    have := pl_depth a e (g ++ [(x, A)]) n h.1
    simp only [pl, Term.depth]; omega
  | .call f e, g, n, h => by
    have h1 := pl_depth a f g (n + 1) h.1
    have h2 := pl_depth a e g (n + 1 + cnt f + 1) h.2.2.1
    have h3 := fence_depth (mk a (n + 1)) (fo g f) (.deed (dom (fo g f)) (cod (fo g f))) (pl a g (n + 1) f)
    have h4 := fence_depth (mk a (n + 1 + cnt f + 1)) (fo g e) (dom (fo g f)) (pl a g (n + 1 + cnt f + 1) e)
    simp only [pl, Term.depth]; omega
  | .lets x e f, g, n, h => by
    have h1 := pl_depth a e g n h.1
    have h2 := pl_depth a f (g ++ [(x, fo g e)]) (n + cnt e) h.2
    simp only [pl, Term.depth]; omega
  | .tell A e, g, n, h => by
    have h1 := pl_depth a e g (n + 1) h.1
    have h3 := fence_depth (mk a (n + 1)) (fo g e) A (pl a g (n + 1) e)
    simp only [pl, Term.depth]; omega
  | .ite c e f, g, n, h => by
    have h1 := pl_depth a c g (n + 1) h.1
    have h2 := pl_depth a e g (n + 1 + cnt c + 1) h.2.2.1
    have h5 := pl_depth a f g (n + 1 + cnt c + 1 + cnt e + 1) h.2.2.2.2.1
    have h3 := fence_depth (mk a (n + 1)) (fo g c) .num (pl a g (n + 1) c)
    simp only [pl, Term.depth]; omega
  | .sum s e f, g, n, h => by
    have h1 := pl_depth a e g (n + 1) h.1
    have h2 := pl_depth a f g (n + 1 + cnt e + 1) h.2.2.1
    have h3 := fence_depth (mk a (n + 1)) (fo g e) .num (pl a g (n + 1) e)
    have h4 := fence_depth (mk a (n + 1 + cnt e + 1)) (fo g f) .num (pl a g (n + 1 + cnt e + 1) f)
    simp only [pl, Term.depth]; omega
  | .size e, g, n, h => by
    have h1 := pl_depth a e g (n + 1) h.1
    have h3 := fence_depth (mk a (n + 1)) (fo g e) .text (pl a g (n + 1) e)
    simp only [pl, Term.depth]; omega
  | .box A e, g, n, h => by
    have h1 := pl_depth a e g (n + 1) h.1
    have h3 := fence_depth (mk a (n + 1)) (fo g e) A (pl a g (n + 1) e)
    simp only [pl, Term.depth]; omega
  | .read e, g, n, h => by
    have h1 := pl_depth a e g (n + 1) h.1
    have h3 := fence_depth (mk a (n + 1)) (fo g e) (.box (inn (fo g e))) (pl a g (n + 1) e)
    simp only [pl, Term.depth]; omega
  | .write e f, g, n, h => by
    have h1 := pl_depth a e g (n + 1) h.1
    have h2 := pl_depth a f g (n + 1 + cnt e + 1) h.2.2.1
    have h3 := fence_depth (mk a (n + 1)) (fo g e) (.box (inn (fo g e))) (pl a g (n + 1) e)
    have h4 := fence_depth (mk a (n + 1 + cnt e + 1)) (fo g f) (inn (fo g e)) (pl a g (n + 1 + cnt e + 1) f)
    simp only [pl, Term.depth]; omega
  | .same e f, g, n, h => by
    have h1 := pl_depth a e g (n + 1) h.1
    have h2 := pl_depth a f g (n + 1 + cnt e + 1) h.2.2.1
    have h3 := fence_depth (mk a (n + 1)) (fo g e) (.box (inn (fo g e))) (pl a g (n + 1) e)
    have h4 := fence_depth (mk a (n + 1 + cnt e + 1)) (fo g f) (.box (inn (fo g f))) (pl a g (n + 1 + cnt e + 1) f)
    simp only [pl, Term.depth]; omega
  | .wall _ _ _ _, _, _, h => h.elim
theorem pl_sz (a : Str) : ∀ (t : Term) (g : Ctx) (n : Nat), Ok g t → (pl a g n t).sz ≤ t.sz + cnt t
  | .number _, _, _, _ => by simp [pl, Term.sz]
  | .txt _, _, _, _ => by simp [pl, Term.sz]
  | .name _, _, _, _ => by simp [pl, Term.sz]
  | .deed x A e, g, n, h => by
    have := pl_sz a e (g ++ [(x, A)]) n h.1
    simp only [pl, Term.sz, cnt]; omega
  | .call f e, g, n, h => by
    have h1 := pl_sz a f g (n + 1) h.1
    have h2 := pl_sz a e g (n + 1 + cnt f + 1) h.2.2.1
    have h3 := fence_sz (mk a (n + 1)) (fo g f) (.deed (dom (fo g f)) (cod (fo g f))) (pl a g (n + 1) f)
    have h4 := fence_sz (mk a (n + 1 + cnt f + 1)) (fo g e) (dom (fo g f)) (pl a g (n + 1 + cnt f + 1) e)
    simp only [pl, Term.sz, cnt]; omega
  | .lets x e f, g, n, h => by
    have h1 := pl_sz a e g n h.1
    have h2 := pl_sz a f (g ++ [(x, fo g e)]) (n + cnt e) h.2
    simp only [pl, Term.sz, cnt]; omega
  | .tell A e, g, n, h => by
    have h1 := pl_sz a e g (n + 1) h.1
    have h3 := fence_sz (mk a (n + 1)) (fo g e) A (pl a g (n + 1) e)
    simp only [pl, Term.sz, cnt]; omega
  | .ite c e f, g, n, h => by
    have h1 := pl_sz a c g (n + 1) h.1
    have h2 := pl_sz a e g (n + 1 + cnt c + 1) h.2.2.1
    have h5 := pl_sz a f g (n + 1 + cnt c + 1 + cnt e + 1) h.2.2.2.2.1
    have h3 := fence_sz (mk a (n + 1)) (fo g c) .num (pl a g (n + 1) c)
    simp only [pl, Term.sz, cnt]; omega
  | .sum s e f, g, n, h => by
    have h1 := pl_sz a e g (n + 1) h.1
    have h2 := pl_sz a f g (n + 1 + cnt e + 1) h.2.2.1
    have h3 := fence_sz (mk a (n + 1)) (fo g e) .num (pl a g (n + 1) e)
    have h4 := fence_sz (mk a (n + 1 + cnt e + 1)) (fo g f) .num (pl a g (n + 1 + cnt e + 1) f)
    simp only [pl, Term.sz, cnt]; omega
  | .size e, g, n, h => by
    have h1 := pl_sz a e g (n + 1) h.1
    have h3 := fence_sz (mk a (n + 1)) (fo g e) .text (pl a g (n + 1) e)
    simp only [pl, Term.sz, cnt]; omega
  | .box A e, g, n, h => by
    have h1 := pl_sz a e g (n + 1) h.1
    have h3 := fence_sz (mk a (n + 1)) (fo g e) A (pl a g (n + 1) e)
    simp only [pl, Term.sz, cnt]; omega
  | .read e, g, n, h => by
    have h1 := pl_sz a e g (n + 1) h.1
    have h3 := fence_sz (mk a (n + 1)) (fo g e) (.box (inn (fo g e))) (pl a g (n + 1) e)
    simp only [pl, Term.sz, cnt]; omega
  | .write e f, g, n, h => by
    have h1 := pl_sz a e g (n + 1) h.1
    have h2 := pl_sz a f g (n + 1 + cnt e + 1) h.2.2.1
    have h3 := fence_sz (mk a (n + 1)) (fo g e) (.box (inn (fo g e))) (pl a g (n + 1) e)
    have h4 := fence_sz (mk a (n + 1 + cnt e + 1)) (fo g f) (inn (fo g e)) (pl a g (n + 1 + cnt e + 1) f)
    simp only [pl, Term.sz, cnt]; omega
  | .same e f, g, n, h => by
    have h1 := pl_sz a e g (n + 1) h.1
    have h2 := pl_sz a f g (n + 1 + cnt e + 1) h.2.2.1
    have h3 := fence_sz (mk a (n + 1)) (fo g e) (.box (inn (fo g e))) (pl a g (n + 1) e)
    have h4 := fence_sz (mk a (n + 1 + cnt e + 1)) (fo g f) (.box (inn (fo g f))) (pl a g (n + 1 + cnt e + 1) f)
    simp only [pl, Term.sz, cnt]; omega
  | .wall _ _ _ _, _, _, h => h.elim
theorem told_depth {hs : List Hall} (ok : HsOk hs) {h : Hall} (hm : h ∈ hs) : (told hs h).depth ≤ 41 := by
  have h1 := fence_depth (mk h.x 1) (fo (hctx hs) h.e) h.F (pl h.x (hctx hs) 1 h.e)
  have h2 := pl_depth h.x h.e (hctx hs) 1 (ok.ok h hm).1
  have h3 := (ok.all h hm).dp
  unfold told
  omega
theorem told_sz {hs : List Hall} (ok : HsOk hs) {h : Hall} (hm : h ∈ hs) : (told hs h).sz ≤ 40001 := by
  have h1 := fence_sz (mk h.x 1) (fo (hctx hs) h.e) h.F (pl h.x (hctx hs) 1 h.e)
  have h2 := pl_sz h.x h.e (hctx hs) 1 (ok.ok h hm).1
  have h3 := (ok.ok h hm).2.2
  have h4 := cnt_sz h.e
  unfold told
  omega
section
variable {P : Program} {w : World} {K : PySem.W.Frag} {mg : Str → Option Value} {base : Heap}
theorem DcAt.get {H : Hp} {d : Addr} {ks : List Str} {hs : List Hall} {f : Hall → PyData} {h : Hall} (nd : (hs.map (·.x)).Nodup) (D : DcAt H d (hs.map (·.x)) (hs.map f)) (hm : h ∈ hs) : ∃ kvs v, H d = some (.dK kvs) ∧ valV kvs (.inr h.x) = some v ∧ Pd H v (f h) := by
  obtain ⟨kvs, e, hk, hv⟩ := D
  have ndk : (kvs.map (·.1)).Nodup := by
    rw [hk]
    exact List.pairwise_map.mpr (List.Pairwise.imp (fun h e => h (Sum.inr.inj e)) nd)
  obtain ⟨i, ei⟩ := List.mem_iff_getElem?.mp hm
  have e1 : (kvs.map (·.1))[i]? = some (Sum.inr h.x) := by
    rw [hk, List.getElem?_map, List.getElem?_map, ei]
    rfl
  rw [List.getElem?_map, Option.map_eq_some_iff] at e1
  obtain ⟨⟨k, v⟩, e2, e3⟩ := e1
  cases e3
  have e4 : (kvs.map (·.2))[i]? = some v := by
    rw [List.getElem?_map, e2]
    rfl
  obtain ⟨h', eh', ph⟩ := PdAll.atG hv e4
  rw [ei] at eh'
  cases eh'
  exact ⟨kvs, v, e, valV_at ndk e2, ph⟩
def sp_want_name (K : PySem.W.Frag) : Sp := fun vs H Q _ => ∃ (q : Addr) (hs : List Hall) (h : Hall), vs = [.ref q, .str h.x] ∧ PgAt K H q hs ∧ (hs.map (·.x)).Nodup ∧ h ∈ hs ∧ IsName h.x ∧ ∀ H', Same H H' → Q .non H'
theorem sc_Program_want_name : FnScope ["self", "name"] ["self", "name"] (defScope s_Program_want_name) := ⟨rfl, rfl, rfl, by decide +kernel, rfl, by decide +kernel, by decide +kernel⟩
theorem ok_Program_want_name (T : Tx w K mg) (k : Nat) : Held P w K mg base (k + 2) (fR K "want_name") (sp_want_name K) := by
  have G_is_name := ok_is_name (P := P) (base := base) T k
  refine FunD.held T.f_Program_want_name sc_Program_want_name (fun _ _ _ _ _ _ us hl => match us, hl with | [_, _], _ => rfl) (fun vs H Q E h => ?len) (fun fd cdv A outer s H vs Q E hr h => ?body)
  case len => obtain ⟨q, hs, h, rfl, _⟩ := h; rfl
  case body =>
    obtain ⟨q, hs, h, rfl, pg, nd, hm, nm, qq⟩ := h
    have hu := hu_of hr
    refine ⟨_, (pss_one (ps_if (PW.pt (pw_or (pt_not (pt_val (pe_cl G_is_name hr T.g_is_name (pa_cons (pv 1) pa_nil)))) (pw_or1 (pt_cmp (pc_dnotin hu (pv 1) (pe_fld (pv 0) rfl)))))) (pss_one ps_never) pss_nil)), ?_⟩
    refine ⟨_, rfl, _, rfl, nm, fun H1 s1 => ⟨_, rfl, iteF ?_⟩⟩
    obtain ⟨dx, l, df, dt, hq, d1, d2⟩ := pg.same s1
    obtain ⟨kvs, v, ed, ev, pv⟩ := DcAt.get (ks := []) nd d1 hm
    exact ⟨_, rfl, _, rfl, q, _, dx, _, _, rfl, hq, T.c_Program, T.n_Program_forms, lr2 _ _ _, df, some v, rfl, .inl ⟨kvs, .inr h.x, .inl ed, rfl, ev.symm⟩, _, rfl, iteF (qq _ s1)⟩
def sp_Program_placed (K : PySem.W.Frag) : Sp := fun vs H Q _ => ∃ (q : Addr) (hs : List Hall) (h : Hall), vs = [.ref q, .str h.x] ∧ PgAt K H q hs ∧ (hs.map (·.x)).Nodup ∧ h ∈ hs ∧ IsName h.x ∧ ∀ H' v, Same H H' → Pd H' v (told hs h).d → Q v H'
theorem sc_Program_placed : FnScope ["self", "name"] ["self", "name"] (defScope s_Program_placed) := ⟨rfl, rfl, rfl, by decide +kernel, rfl, by decide +kernel, by decide +kernel⟩
theorem ok_Program_placed (T : Tx w K mg) (k : Nat) : Held P w K mg base (k + 3) (fR K "placed") (sp_Program_placed K) := by
  have G_Program_want_name := ok_Program_want_name (P := P) (base := base) T k
  refine FunD.held T.f_Program_placed sc_Program_placed (fun _ _ _ _ _ _ us hl => match us, hl with | [_, _], _ => rfl) (fun vs H Q E h => ?len) (fun fd cdv A outer s H vs Q E hr h => ?body)
  case len => obtain ⟨q, hs, h, rfl, _⟩ := h; rfl
  case body =>
    obtain ⟨q, hs, h, rfl, pg, nd, hm, nm, qq⟩ := h
    have hu := hu_of hr
    refine ⟨_, (pss_cons (ps_expr (pe_mt G_Program_want_name hr T.c_Program T.m_Program_want_name (pv 0) (pa_cons (pv 1) pa_nil)))
      (pss_one (ps_ret (pe_dget hu (pe_fld (pv 0) rfl) (pv 1) (fun _ _ => rfl))))), ?_⟩
    have pg0 := pg
    obtain ⟨dx0, l0, df0, dt0, hq0, _⟩ := pg0
    refine ⟨_, rfl, q, dx0, _, rfl, hq0, by rfl, _, rfl, q, hs, h, rfl, pg, nd, hm, nm, fun H1 s1 => ?_⟩
    obtain ⟨dx, l, df, dt, hq, d1, d2⟩ := pg.same s1
    obtain ⟨kvs, v, ed, ev, pv⟩ := DcAt.get (ks := []) nd d2 hm
    exact ⟨_, rfl, q, _, dx, _, _, rfl, hq, T.c_Program, T.n_Program_terms, lr3 _ _ _, _, rfl, dt, v, rfl, .inl ⟨kvs, .inr h.x, .inl ed, rfl, ev.symm⟩, qq _ _ s1 pv⟩
/-! ### walls -/
theorem src_vals {d : Addr} {o : Obj} {kvs : List (Key × V)} : Src (Itd d o kvs) (fun H => H d = some (.frz o (.dK kvs))) kvs.length (fun i x _ => (kvs.map (·.2))[i]? = some x) where
  go := fun i H u h => ⟨u, h⟩
  yld := fun i x H H' u h y => by
    obtain ⟨rfl, k, e⟩ := y
    exact ⟨Same.refl _, by rw [List.getElem?_map, e]; rfl⟩
  stop := fun H u => ⟨u, Nat.le_refl _⟩
abbrev allWalls (hs : List Hall) : List Wl := hs.flatMap fun h => wl (told hs h)
def sp_Program_walls (K : PySem.W.Frag) : Sp := fun vs H Q _ => ∃ (q : Addr) (hs : List Hall), vs = [.ref q] ∧ PgAt K H q hs ∧ HsOk hs ∧ ∀ H' p ys, Same H H' → H p = none → H' p = some (.lst ys) → PdAll H' ys ((allWalls hs).map Wl.d) → Q (.ref p) H'
theorem sc_Program_walls : FnScope ["self", "found", "placed"] ["self"] (defScope s_Program_walls) := ⟨rfl, rfl, rfl, by decide +kernel, rfl, by decide +kernel, by decide +kernel⟩
theorem ok_Program_walls (T : Tx w K mg) (k : Nat) : Held P w K mg base (k + 46) (fR K "walls") (sp_Program_walls K) := by
  have G_walls_in := ok_walls_in (P := P) (base := base) T k 42
  refine FunD.held T.f_Program_walls sc_Program_walls (fun _ _ _ _ _ _ us hl => match us, hl with | [_], _ => rfl) (fun vs H Q E h => ?len) (fun fd cdv A outer s H vs Q E hr h => ?body)
  case len => obtain ⟨q, hs, rfl, _⟩ := h; rfl
  case body =>
    obtain ⟨q, hs, rfl, pg, ok, qq⟩ := h
    refine ⟨_, (pss_cons (ps_set (i := 1) sc_Program_walls.nd rfl (by first | exact Or.inl rfl | exact Or.inr rfl) (pe_lst pa_nil))
      (pss_cons (ps_lock (ps_for PassesOwn.never rfl (pi_values (pe_fld (pv 0) rfl)) (pg_name (i := 2) sc_Program_walls.nd rfl (Or.inl rfl)) (pss_one (ps_expr (pe_bm PySem.F.plainAttrs_list PySem.F.slot_list_extend PySem.F.type_list_extend mt_extend (pv 1) (pa_cons (pe_cl G_walls_in hr T.g_walls_in (pa_cons (pv 2) pa_nil)) pa_nil))))))
      (pss_one (ps_ret (pv 1))))), ?_⟩
    refine ⟨small_sz (by simp), fun f nf => ?_⟩
    have s1 := Same.new nf (o := .lst [])
    obtain ⟨dx, l, df, dt, hq, d1, kvs, et, ek, ev⟩ := pg.same s1
    have ef : (upd H f (.lst [])) f = some (.lst []) := upd_same
    generalize upd H f (.lst []) = H1 at s1 hq d1 et ev ef
    refine ⟨dt, _, et, True.intro, fun od => ?_⟩
    have hne : f ≠ dt := ne_of ef et (fun e => by cases e)
    have hqd : q ≠ dt := ne_of hq et (fun e => by cases e)
    have tk1 : TK H1 (upd H1 dt (.frz od (.dK kvs))) := (Kp.mut dt H1 _).tk fun xs e => by rw [et] at e; cases e
    have hlk : kvs.length = hs.length := by
      have := congrArg List.length ek
      simpa using this
    have ed : (upd H1 dt (.frz od (.dK kvs))) dt = some (.frz od (.dK kvs)) := upd_same
    have ef1 : (upd H1 dt (.frz od (.dK kvs))) f = some (.lst []) := by rw [upd_ne hne]; exact ef
    have hq1 : (upd H1 dt (.frz od (.dK kvs))) q = some (.ins (PR K) dx (RF (.ref l) (.ref df) (.ref dt))) := by rw [upd_ne hqd]; exact hq
    have ev1 := ev.keep tk1
    have k1 : Kp dt H1 (upd H1 dt (.frz od (.dK kvs))) := .mut _ _ _
    generalize (upd H1 dt (.frz od (.dK kvs))) = Hf at tk1 ed ef1 hq1 ev1 k1
    refine ⟨_, rfl, q, _, dx, _, _, rfl, hq1, T.c_Program, T.n_Program_terms, lr3 _ _ _, dt, od, kvs, rfl, ed, ?_⟩
    refine forS src_vals (fun i σ H' => ∃ y2 acc, σ = [some (.ref q), some (.ref f), y2] ∧ Kp f Hf H' ∧ H' f = some (.lst acc) ∧ acc.length ≤ 40001 * i ∧ PdAll H' acc (((hs.take i).flatMap fun h => wl (told hs h)).map Wl.d)) ?_ ?_ ?_ ?_
    · exact ⟨none, [], rfl, .refl _ _, ef1, Nat.zero_le _, .nil⟩
    · rintro i σ H' ⟨_, _, _, k, _⟩
      exact k _ _ (Ne.symm hne) ed
    · rintro i x σ H3 H3' hi ⟨y2, acc, rfl, k3, e1, p2, p3⟩ sm hx
      have tk3 : TK Hf H3 := k3.tk fun xs e => by rw [ef1] at e; cases e
      obtain ⟨h, eh, ph⟩ := PdAll.atG (f := fun h : Hall => (told hs h).d) ((ev1.keep tk3).same sm) hx
      have hm := List.mem_of_getElem? eh
      have hd := told_depth ok hm
      have hz := told_sz ok hm
      have ok12 := ok.len
      refine ⟨_, rfl, ty_lst (sm _ _ e1), _, rfl, x, told hs h, rfl, ph, by omega, by omega, fun H4 l2 zs s4 nl2 el2 pz => ?_⟩
      have ef4 := s4 _ _ (sm _ _ e1)
      have hzl : zs.length ≤ 40001 := by
        rw [pz.length, List.length_map]
        exact Nat.le_trans (wl_len _) hz
      have hf2 : f ≠ l2 := ne_of_none (sm _ _ e1) nl2
      have tk : TK H4 (upd H4 f (.lst (acc ++ zs))) := tk_lst (.mut f H4 _) ef4
      refine ⟨f, l2, acc, zs, rfl, rfl, ef4, el2, small_sz (by omega), ?_⟩
      refine ⟨_, _, rfl, (((k3.trans (sm.kp f)).trans (s4.kp f)).trans (.mut _ _ _)), upd_same, ?_, ?_⟩
      · rw [List.length_append]
        omega
      · rw [List.take_succ, eh, List.flatMap_append, List.map_append]
        refine (((p3.same sm).same s4).keep tk).app ?_
        have := pz.keep tk
        simpa using this
    · rintro σ H' ⟨y2, acc, rfl, k3, e1, p2, p3⟩
      rw [hlk, List.take_length] at p3
      have ed' := k3 _ _ (Ne.symm hne) ed
      have tkE : TK H' (upd H' dt (.dK kvs)) := (Kp.mut dt H' _).tk fun xs e => by rw [ed'] at e; cases e
      refine ⟨ed', _, rfl, qq _ f acc (fun b u eb => ?_) nf (by rw [upd_ne hne]; exact e1) (p3.keep tkE)⟩
      have eb1 := s1 _ _ eb
      by_cases hb : b = dt
      · subst hb
        rw [upd_same]
        rw [et] at eb1
        exact eb1
      · rw [upd_ne hb]
        exact k3 _ _ (ne_of_none eb nf) (k1 _ _ hb eb1)
end
end WS
set_option Elab.async false
set_option linter.all false
set_option maxRecDepth 100000
set_option maxHeartbeats 4000000
namespace L2
open PySem PySem.Spec PyProof.Rows WS
section
variable {X : Cx} {k n : Nat} {f C : Addr} {fd : FuncData} {ps ks : List Str} {sp : Sp} {m : Str} {pos apos : Pos} {o e : Expr} {es : List Expr} {kws : List Keyword} {ta : TE} {t tk : TA} {g : List Value → List Value → List Value} {gV : List V → List V → List V} {dvs : List V}
/-- o.m(e, ..), what is not written has its default -/
def tMtD (C : Addr) (m : Str) (sp : Sp) (dvs : List V) (ta : TE) (t : TA) : TE := tMeth C m sp dvs E0 ta t
/-- o.m(e, .., k = v, ..) -/
def tMtN (C : Addr) (m : Str) (n l : Nat) (sp : Sp) (gV : List V → List V → List V) (ta : TE) (t tk : TA) : TE := fun σ H Q => ta σ H fun x H1 => ∃ a dx fs, x = .ref a ∧ H1 a = some (.ins C dx fs) ∧ fs.lookup m = none ∧
  t σ H1 fun vs H2 => tk σ H2 fun zs H3 => vs.length + 1 = n ∧ zs.length = l ∧ sp (gV (x :: vs) zs) H3 Q E0
theorem pe_mtN {pl : Sem Bool} (he : PE X o ta) (c : Cls X.K C) (hm : Meth X.K C m f) (F : FnOk X.prog X.w X.K X.mg X.base CX0 k f fd ps sp) (hr : Room k X.A) (hb : KBn X.K fd ps n ks g gV)
    (ha : PA X (e :: es) t) (hkw : PK X kws tk) (hall : (backToKw pos (keywordEach kws X.env)).all (·.1.isSome) = true := by rfl) (hks : (backToKw pos (keywordEach kws X.env)).filterMap (·.1) = ks := by rfl)
    (hst : starEach (e :: es) X.env = (false, eval e X.env) :: starEach es X.env := by rfl)
    (hpl : ((backTo pos (starEach (e :: es) X.env)).any (·.1) || (backToKw pos (keywordEach kws X.env)).any (·.1.isNone)) = false := by rfl)
    (ht : eval (.Call (.Attribute o m apos) (e :: es) kws pos) X.env = (do
      let ov ← eval o X.env
      standAt apos.atName
      let (f, first) ← holding [ov] (getMethod ov m pl)
      callWith pos f first (backTo pos (starEach (e :: es) X.env)) (backToKw pos (keywordEach kws X.env))) := by rfl) :
    PE X (.Call (.Attribute o m apos) (e :: es) kws pos) (tMtN C m n ks.length sp gV ta t tk) := by
  refine ⟨fun pins s σ H Q I h => ?_⟩
  refine PySem.W.methodCall_KW (pl := pl) (thn (he.run pins s σ H _ I h) fun u s1 ⟨x, H1, I1, rx, a, dx, fs, ex, ea, l, q⟩ => ?_) ht
  subst ex
  obtain rfl : u = Value.ref a := rx
  refine getmeth_ok I1 ea c hm l ?_
  refine PySem.W.callWith_KW (first := [.ref a]) (h₀ := X.base) I.ok.mod.kin hm.kp hall (thn (ha.run pos pins s1 σ H1 _ I1 q) fun us s2 ⟨vs, H2, I2, r, q2⟩ => ?_) hpl hst
  refine thn (hkw.run pos pins s2 σ H2 _ I2 q2) fun ws s3 ⟨zs, H3, I3, rz, l1, l2, q3⟩ => ⟨I3.kIn, ?_⟩
  rw [hks]
  exact run_fnN (us := .ref a :: us) (vs := .ref a :: vs) F hr hb pass0 I3 (.cons rfl r) rz (by rw [List.length_cons]; exact l1) l2 q3
end
end L2
set_option Elab.async false
set_option linter.all false
set_option maxRecDepth 100000
set_option maxHeartbeats 4000000
namespace WS
open PySem L2
section
variable {P : Program} {w : World} {K : PySem.W.Frag} {mg : Str → Option Value} {base : Heap}
def sp_place (K : PySem.W.Frag) : Sp := fun vs H Q _ => ∃ (q : Addr) (hs : List Hall) (v : V) (m : Str) (t : Term), vs = [.ref q, v, .str m, .non] ∧ PgAt K H q hs ∧ HsOk hs ∧ Pd H v t.d ∧ Ok (hctx hs) t ∧ Wr t ∧ t.depth ≤ 20 ∧ t.sz ≤ 10000 ∧ m.length ≤ 8 ∧
  ∀ H' r x y, Same H H' → H' r = some (.tup [x, y]) → Pd H' x (pl m (hctx hs) 0 t).d → Pd H' y (fo (hctx hs) t).d → Q (.ref r) H'
abbrev placePs : List Str := ["self", "term", "mark", "kept"]
theorem sc_Program_place : FnScope ["self", "term", "mark", "kept", "forms"] ["self", "term", "mark", "kept"] (defScope s_Program_place) := ⟨rfl, rfl, rfl, by decide +kernel, rfl, by decide +kernel, by decide +kernel⟩
theorem ok_place (T : Tx w K mg) (k : Nat) : ∃ fd, FnOk P w K mg base CX0 (k + 96) (fR K "place") fd placePs (sp_place K) ∧ (∃ ds, Vals [V.str "0", V.non] ds ∧ Binds K fd placePs ds) ∧
    (∃ g, KBn K fd placePs 2 ["mark"] g (fun vs zs => vs ++ (zs ++ [V.non]))) ∧ PySem.W.keepIn K (.ref (fR K "place")) = true := by
  obtain ⟨fd, F⟩ := T.f_Program_place
  refine ⟨fd, ?_, ?_, ?_, F.kp⟩
  · have G_want_term := (ok_want_term (P := P) (base := base) T (k + 44))
    have G_Placer_init := (ok_Placer_init (P := P) (base := base) T (k + 93))
    have G_Placer_placed := (ok_Placer_placed (P := P) (base := base) T (k + 1) 21)
    refine FunD.ok F sc_Program_place (fun vs H Q E h => ?_) (fun cdv A outer s H vs Q E hr h => ?_)
    · obtain ⟨q, hs, v, m, t, rfl, _⟩ := h; rfl
    · obtain ⟨q, hs, v, m, t, rfl, pg, ok, hv, ot, wt, dt, zt, ml, qq⟩ := h
      have hrM := hr
      refine ⟨_, (pss_cons (ps_expr (pe_cl G_want_term hr T.g_want_term (pa_cons (pv 1) pa_nil)))
      (pss_cons (ps_set (i := 4) sc_Program_place.nd rfl (by first | exact Or.inl rfl | exact Or.inr rfl) (pe_callTy call_dictD (by rfl) T.b_dict (by decide +kernel) (pa_cons (pe_fld (pv 0) rfl) pa_nil)))
      (pss_cons (ps_if (pt_cmpR op_notN (pv 3) pe_non (nomark _)) (pss_one ps_never) pss_nil)
      (pss_one (ps_ret (pe_mt G_Placer_placed hr T.c_Placer T.m_Placer_placed (pe_mkI G_Placer_init hrM T.k_Placer T.g_Placer (pa_cons (pv 2) (pa_cons (pv 4) pa_nil))) (pa_cons (pv 1) (pa_cons (pe_lst pa_nil) pa_nil)))))))), ?_⟩
      refine ⟨_, rfl, v, t, rfl, hv, wt, dt, fun H1 s1 => ?_⟩
      obtain ⟨dx, l, df, dt', hq, ⟨kvs, ed, ek, ev⟩, d2⟩ := pg.same s1
      refine ⟨_, rfl, q, _, dx, _, _, rfl, hq, T.c_Program, T.n_Program_forms, lr2 _ _ _, df, kvs, rfl, .inl ed, fun d nd => ?_⟩
      have s2 := Same.new nd (o := .dK kvs)
      have dc : DcAt (upd H1 d (.dK kvs)) d (hs.map (·.x)) (hs.map fun h => h.F.d) := ⟨kvs, upd_same, ek, ev.same s2⟩
      generalize (upd H1 d (.dK kvs)) = H2 at s2 dc
      refine ⟨_, rfl, rfl, _, rfl, iteF ?_⟩
      refine ⟨_, rfl, _, rfl, fun p dxp np ndx hne => ?_⟩
      refine ⟨p, dxp, d, m, rfl, upd_same, fun H6 k6 c6 => ⟨rfl, ?_⟩⟩
      have s6 : Same H2 H6 := fun b u eb => k6 b u (ne_of_none eb np) (by rw [upd_ne (ne_of_none eb np), upd_ne (ne_of_none eb ndx)]; exact eb)
      obtain ⟨dx6, hp6⟩ := c6
      refine ⟨p, dx6, _, rfl, hp6, by rfl, _, rfl, small_sz (by simp), fun b nb => ?_⟩
      have s7 := Same.new nb (o := .lst [])
      have s57 := s6.trans s7
      have sH := (s1.trans s2).trans s57
      have d7 := dc.same s57
      have cz := cnt_sz t
      have i7 : PlIn K (upd H6 b (.lst [])) p b d v m (hctx hs) [] 0 t :=
        ⟨(show Pc K H6 p m d 0 from ⟨dx6, hp6⟩).same s7, ⟨env_of_dc ok.nd d7, ⟨[], upd_same, .nil⟩, by rw [List.append_nil]; exact low_hctx ok.all⟩, hv.same sH, by rw [List.append_nil]; exact ot, wt, ml, by omega, by simp; omega⟩
      refine ⟨p, b, d, v, m, hctx hs, [], 0, t, rfl, i7, by omega, True.intro, fun H8 r x y k8 c8 er px py => ?_⟩
      rw [List.append_nil] at px py
      have s8 : Same H2 H8 := fun b' u eb => k8 _ _ (ne_of_none eb np) (s57 _ _ eb)
      exact qq _ _ _ _ ((s1.trans s2).trans s8) er px py
  · exact FunD.binds0 F 2 (by simp) rfl (fun D doc pm an cdv ct us ks l1 l2 => match us, ks, l1, l2 with | [_, _], [_, _], _, _ => ⟨_, _, _, _, _, _, rfl, rfl, _, _, _, _, _, _, rfl, rfl, rfl⟩)
  · obtain ⟨mv, h⟩ := FunD.kbinds0 (ps := placePs) F 2 ["mark"] [("kept", .non)] (fun vs mz zs => vs ++ (zs ++ mz)) (by simp) (by simp) (fun r1 r2 r3 => r1.append (r3.append r2)) (fun D doc pm an cdv ct us mv ws l1 l2 l3 => match us, mv, ws, l1, l2, l3 with | [_, _], [_], [_], _, _, _ => ⟨_, _, _, _, _, _, rfl, rfl, rfl⟩)
    exact ⟨_, h⟩
end
end WS
set_option Elab.async false
set_option linter.all false
set_option maxRecDepth 100000
set_option maxHeartbeats 4000000
namespace WS
open PySem L2
def PotAt (H : Hp) (p : Addr) : Prop := ∃ a b : Int, H p = some (.lst [.int a, .int b]) ∧ 0 ≤ a ∧ 0 ≤ b ∧ b < 4294967296
theorem PotAt.ntup {H : Hp} {p : Addr} (h : PotAt H p) (xs : List V) : H p ≠ some (.tup xs) := fun e => by
  obtain ⟨a, b, h, _⟩ := h
  rw [h] at e
  cases e
theorem PotAt.tk {H H' : Hp} {p : Addr} (h : PotAt H p) (k : Kp p H H') : TK H H' := k.tk h.ntup
theorem PotAt.same {H H' : Hp} {p : Addr} (h : PotAt H p) (s : Same H H') : PotAt H' p := by
  obtain ⟨a, b, h, r⟩ := h
  exact ⟨a, b, s _ _ h, r⟩
theorem hpe {f : Hp → Prop} {H H' : Hp} (e : H = H') (h : f H') : f H := e ▸ h
theorem at1 (x y : V) (xs : List V) : atI (x :: y :: xs) 1 = some y := by
  unfold atI ixN
  rw [if_pos (by decide), if_pos (by simp only [List.length_cons]; omega)]
  rfl
theorem atN {α : Type} (xs : List α) (i : Int) (h0 : 0 ≤ i) (h : i < xs.length) : atI xs i = some (xs[i.toNat]'(by omega)) := by
  unfold atI ixN
  rw [if_pos h0, if_pos h]
  exact List.getElem?_eq_getElem (by omega)
section
variable {P : Program} {w : World} {K : PySem.W.Frag} {mg : Str → Option Value} {base : Heap}
abbrev fL (K : PySem.W.Frag) (m : Str) : Addr := He.fAd K (m, none)
def sp_pot (K : PySem.W.Frag) : Sp := fun vs H Q _ => ∃ (l : Addr) (xs : List Int) (k : Int), vs = [.ref l, .int k] ∧ SqL K H l (xs.map V.int) ∧ 0 ≤ k ∧ k ≤ 1000 ∧ ∀ H' p, Same H H' → H p = none → PotAt H' p → Q (.ref p) H'
theorem sc_law_pot : FnScope ["_law_script", "_law_k", "_law_cell"] ["_law_script", "_law_k"] (defScope s__law_pot) := ⟨rfl, rfl, rfl, by decide +kernel, rfl, by decide +kernel, by decide +kernel⟩
theorem ok_law_pot (T : Tx w K mg) (k : Nat) : Held P w K mg base (k + 1) (fL K "_law_pot") (sp_pot K) := by
  refine FunD.held T.f__law_pot sc_law_pot (fun _ _ _ _ _ _ us hl => match us, hl with | [_, _], _ => rfl) (fun vs H Q E h => ?len) (fun fd cdv A outer s H vs Q E hr h => ?body)
  case len => obtain ⟨l, xs, i, rfl, _⟩ := h; rfl
  case body =>
    obtain ⟨l, xs, i, rfl, hl, h0, h1, q⟩ := h
    refine ⟨_, (C8.pss_cut (ps_set (i := 2) sc_law_pot.nd rfl (by first | exact Or.inl rfl | exact Or.inr rfl) (pe_ifExp (pt_cmpR op_lt (pv 1) (pe_callB call_len_seq (by rfl) T.b_len PySem.boot_len (pa_cons (pv 0) pa_nil)) (nomark _)) (pe_ix ix_list (pv 0) (pv 1) (fun _ _ => rfl)) pe_int))
      (pss_one (ps_ret (pe_lst (pa_cons (pe_callB (call_max2 rfl) (by rfl) T.b_max (by decide +kernel) (pa_cons pe_int (pa_cons (pe_op op_sub (pe_callB call_abs (by rfl) T.b_abs (by decide +kernel) (pa_cons (pv 2) pa_nil)) (pe_op op_pow pe_int pe_int)) pa_nil))) (pa_cons (pe_op op_add (pe_op op_mod (pe_op op_pow (pe_op op_add (pe_op op_add (pe_op op_mod (pe_callB call_abs (by rfl) T.b_abs (by decide +kernel) (pa_cons (pv 2) pa_nil)) pe_int) (pe_op op_mul pe_int (pv 1))) pe_int) pe_int) pe_int) pe_int) pa_nil)))))), ?_⟩
    refine ⟨fun σ' H' => ∃ c : Int, σ' = [some (.ref l), some (.int i), some (.int c)] ∧ H' = H, ?_, ?_⟩
    · refine ⟨_, rfl, _, rfl, l, _, rfl, .inl hl, _, _, rfl, rfl, _, rfl, ite2 (fun h => ?_) (fun h => ⟨0, rfl, rfl⟩)⟩
      have h := of_decide_eq_true h
      rw [List.length_map] at h
      have ea := atN (xs.map V.int) i h0 (by rw [List.length_map]; exact h)
      rw [List.getElem_map] at ea
      exact ⟨_, rfl, _, rfl, l, _, _, _, rfl, rfl, hl, ea, _, rfl, rfl⟩
    · rintro σ' H' ⟨c, rfl, rfl⟩
      have hc : 0 ≤ (if c < 0 then -c else c) := by split <;> omega
      generalize hx : (if c < 0 then -c else c) = x at hc
      refine ⟨_, rfl, _, rfl, _, _, rfl, rfl, ⟨by decide, by decide, by decide⟩, _, _, rfl, rfl, _, _, rfl, ?_⟩
      rw [hx]
      have hm : 0 ≤ x % 2147483477 ∧ x % 2147483477 < 2147483477 := ⟨Int.emod_nonneg _ (by decide), Int.emod_lt_of_pos _ (by decide)⟩
      refine ⟨_, rfl, _, rfl, _, _, rfl, rfl, (show (0 : Int) < 2147483477 by decide), _, rfl, _, _, rfl, rfl, .inl ⟨by decide, by decide⟩, _, _, rfl, rfl, _, _, rfl, rfl, _, _, rfl, rfl, ⟨by decide, by decide, ?_⟩, _, _, rfl, rfl, (show (0 : Int) < 2147483399 by decide), _, _, rfl, rfl, small_sz (by simp), fun p np => ?_⟩
      · rw [hx]
        have h2 : (x % 2147483477 + 101 * i + 3).natAbs < 2 ^ 64 := by
          have : (2 : Nat) ^ 64 = 18446744073709551616 := by decide
          omega
        exact h2
      · rw [hx]
        have h3 := Int.emod_nonneg ((x % 2147483477 + 101 * i + 3) ^ (2 : Int).toNat) (show (2147483399 : Int) ≠ 0 by decide)
        have h4 := Int.emod_lt_of_pos ((x % 2147483477 + 101 * i + 3) ^ (2 : Int).toNat) (show (0 : Int) < 2147483399 by decide)
        refine q _ _ (Same.new np) np ⟨_, _, upd_same, ?_, ?_, ?_⟩
        · split <;> omega
        · omega
        · omega
/-! ### digit -/
def sp_digit : Sp := fun vs H Q _ => ∃ (p : Addr) (m : Int), vs = [.ref p, .int m] ∧ PotAt H p ∧ 1 ≤ m ∧ m ≤ 1000 ∧ ∀ H' (d : Int), Kp p H H' → PotAt H' p → 0 ≤ d → d < m → Q (.int d) H'
theorem sc_law_digit : FnScope ["_law_pot_here", "_law_many", "_law_digit_here"] ["_law_pot_here", "_law_many"] (defScope s__law_digit) := ⟨rfl, rfl, rfl, by decide +kernel, rfl, by decide +kernel, by decide +kernel⟩
theorem ok_law_digit (T : Tx w K mg) (k : Nat) : Held P w K mg base (k + 1) (fL K "_law_digit") sp_digit := by
  refine FunD.held T.f__law_digit sc_law_digit (fun _ _ _ _ _ _ us hl => match us, hl with | [_, _], _ => rfl) (fun vs H Q E h => ?len) (fun fd cdv A outer s H vs Q E hr h => ?body)
  case len => obtain ⟨p, m, rfl, _⟩ := h; rfl
  case body =>
    obtain ⟨p, m, rfl, ⟨a, b, hp, ha, hb, hb2⟩, h1, h2, q⟩ := h
    refine ⟨_, (pss_cons (ps_if (pt_cmpR op_gt (pe_ix ix_list (pv 0) pe_int (fun _ _ => rfl)) pe_int (nomark _)) (pss_cons (ps_asg (pe_callB call_divmodW (by rfl) T.b_divmod (by decide +kernel) (pa_cons (pe_ix ix_list (pv 0) pe_int (fun _ _ => rfl)) (pa_cons (pv 1) pa_nil))) (pg_tup (n := 2) rfl (pgs_cons (pg_sub (pv 0) pe_int set_list) (pgs_cons (pg_name (i := 2) sc_law_digit.nd rfl (Or.inl rfl)) pgs_nil))))
      (pss_one (ps_ret (pv 2)))) pss_nil)
      (pss_cons (ps_asg (pe_op op_mod (pe_op op_add (pe_op op_mul (pe_ix ix_list (pv 0) pe_int (fun _ _ => rfl)) pe_int) pe_int) pe_int) (pg_sub (pv 0) pe_int set_list))
      (pss_one (ps_ret (pe_op op_mod (pe_op op_fdiv (pe_op op_mod (pe_op op_mul (pe_ix ix_list (pv 0) pe_int (fun _ _ => rfl)) (pe_ix ix_list (pv 0) pe_int (fun _ _ => rfl))) pe_int) pe_int) (pv 1)))))), ?_⟩
    refine ⟨_, rfl, p, _, _, _, rfl, rfl, sl hp, at0 _ _, _, _, rfl, rfl, _, rfl, ite2 (fun h => ?_) (fun h => ?_)⟩
    · have h := of_decide_eq_true h
      have hd : CDivP a m := ⟨by omega, by
        unfold Builtin.divisionGoesByPylong
        have hl : m.natAbs.log2 < 300 := by
          have h3 := (Nat.log2_lt (k := 10) (by omega : m.natAbs ≠ 0)).mpr (by omega)
          omega
        simp only [Bool.and_eq_false_iff, decide_eq_false_iff_not]
        left
        split
        · omega
        · omega⟩
      refine ⟨_, rfl, p, _, _, _, rfl, rfl, sl hp, at0 _ _, _, rfl, a, m, rfl, hd, fun t nt => ?_⟩
      have hp2 : (upd H t (.tup [.int (a / m), .int (a % m)])) p = some (.lst [.int a, .int b]) := Same.new nt _ _ hp
      refine ⟨t, _, rfl, st upd_same, rfl, _, _, rfl, _, rfl, p, _, 0, 0, rfl, rfl, hp2, by rfl, _, _, rfl, rfl, _, rfl, ?_⟩
      have h3 := Int.emod_nonneg a (show m ≠ 0 by omega)
      have h4 := Int.emod_lt_of_pos a (show 0 < m by omega)
      exact q _ _ (((Same.new nt).kp p).trans (.mut _ _ _)) ⟨_, _, upd_same, Int.ediv_nonneg ha (by omega), hb, hb2⟩ h3 h4
    · refine ⟨_, rfl, p, _, _, _, rfl, rfl, sl hp, at1 _ _ _, _, _, rfl, rfl, .inr ⟨by decide, by decide⟩, _, _, rfl, rfl, _, _, rfl, rfl, (show (0 : Int) < 2147483587 by decide), ?_⟩
      refine ⟨_, rfl, p, _, 1, 1, rfl, rfl, hp, by rfl, ?_⟩
      have e3 := Int.emod_nonneg (b * 48271 + 10037) (show (2147483587 : Int) ≠ 0 by decide)
      have e4 := Int.emod_lt_of_pos (b * 48271 + 10037) (show (0 : Int) < 2147483587 by decide)
      refine hpe (H' := upd H p (.lst [.int a, .int ((b * 48271 + 10037) % 2147483587)])) rfl ?_
      generalize ((b * 48271 + 10037) % 2147483587) = c at e3 e4
      refine ⟨_, rfl, p, _, _, _, rfl, rfl, sl upd_same, at1 _ _ _, _, rfl, p, _, _, _, rfl, rfl, sl upd_same, at1 _ _ _, _, _, rfl, rfl, .inl ⟨by omega, by omega⟩, _, _, rfl, rfl, (show (0 : Int) < 2147483563 by decide), _, _, rfl, rfl, ⟨by decide, by decide⟩, _, rfl, _, _, rfl, rfl, (show 0 < m by omega), ?_⟩
      exact q _ _ (.mut _ _ _) ⟨_, _, upd_same, ha, e3, by omega⟩ (Int.emod_nonneg _ (by omega)) (Int.emod_lt_of_pos _ (by omega))
/-! ### pick -/
def sp_pick (K : PySem.W.Frag) : Sp := fun vs H Q _ => ∃ (p l : Addr) (xs : List V), vs = [.ref p, .ref l] ∧ PotAt H p ∧ H l = some (.lst xs) ∧ l ≠ p ∧ 1 ≤ xs.length ∧ xs.length ≤ 1000 ∧ ∀ H' x, Kp p H H' → PotAt H' p → x ∈ xs → Q x H'
theorem sc_law_pick : FnScope ["_law_pot_here", "_law_some"] ["_law_pot_here", "_law_some"] (defScope s__law_pick) := ⟨rfl, rfl, rfl, by decide +kernel, rfl, by decide +kernel, by decide +kernel⟩
theorem ok_law_pick (T : Tx w K mg) (k : Nat) : Held P w K mg base (k + 2) (fL K "_law_pick") (sp_pick K) := by
  have G_law_digit := ok_law_digit (P := P) (base := base) T k
  refine FunD.held T.f__law_pick sc_law_pick (fun _ _ _ _ _ _ us hl => match us, hl with | [_, _], _ => rfl) (fun vs H Q E h => ?len) (fun fd cdv A outer s H vs Q E hr h => ?body)
  case len => obtain ⟨p, l, xs, rfl, _⟩ := h; rfl
  case body =>
    obtain ⟨p, l, xs, rfl, hp, hl, hne, h1, h2, q⟩ := h
    refine ⟨_, (pss_one (ps_ret (pe_ix ix_list (pv 1) (pe_cl G_law_digit hr T.g__law_digit (pa_cons (pv 0) (pa_cons (pe_callB call_len_seq (by rfl) T.b_len PySem.boot_len (pa_cons (pv 1) pa_nil)) pa_nil))) (fun _ _ => rfl)))), ?_⟩
    refine ⟨_, rfl, _, rfl, _, rfl, l, xs, rfl, .inl (sl hl), p, _, rfl, hp, by omega, by omega, fun H1 d k1 c1 d0 d1 => ?_⟩
    exact ⟨l, xs, d, _, rfl, rfl, sl (k1 _ _ hne hl), atN xs d d0 d1, q _ _ k1 c1 (List.getElem_mem _)⟩
end
end WS
set_option Elab.async false
set_option linter.all false
set_option maxRecDepth 100000
set_option maxHeartbeats 4000000
namespace WS
open PySem L2
section
variable {P : Program} {w : World} {K : PySem.W.Frag} {mg : Str → Option Value} {base : Heap}
theorem pot_ne {H : Hp} {p l : Addr} (h : PotAt H p) (e : H l = none) : l ≠ p := by
  obtain ⟨a, b, h, _⟩ := h
  exact (ne_of_none h e).symm
/-- a new list, then a digit: the list still lies there -/
theorem lt3 {d : Int} (h0 : 0 ≤ d) (h : d < 3) : d = 0 ∨ d = 1 ∨ d = 2 := by omega
def sp_form (n : Nat) : Sp := fun vs H Q _ => ∃ (p : Addr) (hi : Nat), vs = [.ref p, .int (hi : Nat)] ∧ PotAt H p ∧ hi < n ∧ hi ≤ 100 ∧ ∀ H' v F, Kp p H H' → PotAt H' p → Pd H' v (Form.d F) → F.height ≤ hi → Q v H'
theorem any3 {H : Hp} {d : Int} {v : V} (h : atI [V.str "any", .str "num", .str "text"] d = some v) : ∃ F : Form, Pd H v F.d ∧ F.height = 0 := by
  have hm : v ∈ [V.str "any", .str "num", .str "text"] := by
    unfold atI at h
    rw [Option.bind_eq_some_iff] at h
    obtain ⟨j, _, hj⟩ := h
    exact List.mem_of_getElem? hj
  simp only [List.mem_cons, List.not_mem_nil, or_false] at hm
  rcases hm with rfl | rfl | rfl
  · exact ⟨.any, fany _, rfl⟩
  · exact ⟨.num, fnum _, rfl⟩
  · exact ⟨.text, ftext _, rfl⟩
theorem sc_law_form : FnScope ["_law_pot_here", "_law_high", "_law_way"] ["_law_pot_here", "_law_high"] (defScope s__law_form) := ⟨rfl, rfl, rfl, by decide +kernel, rfl, by decide +kernel, by decide +kernel⟩
theorem ok_law_form (T : Tx w K mg) (k : Nat) : ∀ n, Held P w K mg base (k + n + 1) (fL K "_law_form") (sp_form n)
  | 0 => by
    have G_law_digit := ok_law_digit (P := P) (base := base) T k
    refine FunD.held T.f__law_form sc_law_form (fun _ _ _ _ _ _ us hl => match us, hl with | [_, _], _ => rfl) (fun vs H Q E h => ?len) (fun fd cdv A outer s H vs Q E hr h => ?body)
    case len => obtain ⟨p, hi, rfl, _⟩ := h; rfl
    case body => obtain ⟨p, hi, rfl, _, h, _⟩ := h; exact absurd h (Nat.not_lt_zero _)
  | n + 1 => by
    have G_law_form := ok_law_form T k n
    have G_law_digit := ok_law_digit (P := P) (base := base) T (k + n)
    refine FunD.held T.f__law_form sc_law_form (fun _ _ _ _ _ _ us hl => match us, hl with | [_, _], _ => rfl) (fun vs H Q E h => ?len) (fun fd cdv A outer s H vs Q E hr h => ?body)
    case len => obtain ⟨p, hi, rfl, _⟩ := h; rfl
    case body =>
      obtain ⟨p, hi, rfl, hp, hn, h100, q⟩ := h
      refine ⟨_, (pss_cons (ps_set (i := 2) sc_law_form.nd rfl (by first | exact Or.inl rfl | exact Or.inr rfl) (pe_cl G_law_digit hr T.g__law_digit (pa_cons (pv 0) (pa_cons pe_int pa_nil))))
      (C8.pss_cut (ps_if (PW.pt (pw_or (pt_cmpR op_eq (pv 1) pe_int (nomark _)) (pw_or1 (pt_cmpR op_lt (pv 2) pe_int (nomark _))))) (pss_one (ps_ret (pe_ix ix_list (pe_lst (pa_cons pe_str (pa_cons pe_str (pa_cons pe_str pa_nil)))) (pe_cl G_law_digit hr T.g__law_digit (pa_cons (pv 0) (pa_cons pe_int pa_nil))) (fun _ _ => rfl)))) pss_nil)
      (pss_cons (ps_if (pt_cmpR op_lt (pv 2) pe_int (nomark _)) (pss_one (ps_ret (pe_tup (pa_cons pe_str (pa_cons (pe_cl G_law_form hr T.g__law_form (pa_cons (pv 0) (pa_cons (pe_op op_sub (pv 1) pe_int) pa_nil))) (pa_cons (pe_cl G_law_form hr T.g__law_form (pa_cons (pv 0) (pa_cons (pe_op op_sub (pv 1) pe_int) pa_nil))) pa_nil)))))) pss_nil)
      (pss_one (ps_ret (pe_tup (pa_cons pe_str (pa_cons (pe_cl G_law_form hr T.g__law_form (pa_cons (pv 0) (pa_cons (pe_op op_sub (pv 1) pe_int) pa_nil))) pa_nil)))))))), ?_⟩
      refine ⟨_, rfl, p, 6, rfl, hp, by decide, by decide, fun H1 wd k1 c1 w0 w6 => ?_⟩
      refine ⟨fun σ' H' => σ' = [some (.ref p), some (.int (hi : Nat)), some (.int wd)] ∧ H' = H1 ∧ 1 ≤ hi, ?_, ?_⟩
      · have leaf : (tRet (tOp (rIxL K) (tLst (tCons (tC (.str "any")) (tCons (tC (.str "num")) (tCons (tC (.str "text")) tNil)))) (tCl sp_digit (tCons (tVar 0) (tCons (tC (.int 3)) tNil)))) : TS) ⟨fun _ H' => Q .non H', Q, fun _ _ => False, fun _ _ => False⟩ [some (.ref p), some (.int (hi : Nat)), some (.int wd)] H1 := by
          refine ⟨small_sz (by simp), fun l nl => ⟨_, rfl, p, 3, rfl, c1.same (Same.new nl), by decide, by decide, fun H2 d k2 c2 d0 d3 => ?_⟩⟩
          have hl2 := k2 l _ (pot_ne c1 nl) upd_same
          have ea := atN [V.str "any", .str "num", .str "text"] d d0 (by simpa using d3)
          obtain ⟨F, pF, hF⟩ := any3 (H := H2) ea
          exact ⟨l, _, d, _, rfl, rfl, sl hl2, ea, q _ _ _ ((k1.trans ((Same.new nl).kp p)).trans k2) c2 pF (by omega)⟩
        refine ⟨_, rfl, rfl, _, rfl, ite2 (fun h => iteT leaf) (fun h => ⟨_, rfl, _, _, rfl, rfl, _, rfl, ite2 (fun h2 => leaf) (fun h2 => ⟨rfl, rfl, ?_⟩)⟩)⟩
        have h : ¬ (V.int (hi : Nat) = V.int 0) := fun e => h (decide_eq_true e)
        rcases Nat.eq_zero_or_pos hi with z | z
        · subst z
          exact absurd rfl h
        · exact z
      · rintro σ' H' ⟨rfl, rfl, h1⟩
        have e1 : (hi : Int) - 1 = ((hi - 1 : Nat) : Int) := by omega
        refine ⟨_, rfl, _, _, rfl, rfl, _, rfl, ite2 (fun h => ?_) (fun h => ?_)⟩
        · refine ⟨_, rfl, _, rfl, _, _, rfl, rfl, p, hi - 1, by show [V.ref p, V.int ((hi : Int) - 1)] = _; rw [e1], c1, by omega, by omega, fun H2 v2 F2 k2 c2 p2 h2 => ?_⟩
          refine ⟨_, rfl, _, rfl, _, _, rfl, rfl, p, hi - 1, by show [V.ref p, V.int ((hi : Int) - 1)] = _; rw [e1], c2, by omega, by omega, fun H3 v3 F3 k3 c3 p3 h3 => ⟨small_sz (by simp), fun t nt => ?_⟩⟩
          have s := Same.new nt (o := .tup [.str "deed", v2, v3])
          exact q _ _ (.deed F2 F3) (((k1.trans k2).trans k3).trans (s.kp p)) (c3.same s) (fdeed upd_same ((p2.keep (c2.tk k3)).same s) (p3.same s)) (by show 1 + max F2.height F3.height ≤ hi; omega)
        · refine ⟨_, rfl, _, rfl, _, _, rfl, rfl, p, hi - 1, by show [V.ref p, V.int ((hi : Int) - 1)] = _; rw [e1], c1, by omega, by omega, fun H2 v2 F2 k2 c2 p2 h2 => ⟨small_sz (by simp), fun t nt => ?_⟩⟩
          have s := Same.new nt (o := .tup [.str "box", v2])
          exact q _ _ (.box F2) ((k1.trans k2).trans (s.kp p)) (c2.same s) (fbox upd_same (p2.same s)) (by show 1 + F2.height ≤ hi; omega)
/-! ### near -/
def NearTo (hi : Nat) (G F : Form) : Prop := near G F = true ∧ G.height ≤ max F.height hi ∧ (F.low1 → G.low1)
def sp_nearD (n : Nat) : Sp := fun vs H Q _ => ∃ (p : Addr) (v : V) (F : Form) (hi : Nat), vs = [.ref p, v, .int (hi : Nat)] ∧ PotAt H p ∧ Pd H v F.d ∧ F.height < n ∧ F.height ≤ 60 ∧ hi ≤ 2 ∧
  ∀ H' u G, Kp p H H' → PotAt H' p → Pd H' u (Form.d G) → NearTo hi G F → Q u H'
theorem cut_one (x y : V) (xs : List V) : cutV (x :: y :: xs) none (some 1) = [x] := by
  rw [show (1 : Int) = ((1 : Nat) : Int) from rfl, cut_take]
  rfl
theorem one_ne (x y : V) (xs : List V) : ¬ HT.sIx (x :: y :: xs).length (x :: y :: xs).length (some 1) = (x :: y :: xs).length := by
  rw [show (1 : Int) = ((1 : Nat) : Int) from rfl, HT.sIx_nat, List.length_cons, List.length_cons]
  omega
theorem prt_pos {F : Form} (h : str? F = false) : 1 ≤ (prt F).length := by
  cases F with
  | deed => simp [prt]
  | box => simp [prt]
  | any => cases h
  | num => cases h
  | text => cases h
/-- the form of the parts' kin -/
theorem near_build {F : Form} (hs : str? F = false) {hi : Nat} (h2 : hi ≤ 2) {Gs : List Form} (hl : Gs.length = (prt F).length) (h : ∀ (j : Nat) (G A : Form), Gs[j]? = some G → (prt F)[j]? = some A → NearTo (hi - 1) G A) :
    ∃ G, hd1 G = hd1 F ∧ prt G = Gs ∧ str? G = false ∧ NearTo hi G F := by
  cases F with
  | deed a b =>
    match Gs, hl with
    | [x, y], _ =>
      obtain ⟨n1, g1, l1⟩ := h 0 x a rfl rfl
      obtain ⟨n2, g2, l2⟩ := h 1 y b rfl rfl
      refine ⟨.deed x y, rfl, rfl, rfl, by simp only [near, n1, n2, Bool.and_self], ?_, ?_⟩
      · show 1 + max x.height y.height ≤ max (1 + max a.height b.height) hi
        rcases Nat.eq_zero_or_pos hi with z | z
        · subst z; omega
        · omega
      · rintro ⟨w1, w2⟩
        exact ⟨by omega, l2 w2⟩
  | box a =>
    match Gs, hl with
    | [x], _ =>
      obtain ⟨n1, g1, l1⟩ := h 0 x a rfl rfl
      refine ⟨.box x, rfl, rfl, rfl, n1, ?_, fun w => l1 w⟩
      show 1 + x.height ≤ max (1 + a.height) hi
      omega
  | _ => cases hs
theorem fd_mk {H : Hp} {p : Addr} {xs : List V} (G : Form) (hs : str? G = false) (hp : H p = some (.tup (.str (hd1 G) :: xs))) (h : PdAll H xs ((prt G).map Form.d)) : Pd H (.ref p) G.d := by
  cases G with
  | deed a b => exact .tup hp (.cons (.str _) h)
  | box a => exact .tup hp (.cons (.str _) h)
  | _ => cases hs
theorem numtext (F : Form) : ([PyData.str "num", .str "text"].any fun z => PyData.eqv z F.d) = (decide (F = .num) || decide (F = .text)) := by
  rw [← num_d, ← text_d]
  simp only [List.any_cons, List.any_nil, Bool.or_false, eqv_form]
  rw [show decide (Form.num = F) = decide (F = .num) from decide_eq_decide.mpr eq_comm, show decide (Form.text = F) = decide (F = .text) from decide_eq_decide.mpr eq_comm]
theorem nt_true {F : Form} (hs : str? F = true) (ha : ¬ F = .any) : (decide (F = .num) || decide (F = .text)) = true := by
  cases F with
  | any => exact absurd rfl ha
  | num => rfl
  | text => rfl
  | deed => cases hs
  | box => cases hs
theorem nt_false {F : Form} (hs : str? F = false) : (decide (F = .num) || decide (F = .text)) = false := by
  cases F with
  | any => cases hs
  | num => cases hs
  | text => cases hs
  | deed => rfl
  | box => rfl
theorem sc_law_near : FnScope ["_law_pot_here", "_law_form_here", "_law_high", "_law_part"] ["_law_pot_here", "_law_form_here", "_law_high"] (defScope s__law_near) := ⟨rfl, rfl, rfl, by decide +kernel, rfl, by decide +kernel, by decide +kernel⟩
theorem ok_law_near (T : Tx w K mg) (k : Nat) : ∀ n, Held P w K mg base (k + n + 5) (fL K "_law_near") (sp_nearD n)
  | 0 => by
    have G_law_digit := ok_law_digit (P := P) (base := base) T (k + 3)
    have G_law_form := ok_law_form (P := P) (base := base) T k 3
    refine FunD.held T.f__law_near sc_law_near (fun _ _ _ _ _ _ us hl => match us, hl with | [_, _, _], _ => rfl) (fun vs H Q E h => ?len) (fun fd cdv A outer s H vs Q E hr h => ?body)
    case len => obtain ⟨p, v, F, hi, rfl, _⟩ := h; rfl
    case body => obtain ⟨p, v, F, hi, rfl, _, _, h, _⟩ := h; exact absurd h (Nat.not_lt_zero _)
  | n + 1 => by
    have G_law_near := ok_law_near T k n
    have G_law_digit := ok_law_digit (P := P) (base := base) T (k + n + 4)
    have G_law_form := ok_law_form (P := P) (base := base) T (k + n + 1) 3
    refine FunD.held T.f__law_near sc_law_near (fun _ _ _ _ _ _ us hl => match us, hl with | [_, _, _], _ => rfl) (fun vs H Q E h => ?len) (fun fd cdv A outer s H vs Q E hr h => ?body)
    case len => obtain ⟨p, v, F, hi, rfl, _⟩ := h; rfl
    case body =>
      obtain ⟨p, v, F, hi, rfl, hp, hv, hn, h60, h2, q⟩ := h
      have hu65 := Room.u65 hr
      refine ⟨_, (pss_cons (ps_if (pt_cmpR op_eq (pe_cl G_law_digit hr T.g__law_digit (pa_cons (pv 0) (pa_cons pe_int pa_nil))) pe_int (nomark _)) (pss_one (ps_ret pe_str)) pss_nil)
      (pss_cons (ps_if (pt_cmpR (op_eqD hr.units) (pv 1) pe_str (nomark _)) (pss_one (ps_ret (pe_cl G_law_form hr T.g__law_form (pa_cons (pv 0) (pa_cons (pv 2) pa_nil))))) pss_nil)
      (pss_cons (ps_if (pt_cmpR (op_inDT hu65) (pv 1) (pe_tup (pa_cons pe_str (pa_cons pe_str pa_nil))) (by rfl)) (pss_one (ps_ret (pv 1))) pss_nil)
      (pss_one (ps_ret (pe_op op_catA (pe_slice sl_tupA (pv 1) po_none (po_some pe_int)) (pe_callTy call_tuple_of (by rfl) T.b_tuple (by decide +kernel) (pa_cons (pe_lc (own := [("_law_part", 3)]) rfl sc_law_near.nd (pi_tup (pe_slice sl_tupA (pv 1) (po_some pe_int) po_none)) (blkOk_by (own := [("_law_part", 3)]) (N := ["_law_pot_here", "_law_form_here", "_law_high", "_law_part"]) (sc := defScope s__law_near) (by decide +kernel)) (fun _ _ _ _ _ => (pg_name (i := 3) sc_law_near.nd rfl (Or.inl rfl))) (fun _ _ _ _ _ => pts_nil) (fun _ _ _ _ _ => (pe_cl G_law_near hr T.g__law_near (pa_cons (pv 0) (pa_cons (pv 3) (pa_cons (pe_callB (call_max2 rfl) (by rfl) T.b_max (by decide +kernel) (pa_cons pe_int (pa_cons (pe_op op_sub (pv 2) pe_int) pa_nil))) pa_nil)))))) pa_nil)))))))), ?_⟩
      refine ⟨_, rfl, p, 4, rfl, hp, by decide, by decide, fun H1 wd k1 c1 w0 w6 => ⟨rfl, _, rfl, ite2 (fun _ => ?_) (fun _ => ?_)⟩⟩
      · exact q _ _ .any k1 c1 (fany _) ⟨any_near _, Nat.zero_le _, fun _ => True.intro⟩
      have hv1 := hv.keep (hp.tk k1)
      refine ⟨_, rfl, _, _, hv1.dp, .str _, shaped_form F h60, sany, _, rfl, ?_⟩
      rw [← any_d, eqv_form]
      by_cases hFa : F = .any
      · subst hFa
        refine itD rfl ⟨_, rfl, _, rfl, p, hi, rfl, c1, by omega, by omega, fun H2 u G k2 c2 pu hG => ?_⟩
        exact q _ _ G (k1.trans k2) c2 pu ⟨near_any G, by omega, fun _ => low1_of G (by omega)⟩
      refine itDn hFa ⟨_, rfl, small_sz (by simp), fun t nt => ?_⟩
      have st1 := Same.new nt (o := .tup [V.str "num", .str "text"])
      have hv2 := hv1.same st1
      have c2 := c1.same st1
      have k2 := k1.trans (st1.kp p)
      refine ⟨_, _, hv2.dp, .tup (st upd_same) (.cons (.str _) (.cons (.str _) .nil)), shaped_form F h60, by decide +kernel, _, rfl, ?_⟩
      rw [numtext]
      generalize (upd H1 t (.tup [V.str "num", .str "text"])) = H2 at st1 hv2 c2 k2
      cases hs : str? F with
      | true =>
        have : (decide (F = .num) || decide (F = .text)) = true := by
          exact nt_true hs hFa
        rw [this]
        exact iteT ⟨_, rfl, q _ _ F k2 c2 hv2 ⟨near_refl F, by omega, fun h => h⟩⟩
      | false =>
        have : (decide (F = .num) || decide (F = .text)) = false := by
          exact nt_false hs
        rw [this]
        obtain ⟨pf, xs, rfl, hpf, hxs⟩ := fd_tup F hv2 hs
        have hlx : xs.length = (prt F).length := by rw [hxs.length, List.length_map]
        have hpl := prt_len F
        have hp1 := prt_pos hs
        obtain ⟨x0, xr, rfl⟩ : ∃ x0 xr, xs = x0 :: xr := by
          cases xs with
          | nil => simp at hlx; omega
          | cons a r => exact ⟨a, r, rfl⟩
        refine iteF ⟨_, rfl, _, rfl, pf, _, rfl, st hpf, fun z => absurd z.2 (one_ne _ _ _), fun _ t1 nt1 => ?_⟩
        rw [cut_one]
        have s3 := Same.new nt1 (o := .tup [V.str (hd1 F)])
        refine ⟨_, rfl, _, rfl, pf, _, rfl, st (s3 _ _ hpf), fun z => absurd z.1 (tail_ne _ _), fun _ t2 nt2 => ⟨t2, rfl, ⟨_, st upd_same⟩, fun D hD => ?_⟩⟩
        rw [cut_tail] at *
        have s4 := s3.trans (Same.new nt2 (o := .tup (x0 :: xr)))
        have e1 : (upd (upd H2 t1 (.tup [V.str (hd1 F)])) t2 (.tup (x0 :: xr))) t1 = some (.tup [V.str (hd1 F)]) := Same.new nt2 _ _ upd_same
        have e2 : (upd (upd H2 t1 (.tup [V.str (hd1 F)])) t2 (.tup (x0 :: xr))) t2 = some (.tup (x0 :: xr)) := upd_same
        generalize (upd (upd H2 t1 (.tup [V.str (hd1 F)])) t2 (.tup (x0 :: xr))) = H4 at s4 e1 e2 hD
        have c4 := c2.same s4
        have hDp := pot_ne c4 hD
        refine lcS (src_tup (xs := x0 :: xr)) (fun i acc H' => Kp p H4 H' ∧ PotAt H' p ∧ ∃ Gs : List Form, Gs.length = i ∧ PdAll H' acc (Gs.map Form.d) ∧ ∀ (j : Nat) (G A : Form), Gs[j]? = some G → (prt F)[j]? = some A → NearTo (hi - 1) G A) (small_sz (by omega)) ⟨(Kp.refl _ _).upd hD, ?_, [], rfl, .nil, fun (j : Nat) (G A : Form) (h : ([] : List Form)[j]? = some G) => by simp at h⟩ (fun i acc H' pv => st (pv.1 _ _ (fun z => c4.ntup _ (by rw [← z]; exact e2)) e2)) (fun j z acc H' H5 KK K2 hj hla pv hDl sm hI k1' _ => ?_) (fun acc H' hla pv e => ?_)
        · obtain ⟨a, b, hab, r⟩ := c4
          exact ⟨a, b, by rw [upd_ne (Ne.symm hDp)]; exact hab, r⟩
        · obtain ⟨kp, cp, Gs, hGl, pG, hG⟩ := pv
          have k5 := kp.trans (sm.kp p)
          have c5 := cp.same sm
          have tk5 : TK H2 H5 := s4.tk.trans (c4.tk k5)
          obtain ⟨A, eA, pA⟩ := PdAll.atG (hxs.keep tk5) hI
          have hA := prt_height (Nat.le_of_lt_succ hn) A (List.mem_of_getElem? eA)
          have hA2 := prt_height h60 A (List.mem_of_getElem? eA)
          have em : (if ((hi : Int) - 1 > 0) then (hi : Int) - 1 else 0) = ((hi - 1 : Nat) : Int) := by split <;> omega
          refine ⟨rfl, _, rfl, _, rfl, _, rfl, _, _, rfl, rfl, _, _, rfl, p, z, A, hi - 1, by rw [← em], c5, pA, by omega, by omega, by omega, fun H6 u G k6 c6 pu hNG => ?_⟩
          have eD6 := k6 _ _ hDp (sm _ _ hDl)
          have tk : TK H6 (upd H6 D (.lst (acc ++ [u]))) := tk_lst (.mut D H6 _) eD6
          refine k1' _ _ eD6 ⟨(k5.trans k6).upd hD, ?_, Gs ++ [G], by rw [List.length_append, hGl]; rfl, ?_, ?_⟩
          · obtain ⟨a, b, hab, r⟩ := c6
            exact ⟨a, b, by rw [upd_ne (Ne.symm hDp)]; exact hab, r⟩
          · rw [List.map_append]
            exact ((((pG.same sm).keep (c5.tk k6)).keep tk)).app (.one (pu.keep tk))
          · intro j' G' A' h1 h2'
            rw [List.getElem?_append] at h1
            split at h1
            · exact hG j' G' A' h1 h2'
            · rename_i hlt
              have ej : j' = j := by
                have : j' - Gs.length < 1 := by
                  have := (List.getElem?_eq_some_iff.mp h1).1
                  simpa using this
                omega
              subst ej
              rw [hGl, Nat.sub_self] at h1
              cases h1
              rw [eA] at h2'
              cases h2'
              exact hNG
        · obtain ⟨kp, cp, Gs, hGl, pG, hG⟩ := pv
          obtain ⟨G, g1, g2, g3, g4⟩ := near_build hs h2 (by rw [hGl]; exact hlx) hG
          have k6 : Kp p H H' := (k2.trans (s4.kp p)).trans kp
          refine ⟨D, acc, rfl, .inl ⟨sl e, fun t3 nt3 => ?_⟩⟩
          have s5 := Same.new nt3 (o := .tup acc)
          have e1' := kp _ _ (fun z => c4.ntup _ (by rw [← z]; exact e1)) e1
          have hal : acc.length = (x0 :: xr).length := by rw [pG.length, List.length_map, hGl]
          refine ⟨t1, t3, _, acc, rfl, rfl, st (s5 _ _ e1'), st upd_same, small_sz (by rw [hal, List.length_cons]; simp at hlx ⊢; omega), fun z => (List.cons_ne_nil _ _ z).elim, fun _ z => ?_, fun _ _ p4 np4 => ?_⟩
          · rw [z] at hal
            simp at hal
          · have s6 := s5.trans (Same.new np4 (o := .tup ([V.str (hd1 F)] ++ acc)))
            refine q _ _ G (k6.trans (s6.kp p)) (cp.same s6) (fd_mk G g3 (by rw [g1]; exact upd_same) ?_) g4
            rw [g2]
            exact pG.same s6
end
end WS
set_option Elab.async false
set_option linter.all false
set_option maxRecDepth 100000
set_option maxHeartbeats 4000000
namespace WS
open PySem L2
structure PlainOk (F : Form) (t : Term) : Prop where
  ok : ∀ g, Ok g t ∧ fo g t = F
  wr : Wr t
  dp : t.depth ≤ F.height + 2
  sz : t.sz ≤ F.height + 2
theorem anynum (F : Form) : ([PyData.str "any", .str "num"].any fun z => PyData.eqv z F.d) = (decide (F = .any) || decide (F = .num)) := by
  rw [← num_d, ← any_d]
  simp only [List.any_cons, List.any_nil, Bool.or_false, eqv_form]
  rw [show decide (Form.num = F) = decide (F = .num) from decide_eq_decide.mpr eq_comm, show decide (Form.any = F) = decide (F = .any) from decide_eq_decide.mpr eq_comm]
theorem atI_mem {α : Type} {xs : List α} {d : Int} {v : α} (h : atI xs d = some v) : v ∈ xs := by
  unfold atI at h
  rw [Option.bind_eq_some_iff] at h
  obtain ⟨j, _, hj⟩ := h
  exact List.mem_of_getElem? hj
section
variable {P : Program} {w : World} {K : PySem.W.Frag} {mg : Str → Option Value} {base : Heap}
def sp_plain (n : Nat) : Sp := fun vs H Q _ => ∃ (p : Addr) (v : V) (F : Form), vs = [.ref p, v] ∧ PotAt H p ∧ Pd H v F.d ∧ F.height < n ∧ F.height ≤ 5 ∧
  ∀ H' u t, Kp p H H' → PotAt H' p → Pd H' u (Term.d t) → PlainOk F t → Q u H'
theorem sc_law_plain : FnScope ["_law_pot_here", "_law_form_here", "_law_found"] ["_law_pot_here", "_law_form_here"] (defScope s__law_plain) := ⟨rfl, rfl, rfl, by decide +kernel, rfl, by decide +kernel, by decide +kernel⟩
theorem ok_law_plain (T : Tx w K mg) (k : Nat) : ∀ n, Held P w K mg base (k + n + 1) (fL K "_law_plain") (sp_plain n)
  | 0 => by
    have G_law_digit := ok_law_digit (P := P) (base := base) T k
    refine FunD.held T.f__law_plain sc_law_plain (fun _ _ _ _ _ _ us hl => match us, hl with | [_, _], _ => rfl) (fun vs H Q E h => ?len) (fun fd cdv A outer s H vs Q E hr h => ?body)
    case len => obtain ⟨p, v, F, rfl, _⟩ := h; rfl
    case body => obtain ⟨p, v, F, rfl, _, _, h, _⟩ := h; exact absurd h (Nat.not_lt_zero _)
  | n + 1 => by
    have G_law_plain := ok_law_plain T k n
    have G_law_digit := ok_law_digit (P := P) (base := base) T (k + n)
    refine FunD.held T.f__law_plain sc_law_plain (fun _ _ _ _ _ _ us hl => match us, hl with | [_, _], _ => rfl) (fun vs H Q E h => ?len) (fun fd cdv A outer s H vs Q E hr h => ?body)
    case len => obtain ⟨p, v, F, rfl, _⟩ := h; rfl
    case body =>
      obtain ⟨p, v, F, rfl, hp, hv, hn, h5, q⟩ := h
      have hu65 := Room.u65 hr
      have h60 : F.height ≤ 60 := by omega
      refine ⟨_, (pss_cons (ps_if (pt_cmpR (op_inDT hu65) (pv 1) (pe_tup (pa_cons pe_str (pa_cons pe_str pa_nil))) (by rfl)) (pss_cons (ps_set (i := 2) sc_law_plain.nd rfl (by first | exact Or.inl rfl | exact Or.inr rfl) (pe_tup (pa_cons pe_str (pa_cons (pe_ix ix_list (pe_lst (pa_cons pe_int (pa_cons pe_int (pa_cons (pe_op op_sub (pe_cl G_law_digit hr T.g__law_digit (pa_cons (pv 0) (pa_cons pe_int pa_nil))) pe_int) (pa_cons (pe_op op_sub (pe_op op_pow pe_int pe_int) pe_int) pa_nil))))) (pe_cl G_law_digit hr T.g__law_digit (pa_cons (pv 0) (pa_cons pe_int pa_nil))) (fun _ _ => rfl)) pa_nil))))
      (pss_one (ps_ret (pe_ifExp (pt_cmpR (op_eqD hr.units) (pv 1) pe_str (nomark _)) (pv 2) (pe_tup (pa_cons pe_str (pa_cons pe_str (pa_cons (pv 2) pa_nil)))))))) pss_nil)
      (pss_cons (ps_if (pt_cmpR (op_eqD hr.units) (pv 1) pe_str (nomark _)) (pss_one (ps_ret (pe_tup (pa_cons pe_str (pa_cons (pe_ix ix_list (pe_lst (pa_cons pe_str (pa_cons pe_str (pa_cons pe_str pa_nil)))) (pe_cl G_law_digit hr T.g__law_digit (pa_cons (pv 0) (pa_cons pe_int pa_nil))) (fun _ _ => rfl)) pa_nil))))) pss_nil)
      (pss_cons (ps_if (pt_cmpR (op_eqD hr.units) (pe_ix ix_tup (pv 1) pe_int (fun _ _ => rfl)) pe_str (nomark _)) (pss_one (ps_ret (pe_tup (pa_cons pe_str (pa_cons pe_str (pa_cons (pe_ix ix_tup (pv 1) pe_int (fun _ _ => rfl)) (pa_cons (pe_cl G_law_plain hr T.g__law_plain (pa_cons (pv 0) (pa_cons (pe_ix ix_tup (pv 1) pe_int (fun _ _ => rfl)) pa_nil))) pa_nil))))))) pss_nil)
      (pss_one (ps_ret (pe_tup (pa_cons pe_str (pa_cons (pe_ix ix_tup (pv 1) pe_int (fun _ _ => rfl)) (pa_cons (pe_cl G_law_plain hr T.g__law_plain (pa_cons (pv 0) (pa_cons (pe_ix ix_tup (pv 1) pe_int (fun _ _ => rfl)) pa_nil))) pa_nil))))))))), ?_⟩
      refine ⟨_, rfl, small_sz (by simp), fun t nt => ?_⟩
      have s1 := Same.new nt (o := .tup [V.str "any", .str "num"])
      have hv1 := hv.same s1
      have c1 := hp.same s1
      have k1 := s1.kp p
      refine ⟨_, _, hv1.dp, .tup (st upd_same) (.cons (.str _) (.cons (.str _) .nil)), shaped_form F h60, by decide +kernel, _, rfl, ?_⟩
      rw [anynum]
      generalize (upd H t (.tup [V.str "any", .str "num"])) = H1 at s1 hv1 c1 k1
      by_cases hF : F = .any ∨ F = .num
      · have e : (decide (F = .any) || decide (F = .num)) = true := by
          rcases hF with e | e
          · rw [decide_eq_true e]; rfl
          · rw [decide_eq_true e, Bool.or_true]
        rw [e]
        refine iteT ⟨_, rfl, p, 40, rfl, c1, by decide, by decide, fun H2 d2 k2 c2 a1 a2 => ?_⟩
        refine ⟨_, _, rfl, rfl, _, _, rfl, rfl, ⟨by decide, by decide, by decide⟩, _, _, rfl, rfl, small_sz (by simp), fun l nl => ?_⟩
        have s2 := Same.new nl (o := .lst [V.int 0, .int 1, .int (d2 - 20), .int (10 ^ (30 : Int).toNat - 1)])
        have hlp := pot_ne c2 nl
        refine ⟨_, rfl, p, 4, rfl, c2.same s2, by decide, by decide, fun H3 d3 k3 c3 b1 b2 => ?_⟩
        have el := k3 l _ hlp (upd_same (H := H2) (o := .lst [V.int 0, .int 1, .int (d2 - 20), .int (10 ^ (30 : Int).toNat - 1)]))
        have ea := atN [V.int 0, .int 1, .int (d2 - 20), .int (10 ^ (30 : Int).toNat - 1)] d3 b1 (by simpa using b2)
        have hi : ∃ z : Int, ([V.int 0, .int 1, .int (d2 - 20), .int (10 ^ (30 : Int).toNat - 1)] : List V)[d3.toNat]'(by simp; omega) = .int z ∧ z.natAbs < 10 ^ 31 := by
          have hm := atI_mem ea
          generalize ([V.int 0, .int 1, .int (d2 - 20), .int (10 ^ (30 : Int).toNat - 1)] : List V)[d3.toNat]'(by simp; omega) = x at hm
          simp only [List.mem_cons, List.not_mem_nil, or_false] at hm
          rcases hm with rfl | rfl | rfl | rfl
          · exact ⟨_, rfl, by decide⟩
          · exact ⟨_, rfl, by decide⟩
          · refine ⟨_, rfl, Nat.lt_of_lt_of_le (m := 100) (by omega) (by decide)⟩
          · exact ⟨_, rfl, by decide +kernel⟩
        obtain ⟨z, ez, hz⟩ := hi
        rw [ez] at ea
        refine ⟨l, _, d3, _, rfl, rfl, sl el, ea, small_sz (by simp), fun f nf => ?_⟩
        have s3 := Same.new nf (o := .tup [V.str "number", .int z])
        have k4 : Kp p H (upd H3 f (.tup [V.str "number", .int z])) := (((k1.trans k2).trans (s2.kp p)).trans k3).trans (s3.kp p)
        have c4 := c3.same s3
        have hv4 := hv.keep (hp.tk k4)
        have pf : Pd (upd H3 f (.tup [V.str "number", .int z])) (.ref f) (Term.number z).d := .m2 upd_same (.str _) (.int _)
        generalize (upd H3 f (.tup [V.str "number", .int z])) = H4 at k4 c4 hv4 pf
        refine ⟨_, rfl, _, _, hv4.dp, .str _, shaped_form F h60, by decide +kernel, _, rfl, ?_⟩
        rw [← num_d, eqv_form]
        by_cases hFn : F = .num
        · subst hFn
          exact itD rfl ⟨_, rfl, q _ _ _ k4 c4 pf ⟨fun g => ⟨True.intro, rfl⟩, hz, by simp [Term.depth, Form.height], by simp [Term.sz, Form.height]⟩⟩
        · have hFa : F = .any := hF.resolve_right hFn
          subst hFa
          refine itDn hFn ⟨_, rfl, small_sz (by simp), fun t2 nt2 => ?_⟩
          have s5 := Same.new nt2 (o := .tup [V.str "tell", .str "any", .ref f])
          exact q _ _ (.tell .any (.number z)) (k4.trans (s5.kp p)) (c4.same s5) (.m3 upd_same (.str _) (.str _) (pf.same s5)) ⟨fun g => ⟨⟨True.intro, rfl⟩, rfl⟩, ⟨Nat.zero_le _, hz⟩, by simp [Term.depth, Form.height], by simp [Term.sz, Form.height]⟩
      · have e : (decide (F = .any) || decide (F = .num)) = false := by
          rw [decide_eq_false (fun e => hF (.inl e)), decide_eq_false (fun e => hF (.inr e))]
          rfl
        rw [e]
        refine iteF ⟨_, rfl, _, _, hv1.dp, .str _, shaped_form F h60, by decide +kernel, _, rfl, ?_⟩
        rw [← text_d, eqv_form]
        by_cases hFt : F = .text
        · subst hFt
          refine itD rfl ⟨small_sz (by simp), fun l nl => ?_⟩
          have s2 := Same.new nl (o := .lst [V.str "", .str "a", .str "zebra"])
          refine ⟨_, rfl, p, 3, rfl, c1.same s2, by decide, by decide, fun H3 d3 k3 c3 b1 b2 => ?_⟩
          have el := k3 l _ (pot_ne c1 nl) (upd_same (H := H1) (o := .lst [V.str "", .str "a", .str "zebra"]))
          have ea := atN [V.str "", .str "a", .str "zebra"] d3 b1 (by simpa using b2)
          have hm := atI_mem ea
          have hi : ∃ z : Str, ([V.str "", .str "a", .str "zebra"] : List V)[d3.toNat]'(by simp; omega) = .str z ∧ z.length ≤ 8 ∧ letters z := by
            generalize ([V.str "", .str "a", .str "zebra"] : List V)[d3.toNat]'(by simp; omega) = x at hm
            simp only [List.mem_cons, List.not_mem_nil, or_false] at hm
            rcases hm with rfl | rfl | rfl
            · exact ⟨_, rfl, by decide, by unfold letters letter; decide⟩
            · exact ⟨_, rfl, by decide, by unfold letters letter; decide⟩
            · exact ⟨_, rfl, by decide, by unfold letters letter; decide⟩
          obtain ⟨z, ez, hz⟩ := hi
          rw [ez] at ea
          refine ⟨l, _, d3, _, rfl, rfl, sl el, ea, small_sz (by simp), fun f nf => ?_⟩
          have s3 := Same.new nf (o := .tup [V.str "text", .str z])
          exact q _ _ (.txt z) (((k1.trans (s2.kp p)).trans k3).trans (s3.kp p)) (c3.same s3) (.m2 upd_same (.str _) (.str _)) ⟨fun g => ⟨True.intro, rfl⟩, hz, by simp [Term.depth, Form.height], by simp [Term.sz, Form.height]⟩
        refine itDn hFt ?_
        rcases fd_cases F hv1 with ⟨rfl, _⟩ | ⟨rfl, _⟩ | ⟨rfl, _⟩ | ⟨a, b, pf, x, y, rfl, rfl, hpf, hx, hy⟩ | ⟨a, pf, x, rfl, rfl, hpf, hx⟩
        · exact absurd (.inl rfl) hF
        · exact absurd (.inr rfl) hF
        · exact absurd rfl hFt
        · refine ⟨_, rfl, pf, _, _, _, rfl, rfl, st hpf, at0 _ _, _, _, .str _, .str _, sdeed, sdeed, _, rfl, ?_⟩
          rw [eqv_str]
          have hh : 1 + max a.height b.height < n + 1 := hn
          have hh5 : 1 + max a.height b.height ≤ 5 := h5
          refine itD rfl ⟨_, rfl, pf, _, _, _, rfl, rfl, st hpf, by rfl, _, rfl, _, rfl, pf, _, _, _, rfl, rfl, st hpf, by rfl, p, y, b, rfl, c1, hy, by omega, by omega, fun H2 u t k2 c2 pu ht => ⟨small_sz (by simp), fun z nz => ?_⟩⟩
          have s3 := Same.new nz (o := .tup [V.str "deed", .str "p", x, u])
          refine q _ _ (.deed "p" a t) ((k1.trans k2).trans (s3.kp p)) (c2.same s3) (.m4 upd_same (.str _) (.str _) ((hx.keep (c1.tk k2)).same s3) (pu.same s3)) ⟨fun g => ⟨⟨(ht.ok _).1, by omega, by rw [(ht.ok _).2]; omega⟩, ?_⟩, ⟨⟨by decide, by decide, by unfold letters letter; decide⟩, by omega, ht.wr⟩, ?_, ?_⟩
          · show Form.deed a (fo (g ++ [(("p" : Str), a)]) t) = _
            rw [(ht.ok _).2]
          · have := ht.dp
            show 1 + t.depth ≤ 1 + max a.height b.height + 2
            omega
          · have := ht.sz
            show 1 + t.sz ≤ 1 + max a.height b.height + 2
            omega
        · refine ⟨_, rfl, pf, _, _, _, rfl, rfl, st hpf, at0 _ _, _, _, .str _, .str _, by decide +kernel, sdeed, _, rfl, ?_⟩
          rw [eqv_str]
          have hh : 1 + a.height < n + 1 := hn
          have hh5 : 1 + a.height ≤ 5 := h5
          refine itDn (by decide) ⟨_, rfl, pf, _, _, _, rfl, rfl, st hpf, by rfl, _, rfl, _, rfl, pf, _, _, _, rfl, rfl, st hpf, by rfl, p, x, a, rfl, c1, hx, by omega, by omega, fun H2 u t k2 c2 pu ht => ⟨small_sz (by simp), fun z nz => ?_⟩⟩
          have s3 := Same.new nz (o := .tup [V.str "box", x, u])
          refine q _ _ (.box a t) ((k1.trans k2).trans (s3.kp p)) (c2.same s3) (.m3 upd_same (.str _) ((hx.keep (c1.tk k2)).same s3) (pu.same s3)) ⟨fun g => ⟨⟨(ht.ok _).1, by rw [(ht.ok _).2]; exact near_refl a, by omega⟩, rfl⟩, ⟨by omega, ht.wr⟩, ?_, ?_⟩
          · have := ht.dp
            show 1 + t.depth ≤ 1 + a.height + 2
            omega
          · have := ht.sz
            show 1 + t.sz ≤ 1 + a.height + 2
            omega
end
end WS
set_option Elab.async false
set_option linter.all false
set_option maxRecDepth 100000
set_option maxHeartbeats 4000000
namespace WS
open PySem L2
theorem letters_app {x y : Str} (hx : letters x) (hy : letters y) : letters (x ++ y) := fun c hc => by
  rw [Str.cps_append, Array.toList_append, List.mem_append] at hc
  rcases hc with h | h
  · exact hx c h
  · exact hy c h
theorem join_one : ∀ ys : List Str, (∀ y ∈ ys, y.length = 1 ∧ letters y) → (Str.join "" ys).length = ys.length ∧ letters (Str.join "" ys)
  | [], _ => ⟨rfl, fun c hc => absurd (show c ∈ ([] : List Nat) from hc) (by simp)⟩
  | [a], h => h a List.mem_cons_self
  | a :: b :: r, h => by
    obtain ⟨h1, h2⟩ := h a List.mem_cons_self
    obtain ⟨h3, h4⟩ := join_one (b :: r) fun y hy => h y (List.mem_cons_of_mem _ hy)
    have e0 : ("" : Str).length = 0 := by decide
    have el : letters ("" : Str) := by unfold letters letter; decide
    refine ⟨?_, ?_⟩
    · show (a ++ "" ++ Str.join "" (b :: r)).length = _
      rw [Str.length_append, Str.length_append, h1, h3, e0]
      simp only [List.length_cons]
      omega
    · show letters (a ++ "" ++ Str.join "" (b :: r))
      exact letters_app (letters_app h2 el) h4
theorem cutS_take (z : Str) (d : Nat) (h : d ≤ z.length) : (cutS z none (some (d : Int))).cps.toList = z.cps.toList.take d := by
  show (((z.cps.toList.drop (HT.sIx z.length 0 none)).take (HT.sIx z.length z.length (some (d : Int)) - HT.sIx z.length 0 none)).toArray).toList = _
  rw [HT.sIx_nat, HT.sIx_none, List.drop_zero, Nat.sub_zero, Nat.min_eq_left h]
theorem cutS_ok (z : Str) (d : Nat) (h : d ≤ z.length) (hz : letters z) : (cutS z none (some (d : Int))).length = d ∧ letters (cutS z none (some (d : Int))) := by
  have e := cutS_take z d h
  refine ⟨?_, fun c hc => ?_⟩
  · have := congrArg List.length e
    rw [Array.length_toList, List.length_take, Array.length_toList] at this
    show (cutS z none (some (d : Int))).cps.size = d
    have h : d ≤ z.cps.size := h
    omega
  · rw [e] at hc
    exact hz c (List.mem_of_mem_take hc)
def spares : List Str := (List.range 80).map fun k => ⟨#[97 + k / 26, 97 + k % 26, 113]⟩
theorem spares_nodup : spares.Nodup := by decide +kernel
theorem spares_name : ∀ x ∈ spares, IsName x := by
  intro x hx
  obtain ⟨k, hk, rfl⟩ := List.mem_map.mp hx
  have hk := List.mem_range.mp hk
  refine ⟨by show 1 ≤ 3; decide, by show 3 ≤ 8; decide, fun c hc => ?_⟩
  have hc : c ∈ [97 + k / 26, 97 + k % 26, 113] := hc
  simp only [List.mem_cons, List.not_mem_nil, or_false] at hc
  unfold letter
  rcases hc with rfl | rfl | rfl <;> omega
theorem nd_le : ∀ (l m : List Str), l.Nodup → l ⊆ m → l.length ≤ m.length
  | [], _, _, _ => Nat.zero_le _
  | a :: r, m, nd, hs => by
    rw [List.nodup_cons] at nd
    have ha : a ∈ m := hs List.mem_cons_self
    have h1 := nd_le r (m.erase a) nd.2 fun x hx => (List.mem_erase_of_ne (fun e => nd.1 (by rw [← e]; exact hx))).mpr (hs (List.mem_cons_of_mem _ hx))
    rw [List.length_erase_of_mem ha] at h1
    have := List.length_pos_of_mem ha
    rw [List.length_cons]
    omega
theorem spare_some (used : List Str) (h : used.length ≤ 20) : ∃ x r, spares.filter (fun x => decide (x ∉ used)) = x :: r := by
  cases e : spares.filter (fun x => decide (x ∉ used)) with
  | cons x r => exact ⟨x, r, rfl⟩
  | nil =>
    exfalso
    have hs : spares ⊆ used := fun x hx => by
      by_cases hu : x ∈ used
      · exact hu
      · have : x ∈ spares.filter (fun x => decide (x ∉ used)) := List.mem_filter.mpr ⟨hx, decide_eq_true hu⟩
        rw [e] at this
        cases this
    have := nd_le spares used spares_nodup hs
    have l80 : spares.length = 80 := by decide +kernel
    omega
theorem abc_at (i : Int) (h0 : 0 ≤ i) (h : i < 26) : atI ("abcdefghijklmnopqrstuvwxyz" : Str).cps.toList i = some (97 + i.toNat) := by
  have e : ("abcdefghijklmnopqrstuvwxyz" : Str).cps.toList = (List.range 26).map (· + 97) := by decide +kernel
  rw [e, atN _ i h0 (by rw [List.length_map, List.length_range]; exact h), List.getElem_map, List.getElem_range, Nat.add_comm]
section
variable {P : Program} {w : World} {K : PySem.W.Frag} {mg : Str → Option Value} {base : Heap}
def sp_law_name : Sp := fun vs H Q _ => ∃ (p l : Addr) (used : List Str), vs = [.ref p, .ref l] ∧ PotAt H p ∧ H l = some (.lst (used.map V.str)) ∧ used.length ≤ 20 ∧ (∀ x ∈ used, IsName x) ∧
  ∀ H' x, Kp p H H' → PotAt H' p → IsName x → x ∉ used → Q (.str x) H'
/-- the word so far -/
def WdSo (H : Hp) (p l : Addr) (sz : V) : St → Hp → Prop := fun σ H' => ∃ x y6, σ = [some (.ref p), some (.ref l), some (.str "abcdefghijklmnopqrstuvwxyz"), some sz, some (.str x), none, y6, none, none] ∧ Kp p H H' ∧ PotAt H' p ∧ IsName x
theorem eqv_strs_nil (used : List Str) : PyData.eqv (.list (used.map PyData.str)) (.list []) = decide (used = []) := by
  cases used with
  | nil => rfl
  | cons a r => rfl
theorem d_strs {K : PySem.W.Frag} {H : Hp} : ∀ used : List Str, DpAll K H (used.map V.str) (used.map PyData.str)
  | [] => .nil
  | a :: r => .cons (.str a) (d_strs r)
theorem lay_strs : ∀ used : List Str, (∀ x ∈ used, IsName x) → PyData.canLayAll0 (used.map PyData.str) = true ∧ PyData.depthAll (used.map PyData.str) = 0
  | [], _ => ⟨rfl, rfl⟩
  | a :: r, h => by
    obtain ⟨h1, h2⟩ := lay_strs r fun x hx => h x (List.mem_cons_of_mem _ hx)
    have ha := letters_ok (h a List.mem_cons_self).abc
    refine ⟨?_, ?_⟩
    · show (PyData.strOk a && PyData.canLayAll0 (r.map PyData.str)) = true
      rw [ha, h1]
      rfl
    · show max 0 (PyData.depthAll (r.map PyData.str)) = 0
      rw [h2]
      rfl
theorem shaped_strs (used : List Str) (h : ∀ x ∈ used, IsName x) : SeqAt.shaped (.list (used.map PyData.str)) = true := by
  obtain ⟨h1, h2⟩ := lay_strs used h
  unfold SeqAt.shaped
  show (PyData.canLayAll0 _ && decide (PyData.depthAll (used.map PyData.str) + 1 ≤ 64)) = true
  rw [h1, h2]
  rfl
theorem sc_law_name : FnScope ["_law_pot_here", "_law_used", "_law_letters", "_law_size", "_law_word", "_law_k", "_law_near_here", "_law_some", "_law_spare"] ["_law_pot_here", "_law_used"] (defScope s__law_name) := ⟨rfl, rfl, rfl, by decide +kernel, rfl, by decide +kernel, by decide +kernel⟩
theorem ok_law_name (T : Tx w K mg) (k : Nat) : Held P w K mg base (k + 2) (fL K "_law_name") sp_law_name := by
  have G_law_digit := ok_law_digit (P := P) (base := base) T k
  refine FunD.held T.f__law_name sc_law_name (fun _ _ _ _ _ _ us hl => match us, hl with | [_, _], _ => rfl) (fun vs H Q E h => ?len) (fun fd cdv A outer s H vs Q E hr h => ?body)
  case len => obtain ⟨p, l, used, rfl, _⟩ := h; rfl
  case body =>
    obtain ⟨p, l, used, rfl, hp, hl, h20, hnm, q⟩ := h
    have hlp : l ≠ p := by
      rintro rfl
      obtain ⟨a, b, e, _⟩ := hp
      rw [hl] at e
      injection e with e
      injection e with e
      cases used with
      | nil => cases e
      | cons a r => cases e
    refine ⟨_, (pss_cons (ps_set (i := 2) sc_law_name.nd rfl (by first | exact Or.inl rfl | exact Or.inr rfl) pe_str)
      (pss_cons (ps_set (i := 3) sc_law_name.nd rfl (by first | exact Or.inl rfl | exact Or.inr rfl) (pe_ix ix_list (pe_lst (pa_cons pe_int (pa_cons pe_int (pa_cons pe_int (pa_cons pe_int (pa_cons pe_int (pa_cons (pe_op op_add pe_int (pe_cl G_law_digit hr T.g__law_digit (pa_cons (pv 0) (pa_cons pe_int pa_nil)))) pa_nil))))))) (pe_cl G_law_digit hr T.g__law_digit (pa_cons (pv 0) (pa_cons pe_int pa_nil))) (fun _ _ => rfl)))
      (pss_cons (ps_set (i := 4) sc_law_name.nd rfl (by first | exact Or.inl rfl | exact Or.inr rfl) (pe_join pe_str (pe_lc (own := [("_law_k", 5)]) rfl sc_law_name.nd (pi_range1 rfl T.b_range (pa_cons (pv 3) pa_nil)) (blkOk_by (own := [("_law_k", 5)]) (N := ["_law_pot_here", "_law_used", "_law_letters", "_law_size", "_law_word", "_law_k", "_law_near_here", "_law_some", "_law_spare"]) (sc := defScope s__law_name) (by decide +kernel)) (fun _ _ _ _ _ => (pg_name (i := 5) sc_law_name.nd rfl (Or.inl rfl))) (fun _ _ _ _ _ => pts_nil) (fun _ _ _ _ _ => (pe_ix ix_str (pv 2) (pe_cl G_law_digit hr T.g__law_digit (pa_cons (pv 0) (pa_cons pe_int pa_nil))) (fun _ _ => rfl))))))
      (C8.pss_cut (ps_if (pt_cmpR op_eq (pe_cl G_law_digit hr T.g__law_digit (pa_cons (pv 0) (pa_cons pe_int pa_nil))) pe_int (nomark _)) (pss_one (ps_set (i := 4) sc_law_name.nd rfl (by first | exact Or.inl rfl | exact Or.inr rfl) (pe_ix ix_list (pe_lst (pa_cons pe_str (pa_cons pe_str (pa_cons pe_str (pa_cons pe_str (pa_cons pe_str (pa_cons pe_str (pa_cons pe_str (pa_cons pe_str pa_nil))))))))) (pe_cl G_law_digit hr T.g__law_digit (pa_cons (pv 0) (pa_cons pe_int pa_nil))) (fun _ _ => rfl)))) pss_nil)
      (C8.pss_cut (ps_if (PW.pt (pw_and (pt_cmpR (op_neD hr.units) (pv 1) (pe_lst pa_nil) (nomark _)) (pw_and1 (pt_cmpR op_eq (pe_cl G_law_digit hr T.g__law_digit (pa_cons (pv 0) (pa_cons pe_int pa_nil))) pe_int (nomark _))))) (pss_cons (ps_set (i := 6) sc_law_name.nd rfl (by first | exact Or.inl rfl | exact Or.inr rfl) (pe_ix ix_list (pv 1) (pe_cl G_law_digit hr T.g__law_digit (pa_cons (pv 0) (pa_cons (pe_callB call_len_seq (by rfl) T.b_len PySem.boot_len (pa_cons (pv 1) pa_nil)) pa_nil))) (fun _ _ => rfl)))
      (pss_one (ps_set (i := 4) sc_law_name.nd rfl (by first | exact Or.inl rfl | exact Or.inr rfl) (pe_op op_add_str (pe_slice sl_str (pv 6) po_none (po_some (pe_cl G_law_digit hr T.g__law_digit (pa_cons (pv 0) (pa_cons (pe_callB call_len_str (by rfl) T.b_len PySem.boot_len (pa_cons (pv 6) pa_nil)) pa_nil))))) (pe_slice sl_str (pv 4) po_none (po_some pe_int)))))) pss_nil)
      (C8.pss_cut (ps_if (pt_cmpR op_in_seq (pv 4) (pv 1) (by rfl)) (pss_cons (ps_setLc (i := 7) (own := [("_law_k", 5)]) rfl sc_law_name.nd rfl rfl (sw_true rfl rfl rfl (by decide +kernel)) (pi_range1 rfl T.b_range (pa_cons pe_int pa_nil)) (blkOk_by (own := [("_law_k", 5)]) (N := ["_law_pot_here", "_law_used", "_law_letters", "_law_size", "_law_word", "_law_k", "_law_near_here", "_law_some", "_law_spare"]) (sc := defScope s__law_name) (by decide +kernel)) (fun _ _ _ _ _ => (pg_name (i := 5) sc_law_name.nd rfl (Or.inl rfl))) (fun _ _ _ _ _ => pts_nil) (fun _ _ _ _ _ => (pe_op op_add_str (pe_op op_add_str (pe_ix ix_str (pv 2) (pe_op op_fdiv (pv 5) pe_int) (fun _ _ => rfl)) (pe_ix ix_str (pv 2) (pe_op op_mod (pv 5) pe_int) (fun _ _ => rfl))) pe_str)))
      (pss_one (ps_set (i := 4) sc_law_name.nd rfl (by first | exact Or.inl rfl | exact Or.inr rfl) (pe_ix ix_list (pe_lc (own := [("_law_spare", 8)]) rfl sc_law_name.nd (pi_list (pv 7)) (blkOk_by (own := [("_law_spare", 8)]) (N := ["_law_pot_here", "_law_used", "_law_letters", "_law_size", "_law_word", "_law_k", "_law_near_here", "_law_some", "_law_spare"]) (sc := defScope s__law_name) (by decide +kernel)) (fun _ _ _ _ _ => (pg_name (i := 8) sc_law_name.nd rfl (Or.inl rfl))) (fun _ _ _ _ _ => (pts_one (pt_cmpR (op_notIn_seqK (K := K)) (pv 8) (pv 1) (by rfl)))) (fun _ _ _ _ _ => (pv 8))) pe_int (fun _ _ => rfl))))) pss_nil)
      (pss_one (ps_ret (pv 4))))))))), ?_⟩
    -- the size, the word
    refine ⟨_, rfl, p, 8, rfl, hp, by decide, by decide, fun H1 d1 k1 c1 a1 a2 => ⟨_, _, rfl, rfl, small_sz (by simp), fun f nf => ?_⟩⟩
    have s1 := Same.new nf (o := .lst [V.int 1, .int 1, .int 2, .int 3, .int 8, .int (1 + d1)])
    refine ⟨_, rfl, p, 6, rfl, c1.same s1, by decide, by decide, fun H2 d2 k2 c2 b1 b2 => ?_⟩
    have ef := k2 f _ (pot_ne c1 nf) (upd_same (H := H1) (o := .lst [V.int 1, .int 1, .int 2, .int 3, .int 8, .int (1 + d1)]))
    have ea := atN [V.int 1, .int 1, .int 2, .int 3, .int 8, .int (1 + d1)] d2 b1 (by simpa using b2)
    have hm := atI_mem ea
    have hi : ∃ z : Int, ([V.int 1, .int 1, .int 2, .int 3, .int 8, .int (1 + d1)] : List V)[d2.toNat]'(by simp; omega) = .int z ∧ 1 ≤ z ∧ z ≤ 8 := by
      generalize ([V.int 1, .int 1, .int 2, .int 3, .int 8, .int (1 + d1)] : List V)[d2.toNat]'(by simp; omega) = x at hm
      simp only [List.mem_cons, List.not_mem_nil, or_false] at hm
      rcases hm with rfl | rfl | rfl | rfl | rfl | rfl <;> exact ⟨_, rfl, by omega, by omega⟩
    obtain ⟨z, ez, z1, z8⟩ := hi
    rw [ez] at ea
    have k12 := (k1.trans (s1.kp p)).trans k2
    refine ⟨f, _, d2, _, rfl, rfl, sl ef, ea, ⟨_, rfl⟩, _, rfl, z, rfl, by omega, by omega, fun D hD => ?_⟩
    have hDp := pot_ne c2 hD
    refine lcS (σ := [some (.ref p), some (.ref l), some (.str "abcdefghijklmnopqrstuvwxyz"), some (.int z), none, none, none, none, none]) src_range (fun i acc H' => Kp p H2 H' ∧ PotAt H' p ∧ ∃ ys : List Str, acc = ys.map V.str ∧ ys.length = i ∧ ∀ y ∈ ys, y.length = 1 ∧ letters y) (small_sz (by omega)) ⟨(Kp.refl _ _).upd hD, ?_, [], rfl, rfl, fun y hy => by cases hy⟩ (fun _ _ _ _ => True.intro) (fun j y acc H' H5 KK K2 hj hla pv hDl sm hI kk _ => ?_) (fun acc H' hla pv e => ?_)
    · obtain ⟨a, b, hab, r⟩ := c2
      exact ⟨a, b, by rw [upd_ne (Ne.symm hDp)]; exact hab, r⟩
    · obtain ⟨kp, cp, ys, rfl, hyl, hys⟩ := pv
      refine ⟨rfl, _, rfl, _, rfl, p, 26, rfl, cp.same sm, by decide, by decide, fun H6 d k6 c6 e1 e2 => ?_⟩
      have eD6 := k6 _ _ hDp (sm _ _ hDl)
      refine ⟨_, d, _, rfl, rfl, by decide, abc_at d e1 e2, kk _ _ eD6 ⟨((kp.trans (sm.kp p)).trans k6).upd hD, ?_, ys ++ [⟨#[97 + d.toNat]⟩], by rw [List.map_append]; rfl, by rw [List.length_append, hyl]; rfl, ?_⟩⟩
      · obtain ⟨a, b, hab, r⟩ := c6
        exact ⟨a, b, by rw [upd_ne (Ne.symm hDp)]; exact hab, r⟩
      · intro y hy
        rcases List.mem_append.mp hy with h | h
        · exact hys y h
        · rw [List.mem_singleton.mp h]
          refine ⟨rfl, fun c hc => ?_⟩
          have hc : c ∈ [97 + d.toNat] := hc
          rw [List.mem_singleton.mp hc]
          unfold letter
          omega
    · obtain ⟨kp, cp, ys, rfl, hyl, hys⟩ := pv
      obtain ⟨j1, j2⟩ := join_one ys hys
      have hsum : (ys.map (·.length)).sum = ys.length := by
        have : ∀ l : List Str, (∀ y ∈ l, y.length = 1 ∧ letters y) → (l.map (·.length)).sum = l.length := by
          intro l
          induction l with
          | nil => intro _; rfl
          | cons a r ih => intro h; rw [List.map_cons, List.sum_cons, (h a List.mem_cons_self).1, ih fun y hy => h y (List.mem_cons_of_mem _ hy), List.length_cons]; omega
        exact this ys hys
      refine ⟨"", D, ys, rfl, rfl, .inl (sl e), ?_, ?_⟩
      · rw [hsum]
        have e0 : ("" : Str).length = 0 := by decide
        rw [e0]
        omega
      have hx : IsName (Txt.join "" ys) := by
        rw [TL.join_eq]
        exact ⟨by rw [j1]; omega, by rw [j1]; omega, j2⟩
      have kH : Kp p H H' := k12.trans kp
      generalize Txt.join "" ys = x0 at hx
      have hl' : ∀ H', Kp p H H' → H' l = some (.lst (used.map V.str)) := fun H' k => k _ _ hlp hl
      refine ⟨WdSo H p l (.int z), ?_, ?_⟩
      · -- one of the eight words
        refine ⟨_, rfl, p, 8, rfl, cp, by decide, by decide, fun H7 d k7 c7 e1 e2 => ⟨rfl, _, rfl, ite2 (fun _ => ?_) (fun _ => ?_)⟩⟩
        · refine ⟨small_sz (by simp), fun g ng => ?_⟩
          have s7 := Same.new ng (o := .lst [V.str "call", .str "deed", .str "any", .str "num", .str "text", .str "box", .str "let", .str "main"])
          refine ⟨_, rfl, p, 8, rfl, c7.same s7, by decide, by decide, fun H8 d8 k8 c8 f1 f2 => ?_⟩
          have eg := k8 g _ (pot_ne c7 ng) (upd_same (H := H7) (o := .lst [V.str "call", .str "deed", .str "any", .str "num", .str "text", .str "box", .str "let", .str "main"]))
          have ea := atN [V.str "call", .str "deed", .str "any", .str "num", .str "text", .str "box", .str "let", .str "main"] d8 f1 (by simpa using f2)
          have hm := atI_mem ea
          have hi : ∃ x : Str, ([V.str "call", .str "deed", .str "any", .str "num", .str "text", .str "box", .str "let", .str "main"] : List V)[d8.toNat]'(by simp; omega) = .str x ∧ IsName x := by
            generalize ([V.str "call", .str "deed", .str "any", .str "num", .str "text", .str "box", .str "let", .str "main"] : List V)[d8.toNat]'(by simp; omega) = y at hm
            simp only [List.mem_cons, List.not_mem_nil, or_false] at hm
            rcases hm with rfl | rfl | rfl | rfl | rfl | rfl | rfl | rfl <;> exact ⟨_, rfl, ⟨by decide, by decide, by unfold letters letter; decide⟩⟩
          obtain ⟨x, ex, hxn⟩ := hi
          rw [ex] at ea
          exact ⟨g, _, d8, _, rfl, rfl, sl eg, ea, x, none, rfl, ((kH.trans k7).trans (s7.kp p)).trans k8, c8, hxn⟩
        · exact ⟨x0, none, rfl, kH.trans k7, c7, hx⟩
      rintro σ1 H1' ⟨x1, y6, rfl, ka, ca, hx1⟩
      have hla := hl' _ ka
      refine ⟨WdSo H p l (.int z), ?_, ?_⟩
      · -- near to a used one
        refine ⟨_, rfl, small_sz (by simp), fun g ng => ?_⟩
        have sg := Same.new ng (o := .lst [])
        refine ⟨_, _, .lst (sl (sg _ _ hla)) (d_strs used), .lst (sl upd_same) .nil, shaped_strs used hnm, by decide +kernel, _, rfl, ?_⟩
        rw [eqv_strs_nil]
        have kb := ka.trans (sg.kp p)
        have cb := ca.same sg
        by_cases hu : used = []
        · refine itN hu (iteF ?_)
          exact ⟨x1, y6, rfl, kb, cb, hx1⟩
        · refine itNn hu ⟨_, rfl, p, 5, rfl, cb, by decide, by decide, fun H7 d k7 c7 e1 e2 => ⟨rfl, _, rfl, ite2 (fun _ => ?_) (fun _ => ?_)⟩⟩
          · have kc := kb.trans k7
            have hlc := hl' _ kc
            have hpos : 1 ≤ used.length := by
              cases used with
              | nil => exact absurd rfl hu
              | cons a r => simp
            refine ⟨_, rfl, _, rfl, _, rfl, l, _, rfl, .inl (sl hlc), p, _, rfl, c7, by rw [List.length_map]; omega, by rw [List.length_map]; omega, fun H8 d8 k8 c8 f1 f2 => ?_⟩
            have kd := kc.trans k8
            have ea := atN (used.map V.str) d8 f1 f2
            have hlt : d8.toNat < used.length := by rw [List.length_map] at f2; omega
            rw [List.getElem_map] at ea
            have hy := hnm _ (List.getElem_mem hlt)
            generalize used[d8.toNat]'hlt = y at ea hy
            have hy1 := hy.pos
            have hy2 := hy.le
            refine ⟨l, _, d8, _, rfl, rfl, sl (hl' _ kd), ea, ?_⟩
            refine ⟨_, rfl, _, rfl, _, rfl, y, rfl, small_sz (by omega), p, _, rfl, c8, by omega, by omega, fun H9 d9 k9 c9 g1 g2 => ⟨_, rfl, y, rfl, small_sz (by omega), ?_⟩⟩
            have hx1p := hx1.pos
            have e9 : d9 = ((d9.toNat : Nat) : Int) := by omega
            have q9 := cutS_ok y d9.toNat (by omega) hy.abc
            rw [← e9] at q9
            have q1 : (cutS x1 none (some 1)).length = 1 ∧ letters (cutS x1 none (some 1)) := cutS_ok x1 1 (by omega) hx1.abc
            refine ⟨_, rfl, _, rfl, x1, rfl, small_sz (by have := hx1.le; omega), _, _, rfl, rfl, small_sz (by have := q9.1; have := q1.1; omega), ?_⟩
            refine ⟨cutS y none (some d9) ++ cutS x1 none (some 1), some (.str y), rfl, kd.trans k9, c9, ?_, ?_, letters_app q9.2 q1.2⟩
            · rw [Str.length_append]; have := q1.1; omega
            · rw [Str.length_append]; have := q1.1; have := q9.1; omega
          · exact ⟨x1, y6, rfl, kb.trans k7, c7, hx1⟩
      rintro σ2 H2' ⟨x2, y6', rfl, kb, cb, hx2⟩
      have hlb := hl' _ kb
      refine ⟨fun σ H' => ∃ x y6 y7, σ = [some (.ref p), some (.ref l), some (.str "abcdefghijklmnopqrstuvwxyz"), some (.int z), some (.str x), none, y6, y7, none] ∧ Kp p H H' ∧ PotAt H' p ∧ IsName x ∧ x ∉ used, ?_, ?_⟩
      · refine ⟨_, rfl, _, rfl, l, _, rfl, .inl (sl hlb), rfl, flat_strs _, _, rfl, ?_⟩
        refine (show (if inV (.str x2) _ = true then _ else _) from ?_)
        rw [inV_strs]
        refine ite2 (fun _ => ?_) (fun hh => ?_)
        · refine ⟨80, rfl, by decide, by decide, fun D2 hD2 => ?_⟩
          refine lcF (σ := [some (.ref p), some (.ref l), some (.str "abcdefghijklmnopqrstuvwxyz"), some (.int z), some (.str x2), none, y6', none, none]) src_range (spares.map V.str) (small_sz (by decide)) (by decide +kernel) hD2 (fun _ _ => True.intro) (fun j y u H5 H6 KK hj hu kp5 sm hI kk => ?_) (fun H5 kp5 e5 => ?_)
          · subst hI
            have hj : j < 80 := hj
            unfold spares at hu
            rw [List.getElem?_map, List.getElem?_map, List.getElem?_range hj] at hu
            cases hu
            refine ⟨rfl, _, rfl, _, rfl, _, _, rfl, rfl, ⟨by decide, by decide⟩, _, _, _, rfl, rfl, by decide, abc_at _ (by omega) (by omega), _, rfl, _, rfl, _, _, rfl, rfl, (show (0 : Int) < 26 by decide), _, _, _, rfl, rfl, by decide, abc_at _ (by omega) (by omega), _, _, rfl, rfl, (show 2 ≤ sizeLine by decide), _, _, rfl, rfl, (show 3 ≤ sizeLine by decide), ?_⟩
            refine qe ?_ (kk _ (Same.refl _))
            have e1 : ((0 : Int) + (j : Nat)) / 26 = ((j / 26 : Nat) : Int) := by omega
            have e2 : ((0 : Int) + (j : Nat)) % 26 = ((j % 26 : Nat) : Int) := by omega
            show V.str (⟨#[97 + (((0 : Int) + (j : Nat)) / 26).toNat]⟩ ++ ⟨#[97 + (((0 : Int) + (j : Nat)) % 26).toNat]⟩ ++ "q") = V.str ⟨#[97 + j / 26, 97 + j % 26, 113]⟩
            rw [e1, e2, Int.toNat_natCast, Int.toNat_natCast]
            rfl
          · have kc : Kp p H H5 := kb.trans fun b u nb eb => kp5 _ _ (ne_of_none eb hD2) eb
            have cc : PotAt H5 p := cb.same fun b u eb => kp5 _ _ (ne_of_none eb hD2) eb
            refine ⟨_, rfl, D2, rfl, ⟨_, sl e5⟩, fun D3 hD3 => ?_⟩
            have hlc := hl' _ kc
            refine lcS (σ := [some (.ref p), some (.ref l), some (.str "abcdefghijklmnopqrstuvwxyz"), some (.int z), some (.str x2), none, y6', some (.ref D2), none]) (src_list (xs := spares.map V.str)) (fun i acc H' => Same H5 H' ∧ acc = ((spares.take i).filter (fun x => decide (x ∉ used))).map V.str) (small_sz (by decide +kernel)) ⟨.new hD3, rfl⟩ (fun i acc H' pv => sl (pv.1 _ _ e5)) (fun j y acc H6 H7 KK K2 hj hla' pv hDl sm hI kk kk2 => ?_) (fun acc H6 hla' pv eD3 => ?_)
            · obtain ⟨s6, rfl⟩ := pv
              have s7 := s6.trans sm
              rw [List.getElem?_map, Option.map_eq_some_iff] at hI
              obtain ⟨w, ew, rfl⟩ := hI
              refine ⟨rfl, _, rfl, _, rfl, l, _, rfl, .inl (sl (s7 _ _ hlc)), rfl, flat_strs _, _, rfl, ?_⟩
              refine (show (if (!inV (.str w) _) = true then _ else _) from ?_)
              rw [inV_strs]
              have hstep : (spares.take (j + 1)).filter (fun x => decide (x ∉ used)) = (spares.take j).filter (fun x => decide (x ∉ used)) ++ (if w ∈ used then [] else [w]) := by
                rw [List.take_succ, ew, List.filter_append]
                by_cases hw : w ∈ used
                · rw [if_pos hw]
                  simp [hw]
                · rw [if_neg hw]
                  simp [hw]
              by_cases hw : w ∈ used
              · rw [if_pos hw, List.append_nil] at hstep
                exact itN hw (kk2 _ (sm _ _ hDl) ⟨s7, by rw [hstep]⟩)
              · rw [if_neg hw] at hstep
                refine itNn hw ⟨_, rfl, kk _ _ (sm _ _ hDl) ⟨fun b u eb => ?_, by rw [hstep, List.map_append]; rfl⟩⟩
                rw [upd_ne (ne_of_none eb hD3)]
                exact s7 _ _ eb
            · obtain ⟨s6, rfl⟩ := pv
              rw [List.length_map, List.take_length] at eD3
              obtain ⟨w, r, ew⟩ := spare_some used h20
              rw [ew] at eD3
              have hmem : w ∈ spares.filter (fun x => decide (x ∉ used)) := by rw [ew]; exact List.mem_cons_self
              obtain ⟨m1, m2⟩ := List.mem_filter.mp hmem
              exact ⟨D3, _, _, _, rfl, rfl, sl eD3, at0 _ _, w, y6', some (.ref D2), rfl, kc.trans (s6.kp p), cc.same s6, spares_name w m1, of_decide_eq_true m2⟩
        · exact ⟨x2, y6', none, rfl, kb, cb, hx2, fun z => hh (decide_eq_true z)⟩
      · rintro σ3 H3' ⟨x, y6, y7, rfl, kc, cc, hxn, hxu⟩
        exact ⟨_, rfl, q _ _ kc cc hxn hxu⟩
end
end WS
set_option Elab.async false
set_option linter.all false
set_option maxRecDepth 100000
set_option maxHeartbeats 4000000
/-! names in a dict; what the drawing keeps -/
namespace WS
open PySem L2
def EnvK (H : Hp) (kvs : List (Key × V)) (g : Ctx) : Prop := ∀ x, match look g x with
  | some F => ∃ v, valV kvs (.inr x) = some v ∧ Pd H v F.d
  | none => valV kvs (.inr x) = none
theorem EnvK.put {H : Hp} {kvs : List (Key × V)} {g : Ctx} (h : EnvK H kvs g) {x : Str} {F : Form} {v : V} (pv : Pd H v F.d) : EnvK H (putK kvs (.inr x) v) (g ++ [(x, F)]) := fun y => by
  have h := h y
  rw [look_snoc, valV_put]
  by_cases e : x = y
  · subst e
    rw [if_pos rfl, if_pos rfl]
    exact ⟨v, rfl, pv⟩
  · rw [if_neg e, if_neg (fun z => e (Sum.inr.inj z).symm)]
    exact h
/-- keys that are texts -/
def KS (kvs : List (Key × V)) (n : Nat) : Prop := ∃ ks : List Str, kvs.map (·.1) = ks.map Sum.inr ∧ ks.length ≤ n
theorem KS.put {kvs : List (Key × V)} {n : Nat} (h : KS kvs n) (x : Str) (v : V) : KS (putK kvs (.inr x) v) (n + 1) := by
  obtain ⟨ks, e, l⟩ := h
  unfold putK
  split
  · refine ⟨ks, ?_, by omega⟩
    rw [← e, List.map_map]
    apply List.map_congr_left
    intro a _
    show (if a.1 = Sum.inr x then (a.1, v) else a).1 = a.1
    split <;> rfl
  · exact ⟨ks ++ [x], by rw [List.map_append, e, List.map_append]; rfl, by rw [List.length_append]; simp; omega⟩
theorem env_merge {K : PySem.W.Frag} {H : Hp} : ∀ (xs : List V) (g : Ctx), PdAll H xs (g.map bdD) → ∃ (ps : List Addr) (kvs : List (Key × V)), xs = ps.map V.ref ∧ Paired (fun p kv => SqT K H p [kV kv.1, kv.2]) ps kvs ∧
    ∀ acc g0 n, EnvK H acc g0 → KS acc n → EnvK H (mergeK acc kvs) (g0 ++ g) ∧ KS (mergeK acc kvs) (n + g.length)
  | xs, [], h => by
    cases h
    exact ⟨[], [], rfl, .nil, fun acc g0 n e k => ⟨by rw [List.append_nil]; exact e, k⟩⟩
  | xs, (x, F) :: g, h => by
    obtain ⟨v, r, rfl, h1, h2⟩ := PdAll.cons_of h
    obtain ⟨a, y, f, rfl, ha, hy, hf⟩ := Pd.t2 h1
    cases hy.str_of
    obtain ⟨ps, kvs, rfl, pr, q⟩ := env_merge r g h2
    refine ⟨a :: ps, (.inr x, f) :: kvs, rfl, .cons (st ha) pr, fun acc g0 n e k => ?_⟩
    obtain ⟨e2, k2⟩ := q (putK acc (.inr x) f) (g0 ++ [(x, F)]) (n + 1) (e.put hf) (k.put x f)
    refine ⟨?_, ?_⟩
    · rw [List.append_assoc] at e2
      exact e2
    · obtain ⟨ks, e3, l⟩ := k2
      exact ⟨ks, e3, by rw [List.length_cons]; omega⟩
/-- what is drawn -/
structure TmOk (g : Ctx) (A : Form) (D : Nat) (t : Term) : Prop where
  ok : Ok g t
  nr : near (fo g t) A = true
  wr : Wr t
  dp : t.depth ≤ 7 + 3 * D
  sz : t.sz ≤ 8 * 4 ^ D
  hi : (fo g t).height ≤ max (D + 2) A.height
/-- what a drawing is handed -/
structure DrIn (H : Hp) (p l : Addr) (g : Ctx) (v : V) (A : Form) (D : Nat) : Prop where
  pot : PotAt H p
  bd : BdAt H l g
  nm : ∀ q ∈ g, IsName q.1 ∧ q.2.height ≤ 2
  gl : g.length + D ≤ 40
  pd : Pd H v A.d
  hd : A.height + D ≤ 5
  d3 : D ≤ 3
  lo : A.low1
theorem DrIn.ne {H : Hp} {p l : Addr} {g : Ctx} {v : V} {A : Form} {D : Nat} (i : DrIn H p l g v A D) : l ≠ p := by
  rintro rfl
  obtain ⟨a, b, hab, r⟩ := i.pot
  obtain ⟨xs, e, px⟩ := i.bd
  rw [hab] at e
  cases e
  cases g with
  | nil => cases px
  | cons q g =>
    obtain ⟨x, r, e, h1, _⟩ := PdAll.cons_of px
    cases e
    cases h1
theorem DrIn.step {H H' : Hp} {p l : Addr} {g : Ctx} {v u : V} {A B : Form} {D E : Nat} (i : DrIn H p l g v A D) (k : Kp p H H') (c : PotAt H' p) (pd : Pd H' u B.d) (hB : B.height + E ≤ 5) (lB : B.low1) (hE : E ≤ D) : DrIn H' p l g u B E :=
  ⟨c, i.bd.keep (fun xs e => k _ _ i.ne e) (i.pot.tk k), i.nm, by have := i.gl; omega, pd, hB, by have := i.d3; omega, lB⟩
/-! ### the laws of what is drawn -/
theorem four_pos (D : Nat) : 1 ≤ 4 ^ D := Nat.one_le_pow _ _ (by decide)
theorem four_succ (D : Nat) : 4 ^ (D + 1) = 4 * 4 ^ D := by rw [Nat.pow_succ, Nat.mul_comm]
theorem tm_sum {g : Ctx} {A : Form} {D : Nat} {e f : Term} (s : Bool) (he : TmOk g .num D e) (hf : TmOk g .num D f) (hA : A = .any ∨ A = .num) : TmOk g A (D + 1) (.sum s e f) := by
  have p := four_pos D
  have q := four_succ D
  refine ⟨⟨he.ok, he.nr, hf.ok, hf.nr⟩, ?_, ⟨he.wr, hf.wr⟩, ?_, ?_, Nat.zero_le _⟩
  · rcases hA with rfl | rfl <;> rfl
  · have := he.dp; have := hf.dp; show 1 + max e.depth f.depth ≤ _; omega
  · have := he.sz; have := hf.sz; show 1 + e.sz + f.sz ≤ _; omega
theorem tm_size {g : Ctx} {A : Form} {D : Nat} {e : Term} (he : TmOk g .text D e) (hA : A = .any ∨ A = .num) : TmOk g A (D + 1) (.size e) := by
  have p := four_pos D
  have q := four_succ D
  refine ⟨⟨he.ok, he.nr⟩, ?_, he.wr, ?_, ?_, Nat.zero_le _⟩
  · rcases hA with rfl | rfl <;> rfl
  · have := he.dp; show 1 + e.depth ≤ _; omega
  · have := he.sz; show 1 + e.sz ≤ _; omega
theorem tm_same {g : Ctx} {A B : Form} {D : Nat} {e f : Term} (he : TmOk g (.box B) D e) (hf : TmOk g (.box B) D f) (hA : A = .any ∨ A = .num) : TmOk g A (D + 1) (.same e f) := by
  have p := four_pos D
  have q := four_succ D
  refine ⟨⟨he.ok, near_box he.nr, hf.ok, near_box hf.nr⟩, ?_, ⟨he.wr, hf.wr⟩, ?_, ?_, Nat.zero_le _⟩
  · rcases hA with rfl | rfl <;> rfl
  · have := he.dp; have := hf.dp; show 1 + max e.depth f.depth ≤ _; omega
  · have := he.sz; have := hf.sz; show 1 + e.sz + f.sz ≤ _; omega
theorem tm_write {g : Ctx} {A B : Form} {D : Nat} {e f : Term} (he : TmOk g (.box B) D e) (hf : TmOk g (.box B) D f) (hA : A = .any ∨ A = .num) : TmOk g A (D + 1) (.write e (.tell .any f)) := by
  have p := four_pos D
  have q := four_succ D
  refine ⟨⟨he.ok, near_box he.nr, ⟨hf.ok, near_any _⟩, any_near _⟩, ?_, ⟨he.wr, Nat.zero_le _, hf.wr⟩, ?_, ?_, Nat.zero_le _⟩
  · rcases hA with rfl | rfl <;> rfl
  · have := he.dp; have := hf.dp; show 1 + max e.depth (1 + f.depth) ≤ _; omega
  · have := he.sz; have := hf.sz; show 1 + e.sz + (1 + f.sz) ≤ _; omega
theorem inn_le (F : Form) : (inn F).height ≤ F.height := by
  cases F with
  | box a => show a.height ≤ 1 + a.height; omega
  | _ => exact Nat.zero_le _
theorem tm_read {g : Ctx} {D : Nat} {e : Term} (he : TmOk g (.box .text) D e) : TmOk g .text (D + 1) (.read e) := by
  have p := four_pos D
  have q := four_succ D
  refine ⟨⟨he.ok, near_box he.nr⟩, near_inn he.nr, he.wr, ?_, ?_, ?_⟩
  · have := he.dp; show 1 + e.depth ≤ _; omega
  · have := he.sz; show 1 + e.sz ≤ _; omega
  · have h1 := he.hi
    have h2 := inn_le (fo g e)
    have h3 : (Form.box Form.text).height = 1 := rfl
    show (inn (fo g e)).height ≤ _
    omega
theorem tm_box {g : Ctx} {B G : Form} {D : Nat} {e : Term} (he : TmOk g G D e) (hG : NearTo 1 G B) (hB : B.height ≤ 3) : TmOk g (.box B) (D + 1) (.box G (.tell G (.tell .any e))) := by
  have p := four_pos D
  have q := four_succ D
  have hg : G.height ≤ 3 := by have := hG.2.1; omega
  refine ⟨⟨⟨⟨he.ok, near_any _⟩, any_near _⟩, near_refl G, by omega⟩, hG.1, ⟨by omega, by omega, Nat.zero_le _, he.wr⟩, ?_, ?_, ?_⟩
  · have := he.dp; show 1 + (1 + (1 + e.depth)) ≤ _; omega
  · have := he.sz; show 1 + (1 + (1 + e.sz)) ≤ _; omega
  · have := hG.2.1; show 1 + G.height ≤ max (D + 1 + 2) (1 + B.height); omega
theorem tm_deed {g : Ctx} {x : Str} {B C G : Form} {D : Nat} {e : Term} (hx : IsName x) (he : TmOk (g ++ [(x, G)]) C D e) (hG : NearTo 1 G B) (hB : B.height ≤ 1) (hC : C.height ≤ 4) (hD : D ≤ 2) : TmOk g (.deed B C) (D + 1) (.deed x G e) := by
  have p := four_pos D
  have q := four_succ D
  have hg : G.height ≤ 1 := by have := hG.2.1; omega
  have h2 := he.hi
  refine ⟨⟨he.ok, by omega, by omega⟩, ?_, ⟨hx, by omega, he.wr⟩, ?_, ?_, ?_⟩
  · show (near G B && near (fo (g ++ [(x, G)]) e) C) = true
    rw [hG.1, he.nr]
    rfl
  · have := he.dp; show 1 + e.depth ≤ _; omega
  · have := he.sz; show 1 + e.sz ≤ _; omega
  · show 1 + max G.height (fo (g ++ [(x, G)]) e).height ≤ max (D + 1 + 2) (1 + max B.height C.height); omega
theorem tm_name {g : Ctx} {A F : Form} {D : Nat} {x : Str} (hx : IsName x) (h : look g x = some F) (hn : near F A = true) (hF : F.height ≤ 2) : TmOk g A D (.name x) := by
  have p := four_pos D
  have e : fo g (.name x) = F := by show (look g x).getD .any = F; rw [h]; rfl
  refine ⟨by show (look g x).isSome = true; rw [h]; rfl, by rw [e]; exact hn, hx, by show 1 ≤ _; omega, by show 1 ≤ _; omega, by rw [e]; omega⟩
theorem tm_plain {g : Ctx} {A : Form} {D : Nat} {t : Term} (h : PlainOk A t) (hA : A.height ≤ 5) : TmOk g A D t := by
  have p := four_pos D
  have h1 := h.dp
  have h2 := h.sz
  exact ⟨(h.ok g).1, by rw [(h.ok g).2]; exact near_refl A, h.wr, by omega, by omega, by rw [(h.ok g).2]; omega⟩
theorem tm_tell {g : Ctx} {A G : Form} {D : Nat} {e : Term} (he : TmOk g G D e) (hG : NearTo 2 G A) (hA : A.height ≤ 4) : TmOk g A (D + 1) (.tell G e) := by
  have p := four_pos D
  have q := four_succ D
  have h1 := hG.2.1
  refine ⟨⟨he.ok, he.nr⟩, hG.1, ⟨by omega, he.wr⟩, ?_, ?_, ?_⟩
  · have := he.dp; show 1 + e.depth ≤ _; omega
  · have := he.sz; show 1 + e.sz ≤ _; omega
  · show G.height ≤ _; omega
theorem tm_if {g : Ctx} {A : Form} {D : Nat} {c e f : Term} (hc : TmOk g .num D c) (he : TmOk g A D e) (hf : TmOk g A D f) : TmOk g A (D + 1) (.ite c (.tell .any e) (.tell .any f)) := by
  have p := four_pos D
  have q := four_succ D
  refine ⟨⟨hc.ok, hc.nr, ⟨he.ok, near_any _⟩, rfl, ⟨hf.ok, near_any _⟩, rfl⟩, any_near _, ⟨hc.wr, ⟨Nat.zero_le _, he.wr⟩, Nat.zero_le _, hf.wr⟩, ?_, ?_, Nat.zero_le _⟩
  · have := hc.dp; have := he.dp; have := hf.dp; show 1 + max c.depth (max (1 + e.depth) (1 + f.depth)) ≤ _; omega
  · have := hc.sz; have := he.sz; have := hf.sz; show 1 + c.sz + (1 + e.sz) + (1 + f.sz) ≤ _; omega
theorem tm_let {g : Ctx} {A B : Form} {D : Nat} {x : Str} {e f : Term} (hx : IsName x) (he : TmOk g B D e) (hf : TmOk (g ++ [(x, B)]) A D f) (hB : B.height ≤ 1) : TmOk g A (D + 1) (.lets x (.tell B e) f) := by
  have p := four_pos D
  have q := four_succ D
  have h1 := hf.hi
  refine ⟨⟨⟨he.ok, he.nr⟩, hf.ok⟩, hf.nr, ⟨hx, ⟨by omega, he.wr⟩, hf.wr⟩, ?_, ?_, ?_⟩
  · have := hf.dp; have := he.dp; show 1 + max (1 + e.depth) f.depth ≤ _; omega
  · have := hf.sz; have := he.sz; show 1 + (1 + e.sz) + f.sz ≤ _; omega
  · show (fo (g ++ [(x, B)]) f).height ≤ _; omega
theorem tm_call {g : Ctx} {A B G : Form} {D : Nat} {e f : Term} (hf : TmOk g (.deed B A) D f) (he : TmOk g B D e) (hG : NearTo 2 G A) (hB : B.height ≤ 1) (hA : A.height ≤ 4) : TmOk g A (D + 1) (.call (.tell (.deed B G) (.tell .any f)) e) := by
  have p := four_pos D
  have q := four_succ D
  have h1 := hG.2.1
  refine ⟨⟨⟨⟨hf.ok, near_any _⟩, any_near _⟩, rfl, he.ok, he.nr⟩, hG.1, ⟨⟨by show 1 + max B.height G.height ≤ 5; omega, Nat.zero_le _, hf.wr⟩, he.wr⟩, ?_, ?_, ?_⟩
  · have := hf.dp; have := he.dp; show 1 + max (1 + (1 + f.depth)) e.depth ≤ _; omega
  · have := hf.sz; have := he.sz; show 1 + (1 + (1 + f.sz)) + e.sz ≤ _; omega
  · show G.height ≤ _; omega
end WS
set_option Elab.async false
set_option linter.all false
set_option maxRecDepth 100000
set_option maxHeartbeats 4000000
namespace WS
open PySem L2
section
variable {P : Program} {w : World} {K : PySem.W.Frag} {mg : Str → Option Value} {base : Heap}
theorem DrIn.snoc {H H' : Hp} {p l b2 t : Addr} {g : Ctx} {v u f : V} {A B F : Form} {D E : Nat} {xs : List V} {x : Str} (i : DrIn H p l g v A D) (k : Kp p H H') (c : PotAt H' p) (hx : H' l = some (.lst xs)) (ht : H' t = some (.tup [.str x, f])) (hb2 : H' b2 = some (.lst (xs ++ [.ref t])))
    (hf : Pd H' f F.d) (nx : IsName x) (hF : F.height ≤ 2) (pd : Pd H' u B.d) (hB : B.height + E ≤ 5) (lB : B.low1) (hE : E + 1 ≤ D) : DrIn H' p b2 (g ++ [(x, F)]) u B E := by
  have j := i.step k c pd hB lB (Nat.le_of_succ_le hE)
  obtain ⟨ys, e, py⟩ := j.bd
  rw [hx] at e
  cases e
  refine ⟨c, BdAt.snoc (H := H') (b := l) hb2 py (.m2 ht (.str _) hf), ?_, ?_, pd, hB, j.d3, lB⟩
  · intro q hq
    rcases List.mem_append.mp hq with h | h
    · exact i.nm q h
    · rw [List.mem_singleton.mp h]
      exact ⟨nx, hF⟩
  · rw [List.length_append]
    have := i.gl
    simp only [List.length_cons, List.length_nil]
    omega
def DrOut (H : Hp) (p : Addr) (g : Ctx) (A : Form) (D : Nat) (Q : VK) : Prop := ∀ H' u t, Kp p H H' → PotAt H' p → Pd H' u (Term.d t) → TmOk g A D t → Q u H'
def sp_term (D : Nat) : Sp := fun vs H Q _ => ∃ p l g v A, vs = [.ref p, .ref l, v, .int (D : Nat)] ∧ DrIn H p l g v A D ∧ DrOut H p g A D Q
theorem less1 (D : Nat) : ((D + 1 : Nat) : Int) - 1 = (D : Nat) := by omega
theorem sc_law_by_head : FnScope ["_law_pot_here", "_law_names", "_law_aim", "_law_deep", "_law_way", "_law_left", "_law_right_here", "_law_box", "_law_form_here", "_law_name_here"] ["_law_pot_here", "_law_names", "_law_aim", "_law_deep"] (defScope s__law_by_head) := ⟨rfl, rfl, rfl, by decide +kernel, rfl, by decide +kernel, by decide +kernel⟩
theorem ok_law_by_head (T : Tx w K mg) (k D : Nat) (G_law_term : Held P w K mg base (k + 11) (fL K "_law_term") (sp_term D)) : Held P w K mg base (k + 12) (fL K "_law_by_head") (sp_term (D + 1)) := by
  have G_law_digit := (ok_law_digit (P := P) (base := base) T (k + 10))
  have G_law_form := (ok_law_form (P := P) (base := base) T (k + 8) 2)
  have G_law_near := (ok_law_near (P := P) (base := base) T k 6)
  have G_law_name := (ok_law_name (P := P) (base := base) T (k + 9))
  refine FunD.held T.f__law_by_head sc_law_by_head (fun _ _ _ _ _ _ us hl => match us, hl with | [_, _, _, _], _ => rfl) (fun vs H Q E h => ?len) (fun fd cdv A outer s H vs Q E hr h => ?body)
  case len => obtain ⟨p, l, g, v, A, rfl, _⟩ := h; rfl
  case body =>
    obtain ⟨p, l, g, v, A, rfl, i, q⟩ := h
    have hu65 := Room.u65 hr
    have hAD := i.hd
    have hD3 := i.d3
    have h60 : A.height ≤ 60 := by omega
    refine ⟨_, (pss_cons (ps_if (pt_cmpR (op_inDT hu65) (pv 2) (pe_tup (pa_cons pe_str (pa_cons pe_str pa_nil))) (by rfl)) (pss_cons (ps_set (i := 4) sc_law_by_head.nd rfl (by first | exact Or.inl rfl | exact Or.inr rfl) (pe_cl G_law_digit hr T.g__law_digit (pa_cons (pv 0) (pa_cons pe_int pa_nil))))
      (pss_cons (ps_par (i := 5) (j := 6) rfl sc_law_by_head.nd rfl rfl (by decide) rfl rfl (pa_cons (pe_cl G_law_term hr T.g__law_term (pa_cons (pv 0) (pa_cons (pv 1) (pa_cons pe_str (pa_cons (pe_op op_sub (pv 3) pe_int) pa_nil))))) (pa_cons (pe_cl G_law_term hr T.g__law_term (pa_cons (pv 0) (pa_cons (pv 1) (pa_cons pe_str (pa_cons (pe_op op_sub (pv 3) pe_int) pa_nil))))) pa_nil)) rfl)
      (pss_cons (ps_if (pt_cmpR op_lt (pv 4) pe_int (nomark _)) (pss_one (ps_ret (pe_tup (pa_cons (pe_ix ix_list (pe_lst (pa_cons pe_str (pa_cons pe_str pa_nil))) (pv 4) (fun _ _ => rfl)) (pa_cons (pv 5) (pa_cons (pv 6) pa_nil)))))) pss_nil)
      (pss_cons (ps_if (pt_cmpR op_eq (pv 4) pe_int (nomark _)) (pss_one (ps_ret (pe_tup (pa_cons pe_str (pa_cons (pe_cl G_law_term hr T.g__law_term (pa_cons (pv 0) (pa_cons (pv 1) (pa_cons pe_str (pa_cons (pe_op op_sub (pv 3) pe_int) pa_nil))))) pa_nil))))) pss_nil)
      (pss_cons (ps_set (i := 7) sc_law_by_head.nd rfl (by first | exact Or.inl rfl | exact Or.inr rfl) (pe_tup (pa_cons pe_str (pa_cons (pe_cl G_law_form hr T.g__law_form (pa_cons (pv 0) (pa_cons pe_int pa_nil))) pa_nil))))
      (pss_cons (ps_par (i := 5) (j := 6) rfl sc_law_by_head.nd rfl rfl (by decide) rfl rfl (pa_cons (pe_cl G_law_term hr T.g__law_term (pa_cons (pv 0) (pa_cons (pv 1) (pa_cons (pv 7) (pa_cons (pe_op op_sub (pv 3) pe_int) pa_nil))))) (pa_cons (pe_cl G_law_term hr T.g__law_term (pa_cons (pv 0) (pa_cons (pv 1) (pa_cons (pv 7) (pa_cons (pe_op op_sub (pv 3) pe_int) pa_nil))))) pa_nil)) rfl)
      (pss_one (ps_ret (pe_ifExp (pt_cmpR op_eq (pv 4) pe_int (nomark _)) (pe_tup (pa_cons pe_str (pa_cons (pv 5) (pa_cons (pv 6) pa_nil)))) (pe_tup (pa_cons pe_str (pa_cons (pv 5) (pa_cons (pe_tup (pa_cons pe_str (pa_cons pe_str (pa_cons (pv 6) pa_nil)))) pa_nil))))))))))))) pss_nil)
      (pss_cons (ps_if (pt_cmpR (op_eqD hr.units) (pv 2) pe_str (nomark _)) (pss_one (ps_ret (pe_tup (pa_cons pe_str (pa_cons (pe_cl G_law_term hr T.g__law_term (pa_cons (pv 0) (pa_cons (pv 1) (pa_cons (pe_tup (pa_cons pe_str (pa_cons pe_str pa_nil))) (pa_cons (pe_op op_sub (pv 3) pe_int) pa_nil))))) pa_nil))))) pss_nil)
      (pss_cons (ps_if (pt_cmpR (op_eqD hr.units) (pe_ix ix_tup (pv 2) pe_int (fun _ _ => rfl)) pe_str (nomark _)) (pss_cons (ps_set (i := 8) sc_law_by_head.nd rfl (by first | exact Or.inl rfl | exact Or.inr rfl) (pe_cl G_law_near hr T.g__law_near (pa_cons (pv 0) (pa_cons (pe_ix ix_tup (pv 2) pe_int (fun _ _ => rfl)) (pa_cons pe_int pa_nil)))))
      (pss_one (ps_ret (pe_tup (pa_cons pe_str (pa_cons (pv 8) (pa_cons (pe_tup (pa_cons pe_str (pa_cons (pv 8) (pa_cons (pe_tup (pa_cons pe_str (pa_cons pe_str (pa_cons (pe_cl G_law_term hr T.g__law_term (pa_cons (pv 0) (pa_cons (pv 1) (pa_cons (pv 8) (pa_cons (pe_op op_sub (pv 3) pe_int) pa_nil))))) pa_nil)))) pa_nil)))) pa_nil))))))) pss_nil)
      (pss_cons (ps_par (i := 8) (j := 9) rfl sc_law_by_head.nd rfl rfl (by decide) rfl rfl (pa_cons (pe_cl G_law_near hr T.g__law_near (pa_cons (pv 0) (pa_cons (pe_ix ix_tup (pv 2) pe_int (fun _ _ => rfl)) (pa_cons pe_int pa_nil)))) (pa_cons (pe_cl G_law_name hr T.g__law_name (pa_cons (pv 0) (pa_cons (pe_lst pa_nil) pa_nil))) pa_nil)) rfl)
      (pss_one (ps_ret (pe_tup (pa_cons pe_str (pa_cons (pv 9) (pa_cons (pv 8) (pa_cons (pe_cl G_law_term hr T.g__law_term (pa_cons (pv 0) (pa_cons (pe_op op_cat (pv 1) (pe_lst (pa_cons (pe_tup (pa_cons (pv 9) (pa_cons (pv 8) pa_nil))) pa_nil))) (pa_cons (pe_ix ix_tup (pv 2) pe_int (fun _ _ => rfl)) (pa_cons (pe_op op_sub (pv 3) pe_int) pa_nil))))) pa_nil))))))))))), ?_⟩
    refine ⟨_, rfl, small_sz (by simp), fun t nt => ?_⟩
    have s1 := Same.new nt (o := .tup [V.str "any", .str "num"])
    have hv1 := i.pd.same s1
    have c1 := i.pot.same s1
    have k1 := s1.kp p
    refine ⟨_, _, hv1.dp, .tup (st upd_same) (.cons (.str _) (.cons (.str _) .nil)), shaped_form A h60, by decide +kernel, _, rfl, ?_⟩
    rw [anynum]
    generalize (upd H t (.tup [V.str "any", .str "num"])) = H1 at s1 hv1 c1 k1
    have term1 : ∀ {H' : Hp} {u : V} {B : Form}, Kp p H H' → PotAt H' p → Pd H' u B.d → B.height + D ≤ 5 → B.low1 → DrIn H' p l g u B D := fun k c pd hB lB => i.step k c pd hB lB (Nat.le_succ D)
    by_cases hF : A = .any ∨ A = .num
    · have e : (decide (A = .any) || decide (A = .num)) = true := by
        rcases hF with e | e
        · rw [decide_eq_true e]; rfl
        · rw [decide_eq_true e, Bool.or_true]
      rw [e]
      refine iteT ⟨_, rfl, p, 5, rfl, c1, by decide, by decide, fun H2 d k2 c2 a1 a2 => ?_⟩
      have k2' := k1.trans k2
      refine ⟨_, rfl, _, rfl, _, rfl, _, _, rfl, rfl, p, l, g, .str "num", .num, by show [_, _, _, V.int (((D + 1 : Nat) : Int) - 1)] = _; rw [less1], term1 k2' c2 (fnum _) (by show 0 + D ≤ 5; omega) True.intro, fun H3 u1 e1 k3 c3 p3 t3 => ?_⟩
      have k3' := k2'.trans k3
      refine ⟨_, rfl, _, rfl, _, rfl, _, _, rfl, rfl, p, l, g, .str "num", .num, by show [_, _, _, V.int (((D + 1 : Nat) : Int) - 1)] = _; rw [less1], term1 k3' c3 (fnum _) (by show 0 + D ≤ 5; omega) True.intro, fun H4 u2 e2 k4 c4 p4 t4 => ⟨_, _, rfl, ?_⟩⟩
      have k4' := k3'.trans k4
      have p3' := p3.keep (c3.tk k4)
      refine ⟨_, rfl, _, _, rfl, rfl, _, rfl, ite2 (fun h => ?_) (fun h => ?_)⟩
      · have h := of_decide_eq_true h
        have hs : ∃ s : Bool, atI [V.str "add", .str "sub"] d = some (.str (word s)) := by
          rcases (show d = 0 ∨ d = 1 by omega) with rfl | rfl
          · exact ⟨false, at0 _ _⟩
          · exact ⟨true, at1 _ _ _⟩
        obtain ⟨s, es⟩ := hs
        refine ⟨small_sz (by simp), fun f nf => ⟨_, rfl, f, _, d, _, rfl, rfl, sl upd_same, es, _, rfl, _, rfl, small_sz (by simp), fun z nz => ?_⟩⟩
        have s5 := (Same.new nf (o := .lst [V.str "add", .str "sub"])).trans (Same.new nz (o := .tup [.str (word s), u1, u2]))
        exact q _ _ (.sum s e1 e2) (k4'.trans (s5.kp p)) (c4.same s5) (.m3 upd_same (.str _) (p3'.same s5) (p4.same s5)) (tm_sum s t3 t4 hF)
      · refine ⟨_, rfl, rfl, _, rfl, ite2 (fun h2 => ?_) (fun h2 => ?_)⟩
        · refine ⟨_, rfl, _, rfl, _, rfl, _, _, rfl, rfl, p, l, g, .str "text", .text, by show [_, _, _, V.int (((D + 1 : Nat) : Int) - 1)] = _; rw [less1], term1 k4' c4 (ftext _) (by show 0 + D ≤ 5; omega) True.intro, fun H5 u5 e5 k5 c5 p5 t5 => ⟨small_sz (by simp), fun z nz => ?_⟩⟩
          have s5 := Same.new nz (o := .tup [.str "size", u5])
          exact q _ _ (.size e5) ((k4'.trans k5).trans (s5.kp p)) (c5.same s5) (.m2 upd_same (.str _) (p5.same s5)) (tm_size t5 hF)
        · refine ⟨_, rfl, p, 1, rfl, c4, by decide, by decide, fun H5 u5 B k5 c5 p5 hB => ⟨small_sz (by simp), fun b nb => ?_⟩⟩
          have s5 := Same.new nb (o := .tup [.str "box", u5])
          have pb : Pd (upd H5 b (.tup [.str "box", u5])) (.ref b) (Form.box B).d := fbox upd_same (p5.same s5)
          have k5' := (k4'.trans k5).trans (s5.kp p)
          have c5' := c5.same s5
          generalize (upd H5 b (.tup [.str "box", u5])) = H6 at pb k5' c5'
          have hBB : (Form.box B).height ≤ 2 := by show 1 + B.height ≤ 2; omega
          refine ⟨_, rfl, _, rfl, _, rfl, _, rfl, _, _, rfl, rfl, p, l, g, .ref b, .box B, by show [_, _, _, V.int (((D + 1 : Nat) : Int) - 1)] = _; rw [less1], term1 k5' c5' pb (by omega) (low1_of _ hBB), fun H7 u7 e7 k7 c7 p7 t7 => ?_⟩
          have k7' := k5'.trans k7
          refine ⟨_, rfl, _, rfl, _, rfl, _, rfl, _, _, rfl, rfl, p, l, g, .ref b, .box B, by show [_, _, _, V.int (((D + 1 : Nat) : Int) - 1)] = _; rw [less1], term1 k7' c7 (pb.keep (c5'.tk k7)) (by omega) (low1_of _ hBB), fun H8 u8 e8 k8 c8 p8 t8 => ⟨_, _, rfl, ?_⟩⟩
          have k8' := k7'.trans k8
          have p7' := p7.keep (c7.tk k8)
          refine ⟨_, rfl, rfl, _, rfl, ite2 (fun h3 => ?_) (fun h3 => ?_)⟩
          · refine ⟨_, rfl, _, rfl, small_sz (by simp), fun z nz => ?_⟩
            have s9 := Same.new nz (o := .tup [.str "same", u7, u8])
            exact q _ _ (.same e7 e8) (k8'.trans (s9.kp p)) (c8.same s9) (.m3 upd_same (.str _) (p7'.same s9) (p8.same s9)) (tm_same t7 t8 hF)
          · refine ⟨_, rfl, _, rfl, small_sz (by simp), fun y ny => ⟨small_sz (by simp), fun z nz => ?_⟩⟩
            have s9 := Same.new ny (o := .tup [.str "tell", .str "any", u8])
            have s10 := Same.new nz (o := .tup [.str "write", u7, .ref y])
            have s11 := s9.trans s10
            exact q _ _ (.write e7 (.tell .any e8)) (k8'.trans (s11.kp p)) (c8.same s11) (.m3 upd_same (.str _) (p7'.same s11) (.m3 (s10 _ _ upd_same) (.str _) (.str _) (p8.same s11))) (tm_write t7 t8 hF)
    · have e : (decide (A = .any) || decide (A = .num)) = false := by
        rw [decide_eq_false (fun e => hF (.inl e)), decide_eq_false (fun e => hF (.inr e))]
        rfl
      rw [e]
      refine iteF ⟨_, rfl, _, _, hv1.dp, .str _, shaped_form A h60, by decide +kernel, _, rfl, ?_⟩
      rw [← text_d, eqv_form]
      by_cases hFt : A = .text
      · subst hFt
        refine itD rfl ⟨_, rfl, _, rfl, small_sz (by simp), fun b nb => ⟨_, rfl, _, _, rfl, rfl, ?_⟩⟩
        have s2 := Same.new nb (o := .tup [.str "box", .str "text"])
        refine ⟨p, l, g, .ref b, .box .text, by show [_, _, _, V.int (((D + 1 : Nat) : Int) - 1)] = _; rw [less1], term1 (k1.trans (s2.kp p)) (c1.same s2) (fbox upd_same (ftext _)) (by show 1 + 0 + D ≤ 5; omega) True.intro, fun H5 u5 e5 k5 c5 p5 t5 => ⟨small_sz (by simp), fun z nz => ?_⟩⟩
        have s5 := Same.new nz (o := .tup [.str "read", u5])
        exact q _ _ (.read e5) (((k1.trans (s2.kp p)).trans k5).trans (s5.kp p)) (c5.same s5) (.m2 upd_same (.str _) (p5.same s5)) (tm_read t5)
      refine itDn hFt ?_
      rcases fd_cases A hv1 with ⟨rfl, _⟩ | ⟨rfl, _⟩ | ⟨rfl, _⟩ | ⟨a, b, pf, x, y, rfl, rfl, hpf, hx, hy⟩ | ⟨a, pf, x, rfl, rfl, hpf, hx⟩
      · exact absurd (.inl rfl) hF
      · exact absurd (.inr rfl) hF
      · exact absurd rfl hFt
      · have hh : 1 + max a.height b.height + (D + 1) ≤ 5 := hAD
        obtain ⟨la, lb⟩ := i.lo
        refine ⟨_, rfl, pf, _, _, _, rfl, rfl, st hpf, at0 _ _, _, _, .str _, .str _, sdeed, (by decide +kernel), _, rfl, ?_⟩
        rw [eqv_str]
        refine itDn (by decide) ?_
        refine ⟨_, rfl, _, rfl, pf, _, _, _, rfl, rfl, st hpf, at1 _ _ _, p, x, a, 1, rfl, c1, hx, by omega, by omega, by decide, fun H2 u G k2 c2 pu hG => ⟨_, rfl, small_sz (by simp), fun e0 ne0 => ?_⟩⟩
        have s2 := Same.new ne0 (o := .lst [])
        refine ⟨p, e0, [], rfl, c2.same s2, upd_same, by simp, by simp, fun H3 nm k3 c3 hn _ => ⟨_, _, rfl, ?_⟩⟩
        have k3' := ((k1.trans k2).trans (s2.kp p)).trans k3
        have tk23 := (s2.tk).trans ((c2.same s2).tk k3)
        have pu3 := pu.keep tk23
        have tkA := (c1.tk k2).trans tk23
        obtain ⟨xs, hb, hxs⟩ := i.bd
        have hb3 := k3' _ _ i.ne hb
        have hlx : xs.length = g.length := by rw [hxs.length, List.length_map]
        have hgl := i.gl
        refine ⟨_, rfl, _, rfl, _, rfl, _, rfl, _, rfl, _, rfl, small_sz (by simp), fun t1 n1 => ⟨small_sz (by simp), fun l1 nl1 => ?_⟩⟩
        have s4 := (Same.new n1 (o := .tup [.str nm, u])).trans (Same.new nl1 (o := .lst [.ref t1]))
        have et1 := Same.new nl1 (o := .lst [.ref t1]) _ _ (upd_same (H := H3) (a := t1) (o := .tup [.str nm, u]))
        refine ⟨l, l1, xs, _, rfl, rfl, s4 _ _ hb3, upd_same, small_sz (by simp; omega), fun b2 nb2 => ?_⟩
        have s5 := s4.trans (Same.new nb2 (o := .lst (xs ++ [.ref t1])))
        have hpf5 := s5 _ _ (tkA _ _ hpf)
        have hg1 : G.height ≤ 1 := by have := hG.2.1; omega
        refine ⟨_, rfl, pf, _, _, _, rfl, rfl, st hpf5, by rfl, _, rfl, _, _, rfl, rfl, p, b2, g ++ [(nm, G)], y, b, by show [_, _, _, V.int (((D + 1 : Nat) : Int) - 1)] = _; rw [less1], i.snoc (k3'.trans (s5.kp p)) (c3.same s5) (s5 _ _ hb3) (Same.new nb2 _ _ et1) upd_same (pu3.same s5) hn (by omega) ((hy.keep tkA).same s5) (by omega) lb (by omega), fun H6 u6 e6 k6 c6 p6 t6 => ⟨small_sz (by simp), fun z nz => ?_⟩⟩
        have s7 := Same.new nz (o := .tup [.str "deed", .str nm, u, u6])
        exact q _ _ (.deed nm G e6) (((k3'.trans (s5.kp p)).trans k6).trans (s7.kp p)) (c6.same s7) (.m4 upd_same (.str _) (.str _) (((pu3.same s5).keep ((c3.same s5).tk k6)).same s7) (p6.same s7)) (tm_deed hn t6 hG la (by omega) (by omega))
      · have hh : 1 + a.height + (D + 1) ≤ 5 := hAD
        refine ⟨_, rfl, pf, _, _, _, rfl, rfl, st hpf, at0 _ _, _, _, .str _, .str _, (by decide +kernel), (by decide +kernel), _, rfl, ?_⟩
        rw [eqv_str]
        refine itD rfl ?_
        refine ⟨_, rfl, _, rfl, pf, _, _, _, rfl, rfl, st hpf, at1 _ _ _, p, x, a, 1, rfl, c1, hx, by omega, by omega, by decide, fun H2 u G k2 c2 pu hG => ?_⟩
        have hg1 := hG.2.1
        refine ⟨_, rfl, _, rfl, _, rfl, _, rfl, _, rfl, _, rfl, _, _, rfl, rfl, p, l, g, u, G, by show [_, _, _, V.int (((D + 1 : Nat) : Int) - 1)] = _; rw [less1], term1 (k1.trans k2) c2 pu (by omega) (hG.2.2 i.lo), fun H3 u3 e3 k3 c3 p3 t3 => ⟨small_sz (by simp), fun z1 nz1 => ⟨small_sz (by simp), fun z2 nz2 => ⟨small_sz (by simp), fun z3 nz3 => ?_⟩⟩⟩⟩
        have s4 := Same.new nz1 (o := .tup [.str "tell", .str "any", u3])
        have s5 := Same.new nz2 (o := .tup [.str "tell", u, .ref z1])
        have s6 := Same.new nz3 (o := .tup [.str "box", u, .ref z2])
        have s := (s4.trans s5).trans s6
        have pu' := (pu.keep (c2.tk k3))
        exact q _ _ (.box G (.tell G (.tell .any e3))) (((k1.trans k2).trans k3).trans (s.kp p)) (c3.same s) (.m3 upd_same (.str _) (pu'.same s) (.m3 (s6 _ _ upd_same) (.str _) (pu'.same s) (.m3 (s6 _ _ (s5 _ _ upd_same)) (.str _) (.str _) (p3.same s)))) (tm_box t3 hG (by omega))
end
end WS
set_option Elab.async false
set_option linter.all false
set_option maxRecDepth 100000
set_option maxHeartbeats 4000000
namespace WS
open PySem L2
section
variable {P : Program} {w : World} {K : PySem.W.Frag} {mg : Str → Option Value} {base : Heap}
theorem key_look {H : Hp} {kvs : List (Key × V)} {g : Ctx} (e : EnvK H kvs g) {ks : List Str} (hk : kvs.map (·.1) = ks.map Sum.inr) {y : Str} (hy : y ∈ ks) : ∃ F v, look g y = some F ∧ valV kvs (.inr y) = some v ∧ Pd H v F.d := by
  have h := e y
  cases el : look g y with
  | some F =>
    rw [el] at h
    obtain ⟨v, a, b⟩ := h
    exact ⟨F, v, rfl, a, b⟩
  | none =>
    rw [el] at h
    have h : valV kvs (.inr y) = none := h
    exfalso
    have hm : (Sum.inr y : Key) ∈ kvs.map (·.1) := by
      rw [hk]
      exact List.mem_map_of_mem (f := Sum.inr) hy
    obtain ⟨q, hq, e1⟩ := List.mem_map.mp hm
    have : (kvs.any fun kv => decide (kv.1 = Sum.inr y)) = true := List.any_eq_true.mpr ⟨q, hq, decide_eq_true e1⟩
    rw [valV_any, h] at this
    cases this
/-- the state behind the choice of the way -/
def TmSt (H : Hp) (p l : Addr) (v : V) (D : Nat) : St → Hp → Prop := fun σ H' => ∃ (d s : Addr) (wd : Int), σ = [some (.ref p), some (.ref l), some v, some (.int (D : Nat)), some (.ref d), some (.ref s), none, some (.int wd), none, none, none, none, none, none] ∧ Kp p H H' ∧ PotAt H' p ∧ 0 ≤ wd ∧ wd < 8
/-- names, the near ones, the way; a name taken at once -/
theorem sc_law_term : FnScope ["_law_pot_here", "_law_names", "_law_aim", "_law_deep", "_law_seen", "_law_some", "_law_name_here", "_law_way", "_law_form_here", "_law_ends", "_law_k", "_law_given", "_law_body", "_law_deed"] ["_law_pot_here", "_law_names", "_law_aim", "_law_deep"] (defScope s__law_term) := ⟨rfl, rfl, rfl, by decide +kernel, rfl, by decide +kernel, by decide +kernel⟩
theorem ok_law_term0 (T : Tx w K mg) (k : Nat) : Held P w K mg base (k + 12) (fL K "_law_term") (sp_term 0) := by
  have G_law_digit := (ok_law_digit (P := P) (base := base) T (k + 10))
  have G_law_is_near := (ok_law_is_near (P := P) (base := base) T (k + 7) 3)
  have G_law_plain := (ok_law_plain (P := P) (base := base) T (k + 4) 6)
  refine FunD.held T.f__law_term sc_law_term (fun _ _ _ _ _ _ us hl => match us, hl with | [_, _, _, _], _ => rfl) (fun vs H Q E h => ?len) (fun fd cdv A outer s H vs Q E hr h => ?body)
  case len => obtain ⟨p, l, g, v, A, rfl, _⟩ := h; rfl
  case body =>
    obtain ⟨p, l, g, v, A, rfl, i, q⟩ := h
    have hu := hu_of hr
    refine ⟨_, (pss_cons (ps_set (i := 4) sc_law_term.nd rfl (by first | exact Or.inl rfl | exact Or.inr rfl) (pe_callTy (call_dictP rfl) (by rfl) T.b_dict (by decide +kernel) (pa_cons (pv 1) pa_nil)))
      (pss_cons (ps_setLc (i := 5) (own := [("_law_name_here", 6)]) rfl sc_law_term.nd rfl rfl (sw_true rfl rfl rfl (by decide +kernel)) (pi_list (pe_callB (call_sortedD rfl) (by rfl) T.b_sorted (by decide +kernel) (pa_cons (pv 4) pa_nil))) (blkOk_by (own := [("_law_name_here", 6)]) (N := ["_law_pot_here", "_law_names", "_law_aim", "_law_deep", "_law_seen", "_law_some", "_law_name_here", "_law_way", "_law_form_here", "_law_ends", "_law_k", "_law_given", "_law_body", "_law_deed"]) (sc := defScope s__law_term) (by decide +kernel)) (fun _ _ _ _ _ => (pg_name (i := 6) sc_law_term.nd rfl (Or.inl rfl))) (fun _ _ _ _ _ => (pts_one (pt_val (pe_cl G_law_is_near hr T.g__law_is_near (pa_cons (pe_dget hu (pv 4) (pv 6) (fun _ _ => rfl)) (pa_cons (pv 2) pa_nil)))))) (fun _ _ _ _ _ => (pv 6)))
      (pss_cons (ps_set (i := 7) sc_law_term.nd rfl (by first | exact Or.inl rfl | exact Or.inr rfl) (pe_cl G_law_digit hr T.g__law_digit (pa_cons (pv 0) (pa_cons pe_int pa_nil))))
      (C8.pss_cut (ps_if (PW.pt (pw_and (pt_cmpR (op_neD hr.units) (pv 5) (pe_lst pa_nil) (nomark _)) (pw_and1 (PW.pt (pw_or (pt_cmpR op_lt (pv 7) pe_int (nomark _)) (pw_or1 (pt_cmpR op_lt (pv 3) pe_int (nomark _)))))))) (pss_one (ps_ret (pe_tup (pa_cons pe_str (pa_cons (pe_ix ix_list (pv 5) (pe_cl G_law_digit hr T.g__law_digit (pa_cons (pv 0) (pa_cons (pe_callB call_len_seq (by rfl) T.b_len PySem.boot_len (pa_cons (pv 5) pa_nil)) pa_nil))) (fun _ _ => rfl)) pa_nil))))) pss_nil)
      (pss_cons (ps_if (PW.pt (pw_or (pt_cmpR op_lt (pv 3) pe_int (nomark _)) (pw_or1 (pt_cmpR op_eq (pv 7) pe_int (nomark _))))) (pss_one (ps_ret (pe_cl G_law_plain hr T.g__law_plain (pa_cons (pv 0) (pa_cons (pv 2) pa_nil))))) pss_nil) pss_never))))), ?_⟩
    obtain ⟨xs, hb, hxs⟩ := i.bd
    have hAD := i.hd
    have hD3 := i.d3
    have hgl := i.gl
    have h60 : A.height ≤ 60 := by omega
    obtain ⟨ps, kvs, rfl, pr, em⟩ := env_merge (K := K) xs g hxs
    obtain ⟨env, ks, hks, hkl⟩ := em [] [] 0 (fun x => rfl) ⟨[], rfl, Nat.le_refl _⟩
    rw [List.nil_append] at env
    refine ⟨_, rfl, l, ps, kvs, rfl, sl hb, pr, fun d nd => ?_⟩
    have s1 := Same.new nd (o := .dK (mergeK [] kvs))
    have ed : (upd H d (.dK (mergeK [] kvs))) d = some (.dK (mergeK [] kvs)) := upd_same
    generalize hmk : mergeK [] kvs = mk at *
    have hv1 := i.pd.same s1
    generalize (upd H d (.dK mk)) = H1 at s1 ed hv1
    refine ⟨_, rfl, d, mk, ks, rfl, .inl ed, hks, by omega, fun ys p2 hperm _ np2 => ⟨p2, rfl, ⟨_, sl upd_same⟩, fun E hE => ?_⟩⟩
    have s2 := Same.new np2 (o := .lst (ys.map V.str))
    have e2 : (upd H1 p2 (.lst (ys.map V.str))) p2 = some (.lst (ys.map V.str)) := upd_same
    generalize (upd H1 p2 (.lst (ys.map V.str))) = H2 at s2 e2 hE
    have hyl : ys.length ≤ 40 := by rw [hperm.length_eq]; omega
    have s12 := s1.trans s2
    refine lcS (σ := [some (.ref p), some (.ref l), some v, some (.int (0 : Nat)), some (.ref d), none, none, none, none, none, none, none, none, none]) (src_list (xs := ys.map V.str)) (fun j acc H' => Same H2 H' ∧ ∃ zs : List Str, acc = zs.map V.str ∧ zs.length ≤ j ∧ ∀ z ∈ zs, ∃ F, look g z = some F ∧ near F A = true) (small_sz (by rw [List.length_map]; omega)) ⟨.new hE, [], rfl, Nat.le_refl _, by simp⟩ (fun j acc H' pv => sl (pv.1 _ _ e2)) (fun j y acc H' H5 KK K2 hj hla pv hDl sm hI kk kk2 => ?_) (fun acc H' hla pv eE => ?_)
    · obtain ⟨s3, zs, rfl, hzl, hz⟩ := pv
      have s5 := s3.trans sm
      rw [List.getElem?_map, Option.map_eq_some_iff] at hI
      obtain ⟨y', ey, rfl⟩ := hI
      obtain ⟨F, u, elk, evl, pu⟩ := key_look env hks (hperm.mem_iff.mp (List.mem_of_getElem? ey))
      have hFh : F.height ≤ 2 := (i.nm _ (look_mem elk)).2
      have s15 := s12.trans s5
      refine ⟨rfl, _, rfl, _, rfl, d, u, rfl, .inl ⟨mk, .inr y', .inl (s5 _ _ (s2 _ _ ed)), rfl, evl.symm⟩, _, rfl, u, v, F, A, rfl, pu.same s15, i.pd.same s15, by have : F.height ≤ 2 := hFh; omega, by omega, h60, fun H6 s6 => ⟨_, rfl, ?_⟩⟩
      have eE6 := s6 _ _ (sm _ _ hDl)
      cases hn : near F A with
      | true =>
        refine iteT ⟨_, rfl, kk _ _ eE6 ⟨fun b u eb => ?_, zs ++ [y'], by rw [List.map_append]; rfl, by rw [List.length_append]; simp; omega, fun z hz' => ?_⟩⟩
        · rw [upd_ne (ne_of_none eb hE)]
          exact s6 _ _ (s5 _ _ eb)
        · rcases List.mem_append.mp hz' with h | h
          · exact hz z h
          · rw [List.mem_singleton.mp h]
            exact ⟨F, elk, hn⟩
      | false => exact iteF (kk2 _ eE6 ⟨s5.trans s6, zs, rfl, by omega, hz⟩)
    obtain ⟨s3, zs, rfl, hzl, hz⟩ := pv
    have sA := s12.trans s3
    have zN : ∀ x ∈ zs, IsName x := fun x hx => by
      obtain ⟨F, e, _⟩ := hz x hx
      exact (i.nm _ (look_mem e)).1
    refine ⟨_, rfl, p, 8, rfl, i.pot.same sA, by decide, by decide, fun H7 wd k7 c7 w0 w8 => ?_⟩
    have eE7 := k7 E _ (pot_ne (i.pot.same s12) hE) eE
    have k7' := (sA.kp p).trans k7
    refine ⟨TmSt H p l v 0, ?_, ?_⟩
    · refine ⟨_, rfl, small_sz (by simp), fun e0 ne0 => ?_⟩
      have s8 := Same.new ne0 (o := .lst [])
      refine ⟨_, _, .lst (sl (s8 _ _ eE7)) (d_strs zs), .lst (sl upd_same) .nil, shaped_strs zs zN, by decide +kernel, _, rfl, ?_⟩
      rw [eqv_strs_nil]
      have c8 := c7.same s8
      have k8 := k7'.trans (s8.kp p)
      have eE8 := s8 _ _ eE7
      generalize (upd H7 e0 (.lst [])) = H8 at s8 c8 k8 eE8
      have go : TmSt H p l v 0 [some (.ref p), some (.ref l), some v, some (.int (0 : Nat)), some (.ref d), some (.ref E), none, some (.int wd), none, none, none, none, none, none] H8 := ⟨d, E, wd, rfl, k8, c8, w0, w8⟩
      by_cases hzs : zs = []
      · exact itN hzs (iteF go)
      · have hpos : 1 ≤ zs.length := by
          cases zs with
          | nil => exact absurd rfl hzs
          | cons a r => simp
        have take : (tRet (tTup (tCons (tC (.str "name")) (tCons (tOp (rIxL K) (tVar 5) (tCl sp_digit (tCons (tVar 0) (tCons (tCB (fun xs H Q => ∃ p ys, xs = [.ref p] ∧ (SqL K H p ys ∨ SqT K H p ys) ∧ Q (.int ys.length) H) (tCons (tVar 5) tNil)) tNil)))) tNil))) : TS) ⟨fun _ _ => False, Q, fun _ _ => False, fun _ _ => False⟩ [some (.ref p), some (.ref l), some v, some (.int (0 : Nat)), some (.ref d), some (.ref E), none, some (.int wd), none, none, none, none, none, none] H8 := by
          refine ⟨_, rfl, _, rfl, _, rfl, E, _, rfl, .inl (sl eE8), p, _, rfl, c8, by rw [List.length_map]; omega, by rw [List.length_map]; simp at hzl ⊢; omega, fun H9 d9 k9 c9 f1 f2 => ?_⟩
          have hlt : d9.toNat < zs.length := by rw [List.length_map] at f2; omega
          have ea := atN (zs.map V.str) d9 f1 f2
          rw [List.getElem_map] at ea
          have hm := List.getElem_mem hlt
          generalize zs[d9.toNat]'hlt = z at ea hm
          obtain ⟨F, e3, e4⟩ := hz z hm
          have hFh : F.height ≤ 2 := (i.nm _ (look_mem e3)).2
          have eE9 := k9 E _ (fun q => by
            obtain ⟨a, b, hab, _⟩ := c8
            rw [q, hab] at eE8
            cases zs with
            | nil => exact hzs rfl
            | cons a r => cases eE8) eE8
          refine ⟨E, _, d9, _, rfl, rfl, sl eE9, ea, small_sz (by simp), fun r nr => ?_⟩
          have s9 := Same.new nr (o := .tup [V.str "name", .str z])
          exact q _ _ (.name z) ((k8.trans k9).trans (s9.kp p)) (c9.same s9) (.m2 upd_same (.str _) (.str _)) (tm_name (zN z hm) e3 e4 hFh)
        refine itNn hzs ⟨_, rfl, _, _, rfl, rfl, _, rfl, ite2 (fun _ => iteT take) (fun _ => ⟨_, rfl, _, _, rfl, rfl, _, rfl, ite2 (fun _ => take) (fun _ => go)⟩)⟩
    · rintro σ H' ⟨d, s, wd, rfl, kk, cc, w0, w8⟩
      refine ⟨_, rfl, _, _, rfl, rfl, _, rfl, iteT ?_⟩
      exact ⟨_, rfl, _, rfl, p, v, A, rfl, cc, i.pd.keep (i.pot.tk kk), by omega, by omega, fun H5 u t k5 c5 pu ht => q _ _ t (kk.trans k5) c5 pu (tm_plain ht (by omega))⟩
theorem ok_law_termS (T : Tx w K mg) (k D : Nat) (G_law_term : Held P w K mg base (k + 12) (fL K "_law_term") (sp_term D)) : Held P w K mg base (k + 14) (fL K "_law_term") (sp_term (D + 1)) := by
  have G_law_digit := (ok_law_digit (P := P) (base := base) T (k + 12))
  have G_law_is_near := (ok_law_is_near (P := P) (base := base) T (k + 9) 3)
  have G_law_plain := (ok_law_plain (P := P) (base := base) T (k + 6) 6)
  have G_law_form := (ok_law_form (P := P) (base := base) T (k + 10) 2)
  have G_law_near := (ok_law_near (P := P) (base := base) T (k + 2) 6)
  have G_law_name := (ok_law_name (P := P) (base := base) T (k + 11))
  have G_law_by_head := ok_law_by_head T (k + 1) D G_law_term
  replace G_law_term := G_law_term.mono (show k + 12 ≤ k + 13 by omega)
  refine FunD.held T.f__law_term sc_law_term (fun _ _ _ _ _ _ us hl => match us, hl with | [_, _, _, _], _ => rfl) (fun vs H Q E h => ?len) (fun fd cdv A outer s H vs Q E hr h => ?body)
  case len => obtain ⟨p, l, g, v, A, rfl, _⟩ := h; rfl
  case body =>
    obtain ⟨p, l, g, v, A, rfl, i, q⟩ := h
    have hu := hu_of hr
    refine ⟨_, (pss_cons (ps_set (i := 4) sc_law_term.nd rfl (by first | exact Or.inl rfl | exact Or.inr rfl) (pe_callTy (call_dictP rfl) (by rfl) T.b_dict (by decide +kernel) (pa_cons (pv 1) pa_nil)))
      (pss_cons (ps_setLc (i := 5) (own := [("_law_name_here", 6)]) rfl sc_law_term.nd rfl rfl (sw_true rfl rfl rfl (by decide +kernel)) (pi_list (pe_callB (call_sortedD rfl) (by rfl) T.b_sorted (by decide +kernel) (pa_cons (pv 4) pa_nil))) (blkOk_by (own := [("_law_name_here", 6)]) (N := ["_law_pot_here", "_law_names", "_law_aim", "_law_deep", "_law_seen", "_law_some", "_law_name_here", "_law_way", "_law_form_here", "_law_ends", "_law_k", "_law_given", "_law_body", "_law_deed"]) (sc := defScope s__law_term) (by decide +kernel)) (fun _ _ _ _ _ => (pg_name (i := 6) sc_law_term.nd rfl (Or.inl rfl))) (fun _ _ _ _ _ => (pts_one (pt_val (pe_cl G_law_is_near hr T.g__law_is_near (pa_cons (pe_dget hu (pv 4) (pv 6) (fun _ _ => rfl)) (pa_cons (pv 2) pa_nil)))))) (fun _ _ _ _ _ => (pv 6)))
      (pss_cons (ps_set (i := 7) sc_law_term.nd rfl (by first | exact Or.inl rfl | exact Or.inr rfl) (pe_cl G_law_digit hr T.g__law_digit (pa_cons (pv 0) (pa_cons pe_int pa_nil))))
      (C8.pss_cut (ps_if (PW.pt (pw_and (pt_cmpR (op_neD hr.units) (pv 5) (pe_lst pa_nil) (nomark _)) (pw_and1 (PW.pt (pw_or (pt_cmpR op_lt (pv 7) pe_int (nomark _)) (pw_or1 (pt_cmpR op_lt (pv 3) pe_int (nomark _)))))))) (pss_one (ps_ret (pe_tup (pa_cons pe_str (pa_cons (pe_ix ix_list (pv 5) (pe_cl G_law_digit hr T.g__law_digit (pa_cons (pv 0) (pa_cons (pe_callB call_len_seq (by rfl) T.b_len PySem.boot_len (pa_cons (pv 5) pa_nil)) pa_nil))) (fun _ _ => rfl)) pa_nil))))) pss_nil)
      (pss_cons (ps_if (PW.pt (pw_or (pt_cmpR op_lt (pv 3) pe_int (nomark _)) (pw_or1 (pt_cmpR op_eq (pv 7) pe_int (nomark _))))) (pss_one (ps_ret (pe_cl G_law_plain hr T.g__law_plain (pa_cons (pv 0) (pa_cons (pv 2) pa_nil))))) pss_nil)
      (pss_cons (ps_set (i := 8) sc_law_term.nd rfl (by first | exact Or.inl rfl | exact Or.inr rfl) (pe_cl G_law_near hr T.g__law_near (pa_cons (pv 0) (pa_cons (pv 2) (pa_cons pe_int pa_nil)))))
      (pss_cons (ps_if (pt_cmpR op_eq (pv 7) pe_int (nomark _)) (pss_one (ps_ret (pe_tup (pa_cons pe_str (pa_cons (pv 8) (pa_cons (pe_cl G_law_term hr T.g__law_term (pa_cons (pv 0) (pa_cons (pv 1) (pa_cons (pv 8) (pa_cons (pe_op op_sub (pv 3) pe_int) pa_nil))))) pa_nil)))))) pss_nil)
      (pss_cons (ps_if (pt_cmpR op_eq (pv 7) pe_int (nomark _)) (pss_cons (ps_setLc (i := 9) (own := [("_law_k", 10)]) rfl sc_law_term.nd rfl rfl (sw_true rfl rfl rfl (by decide +kernel)) (pi_range1 rfl T.b_range (pa_cons pe_int pa_nil)) (blkOk_by (own := [("_law_k", 10)]) (N := ["_law_pot_here", "_law_names", "_law_aim", "_law_deep", "_law_seen", "_law_some", "_law_name_here", "_law_way", "_law_form_here", "_law_ends", "_law_k", "_law_given", "_law_body", "_law_deed"]) (sc := defScope s__law_term) (by decide +kernel)) (fun _ _ _ _ _ => (pg_name (i := 10) sc_law_term.nd rfl (Or.inl rfl))) (fun _ _ _ _ _ => pts_nil) (fun _ _ _ _ _ => (pe_tup (pa_cons pe_str (pa_cons pe_str (pa_cons (pe_cl G_law_term hr T.g__law_term (pa_cons (pv 0) (pa_cons (pv 1) (pa_cons (pv 2) (pa_cons (pe_op op_sub (pv 3) pe_int) pa_nil))))) pa_nil))))))
      (pss_one (ps_ret (pe_tup (pa_cons pe_str (pa_cons (pe_cl G_law_term hr T.g__law_term (pa_cons (pv 0) (pa_cons (pv 1) (pa_cons pe_str (pa_cons (pe_op op_sub (pv 3) pe_int) pa_nil))))) (pa_cons (pe_ix ix_list (pv 9) pe_int (fun _ _ => rfl)) (pa_cons (pe_ix ix_list (pv 9) pe_int (fun _ _ => rfl)) pa_nil)))))))) pss_nil)
      (pss_cons (ps_if (pt_cmpR op_eq (pv 7) pe_int (nomark _)) (pss_cons (ps_par (i := 11) (j := 6) rfl sc_law_term.nd rfl rfl (by decide) rfl rfl (pa_cons (pe_cl G_law_form hr T.g__law_form (pa_cons (pv 0) (pa_cons pe_int pa_nil))) (pa_cons (pe_cl G_law_name hr T.g__law_name (pa_cons (pv 0) (pa_cons (pe_lst pa_nil) pa_nil))) pa_nil)) rfl)
      (pss_cons (ps_set (i := 12) sc_law_term.nd rfl (by first | exact Or.inl rfl | exact Or.inr rfl) (pe_cl G_law_term hr T.g__law_term (pa_cons (pv 0) (pa_cons (pe_op op_cat (pv 1) (pe_lst (pa_cons (pe_tup (pa_cons (pv 6) (pa_cons (pv 11) pa_nil))) pa_nil))) (pa_cons (pv 2) (pa_cons (pe_op op_sub (pv 3) pe_int) pa_nil))))))
      (pss_one (ps_ret (pe_tup (pa_cons pe_str (pa_cons (pv 6) (pa_cons (pe_tup (pa_cons pe_str (pa_cons (pv 11) (pa_cons (pe_cl G_law_term hr T.g__law_term (pa_cons (pv 0) (pa_cons (pv 1) (pa_cons (pv 11) (pa_cons (pe_op op_sub (pv 3) pe_int) pa_nil))))) pa_nil)))) (pa_cons (pv 12) pa_nil))))))))) pss_nil)
      (C8.pss_cut (ps_if (PW.pt (pw_and (pt_cmpR op_eq (pv 7) pe_int (nomark _)) (pw_and1 (pt_cmpR op_eq (pe_cl G_law_digit hr T.g__law_digit (pa_cons (pv 0) (pa_cons pe_int pa_nil))) pe_int (nomark _))))) (pss_cons (ps_set (i := 11) sc_law_term.nd rfl (by first | exact Or.inl rfl | exact Or.inr rfl) (pe_cl G_law_form hr T.g__law_form (pa_cons (pv 0) (pa_cons pe_int pa_nil))))
      (pss_cons (ps_set (i := 13) sc_law_term.nd rfl (by first | exact Or.inl rfl | exact Or.inr rfl) (pe_cl G_law_term hr T.g__law_term (pa_cons (pv 0) (pa_cons (pv 1) (pa_cons (pe_tup (pa_cons pe_str (pa_cons (pv 11) (pa_cons (pv 2) pa_nil)))) (pa_cons (pe_op op_sub (pv 3) pe_int) pa_nil))))))
      (pss_one (ps_ret (pe_tup (pa_cons pe_str (pa_cons (pe_tup (pa_cons pe_str (pa_cons (pe_tup (pa_cons pe_str (pa_cons (pv 11) (pa_cons (pv 8) pa_nil)))) (pa_cons (pe_tup (pa_cons pe_str (pa_cons pe_str (pa_cons (pv 13) pa_nil)))) pa_nil)))) (pa_cons (pe_cl G_law_term hr T.g__law_term (pa_cons (pv 0) (pa_cons (pv 1) (pa_cons (pv 11) (pa_cons (pe_op op_sub (pv 3) pe_int) pa_nil))))) pa_nil)))))))) pss_nil)
      (pss_one (ps_ret (pe_cl G_law_by_head hr T.g__law_by_head (pa_cons (pv 0) (pa_cons (pv 1) (pa_cons (pv 2) (pa_cons (pv 3) pa_nil))))))))))))))))), ?_⟩
    obtain ⟨xs, hb, hxs⟩ := i.bd
    have hAD := i.hd
    have hD3 := i.d3
    have hgl := i.gl
    have h60 : A.height ≤ 60 := by omega
    obtain ⟨ps, kvs, rfl, pr, em⟩ := env_merge (K := K) xs g hxs
    obtain ⟨env, ks, hks, hkl⟩ := em [] [] 0 (fun x => rfl) ⟨[], rfl, Nat.le_refl _⟩
    rw [List.nil_append] at env
    refine ⟨_, rfl, l, ps, kvs, rfl, sl hb, pr, fun d nd => ?_⟩
    have s1 := Same.new nd (o := .dK (mergeK [] kvs))
    have ed : (upd H d (.dK (mergeK [] kvs))) d = some (.dK (mergeK [] kvs)) := upd_same
    generalize hmk : mergeK [] kvs = mk at *
    have hv1 := i.pd.same s1
    generalize (upd H d (.dK mk)) = H1 at s1 ed hv1
    refine ⟨_, rfl, d, mk, ks, rfl, .inl ed, hks, by omega, fun ys p2 hperm _ np2 => ⟨p2, rfl, ⟨_, sl upd_same⟩, fun E hE => ?_⟩⟩
    have s2 := Same.new np2 (o := .lst (ys.map V.str))
    have e2 : (upd H1 p2 (.lst (ys.map V.str))) p2 = some (.lst (ys.map V.str)) := upd_same
    generalize (upd H1 p2 (.lst (ys.map V.str))) = H2 at s2 e2 hE
    have hyl : ys.length ≤ 40 := by rw [hperm.length_eq]; omega
    have s12 := s1.trans s2
    refine lcS (σ := [some (.ref p), some (.ref l), some v, some (.int ((D + 1) : Nat)), some (.ref d), none, none, none, none, none, none, none, none, none]) (src_list (xs := ys.map V.str)) (fun j acc H' => Same H2 H' ∧ ∃ zs : List Str, acc = zs.map V.str ∧ zs.length ≤ j ∧ ∀ z ∈ zs, ∃ F, look g z = some F ∧ near F A = true) (small_sz (by rw [List.length_map]; omega)) ⟨.new hE, [], rfl, Nat.le_refl _, by simp⟩ (fun j acc H' pv => sl (pv.1 _ _ e2)) (fun j y acc H' H5 KK K2 hj hla pv hDl sm hI kk kk2 => ?_) (fun acc H' hla pv eE => ?_)
    · obtain ⟨s3, zs, rfl, hzl, hz⟩ := pv
      have s5 := s3.trans sm
      rw [List.getElem?_map, Option.map_eq_some_iff] at hI
      obtain ⟨y', ey, rfl⟩ := hI
      obtain ⟨F, u, elk, evl, pu⟩ := key_look env hks (hperm.mem_iff.mp (List.mem_of_getElem? ey))
      have hFh : F.height ≤ 2 := (i.nm _ (look_mem elk)).2
      have s15 := s12.trans s5
      refine ⟨rfl, _, rfl, _, rfl, d, u, rfl, .inl ⟨mk, .inr y', .inl (s5 _ _ (s2 _ _ ed)), rfl, evl.symm⟩, _, rfl, u, v, F, A, rfl, pu.same s15, i.pd.same s15, by have : F.height ≤ 2 := hFh; omega, by omega, h60, fun H6 s6 => ⟨_, rfl, ?_⟩⟩
      have eE6 := s6 _ _ (sm _ _ hDl)
      cases hn : near F A with
      | true =>
        refine iteT ⟨_, rfl, kk _ _ eE6 ⟨fun b u eb => ?_, zs ++ [y'], by rw [List.map_append]; rfl, by rw [List.length_append]; simp; omega, fun z hz' => ?_⟩⟩
        · rw [upd_ne (ne_of_none eb hE)]
          exact s6 _ _ (s5 _ _ eb)
        · rcases List.mem_append.mp hz' with h | h
          · exact hz z h
          · rw [List.mem_singleton.mp h]
            exact ⟨F, elk, hn⟩
      | false => exact iteF (kk2 _ eE6 ⟨s5.trans s6, zs, rfl, by omega, hz⟩)
    obtain ⟨s3, zs, rfl, hzl, hz⟩ := pv
    have sA := s12.trans s3
    have zN : ∀ x ∈ zs, IsName x := fun x hx => by
      obtain ⟨F, e, _⟩ := hz x hx
      exact (i.nm _ (look_mem e)).1
    refine ⟨_, rfl, p, 8, rfl, i.pot.same sA, by decide, by decide, fun H7 wd k7 c7 w0 w8 => ?_⟩
    have eE7 := k7 E _ (pot_ne (i.pot.same s12) hE) eE
    have k7' := (sA.kp p).trans k7
    refine ⟨TmSt H p l v (D + 1), ?_, ?_⟩
    · refine ⟨_, rfl, small_sz (by simp), fun e0 ne0 => ?_⟩
      have s8 := Same.new ne0 (o := .lst [])
      refine ⟨_, _, .lst (sl (s8 _ _ eE7)) (d_strs zs), .lst (sl upd_same) .nil, shaped_strs zs zN, by decide +kernel, _, rfl, ?_⟩
      rw [eqv_strs_nil]
      have c8 := c7.same s8
      have k8 := k7'.trans (s8.kp p)
      have eE8 := s8 _ _ eE7
      generalize (upd H7 e0 (.lst [])) = H8 at s8 c8 k8 eE8
      have go : TmSt H p l v (D + 1) [some (.ref p), some (.ref l), some v, some (.int ((D + 1) : Nat)), some (.ref d), some (.ref E), none, some (.int wd), none, none, none, none, none, none] H8 := ⟨d, E, wd, rfl, k8, c8, w0, w8⟩
      by_cases hzs : zs = []
      · exact itN hzs (iteF go)
      · have hpos : 1 ≤ zs.length := by
          cases zs with
          | nil => exact absurd rfl hzs
          | cons a r => simp
        have take : (tRet (tTup (tCons (tC (.str "name")) (tCons (tOp (rIxL K) (tVar 5) (tCl sp_digit (tCons (tVar 0) (tCons (tCB (fun xs H Q => ∃ p ys, xs = [.ref p] ∧ (SqL K H p ys ∨ SqT K H p ys) ∧ Q (.int ys.length) H) (tCons (tVar 5) tNil)) tNil)))) tNil))) : TS) ⟨fun _ _ => False, Q, fun _ _ => False, fun _ _ => False⟩ [some (.ref p), some (.ref l), some v, some (.int ((D + 1) : Nat)), some (.ref d), some (.ref E), none, some (.int wd), none, none, none, none, none, none] H8 := by
          refine ⟨_, rfl, _, rfl, _, rfl, E, _, rfl, .inl (sl eE8), p, _, rfl, c8, by rw [List.length_map]; omega, by rw [List.length_map]; simp at hzl ⊢; omega, fun H9 d9 k9 c9 f1 f2 => ?_⟩
          have hlt : d9.toNat < zs.length := by rw [List.length_map] at f2; omega
          have ea := atN (zs.map V.str) d9 f1 f2
          rw [List.getElem_map] at ea
          have hm := List.getElem_mem hlt
          generalize zs[d9.toNat]'hlt = z at ea hm
          obtain ⟨F, e3, e4⟩ := hz z hm
          have hFh : F.height ≤ 2 := (i.nm _ (look_mem e3)).2
          have eE9 := k9 E _ (fun q => by
            obtain ⟨a, b, hab, _⟩ := c8
            rw [q, hab] at eE8
            cases zs with
            | nil => exact hzs rfl
            | cons a r => cases eE8) eE8
          refine ⟨E, _, d9, _, rfl, rfl, sl eE9, ea, small_sz (by simp), fun r nr => ?_⟩
          have s9 := Same.new nr (o := .tup [V.str "name", .str z])
          exact q _ _ (.name z) ((k8.trans k9).trans (s9.kp p)) (c9.same s9) (.m2 upd_same (.str _) (.str _)) (tm_name (zN z hm) e3 e4 hFh)
        refine itNn hzs ⟨_, rfl, _, _, rfl, rfl, _, rfl, ite2 (fun _ => iteT take) (fun _ => ⟨_, rfl, _, _, rfl, rfl, _, rfl, ite2 (fun _ => take) (fun _ => go)⟩)⟩
    · rintro σ H' ⟨d', s', wd', rfl, kk, cc, w0', w8'⟩
      have hv' := i.pd.keep (i.pot.tk kk)
      have dn : ∀ {H' : Hp} {u : V} {B : Form}, Kp p H H' → PotAt H' p → Pd H' u B.d → B.height + D ≤ 5 → B.low1 → DrIn H' p l g u B D := fun k c pd hB lB => i.step k c pd hB lB (Nat.le_succ D)
      refine ⟨_, rfl, _, _, rfl, rfl, _, rfl, itDn (by omega) ⟨_, rfl, rfl, _, rfl, ite2 (fun _ => ?_) (fun _ => ?_)⟩⟩
      · exact ⟨_, rfl, _, rfl, p, v, A, rfl, cc, hv', by omega, by omega, fun H5 u t k5 c5 pu ht => q _ _ t (kk.trans k5) c5 pu (tm_plain ht (by omega))⟩
      refine ⟨_, rfl, _, rfl, p, v, A, 2, rfl, cc, hv', by omega, by omega, by decide, fun H5 gu G k5 c5 pG hG => ?_⟩
      have kG := kk.trans k5
      have hg1 := hG.2.1
      have hvG := hv'.keep (cc.tk k5)
      -- tell
      refine ⟨_, rfl, rfl, _, rfl, ite2 (fun _ => ?_) (fun _ => ?_)⟩
      · refine ⟨_, rfl, _, rfl, _, rfl, _, rfl, _, rfl, _, _, rfl, rfl, p, l, g, gu, G, by show [_, _, _, V.int (((D + 1 : Nat) : Int) - 1)] = _; rw [less1], dn kG c5 pG (by omega) (hG.2.2 i.lo), fun H6 u t k6 c6 pu ht => ⟨small_sz (by simp), fun z nz => ?_⟩⟩
        have s7 := Same.new nz (o := .tup [V.str "tell", gu, u])
        exact q _ _ (.tell G t) ((kG.trans k6).trans (s7.kp p)) (c6.same s7) (.m3 upd_same (.str _) ((pG.keep (c5.tk k6)).same s7) (pu.same s7)) (tm_tell ht hG (by omega))
      -- if
      refine ⟨_, rfl, rfl, _, rfl, ite2 (fun _ => ?_) (fun _ => ?_)⟩
      · refine ⟨2, rfl, by decide, by decide, fun E hE => ?_⟩
        have hEp := pot_ne c5 hE
        refine lcS (σ := [some (.ref p), some (.ref l), some v, some (.int ((D + 1 : Nat) : Int)), some (.ref d'), some (.ref s'), none, some (.int wd'), some gu, none, none, none, none, none]) src_range (fun j acc H' => Kp p H5 H' ∧ PotAt H' p ∧ ∃ ts : List Term, ts.length = j ∧ PdAll H' acc (ts.map fun t => (Term.tell .any t).d) ∧ ∀ t ∈ ts, TmOk g A D t) (small_sz (by decide)) ⟨(Kp.refl _ _).upd hE, ?_, [], rfl, .nil, by simp⟩ (fun _ _ _ _ => True.intro) (fun j y acc H6 H7 KK K2 hj hla pv hDl sm hI k1' _ => ?_) (fun acc H6 hla pv eE6 => ?_)
        · obtain ⟨a, b, hab, r⟩ := c5
          exact ⟨a, b, by rw [upd_ne (Ne.symm hEp)]; exact hab, r⟩
        · obtain ⟨kp, cp, ts, htl, pts, hts⟩ := pv
          have k7 := (kG.trans kp).trans (sm.kp p)
          have c7' := cp.same sm
          refine ⟨rfl, _, rfl, _, rfl, _, rfl, _, rfl, _, _, rfl, rfl, p, l, g, v, A, by show [_, _, _, V.int (((D + 1 : Nat) : Int) - 1)] = _; rw [less1], dn k7 c7' (i.pd.keep (i.pot.tk k7)) (by omega) i.lo, fun H8 u t k8 c8 pu ht => ⟨small_sz (by simp), fun z nz => ?_⟩⟩
          have s9 := Same.new nz (o := .tup [V.str "tell", .str "any", u])
          have eE9 := s9 _ _ (k8 _ _ hEp (sm _ _ hDl))
          have tk9 : TK (upd H8 z (.tup [V.str "tell", .str "any", u])) (upd (upd H8 z (.tup [V.str "tell", .str "any", u])) E (.lst (acc ++ [.ref z]))) := tk_lst (.mut E _ _) eE9
          refine k1' _ _ eE9 ⟨(((kp.trans (sm.kp p)).trans k8).trans (s9.kp p)).upd hE, ?_, ts ++ [t], by rw [List.length_append, htl]; rfl, ?_, ?_⟩
          · obtain ⟨a, b, hab, r⟩ := c8.same s9
            exact ⟨a, b, by rw [upd_ne (Ne.symm hEp)]; exact hab, r⟩
          · rw [List.map_append]
            exact ((((pts.same sm).keep (c7'.tk k8)).same s9).keep tk9).app (.one ((Pd.m3 (d1 := .str "tell") (d2 := Form.any.d) (d3 := t.d) upd_same (.str _) (.str _) (pu.same s9)).keep tk9))
          · intro t' ht'
            rcases List.mem_append.mp ht' with h | h
            · exact hts t' h
            · rw [List.mem_singleton.mp h]
              exact ht
        · obtain ⟨kp, cp, ts, htl, pts, hts⟩ := pv
          match ts, htl with
          | [t1, t2], _ =>
            obtain ⟨u1, r1, rfl, hu1, pts⟩ := PdAll.cons_of pts
            obtain ⟨u2, r2, rfl, hu2, pts⟩ := PdAll.cons_of pts
            cases pts.nil_of
            have k6 := kG.trans kp
            refine ⟨_, rfl, _, rfl, _, rfl, _, _, rfl, rfl, p, l, g, .str "num", .num, by show [_, _, _, V.int (((D + 1 : Nat) : Int) - 1)] = _; rw [less1], dn k6 cp (fnum _) (by show 0 + D ≤ 5; omega) True.intro, fun H8 u t k8 c8 pu ht => ?_⟩
            have eE8 := k8 _ _ hEp eE6
            refine ⟨_, rfl, E, _, _, _, rfl, rfl, sl eE8, at0 _ _, _, rfl, E, _, _, _, rfl, rfl, sl eE8, at1 _ _ _, small_sz (by simp), fun z nz => ?_⟩
            have s9 := Same.new nz (o := .tup [V.str "if", u, u1, u2])
            have tk8 := cp.tk k8
            exact q _ _ (.ite t (.tell .any t1) (.tell .any t2)) ((k6.trans k8).trans (s9.kp p)) (c8.same s9) (.m4 upd_same (.str _) (pu.same s9) ((hu1.keep tk8).same s9) ((hu2.keep tk8).same s9)) (tm_if ht (hts t1 (by simp)) (hts t2 (by simp)))
      -- let
      refine ⟨_, rfl, rfl, _, rfl, ite2 (fun _ => ?_) (fun _ => ?_)⟩
      · refine ⟨_, rfl, p, 1, rfl, c5, by decide, by decide, fun H6 bu B k6 c6 pB hB => ⟨_, rfl, small_sz (by simp), fun e0 ne0 => ?_⟩⟩
        have s6 := Same.new ne0 (o := .lst [])
        refine ⟨p, e0, [], rfl, c6.same s6, upd_same, by simp, by simp, fun H7 nm k7 c7' hn _ => ⟨_, _, rfl, ?_⟩⟩
        have k7' := ((kG.trans k6).trans (s6.kp p)).trans k7
        have pB7 := pB.keep (s6.tk.trans ((c6.same s6).tk k7))
        have hb7 := k7' _ _ i.ne hb
        have hlx : (ps.map V.ref).length = g.length := by rw [hxs.length, List.length_map]
        refine ⟨_, rfl, _, rfl, _, rfl, _, rfl, small_sz (by simp), fun t1 n1 => ⟨small_sz (by simp), fun l1 nl1 => ?_⟩⟩
        have s8 := (Same.new n1 (o := .tup [.str nm, bu])).trans (Same.new nl1 (o := .lst [.ref t1]))
        have et1 := Same.new nl1 (o := .lst [.ref t1]) _ _ (upd_same (H := H7) (a := t1) (o := .tup [.str nm, bu]))
        refine ⟨l, l1, _, _, rfl, rfl, s8 _ _ hb7, upd_same, small_sz (by rw [hlx]; simp; omega), fun b2 nb2 => ?_⟩
        have s9 := s8.trans (Same.new nb2 (o := .lst (ps.map V.ref ++ [.ref t1])))
        have k9 := k7'.trans (s9.kp p)
        have c9 := c7'.same s9
        refine ⟨_, rfl, _, rfl, _, _, rfl, rfl, p, b2, g ++ [(nm, B)], v, A, by show [_, _, _, V.int (((D + 1 : Nat) : Int) - 1)] = _; rw [less1], i.snoc k9 c9 (s9 _ _ hb7) (Same.new nb2 _ _ et1) upd_same (pB7.same s9) hn (by omega) (i.pd.keep (i.pot.tk k9)) (by omega) i.lo (by omega), fun H10 u10 t10 k10 c10 p10 ht10 => ?_⟩
        have k10' := k9.trans k10
        have pB10 := (pB7.same s9).keep (c9.tk k10)
        refine ⟨_, rfl, _, rfl, _, rfl, _, rfl, _, rfl, _, rfl, _, _, rfl, rfl, p, l, g, bu, B, by show [_, _, _, V.int (((D + 1 : Nat) : Int) - 1)] = _; rw [less1], dn k10' c10 pB10 (by omega) (low1_of B (by omega)), fun H11 u11 t11 k11 c11 p11 ht11 => ⟨small_sz (by simp), fun z1 nz1 => ⟨_, rfl, small_sz (by simp), fun z2 nz2 => ?_⟩⟩⟩
        have s12' := Same.new nz1 (o := .tup [V.str "tell", bu, u11])
        have s13 := Same.new nz2 (o := .tup [V.str "let", .str nm, .ref z1, u10])
        have s14 := s12'.trans s13
        have tk11 := c10.tk k11
        exact q _ _ (.lets nm (.tell B t11) t10) ((k10'.trans k11).trans (s14.kp p)) (c11.same s14) (.m4 upd_same (.str _) (.str _) (.m3 (s13 _ _ upd_same) (.str _) ((pB10.keep tk11).same s14) (p11.same s14)) ((p10.keep tk11).same s14)) (tm_let hn ht11 ht10 hB)
      -- call
      refine ⟨fun σ H' => ∃ y11 y13, σ = [some (.ref p), some (.ref l), some v, some (.int ((D + 1 : Nat) : Int)), some (.ref d'), some (.ref s'), none, some (.int wd'), some gu, none, none, y11, none, y13] ∧ Kp p H H' ∧ PotAt H' p, ?_, ?_⟩
      · refine ⟨_, rfl, rfl, _, rfl, ite2 (fun _ => ?_) (fun _ => iteF ⟨none, none, rfl, kG, c5⟩)⟩
        refine ⟨_, rfl, p, 2, rfl, c5, by decide, by decide, fun H6 d6 k6 c6 _ _ => ⟨rfl, _, rfl, ite2 (fun _ => ?_) (fun _ => ⟨none, none, rfl, kG.trans k6, c6⟩)⟩⟩
        refine ⟨_, rfl, p, 1, rfl, c6, by decide, by decide, fun H7 bu B k7 c7' pB hB => ?_⟩
        have k7' := (kG.trans k6).trans k7
        have hv7 := i.pd.keep (i.pot.tk k7')
        refine ⟨_, rfl, _, rfl, _, rfl, _, rfl, small_sz (by simp), fun z nz => ⟨_, rfl, _, _, rfl, rfl, ?_⟩⟩
        have s8 := Same.new nz (o := .tup [V.str "deed", bu, v])
        have k8 := k7'.trans (s8.kp p)
        refine ⟨p, l, g, .ref z, .deed B A, by show [_, _, _, V.int (((D + 1 : Nat) : Int) - 1)] = _; rw [less1], dn k8 (c7'.same s8) (fdeed upd_same (pB.same s8) (hv7.same s8)) (by show 1 + max B.height A.height + D ≤ 5; omega) ⟨by omega, i.lo⟩, fun H9 u9 t9 k9 c9 p9 ht9 => ?_⟩
        have k9' := k8.trans k9
        have tk9 := (c7'.same s8).tk k9
        have pB9 := (pB.same s8).keep tk9
        have pG9 := (((pG.keep (c5.tk k6)).keep (c6.tk k7)).same s8).keep tk9
        refine ⟨_, rfl, _, rfl, small_sz (by simp), fun z1 nz1 => ⟨_, rfl, small_sz (by simp), fun z2 nz2 => ⟨small_sz (by simp), fun z3 nz3 => ?_⟩⟩⟩
        have s10 := Same.new nz1 (o := .tup [V.str "deed", bu, gu])
        have s11 := Same.new nz2 (o := .tup [V.str "tell", .str "any", u9])
        have s12' := Same.new nz3 (o := .tup [V.str "tell", .ref z1, .ref z2])
        have s13 := (s10.trans s11).trans s12'
        have k13 := k9'.trans (s13.kp p)
        have pf : Pd (upd (upd (upd H9 z1 (.tup [V.str "deed", bu, gu])) z2 (.tup [V.str "tell", .str "any", u9])) z3 (.tup [V.str "tell", .ref z1, .ref z2])) (.ref z3) (Term.tell (.deed B G) (.tell .any t9)).d :=
          .m3 upd_same (.str _) (fdeed ((s11.trans s12') _ _ upd_same) (pB9.same s13) (pG9.same s13)) (.m3 (s12' _ _ upd_same) (.str _) (.str _) (p9.same s13))
        have pB13 := pB9.same s13
        have c13 := c9.same s13
        generalize (upd (upd (upd H9 z1 (.tup [V.str "deed", bu, gu])) z2 (.tup [V.str "tell", .str "any", u9])) z3 (.tup [V.str "tell", .ref z1, .ref z2])) = H13 at s13 k13 pf pB13 c13
        refine ⟨_, rfl, _, rfl, _, rfl, _, rfl, _, _, rfl, rfl, p, l, g, bu, B, by show [_, _, _, V.int (((D + 1 : Nat) : Int) - 1)] = _; rw [less1], dn k13 c13 pB13 (by omega) (low1_of B (by omega)), fun H14 u14 t14 k14 c14 p14 ht14 => ⟨small_sz (by simp), fun z4 nz4 => ?_⟩⟩
        have s15 := Same.new nz4 (o := .tup [V.str "call", .ref z3, u14])
        exact q _ _ (.call (.tell (.deed B G) (.tell .any t9)) t14) ((k13.trans k14).trans (s15.kp p)) (c14.same s15) (.m3 upd_same (.str _) ((pf.keep (c13.tk k14)).same s15) (p14.same s15)) (tm_call ht9 ht14 hG hB (by omega))
      · rintro σ H' ⟨y11, y13, rfl, k9, c9⟩
        exact ⟨_, rfl, _, rfl, _, rfl, _, rfl, p, l, g, v, A, rfl, i.step k9 c9 (i.pd.keep (i.pot.tk k9)) i.hd i.lo (Nat.le_refl _), fun H' u t k' c' pu ht => q _ _ t (k9.trans k') c' pu ht⟩
theorem ok_law_term (T : Tx w K mg) (k : Nat) : ∀ D, Held P w K mg base (k + 2 * D + 12) (fL K "_law_term") (sp_term D)
  | 0 => ok_law_term0 T k
  | D + 1 => ok_law_termS T (k + 2 * D) D (ok_law_term T k D)
end
end WS
set_option Elab.async false
set_option linter.all false
set_option maxRecDepth 100000
set_option maxHeartbeats 4000000
namespace WS
open PySem L2
/-- the law's own state -/
abbrev LD (a : V) (n : V) (d : V) : List (Key × V) := [(.inr "ahead", a), (.inr "count", n), (.inr "forms", d)]
def Lc (H : Hp) (p : Addr) (a : Str) (d : Addr) (n : Nat) : Prop := H p = some (.dK (LD (.str a) (.int (n : Nat)) (.ref d)))
theorem Lc.ntup {H : Hp} {p : Addr} {a : Str} {d : Addr} {n : Nat} (h : Lc H p a d n) (xs : List V) : H p ≠ some (.tup xs) := fun e => by
  rw [show H p = _ from h] at e
  cases e
theorem Lc.tk {H H' : Hp} {p : Addr} {a : Str} {d : Addr} {n : Nat} (h : Lc H p a d n) (k : Kp p H H') : TK H H' := k.tk h.ntup
theorem Lc.same {H H' : Hp} {p : Addr} {a : Str} {d : Addr} {n : Nat} (h : Lc H p a d n) (s : Same H H') : Lc H' p a d n := s _ _ h
theorem Lc.eq {H : Hp} {p : Addr} {a : Str} {d : Addr} {n m : Nat} (h : Lc H p a d n) (e : n = m) : Lc H p a d m := e ▸ h
theorem kac : ¬ (Sum.inr ("ahead" : Str) : Key) = (Sum.inr ("count" : Str) : Key) := by decide
theorem kaf : ¬ (Sum.inr ("ahead" : Str) : Key) = (Sum.inr ("forms" : Str) : Key) := by decide
theorem kcf : ¬ (Sum.inr ("count" : Str) : Key) = (Sum.inr ("forms" : Str) : Key) := by decide
theorem kfc : ¬ (Sum.inr ("forms" : Str) : Key) = (Sum.inr ("count" : Str) : Key) := by decide
theorem ld1 (a n d : V) : valV (LD a n d) (.inr "ahead") = some a := rfl
theorem ld2 (a n d : V) : valV (LD a n d) (.inr "count") = some n := by
  rw [valV_neg kac]
  rfl
theorem ld3 (a n d : V) : valV (LD a n d) (.inr "forms") = some d := by
  rw [valV_neg kaf, valV_neg kcf]
  rfl
theorem ldP (a n d m : V) : putK (LD a n d) (.inr "count") m = LD a m d := by
  unfold putK
  rw [if_pos (by simp)]
  simp only [List.map_cons, List.map_nil]
  rw [if_neg kac, if_pos trivial, if_neg kfc]
theorem PlB.lc {H H' : Hp} {p b d d' : Addr} {a : Str} {n : Nat} {g0 g : Ctx} (h : PlB H b d g0 g) (c : Lc H p a d' n) (hne : p ≠ d) (k : Kp p H H') : PlB H' b d g0 g :=
  h.kp k c.ntup (fun xs q => by rw [show H p = _ from c] at q; cases q) (fun xs => .inr hne)
theorem lc_ne {H : Hp} {p d d' : Addr} {a : Str} {n : Nat} {g0 : Ctx} (c : Lc H p a d' n) (e : EnvAt H d g0) : p ≠ d := by
  rintro rfl
  obtain ⟨kvs, hk, q⟩ := e
  rw [show H p = _ from c] at hk
  cases hk
  have h := q "count"
  rw [ld2] at h
  cases el : look g0 "count" with
  | none => rw [el] at h; cases h
  | some F =>
    rw [el] at h
    obtain ⟨v, e1, e2⟩ := h
    cases e1
    cases F <;> cases e2
structure LwIn (H : Hp) (p b d : Addr) (v : V) (a : Str) (g0 g : Ctx) (n : Nat) (t : Term) : Prop where
  pc : Lc H p a d n
  pb : PlB H b d g0 g
  pd : Pd H v t.d
  ok : Ok (g0 ++ g) t
  wr : Wr t
  al : a.length ≤ 8
  nb : n + cnt t ≤ 100000
  gl : g.length + t.depth ≤ 1000
theorem LwIn.fh {H : Hp} {p b d : Addr} {v : V} {a : Str} {g0 g : Ctx} {n : Nat} {t : Term} (h : LwIn H p b d v a g0 g n t) : (fo (g0 ++ g) t).height ≤ 5 := fo_height t _ h.ok h.wr h.pb.low
theorem LwIn.ne {H : Hp} {p b d : Addr} {v : V} {a : Str} {g0 g : Ctx} {n : Nat} {t : Term} (h : LwIn H p b d v a g0 g n t) : p ≠ d := lc_ne h.pc h.pb.env
theorem LwIn.sub {H H1 : Hp} {p b d : Addr} {v u : V} {a : Str} {g0 g : Ctx} {n n1 : Nat} {t s : Term} (i : LwIn H p b d v a g0 g n t) (k : Kp p H H1) (c : Lc H1 p a d n1) (pd : Pd H u s.d) (ok : Ok (g0 ++ g) s) (wr : Wr s)
    (hn : n1 + cnt s ≤ n + cnt t) (hd : s.depth ≤ t.depth) : LwIn H1 p b d u a g0 g n1 s :=
  ⟨c, i.pb.lc i.pc i.ne k, pd.keep (i.pc.tk k), ok, wr, i.al, by have := i.nb; omega, by have := i.gl; omega⟩
theorem LwIn.deep {H H1 : Hp} {p b b2 d : Addr} {v u : V} {a : Str} {g0 g : Ctx} {n n1 : Nat} {t s : Term} {x : Str} {F : Form} {f : V} {q : Addr} {xs : List V} (i : LwIn H p b d v a g0 g n t) (k : Kp p H H1) (c : Lc H1 p a d n1)
    (hb : H1 b = some (.lst xs)) (hq : H1 q = some (.tup [.str x, f])) (hb2 : H1 b2 = some (.lst (xs ++ [.ref q]))) (hf : Pd H1 f F.d) (hF : F.height ≤ 5)
    (pd : Pd H u s.d) (ok : Ok ((g0 ++ g) ++ [(x, F)]) s) (wr : Wr s) (hn : n1 + cnt s ≤ n + cnt t) (hd : s.depth + 1 ≤ t.depth) : LwIn H1 p b2 d u a g0 (g ++ [(x, F)]) n1 s := by
  have pb := i.pb.lc i.pc i.ne k
  obtain ⟨ys, e, py⟩ := pb.bd
  rw [hb] at e
  cases e
  refine ⟨c, ⟨pb.env, BdAt.snoc (H := H1) (b := b) hb2 py (.m2 hq (.str _) hf), ?_⟩, pd.keep (i.pc.tk k), ?_, wr, i.al, by have := i.nb; omega, ?_⟩
  · rw [← List.append_assoc]
    exact pb.low.snoc hF
  · rw [← List.append_assoc]
    exact ok
  · rw [List.length_append]
    have := i.gl
    simp only [List.length_cons, List.length_nil]
    omega
section
variable {P : Program} {w : World} {K : PySem.W.Frag} {mg : Str → Option Value} {base : Heap}
/-! ### form_of -/
def sp_law_form_of : Sp := fun vs H Q _ => ∃ (p b d : Addr) (a x : Str) (n : Nat) (g0 g : Ctx) (F : Form), vs = [.ref p, .str x, .ref b] ∧ Lc H p a d n ∧ PlB H b d g0 g ∧ look (g0 ++ g) x = some F ∧ g.length ≤ 1000 ∧
  ∀ H' v, Same H H' → Pd H' v F.d → Q v H'
theorem sc_law_form_of : FnScope ["_law_state", "_law_name_here", "_law_bound", "_law_own", "_law_form_here"] ["_law_state", "_law_name_here", "_law_bound"] (defScope s__law_form_of) := ⟨rfl, rfl, rfl, by decide +kernel, rfl, by decide +kernel, by decide +kernel⟩
theorem ok_law_form_of (T : Tx w K mg) (k : Nat) : Held P w K mg base (k + 1) (fL K "_law_form_of") sp_law_form_of := by
  refine FunD.held T.f__law_form_of sc_law_form_of (fun _ _ _ _ _ _ us hl => match us, hl with | [_, _, _], _ => rfl) (fun vs H Q E h => ?len) (fun fd cdv A outer s H vs Q E hr h => ?body)
  case len => obtain ⟨p, b, d, a, x, n, g0, g, F, rfl, _⟩ := h; rfl
  case body =>
    obtain ⟨p, b, d, a, x, n, g0, g, F, rfl, hp, pb, lo, gl, q⟩ := h
    have hu := hu_of hr
    refine ⟨_, (pss_cons (ps_for PassesOwn.never rfl (pi_list (pe_revL (pv 2))) (pg_tup (n := 2) rfl (pgs_cons (pg_name (i := 3) sc_law_form_of.nd rfl (Or.inl rfl)) (pgs_cons (pg_name (i := 4) sc_law_form_of.nd rfl (Or.inl rfl)) pgs_nil))) (pss_one (ps_if (pt_cmpR op_eq (pv 3) (pv 1) (nomark _)) (pss_one (ps_ret (pv 4))) pss_nil)))
      (pss_one (ps_ret (pe_dget1 hu (pe_dget hu (pv 0) pe_str (fun _ _ => rfl)) (pv 1) ⟨rfl, rfl, rfl, rfl⟩)))), ?_⟩
    obtain ⟨xs, hb, hxs⟩ := pb.bd
    have hlen : xs.length = g.length := by rw [hxs.length, List.length_map]
    refine ⟨_, rfl, b, xs, rfl, sl hb, fun r nr => ⟨r, rfl, ⟨_, sl upd_same⟩, ?_⟩⟩
    have s0 := Same.new nr (o := .lst xs.reverse)
    have er : (upd H r (.lst xs.reverse)) r = some (.lst xs.reverse) := upd_same
    generalize (upd H r (.lst xs.reverse)) = H0 at s0 er
    refine forS (src_list (xs := xs.reverse)) (fun i σ H' => ∃ y3 y4, σ = [some (.ref p), some (.str x), some (.ref b), y3, y4] ∧ Same H H' ∧ H' r = some (.lst xs.reverse) ∧ look (g.drop (g.length - i)) x = none) ⟨none, none, rfl, s0, er, by rw [Nat.sub_zero, List.drop_length]; rfl⟩ ?_ ?_ ?_
    · rintro i σ H' ⟨_, _, _, _, e, _⟩
      exact sl e
    · rintro i y σ H2 H3 hi ⟨y3, y4, rfl, s2, e2, nl⟩ sm ey
      have s3 := s2.trans sm
      rw [List.length_reverse] at hi
      rw [List.getElem?_reverse hi] at ey
      obtain ⟨⟨z, G⟩, eg, hg⟩ := PdAll.atG (hxs.same s3) ey
      rw [hlen] at eg hi
      obtain ⟨tt, z', f, rfl, et, hz, hf⟩ := Pd.t2 hg
      cases hz.str_of
      refine ⟨tt, _, rfl, st et, rfl, _, _, rfl, f, _, rfl, rfl, ?_⟩
      refine ⟨_, rfl, _, rfl, rfl, _, rfl, ?_⟩
      have e1 : g.length - i = g.length - 1 - i + 1 := by omega
      have ed : g.drop (g.length - 1 - i) = (z, G) :: g.drop (g.length - i) := by
        obtain ⟨hlt, hge⟩ := List.getElem?_eq_some_iff.mp eg
        rw [e1, List.drop_eq_getElem_cons hlt, hge]
      have el : look (g.drop (g.length - 1 - i)) x = if z = x then some G else none := by
        rw [ed]
        show (match look (g.drop (g.length - i)) x with | some F => some F | none => if z = x then some G else none) = _
        rw [nl]
      by_cases hzx : z = x
      · refine itD (by rw [hzx]) ⟨_, rfl, ?_⟩
        rw [if_pos hzx] at el
        have eF : look (g0 ++ g) x = some G := by
          rw [← List.take_append_drop (g.length - 1 - i) g, ← List.append_assoc, look_app, el]
        rw [lo] at eF
        cases eF
        exact q _ _ s3 hf
      · refine itDn (by intro e; cases e; exact hzx rfl) ⟨_, _, rfl, s3, sm _ _ e2, ?_⟩
        rw [if_neg hzx] at el
        rw [show g.length - (i + 1) = g.length - 1 - i by omega]
        exact el
    · rintro σ H' ⟨y3, y4, rfl, s, _, nl⟩
      rw [List.length_reverse, hlen, Nat.sub_self, List.drop_zero] at nl
      have pb' := pb.same s
      obtain ⟨kvs, ek, hk⟩ := pb'.env
      have e0 : look g0 x = some F := by
        rw [look_app, nl] at lo
        exact lo
      have := hk x
      rw [e0] at this
      obtain ⟨v, ev, hv⟩ := this
      have hp' := hp.same s
      exact ⟨_, rfl, p, .ref d, rfl, .inl ⟨_, .inr "forms", .inl hp', rfl, (ld3 _ _ _).symm⟩, d, rfl, .inl ⟨kvs, .inl ek⟩, _, rfl, some v, .inl ⟨kvs, .inr x, .inl ek, rfl, ev.symm⟩, q _ _ s hv⟩
/-! ### fenced -/
def sp_fenced : Sp := fun vs H Q _ => ∃ (r : Addr) (m : Str) (v f b : V) (t : Term) (A B : Form), vs = [.ref r, b] ∧ H r = some (.tup [.str m, v, f, .non]) ∧ Pd H v t.d ∧ Pd H f A.d ∧ Pd H b B.d ∧ A.height ≤ 8 ∧ B.height ≤ 8 ∧ near A B = true ∧
  ∀ H' z x, Same H H' → H' z = some (.tup [x, .non]) → Pd H' x (fence m A B t).d → Q (.ref z) H'
theorem sc_law_fenced : FnScope ["_law_begun_here", "_law_aim", "_law_sign", "_law_placed", "_law_form_here", "_law_wrong"] ["_law_begun_here", "_law_aim"] (defScope s__law_fenced) := ⟨rfl, rfl, rfl, by decide +kernel, rfl, by decide +kernel, by decide +kernel⟩
theorem ok_law_fenced (T : Tx w K mg) (k : Nat) : Held P w K mg base (k + 11) (fL K "_law_fenced") sp_fenced := by
  have G_law_is_near := ok_law_is_near (P := P) (base := base) T k 9
  refine FunD.held T.f__law_fenced sc_law_fenced (fun _ _ _ _ _ _ us hl => match us, hl with | [_, _], _ => rfl) (fun vs H Q E h => ?len) (fun fd cdv A outer s H vs Q E hr h => ?body)
  case len => obtain ⟨r, m, v, f, b, t, A, B, rfl, _⟩ := h; rfl
  case body =>
    obtain ⟨r, m, v, f, b, t, A, B, rfl, er, hv, hf, hb, hA, hB, hn, q⟩ := h
    refine ⟨_, (pss_cons (ps_asg (pv 0) (pg_tup (n := 4) rfl (pgs_cons (pg_name (i := 2) sc_law_fenced.nd rfl (Or.inl rfl)) (pgs_cons (pg_name (i := 3) sc_law_fenced.nd rfl (Or.inl rfl)) (pgs_cons (pg_name (i := 4) sc_law_fenced.nd rfl (Or.inl rfl)) (pgs_cons (pg_name (i := 5) sc_law_fenced.nd rfl (Or.inl rfl)) pgs_nil))))))
      (pss_cons (ps_if (pt_cmpR op_notN (pv 5) pe_non (nomark _)) (pss_one (ps_ret (pe_tup (pa_cons pe_non (pa_cons (pv 5) pa_nil))))) pss_nil)
      (pss_cons (ps_if (pt_cmpR (op_eqD hr.units) (pv 4) (pv 1) (nomark _)) (pss_one (ps_ret (pe_tup (pa_cons (pv 3) (pa_cons pe_non pa_nil))))) pss_nil)
      (pss_cons (ps_if (pt_not (pt_val (pe_cl G_law_is_near hr T.g__law_is_near (pa_cons (pv 4) (pa_cons (pv 1) pa_nil))))) (pss_one (ps_ret (pe_tup (pa_cons pe_non (pa_cons (pe_tup (pa_cons pe_str (pa_cons (pv 2) pa_nil))) pa_nil))))) pss_nil)
      (pss_one (ps_ret (pe_tup (pa_cons (pe_tup (pa_cons pe_str (pa_cons (pv 2) (pa_cons (pv 4) (pa_cons (pv 1) (pa_cons (pv 3) pa_nil)))))) (pa_cons pe_non pa_nil))))))))), ?_⟩
    refine ⟨_, rfl, r, _, rfl, st er, rfl, _, _, rfl, _, _, rfl, _, _, rfl, _, _, rfl, rfl, ?_⟩
    refine ⟨_, rfl, rfl, _, rfl, iteF ⟨_, rfl, _, rfl, _, _, hf.dp, hb.dp, shaped_form A (by omega), shaped_form B (by omega), _, rfl, ?_⟩⟩
    rw [eqv_form]
    by_cases e : A = B
    · subst e
      refine itD rfl ⟨_, rfl, small_sz (by simp), fun z nz => q _ _ _ (Same.new nz) upd_same ?_⟩
      rw [fence_eq]
      exact hv.same (Same.new nz)
    · refine itDn e ⟨_, rfl, _, rfl, f, b, A, B, rfl, hf, hb, by omega, by omega, by omega, fun H' s => ⟨_, rfl, ?_⟩⟩
      rw [hn]
      refine iteF ⟨_, rfl, _, rfl, _, rfl, _, rfl, small_sz (by simp), fun y ny => ⟨small_sz (by simp), fun z nz => ?_⟩⟩
      have s1 := s.trans (Same.new ny (o := .tup [.str "wall", .str m, f, b, v]))
      have s2 := Same.new nz (o := .tup [.ref y, .non])
      have s3 := s1.trans s2
      refine q _ _ _ s3 upd_same ?_
      rw [fence_ne m e]
      exact .m5 (s2 _ _ upd_same) (.str _) (.str _) (hf.same s3) (hb.same s3) (hv.same s3)
end
end WS
set_option Elab.async false
set_option linter.all false
set_option maxRecDepth 100000
set_option maxHeartbeats 4000000
namespace WS
open PySem L2
def LwOut (H : Hp) (p d : Addr) (a : Str) (g : Ctx) (n : Nat) (t : Term) (Q : VK) : Prop :=
  ∀ H' r x y, Kp p H H' → Lc H' p a d (n + cnt t) → H' r = some (.tup [x, y, .non]) → Pd H' x (pl a g n t).d → Pd H' y (fo g t).d → Q (.ref r) H'
def sp_lplace (C : Term → Prop) (N : Nat) : Sp := fun vs H Q _ => ∃ p b d v a g0 g n t, vs = [.ref p, v, .ref b] ∧ LwIn H p b d v a g0 g n t ∧ t.depth < N ∧ C t ∧ LwOut H p d a (g0 ++ g) n t Q
def sp_lbegun (N : Nat) : Sp := fun vs H Q _ => ∃ p b d v a g0 g n t, vs = [.ref p, v, .ref b] ∧ LwIn H p b d v a g0 g n t ∧ n + 1 + cnt t ≤ 100000 ∧ t.depth < N ∧
  ∀ H' r x y, Kp p H H' → Lc H' p a d (n + 1 + cnt t) → H' r = some (.tup [.str (mk a (n + 1)), x, y, .non]) → Pd H' x (pl a (g0 ++ g) (n + 1) t).d → Pd H' y (fo (g0 ++ g) t).d → Q (.ref r) H'
def sp_laimed (N : Nat) : Sp := fun vs H Q _ => ∃ p b d v a g0 g n t f F, vs = [.ref p, v, .ref b, f] ∧ LwIn H p b d v a g0 g n t ∧ n + 1 + cnt t ≤ 100000 ∧ t.depth < N ∧ Pd H f (Form.d F) ∧ F.height ≤ 8 ∧ near (fo (g0 ++ g) t) F = true ∧
  ∀ H' r x, Kp p H H' → Lc H' p a d (n + 1 + cnt t) → H' r = some (.tup [x, .non]) → Pd H' x (fence (mk a (n + 1)) (fo (g0 ++ g) t) F (pl a (g0 ++ g) (n + 1) t)).d → Q (.ref r) H'
def sp_lheaded (N : Nat) : Sp := fun vs H Q _ => ∃ p b d v a g0 g n t hd W, vs = [.ref p, v, .ref b, .str hd] ∧ LwIn H p b d v a g0 g n t ∧ n + 1 + cnt t ≤ 100000 ∧ t.depth < N ∧ HdOk (fo (g0 ++ g) t) hd W ∧
  ∀ H' r x y, Kp p H H' → Lc H' p a d (n + 1 + cnt t) → H' r = some (.tup [x, y, .non]) → Pd H' x (fence (mk a (n + 1)) (fo (g0 ++ g) t) W (pl a (g0 ++ g) (n + 1) t)).d → Pd H' y W.d → Q (.ref r) H'
section
variable {P : Program} {w : World} {K : PySem.W.Frag} {mg : Str → Option Value} {base : Heap}
theorem sc_law_begun : FnScope ["_law_state", "_law_piece", "_law_bound", "_law_sign"] ["_law_state", "_law_piece", "_law_bound"] (defScope s__law_begun) := ⟨rfl, rfl, rfl, by decide +kernel, rfl, by decide +kernel, by decide +kernel⟩
theorem ok_law_begun (T : Tx w K mg) (k N : Nat) (G_law_place : Held P w K mg base k (fL K "_law_place") (sp_lplace (fun _ => True) N)) : Held P w K mg base (k + 1) (fL K "_law_begun") (sp_lbegun N) := by
  refine FunD.held T.f__law_begun sc_law_begun (fun _ _ _ _ _ _ us hl => match us, hl with | [_, _, _], _ => rfl) (fun vs H Q E h => ?len) (fun fd cdv A outer s H vs Q E hr h => ?body)
  case len => obtain ⟨p, b, d, v, a, g0, g, n, t, rfl, _⟩ := h; rfl
  case body =>
    obtain ⟨p, b, d, v, a, g0, g, n, t, rfl, i, nb, hN, q⟩ := h
    have hu := hu_of hr
    refine ⟨_, (pss_cons (ps_asg (pe_op op_add (pe_dget hu (pv 0) pe_str (fun _ _ => rfl)) pe_int) (pg_sub (pv 0) pe_str (set_dict hu)))
      (pss_cons (ps_set (i := 3) sc_law_begun.nd rfl (by first | exact Or.inl rfl | exact Or.inr rfl) (pe_op op_add_str (pe_op op_add_str (pe_dget hu (pv 0) pe_str (fun _ _ => rfl)) pe_str) (pe_callTy call_str_int (by rfl) T.b_str (by decide +kernel) (pa_cons (pe_dget hu (pv 0) pe_str (fun _ _ => rfl)) pa_nil))))
      (pss_one (ps_ret (pe_op op_catA (pe_tup (pa_cons (pv 3) pa_nil)) (pe_cl G_law_place hr T.g__law_place (pa_cons (pv 0) (pa_cons (pv 1) (pa_cons (pv 2) pa_nil))))))))), ?_⟩
    have hp := i.pc
    have al := i.al
    refine ⟨_, rfl, p, _, rfl, .inl ⟨_, .inr "count", .inl hp, rfl, (ld2 _ _ _).symm⟩, _, _, rfl, rfl, _, rfl, p, _, rfl, DPut.k (k := .inr "count") hp (small1000 (by simp)), ?_⟩
    rw [ldP]
    have ec : ((n : Nat) : Int) + 1 = ((n + 1 : Nat) : Int) := by omega
    have k1 : Kp p H (upd H p (.dK (LD (.str a) (.int ((n + 1 : Nat) : Int)) (.ref d)))) := .mut _ _ _
    have c1 : Lc (upd H p (.dK (LD (.str a) (.int ((n + 1 : Nat) : Int)) (.ref d)))) p a d (n + 1) := upd_same
    refine hpe (H' := upd H p (.dK (LD (.str a) (.int ((n + 1 : Nat) : Int)) (.ref d)))) (by rw [← ec]) ?_
    generalize (upd H p (.dK (LD (.str a) (.int ((n + 1 : Nat) : Int)) (.ref d)))) = H1 at k1 c1
    have ml := mark_len (n := n + 1) (by omega)
    have l1 : (a ++ ".").length = a.length + 1 := by rw [Str.length_append]; rfl
    have l2 : (a ++ "." ++ Str.ofString (toString ((n + 1 : Nat) : Int))).length ≤ a.length + 1 + 6 := by rw [Str.length_append, l1]; omega
    refine ⟨_, rfl, p, .str a, rfl, .inl ⟨_, .inr "ahead", .inl c1, rfl, (ld1 _ _ _).symm⟩, _, _, rfl, rfl, small_sz (by have : ("." : Str).length = 1 := rfl; omega), _, rfl, p, .int ((n + 1 : Nat) : Int), rfl, .inl ⟨_, .inr "count", .inl c1, rfl, (ld2 _ _ _).symm⟩, _, rfl, mark_log (n := n + 1) (by omega), _, _, rfl, rfl, small_sz (by rw [l1]; omega), ?_⟩
    refine ⟨_, rfl, small_sz (by simp), fun z nz => ?_⟩
    have s2 := Same.new nz (o := .tup [V.str (mk a (n + 1))])
    have c2 := c1.same s2
    have k2 := k1.trans (s2.kp p)
    have ez : (upd H1 z (.tup [V.str (mk a (n + 1))])) z = some (.tup [V.str (mk a (n + 1))]) := upd_same
    refine hpe (H' := upd H1 z (.tup [V.str (mk a (n + 1))])) rfl ?_
    generalize (upd H1 z (.tup [V.str (mk a (n + 1))])) = H2 at s2 c2 k2 ez
    refine ⟨_, rfl, _, rfl, _, rfl, p, b, d, v, a, g0, g, n + 1, t, rfl, ⟨c2, i.pb.lc i.pc i.ne k2, i.pd.keep (i.pc.tk k2), i.ok, i.wr, i.al, by omega, i.gl⟩, hN, True.intro, fun H3 r x y k3 c3 er px py => ?_⟩
    have ez3 := (c2.tk k3) _ _ ez
    refine ⟨z, r, _, _, rfl, rfl, st ez3, st er, small_sz (by simp), fun z => (List.cons_ne_nil _ _ z).elim, fun _ z => (List.cons_ne_nil _ _ z).elim, fun _ _ y4 ny4 => ?_⟩
    have s4 : Same H3 (upd H3 y4 (.tup ([V.str (mk a (n + 1))] ++ [x, y, .non]))) := Same.new ny4
    exact q _ _ _ _ ((k2.trans k3).trans (s4.kp p)) (c3.same s4) upd_same (px.same s4) (py.same s4)
theorem sc_law_aimed : FnScope ["_law_state", "_law_piece", "_law_bound", "_law_aim"] ["_law_state", "_law_piece", "_law_bound", "_law_aim"] (defScope s__law_aimed) := ⟨rfl, rfl, rfl, by decide +kernel, rfl, by decide +kernel, by decide +kernel⟩
theorem ok_law_aimed (T : Tx w K mg) (k N : Nat) (G_law_begun : Held P w K mg base (k + 11) (fL K "_law_begun") (sp_lbegun N)) : Held P w K mg base (k + 12) (fL K "_law_aimed") (sp_laimed N) := by
  have G_law_fenced := ok_law_fenced (P := P) (base := base) T k
  refine FunD.held T.f__law_aimed sc_law_aimed (fun _ _ _ _ _ _ us hl => match us, hl with | [_, _, _, _], _ => rfl) (fun vs H Q E h => ?len) (fun fd cdv A outer s H vs Q E hr h => ?body)
  case len => obtain ⟨p, b, d, v, a, g0, g, n, t, f, F, rfl, _⟩ := h; rfl
  case body =>
    obtain ⟨p, b, d, v, a, g0, g, n, t, f, F, rfl, i, nb, hN, hf, hF, hn, q⟩ := h
    refine ⟨_, (pss_one (ps_ret (pe_cl G_law_fenced hr T.g__law_fenced (pa_cons (pe_cl G_law_begun hr T.g__law_begun (pa_cons (pv 0) (pa_cons (pv 1) (pa_cons (pv 2) pa_nil)))) (pa_cons (pv 3) pa_nil))))), ?_⟩
    have fh := i.fh
    refine ⟨_, rfl, _, rfl, _, rfl, p, b, d, v, a, g0, g, n, t, rfl, i, nb, hN, fun H1 r x y k1 c1 er px py => ?_⟩
    exact ⟨_, rfl, r, _, x, y, f, _, _, F, rfl, er, px, py, hf.keep (i.pc.tk k1), by omega, hF, hn, fun H2 z u s ez pu => q _ _ _ (k1.trans (s.kp p)) (c1.same s) ez pu⟩
theorem at2 (x y z : V) (xs : List V) : atI (x :: y :: z :: xs) 2 = some z := by
  unfold atI ixN
  rw [if_pos (by decide), if_pos (by simp only [List.length_cons]; omega)]
  rfl
theorem at3 (x y z u : V) (xs : List V) : atI (x :: y :: z :: u :: xs) 3 = some u := by
  unfold atI ixN
  rw [if_pos (by decide), if_pos (by simp only [List.length_cons]; omega)]
  rfl
theorem kdb : ¬ (Sum.inr ("deed" : Str) : Key) = (Sum.inr ("box" : Str) : Key) := by decide
theorem mk2 (a b : V) : mergeK [] [((Sum.inr ("deed" : Str) : Key), a), ((Sum.inr ("box" : Str) : Key), b)] = [((Sum.inr ("deed" : Str) : Key), a), ((Sum.inr ("box" : Str) : Key), b)] := by
  unfold mergeK
  rw [List.foldl_cons, List.foldl_cons, List.foldl_nil, putK_new a valV_nil, List.nil_append, putK_new b (by rw [valV_neg kdb]; exact valV_nil)]
  rfl
theorem mk2d (a b : V) : valV (mergeK [] [((Sum.inr ("deed" : Str) : Key), a), ((Sum.inr ("box" : Str) : Key), b)]) (.inr "deed") = some a := by
  rw [mk2]
  exact valV_pos rfl
theorem mk2b (a b : V) : valV (mergeK [] [((Sum.inr ("deed" : Str) : Key), a), ((Sum.inr ("box" : Str) : Key), b)]) (.inr "box") = some b := by
  rw [mk2, valV_neg kdb]
  exact valV_pos rfl
theorem sc_law_headed : FnScope ["_law_state", "_law_piece", "_law_bound", "_law_sort", "_law_begun_here", "_law_form_here", "_law_aim", "_law_placed", "_law_wrong"] ["_law_state", "_law_piece", "_law_bound", "_law_sort"] (defScope s__law_headed) := ⟨rfl, rfl, rfl, by decide +kernel, rfl, by decide +kernel, by decide +kernel⟩
theorem ok_law_headed (T : Tx w K mg) (k N : Nat) (G_law_begun : Held P w K mg base (k + 11) (fL K "_law_begun") (sp_lbegun N)) : Held P w K mg base (k + 12) (fL K "_law_headed") (sp_lheaded N) := by
  have G_law_fenced := ok_law_fenced (P := P) (base := base) T k
  refine FunD.held T.f__law_headed sc_law_headed (fun _ _ _ _ _ _ us hl => match us, hl with | [_, _, _, _], _ => rfl) (fun vs H Q E h => ?len) (fun fd cdv A outer s H vs Q E hr h => ?body)
  case len => obtain ⟨p, b, d, v, a, g0, g, n, t, hd, W, rfl, _⟩ := h; rfl
  case body =>
    obtain ⟨p, b, d, v, a, g0, g, n, t, hd, W, rfl, i, nb, hN, hw, q⟩ := h
    have hu := hu_of hr
    refine ⟨_, (pss_cons (ps_set (i := 4) sc_law_headed.nd rfl (by first | exact Or.inl rfl | exact Or.inr rfl) (pe_cl G_law_begun hr T.g__law_begun (pa_cons (pv 0) (pa_cons (pv 1) (pa_cons (pv 2) pa_nil)))))
      (pss_cons (ps_set (i := 5) sc_law_headed.nd rfl (by first | exact Or.inl rfl | exact Or.inr rfl) (pe_ix ix_tup (pv 4) pe_int (fun _ _ => rfl)))
      (pss_cons (ps_if (pt_cmpR op_notN (pe_ix ix_tup (pv 4) pe_int (fun _ _ => rfl)) pe_non (nomark _)) (pss_one (ps_ret (pe_tup (pa_cons pe_non (pa_cons pe_non (pa_cons (pe_ix ix_tup (pv 4) pe_int (fun _ _ => rfl)) pa_nil)))))) pss_nil)
      (pss_cons (ps_set (i := 6) sc_law_headed.nd rfl (by first | exact Or.inl rfl | exact Or.inr rfl) (pv 5))
      (C8.pss_cut (ps_if (PW.pt (pw_or (pt_val (pe_callB call_isN (by rfl) T.b_isinstance (by decide +kernel) (pa_cons (pv 5) (pa_cons (pe_bltn (v := .ty "str") (by rfl) T.b_str (by decide +kernel) rfl) pa_nil)))) (pw_or1 (pt_cmpR (op_neD hr.units) (pe_ix ix_tup (pv 5) pe_int (fun _ _ => rfl)) (pv 3) (nomark _))))) (pss_one (ps_set (i := 6) sc_law_headed.nd rfl (by first | exact Or.inl rfl | exact Or.inr rfl) (pe_dget hu (pe_disp (pps_cons pe_str (pe_tup (pa_cons pe_str (pa_cons pe_str (pa_cons pe_str pa_nil)))) (pps_cons pe_str (pe_tup (pa_cons pe_str (pa_cons pe_str pa_nil))) pps_nil)) (by rfl) (by rfl) (fun z => by cases z) (by decide)) (pv 3) (fun _ _ => rfl)))) pss_nil)
      (pss_cons (ps_asg (pe_cl G_law_fenced hr T.g__law_fenced (pa_cons (pv 4) (pa_cons (pv 6) pa_nil))) (pg_tup (n := 2) rfl (pgs_cons (pg_name (i := 7) sc_law_headed.nd rfl (Or.inl rfl)) (pgs_cons (pg_name (i := 8) sc_law_headed.nd rfl (Or.inl rfl)) pgs_nil))))
      (pss_one (ps_ret (pe_tup (pa_cons (pv 7) (pa_cons (pv 6) (pa_cons (pv 8) pa_nil)))))))))))), ?_⟩
    have fh := i.fh
    have wh := hw.height fh
    refine ⟨_, rfl, _, rfl, _, rfl, p, b, d, v, a, g0, g, n, t, rfl, i, nb, hN, fun H1 r x y k1 c1 er px py => ?_⟩
    refine ⟨_, rfl, r, _, _, _, rfl, rfl, st er, at2 _ _ _ _, _, rfl, r, _, _, _, rfl, rfl, st er, at3 _ _ _ _ _, rfl, _, rfl, iteF ⟨_, rfl, ?_⟩⟩
    refine ⟨fun σ H2 => ∃ u, σ = [some (.ref p), some v, some (.ref b), some (.str hd), some (.ref r), some y, some u, none, none] ∧ Same H1 H2 ∧ Pd H2 u W.d, ?_, ?_⟩
    · have disp : ∀ (hd' : Str) (G : Form), (hd' = "deed" ∧ G = .deed .any .any) ∨ (hd' = "box" ∧ G = .box .any) → hd' = hd → W = G → ∀ Qc : VK, (∀ u H2, Same H1 H2 → Pd H2 u W.d → Qc u H2) → tDGet (tDisp [(tC (.str "deed"), tTup (tCons (tC (.str "deed")) (tCons (tC (.str "any")) (tCons (tC (.str "any")) tNil)))), (tC (.str "box"), tTup (tCons (tC (.str "box")) (tCons (tC (.str "any")) tNil)))]) (tVar 3) [some (.ref p), some v, some (.ref b), some (.str hd), some (.ref r), some y, some y, none, none] H1 Qc := by
        rintro hd' G hG rfl rfl Qc hQ
        refine fun dd ndd => ⟨small_sz (by simp), fun t1 n1 => ⟨small_sz (by simp), fun t2 n2 => ?_⟩⟩
        have s1 := Same.new ndd (o := .dK [])
        have s2 := Same.new n1 (o := .tup [V.str "deed", .str "any", .str "any"])
        have s3 := Same.new n2 (o := .tup [V.str "box", .str "any"])
        have edd := (s2.trans s3) _ _ (upd_same (H := H1) (a := dd) (o := .dK []))
        refine ⟨edd, [(.inr "deed", .ref t1), (.inr "box", .ref t2)], rfl, by simp, _, rfl, ?_⟩
        have e1 : t1 ≠ dd := ne_of (s3 _ _ upd_same) edd (fun z => by cases z)
        have e2 : t2 ≠ dd := ne_of upd_same edd (fun z => by cases z)
        have sA : Same H1 (upd (upd (upd (upd H1 dd (.dK [])) t1 (.tup [V.str "deed", .str "any", .str "any"])) t2 (.tup [V.str "box", .str "any"])) dd (.dK (mergeK [] [(.inr "deed", .ref t1), (.inr "box", .ref t2)]))) := fun b' u eb => by
          rw [upd_ne (ne_of_none eb ndd)]
          exact s3 _ _ (s2 _ _ (s1 _ _ eb))
        rcases hG with ⟨rfl, rfl⟩ | ⟨rfl, rfl⟩
        · refine ⟨dd, .ref t1, rfl, .inl ⟨_, .inr "deed", .inl upd_same, rfl, (mk2d _ _).symm⟩, hQ _ _ sA (fdeed ?_ (fany _) (fany _))⟩
          rw [upd_ne e1]
          exact s3 _ _ upd_same
        · refine ⟨dd, .ref t2, rfl, .inl ⟨_, .inr "box", .inl upd_same, rfl, (mk2b _ _).symm⟩, hQ _ _ sA (fbox ?_ (fany _))⟩
          rw [upd_ne e2]
          exact upd_same
      cases hw with
      | deed h =>
        rcases asDeed_eq h with ⟨ea, e3, e4⟩ | ea
        · have pd2 := disp "deed" (.deed .any .any) (.inl ⟨rfl, rfl⟩) rfl (by rw [e3, e4])
          rw [ea] at py
          cases py.str_of
          exact ⟨_, rfl, _, _, _, _, rfl, .str _, kss, _, rfl, iteT (iteT (pd2 _ fun u H2 s pu => ⟨u, rfl, s, pu⟩))⟩
        · rw [ea] at py
          obtain ⟨py1, wb, wd, wc, rfl, ew, hwb, hwd, hwc⟩ := Pd.t3 py
          cases hwb.str_of
          refine ⟨_, rfl, _, _, _, _, rfl, .tup ew, kts, _, rfl, iteF ⟨_, rfl, py1, _, _, _, rfl, rfl, st ew, at0 _ _, _, rfl, _, _, .str _, .str _, sdeed, sdeed, _, rfl, ?_⟩⟩
          rw [eqv_str]
          exact itN rfl ⟨_, rfl, Same.refl _, py⟩
      | box h =>
        rcases asBox_eq h with ⟨ea, e3⟩ | ea
        · have pd2 := disp "box" (.box .any) (.inr ⟨rfl, rfl⟩) rfl (by rw [e3])
          rw [ea] at py
          cases py.str_of
          exact ⟨_, rfl, _, _, _, _, rfl, .str _, kss, _, rfl, iteT (iteT (pd2 _ fun u H2 s pu => ⟨u, rfl, s, pu⟩))⟩
        · rw [ea] at py
          obtain ⟨py1, wb, wd, rfl, ew, hwb, hwd⟩ := Pd.t2 py
          cases hwb.str_of
          refine ⟨_, rfl, _, _, _, _, rfl, .tup ew, kts, _, rfl, iteF ⟨_, rfl, py1, _, _, _, rfl, rfl, st ew, at0 _ _, _, rfl, _, _, .str _, .str _, (by decide +kernel), (by decide +kernel), _, rfl, ?_⟩⟩
          rw [eqv_str]
          exact itN rfl ⟨_, rfl, Same.refl _, py⟩
    · rintro σ H2 ⟨u, rfl, s2, pu⟩
      refine ⟨_, rfl, _, rfl, r, _, x, y, u, _, _, W, rfl, s2 _ _ er, px.same s2, py.same s2, pu, by omega, by omega, hw.near, fun H3 z x' s3 ez pz => ?_⟩
      refine ⟨z, _, rfl, st ez, rfl, _, _, rfl, _, _, rfl, rfl, ?_⟩
      refine ⟨_, rfl, _, rfl, _, rfl, small_sz (by simp), fun z4 nz4 => ?_⟩
      have s4 := Same.new nz4 (o := .tup [x', u, .non])
      exact q _ _ _ _ (k1.trans (((s2.trans s3).trans s4).kp p)) (((c1.same s2).same s3).same s4) upd_same (pz.same s4) ((pu.same s3).same s4)
end
end WS
set_option Elab.async false
set_option linter.all false
set_option maxRecDepth 100000
set_option maxHeartbeats 4000000
namespace WS
open PySem L2
section
variable {P : Program} {w : World} {K : PySem.W.Frag} {mg : Str → Option Value} {base : Heap}
theorem atm2 (x y z u : V) : atI [x, y, z, u] (-2) = some z := rfl
theorem atm1 (x y z u : V) : atI [x, y, z, u] (-1) = some u := rfl
theorem sc_law_place_loose : FnScope ["_law_state", "_law_piece", "_law_bound", "_law_word", "_law_placed", "_law_form_here", "_law_wrong", "_law_first", "_law_given", "_law_more", "_law_second"] ["_law_state", "_law_piece", "_law_bound"] (defScope s__law_place_loose) := ⟨rfl, rfl, rfl, by decide +kernel, rfl, by decide +kernel, by decide +kernel⟩
theorem ok_law_place_loose (T : Tx w K mg) (k N : Nat) (G_law_place : Held P w K mg base (k + 8) (fL K "_law_place") (sp_lplace (fun _ => True) N)) :
    Held P w K mg base (k + 9) (fL K "_law_place_loose") (sp_lplace (fun t => (∃ x A e, t = .deed x A e) ∨ ∃ x e f, t = .lets x e f) (N + 1)) := by
  have G_law_low := ok_law_low (P := P) (base := base) T k
  refine FunD.held T.f__law_place_loose sc_law_place_loose (fun _ _ _ _ _ _ us hl => match us, hl with | [_, _, _], _ => rfl) (fun vs H Q E h => ?len) (fun fd cdv A outer s H vs Q E hr h => ?body)
  case len => obtain ⟨p, b, d, v, a, g0, g, n, t, rfl, _⟩ := h; rfl
  case body =>
    obtain ⟨p, b, d, v, a, g0, g, n, t, rfl, i, hN, hC, q⟩ := h
    refine ⟨_, (pss_cons (ps_set (i := 3) sc_law_place_loose.nd rfl (by first | exact Or.inl rfl | exact Or.inr rfl) (pe_ix ix_tup (pv 1) pe_int (fun _ _ => rfl)))
      (pss_cons (ps_if (pt_cmpR op_eq (pv 3) pe_str (nomark _)) (pss_cons (ps_asg (pe_cl G_law_place hr T.g__law_place (pa_cons (pv 0) (pa_cons (pe_ix ix_tup (pv 1) pe_int (fun _ _ => rfl)) (pa_cons (pe_op op_cat (pv 2) (pe_lst (pa_cons (pe_slice sl_tupA (pv 1) (po_some pe_int) (po_some pe_int)) pa_nil))) pa_nil)))) (pg_tup (n := 3) rfl (pgs_cons (pg_name (i := 4) sc_law_place_loose.nd rfl (Or.inl rfl)) (pgs_cons (pg_name (i := 5) sc_law_place_loose.nd rfl (Or.inl rfl)) (pgs_cons (pg_name (i := 6) sc_law_place_loose.nd rfl (Or.inl rfl)) pgs_nil)))))
      (pss_cons (ps_if (pt_cmpR op_notN (pv 6) pe_non (nomark _)) (pss_one (ps_ret (pe_tup (pa_cons pe_non (pa_cons pe_non (pa_cons (pv 6) pa_nil)))))) pss_nil)
      (pss_one (ps_ret (pe_cl G_law_low hr T.g__law_low (pa_cons (pe_op op_catA (pe_slice sl_tupA (pv 1) po_none (po_some pe_int)) (pe_tup (pa_cons (pv 4) pa_nil))) (pa_cons (pe_tup (pa_cons pe_str (pa_cons (pe_ix ix_tup (pv 1) pe_int (fun _ _ => rfl)) (pa_cons (pv 5) pa_nil)))) pa_nil))))))) pss_nil)
      (pss_cons (ps_asg (pe_cl G_law_place hr T.g__law_place (pa_cons (pv 0) (pa_cons (pe_ix ix_tup (pv 1) (pe_un un_neg pe_int) (fun _ _ => rfl)) (pa_cons (pv 2) pa_nil)))) (pg_tup (n := 3) rfl (pgs_cons (pg_name (i := 7) sc_law_place_loose.nd rfl (Or.inl rfl)) (pgs_cons (pg_name (i := 8) sc_law_place_loose.nd rfl (Or.inl rfl)) (pgs_cons (pg_name (i := 6) sc_law_place_loose.nd rfl (Or.inl rfl)) pgs_nil)))))
      (pss_cons (ps_if (pt_cmpR op_notN (pv 6) pe_non (nomark _)) (pss_one (ps_ret (pe_tup (pa_cons pe_non (pa_cons pe_non (pa_cons (pv 6) pa_nil)))))) pss_nil)
      (pss_cons (ps_set (i := 9) sc_law_place_loose.nd rfl (by first | exact Or.inl rfl | exact Or.inr rfl) (pe_ifExp (pt_cmpR op_eq (pv 3) pe_str (nomark _)) (pe_lst (pa_cons (pe_tup (pa_cons (pe_ix ix_tup (pv 1) pe_int (fun _ _ => rfl)) (pa_cons (pv 8) pa_nil))) pa_nil)) (pe_lst pa_nil)))
      (pss_cons (ps_asg (pe_cl G_law_place hr T.g__law_place (pa_cons (pv 0) (pa_cons (pe_ix ix_tup (pv 1) (pe_un un_neg pe_int) (fun _ _ => rfl)) (pa_cons (pe_op op_cat (pv 2) (pv 9)) pa_nil)))) (pg_tup (n := 3) rfl (pgs_cons (pg_name (i := 10) sc_law_place_loose.nd rfl (Or.inl rfl)) (pgs_cons (pg_name (i := 5) sc_law_place_loose.nd rfl (Or.inl rfl)) (pgs_cons (pg_name (i := 6) sc_law_place_loose.nd rfl (Or.inl rfl)) pgs_nil)))))
      (pss_one (ps_ret (pe_ifExp (pt_cmpR op_isN (pv 6) pe_non (nomark _)) (pe_tup (pa_cons (pe_op op_catA (pe_slice sl_tupA (pv 1) po_none (po_some (pe_un un_neg pe_int))) (pe_tup (pa_cons (pv 7) (pa_cons (pv 10) pa_nil)))) (pa_cons (pv 5) (pa_cons pe_non pa_nil)))) (pe_tup (pa_cons pe_non (pa_cons pe_non (pa_cons (pv 6) pa_nil))))))))))))), ?_⟩
    have hp := i.pc
    obtain ⟨xs, hb, hxs⟩ := i.pb.bd
    have hlx : xs.length = g.length := by rw [hxs.length, List.length_map]
    rcases hC with ⟨x, A, e, rfl⟩ | ⟨x, e, f, rfl⟩
    · obtain ⟨c, y1, y2, y3, y4, rfl, hc, h1, h2, h3, h4⟩ := Pd.t4 i.pd
      cases h1.str_of
      cases h2.str_of
      have hN' : 1 + e.depth < N + 1 := hN
      have hgl : g.length + (1 + e.depth) ≤ 1000 := i.gl
      refine ⟨_, rfl, c, _, _, _, rfl, rfl, st hc, at0 _ _, _, rfl, rfl, _, rfl, itD (by decide +kernel) ?_⟩
      refine ⟨_, rfl, _, rfl, c, _, _, _, rfl, rfl, st hc, at3 _ _ _ _ _, _, rfl, _, rfl, _, rfl, _, rfl, c, _, rfl, st hc, fun z => absurd z.1 (tail_ne _ _), fun _ t1 n1 => ⟨small_sz (by simp), fun l1 nl1 => ?_⟩⟩
      have s1 := (Same.new n1 (o := .tup [.str x, y3])).trans (Same.new nl1 (o := .lst [.ref t1]))
      have et1 := Same.new nl1 (o := .lst [.ref t1]) _ _ (upd_same (H := H) (a := t1) (o := .tup [.str x, y3]))
      refine ⟨b, l1, xs, [.ref t1], rfl, rfl, s1 _ _ hb, upd_same, small_sz (by simp; omega), fun b2 nb2 => ?_⟩
      have s2 := s1.trans (Same.new nb2 (o := .lst (xs ++ [.ref t1])))
      refine ⟨p, b2, d, y4, a, g0, g ++ [(x, A)], n, e, rfl, i.deep (s2.kp p) (i.pc.same s2) (s2 _ _ hb) (Same.new nb2 _ _ et1) upd_same (h3.same s2) (by have := i.ok.2.1; omega) h4 i.ok.1 i.wr.2.2 (Nat.le_refl _) (by show e.depth + 1 ≤ 1 + e.depth; omega), by omega, True.intro, fun H2 r u f k2 c2 er pu pf => ?_⟩
      refine ⟨r, _, rfl, st er, rfl, _, _, rfl, _, _, rfl, _, _, rfl, rfl, ?_⟩
      have k3 := (s2.kp p).trans k2
      have tk := i.pc.tk k3
      have hc3 := tk _ _ hc
      rw [← List.append_assoc] at pu pf
      refine ⟨_, rfl, rfl, _, rfl, iteF ?_⟩
      refine ⟨_, rfl, _, rfl, c, _, rfl, st hc3, fun z => absurd z.2 (by show ¬ HT.sIx 4 4 (some 3) = 4; decide +kernel), fun _ t3 nt3 => ⟨_, rfl, small_sz (by simp), fun t4 nt4 => ?_⟩⟩
      have s4 := (Same.new nt3 (o := .tup [.str "deed", .str x, y3])).trans (Same.new nt4 (o := .tup [u]))
      have et3 := Same.new nt4 (o := .tup [u]) _ _ (upd_same (H := H2) (a := t3) (o := .tup [.str "deed", .str x, y3]))
      refine ⟨t3, t4, _, _, rfl, rfl, st et3, st upd_same, small_sz (by simp), fun z => (List.cons_ne_nil _ _ z).elim, fun _ z => (List.cons_ne_nil _ _ z).elim, fun _ _ t5 nt5 => ?_⟩
      have s5 := s4.trans (Same.new nt5 (o := .tup [.str "deed", .str x, y3, u]))
      refine ⟨_, rfl, c, _, _, _, rfl, rfl, st (s5 _ _ hc3), at2 _ _ _ _, _, rfl, small_sz (by simp), fun t6 nt6 => ?_⟩
      have s6 := Same.new nt6 (o := .tup [.str "deed", y3, f])
      have s56 := s5.trans s6
      refine ⟨_, _, .deed A (fo ((g0 ++ g) ++ [(x, A)]) e), rfl, fdeed upd_same ((h3.keep tk).same s56) (pf.same s56), ?_, fun H5 p5 s7 e5 => ?_⟩
      · show 1 + max A.height _ ≤ 5
        have := i.ok.2.1
        have := i.ok.2.2
        omega
      · have s8 := s56.trans s7
        exact q _ _ _ _ (k3.trans (s8.kp p)) (c2.same s8) e5 (.m4 ((s6.trans s7) _ _ upd_same) (.str _) (.str _) ((h3.keep tk).same s8) (pu.same s8)) (fdeed (s7 _ _ upd_same) ((h3.keep tk).same s8) (pf.same s8))
    · obtain ⟨c, y1, y2, y3, y4, rfl, hc, h1, h2, h3, h4⟩ := Pd.t4 i.pd
      cases h1.str_of
      cases h2.str_of
      have hN' : 1 + max e.depth f.depth < N + 1 := hN
      have hgl : g.length + (1 + max e.depth f.depth) ≤ 1000 := i.gl
      have dt : (Term.lets x e f).depth = 1 + max e.depth f.depth := rfl
      have ct : cnt (Term.lets x e f) = cnt e + cnt f := rfl
      refine ⟨_, rfl, c, _, _, _, rfl, rfl, st hc, at0 _ _, _, rfl, rfl, _, rfl, itDn (by decide +kernel) ?_⟩
      have i1 : LwIn H p b d y3 a g0 g n e := i.sub (.refl _ _) i.pc h3 i.ok.1 i.wr.2.1 (by omega) (by omega)
      refine ⟨_, rfl, _, rfl, _, rfl, c, _, _, _, rfl, rfl, st hc, atm2 _ _ _ _, _, rfl, p, b, d, y3, a, g0, g, n, e, rfl, i1, by omega, True.intro, fun H1 r u y k1 c1 er pu py => ?_⟩
      refine ⟨r, _, rfl, st er, rfl, _, _, rfl, _, _, rfl, _, _, rfl, rfl, ?_⟩
      have hb1 := k1 _ _ (fun q => by rw [q, show H p = _ from hp] at hb; cases hb) hb
      have tk1 := i.pc.tk k1
      have hc1 := tk1 _ _ hc
      refine ⟨_, rfl, rfl, _, rfl, iteF ⟨_, rfl, rfl, _, rfl, itD (by decide +kernel) ⟨_, rfl, c, _, _, _, rfl, rfl, st hc1, at1 _ _ _, _, rfl, small_sz (by simp), fun t1 n1 => ⟨small_sz (by simp), fun l1 nl1 => ?_⟩⟩⟩⟩
      have s1 := (Same.new n1 (o := .tup [.str x, y])).trans (Same.new nl1 (o := .lst [.ref t1]))
      have et1 := Same.new nl1 (o := .lst [.ref t1]) _ _ (upd_same (H := H1) (a := t1) (o := .tup [.str x, y]))
      refine ⟨_, rfl, _, rfl, _, rfl, c, _, _, _, rfl, rfl, st (s1 _ _ hc1), atm1 _ _ _ _, _, rfl, _, rfl, b, l1, xs, [.ref t1], rfl, rfl, s1 _ _ hb1, upd_same, small_sz (by simp; omega), fun b2 nb2 => ?_⟩
      have s2 := s1.trans (Same.new nb2 (o := .lst (xs ++ [.ref t1])))
      have k2 := k1.trans (s2.kp p)
      have c2 := c1.same s2
      have i2 := i.deep k2 c2 (s2 _ _ hb1) (Same.new nb2 _ _ et1) upd_same (py.same s2) i1.fh h4 i.ok.2 i.wr.2.2 (by omega) (by omega)
      refine ⟨p, b2, d, y4, a, g0, g ++ [(x, fo (g0 ++ g) e)], n + cnt e, f, rfl, i2, by omega, True.intro, fun H2 r2 u2 f2 k3 c3 er2 pu2 pf2 => ?_⟩
      refine ⟨r2, _, rfl, st er2, rfl, _, _, rfl, _, _, rfl, _, _, rfl, rfl, ?_⟩
      have tk3 := c2.tk k3
      have hc3 := tk3 _ _ (s2 _ _ hc1)
      rw [← List.append_assoc] at pu2 pf2
      refine ⟨_, rfl, rfl, _, rfl, iteT ⟨_, rfl, _, rfl, _, rfl, c, _, rfl, st hc3, fun z => absurd z.2 (by show ¬ HT.sIx 4 4 (some (-2)) = 4; decide +kernel), fun _ t3 nt3 => ⟨_, rfl, _, rfl, small_sz (by simp), fun t4 nt4 => ?_⟩⟩⟩
      have s4 := (Same.new nt3 (o := .tup [.str "let", .str x])).trans (Same.new nt4 (o := .tup [u, u2]))
      have et3 := Same.new nt4 (o := .tup [u, u2]) _ _ (upd_same (H := H2) (a := t3) (o := .tup [.str "let", .str x]))
      refine ⟨t3, t4, _, _, rfl, rfl, st et3, st upd_same, small_sz (by simp), fun z => (List.cons_ne_nil _ _ z).elim, fun _ z => (List.cons_ne_nil _ _ z).elim, fun _ _ t5 nt5 => ⟨_, rfl, small_sz (by simp), fun t6 nt6 => ?_⟩⟩
      have s6 := Same.new nt6 (o := .tup [.ref t5, f2, .non])
      have s5 := (s4.trans (Same.new nt5 (o := .tup [.str "let", .str x, u, u2]))).trans s6
      exact q _ _ _ _ ((k2.trans k3).trans (s5.kp p)) ((c3.same s5).eq (by omega)) upd_same (.m4 (s6 _ _ upd_same) (.str _) (.str _) (((pu.same s2).keep tk3).same s5) (pu2.same s5)) (pf2.same s5)
end
end WS
set_option Elab.async false
set_option linter.all false
set_option maxRecDepth 100000
set_option maxHeartbeats 4000000
namespace WS
open PySem L2
section
variable {P : Program} {w : World} {K : PySem.W.Frag} {mg : Str → Option Value} {base : Heap}
theorem Kp.at_ {H H' : Hp} {p c d : Addr} {a : Str} {n : Nat} {xs : List V} (l : Lc H p a d n) (k : Kp p H H') (h : H c = some (.tup xs)) : H' c = some (.tup xs) := l.tk k _ _ h
theorem sc_law_place_headed : FnScope ["_law_state", "_law_piece", "_law_bound", "_law_word", "_law_first", "_law_form_here", "_law_wrong", "_law_second", "_law_given"] ["_law_state", "_law_piece", "_law_bound"] (defScope s__law_place_headed) := ⟨rfl, rfl, rfl, by decide +kernel, rfl, by decide +kernel, by decide +kernel⟩
theorem ok_law_place_headed (T : Tx w K mg) (k N : Nat) (G_law_headed : Held P w K mg base (k + 12) (fL K "_law_headed") (sp_lheaded N)) (G_law_aimed : Held P w K mg base (k + 12) (fL K "_law_aimed") (sp_laimed N)) :
    Held P w K mg base (k + 13) (fL K "_law_place_headed") (sp_lplace (fun t => (∃ f e, t = .call f e) ∨ (∃ e, t = .read e) ∨ (∃ f e, t = .write f e) ∨ ∃ f e, t = .same f e) (N + 1)) := by
  refine FunD.held T.f__law_place_headed sc_law_place_headed (fun _ _ _ _ _ _ us hl => match us, hl with | [_, _, _], _ => rfl) (fun vs H Q E h => ?len) (fun fd cdv A outer s H vs Q E hr h => ?body)
  case len => obtain ⟨p, b, d, v, a, g0, g, n, t, rfl, _⟩ := h; rfl
  case body =>
    obtain ⟨p, b, d, v, a, g0, g, n, t, rfl, i, hN, hC, q⟩ := h
    refine ⟨_, (pss_cons (ps_set (i := 3) sc_law_place_headed.nd rfl (by first | exact Or.inl rfl | exact Or.inr rfl) (pe_ix ix_tup (pv 1) pe_int (fun _ _ => rfl)))
      (pss_cons (ps_asg (pe_cl G_law_headed hr T.g__law_headed (pa_cons (pv 0) (pa_cons (pe_ix ix_tup (pv 1) pe_int (fun _ _ => rfl)) (pa_cons (pv 2) (pa_cons (pe_ifExp (pt_cmpR op_eq (pv 3) pe_str (nomark _)) pe_str pe_str) pa_nil))))) (pg_tup (n := 3) rfl (pgs_cons (pg_name (i := 4) sc_law_place_headed.nd rfl (Or.inl rfl)) (pgs_cons (pg_name (i := 5) sc_law_place_headed.nd rfl (Or.inl rfl)) (pgs_cons (pg_name (i := 6) sc_law_place_headed.nd rfl (Or.inl rfl)) pgs_nil)))))
      (pss_cons (ps_if (pt_cmpR op_notN (pv 6) pe_non (nomark _)) (pss_one (ps_ret (pe_tup (pa_cons pe_non (pa_cons pe_non (pa_cons (pv 6) pa_nil)))))) pss_nil)
      (pss_cons (ps_if (pt_cmpR op_eq (pv 3) pe_str (nomark _)) (pss_one (ps_ret (pe_tup (pa_cons (pe_tup (pa_cons (pv 3) (pa_cons (pv 4) pa_nil))) (pa_cons (pe_ix ix_tup (pv 5) pe_int (fun _ _ => rfl)) (pa_cons pe_non pa_nil)))))) pss_nil)
      (pss_cons (ps_if (pt_cmpR op_eq (pv 3) pe_str (nomark _)) (pss_one (ps_asg (pe_cl G_law_headed hr T.g__law_headed (pa_cons (pv 0) (pa_cons (pe_ix ix_tup (pv 1) pe_int (fun _ _ => rfl)) (pa_cons (pv 2) (pa_cons pe_str pa_nil))))) (pg_tup (n := 3) rfl (pgs_cons (pg_name (i := 7) sc_law_place_headed.nd rfl (Or.inl rfl)) (pgs_cons (pg_name (i := 8) sc_law_place_headed.nd rfl (Or.inl rfl)) (pgs_cons (pg_name (i := 6) sc_law_place_headed.nd rfl (Or.inl rfl)) pgs_nil)))))) (pss_one (ps_asg (pe_cl G_law_aimed hr T.g__law_aimed (pa_cons (pv 0) (pa_cons (pe_ix ix_tup (pv 1) pe_int (fun _ _ => rfl)) (pa_cons (pv 2) (pa_cons (pe_ix ix_tup (pv 5) pe_int (fun _ _ => rfl)) pa_nil))))) (pg_tup (n := 2) rfl (pgs_cons (pg_name (i := 7) sc_law_place_headed.nd rfl (Or.inl rfl)) (pgs_cons (pg_name (i := 6) sc_law_place_headed.nd rfl (Or.inl rfl)) pgs_nil))))))
      (pss_cons (ps_if (pt_cmpR op_notN (pv 6) pe_non (nomark _)) (pss_one (ps_ret (pe_tup (pa_cons pe_non (pa_cons pe_non (pa_cons (pv 6) pa_nil)))))) pss_nil)
      (pss_one (ps_ret (pe_tup (pa_cons (pe_tup (pa_cons (pv 3) (pa_cons (pv 4) (pa_cons (pv 7) pa_nil)))) (pa_cons (pe_ifExp (pt_cmpR op_eq (pv 3) pe_str (nomark _)) (pe_ix ix_tup (pv 5) pe_int (fun _ _ => rfl)) pe_str) (pa_cons pe_non pa_nil)))))))))))), ?_⟩
    rcases hC with ⟨e, f, rfl⟩ | ⟨e, rfl⟩ | ⟨e, f, rfl⟩ | ⟨e, f, rfl⟩
    · obtain ⟨c, y1, y2, y3, rfl, hc, h1, h2, h3⟩ := Pd.t3 i.pd
      cases h1.str_of
      have hN' : 1 + max e.depth f.depth < N + 1 := hN
      have nb : n + (2 + (cnt e + cnt f)) ≤ 100000 := i.nb
      have dt : (Term.call e f).depth = 1 + max e.depth f.depth := rfl
      have ct : cnt (Term.call e f) = 2 + (cnt e + cnt f) := rfl
      have i1 : LwIn H p b d y2 a g0 g n e := i.sub (.refl _ _) i.pc h2 i.ok.1 i.wr.1 (by omega) (by omega)
      have fh := (HdOk.deed i.ok.2.1).height i1.fh
      refine ⟨_, rfl, c, _, _, _, rfl, rfl, st hc, at0 _ _, _, rfl, _, rfl, c, _, _, _, rfl, rfl, st hc, at1 _ _ _, _, rfl, _, rfl, rfl, _, rfl, itD (by decide +kernel) ?_⟩
      refine ⟨p, b, d, y2, a, g0, g, n, e, _, _, rfl, i1, by omega, by omega, .deed i.ok.2.1, fun H1 r x y k1 c1 er px py => ?_⟩
      obtain ⟨py1, wb, wd, wc, rfl, ew, hwb, hwd, hwc⟩ := Pd.t3 py
      have i2 : LwIn H1 p b d y3 a g0 g (n + 1 + cnt e) f := i.sub k1 c1 h3 i.ok.2.2.1 i.wr.2 (by omega) (by omega)
      have fh2 : (dom (fo (g0 ++ g) e)).height ≤ 8 := by
        have fh : 1 + max (dom (fo (g0 ++ g) e)).height (cod (fo (g0 ++ g) e)).height ≤ 5 := fh
        omega
      have hc1 := Kp.at_ i.pc k1 hc
      refine ⟨r, _, rfl, st er, rfl, _, _, rfl, _, _, rfl, _, _, rfl, rfl, ?_⟩
      refine ⟨_, rfl, rfl, _, rfl, iteF ⟨_, rfl, rfl, _, rfl, itDn (by decide +kernel) ⟨_, rfl, rfl, _, rfl, itDn (by decide +kernel) ?_⟩⟩⟩
      refine ⟨_, rfl, _, rfl, c, _, _, _, rfl, rfl, st hc1, at2 _ _ _ _, _, rfl, _, rfl, py1, _, _, _, rfl, rfl, st ew, at1 _ _ _, ?_⟩
      refine ⟨p, b, d, y3, a, g0, g, n + 1 + cnt e, f, _, _, rfl, i2, by omega, by omega, hwd, fh2, i.ok.2.2.2, fun H2 r2 x2 k2 c2 er2 px2 => ?_⟩
      have tk2 := i2.pc.tk k2
      refine ⟨r2, _, rfl, st er2, rfl, _, _, rfl, _, _, rfl, rfl, ?_⟩
      refine ⟨_, rfl, rfl, _, rfl, iteF ⟨_, rfl, _, rfl, _, rfl, small_sz (by simp), fun z1 nz1 => ?_⟩⟩
      have s1 := Same.new nz1 (o := .tup [.str "call", x, x2])
      refine ⟨_, rfl, rfl, _, rfl, itD (by decide +kernel) ⟨_, rfl, py1, _, _, _, rfl, rfl, st (s1 _ _ (tk2 _ _ ew)), at2 _ _ _ _, small_sz (by simp), fun z2 nz2 => ?_⟩⟩
      have s := s1.trans (Same.new nz2 (o := .tup [.ref z1, wc, .non]))
      exact q _ _ _ _ ((k1.trans k2).trans (s.kp p)) ((c2.same s).eq (by omega)) upd_same (.m3 (Same.new nz2 _ _ upd_same) (.str _) ((px.keep tk2).same s) (px2.same s)) ((hwc.keep tk2).same s)
    · obtain ⟨c, y1, y3, rfl, hc, h1, h3⟩ := Pd.t2 i.pd
      cases h1.str_of
      have hN' : 1 + e.depth < N + 1 := hN
      have nb : n + (1 + cnt e) ≤ 100000 := i.nb
      refine ⟨_, rfl, c, _, _, _, rfl, rfl, st hc, at0 _ _, _, rfl, _, rfl, c, _, _, _, rfl, rfl, st hc, at1 _ _ _, _, rfl, _, rfl, rfl, _, rfl, itDn (by decide +kernel) ?_⟩
      refine ⟨p, b, d, y3, a, g0, g, n, e, _, _, rfl, i.sub (.refl _ _) i.pc h3 i.ok.1 i.wr (by show n + cnt e ≤ n + (1 + cnt e); omega) (by show e.depth ≤ 1 + e.depth; omega), by omega, by omega, .box i.ok.2, fun H1 r x y k1 c1 er px py => ?_⟩
      obtain ⟨py1, wb, wf, rfl, ew, hwb, hwf⟩ := Pd.t2 py
      refine ⟨r, _, rfl, st er, rfl, _, _, rfl, _, _, rfl, _, _, rfl, rfl, ?_⟩
      refine ⟨_, rfl, rfl, _, rfl, iteF ⟨_, rfl, rfl, _, rfl, itD (by decide +kernel) ⟨_, rfl, _, rfl, small_sz (by simp), fun z1 nz1 => ?_⟩⟩⟩
      have s1 := Same.new nz1 (o := .tup [.str "read", x])
      refine ⟨_, rfl, py1, _, _, _, rfl, rfl, st (s1 _ _ ew), at1 _ _ _, small_sz (by simp), fun z2 nz2 => ?_⟩
      have s := s1.trans (Same.new nz2 (o := .tup [.ref z1, wf, .non]))
      exact q _ _ _ _ (k1.trans (s.kp p)) ((c1.same s).eq (by show n + 1 + cnt e = n + (1 + cnt e); omega)) upd_same (.m2 (Same.new nz2 _ _ upd_same) (.str _) (px.same s)) (hwf.same s)
    · obtain ⟨c, y1, y2, y3, rfl, hc, h1, h2, h3⟩ := Pd.t3 i.pd
      cases h1.str_of
      have hN' : 1 + max e.depth f.depth < N + 1 := hN
      have nb : n + (2 + (cnt e + cnt f)) ≤ 100000 := i.nb
      have dt : (Term.write e f).depth = 1 + max e.depth f.depth := rfl
      have ct : cnt (Term.write e f) = 2 + (cnt e + cnt f) := rfl
      have i1 : LwIn H p b d y2 a g0 g n e := i.sub (.refl _ _) i.pc h2 i.ok.1 i.wr.1 (by omega) (by omega)
      have fh := (HdOk.box i.ok.2.1).height i1.fh
      refine ⟨_, rfl, c, _, _, _, rfl, rfl, st hc, at0 _ _, _, rfl, _, rfl, c, _, _, _, rfl, rfl, st hc, at1 _ _ _, _, rfl, _, rfl, rfl, _, rfl, itDn (by decide +kernel) ?_⟩
      refine ⟨p, b, d, y2, a, g0, g, n, e, _, _, rfl, i1, by omega, by omega, .box i.ok.2.1, fun H1 r x y k1 c1 er px py => ?_⟩
      obtain ⟨py1, wb, wd, rfl, ew, hwb, hwd⟩ := Pd.t2 py
      have i2 : LwIn H1 p b d y3 a g0 g (n + 1 + cnt e) f := i.sub k1 c1 h3 i.ok.2.2.1 i.wr.2 (by omega) (by omega)
      have fh2 : (inn (fo (g0 ++ g) e)).height ≤ 8 := by
        have fh : 1 + (inn (fo (g0 ++ g) e)).height ≤ 5 := fh
        omega
      have hc1 := Kp.at_ i.pc k1 hc
      refine ⟨r, _, rfl, st er, rfl, _, _, rfl, _, _, rfl, _, _, rfl, rfl, ?_⟩
      refine ⟨_, rfl, rfl, _, rfl, iteF ⟨_, rfl, rfl, _, rfl, itDn (by decide +kernel) ⟨_, rfl, rfl, _, rfl, itDn (by decide +kernel) ?_⟩⟩⟩
      refine ⟨_, rfl, _, rfl, c, _, _, _, rfl, rfl, st hc1, at2 _ _ _ _, _, rfl, _, rfl, py1, _, _, _, rfl, rfl, st ew, at1 _ _ _, ?_⟩
      refine ⟨p, b, d, y3, a, g0, g, n + 1 + cnt e, f, _, _, rfl, i2, by omega, by omega, hwd, fh2, i.ok.2.2.2, fun H2 r2 x2 k2 c2 er2 px2 => ?_⟩
      have tk2 := i2.pc.tk k2
      refine ⟨r2, _, rfl, st er2, rfl, _, _, rfl, _, _, rfl, rfl, ?_⟩
      refine ⟨_, rfl, rfl, _, rfl, iteF ⟨_, rfl, _, rfl, _, rfl, small_sz (by simp), fun z1 nz1 => ?_⟩⟩
      refine ⟨_, rfl, rfl, _, rfl, itDn (by decide +kernel) ⟨small_sz (by simp), fun z2 nz2 => ?_⟩⟩
      have s := (Same.new nz1 (o := .tup [.str "write", x, x2])).trans (Same.new nz2 (o := .tup [.ref z1, .str "num", .non]))
      exact q _ _ _ _ ((k1.trans k2).trans (s.kp p)) ((c2.same s).eq (by omega)) upd_same (.m3 (Same.new nz2 _ _ upd_same) (.str _) ((px.keep tk2).same s) (px2.same s)) (fnum _)
    · obtain ⟨c, y1, y2, y3, rfl, hc, h1, h2, h3⟩ := Pd.t3 i.pd
      cases h1.str_of
      have hN' : 1 + max e.depth f.depth < N + 1 := hN
      have nb : n + (2 + (cnt e + cnt f)) ≤ 100000 := i.nb
      have dt : (Term.same e f).depth = 1 + max e.depth f.depth := rfl
      have ct : cnt (Term.same e f) = 2 + (cnt e + cnt f) := rfl
      have i1 : LwIn H p b d y2 a g0 g n e := i.sub (.refl _ _) i.pc h2 i.ok.1 i.wr.1 (by omega) (by omega)
      refine ⟨_, rfl, c, _, _, _, rfl, rfl, st hc, at0 _ _, _, rfl, _, rfl, c, _, _, _, rfl, rfl, st hc, at1 _ _ _, _, rfl, _, rfl, rfl, _, rfl, itDn (by decide +kernel) ?_⟩
      refine ⟨p, b, d, y2, a, g0, g, n, e, _, _, rfl, i1, by omega, by omega, .box i.ok.2.1, fun H1 r x y k1 c1 er px py => ?_⟩
      have i2 : LwIn H1 p b d y3 a g0 g (n + 1 + cnt e) f := i.sub k1 c1 h3 i.ok.2.2.1 i.wr.2 (by omega) (by omega)
      have hc1 := Kp.at_ i.pc k1 hc
      refine ⟨r, _, rfl, st er, rfl, _, _, rfl, _, _, rfl, _, _, rfl, rfl, ?_⟩
      refine ⟨_, rfl, rfl, _, rfl, iteF ⟨_, rfl, rfl, _, rfl, itDn (by decide +kernel) ⟨_, rfl, rfl, _, rfl, itD (by decide +kernel) ?_⟩⟩⟩
      refine ⟨_, rfl, _, rfl, c, _, _, _, rfl, rfl, st hc1, at2 _ _ _ _, _, rfl, ?_⟩
      refine ⟨p, b, d, y3, a, g0, g, n + 1 + cnt e, f, _, _, rfl, i2, by omega, by omega, .box i.ok.2.2.2, fun H2 r2 x2 y2' k2 c2 er2 px2 py2 => ?_⟩
      have tk2 := i2.pc.tk k2
      refine ⟨r2, _, rfl, st er2, rfl, _, _, rfl, _, _, rfl, _, _, rfl, rfl, ?_⟩
      refine ⟨_, rfl, rfl, _, rfl, iteF ⟨_, rfl, _, rfl, _, rfl, small_sz (by simp), fun z1 nz1 => ?_⟩⟩
      refine ⟨_, rfl, rfl, _, rfl, itDn (by decide +kernel) ⟨small_sz (by simp), fun z2 nz2 => ?_⟩⟩
      have s := (Same.new nz1 (o := .tup [.str "same", x, x2])).trans (Same.new nz2 (o := .tup [.ref z1, .str "num", .non]))
      exact q _ _ _ _ ((k1.trans k2).trans (s.kp p)) ((c2.same s).eq (by omega)) upd_same (.m3 (Same.new nz2 _ _ upd_same) (.str _) ((px.keep tk2).same s) (px2.same s)) (fnum _)
end
end WS
set_option Elab.async false
set_option linter.all false
set_option maxRecDepth 100000
set_option maxHeartbeats 4000000
namespace WS
open PySem L2
section
variable {P : Program} {w : World} {K : PySem.W.Frag} {mg : Str → Option Value} {base : Heap}
theorem sc_law_place_choice : FnScope ["_law_state", "_law_piece", "_law_bound", "_law_first", "_law_wrong", "_law_left", "_law_right_here", "_law_form_here"] ["_law_state", "_law_piece", "_law_bound"] (defScope s__law_place_choice) := ⟨rfl, rfl, rfl, by decide +kernel, rfl, by decide +kernel, by decide +kernel⟩
theorem ok_law_place_choice (T : Tx w K mg) (k N : Nat) (G_law_begun : Held P w K mg base (k + 12) (fL K "_law_begun") (sp_lbegun N)) (G_law_aimed : Held P w K mg base (k + 12) (fL K "_law_aimed") (sp_laimed N)) :
    Held P w K mg base (k + 13) (fL K "_law_place_choice") (sp_lplace (fun t => ∃ c e f, t = .ite c e f) (N + 1)) := by
  have G_law_is_near := (ok_law_is_near (P := P) (base := base) T (k + 10) 1)
  have G_law_joint := (ok_law_joint (P := P) (base := base) T (k + 11))
  have G_law_fenced := (ok_law_fenced (P := P) (base := base) T (k + 1))
  refine FunD.held T.f__law_place_choice sc_law_place_choice (fun _ _ _ _ _ _ us hl => match us, hl with | [_, _, _], _ => rfl) (fun vs H Q E h => ?len) (fun fd cdv A outer s H vs Q E hr h => ?body)
  case len => obtain ⟨p, b, d, v, a, g0, g, n, t, rfl, _⟩ := h; rfl
  case body =>
    obtain ⟨p, b, d, v, a, g0, g, n, t, rfl, i, hN, ⟨c0, e, f, rfl⟩, q⟩ := h
    refine ⟨_, (pss_cons (ps_asg (pe_cl G_law_aimed hr T.g__law_aimed (pa_cons (pv 0) (pa_cons (pe_ix ix_tup (pv 1) pe_int (fun _ _ => rfl)) (pa_cons (pv 2) (pa_cons pe_str pa_nil))))) (pg_tup (n := 2) rfl (pgs_cons (pg_name (i := 3) sc_law_place_choice.nd rfl (Or.inl rfl)) (pgs_cons (pg_name (i := 4) sc_law_place_choice.nd rfl (Or.inl rfl)) pgs_nil))))
      (pss_cons (ps_if (pt_cmpR op_notN (pv 4) pe_non (nomark _)) (pss_one (ps_ret (pe_tup (pa_cons pe_non (pa_cons pe_non (pa_cons (pv 4) pa_nil)))))) pss_nil)
      (pss_cons (ps_set (i := 5) sc_law_place_choice.nd rfl (by first | exact Or.inl rfl | exact Or.inr rfl) (pe_cl G_law_begun hr T.g__law_begun (pa_cons (pv 0) (pa_cons (pe_ix ix_tup (pv 1) pe_int (fun _ _ => rfl)) (pa_cons (pv 2) pa_nil)))))
      (pss_cons (ps_if (pt_cmpR op_notN (pe_ix ix_tup (pv 5) pe_int (fun _ _ => rfl)) pe_non (nomark _)) (pss_one (ps_ret (pe_tup (pa_cons pe_non (pa_cons pe_non (pa_cons (pe_ix ix_tup (pv 5) pe_int (fun _ _ => rfl)) pa_nil)))))) pss_nil)
      (pss_cons (ps_set (i := 6) sc_law_place_choice.nd rfl (by first | exact Or.inl rfl | exact Or.inr rfl) (pe_cl G_law_begun hr T.g__law_begun (pa_cons (pv 0) (pa_cons (pe_ix ix_tup (pv 1) pe_int (fun _ _ => rfl)) (pa_cons (pv 2) pa_nil)))))
      (pss_cons (ps_if (pt_cmpR op_notN (pe_ix ix_tup (pv 6) pe_int (fun _ _ => rfl)) pe_non (nomark _)) (pss_one (ps_ret (pe_tup (pa_cons pe_non (pa_cons pe_non (pa_cons (pe_ix ix_tup (pv 6) pe_int (fun _ _ => rfl)) pa_nil)))))) pss_nil)
      (pss_cons (ps_if (pt_not (pt_val (pe_cl G_law_is_near hr T.g__law_is_near (pa_cons (pe_ix ix_tup (pv 5) pe_int (fun _ _ => rfl)) (pa_cons (pe_ix ix_tup (pv 6) pe_int (fun _ _ => rfl)) pa_nil))))) (pss_one (ps_ret (pe_tup (pa_cons pe_non (pa_cons pe_non (pa_cons (pe_tup (pa_cons pe_str (pa_cons (pe_ix ix_tup (pv 6) pe_int (fun _ _ => rfl)) pa_nil))) pa_nil)))))) pss_nil)
      (pss_cons (ps_set (i := 7) sc_law_place_choice.nd rfl (by first | exact Or.inl rfl | exact Or.inr rfl) (pe_cl G_law_joint hr T.g__law_joint (pa_cons (pe_ix ix_tup (pv 5) pe_int (fun _ _ => rfl)) (pa_cons (pe_ix ix_tup (pv 6) pe_int (fun _ _ => rfl)) pa_nil))))
      (pss_one (ps_ret (pe_tup (pa_cons (pe_tup (pa_cons pe_str (pa_cons (pv 3) (pa_cons (pe_ix ix_tup (pe_cl G_law_fenced hr T.g__law_fenced (pa_cons (pv 5) (pa_cons (pv 7) pa_nil))) pe_int (fun _ _ => rfl)) (pa_cons (pe_ix ix_tup (pe_cl G_law_fenced hr T.g__law_fenced (pa_cons (pv 6) (pa_cons (pv 7) pa_nil))) pe_int (fun _ _ => rfl)) pa_nil))))) (pa_cons (pv 7) (pa_cons pe_non pa_nil)))))))))))))), ?_⟩
    obtain ⟨c, y1, y2, y3, y4, rfl, hc, h1, h2, h3, h4⟩ := Pd.t4 i.pd
    cases h1.str_of
    have hN' : 1 + max c0.depth (max e.depth f.depth) < N + 1 := hN
    have nb : n + (3 + (cnt c0 + (cnt e + cnt f))) ≤ 100000 := i.nb
    have dt : (Term.ite c0 e f).depth = 1 + max c0.depth (max e.depth f.depth) := rfl
    have ct : cnt (Term.ite c0 e f) = 3 + (cnt c0 + (cnt e + cnt f)) := rfl
    obtain ⟨ok1, ok2, ok3, ok4, ok5, ok6⟩ := i.ok
    obtain ⟨wr1, wr2, wr3⟩ := i.wr
    refine ⟨_, rfl, _, rfl, c, _, _, _, rfl, rfl, st hc, at1 _ _ _, _, rfl, ?_⟩
    refine ⟨p, b, d, y2, a, g0, g, n, c0, _, .num, rfl, i.sub (.refl _ _) i.pc h2 ok1 wr1 (by omega) (by omega), by omega, by omega, fnum _, by decide, ok2, fun H1 r x k1 c1 er px => ?_⟩
    have hc1 := Kp.at_ i.pc k1 hc
    refine ⟨r, _, rfl, st er, rfl, _, _, rfl, _, _, rfl, rfl, ?_⟩
    refine ⟨_, rfl, rfl, _, rfl, iteF ?_⟩
    have i2 : LwIn H1 p b d y3 a g0 g (n + 1 + cnt c0) e := i.sub k1 c1 h3 ok3 wr2 (by omega) (by omega)
    refine ⟨_, rfl, _, rfl, c, _, _, _, rfl, rfl, st hc1, at2 _ _ _ _, _, rfl, p, b, d, y3, a, g0, g, n + 1 + cnt c0, e, rfl, i2, by omega, by omega, fun H2 r1 x1 z1 k2 c2 er1 px1 pz1 => ?_⟩
    rw [ok4] at pz1
    cases pz1.str_of
    have k12 := k1.trans k2
    have hc2 := Kp.at_ i.pc k12 hc
    refine ⟨_, rfl, r1, _, _, _, rfl, rfl, st er1, at3 _ _ _ _ _, rfl, _, rfl, iteF ?_⟩
    have i3 : LwIn H2 p b d y4 a g0 g (n + 1 + cnt c0 + 1 + cnt e) f := i.sub k12 c2 h4 ok5 wr3 (by omega) (by omega)
    refine ⟨_, rfl, _, rfl, c, _, _, _, rfl, rfl, st hc2, at3 _ _ _ _ _, _, rfl, p, b, d, y4, a, g0, g, n + 1 + cnt c0 + 1 + cnt e, f, rfl, i3, by omega, by omega, fun H3 r2 x2 z2 k3 c3 er2 px2 pz2 => ?_⟩
    rw [ok6] at pz2
    cases pz2.str_of
    have k13 := k12.trans k3
    have tk3 := i3.pc.tk k3
    have er1' := tk3 _ _ er1
    refine ⟨_, rfl, r2, _, _, _, rfl, rfl, st er2, at3 _ _ _ _ _, rfl, _, rfl, iteF ?_⟩
    refine ⟨_, rfl, r1, _, _, _, rfl, rfl, st er1', at2 _ _ _ _, _, rfl, r2, _, _, _, rfl, rfl, st er2, at2 _ _ _ _, _, _, .any, .any, rfl, fany _, fany _, by decide, by decide, by decide, fun H4 s4 => ⟨_, rfl, iteF ?_⟩⟩
    refine ⟨_, rfl, r1, _, _, _, rfl, rfl, st (s4 _ _ er1'), at2 _ _ _ _, _, rfl, r2, _, _, _, rfl, rfl, st (s4 _ _ er2), at2 _ _ _ _, rfl, ?_⟩
    refine ⟨_, rfl, _, rfl, _, rfl, r1, _, x1, .str "any", .str "any", _, .any, .any, rfl, s4 _ _ er1', (px1.keep tk3).same s4, fany _, fany _, by decide, by decide, by decide, fun H5 z5 u1 s5 ez5 pu1 => ?_⟩
    rw [fence_eq] at pu1
    have s45 := s4.trans s5
    refine ⟨z5, _, _, _, rfl, rfl, st ez5, at0 _ _, _, rfl, _, rfl, r2, _, x2, .str "any", .str "any", _, .any, .any, rfl, s45 _ _ er2, px2.same s45, fany _, fany _, by decide, by decide, by decide, fun H6 z6 u2 s6 ez6 pu2 => ?_⟩
    rw [fence_eq] at pu2
    refine ⟨z6, _, _, _, rfl, rfl, st ez6, at0 _ _, small_sz (by simp), fun z7 nz7 => ⟨_, rfl, small_sz (by simp), fun z8 nz8 => ?_⟩⟩
    have s8 := (Same.new nz7 (o := .tup [.str "if", x, u1, u2])).trans (Same.new nz8 (o := .tup [.ref z7, .str "any", .non]))
    have sA := (s45.trans s6).trans s8
    have pxA := (((px.keep (c1.tk k2)).keep tk3).same sA)
    exact q _ _ _ _ (k13.trans (sA.kp p)) ((c3.same sA).eq (by omega)) upd_same (.m4 (Same.new nz8 _ _ upd_same) (.str _) pxA ((pu1.same s6).same s8) (pu2.same s8)) (fany _)
end
end WS
set_option Elab.async false
set_option linter.all false
set_option maxRecDepth 100000
set_option maxHeartbeats 4000000
namespace WS
open PySem L2
theorem ifT {b : Bool} {A B : Prop} (h : b = true) (a : A) : if b = true then A else B := by
  rw [h]
  exact iteT a
theorem ifF {b : Bool} {A B : Prop} (h : b = false) (a : B) : if b = true then A else B := by
  rw [h]
  exact iteF a
theorem LwIn.same {H H' : Hp} {p b d : Addr} {v : V} {a : Str} {g0 g : Ctx} {n : Nat} {t : Term} (h : LwIn H p b d v a g0 g n t) (s : Same H H') : LwIn H' p b d v a g0 g n t :=
  ⟨h.pc.same s, h.pb.same s, h.pd.same s, h.ok, h.wr, h.al, h.nb, h.gl⟩
theorem LwOut.same {H H' : Hp} {p d : Addr} {a : Str} {g : Ctx} {n : Nat} {t : Term} {Q : VK} (q : LwOut H p d a g n t Q) (s : Same H H') : LwOut H' p d a g n t Q := fun H2 r x y k => q H2 r x y ((s.kp p).trans k)
section
variable {P : Program} {w : World} {K : PySem.W.Frag} {mg : Str → Option Value} {base : Heap}
/-- the parts so far of a sum: all that is told at each turn -/
def SumSo (p d : Addr) (a : Str) (g : Ctx) (n : Nat) (w : V) (e f : Term) (i : Nat) (acc : List V) (H' : Hp) : Prop :=
  (i = 0 ∧ acc = [w] ∧ Lc H' p a d n) ∨
  (i = 1 ∧ ∃ x1, acc = [w, x1] ∧ Lc H' p a d (n + 1 + cnt e) ∧ Pd H' x1 (fence (mk a (n + 1)) (fo g e) .num (pl a g (n + 1) e)).d) ∨
  (i = 2 ∧ ∃ x1 x2, acc = [w, x1, x2] ∧ Lc H' p a d (n + 1 + cnt e + 1 + cnt f) ∧ Pd H' x1 (fence (mk a (n + 1)) (fo g e) .num (pl a g (n + 1) e)).d ∧ Pd H' x2 (fence (mk a (n + 1 + cnt e + 1)) (fo g f) .num (pl a g (n + 1 + cnt e + 1) f)).d)
theorem Lc.updD {H : Hp} {p D : Addr} {a : Str} {d : Addr} {n : Nat} {o : HO} (h : Lc H p a d n) (hD : D ≠ p) : Lc (L2.upd H D o) p a d n := by
  show (L2.upd H D o) p = _
  rw [upd_ne (Ne.symm hD)]
  exact h
theorem sc_law_place : FnScope ["_law_state", "_law_piece", "_law_bound", "_law_word", "_law_form_here", "_law_placed", "_law_wrong", "_law_parts", "_law_part"] ["_law_state", "_law_piece", "_law_bound"] (defScope s__law_place) := ⟨rfl, rfl, rfl, by decide +kernel, rfl, by decide +kernel, by decide +kernel⟩
theorem ok_law_place_step (T : Tx w K mg) (k N : Nat) (G_law_aimed : Held P w K mg base (k + 13) (fL K "_law_aimed") (sp_laimed N)) (G_law_place_loose : Held P w K mg base (k + 13) (fL K "_law_place_loose") (sp_lplace (fun t => (∃ x A e, t = .deed x A e) ∨ ∃ x e f, t = .lets x e f) (N + 1)))
    (G_law_place_headed : Held P w K mg base (k + 13) (fL K "_law_place_headed") (sp_lplace (fun t => (∃ f e, t = .call f e) ∨ (∃ e, t = .read e) ∨ (∃ f e, t = .write f e) ∨ ∃ f e, t = .same f e) (N + 1)))
    (G_law_place_choice : Held P w K mg base (k + 13) (fL K "_law_place_choice") (sp_lplace (fun t => ∃ c e f, t = .ite c e f) (N + 1))) :
    Held P w K mg base (k + 14) (fL K "_law_place") (sp_lplace (fun _ => True) (N + 1)) := by
  have G_law_form_of := ok_law_form_of (P := P) (base := base) T (k + 12)
  have G_law_low := (ok_law_low (P := P) (base := base) T (k + 5))
  refine FunD.held T.f__law_place sc_law_place (fun _ _ _ _ _ _ us hl => match us, hl with | [_, _, _], _ => rfl) (fun vs H Q E h => ?len) (fun fd cdv A outer s H vs Q E hr h => ?body)
  case len => obtain ⟨p, b, d, v, a, g0, g, n, t, rfl, _⟩ := h; rfl
  case body =>
    obtain ⟨p, b, d, v, a, g0, g, n, t, rfl, i, hN, _, q⟩ := h
    have hu65 := Room.u65 hr
    refine ⟨_, (pss_cons (ps_set (i := 3) sc_law_place.nd rfl (by first | exact Or.inl rfl | exact Or.inr rfl) (pe_ix ix_tup (pv 1) pe_int (fun _ _ => rfl)))
      (pss_cons (ps_if (pt_cmpR (op_inDT hu65) (pv 3) (pe_tup (pa_cons pe_str (pa_cons pe_str pa_nil))) (by rfl)) (pss_one (ps_ret (pe_tup (pa_cons (pv 1) (pa_cons (pe_ifExp (pt_cmpR op_eq (pv 3) pe_str (nomark _)) pe_str pe_str) (pa_cons pe_non pa_nil)))))) pss_nil)
      (pss_cons (ps_if (pt_cmpR op_eq (pv 3) pe_str (nomark _)) (pss_cons (ps_set (i := 4) sc_law_place.nd rfl (by first | exact Or.inl rfl | exact Or.inr rfl) (pe_cl G_law_form_of hr T.g__law_form_of (pa_cons (pv 0) (pa_cons (pe_ix ix_tup (pv 1) pe_int (fun _ _ => rfl)) (pa_cons (pv 2) pa_nil)))))
      (pss_one (ps_ret (pe_ifExp (pt_cmpR op_isN (pv 4) pe_non (nomark _)) (pe_tup (pa_cons pe_non (pa_cons pe_non (pa_cons (pe_tup (pa_cons pe_str (pa_cons (pe_ix ix_tup (pv 1) pe_int (fun _ _ => rfl)) pa_nil))) pa_nil)))) (pe_tup (pa_cons (pv 1) (pa_cons (pv 4) (pa_cons pe_non pa_nil)))))))) pss_nil)
      (pss_cons (ps_if (pt_cmpR (op_inDT hu65) (pv 3) (pe_tup (pa_cons pe_str (pa_cons pe_str (pa_cons pe_str pa_nil)))) (by rfl)) (pss_one (ps_ret (pe_cl G_law_place_loose hr T.g__law_place_loose (pa_cons (pv 0) (pa_cons (pv 1) (pa_cons (pv 2) pa_nil)))))) pss_nil)
      (pss_cons (ps_if (pt_cmpR (op_inDT hu65) (pv 3) (pe_tup (pa_cons pe_str (pa_cons pe_str (pa_cons pe_str (pa_cons pe_str pa_nil))))) (by rfl)) (pss_one (ps_ret (pe_cl G_law_place_headed hr T.g__law_place_headed (pa_cons (pv 0) (pa_cons (pv 1) (pa_cons (pv 2) pa_nil)))))) pss_nil)
      (pss_cons (ps_if (pt_cmpR op_eq (pv 3) pe_str (nomark _)) (pss_one (ps_ret (pe_cl G_law_place_choice hr T.g__law_place_choice (pa_cons (pv 0) (pa_cons (pv 1) (pa_cons (pv 2) pa_nil)))))) pss_nil)
      (pss_cons (ps_if (pt_cmpR (op_inDT hu65) (pv 3) (pe_tup (pa_cons pe_str (pa_cons pe_str pa_nil))) (by rfl)) (pss_cons (ps_asg (pe_cl G_law_aimed hr T.g__law_aimed (pa_cons (pv 0) (pa_cons (pe_ix ix_tup (pv 1) pe_int (fun _ _ => rfl)) (pa_cons (pv 2) (pa_cons (pe_ix ix_tup (pv 1) pe_int (fun _ _ => rfl)) pa_nil))))) (pg_tup (n := 2) rfl (pgs_cons (pg_name (i := 5) sc_law_place.nd rfl (Or.inl rfl)) (pgs_cons (pg_name (i := 6) sc_law_place.nd rfl (Or.inl rfl)) pgs_nil))))
      (pss_cons (ps_if (pt_cmpR op_notN (pv 6) pe_non (nomark _)) (pss_one (ps_ret (pe_tup (pa_cons pe_non (pa_cons pe_non (pa_cons (pv 6) pa_nil)))))) pss_nil)
      (pss_one (ps_ret (pe_cl G_law_low hr T.g__law_low (pa_cons (pe_tup (pa_cons (pv 3) (pa_cons (pe_ix ix_tup (pv 1) pe_int (fun _ _ => rfl)) (pa_cons (pv 5) pa_nil)))) (pa_cons (pe_ifExp (pt_cmpR op_eq (pv 3) pe_str (nomark _)) (pe_ix ix_tup (pv 1) pe_int (fun _ _ => rfl)) (pe_tup (pa_cons pe_str (pa_cons (pe_ix ix_tup (pv 1) pe_int (fun _ _ => rfl)) pa_nil)))) pa_nil))))))) pss_nil)
      (pss_cons (ps_set (i := 7) sc_law_place.nd rfl (by first | exact Or.inl rfl | exact Or.inr rfl) (pe_lst (pa_cons (pv 3) pa_nil)))
      (pss_cons (ps_for PassesOwn.never rfl (pi_tup (pe_slice sl_tupA (pv 1) (po_some pe_int) po_none)) (pg_name (i := 8) sc_law_place.nd rfl (Or.inl rfl)) (pss_cons (ps_asg (pe_cl G_law_aimed hr T.g__law_aimed (pa_cons (pv 0) (pa_cons (pv 8) (pa_cons (pv 2) (pa_cons (pe_ifExp (pt_cmpR op_eq (pv 3) pe_str (nomark _)) pe_str pe_str) pa_nil))))) (pg_tup (n := 2) rfl (pgs_cons (pg_name (i := 5) sc_law_place.nd rfl (Or.inl rfl)) (pgs_cons (pg_name (i := 6) sc_law_place.nd rfl (Or.inl rfl)) pgs_nil))))
      (pss_cons (ps_if (pt_cmpR op_notN (pv 6) pe_non (nomark _)) (pss_one (ps_ret (pe_tup (pa_cons pe_non (pa_cons pe_non (pa_cons (pv 6) pa_nil)))))) pss_nil)
      (pss_one (ps_expr (pe_bm PySem.F.plainAttrs_list PySem.F.slot_list_append PySem.F.type_list_append mt_append (pv 7) (pa_cons (pv 5) pa_nil)))))))
      (pss_one (ps_ret (pe_tup (pa_cons (pe_callTy call_tuple_of (by rfl) T.b_tuple (by decide +kernel) (pa_cons (pv 7) pa_nil)) (pa_cons pe_str (pa_cons pe_non pa_nil))))))))))))))), ?_⟩
    cases t with
    | wall m A B e => exact i.ok.elim
    | number z =>
      obtain ⟨c, y1, y3, rfl, hc, h1, h3⟩ := Pd.t2 i.pd
      cases h1.str_of
      refine ⟨_, rfl, c, _, _, _, rfl, rfl, st hc, at0 _ _, ?_⟩
      refine ⟨_, rfl, small_sz (by simp), fun t1 nt1 => ⟨_, _, .str _, .tup (st upd_same) (.cons (.str _) (.cons (.str _) .nil)), (by decide +kernel), (by decide +kernel), _, rfl, ifT (by decide +kernel) ?_⟩⟩
      refine ⟨_, rfl, _, rfl, rfl, _, rfl, itD (by decide +kernel) ⟨small_sz (by simp), fun r nr => ?_⟩⟩
      have s := (Same.new nt1 (o := .tup [.str "number", .str "text"])).trans (Same.new nr (o := .tup [.ref c, .str "num", .non]))
      exact q _ _ _ _ (s.kp p) (i.pc.same s) upd_same (i.pd.same s) (fnum _)
    | txt z =>
      obtain ⟨c, y1, y3, rfl, hc, h1, h3⟩ := Pd.t2 i.pd
      cases h1.str_of
      refine ⟨_, rfl, c, _, _, _, rfl, rfl, st hc, at0 _ _, ?_⟩
      refine ⟨_, rfl, small_sz (by simp), fun t1 nt1 => ⟨_, _, .str _, .tup (st upd_same) (.cons (.str _) (.cons (.str _) .nil)), (by decide +kernel), (by decide +kernel), _, rfl, ifT (by decide +kernel) ?_⟩⟩
      refine ⟨_, rfl, _, rfl, rfl, _, rfl, itDn (by decide +kernel) ⟨small_sz (by simp), fun r nr => ?_⟩⟩
      have s := (Same.new nt1 (o := .tup [.str "number", .str "text"])).trans (Same.new nr (o := .tup [.ref c, .str "text", .non]))
      exact q _ _ _ _ (s.kp p) (i.pc.same s) upd_same (i.pd.same s) (ftext _)
    | name x =>
      obtain ⟨c, y1, y3, rfl, hc, h1, h3⟩ := Pd.t2 i.pd
      cases h1.str_of
      cases h3.str_of
      refine ⟨_, rfl, c, _, _, _, rfl, rfl, st hc, at0 _ _, ?_⟩
      refine ⟨_, rfl, small_sz (by simp), fun t1 nt1 => ⟨_, _, .str _, .tup (st upd_same) (.cons (.str _) (.cons (.str _) .nil)), (by decide +kernel), (by decide +kernel), _, rfl, ifF (by decide +kernel) ?_⟩⟩
      have s1 := Same.new nt1 (o := .tup [.str "number", .str "text"])
      refine ⟨_, rfl, rfl, _, rfl, itD (by decide +kernel) ?_⟩
      obtain ⟨F, eF⟩ := Option.isSome_iff_exists.mp i.ok
      have gl := i.gl
      refine ⟨_, rfl, _, rfl, c, _, _, _, rfl, rfl, st (s1 _ _ hc), at1 _ _ _, _, rfl, p, b, d, a, x, n, g0, g, F, rfl, i.pc.same s1, i.pb.same s1, eF, by omega, fun H2 f s2 pf => ?_⟩
      have hnf : decide (f = V.non) = false := by
        refine decide_eq_false fun e => ?_
        subst e
        cases F <;> cases pf
      refine ⟨_, rfl, rfl, _, rfl, ifF hnf ⟨_, rfl, _, rfl, small_sz (by simp), fun r nr => ?_⟩⟩
      have s3 := Same.new nr (o := .tup [.ref c, f, .non])
      have s := (s1.trans s2).trans s3
      refine q _ _ _ _ (s.kp p) (i.pc.same s) upd_same (i.pd.same s) ?_
      show Pd _ f ((look (g0 ++ g) x).getD .any).d
      rw [eF]
      exact pf.same s3
    | deed x A e =>
      obtain ⟨c, y1, y2, y3, y4, ev, hc, h1, _⟩ := Pd.t4 i.pd
      subst ev
      cases h1.str_of
      refine ⟨_, rfl, c, _, _, _, rfl, rfl, st hc, at0 _ _, ?_⟩
      refine ⟨_, rfl, small_sz (by simp), fun t1 nt1 => ⟨_, _, .str _, .tup (st upd_same) (.cons (.str _) (.cons (.str _) .nil)), (by decide +kernel), (by decide +kernel), _, rfl, ifF (by decide +kernel) ?_⟩⟩
      have s1 := Same.new nt1 (o := .tup [V.str "number", .str "text"])
      refine ⟨_, rfl, rfl, _, rfl, itDn (by decide +kernel) ?_⟩
      refine ⟨_, rfl, small_sz (by simp), fun t2 nt2 => ⟨_, _, .str _, .tup (st upd_same) (.cons (.str _) (.cons (.str _) (.cons (.str _) .nil))), (by decide +kernel), (by decide +kernel), _, rfl, ifT (by decide +kernel) ?_⟩⟩
      have s2 := s1.trans (Same.new nt2 (o := .tup [V.str "deed", .str "let", .str "do"]))
      exact ⟨_, rfl, _, rfl, _, rfl, p, b, d, _, a, g0, g, n, _, rfl, i.same s2, hN, .inl ⟨_, _, _, rfl⟩, q.same s2⟩
    | lets x e f =>
      obtain ⟨c, y1, y2, y3, y4, ev, hc, h1, _⟩ := Pd.t4 i.pd
      subst ev
      cases h1.str_of
      refine ⟨_, rfl, c, _, _, _, rfl, rfl, st hc, at0 _ _, ?_⟩
      refine ⟨_, rfl, small_sz (by simp), fun t1 nt1 => ⟨_, _, .str _, .tup (st upd_same) (.cons (.str _) (.cons (.str _) .nil)), (by decide +kernel), (by decide +kernel), _, rfl, ifF (by decide +kernel) ?_⟩⟩
      have s1 := Same.new nt1 (o := .tup [V.str "number", .str "text"])
      refine ⟨_, rfl, rfl, _, rfl, itDn (by decide +kernel) ?_⟩
      refine ⟨_, rfl, small_sz (by simp), fun t2 nt2 => ⟨_, _, .str _, .tup (st upd_same) (.cons (.str _) (.cons (.str _) (.cons (.str _) .nil))), (by decide +kernel), (by decide +kernel), _, rfl, ifT (by decide +kernel) ?_⟩⟩
      have s2 := s1.trans (Same.new nt2 (o := .tup [V.str "deed", .str "let", .str "do"]))
      exact ⟨_, rfl, _, rfl, _, rfl, p, b, d, _, a, g0, g, n, _, rfl, i.same s2, hN, .inr ⟨_, _, _, rfl⟩, q.same s2⟩
    | call f e =>
      obtain ⟨c, y1, y2, y3, ev, hc, h1, _⟩ := Pd.t3 i.pd
      subst ev
      cases h1.str_of
      refine ⟨_, rfl, c, _, _, _, rfl, rfl, st hc, at0 _ _, ?_⟩
      refine ⟨_, rfl, small_sz (by simp), fun t1 nt1 => ⟨_, _, .str _, .tup (st upd_same) (.cons (.str _) (.cons (.str _) .nil)), (by decide +kernel), (by decide +kernel), _, rfl, ifF (by decide +kernel) ?_⟩⟩
      have s1 := Same.new nt1 (o := .tup [V.str "number", .str "text"])
      refine ⟨_, rfl, rfl, _, rfl, itDn (by decide +kernel) ?_⟩
      refine ⟨_, rfl, small_sz (by simp), fun t2 nt2 => ⟨_, _, .str _, .tup (st upd_same) (.cons (.str _) (.cons (.str _) (.cons (.str _) .nil))), (by decide +kernel), (by decide +kernel), _, rfl, ifF (by decide +kernel) ?_⟩⟩
      have s2 := s1.trans (Same.new nt2 (o := .tup [V.str "deed", .str "let", .str "do"]))
      refine ⟨_, rfl, small_sz (by simp), fun t3 nt3 => ⟨_, _, .str _, .tup (st upd_same) (.cons (.str _) (.cons (.str _) (.cons (.str _) (.cons (.str _) .nil)))), (by decide +kernel), (by decide +kernel), _, rfl, ifT (by decide +kernel) ?_⟩⟩
      have s3 := s2.trans (Same.new nt3 (o := .tup [V.str "call", .str "read", .str "write", .str "same"]))
      exact ⟨_, rfl, _, rfl, _, rfl, p, b, d, _, a, g0, g, n, _, rfl, i.same s3, hN, .inl ⟨_, _, rfl⟩, q.same s3⟩
    | read e =>
      obtain ⟨c, y1, y2, ev, hc, h1, _⟩ := Pd.t2 i.pd
      subst ev
      cases h1.str_of
      refine ⟨_, rfl, c, _, _, _, rfl, rfl, st hc, at0 _ _, ?_⟩
      refine ⟨_, rfl, small_sz (by simp), fun t1 nt1 => ⟨_, _, .str _, .tup (st upd_same) (.cons (.str _) (.cons (.str _) .nil)), (by decide +kernel), (by decide +kernel), _, rfl, ifF (by decide +kernel) ?_⟩⟩
      have s1 := Same.new nt1 (o := .tup [V.str "number", .str "text"])
      refine ⟨_, rfl, rfl, _, rfl, itDn (by decide +kernel) ?_⟩
      refine ⟨_, rfl, small_sz (by simp), fun t2 nt2 => ⟨_, _, .str _, .tup (st upd_same) (.cons (.str _) (.cons (.str _) (.cons (.str _) .nil))), (by decide +kernel), (by decide +kernel), _, rfl, ifF (by decide +kernel) ?_⟩⟩
      have s2 := s1.trans (Same.new nt2 (o := .tup [V.str "deed", .str "let", .str "do"]))
      refine ⟨_, rfl, small_sz (by simp), fun t3 nt3 => ⟨_, _, .str _, .tup (st upd_same) (.cons (.str _) (.cons (.str _) (.cons (.str _) (.cons (.str _) .nil)))), (by decide +kernel), (by decide +kernel), _, rfl, ifT (by decide +kernel) ?_⟩⟩
      have s3 := s2.trans (Same.new nt3 (o := .tup [V.str "call", .str "read", .str "write", .str "same"]))
      exact ⟨_, rfl, _, rfl, _, rfl, p, b, d, _, a, g0, g, n, _, rfl, i.same s3, hN, .inr (.inl ⟨_, rfl⟩), q.same s3⟩
    | write e f =>
      obtain ⟨c, y1, y2, y3, ev, hc, h1, _⟩ := Pd.t3 i.pd
      subst ev
      cases h1.str_of
      refine ⟨_, rfl, c, _, _, _, rfl, rfl, st hc, at0 _ _, ?_⟩
      refine ⟨_, rfl, small_sz (by simp), fun t1 nt1 => ⟨_, _, .str _, .tup (st upd_same) (.cons (.str _) (.cons (.str _) .nil)), (by decide +kernel), (by decide +kernel), _, rfl, ifF (by decide +kernel) ?_⟩⟩
      have s1 := Same.new nt1 (o := .tup [V.str "number", .str "text"])
      refine ⟨_, rfl, rfl, _, rfl, itDn (by decide +kernel) ?_⟩
      refine ⟨_, rfl, small_sz (by simp), fun t2 nt2 => ⟨_, _, .str _, .tup (st upd_same) (.cons (.str _) (.cons (.str _) (.cons (.str _) .nil))), (by decide +kernel), (by decide +kernel), _, rfl, ifF (by decide +kernel) ?_⟩⟩
      have s2 := s1.trans (Same.new nt2 (o := .tup [V.str "deed", .str "let", .str "do"]))
      refine ⟨_, rfl, small_sz (by simp), fun t3 nt3 => ⟨_, _, .str _, .tup (st upd_same) (.cons (.str _) (.cons (.str _) (.cons (.str _) (.cons (.str _) .nil)))), (by decide +kernel), (by decide +kernel), _, rfl, ifT (by decide +kernel) ?_⟩⟩
      have s3 := s2.trans (Same.new nt3 (o := .tup [V.str "call", .str "read", .str "write", .str "same"]))
      exact ⟨_, rfl, _, rfl, _, rfl, p, b, d, _, a, g0, g, n, _, rfl, i.same s3, hN, .inr (.inr (.inl ⟨_, _, rfl⟩)), q.same s3⟩
    | same e f =>
      obtain ⟨c, y1, y2, y3, ev, hc, h1, _⟩ := Pd.t3 i.pd
      subst ev
      cases h1.str_of
      refine ⟨_, rfl, c, _, _, _, rfl, rfl, st hc, at0 _ _, ?_⟩
      refine ⟨_, rfl, small_sz (by simp), fun t1 nt1 => ⟨_, _, .str _, .tup (st upd_same) (.cons (.str _) (.cons (.str _) .nil)), (by decide +kernel), (by decide +kernel), _, rfl, ifF (by decide +kernel) ?_⟩⟩
      have s1 := Same.new nt1 (o := .tup [V.str "number", .str "text"])
      refine ⟨_, rfl, rfl, _, rfl, itDn (by decide +kernel) ?_⟩
      refine ⟨_, rfl, small_sz (by simp), fun t2 nt2 => ⟨_, _, .str _, .tup (st upd_same) (.cons (.str _) (.cons (.str _) (.cons (.str _) .nil))), (by decide +kernel), (by decide +kernel), _, rfl, ifF (by decide +kernel) ?_⟩⟩
      have s2 := s1.trans (Same.new nt2 (o := .tup [V.str "deed", .str "let", .str "do"]))
      refine ⟨_, rfl, small_sz (by simp), fun t3 nt3 => ⟨_, _, .str _, .tup (st upd_same) (.cons (.str _) (.cons (.str _) (.cons (.str _) (.cons (.str _) .nil)))), (by decide +kernel), (by decide +kernel), _, rfl, ifT (by decide +kernel) ?_⟩⟩
      have s3 := s2.trans (Same.new nt3 (o := .tup [V.str "call", .str "read", .str "write", .str "same"]))
      exact ⟨_, rfl, _, rfl, _, rfl, p, b, d, _, a, g0, g, n, _, rfl, i.same s3, hN, .inr (.inr (.inr ⟨_, _, rfl⟩)), q.same s3⟩
    | ite c0 e f =>
      obtain ⟨c, y1, y2, y3, y4, ev, hc, h1, _⟩ := Pd.t4 i.pd
      subst ev
      cases h1.str_of
      refine ⟨_, rfl, c, _, _, _, rfl, rfl, st hc, at0 _ _, ?_⟩
      refine ⟨_, rfl, small_sz (by simp), fun t1 nt1 => ⟨_, _, .str _, .tup (st upd_same) (.cons (.str _) (.cons (.str _) .nil)), (by decide +kernel), (by decide +kernel), _, rfl, ifF (by decide +kernel) ?_⟩⟩
      have s1 := Same.new nt1 (o := .tup [V.str "number", .str "text"])
      refine ⟨_, rfl, rfl, _, rfl, itDn (by decide +kernel) ?_⟩
      refine ⟨_, rfl, small_sz (by simp), fun t2 nt2 => ⟨_, _, .str _, .tup (st upd_same) (.cons (.str _) (.cons (.str _) (.cons (.str _) .nil))), (by decide +kernel), (by decide +kernel), _, rfl, ifF (by decide +kernel) ?_⟩⟩
      have s2 := s1.trans (Same.new nt2 (o := .tup [V.str "deed", .str "let", .str "do"]))
      refine ⟨_, rfl, small_sz (by simp), fun t3 nt3 => ⟨_, _, .str _, .tup (st upd_same) (.cons (.str _) (.cons (.str _) (.cons (.str _) (.cons (.str _) .nil)))), (by decide +kernel), (by decide +kernel), _, rfl, ifF (by decide +kernel) ?_⟩⟩
      have s3 := s2.trans (Same.new nt3 (o := .tup [V.str "call", .str "read", .str "write", .str "same"]))
      refine ⟨_, rfl, rfl, _, rfl, itD (by decide +kernel) ?_⟩
      exact ⟨_, rfl, _, rfl, _, rfl, p, b, d, _, a, g0, g, n, _, rfl, i.same s3, hN, ⟨_, _, _, rfl⟩, q.same s3⟩
    | tell A e =>
      obtain ⟨c, y1, y2, y3, ev, hc, h1, h2, h3⟩ := Pd.t3 i.pd
      subst ev
      cases h1.str_of
      refine ⟨_, rfl, c, _, _, _, rfl, rfl, st hc, at0 _ _, ?_⟩
      refine ⟨_, rfl, small_sz (by simp), fun t1 nt1 => ⟨_, _, .str _, .tup (st upd_same) (.cons (.str _) (.cons (.str _) .nil)), (by decide +kernel), (by decide +kernel), _, rfl, ifF (by decide +kernel) ?_⟩⟩
      have s1 := Same.new nt1 (o := .tup [V.str "number", .str "text"])
      refine ⟨_, rfl, rfl, _, rfl, itDn (by decide +kernel) ?_⟩
      refine ⟨_, rfl, small_sz (by simp), fun t2 nt2 => ⟨_, _, .str _, .tup (st upd_same) (.cons (.str _) (.cons (.str _) (.cons (.str _) .nil))), (by decide +kernel), (by decide +kernel), _, rfl, ifF (by decide +kernel) ?_⟩⟩
      have s2 := s1.trans (Same.new nt2 (o := .tup [V.str "deed", .str "let", .str "do"]))
      refine ⟨_, rfl, small_sz (by simp), fun t3 nt3 => ⟨_, _, .str _, .tup (st upd_same) (.cons (.str _) (.cons (.str _) (.cons (.str _) (.cons (.str _) .nil)))), (by decide +kernel), (by decide +kernel), _, rfl, ifF (by decide +kernel) ?_⟩⟩
      have s3 := s2.trans (Same.new nt3 (o := .tup [V.str "call", .str "read", .str "write", .str "same"]))
      refine ⟨_, rfl, rfl, _, rfl, itDn (by decide +kernel) ?_⟩
      refine ⟨_, rfl, small_sz (by simp), fun t4 nt4 => ⟨_, _, .str _, .tup (st upd_same) (.cons (.str _) (.cons (.str _) .nil)), (by decide +kernel), (by decide +kernel), _, rfl, ifT (by decide +kernel) ?_⟩⟩
      have s4 := s3.trans (Same.new nt4 (o := .tup [V.str "tell", .str "box"]))
      have hN' : 1 + e.depth < N + 1 := hN
      have nb : n + (1 + cnt e) ≤ 100000 := i.nb
      have hA : A.height ≤ 5 := i.wr.1
      have hc4 := s4 _ _ hc
      refine ⟨_, rfl, _, rfl, c, _, _, _, rfl, rfl, st hc4, at2 _ _ _ _, _, rfl, _, rfl, c, _, _, _, rfl, rfl, st hc4, at1 _ _ _, ?_⟩
      refine ⟨p, b, d, y3, a, g0, g, n, e, y2, A, rfl, i.sub (s4.kp p) (i.pc.same s4) h3 i.ok.1 i.wr.2 (by show n + cnt e ≤ n + (1 + cnt e); omega) (by show e.depth ≤ 1 + e.depth; omega), by omega, by omega, h2.same s4, by omega, i.ok.2, fun H1 r x k1 c1 er px => ?_⟩
      have k1' := (s4.kp p).trans k1
      have tk := i.pc.tk k1'
      have hc1 := tk _ _ hc
      refine ⟨r, _, rfl, st er, rfl, _, _, rfl, _, _, rfl, rfl, ?_⟩
      refine ⟨_, rfl, rfl, _, rfl, iteF ⟨_, rfl, _, rfl, c, _, _, _, rfl, rfl, st hc1, at1 _ _ _, _, rfl, small_sz (by simp), fun z1 nz1 => ?_⟩⟩
      have s5 := Same.new nz1 (o := .tup [.str "tell", y2, x])
      refine ⟨_, rfl, rfl, _, rfl, itD (by decide +kernel) ⟨_, rfl, c, _, _, _, rfl, rfl, st (s5 _ _ hc1), at1 _ _ _, ?_⟩⟩
      refine ⟨_, _, A, rfl, (h2.keep tk).same s5, hA, fun H5 p5 s7 e5 => ?_⟩
      have s8 := s5.trans s7
      exact q _ _ _ _ (k1'.trans (s8.kp p)) ((c1.same s8).eq (by show n + 1 + cnt e = n + (1 + cnt e); omega)) e5 (.m3 (s7 _ _ upd_same) (.str _) ((h2.keep tk).same s8) (px.same s8)) ((h2.keep tk).same s8)
    | box A e =>
      obtain ⟨c, y1, y2, y3, ev, hc, h1, h2, h3⟩ := Pd.t3 i.pd
      subst ev
      cases h1.str_of
      refine ⟨_, rfl, c, _, _, _, rfl, rfl, st hc, at0 _ _, ?_⟩
      refine ⟨_, rfl, small_sz (by simp), fun t1 nt1 => ⟨_, _, .str _, .tup (st upd_same) (.cons (.str _) (.cons (.str _) .nil)), (by decide +kernel), (by decide +kernel), _, rfl, ifF (by decide +kernel) ?_⟩⟩
      have s1 := Same.new nt1 (o := .tup [V.str "number", .str "text"])
      refine ⟨_, rfl, rfl, _, rfl, itDn (by decide +kernel) ?_⟩
      refine ⟨_, rfl, small_sz (by simp), fun t2 nt2 => ⟨_, _, .str _, .tup (st upd_same) (.cons (.str _) (.cons (.str _) (.cons (.str _) .nil))), (by decide +kernel), (by decide +kernel), _, rfl, ifF (by decide +kernel) ?_⟩⟩
      have s2 := s1.trans (Same.new nt2 (o := .tup [V.str "deed", .str "let", .str "do"]))
      refine ⟨_, rfl, small_sz (by simp), fun t3 nt3 => ⟨_, _, .str _, .tup (st upd_same) (.cons (.str _) (.cons (.str _) (.cons (.str _) (.cons (.str _) .nil)))), (by decide +kernel), (by decide +kernel), _, rfl, ifF (by decide +kernel) ?_⟩⟩
      have s3 := s2.trans (Same.new nt3 (o := .tup [V.str "call", .str "read", .str "write", .str "same"]))
      refine ⟨_, rfl, rfl, _, rfl, itDn (by decide +kernel) ?_⟩
      refine ⟨_, rfl, small_sz (by simp), fun t4 nt4 => ⟨_, _, .str _, .tup (st upd_same) (.cons (.str _) (.cons (.str _) .nil)), (by decide +kernel), (by decide +kernel), _, rfl, ifT (by decide +kernel) ?_⟩⟩
      have s4 := s3.trans (Same.new nt4 (o := .tup [V.str "tell", .str "box"]))
      have hN' : 1 + e.depth < N + 1 := hN
      have nb : n + (1 + cnt e) ≤ 100000 := i.nb
      have hA : A.height ≤ 4 := i.ok.2.2
      have hc4 := s4 _ _ hc
      refine ⟨_, rfl, _, rfl, c, _, _, _, rfl, rfl, st hc4, at2 _ _ _ _, _, rfl, _, rfl, c, _, _, _, rfl, rfl, st hc4, at1 _ _ _, ?_⟩
      refine ⟨p, b, d, y3, a, g0, g, n, e, y2, A, rfl, i.sub (s4.kp p) (i.pc.same s4) h3 i.ok.1 i.wr.2 (by show n + cnt e ≤ n + (1 + cnt e); omega) (by show e.depth ≤ 1 + e.depth; omega), by omega, by omega, h2.same s4, by omega, i.ok.2.1, fun H1 r x k1 c1 er px => ?_⟩
      have k1' := (s4.kp p).trans k1
      have tk := i.pc.tk k1'
      have hc1 := tk _ _ hc
      refine ⟨r, _, rfl, st er, rfl, _, _, rfl, _, _, rfl, rfl, ?_⟩
      refine ⟨_, rfl, rfl, _, rfl, iteF ⟨_, rfl, _, rfl, c, _, _, _, rfl, rfl, st hc1, at1 _ _ _, _, rfl, small_sz (by simp), fun z1 nz1 => ?_⟩⟩
      have s5 := Same.new nz1 (o := .tup [.str "box", y2, x])
      refine ⟨_, rfl, rfl, _, rfl, itDn (by decide +kernel) ⟨_, rfl, c, _, _, _, rfl, rfl, st (s5 _ _ hc1), at1 _ _ _, small_sz (by simp), fun z2 nz2 => ?_⟩⟩
      have s6 := Same.new nz2 (o := .tup [.str "box", y2])
      have s56 := s5.trans s6
      refine ⟨_, _, .box A, rfl, fbox upd_same ((h2.keep tk).same s56), by show 1 + A.height ≤ 5; omega, fun H5 p5 s7 e5 => ?_⟩
      have s8 := s56.trans s7
      exact q _ _ _ _ (k1'.trans (s8.kp p)) ((c1.same s8).eq (by show n + 1 + cnt e = n + (1 + cnt e); omega)) e5 (.m3 ((s6.trans s7) _ _ upd_same) (.str _) ((h2.keep tk).same s8) (px.same s8)) (fbox (s7 _ _ upd_same) ((h2.keep tk).same s8))
    | sum ss e f =>
      obtain ⟨c, y1, y2, y3, ev, hc, h1, h2, h3⟩ := Pd.t3 i.pd
      subst ev
      cases h1.str_of
      cases ss with
      | false =>
        refine ⟨_, rfl, c, _, _, _, rfl, rfl, st hc, at0 _ _, ?_⟩
        refine ⟨_, rfl, small_sz (by simp), fun t1 nt1 => ⟨_, _, .str _, .tup (st upd_same) (.cons (.str _) (.cons (.str _) .nil)), (by decide +kernel), (by decide +kernel), _, rfl, ifF (by decide +kernel) ?_⟩⟩
        have s1 := Same.new nt1 (o := .tup [V.str "number", .str "text"])
        refine ⟨_, rfl, rfl, _, rfl, itDn (by decide +kernel) ?_⟩
        refine ⟨_, rfl, small_sz (by simp), fun t2 nt2 => ⟨_, _, .str _, .tup (st upd_same) (.cons (.str _) (.cons (.str _) (.cons (.str _) .nil))), (by decide +kernel), (by decide +kernel), _, rfl, ifF (by decide +kernel) ?_⟩⟩
        have s2 := s1.trans (Same.new nt2 (o := .tup [V.str "deed", .str "let", .str "do"]))
        refine ⟨_, rfl, small_sz (by simp), fun t3 nt3 => ⟨_, _, .str _, .tup (st upd_same) (.cons (.str _) (.cons (.str _) (.cons (.str _) (.cons (.str _) .nil)))), (by decide +kernel), (by decide +kernel), _, rfl, ifF (by decide +kernel) ?_⟩⟩
        have s3 := s2.trans (Same.new nt3 (o := .tup [V.str "call", .str "read", .str "write", .str "same"]))
        refine ⟨_, rfl, rfl, _, rfl, itDn (by decide +kernel) ?_⟩
        refine ⟨_, rfl, small_sz (by simp), fun t4 nt4 => ⟨_, _, .str _, .tup (st upd_same) (.cons (.str _) (.cons (.str _) .nil)), (by decide +kernel), (by decide +kernel), _, rfl, ifF (by decide +kernel) ?_⟩⟩
        have s4 := s3.trans (Same.new nt4 (o := .tup [V.str "tell", .str "box"]))
        have hN' : 1 + max e.depth f.depth < N + 1 := hN
        have nb : n + (2 + (cnt e + cnt f)) ≤ 100000 := i.nb
        have dt : (Term.sum false e f).depth = 1 + max e.depth f.depth := rfl
        have ct : cnt (Term.sum false e f) = 2 + (cnt e + cnt f) := rfl
        refine ⟨_, rfl, small_sz (by simp), fun l nl => ?_⟩
        have s5 := s4.trans (Same.new nl (o := .lst [.str "add"]))
        have el := upd_same (H := upd (upd (upd (upd H t1 (.tup [.str "number", .str "text"])) t2 (.tup [.str "deed", .str "let", .str "do"])) t3 (.tup [.str "call", .str "read", .str "write", .str "same"])) t4 (.tup [.str "tell", .str "box"])) (a := l) (o := .lst [.str "add"])
        have hlp : l ≠ p := (ne_of_none (s4 _ _ i.pc) nl).symm
        refine ⟨_, rfl, _, rfl, c, _, rfl, st (s5 _ _ hc), fun z => absurd z.1 (tail_ne _ _), fun _ t5 nt5 => ⟨t5, rfl, ⟨_, st upd_same⟩, ?_⟩⟩
        rw [cut_tail]
        have s6 := s5.trans (Same.new nt5 (o := .tup [y2, y3]))
        have el6 := (Same.new nt5 (o := .tup [y2, y3])) _ _ el
        have et5 : (upd (upd (upd (upd (upd (upd H t1 (.tup [V.str "number", .str "text"])) t2 (.tup [V.str "deed", .str "let", .str "do"])) t3 (.tup [V.str "call", .str "read", .str "write", .str "same"])) t4 (.tup [V.str "tell", .str "box"])) l (.lst [V.str "add"])) t5 (.tup [y2, y3])) t5 = some (.tup [y2, y3]) := upd_same
        have hlH : H l = none := s4.free nl
        have nlc : l ≠ c := (ne_of_none (s4 _ _ hc) nl).symm
        refine forS (src_tup (xs := [y2, y3])) (fun j σ H' => ∃ y5 y6 y8 acc, σ = [some (.ref p), some (.ref c), some (.ref b), some (.str "add"), none, y5, y6, some (.ref l), y8] ∧ Kp p H H' ∧ H' t5 = some (.tup [y2, y3]) ∧ H' l = some (.lst acc) ∧ SumSo p d a (g0 ++ g) n (.str "add") e f j acc H') ⟨none, none, none, _, rfl, s6.kp p, et5, el6, .inl ⟨rfl, rfl, i.pc.same s6⟩⟩ (fun j σ H' ⟨_, _, _, _, _, _, e5, _⟩ => st e5) ?_ ?_
        · rintro j z σ H7 H8 hj ⟨y5, y6, y8, acc, rfl, k7, e5, e7, so⟩ sm hz
          refine ⟨_, rfl, _, rfl, _, rfl, _, rfl, rfl, _, rfl, itDn (by decide +kernel) ?_⟩
          rcases so with ⟨rfl, rfl, cm⟩ | ⟨rfl, x1, rfl, cm, p1⟩ | ⟨rfl, _⟩
          · obtain rfl : y2 = z := Option.some.inj hz
            refine ⟨p, b, d, y2, a, g0, g, n, e, _, .num, rfl, i.sub (k7.trans (sm.kp p)) (cm.same sm) h2 i.ok.1 i.wr.1 (by omega) (by omega), by omega, by omega, fnum _, by decide, i.ok.2.1, fun H9 r x k9 c9 er px => ?_⟩
            refine ⟨r, _, rfl, st er, rfl, _, _, rfl, _, _, rfl, rfl, _, rfl, rfl, _, rfl, iteF ?_⟩
            have e9 := k9 _ _ hlp (sm _ _ e7)
            have tk9 : TK H9 (upd H9 l (.lst ([.str "add"] ++ [x]))) := tk_lst (.mut l H9 _) e9
            refine ⟨_, rfl, ty_lst e9, _, rfl, l, _, x, rfl, rfl, e9, small_sz (by simp), _, _, _, _, rfl, (((k7.trans (sm.kp p)).trans k9)).upd hlH, tk9 _ _ ((cm.same sm).tk k9 _ _ (sm _ _ e5)), upd_same, .inr (.inl ⟨rfl, x, rfl, c9.updD hlp, px.keep tk9⟩)⟩
          · obtain rfl : y3 = z := Option.some.inj hz
            refine ⟨p, b, d, y3, a, g0, g, n + 1 + cnt e, f, _, .num, rfl, i.sub (k7.trans (sm.kp p)) (cm.same sm) h3 i.ok.2.2.1 i.wr.2 (by omega) (by omega), by omega, by omega, fnum _, by decide, i.ok.2.2.2, fun H9 r x k9 c9 er px => ?_⟩
            refine ⟨r, _, rfl, st er, rfl, _, _, rfl, _, _, rfl, rfl, _, rfl, rfl, _, rfl, iteF ?_⟩
            have e9 := k9 _ _ hlp (sm _ _ e7)
            have tk9 : TK H9 (upd H9 l (.lst ([.str "add", x1] ++ [x]))) := tk_lst (.mut l H9 _) e9
            have tk8 := (cm.same sm).tk k9
            refine ⟨_, rfl, ty_lst e9, _, rfl, l, _, x, rfl, rfl, e9, small_sz (by simp), _, _, _, _, rfl, (((k7.trans (sm.kp p)).trans k9)).upd hlH, tk9 _ _ (tk8 _ _ (sm _ _ e5)), upd_same, .inr (.inr ⟨rfl, x1, x, rfl, c9.updD hlp, ((p1.same sm).keep tk8).keep tk9, px.keep tk9⟩)⟩
          · exact absurd hj (by simp)
        · rintro σ H7 ⟨y5, y6, y8, acc, rfl, k7, e5, e7, so⟩
          rcases so with ⟨z, _⟩ | ⟨z, _⟩ | ⟨_, x1, x2, rfl, cm, p1, p2⟩
          · cases z
          · cases z
          · refine ⟨_, rfl, l, _, rfl, .inl ⟨sl e7, fun z1 nz1 => ⟨small_sz (by simp), fun z2 nz2 => ?_⟩⟩⟩
            have s8 := (Same.new nz1 (o := .tup [.str "add", x1, x2])).trans (Same.new nz2 (o := .tup [.ref z1, .str "num", .non]))
            exact q _ _ _ _ (k7.trans (s8.kp p)) ((cm.same s8).eq (by omega)) upd_same (.m3 (Same.new nz2 _ _ upd_same) (.str _) (p1.same s8) (p2.same s8)) (fnum _)
      | true =>
        refine ⟨_, rfl, c, _, _, _, rfl, rfl, st hc, at0 _ _, ?_⟩
        refine ⟨_, rfl, small_sz (by simp), fun t1 nt1 => ⟨_, _, .str _, .tup (st upd_same) (.cons (.str _) (.cons (.str _) .nil)), (by decide +kernel), (by decide +kernel), _, rfl, ifF (by decide +kernel) ?_⟩⟩
        have s1 := Same.new nt1 (o := .tup [V.str "number", .str "text"])
        refine ⟨_, rfl, rfl, _, rfl, itDn (by decide +kernel) ?_⟩
        refine ⟨_, rfl, small_sz (by simp), fun t2 nt2 => ⟨_, _, .str _, .tup (st upd_same) (.cons (.str _) (.cons (.str _) (.cons (.str _) .nil))), (by decide +kernel), (by decide +kernel), _, rfl, ifF (by decide +kernel) ?_⟩⟩
        have s2 := s1.trans (Same.new nt2 (o := .tup [V.str "deed", .str "let", .str "do"]))
        refine ⟨_, rfl, small_sz (by simp), fun t3 nt3 => ⟨_, _, .str _, .tup (st upd_same) (.cons (.str _) (.cons (.str _) (.cons (.str _) (.cons (.str _) .nil)))), (by decide +kernel), (by decide +kernel), _, rfl, ifF (by decide +kernel) ?_⟩⟩
        have s3 := s2.trans (Same.new nt3 (o := .tup [V.str "call", .str "read", .str "write", .str "same"]))
        refine ⟨_, rfl, rfl, _, rfl, itDn (by decide +kernel) ?_⟩
        refine ⟨_, rfl, small_sz (by simp), fun t4 nt4 => ⟨_, _, .str _, .tup (st upd_same) (.cons (.str _) (.cons (.str _) .nil)), (by decide +kernel), (by decide +kernel), _, rfl, ifF (by decide +kernel) ?_⟩⟩
        have s4 := s3.trans (Same.new nt4 (o := .tup [V.str "tell", .str "box"]))
        have hN' : 1 + max e.depth f.depth < N + 1 := hN
        have nb : n + (2 + (cnt e + cnt f)) ≤ 100000 := i.nb
        have dt : (Term.sum true e f).depth = 1 + max e.depth f.depth := rfl
        have ct : cnt (Term.sum true e f) = 2 + (cnt e + cnt f) := rfl
        refine ⟨_, rfl, small_sz (by simp), fun l nl => ?_⟩
        have s5 := s4.trans (Same.new nl (o := .lst [.str "sub"]))
        have el := upd_same (H := upd (upd (upd (upd H t1 (.tup [.str "number", .str "text"])) t2 (.tup [.str "deed", .str "let", .str "do"])) t3 (.tup [.str "call", .str "read", .str "write", .str "same"])) t4 (.tup [.str "tell", .str "box"])) (a := l) (o := .lst [.str "sub"])
        have hlp : l ≠ p := (ne_of_none (s4 _ _ i.pc) nl).symm
        refine ⟨_, rfl, _, rfl, c, _, rfl, st (s5 _ _ hc), fun z => absurd z.1 (tail_ne _ _), fun _ t5 nt5 => ⟨t5, rfl, ⟨_, st upd_same⟩, ?_⟩⟩
        rw [cut_tail]
        have s6 := s5.trans (Same.new nt5 (o := .tup [y2, y3]))
        have el6 := (Same.new nt5 (o := .tup [y2, y3])) _ _ el
        have et5 : (upd (upd (upd (upd (upd (upd H t1 (.tup [V.str "number", .str "text"])) t2 (.tup [V.str "deed", .str "let", .str "do"])) t3 (.tup [V.str "call", .str "read", .str "write", .str "same"])) t4 (.tup [V.str "tell", .str "box"])) l (.lst [V.str "sub"])) t5 (.tup [y2, y3])) t5 = some (.tup [y2, y3]) := upd_same
        have hlH : H l = none := s4.free nl
        have nlc : l ≠ c := (ne_of_none (s4 _ _ hc) nl).symm
        refine forS (src_tup (xs := [y2, y3])) (fun j σ H' => ∃ y5 y6 y8 acc, σ = [some (.ref p), some (.ref c), some (.ref b), some (.str "sub"), none, y5, y6, some (.ref l), y8] ∧ Kp p H H' ∧ H' t5 = some (.tup [y2, y3]) ∧ H' l = some (.lst acc) ∧ SumSo p d a (g0 ++ g) n (.str "sub") e f j acc H') ⟨none, none, none, _, rfl, s6.kp p, et5, el6, .inl ⟨rfl, rfl, i.pc.same s6⟩⟩ (fun j σ H' ⟨_, _, _, _, _, _, e5, _⟩ => st e5) ?_ ?_
        · rintro j z σ H7 H8 hj ⟨y5, y6, y8, acc, rfl, k7, e5, e7, so⟩ sm hz
          refine ⟨_, rfl, _, rfl, _, rfl, _, rfl, rfl, _, rfl, itDn (by decide +kernel) ?_⟩
          rcases so with ⟨rfl, rfl, cm⟩ | ⟨rfl, x1, rfl, cm, p1⟩ | ⟨rfl, _⟩
          · obtain rfl : y2 = z := Option.some.inj hz
            refine ⟨p, b, d, y2, a, g0, g, n, e, _, .num, rfl, i.sub (k7.trans (sm.kp p)) (cm.same sm) h2 i.ok.1 i.wr.1 (by omega) (by omega), by omega, by omega, fnum _, by decide, i.ok.2.1, fun H9 r x k9 c9 er px => ?_⟩
            refine ⟨r, _, rfl, st er, rfl, _, _, rfl, _, _, rfl, rfl, _, rfl, rfl, _, rfl, iteF ?_⟩
            have e9 := k9 _ _ hlp (sm _ _ e7)
            have tk9 : TK H9 (upd H9 l (.lst ([.str "sub"] ++ [x]))) := tk_lst (.mut l H9 _) e9
            refine ⟨_, rfl, ty_lst e9, _, rfl, l, _, x, rfl, rfl, e9, small_sz (by simp), _, _, _, _, rfl, (((k7.trans (sm.kp p)).trans k9)).upd hlH, tk9 _ _ ((cm.same sm).tk k9 _ _ (sm _ _ e5)), upd_same, .inr (.inl ⟨rfl, x, rfl, c9.updD hlp, px.keep tk9⟩)⟩
          · obtain rfl : y3 = z := Option.some.inj hz
            refine ⟨p, b, d, y3, a, g0, g, n + 1 + cnt e, f, _, .num, rfl, i.sub (k7.trans (sm.kp p)) (cm.same sm) h3 i.ok.2.2.1 i.wr.2 (by omega) (by omega), by omega, by omega, fnum _, by decide, i.ok.2.2.2, fun H9 r x k9 c9 er px => ?_⟩
            refine ⟨r, _, rfl, st er, rfl, _, _, rfl, _, _, rfl, rfl, _, rfl, rfl, _, rfl, iteF ?_⟩
            have e9 := k9 _ _ hlp (sm _ _ e7)
            have tk9 : TK H9 (upd H9 l (.lst ([.str "sub", x1] ++ [x]))) := tk_lst (.mut l H9 _) e9
            have tk8 := (cm.same sm).tk k9
            refine ⟨_, rfl, ty_lst e9, _, rfl, l, _, x, rfl, rfl, e9, small_sz (by simp), _, _, _, _, rfl, (((k7.trans (sm.kp p)).trans k9)).upd hlH, tk9 _ _ (tk8 _ _ (sm _ _ e5)), upd_same, .inr (.inr ⟨rfl, x1, x, rfl, c9.updD hlp, ((p1.same sm).keep tk8).keep tk9, px.keep tk9⟩)⟩
          · exact absurd hj (by simp)
        · rintro σ H7 ⟨y5, y6, y8, acc, rfl, k7, e5, e7, so⟩
          rcases so with ⟨z, _⟩ | ⟨z, _⟩ | ⟨_, x1, x2, rfl, cm, p1, p2⟩
          · cases z
          · cases z
          · refine ⟨_, rfl, l, _, rfl, .inl ⟨sl e7, fun z1 nz1 => ⟨small_sz (by simp), fun z2 nz2 => ?_⟩⟩⟩
            have s8 := (Same.new nz1 (o := .tup [.str "sub", x1, x2])).trans (Same.new nz2 (o := .tup [.ref z1, .str "num", .non]))
            exact q _ _ _ _ (k7.trans (s8.kp p)) ((cm.same s8).eq (by omega)) upd_same (.m3 (Same.new nz2 _ _ upd_same) (.str _) (p1.same s8) (p2.same s8)) (fnum _)
    | size e =>
      obtain ⟨c, y1, y2, ev, hc, h1, h2⟩ := Pd.t2 i.pd
      subst ev
      cases h1.str_of
      refine ⟨_, rfl, c, _, _, _, rfl, rfl, st hc, at0 _ _, ?_⟩
      refine ⟨_, rfl, small_sz (by simp), fun t1 nt1 => ⟨_, _, .str _, .tup (st upd_same) (.cons (.str _) (.cons (.str _) .nil)), (by decide +kernel), (by decide +kernel), _, rfl, ifF (by decide +kernel) ?_⟩⟩
      have s1 := Same.new nt1 (o := .tup [V.str "number", .str "text"])
      refine ⟨_, rfl, rfl, _, rfl, itDn (by decide +kernel) ?_⟩
      refine ⟨_, rfl, small_sz (by simp), fun t2 nt2 => ⟨_, _, .str _, .tup (st upd_same) (.cons (.str _) (.cons (.str _) (.cons (.str _) .nil))), (by decide +kernel), (by decide +kernel), _, rfl, ifF (by decide +kernel) ?_⟩⟩
      have s2 := s1.trans (Same.new nt2 (o := .tup [V.str "deed", .str "let", .str "do"]))
      refine ⟨_, rfl, small_sz (by simp), fun t3 nt3 => ⟨_, _, .str _, .tup (st upd_same) (.cons (.str _) (.cons (.str _) (.cons (.str _) (.cons (.str _) .nil)))), (by decide +kernel), (by decide +kernel), _, rfl, ifF (by decide +kernel) ?_⟩⟩
      have s3 := s2.trans (Same.new nt3 (o := .tup [V.str "call", .str "read", .str "write", .str "same"]))
      refine ⟨_, rfl, rfl, _, rfl, itDn (by decide +kernel) ?_⟩
      refine ⟨_, rfl, small_sz (by simp), fun t4 nt4 => ⟨_, _, .str _, .tup (st upd_same) (.cons (.str _) (.cons (.str _) .nil)), (by decide +kernel), (by decide +kernel), _, rfl, ifF (by decide +kernel) ?_⟩⟩
      have s4 := s3.trans (Same.new nt4 (o := .tup [V.str "tell", .str "box"]))
      have hN' : 1 + e.depth < N + 1 := hN
      have nb : n + (1 + cnt e) ≤ 100000 := i.nb
      have dt : (Term.size e).depth = 1 + e.depth := rfl
      have ct : cnt (Term.size e) = 1 + cnt e := rfl
      refine ⟨_, rfl, small_sz (by simp), fun l nl => ?_⟩
      have s5 := s4.trans (Same.new nl (o := .lst [.str "size"]))
      have el := upd_same (H := upd (upd (upd (upd H t1 (.tup [.str "number", .str "text"])) t2 (.tup [.str "deed", .str "let", .str "do"])) t3 (.tup [.str "call", .str "read", .str "write", .str "same"])) t4 (.tup [.str "tell", .str "box"])) (a := l) (o := .lst [.str "size"])
      have hlp : l ≠ p := (ne_of_none (s4 _ _ i.pc) nl).symm
      refine ⟨_, rfl, _, rfl, c, _, rfl, st (s5 _ _ hc), fun z => absurd z.1 (tail_ne _ _), fun _ t5 nt5 => ⟨t5, rfl, ⟨_, st upd_same⟩, ?_⟩⟩
      rw [cut_tail]
      have s6 := s5.trans (Same.new nt5 (o := .tup [y2]))
      have el6 := (Same.new nt5 (o := .tup [y2])) _ _ el
      have hlH : H l = none := s4.free nl
      refine forS (src_tup (xs := [y2])) (fun j σ H' => ∃ y5 y6 y8 acc, σ = [some (.ref p), some (.ref c), some (.ref b), some (.str "size"), none, y5, y6, some (.ref l), y8] ∧ Kp p H H' ∧ H' t5 = some (.tup [y2]) ∧ H' l = some (.lst acc) ∧
        ((j = 0 ∧ acc = [.str "size"] ∧ Lc H' p a d n) ∨ (j = 1 ∧ ∃ x1, acc = [.str "size", x1] ∧ Lc H' p a d (n + 1 + cnt e) ∧ Pd H' x1 (fence (mk a (n + 1)) (fo (g0 ++ g) e) .text (pl a (g0 ++ g) (n + 1) e)).d))) ⟨none, none, none, _, rfl, s6.kp p, upd_same, el6, .inl ⟨rfl, rfl, i.pc.same s6⟩⟩ (fun j σ H' ⟨_, _, _, _, _, _, e5, _⟩ => st e5) ?_ ?_
      · rintro j z σ H7 H8 hj ⟨y5, y6, y8, acc, rfl, k7, e5, e7, so⟩ sm hz
        refine ⟨_, rfl, _, rfl, _, rfl, _, rfl, rfl, _, rfl, itD (by decide +kernel) ?_⟩
        rcases so with ⟨rfl, rfl, cm⟩ | ⟨rfl, _⟩
        · obtain rfl : y2 = z := Option.some.inj hz
          refine ⟨p, b, d, y2, a, g0, g, n, e, _, .text, rfl, i.sub (k7.trans (sm.kp p)) (cm.same sm) h2 i.ok.1 i.wr (by omega) (by omega), by omega, by omega, ftext _, by decide, i.ok.2, fun H9 r x k9 c9 er px => ?_⟩
          refine ⟨r, _, rfl, st er, rfl, _, _, rfl, _, _, rfl, rfl, _, rfl, rfl, _, rfl, iteF ?_⟩
          have e9 := k9 _ _ hlp (sm _ _ e7)
          have tk9 : TK H9 (upd H9 l (.lst ([.str "size"] ++ [x]))) := tk_lst (.mut l H9 _) e9
          refine ⟨_, rfl, ty_lst e9, _, rfl, l, _, x, rfl, rfl, e9, small_sz (by simp), _, _, _, _, rfl, (((k7.trans (sm.kp p)).trans k9)).upd hlH, tk9 _ _ ((cm.same sm).tk k9 _ _ (sm _ _ e5)), upd_same, .inr ⟨rfl, x, rfl, c9.updD hlp, px.keep tk9⟩⟩
        · exact absurd hj (by simp)
      · rintro σ H7 ⟨y5, y6, y8, acc, rfl, k7, e5, e7, so⟩
        rcases so with ⟨z, _⟩ | ⟨_, x1, rfl, cm, p1⟩
        · cases z
        · refine ⟨_, rfl, l, _, rfl, .inl ⟨sl e7, fun z1 nz1 => ⟨small_sz (by simp), fun z2 nz2 => ?_⟩⟩⟩
          have s8 := (Same.new nz1 (o := .tup [.str "size", x1])).trans (Same.new nz2 (o := .tup [.ref z1, .str "num", .non]))
          exact q _ _ _ _ (k7.trans (s8.kp p)) ((cm.same s8).eq (by omega)) upd_same (.m2 (Same.new nz2 _ _ upd_same) (.str _) (p1.same s8)) (fnum _)
theorem ok_law_place (T : Tx w K mg) (k : Nat) : ∀ N, Held P w K mg base (k + 4 * N + 10) (fL K "_law_place") (sp_lplace (fun _ => True) N)
  | 0 => by
    refine FunD.held T.f__law_place sc_law_place (fun _ _ _ _ _ _ us hl => match us, hl with | [_, _, _], _ => rfl) (fun vs H Q E h => ?len) (fun fd cdv A outer s H vs Q E hr h => ?body)
    case len => obtain ⟨p, b, d, v, a, g0, g, n, t, rfl, _⟩ := h; rfl
    case body => obtain ⟨p, b, d, v, a, g0, g, n, t, rfl, _, hF, _⟩ := h; exact absurd hF (Nat.not_lt_zero _)
  | N + 1 => by
    have Gp := ok_law_place T k N
    have Gb := ok_law_begun T (k + 4 * N + 10) N Gp
    have Ga := ok_law_aimed T (k + 4 * N) N Gb
    have Gh := ok_law_headed T (k + 4 * N) N Gb
    exact ok_law_place_step T (k + 4 * N) N (Ga.mono (by omega)) ((ok_law_place_loose T (k + 4 * N + 2) N Gp).mono (by omega)) (ok_law_place_headed T (k + 4 * N) N Gh Ga) (ok_law_place_choice T (k + 4 * N) N (Gb.mono (by omega)) Ga)
theorem ok_laimed_all (T : Tx w K mg) (k N : Nat) : Held P w K mg base (k + 4 * N + 12) (fL K "_law_aimed") (sp_laimed N) :=
  ok_law_aimed T (k + 4 * N) N (ok_law_begun T (k + 4 * N + 10) N (ok_law_place T k N))
end
end WS
set_option Elab.async false
set_option linter.all false
set_option maxRecDepth 100000
set_option maxHeartbeats 4000000
/-! list(zip(a, b)): new pairs, kept in a new list. -/
namespace WR
open PySem PyProof.Rows
open Sem (wp)
/-- a zip whose pair a is still held -/
abbrev IsZipO (h : Heap) (z TI TO a : Addr) (f : Bool) : Prop :=
  h.get? z = some { cls := .type "zip", dict := none, data := .fields #[rawInt a, .bool f, .bool false, .ref TI, .ref TO], slots := #[] }
section
variable {prog : Program} {w : World} {A : Around} {E : Value → Shared → Prop} {s : Shared} {z TI TO i1 i2 : Addr} {fp1 fp2 : List Addr} {n i : Nat} {P1 P2 : Nat → Value → Prop} {St1 St2 : Nat → Heap → Prop} {a : Addr} {f : Bool} {oa : Obj}
theorem ownF {Q : Bool → Shared → Prop} (hz : IsZipO s.heap z TI TO a f) (ha : s.heap.get? a = some oa)
    (h : ∀ h', IsZipO h' z TI TO a true → Heap.SameBut z s.heap h' → Q false { s with heap := h' }) : wpAny (model prog w) A (Builtin.SmallTypes.ownedTupleIsFree (.ref z)) Q E s := by
  unfold Builtin.SmallTypes.ownedTupleIsFree
  refine wpAny_bind (wpAny_field hz rfl (x := rawInt a) rfl ?_)
  show wpAny _ _ (loadIfAlive ((a : Int).toNat) >>= _) _ _ _
  rw [Int.toNat_natCast]
  refine wpAny_bind (PySem.W.kdx_alive ha ?_)
  simp only [Option.isNone_some, Bool.false_eq_true, if_false]
  refine wpAny_bind (wpAny_field hz rfl (x := .bool f) rfl ?_)
  cases f with
  | true =>
    rw [if_neg (show ¬ ((Value.bool true != Value.bool true) = true) from Bool.false_ne_true)]
    exact wpAny_pure (h _ hz (Heap.SameBut.refl _ _))
  | false =>
    rw [if_pos (show (Value.bool false != Value.bool true) = true from rfl)]
    refine wpAny_bind (wpAny_setField_rec hz (by simp) fun h' hz' hs' => ?_)
    exact wpAny_pure (h h' hz' hs')
theorem zipO_item {Q : Value → Shared → Prop} (S : ZipSep2 z TI TO i1 i2 fp1 fp2) (D1 : Draws prog w A i1 fp1 n P1 St1) (D2 : Draws prog w A i2 fp2 n P2 St2)
    (hz : IsZipO s.heap z TI TO a f) (ha : s.heap.get? a = some oa) (hTI : IsTupOf2 s.heap TI (.ref i1) (.ref i2)) (st1 : St1 i s.heap) (st2 : St2 i s.heap) (hlt : i < n)
    (hQ : ∀ x1 x2 h' tk, P1 i x1 → P2 i x2 → IsZipO h' z TI TO a true → St1 (i + 1) h' → St2 (i + 1) h' → IsTupOf2 h' s.heap.objs.size x1 x2 → h'.objs.size = s.heap.objs.size + 1 →
      (∀ c o, c ≠ z → c ≠ i1 → c ≠ i2 → s.heap.get? c = some o → h'.get? c = some o) → Q (.ref s.heap.objs.size) { s with heap := h', toks := tk }) :
    wpAny (model prog w) A (Builtin.«zip.__next__» ⟨[.ref z], []⟩) (fun fin s' => ∃ v, fin = .done (.ret v) ∧ Q v s') E s := by
  obtain ⟨hp, g, d, tk0, os⟩ := s
  show wpAny _ _ (field (.ref z) 2 >>= _) _ _ _
  refine wpAny_bind (wpAny_field hz rfl (x := .bool false) rfl ?_)
  show wpAny _ _ (field (.ref z) 3 >>= _) _ _ _
  refine wpAny_bind (wpAny_field hz rfl (x := .ref TI) rfl ?_)
  refine wpAny_bind (wpAny_seqItems hTI rfl ?_)
  show wpAny _ _ (Builtin.SmallTypes.ownedTupleIsFree (.ref z) >>= _) _ _ _
  refine wpAny_bind (ownF hz ha fun g0 hz0 hs0 => ?_)
  replace hs0 : Heap.SameBut z hp g0 := hs0
  simp only [Bool.false_eq_true, if_false]
  refine wpAny_bind ?_
  simp only [← Array.forIn_toList, List.forIn_cons, List.forIn_nil]
  refine wpAny_bind ?_
  refine wpAny_bind (wpAny_holding ?_)
  show wpAny _ _ (Builtin.SmallTypes.nextOf (.ref i1) >>= fun x => pure (some x)) _ _ ⟨g0, g, d, tk0, os⟩
  refine wpAny_bind (D1.item i _ _ _ hlt (D1.over st1 hs0 S.zf1) fun x1 p1 tk1 hx1 sn1 hp1 => wpAny_pure ?_)
  replace hp1 : Heap.SameBut i1 g0 p1 := hp1
  refine wpAny_pure ?_
  dsimp only
  refine wpAny_bind ?_
  refine wpAny_bind (wpAny_holding ?_)
  show wpAny _ _ (Builtin.SmallTypes.nextOf (.ref i2) >>= fun x => pure (some x)) _ _ ⟨p1, g, d, tk1, os⟩
  refine wpAny_bind (D2.item i _ _ _ hlt (D2.over (D2.over st2 hs0 S.zf2) hp1 S.sep1_2) fun x2 p2 tk2 hx2 sn2 hp2 => wpAny_pure ?_)
  replace hp2 : Heap.SameBut i2 p1 p2 := hp2
  refine wpAny_pure ?_
  dsimp only
  refine wpAny_pure ?_
  dsimp only
  refine wpAny_bind (wpAny_newTuple ?_ (by show 2 ≤ sizeLine; decide))
  have hsz : p2.objs.size = hp.objs.size := by rw [hp2.1, hp1.1, hs0.1]
  refine wpAny_pure ⟨_, rfl, ?_⟩
  show Q (.ref p2.objs.size) ⟨p2.push { cls := .type "tuple", data := .seq #[x1, x2] }, g, d, tk2, os⟩
  have hzz : IsZipO p2 z TI TO a true := hp2.extBut _ _ S.zi2 (hp1.extBut _ _ S.zi1 hz0)
  have up : ∀ c o, p2.get? c = some o → (p2.push { cls := .type "tuple", data := .seq #[x1, x2] }).get? c = some o := fun c o e => Heap.get?_push_of_some _ e
  have hT : IsTupOf2 (p2.push { cls := .type "tuple", data := .seq #[x1, x2] }) p2.objs.size x1 x2 := Heap.get?_push_size _ rfl
  have hsN : (p2.push { cls := .type "tuple", data := .seq #[x1, x2] }).objs.size = p2.objs.size + 1 := by rw [Heap.size_push]
  rw [hsz] at hT hsN ⊢
  exact hQ x1 x2 _ tk2 hx1 hx2 (up _ _ hzz) (D1.frame _ _ _ (D1.over sn1 hp2 S.sep2_1) fun b hb o e => up b o e) (D2.frame _ _ _ sn2 fun b hb o e => up b o e) hT hsN fun c o cz c1 c2 e => up c o (hp2.extBut _ _ c2 (hp1.extBut _ _ c1 (hs0.extBut _ _ cz e)))
theorem zipO_end {Q : Fin → Shared → Prop} (S : ZipSep2 z TI TO i1 i2 fp1 fp2) (D1 : Draws prog w A i1 fp1 n P1 St1)
    (hz : IsZipO s.heap z TI TO a f) (ha : s.heap.get? a = some oa) (hTI : IsTupOf2 s.heap TI (.ref i1) (.ref i2)) (st1 : St1 n s.heap)
    (hE : ∀ h' tk e, (∀ c o, c ≠ z → c ≠ i1 → c ≠ i2 → s.heap.get? c = some o → h'.get? c = some o) → (∃ o, h'.get? e = some o ∧ o.cls = .type "StopIteration") → E (.ref e) { s with heap := h', toks := tk }) :
    wpAny (model prog w) A (Builtin.«zip.__next__» ⟨[.ref z], []⟩) Q E s := by
  obtain ⟨hp, g, d, tk0, os⟩ := s
  show wpAny _ _ (field (.ref z) 2 >>= _) _ _ _
  refine wpAny_bind (wpAny_field hz rfl (x := .bool false) rfl ?_)
  show wpAny _ _ (field (.ref z) 3 >>= _) _ _ _
  refine wpAny_bind (wpAny_field hz rfl (x := .ref TI) rfl ?_)
  refine wpAny_bind (wpAny_seqItems hTI rfl ?_)
  show wpAny _ _ (Builtin.SmallTypes.ownedTupleIsFree (.ref z) >>= _) _ _ _
  refine wpAny_bind (ownF hz ha fun g0 hz0 hs0 => ?_)
  replace hs0 : Heap.SameBut z hp g0 := hs0
  simp only [Bool.false_eq_true, if_false]
  refine wpAny_bind ?_
  simp only [← Array.forIn_toList, List.forIn_cons, List.forIn_nil]
  refine wpAny_bind ?_
  refine wpAny_bind (wpAny_holding ?_)
  show wpAny _ _ (Builtin.SmallTypes.nextOf (.ref i1) >>= fun x => pure (some x)) _ _ ⟨g0, g, d, tk0, os⟩
  refine wpAny_bind (D1.done ⟨g0, g, d, tk0, os⟩ _ _ (D1.over st1 hs0 S.zf1) fun q e hq he => ?_)
  replace hq : Heap.ExtBut i1 g0 q := hq
  exact hE q tk0 e (fun c o cz c1 c2 x => hq _ _ c1 (hs0.extBut _ _ cz x)) he
theorem wpAny_pyNext_zipO_item {Q : Option Value → Shared → Prop} (S : ZipSep2 z TI TO i1 i2 fp1 fp2) (D1 : Draws prog w A.in1 i1 fp1 n P1 St1) (D2 : Draws prog w A.in1 i2 fp2 n P2 St2)
    (hz : IsZipO s.heap z TI TO a f) (ha : s.heap.get? a = some oa) (hTI : IsTupOf2 s.heap TI (.ref i1) (.ref i2)) (st1 : St1 i s.heap) (st2 : St2 i s.heap) (hlt : i < n)
    (hQ : ∀ x1 x2 h' tk, P1 i x1 → P2 i x2 → IsZipO h' z TI TO a true → St1 (i + 1) h' → St2 (i + 1) h' → IsTupOf2 h' s.heap.objs.size x1 x2 → h'.objs.size = s.heap.objs.size + 1 →
      (∀ c o, c ≠ z → c ≠ i1 → c ≠ i2 → s.heap.get? c = some o → h'.get? c = some o) → Q (some (.ref s.heap.objs.size)) { s with heap := h', toks := tk }) :
    wpAny (model prog w) A (pyNext (.ref z)) Q E s := by
  have hT : s.TypeIs (.ref z) "zip" := ⟨_, hz, rfl⟩
  unfold pyNext
  exact wpAny_bind (wpAny_attempt (wpAny_callSpecial?_slot (name := Str.ofString "__next__") hT F.slot_zip_next
    (wpAny_call_entry F.slot_zip_next hT F.entry_zip_next
      (zipO_item S D1 D2 hz ha hTI st1 st2 hlt fun x1 x2 h' tk y1 y2 b1 b2 d1 d2 b5 b6 => wpAny_pure (hQ x1 x2 h' tk y1 y2 b1 b2 d1 d2 b5 b6)) (F.args_zip_next_1 _))))
theorem wpAny_pyNext_zipO_end {Q : Option Value → Shared → Prop} (S : ZipSep2 z TI TO i1 i2 fp1 fp2) (D1 : Draws prog w A.in1 i1 fp1 n P1 St1)
    (hz : IsZipO s.heap z TI TO a f) (ha : s.heap.get? a = some oa) (hTI : IsTupOf2 s.heap TI (.ref i1) (.ref i2)) (st1 : St1 n s.heap)
    (hQ : ∀ h' tk, (∀ c o, c ≠ z → c ≠ i1 → c ≠ i2 → s.heap.get? c = some o → h'.get? c = some o) → Q none { s with heap := h', toks := tk }) : wpAny (model prog w) A (pyNext (.ref z)) Q E s := by
  have hT : s.TypeIs (.ref z) "zip" := ⟨_, hz, rfl⟩
  unfold pyNext
  refine wpAny_bind (wpAny_attempt (wpAny_callSpecial?_slot (name := Str.ofString "__next__") hT F.slot_zip_next
    (wpAny_call_entry F.slot_zip_next hT F.entry_zip_next (zipO_end S D1 hz ha hTI st1 fun h' tk e hk he => ?_) (F.args_zip_next_1 _))))
  obtain ⟨o, ho, hc⟩ := he
  refine wpAny_bind (wpAny_isInstance (T := "StopIteration") (b := true) ⟨o, ho, hc⟩ isSubtype_stop ?_)
  exact wpAny_pure (hQ h' tk hk)
/-- a zip, of which no pair was drawn, or whose first pair is held -/
def ZK (h : Heap) (z TI TO i1 i2 S i : Nat) : Prop :=
  (i = 0 ∧ IsZip h z TI TO .none ∧ ∃ x y, IsTupOf2 h TO x y) ∨ ∃ a f oa, IsZipO h z TI TO a f ∧ h.get? a = some oa ∧ a ≠ z ∧ a ≠ i1 ∧ a ≠ i2 ∧ a ≠ S
theorem ZK.keep {h h' : Heap} {S : Addr} (x : ZK h z TI TO i1 i2 S i) (hk : ∀ b o, b ≠ S → h.get? b = some o → h'.get? b = some o) (h1 : z ≠ S) (h2 : TO ≠ S) : ZK h' z TI TO i1 i2 S i := by
  rcases x with ⟨e, hz, x, y, hT⟩ | ⟨a, f, oa, hz, ha, q1, q2, q3, q4⟩
  · exact .inl ⟨e, hk _ _ h1 hz, x, y, hk _ _ h2 hT⟩
  · exact .inr ⟨a, f, oa, hk _ _ h1 hz, hk _ _ q4 ha, q1, q2, q3, q4⟩
theorem zk_item {S : Addr} {Q : Option Value → Shared → Prop} (Sp : ZipSep2 z TI TO i1 i2 fp1 fp2) (D1 : Draws prog w A.in1 i1 fp1 n P1 St1) (D2 : Draws prog w A.in1 i2 fp2 n P2 St2)
    (hk : ZK s.heap z TI TO i1 i2 S i) (hTI : IsTupOf2 s.heap TI (.ref i1) (.ref i2)) (st1 : St1 i s.heap) (st2 : St2 i s.heap) (hlt : i < n)
    (l1 : i1 < s.heap.objs.size) (l2 : i2 < s.heap.objs.size) (lS : S < s.heap.objs.size)
    (hQ : ∀ x1 x2 h' tk, P1 i x1 → P2 i x2 → ZK h' z TI TO i1 i2 S (i + 1) → St1 (i + 1) h' → St2 (i + 1) h' → IsTupOf2 h' s.heap.objs.size x1 x2 → h'.objs.size = s.heap.objs.size + 1 →
      (∀ c o, c ≠ z → c ≠ TO → c ≠ i1 → c ≠ i2 → s.heap.get? c = some o → h'.get? c = some o) → Q (some (.ref s.heap.objs.size)) { s with heap := h', toks := tk }) :
    wpAny (model prog w) A (pyNext (.ref z)) Q E s := by
  rcases hk with ⟨e, hz, x, y, hT⟩ | ⟨a, f, oa, hz, ha, q1, q2, q3, q4⟩
  · have lz : z < s.heap.objs.size := Heap.lt_size hz
    exact wpAny_pyNext_zipD2_item Sp D1 D2 hz hTI hT st1 st2 hlt hlt fun x1 x2 h' tk y1 y2 b1 b2 d1 d2 b5 b6 b7 => hQ x1 x2 h' tk y1 y2 (.inr ⟨_, false, _, b1, b5, Nat.ne_of_gt lz, Nat.ne_of_gt l1, Nat.ne_of_gt l2, Nat.ne_of_gt lS⟩) d1 d2 b5 b6 b7
  · exact wpAny_pyNext_zipO_item Sp D1 D2 hz ha hTI st1 st2 hlt fun x1 x2 h' tk y1 y2 b1 d1 d2 b5 b6 b7 => hQ x1 x2 h' tk y1 y2 (.inr ⟨a, true, oa, b1, b7 a oa q1 q2 q3 ha, q1, q2, q3, q4⟩) d1 d2 b5 b6 fun c o c1 _ c3 c4 e => b7 c o c1 c3 c4 e
theorem zk_end {S : Addr} {Q : Option Value → Shared → Prop} (hh : A.handled = none) (Sp : ZipSep2 z TI TO i1 i2 fp1 fp2) (D1 : Draws prog w A.in1 i1 fp1 n P1 St1) (D2 : Draws prog w A.in1 i2 fp2 n P2 St2)
    (hk : ZK s.heap z TI TO i1 i2 S n) (hTI : IsTupOf2 s.heap TI (.ref i1) (.ref i2)) (st1 : St1 n s.heap) (st2 : St2 n s.heap)
    (hQ : ∀ h' tk, (∀ c o, c ≠ z → c ≠ TO → c ≠ i1 → c ≠ i2 → s.heap.get? c = some o → h'.get? c = some o) → Q none { s with heap := h', toks := tk }) : wpAny (model prog w) A (pyNext (.ref z)) Q E s := by
  rcases hk with ⟨e, hz, x, y, hT⟩ | ⟨a, f, oa, hz, ha, q1, q2, q3, q4⟩
  · exact wpAny_pyNext_zipD2_end Sp D1 D2 hz hTI hT st1 st2 (Nat.le_refl _) (Nat.le_refl _) (.inl rfl) hQ
  · exact wpAny_pyNext_zipO_end Sp D1 hz ha hTI st1 fun h' tk hk => hQ h' tk fun c o c1 _ c3 c4 e => hk c o c1 c3 c4 e
end
end WR
set_option Elab.async false
set_option linter.all false
set_option maxRecDepth 100000
set_option maxHeartbeats 4000000
/-! list(zip(a, b)): the loop of extend. -/
namespace WR
open PySem PyProof.Rows
open Sem (wp)
/-- the pairs laid so far -/
structure ZG (P1 P2 : Nat → Value → Prop) (lo : Addr) (h : Heap) (as : List Addr) : Prop where
  rise : as.Pairwise (· < ·)
  above : ∀ a ∈ as, lo < a
  pairs : ∀ (j : Nat) (a : Addr), as[j]? = some a → ∃ x y, P1 j x ∧ P2 j y ∧ IsTupOf2 h a x y
theorem ZG.there {P1 P2 : Nat → Value → Prop} {lo : Addr} {h : Heap} {as : List Addr} (g : ZG P1 P2 lo h as) {a : Addr} (ha : a ∈ as) : a < h.objs.size := by
  obtain ⟨j, hj⟩ := List.mem_iff_getElem?.mp ha
  obtain ⟨_, _, _, _, e⟩ := g.pairs j a hj
  exact Heap.lt_size e
section
variable {prog : Program} {w : World} {A : Around} {s : Shared} {R : Result → Shared → Prop} {z TI TO i1 i2 : Addr} {fp1 fp2 : List Addr} {n : Nat} {P1 P2 : Nat → Value → Prop} {St1 St2 : Nat → Heap → Prop}
theorem zk_loop {S : Addr} (hh : A.handled = none) (Sp : ZipSep2 z TI TO i1 i2 fp1 fp2) (D1 : Draws prog w A.in1.in1 i1 fp1 n P1 St1) (D2 : Draws prog w A.in1.in1 i2 fp2 n P2 St2)
    (Sz : z < S) (STI : TI < S) (STO : TO < S) (S1 : i1 < S) (S2 : i2 < S) (f1 : S ∉ fp1) (f2 : S ∉ fp2) (hn : n ≤ sizeLine) (res : Value) {h₁ : Heap}
    (hR : ∀ h' tk acc c as, (∀ b o, b ≠ S → b ≠ z → b ≠ TO → b ≠ i1 → b ≠ i2 → h₁.get? b = some o → h'.get? b = some o) → h'.get? S = some { cls := .type "list", dict := none, data := .seq acc c, slots := #[] } → as.length = n → ZG P1 P2 S h' as →
      acc.toList = as.map Value.ref → R (.ok (.ret res)) { s with heap := h', toks := tk }) :
    ∀ (k i : Nat) (h : Heap) (tk c : Nat) (acc : Array Value) (as : List Addr), n - i = k → i ≤ n → ZK h z TI TO i1 i2 S i → IsTupOf2 h TI (.ref i1) (.ref i2) → St1 i h → St2 i h →
      (∀ b o, b ≠ S → b ≠ z → b ≠ TO → b ≠ i1 → b ≠ i2 → h₁.get? b = some o → h.get? b = some o) →
      h.get? S = some { cls := .type "list", dict := none, data := .seq acc c, slots := #[] } → acc.toList = as.map Value.ref → as.length = i → ZG P1 P2 S h as →
      codeAny (model prog w) A (.builtin "list.extend.loop" ⟨[.ref S, .ref z, res], []⟩) R { s with heap := h, toks := tk } := by
  intro k
  induction k with
  | zero =>
    intro i h tk c acc as hk hi hst hTI st1 st2 hkeep hS hacc hal hG
    have hin : i = n := by omega
    subst hin
    refine codeAny_builtin PySem.F.entry_extend_loop ?_
    rw [Around.under_plainId PySem.F.plain_extend_loop _]
    show wpAny _ A.in1 (pyNext (.ref z) >>= _) _ _ _
    refine wpAny_bind (zk_end (s := { s with heap := h, toks := tk }) (A := A.in1) hh Sp D1 D2 hst hTI st1 st2 fun h' tk' he => ?_)
    refine wpAny_pure (hR h' tk' acc c as (fun b o h1 h2 h3 h4 h5 e => he b o h2 h3 h4 h5 (hkeep b o h1 h2 h3 h4 h5 e)) (he S _ (Nat.ne_of_gt Sz) (Nat.ne_of_gt STO) (Nat.ne_of_gt S1) (Nat.ne_of_gt S2) hS) hal ⟨hG.rise, hG.above, fun j a hj => ?_⟩ hacc)
    obtain ⟨x, y, e1, e2, e3⟩ := hG.pairs j a hj
    have ga := hG.above a (List.mem_of_getElem? hj)
    exact ⟨x, y, e1, e2, he a _ (Nat.ne_of_gt (Nat.lt_trans Sz ga)) (Nat.ne_of_gt (Nat.lt_trans STO ga)) (Nat.ne_of_gt (Nat.lt_trans S1 ga)) (Nat.ne_of_gt (Nat.lt_trans S2 ga)) e3⟩
  | succ k ih =>
    intro i h tk c acc as hk hi hst hTI st1 st2 hkeep hS hacc hal hG
    have hlt : i < n := by omega
    have hsz : acc.size = i := by rw [← Array.length_toList, hacc, List.length_map, hal]
    have lS : S < h.objs.size := Heap.lt_size hS
    refine codeAny_builtin PySem.F.entry_extend_loop ?_
    rw [Around.under_plainId PySem.F.plain_extend_loop _]
    show wpAny _ A.in1 (pyNext (.ref z) >>= _) _ _ _
    refine wpAny_bind (zk_item (s := { s with heap := h, toks := tk }) (A := A.in1) Sp D1 D2 hst hTI st1 st2 hlt (Nat.lt_trans S1 lS) (Nat.lt_trans S2 lS) lS fun x1 x2 h' tk' p1 p2 hst' t1 t2 ht hz hkp => ?_)
    dsimp only at ht hz hkp ⊢
    have hS' := hkp S _ (Nat.ne_of_gt Sz) (Nat.ne_of_gt STO) (Nat.ne_of_gt S1) (Nat.ne_of_gt S2) hS
    have up : ∀ b o, b ≠ S → h'.get? b = some o → (h'.update S (Obj.mapSeq (·.push (Value.ref h.objs.size)))).get? b = some o := fun b o hb e => (Heap.get?_update_other _ _ (Ne.symm hb)).trans e
    have sb : ∀ (x : Addr) (fp : List Addr), S ∉ fp → ∀ b ∈ fp, ∀ o, h'.get? b = some o → (h'.update S (Obj.mapSeq (·.push (Value.ref h.objs.size)))).get? b = some o := fun _ fp hf b hb o e => up b o (fun q => hf (q ▸ hb)) e
    show wpAny _ A.in1 (updateSeq S (·.push (Value.ref h.objs.size)) >>= _) _ _ _
    refine wpAny_bind ?_
    refine wpAny_updateSeq hS' rfl (wpAny_pure ⟨plainId_quiet PySem.F.plain_extend_loop _, ih (i + 1) _ tk' _ (acc.push (Value.ref h.objs.size)) (as ++ [h.objs.size]) (by omega) hlt (hst'.keep up (Nat.ne_of_lt Sz) (Nat.ne_of_lt STO))
      (up _ _ (Nat.ne_of_lt STI) (hkp _ _ Sp.TIz Sp.TITO Sp.TIi1 Sp.TIi2 hTI)) (D1.frame _ _ _ t1 (sb 0 fp1 f1)) (D2.frame _ _ _ t2 (sb 0 fp2 f2))
      (fun b o h1 h2 h3 h4 h5 e => up b o h1 (hkp b o h2 h3 h4 h5 (hkeep b o h1 h2 h3 h4 h5 e))) (Heap.get?_update_self _ hS' rfl) (by rw [Array.toList_push, hacc, List.map_append]; rfl) (by rw [List.length_append, hal]; rfl) ⟨?_, ?_, ?_⟩⟩) (by rw [hsz]; omega) (by show (acc.push (Value.ref h.objs.size)).size ≤ sizeLine + 1; rw [Array.size_push, hsz]; omega)
    · refine List.pairwise_append.mpr ⟨hG.rise, List.pairwise_singleton _ _, fun a ha b hb => ?_⟩
      rw [List.mem_singleton.mp hb]
      exact hG.there ha
    · intro a ha
      rcases List.mem_append.mp ha with ha | ha
      · exact hG.above a ha
      · rw [List.mem_singleton.mp ha]; exact lS
    · intro j b hj
      rcases Nat.lt_trichotomy j as.length with h1 | h1 | h1
      · rw [List.getElem?_append_left h1] at hj
        obtain ⟨x, y, e1, e2, e3⟩ := hG.pairs j b hj
        have hb := hG.above b (List.mem_of_getElem? hj)
        exact ⟨x, y, e1, e2, up b _ (Nat.ne_of_gt hb) (hkp b _ (Nat.ne_of_gt (Nat.lt_trans Sz hb)) (Nat.ne_of_gt (Nat.lt_trans STO hb)) (Nat.ne_of_gt (Nat.lt_trans S1 hb)) (Nat.ne_of_gt (Nat.lt_trans S2 hb)) e3)⟩
      · subst h1
        have hb : h.objs.size = b := by simpa using hj
        subst hb
        exact ⟨x1, x2, by rw [hal]; exact p1, by rw [hal]; exact p2, up _ _ (Nat.ne_of_gt lS) ht⟩
      · have hnone : (as ++ [h.objs.size])[j]? = none := List.getElem?_eq_none (by rw [List.length_append, List.length_singleton]; omega)
        rw [hnone] at hj; cases hj
end
end WR
set_option Elab.async false
set_option linter.all false
set_option maxRecDepth 100000
set_option maxHeartbeats 4000000
/-! list(zip(a, b)): the call. -/
namespace WR
open PySem PyProof.Rows
open Sem (wp)
theorem zip_no_len : typeLookup (.type "zip") "__len__" = pure none := by rw [typeLookup_type, builtinLookup_eq_fast]; kernel_rfl
theorem zip_no_hint : typeLookup (.type "zip") "__length_hint__" = pure none := by rw [typeLookup_type, builtinLookup_eq_fast]; kernel_rfl
section
variable {prog : Program} {w : World} {A : Around} {s : Shared} {R : Result → Shared → Prop} {z TI TO i1 i2 : Addr} {fp1 fp2 : List Addr} {n : Nat} {P1 P2 : Nat → Value → Prop} {St1 St2 : Nat → Heap → Prop}
theorem zk_extend {S : Addr} (hh : A.handled = none) (Sp : ZipSep2 z TI TO i1 i2 fp1 fp2) (D1 : Draws prog w A.in1.in1 i1 fp1 n P1 St1) (D2 : Draws prog w A.in1.in1 i2 fp2 n P2 St2)
    (Sz : z < S) (STI : TI < S) (STO : TO < S) (S1 : i1 < S) (S2 : i2 < S) (f1 : S ∉ fp1) (f2 : S ∉ fp2) (hn : n ≤ sizeLine) (res : Value) (c₀ : Nat)
    (hz : IsZip s.heap z TI TO .none) (hTI : IsTupOf2 s.heap TI (.ref i1) (.ref i2)) {x0 y0 : Value} (hTO : IsTupOf2 s.heap TO x0 y0) (st1 : St1 0 s.heap) (st2 : St2 0 s.heap)
    (hS : s.heap.get? S = some { cls := .type "list", data := .seq #[] c₀ })
    (hR : ∀ h' tk acc c as, (∀ b o, b ≠ S → b ≠ z → b ≠ TO → b ≠ i1 → b ≠ i2 → s.heap.get? b = some o → h'.get? b = some o) → h'.get? S = some { cls := .type "list", dict := none, data := .seq acc c, slots := #[] } → as.length = n → ZG P1 P2 S h' as →
      acc.toList = as.map Value.ref → R (.ok (.ret res)) { s with heap := h', toks := tk }) :
    wpAny (model prog w) A.in1 (Builtin.List.listExtendWith (.ref S) (.ref z) res)
      (fun fin s' => match fin with | .done f => R (.ok f) s' | .again c' => c'.quiet = true ∧ codeAny (model prog w) A c' R s') (fun e s' => R (.error e) s') s := by
  have hT : s.TypeIs (.ref z) "zip" := ⟨_, hz, rfl⟩
  unfold Builtin.List.listExtendWith
  refine wpAny_bind (wpAny_typeOf hT ?_)
  have h1 : Builtin.List.listSameRef (.ref S) (.ref z) = false := by simp [Builtin.List.listSameRef, Nat.ne_of_gt Sz]
  have h2 : (Value.type "zip" == Value.type "list") = false := by decide
  have h3 : (Value.type "zip" == Value.type "tuple") = false := by decide
  simp only [h1, h2, h3, Bool.or_false, Bool.false_eq_true, if_false]
  refine wpAny_bind (zipB_iter (b := false) hz ?_)
  refine wpAny_bind (wpAny_holding ?_)
  unfold Builtin.List.listLengthHint
  refine wpAny_bind (wpAny_specialOf hT zip_no_len ?_)
  show wpAny _ A.in1 (specialOf (Value.ref z) (Str.ofString "__length_hint__") >>= _) _ _ _
  refine wpAny_bind (wpAny_specialOf hT zip_no_hint ?_)
  refine wpAny_pure ?_
  show wpAny _ A.in1 (rule "list.extend.makes-room" >>= fun _ => Builtin.List.listTouch (.ref S) >>= fun _ =>
    again (.builtin "list.extend.loop" ⟨[.ref S, .ref z, res], []⟩)) _ _ _
  refine wpAny_bind (wpAny_rule ?_)
  refine wpAny_bind ?_
  show wpAny _ A.in1 (updateSeq S (·.push .none) >>= fun _ => updateSeq S (·.pop)) _ _ _
  refine wpAny_bind (wpAny_updateSeq hS rfl ?_)
  have hS₂ := Heap.get?_update_self (Obj.mapSeq (·.push Value.none)) hS rfl
  refine wpAny_updateSeq (hz := by seq_fits) hS₂ rfl ?_
  have hS₃ := Heap.get?_update_self (Obj.mapSeq (·.pop)) hS₂ rfl
  have oth : ∀ b o, b ≠ S → s.heap.get? b = some o → ((s.heap.update S (Obj.mapSeq (·.push Value.none))).update S (Obj.mapSeq (·.pop))).get? b = some o :=
    fun b o hb e => (Heap.get?_update_other _ _ (Ne.symm hb)).trans ((Heap.get?_update_other _ _ (Ne.symm hb)).trans e)
  exact wpAny_pure ⟨plainId_quiet PySem.F.plain_extend_loop _, zk_loop (s := s) (h₁ := s.heap) hh Sp D1 D2 Sz STI STO S1 S2 f1 f2 hn res hR n 0 _ s.toks _ #[] [] (Nat.sub_zero _) (Nat.zero_le _)
    (.inl ⟨rfl, oth _ _ (Nat.ne_of_lt Sz) hz, _, _, oth _ _ (Nat.ne_of_lt STO) hTO⟩) (oth _ _ (Nat.ne_of_lt STI) hTI) (D1.frame _ _ _ st1 fun b hb o e => oth b o (fun q => f1 (q ▸ hb)) e) (D2.frame _ _ _ st2 fun b hb o e => oth b o (fun q => f2 (q ▸ hb)) e)
    (fun b o hb _ _ _ _ e => oth b o hb e) hS₃ rfl rfl ⟨List.Pairwise.nil, (fun _ ha => nomatch ha), (fun j a hj => by simp at hj)⟩⟩
theorem zk_init {S : Addr} (hh : A.handled = none) (Sp : ZipSep2 z TI TO i1 i2 fp1 fp2) (D1 : Draws prog w A.in1.in1 i1 fp1 n P1 St1) (D2 : Draws prog w A.in1.in1 i2 fp2 n P2 St2)
    (Sz : z < S) (STI : TI < S) (STO : TO < S) (S1 : i1 < S) (S2 : i2 < S) (f1 : S ∉ fp1) (f2 : S ∉ fp2) (hn : n ≤ sizeLine)
    (hz : IsZip s.heap z TI TO .none) (hTI : IsTupOf2 s.heap TI (.ref i1) (.ref i2)) {x0 y0 : Value} (hTO : IsTupOf2 s.heap TO x0 y0) (st1 : St1 0 s.heap) (st2 : St2 0 s.heap)
    (hS : s.heap.get? S = some { cls := .type "list", data := .seq #[] })
    (hR : ∀ h' tk acc c as, (∀ b o, b ≠ S → b ≠ z → b ≠ TO → b ≠ i1 → b ≠ i2 → s.heap.get? b = some o → h'.get? b = some o) → h'.get? S = some { cls := .type "list", dict := none, data := .seq acc c, slots := #[] } → as.length = n → ZG P1 P2 S h' as →
      acc.toList = as.map Value.ref → R (.ok (.ret .none)) { s with heap := h', toks := tk }) :
    wpAny (model prog w) A.in1 (Builtin.«list.__init__» ⟨[.ref S, .ref z], []⟩)
      (fun fin s' => match fin with | .done f => R (.ok f) s' | .again c' => c'.quiet = true ∧ codeAny (model prog w) A c' R s') (fun e s' => R (.error e) s') s := by
  show wpAny _ _ (do let old ← Builtin.List.listItems (.ref S); Builtin.List.listUpdate (.ref S) (fun _ => #[]); letGo old.toList.reverse; Builtin.List.listExtendWith (.ref S) (.ref z) .none) _ _ s
  refine wpAny_bind ?_
  unfold Builtin.List.listItems
  refine wpAny_bind (wpAny_seqItems hS rfl (wpAny_pure ?_))
  show wpAny _ _ (updateSeq S (fun _ => #[]) >>= fun _ => letGo (#[] : Array Value).toList.reverse >>= fun _ => Builtin.List.listExtendWith (.ref S) (.ref z) .none) _ _ s
  refine wpAny_bind (wpAny_updateSeq hS rfl ?_)
  have hS₂ := Heap.get?_update_self (Obj.mapSeq (fun _ => (#[] : Array Value))) hS rfl
  have oth : ∀ b o, b ≠ S → s.heap.get? b = some o → (s.heap.update S (Obj.mapSeq (fun _ => (#[] : Array Value)))).get? b = some o :=
    fun b o hb e => (Heap.get?_update_other _ _ (Ne.symm hb)).trans e
  refine wpAny_bind (wpAny_letGo ?_)
  refine zk_extend hh Sp D1 D2 Sz STI STO S1 S2 f1 f2 hn .none _ (oth _ _ (Nat.ne_of_lt Sz) hz) (oth _ _ (Nat.ne_of_lt STI) hTI) (oth _ _ (Nat.ne_of_lt STO) hTO)
    (D1.frame _ _ _ st1 fun b hb o e => oth b o (fun q => f1 (q ▸ hb)) e) (D2.frame _ _ _ st2 fun b hb o e => oth b o (fun q => f2 (q ▸ hb)) e) hS₂ fun h' tk acc c as hk hS' hl hG hacc => ?_
  exact hR h' tk acc c as (fun b o hb q1 q2 q3 q4 e => hk b o hb q1 q2 q3 q4 (oth b o hb e)) hS' hl hG hacc
theorem zk_call {Q : Value → Shared → Prop} {E : Value → Shared → Prop} (hh : A.handled = none) (Sp : ZipSep2 z TI TO i1 i2 fp1 fp2) (D1 : Draws prog w A.in1.in1.in1 i1 fp1 n P1 St1) (D2 : Draws prog w A.in1.in1.in1 i2 fp2 n P2 St2)
    (f1 : ∀ b ∈ fp1, b < s.heap.objs.size) (f2 : ∀ b ∈ fp2, b < s.heap.objs.size) (hn : n ≤ sizeLine)
    (hz : IsZip s.heap z TI TO .none) (hTI : IsTupOf2 s.heap TI (.ref i1) (.ref i2)) {x0 y0 : Value} (hTO : IsTupOf2 s.heap TO x0 y0) (st1 : St1 0 s.heap) (st2 : St2 0 s.heap)
    (hQ : ∀ h' tk acc c as, (∀ b o, b ≠ z → b ≠ TO → b ≠ i1 → b ≠ i2 → s.heap.get? b = some o → h'.get? b = some o) → h'.get? s.heap.objs.size = some { cls := .type "list", dict := none, data := .seq acc c, slots := #[] } → as.length = n → ZG P1 P2 s.heap.objs.size h' as →
      acc.toList = as.map Value.ref → Q (.ref s.heap.objs.size) { s with heap := h', toks := tk }) :
    wpAny (model prog w) A (call (.type "list") [.ref z]) Q E s := by
  refine callType_codes (Q₁ := fun obj s₁ => obj = .ref s.heap.objs.size ∧ s₁ = { s with heap := s.heap.push { cls := .type "list", data := .seq #[] } }) PySem.F.called_list (PySem.F.typeCall_list_1 _) PySem.F.entry_list_init
    (code_list_new _ ⟨rfl, rfl⟩) fun obj s₁ h₁ => ?_
  obtain ⟨rfl, rfl⟩ := h₁
  have hS : (s.heap.push { cls := .type "list", data := .seq #[] }).get? s.heap.objs.size = some { cls := .type "list", data := .seq #[] } := Heap.get?_push_size _ rfl
  have n1 : s.heap.objs.size ∉ fp1 := fun h => Nat.lt_irrefl _ (f1 _ h)
  have n2 : s.heap.objs.size ∉ fp2 := fun h => Nat.lt_irrefl _ (f2 _ h)
  have up : ∀ b o, s.heap.get? b = some o → (s.heap.push { cls := .type "list", data := .seq #[] }).get? b = some o := fun b o e => Heap.get?_push_of_some _ e
  refine ⟨⟨_, hS, rfl⟩, PySem.F.args_list_init_2 _ _, zk_init (A := A.in1) hh Sp D1 D2 (Heap.lt_size hz) (Heap.lt_size hTI) (Heap.lt_size hTO) (f1 _ Sp.mem1) (f2 _ Sp.mem2) n1 n2 hn (up _ _ hz) (up _ _ hTI) (up _ _ hTO)
    (D1.frame _ _ _ st1 fun b _ o e => up b o e) (D2.frame _ _ _ st2 fun b _ o e => up b o e) hS fun h' tk acc c as hk hS' hl hG hacc => ?_⟩
  exact ⟨rfl, hQ h' tk acc c as (fun b o q1 q2 q3 q4 e => hk b o (Nat.ne_of_lt (Heap.lt_size e)) q1 q2 q3 q4 (up b o e)) hS' hl hG hacc⟩
end
end WR
set_option Elab.async false
set_option linter.all false
set_option maxRecDepth 100000
set_option maxHeartbeats 4000000
/-! list(zip(a, b)) over the layer. -/
namespace L2
open PySem PySem.Spec PyProof.Rows WR
/-- the pairs tracked at their addresses -/
def putP : Hp → List Addr → List (V × V) → Hp
  | H, a :: as, p :: kvs => putP (upd H a (.tup [p.1, p.2])) as kvs
  | H, _, _ => H
theorem putP_off {b : Addr} : ∀ (as : List Addr) (kvs : List (V × V)) (H : Hp), b ∉ as → putP H as kvs b = H b
  | [], _, _, _ => rfl
  | _ :: _, [], _, _ => rfl
  | a :: as, p :: kvs, H, h => by
    show putP (upd H a (.tup [p.1, p.2])) as kvs b = H b
    rw [putP_off as kvs _ (fun z => h (List.mem_cons_of_mem _ z)), upd_ne (fun z => h (by rw [z]; exact List.mem_cons_self))]
theorem putP_at : ∀ (as : List Addr) (kvs : List (V × V)) (H : Hp), as.length = kvs.length → as.Nodup → Paired (fun (t : Addr) (p : V × V) => putP H as kvs t = some (.tup [p.1, p.2])) as kvs
  | [], [], _, _, _ => .nil
  | [], _ :: _, _, h, _ => by cases h
  | _ :: _, [], _, h, _ => by cases h
  | a :: as, p :: kvs, H, h, hn => by
    have hn' := List.nodup_cons.mp hn
    have ih := putP_at as kvs (upd H a (.tup [p.1, p.2])) (Nat.succ.inj h) hn'.2
    refine .cons ?_ ih
    show putP (upd H a (.tup [p.1, p.2])) as kvs a = some (.tup [p.1, p.2])
    rw [putP_off as kvs _ hn'.1, upd_same]
/-- list(zip(a, b)), both of one length -/
def rListZip (K : PySem.W.Frag) : List V → Hp → VK → Prop := fun vs H Q => ∃ (c1 c2 : ZC) (xs ys : List V), vs = [c1.val, c2.val] ∧ c1.has K H xs ∧ c2.has K H ys ∧ xs.length = ys.length ∧ xs.length ≤ sizeLine ∧
  ∀ (H' : Hp) (p : Addr) (ts : List Addr), (∀ b o, H b = some o → H' b = some o) → H p = none → (∀ t ∈ ts, H t = none) → p ∉ ts → H' p = some (.lst (ts.map V.ref)) → Paired (fun (t : Addr) (q : V × V) => H' t = some (.tup [q.1, q.2])) ts (xs.zip ys) → Q (.ref p) H'
def tListZip (K : PySem.W.Frag) (ta : TA) : TE := fun σ H Q => ta σ H fun vs H1 => rListZip K vs H1 Q
section
variable {X : Cx} {e e2 : Expr} {ta : TA} {p p2 cpos pos : Pos}
theorem zip_laid {pins : List (Addr × Obj)} {σ : L2.St} {H : Hp} {s : Shared} {h' : Heap} {tk : Nat} {lo : Addr} {xs ys : List V} {acc : Array Value} {c : Nat} {as : List Addr} {P1 P2 : Nat → Value → Prop} (I : Inv X pins σ H s) (hz : xs.length ≤ sizeLine) (hxy : xs.length = ys.length)
    (g1 : ∀ j u, P1 j u → ∃ x, xs[j]? = some x ∧ RelV x u) (g2 : ∀ j u, P2 j u → ∃ x, ys[j]? = some x ∧ RelV x u) (hlo : s.heap.objs.size ≤ lo)
    (hk : ∀ b o, s.heap.get? b = some o → h'.get? b = some o) (hS : h'.get? lo = some { cls := .type "list", dict := none, data := .seq acc c, slots := #[] }) (hl : as.length = xs.length) (hG : ZG P1 P2 lo h' as) (hacc : acc.toList = as.map Value.ref) :
    ∃ H' : Hp, (∀ b o, H b = some o → H' b = some o) ∧ H lo = none ∧ (∀ t ∈ as, H t = none) ∧ lo ∉ as ∧ H' lo = some (.lst (as.map V.ref)) ∧ Paired (fun (t : Addr) (q : V × V) => H' t = some (.tup [q.1, q.2])) as (xs.zip ys) ∧ Inv X pins σ H' { s with heap := h', toks := tk } := by
  have lk : (xs.zip ys).length = xs.length := by rw [List.length_zip]; omega
  have hSn : lo ∉ as := fun z => Nat.lt_irrefl _ (hG.above _ z)
  have nd : as.Nodup := List.Pairwise.imp (fun {a b} (h : a < b) => Nat.ne_of_lt h) hG.rise
  have new : ∀ t ∈ as, H t = none := fun t ht => I.hok.fresh (Nat.le_trans hlo (Nat.le_of_lt (hG.above t ht)))
  have newS : H lo = none := I.hok.fresh hlo
  have atP := putP_at as (xs.zip ys) (upd H lo (.lst (as.map V.ref))) (by omega) nd
  have off : ∀ b, b ∉ as → b ≠ lo → putP (upd H lo (.lst (as.map V.ref))) as (xs.zip ys) b = H b := fun b h1 h2 => by rw [putP_off as _ _ h1, upd_ne h2]
  have low : ∀ b o, s.heap.get? b = some o → b ∉ as ∧ b ≠ lo := fun b o e => ⟨fun z => absurd (Heap.lt_size e) (Nat.not_lt.mpr (Nat.le_trans hlo (Nat.le_of_lt (hG.above b z)))), Nat.ne_of_lt (Nat.lt_of_lt_of_le (Heap.lt_size e) hlo)⟩
  have kp : ∀ b u, H b = some u → (putP (upd H lo (.lst (as.map V.ref))) as (xs.zip ys)) b = some u := fun b u e => by
    rw [off b (fun z => by rw [new b z] at e; cases e) (fun z => by rw [z, newS] at e; cases e)]
    exact e
  have eS : putP (upd H lo (.lst (as.map V.ref))) as (xs.zip ys) lo = some (.lst (as.map V.ref)) := by rw [putP_off as _ _ hSn, upd_same]
  refine ⟨putP (upd H lo (.lst (as.map V.ref))) as (xs.zip ys), kp, newS, new, hSn, eS, atP, ?_⟩
  refine I.call' (ch := []) rfl ⟨fun b o q _ _ _ => hk b o q, fun b o q _ _ _ => ⟨o.slots, hk b o q⟩, fun b o q n _ => ?_, fun b o q _ => ⟨o, hk b o q⟩, fun b xs q => kp b _ q, fun b o u q => kp b _ q, fun b ps q => ⟨#[], by rw [kp b _ q]; simp⟩⟩ (fun b u q => ?_) I.bare fun b z => by simp at z
  · obtain ⟨z1, z2⟩ := low b o q
    rw [off b z1 z2]
    exact n
  · by_cases hb : b ∈ as
    · obtain ⟨j, pk, e1, e2, e3⟩ := LiI.paired_ix atP hb
      rw [e3] at q
      cases q
      obtain ⟨u, u2, f1, f2, f3⟩ := hG.pairs j b e1
      obtain ⟨x, ex, rx⟩ := g1 j u f1
      obtain ⟨y, ey, ry⟩ := g2 j u2 f2
      have ez : (xs.zip ys)[j]? = some (x, y) := List.getElem?_zip_eq_some.mpr ⟨ex, ey⟩
      rw [e2] at ez
      cases ez
      exact ⟨by show 2 ≤ sizeLine; decide, [u, u2], .cons rx (.cons ry .nil), ⟨_, f3, rfl, _, rfl⟩⟩
    · by_cases hb2 : b = lo
      · rw [hb2] at q ⊢
        rw [eS] at q
        cases q
        refine ⟨by rw [List.length_map]; omega, acc.toList, c, by rw [hacc]; exact vals_refs as, ?_⟩
        rw [Array.toArray_toList]
        exact hS
      · rw [off b hb hb2] at q
        exact (I.hok b u q).stay (fun d v _ y => hk d v y) (fun d y => kp d _ y) fun d xs y => kp d _ y
/-- list(zip(a, b)) -/
theorem pe_listZip (hc : X.calm = true) (hg : Gl X "list") (hm : X.mg "list" = none) (hv : bootBuiltins "list" = some (.type "list")) (hgz : Gl X "zip") (hmz : X.mg "zip" = none) (ha : PA X [e, e2] ta)
    (hs : starEach [.Call (.Name "zip" p2) [e, e2] [] cpos] X.env = (false, eval (.Call (.Name "zip" p2) [e, e2] [] cpos) X.env) :: starEach [] X.env := by rfl)
    (hs2 : starEach [e, e2] X.env = (false, eval e X.env) :: starEach [e2] X.env := by rfl) (hpl : (backTo cpos (starEach [e2] X.env)).any (·.1) = false := by rfl) :
    PE X (.Call (.Name "list" p) [.Call (.Name "zip" p2) [e, e2] [] cpos] [] pos) (tListZip X.K ta) := by
  refine ⟨fun pins s σ H Q I hq => ?_⟩
  refine wpAny_Call_Name_kw (ld_blt I hg hm hv ?_)
  refine PyProof.Rows.callWith_type1 ?_ hs rfl
  rw [hs]
  show wpAny _ _ (spliced ((false, eval (.Call (.Name "zip" p2) [e, e2] [] cpos) X.env) :: backTo pos (starEach [] X.env))) _ _ s
  refine Calls.spliced_cons ?_
  refine Call_ (ld_blt I hgz hmz PyProof.Rows.boot_zip (PyProof.Rows.callWith_type1 (thn (ha.run cpos pins s σ H _ I hq) fun us s1 ⟨vs, H1, I1, r1, q1⟩ => ?_) hs2 hpl))
  obtain ⟨c1, c2, xs, ys, ex, hqx, hqy, hlen, hz, q⟩ := q1
  subst ex
  cases r1 with
  | cons r rr =>
    cases rr with
    | cons r' rr =>
      cases rr
      obtain ⟨o1, G1, B1, g1, b1, a1⟩ := ZC.begins I1 hqx r
      obtain ⟨o2, G2, B2, g2, b2, a2⟩ := ZC.begins I1 hqy r'
      refine zip_begins2 B1 B2 g1 g2 fun h' hz' hTI hTO h1 h2 hsz hk => ?_
      refine Calls.spliced_nil ?_
      have I2 : Inv X pins σ H1 { s1 with heap := h' } := I1.kept (t' := s1.toks) hk
      have D : ZipSep2 (s1.heap.objs.size + 4) (s1.heap.objs.size + 2) (s1.heap.objs.size + 3) s1.heap.objs.size (s1.heap.objs.size + 1) (s1.heap.objs.size :: c1.un) ((s1.heap.objs.size + 1) :: c2.un) := zip_sep2 b1 b2
      have n1 : s1.heap.objs.size ∉ c1.un := fun h => Nat.lt_irrefl _ (b1 _ h)
      have n2 : s1.heap.objs.size + 1 ∉ c2.un := fun h => Nat.lt_irrefl _ (Nat.lt_trans (Nat.lt_succ_self _) (b2 _ h))
      obtain ⟨P1, S1, D1, s1', f1, gg1⟩ := ZC.draws I2 hqx n1 (a1 _ _ h1) (A := X.A.in1.in1.in1) (I.ok.hd hc)
      obtain ⟨P2, S2, D2, s2', f2, gg2⟩ := ZC.draws I2 hqy n2 (a2 _ _ h2) (A := X.A.in1.in1.in1) (I.ok.hd hc)
      rw [← hlen] at D2
      refine zk_call (s := { s1 with heap := h' }) (I.ok.hd hc) D D1 D2 (fun b hb => ?_) (fun b hb => ?_) hz hz' hTI hTO s1' s2' fun h'' tk acc c as hk2 hS hl hG hacc => ?_
      · show b < h'.objs.size
        rw [hsz]
        rcases List.mem_cons.mp hb with z | z
        · rw [z]; exact Nat.lt_add_of_pos_right (by decide)
        · exact Nat.lt_of_lt_of_le (b1 _ z) (Nat.le_add_right _ _)
      · show b < h'.objs.size
        rw [hsz]
        rcases List.mem_cons.mp hb with z | z
        · rw [z]; exact Nat.add_lt_add_left (by decide) _
        · exact Nat.lt_of_lt_of_le (b2 _ z) (Nat.le_add_right _ _)
      · have hk3 : ∀ b o, s1.heap.get? b = some o → h''.get? b = some o := fun b o e => by
          have lb := Heap.lt_size e
          exact hk2 b o (Nat.ne_of_lt (Nat.lt_of_lt_of_le lb (Nat.le_add_right _ _))) (Nat.ne_of_lt (Nat.lt_of_lt_of_le lb (Nat.le_add_right _ _))) (Nat.ne_of_lt lb) (Nat.ne_of_lt (Nat.lt_of_lt_of_le lb (Nat.le_add_right _ _))) (hk b o e)
        obtain ⟨H', k1, k2, k3, k4, k5, k6, J⟩ := zip_laid (tk := tk) I1 hz hlen gg1 gg2 (show s1.heap.objs.size ≤ h'.objs.size by rw [hsz]; exact Nat.le_add_right _ _) hk3 hS hl hG hacc
        exact ⟨.ref _, H', J, rfl, q H' _ as k1 k2 k3 k4 k5 k6⟩
end
end L2
set_option Elab.async false
set_option linter.all false
set_option maxRecDepth 100000
set_option maxHeartbeats 4000000
/-! defs that are entered where no repr is under way -/
namespace L2
open PySem PySem.Spec PyProof.Rows
/-- a def's promise, where no repr is under way -/
structure FnG (P : Program) (w : World) (K : PySem.W.Frag) (mg : Str → Option Value) (base : Heap) (k : Nat) (f : Addr) (fd : FuncData) (ps : List Str) (sp : Sp) : Prop where
  len : ∀ vs H Q E, sp vs H Q E → vs.length = ps.length
  run : ∀ (A : Around) (outer : List Env) (s : Shared) (H : Hp) (args : Args) (us : List Value) (vs : List V) (Q : VK) (E : XK), A.guards = some [] → Room k A → Env0 P w K mg base A outer s H → BindsTo s fd args (ps.zip us) → Vals vs us → sp vs H Q E →
    codeAny (model P w) A (.call (.ref f) args) (CR CX0 outer P w H s Q E) s
theorem FnG.mono {P : Program} {w : World} {K : PySem.W.Frag} {mg : Str → Option Value} {base : Heap} {j k : Nat} {f : Addr} {fd : FuncData} {ps : List Str} {sp : Sp} (F : FnG P w K mg base j f fd ps sp) (h : j ≤ k) : FnG P w K mg base k f fd ps sp :=
  ⟨F.len, fun A outer s H args us vs Q E hg hr => F.run A outer s H args us vs Q E hg (hr.mono h)⟩
structure HeldG (P : Program) (w : World) (K : PySem.W.Frag) (mg : Str → Option Value) (base : Heap) (k : Nat) (f : Addr) (sp : Sp) : Prop where
  ex : ∃ (fd : FuncData) (ps : List Str), FnG P w K mg base k f fd ps sp ∧ PySem.W.keepIn K (.ref f) = true ∧ Binds K fd ps []
section
variable {X : Cx} {k : Nat} {f : Addr} {sp : Sp} {x : Str} {p pos : Pos} {e : Expr} {es : List Expr} {t : TA}
/-- f(e, ..) of such a def -/
theorem pe_clG (G : HeldG X.prog X.w X.K X.mg X.base k f sp) (hgd : X.A.guards = some []) (hr : Room k X.A) (hm : X.mg x = some (.ref f)) (ha : PA X (e :: es) t) (hg : Gl X x := by rfl)
    (hdb : (x == ("__debug__" : Str)) = false := by decide) (he : starEach (e :: es) X.env = (false, eval e X.env) :: starEach es X.env := by rfl) (hpl : (backTo pos (starEach es X.env)).any (·.1) = false := by rfl) :
    PE X (.Call (.Name x p) (e :: es) [] pos) (tCl sp t) := by
  obtain ⟨fd, ps, F, hk, hb⟩ := G.ex
  refine ⟨fun pins s σ H Q I h => ?_⟩
  refine wpAny_Call_Name_kw (ld_glob I hg hm ?_ hdb)
  refine PySem.W.callWith_K (h₀ := X.base) I.ok.mod.kin hk (thn (ha.run pos pins s σ H _ I h) fun us s1 ⟨vs, H1, I1, r, q⟩ => ⟨I1.kIn, ?_⟩) he hpl
  have hl : us.length = ps.length := by rw [← r.length]; exact F.len _ _ _ _ q
  have hbd := hb s1 us I1.kIn (by rw [List.append_nil]; exact hl)
  rw [List.append_nil] at hbd
  refine wpAny_call (codeAny_mono (F.run X.A X.stack s1 H1 ⟨us, []⟩ us vs Q E0 hgd hr I1.env0 hbd r q) fun r s' hq => ?_)
  cases r with
  | error z => exact pass0 pins σ H1 s1 z s' I1 hq
  | ok fl =>
    cases fl with
    | ret u => exact I1.after hq
    | next => exact False.elim hq
    | brk => exact False.elim hq
    | cont => exact False.elim hq
end
/-- THE RULE for such a def, by its body -/
theorem FunD.okG {P : Program} {w : World} {K : PySem.W.Frag} {mg : Str → Option Value} {base : Heap} {N ps : List Str} {f : Addr} {fd : FuncData} {nm q : Str} {pa : Arguments} {bd : List Stmt} {sc : Scope} {k : Nat} {sp : Sp}
    (F : FunD K nm q pa bd sc [] [] f fd) (S : FnScope N ps sc) (len : ∀ vs H Q E, sp vs H Q E → vs.length = ps.length)
    (hbody : ∀ (cdv : Value) (A : Around) (outer : List Env) (s : Shared) (H : Hp) (vs : List V) (Q : VK) (E : XK), (A.deeper (envOfC q sc s.heap.objs.size f cdv)).guards = some [] → Room k (A.deeper (envOfC q sc s.heap.objs.size f cdv)) → sp vs H Q E →
      ∃ t, PSs (cxOf CX0 P w K mg base N q sc f cdv A outer s H E).nox bd t ∧ t { nx := fun _ H' => Q .non H', rt := Q } (start N vs) H) : FnG P w K mg base (k + 1) f fd ps sp := by
  refine ⟨len, fun A outer s H args us vs Q E hgd hr e0 hbd r hsp => ?_⟩
  obtain ⟨oc, od, dV, kV, doc, pm, an, cdv, ct, osl, rfl, lk, hcd, _, _⟩ := F.ex
  have lim : s.heap.NoLimit := e0.mod.nolimit.keeps fun b o e => (e0.bs b o e).1
  have KX : K.In s.heap := e0.mod.kin.keeps fun b o e => (e0.bs b o e).1
  have kinds : ∀ y ∈ ps.zip us, sc.names.lookup y.1 = some .local ∨ (sc.names.lookup y.1 = some .cell ∧ ((cellsFrom (s.heap.objs.size + 1) sc.names []).lookup y.1).isSome = true) := fun ⟨n, v⟩ hy => by
    rcases S.par n (List.of_mem_zip hy).1 with h | h
    · exact .inl h
    · exact .inr ⟨h, PySem.W.cellsFrom_some _ _ _ (.inl h)⟩
  refine codeAny_call_function hr.depth (KX _ _ lk) rfl S.co S.gen rfl (PySem.W.codeRec_of KX hcd) (hbd _ _ _ _ ?_)
  refine wpAny_newFunctionEnv_cells S.kind kinds fun env he s1 x => ?_
  subst he
  refine ⟨lim.keeps x.toInCall.keep, codeAny_func ?_⟩
  obtain ⟨t, h1, hq⟩ := hbody cdv A outer s H vs Q E hgd (hr.deeper _) hsp
  have ht := h1.nox
  have I : Inv (cxOf CX0 P w K mg base N q sc f cdv A outer s H E) [] (start N vs) H s1 := inv_start S hr.hd e0 (len _ _ _ _ hsp) r x
  refine wpAny_mono (ht.run [] s1 (start N vs) H _ I hq) (fun fl s' hs => ?_) fun e s' hs => hs
  cases fl with
  | ret u =>
    obtain ⟨v, σ', H', J, rv, z⟩ := hs
    exact ⟨v, H', J.os, J.bare, J.base, J.hok, rv, z⟩
  | next =>
    obtain ⟨σ', H', J, z⟩ := hs
    exact ⟨.non, H', J.os, J.bare, J.base, J.hok, rfl, z⟩
  | brk =>
    obtain ⟨_, _, _, z⟩ := hs
    exact False.elim z
  | cont =>
    obtain ⟨_, _, _, z⟩ := hs
    exact False.elim z
theorem FunD.heldG {P : Program} {w : World} {K : PySem.W.Frag} {mg : Str → Option Value} {base : Heap} {N ps : List Str} {f : Addr} {nm q : Str} {pa : Arguments} {bd : List Stmt} {sc : Scope} {k : Nat} {sp : Sp}
    (F : ∃ fd, FunD K nm q pa bd sc [] [] f fd) (S : FnScope N ps sc)
    (hb : ∀ (kV doc pm : Value) (an : Option Addr) (cdv ct : Value) (us : List Value), us.length = ps.length → bindArgs (PySem.W.fnOf nm q pa bd sc .none kV doc pm an cdv ct) ⟨us, []⟩ = pure (ps.zip us))
    (len : ∀ vs H Q E, sp vs H Q E → vs.length = ps.length)
    (hbody : ∀ (fd : FuncData) (cdv : Value) (A : Around) (outer : List Env) (s : Shared) (H : Hp) (vs : List V) (Q : VK) (E : XK), (A.deeper (envOfC q sc s.heap.objs.size f cdv)).guards = some [] → Room k (A.deeper (envOfC q sc s.heap.objs.size f cdv)) → sp vs H Q E →
      ∃ t, PSs (cxOf CX0 P w K mg base N q sc f cdv A outer s H E).nox bd t ∧ t { nx := fun _ H' => Q .non H', rt := Q } (start N vs) H) : HeldG P w K mg base (k + 1) f sp := by
  obtain ⟨fd, F⟩ := F
  exact ⟨fd, ps, FunD.okG F S len fun cdv A outer s H vs Q E hgd hr h => hbody fd cdv A outer s H vs Q E hgd hr h, F.kp, F.bindsN hb⟩
end L2
set_option Elab.async false
set_option linter.all false
set_option maxRecDepth 100000
set_option maxHeartbeats 4000000
/-! sorted(set(l)) of a list of rising ints, any number below 4000 -/
namespace L2
open PySem PySem.Spec PyProof.Rows
theorem rise_ext : ∀ (l m : List Int), l.Pairwise (· < ·) → m.Pairwise (· < ·) → (∀ k, k ∈ l ↔ k ∈ m) → l = m
  | [], [], _, _, _ => rfl
  | [], y :: m, _, _, h => absurd ((h y).mpr List.mem_cons_self) (by simp)
  | x :: l, [], _, _, h => absurd ((h x).mp List.mem_cons_self) (by simp)
  | x :: l, y :: m, hl, hm, h => by
    obtain ⟨l1, l2⟩ := List.pairwise_cons.mp hl
    obtain ⟨m1, m2⟩ := List.pairwise_cons.mp hm
    have e : x = y := by
      rcases List.mem_cons.mp ((h x).mp List.mem_cons_self) with a | a
      · exact a
      · rcases List.mem_cons.mp ((h y).mpr List.mem_cons_self) with b | b
        · exact b.symm
        · have := m1 x a
          have := l1 y b
          omega
    subst e
    rw [rise_ext l m l2 m2 fun k => ?_]
    constructor
    · intro hk
      rcases List.mem_cons.mp ((h k).mp (List.mem_cons_of_mem _ hk)) with a | a
      · have := l1 k hk
        omega
      · exact a
    · intro hk
      rcases List.mem_cons.mp ((h k).mpr (List.mem_cons_of_mem _ hk)) with a | a
      · have := m1 k hk
        omega
      · exact a
section
variable {P : Program} {w : World} {A : Around} {E : Value → Shared → Prop} {s : Shared} {a : Addr}
abbrev freshSet (w : World) : Obj := { cls := .type "set", dict := none, data := .set #[] 0 (.fresh 0 0 (!w.params.followText "set-order")) }
set_option maxHeartbeats 3200000 in
theorem set_of_list {l : Addr} {items : Array Value} (ns : List Int) {Q : Value → Shared → Prop} (hh : A.handled = none) (hl : s.heap.IsList l items) (hit : IntsAre items.toList ns) (hb : ns.length + 1 < scanBound)
    (h : ∀ (h' : Heap) (tk c : Nat), SetR w h' s.heap.objs.size (fun j => decide (j ∈ ns)) c → c ≤ ns.length → (∀ b o, s.heap.get? b = some o → h'.get? b = some o) → Q (.ref s.heap.objs.size) { s with heap := h', toks := tk }) :
    wpAny (model P w) A (call (.type "set") [.ref l]) Q E s := by
  have hisz : items.size = ns.length := by
    have q := IntsAre.length hit
    rw [Array.length_toList] at q
    exact q
  obtain ⟨c, tl, hmro⟩ := F.called_set.mro
  have hmade := F.called_set.made
  have hsub := F.called_set.sub
  refine wpAny_call (codeAny_of_tree ?_)
  show wpAny _ _ (callAny (.type "set") _) _ _ _
  refine wpAny_pure ⟨Code.quiet_builtin _ (by decide +kernel), codeAny_builtin F.entry_type_call ?_⟩
  rw [Around.under_plain (weight_type_call_type "set" [.ref l] []) rfl]
  have h1 := F.called_set.notType
  have h2 := F.called_set.canCreate
  have hct := F.typeCall_set_1 (.ref l)
  repeat (any_goals (first | assumption | wp_step))
  refine codeAny_mono (code_set_led1 (.ref l) (E := E) (Q₁ := fun obj s₁ => obj = .ref s.heap.objs.size ∧ s₁ = { s with heap := s.heap.push (freshSet w) }) ⟨rfl, rfl⟩) fun r s₁ hr => ?_
  cases r with
  | error e => exact hr
  | ok fl =>
    cases fl with
    | ret obj =>
      obtain ⟨rfl, rfl⟩ := hr
      have hS : (s.heap.push (freshSet w)).get? s.heap.objs.size = some (freshSet w) := Heap.get?_push_size _ rfl
      have hT : Shared.TypeIs { s with heap := s.heap.push (freshSet w) } (.ref s.heap.objs.size) "set" := ⟨_, hS, rfl⟩
      have hli := F.called_set.init.lookup
      have hbi := F.called_set.init.bind (.ref s.heap.objs.size)
      repeat (any_goals (first | assumption | wp_step))
      refine codeAny_mono (codeAny_call_builtin (R := wants (fun r s₂ => r = .none ∧ ∃ h' tk c, s₂ = { s with heap := h', toks := tk } ∧ SetR w h' s.heap.objs.size (fun j => decide (j ∈ ns)) c ∧ c ≤ ns.length ∧
          (∀ b o, s.heap.get? b = some o → h'.get? b = some o)) E) F.called_set.init.plain F.entry_set_init (check_set_init_1 hT ?_)) fun r₂ s₂ hr₂ => ?_
      · obtain ⟨ol, hol, hcl, nl, hdl⟩ := hl
        obtain ⟨ocls, odict, odata, oslots⟩ := ol
        simp only at hcl hdl
        subst hcl; subst hdl
        have hol' : (s.heap.push (freshSet w)).get? l = some { cls := .type "list", dict := odict, data := .seq items nl, slots := oslots } := Heap.get?_push_of_some _ hol
        have hsls := F.sub_list_set
        have hslf := F.sub_list_frozenset
        have hne : (Value.type "list" == Value.type "dict") = false := by decide
        have hl1 : (s.heap.push (freshSet w)).IsList l items := ⟨_, hol', rfl, nl, rfl⟩
        unfold Builtin.«set.__init__» noKeywords Builtin.Frozenset.updateFrom
        generalize hPI : pyIter = PI
        wp_walk
        subst hPI
        refine wpAny_pyIter_list hl1 ?_
        refine wpAny_bind (wpAny_runValue ?_)
        have hlS : l < s.heap.objs.size := Heap.lt_size hol
        have hh3 : A.in1.in1.in1.handled = none := by simp [hh]
        have hneI : l ≠ (s.heap.push (freshSet w)).objs.size := by
          rw [Heap.size_push]; exact Nat.ne_of_lt (Nat.lt_succ_of_lt hlS)
        have hSf : s.heap.objs.size ∉ [(s.heap.push (freshSet w)).objs.size, l] := by
          rw [Heap.size_push]; simp only [List.mem_cons, List.mem_singleton, List.not_mem_nil, or_false, not_or]
          exact ⟨Nat.ne_of_lt (Nat.lt_succ_self _), Nat.ne_of_gt hlS⟩
        have hval : ∀ (i : Nat) (v : Value), items[i]? = some v → ∃ k t, ns[i]? = some k ∧ v = .int k t := fun i v hv => by
          have hi : i < ns.length := by rw [← hisz]; exact (Array.getElem?_eq_some_iff.mp hv).1
          obtain ⟨t, e⟩ := PyProof.Rows.IntsAre.int_at hit i v (by rw [Array.getElem?_toList]; exact hv)
          refine ⟨ns[i], t, List.getElem?_eq_getElem hi, ?_⟩
          rw [e, List.getD_eq_getElem?_getD, List.getElem?_eq_getElem hi] <;> rfl
        refine set_update_ints ((Walks.list hh3 _ l hneI items).toS) s.heap.objs.size
          hSf ns hisz hb hval (items.size - 0) 0 _ (by omega) (Nat.zero_le _)
          ⟨⟨_, Heap.get?_push_size _ rfl, rfl, rfl⟩, (hl1.push _)⟩ ?hS0 ?hR
        case hS0 =>
          have hget : ((s.heap.push (freshSet w)).push { cls := .type "list_iterator", data := .fields #[.ref l, .int 0 0] }).get? s.heap.objs.size = some (freshSet w) := Heap.get?_push_of_some _ hS
          exact ⟨0, Nat.le_refl 0, setR_new_at hget⟩
        case hR =>
          intro s' c' hm hc' hS'
          obtain ⟨h', g2, d', tk', os'⟩ := s'
          have eg : g2 = s.gens := hm.gens
          have ed : d' = s.drawn := hm.drawn
          have eo : os' = s.os := hm.os
          subst eg; subst ed; subst eo
          show wpAny _ _ _ _ _ _
          refine wpAny_pure ?_
          show wpAny _ _ (ret Value.none) _ _ _
          rw [hisz] at hc'
          refine wpAny_pure ⟨rfl, h', tk', c', rfl, hS', hc', fun b o e => ?_⟩
          have hb0 : b < s.heap.objs.size := Heap.lt_size e
          have hb1 : b ≠ s.heap.objs.size := Nat.ne_of_lt hb0
          have hb2 : b ≠ (s.heap.push (freshSet w)).objs.size := by
            rw [Heap.size_push]; exact Nat.ne_of_lt (Nat.lt_succ_of_lt hb0)
          exact hm.heap b o (by simp only [List.mem_cons, List.mem_singleton, List.not_mem_nil, or_false, not_or]; exact ⟨hb1, hb2⟩) (Heap.get?_push_of_some _ (Heap.get?_push_of_some _ e))
      · cases r₂ with
        | error e => exact hr₂
        | ok fl₂ =>
          cases fl₂ with
          | ret r =>
            obtain ⟨rfl, h', tk, c', rfl, hS', hc', hk'⟩ := hr₂
            repeat (any_goals (first | assumption | wp_step))
            exact h _ _ _ hS' hc' hk'
          | _ => exact hr₂.elim
    | _ => exact hr.elim
/-- sorted of a set of ints, any number of them -/
theorem sorted_setN {S : Int → Bool} {n : Nat} {Q : Value → Shared → Prop} (R : SetR w s.heap a S n) (hh : A.handled = none)
    (hQ : ∀ s' p (out : List Value) (c : Nat) (ns : List Int), (∀ b o, s.heap.get? b = some o → s'.heap.get? b = some o) → s'.gens = s.gens → s'.os = s.os → s.heap.objs.size ≤ p →
      s'.heap.get? p = some (seqObj "list" out.toArray c) → IntsAre out ns → ns.Pairwise (· < ·) → (∀ k, k ∈ ns ↔ S k = true) → Q (.ref p) s') :
    wpAny (model P w) A (call (.builtin "sorted") [.ref a]) Q E s := by
  obtain ⟨o, es, ep, t, ho, hex, hd, g, nd, hm, hb, hf, hn, hr, hl⟩ := R
  refine Calls.call_function_entry kind_sorted plain_sorted entry_sorted (args_sorted1 _) ?_
  unfold Builtin.«sorted»
  refine wpAny_bind (m := checkCount "sorted" 1 1 _) (wpAny_pure ?_)
  refine wpAny_bind (collect_set (A := A.in1) hh ⟨o, ho, hex.1, hd⟩ hf hb hr hl fun s1 vs k1 hz g1 o1 pm => ?_)
  have hvl : vs.length ≤ sizeLine := by
    rw [pm.length_eq, List.length_map, Array.length_toList, sizeLine_eq]
    unfold scanBound at hb
    omega
  have hI : IntsAre vs (vs.map Builtin.Re.reRawOf) := ints_of vs fun v hv => by
    obtain ⟨e, he, q⟩ := List.mem_map.mp (pm.mem_iff.mp hv)
    obtain ⟨k, tk, h1, _⟩ := g e he
    exact ⟨k, tk, by rw [← q]; exact h1⟩
  have pk : (vs.map Builtin.Re.reRawOf).Perm (es.toList.map keyOf) := by
    have q := pm.map Builtin.Re.reRawOf
    rw [List.map_map] at q
    exact q
  refine wpAny_bind (wpAny_newList ?_ (by simpa using hvl))
  have hoL : (s1.heap.push (seqObj "list" vs.toArray 0)).get? s1.heap.objs.size = some (seqObj "list" vs.toArray 0) := Heap.get?_push_size _ rfl
  refine wpAny_bind (wpAny_holding (wpAny_call_entry slot_list_sort ⟨_, hoL, rfl⟩ entry_list_sort (SrtO.list_sort_ord SrtO.swo_int hoL hvl (fun h2 => SrtO.ints_sortable hI h2) fun out q1 q2 => ⟨_, rfl, ?_⟩) (args_list_sort _)))
  obtain ⟨a1, a2, a3⟩ := SrtO.ints_out hI q1 q2
  obtain ⟨c, hc⟩ := sortedHeap_at (vs := vs) (out := out.toArray) hoL
  have pn : (out.map SrtO.iv).Perm (es.toList.map keyOf) := a2.trans pk
  refine wpAny_pure ⟨_, rfl, hQ _ s1.heap.objs.size out c (out.map SrtO.iv) (fun b u e => ?_) g1 o1 hz hc a1 (lt_of_le_nodup _ a3 (pn.nodup_iff.mpr nd)) fun k => by rw [pn.mem_iff, ← hm k]⟩
  have q := k1 b u e
  have hlt := Heap.lt_size q
  show (sortedHeap (s1.heap.push (seqObj "list" vs.toArray 0)) s1.heap.objs.size vs out.toArray).get? b = some u
  rw [sortedHeap_old (Nat.ne_of_lt hlt) (by rw [size_push']; exact Nat.lt_succ_of_lt hlt)]
  exact Heap.get?_push_of_some _ q
end
section
variable {X : Cx}
def tSortedSet (K : PySem.W.Frag) (ta : TE) : TE := fun σ H Q => ta σ H fun x H1 => ∃ (l : Addr) (ns : List Int), x = V.ref l ∧ SqL K H1 l (ns.map V.int) ∧ ns.length ≤ 4000 ∧ ns.Pairwise (· < ·) ∧ ∀ p, H1 p = none → Q (.ref p) (upd H1 p (.lst (ns.map V.int)))
theorem pe_sortedSet {a : Expr} {ta : TE} {p p2 q pos : Pos} (hc : X.calm = true) (hg : Gl X "sorted") (hm : X.mg "sorted" = none) (hv : bootBuiltins "sorted" = some (.builtin "sorted")) (hg2 : Gl X "set") (hm2 : X.mg "set" = none) (ha : PE X a ta)
    (na : starEach [a] X.env = (false, eval a X.env) :: starEach [] X.env := by rfl) : PE X (.Call (.Name "sorted" p) [.Call (.Name "set" p2) [a] [] q] [] pos) (tSortedSet X.K ta) := by
  refine ⟨fun pins s σ H Q I h => ?_⟩
  refine Call_ (ld_blt I hg hm hv ?_)
  refine PyProof.Rows.callWith_builtin1 (PyProof.Rows.args_cons ?_ rfl) rfl rfl
  refine Call_ (ld_blt I hg2 hm2 PyProof.Rows.boot_set ?_)
  refine PyProof.Rows.callWith_type1 (PyProof.Rows.args_cons (thn (ha.run pins s σ H _ I h) fun v s1 ⟨x, H1, I1, r1, q1⟩ => PyProof.Rows.args_nil ?_) na) na rfl
  obtain ⟨l, ns, rfl, hq, hl, hris, q1⟩ := q1
  cases r1
  obtain ⟨its, r, pl, hz⟩ := I1.list hq
  refine set_of_list ns (I1.ok.hd hc) pl.isList (by simpa using r.ints) (by unfold scanBound; omega) fun h' tk c R hcn hk => ?_
  refine PyProof.Rows.args_nil ?_
  refine sorted_setN (s := { s1 with heap := h', toks := tk }) R (I1.ok.hd hc) fun s' pp out c' ns' k2 g2 o2 hp hob hI hr' hmem => ?_
  have e : ns' = ns := rise_ext _ _ hr' hris fun k => by rw [hmem k, decide_eq_true_eq]
  subst e
  obtain ⟨hh, g', d', t', os'⟩ := s'
  have k3 : ∀ b o, s1.heap.get? b = some o → hh.get? b = some o := fun b o e => k2 b o (hk b o e)
  have hsz : s1.heap.objs.size ≤ pp := Nat.le_trans (Nat.le_of_lt (SetR.lt R)) hp
  have hnone : H1 pp = none := I1.hok.fresh hsz
  have hlen : (ns'.map V.int).length ≤ sizeLine := by rw [List.length_map, sizeLine_eq]; omega
  exact ⟨.ref pp, upd H1 pp (.lst (ns'.map V.int)), I1.call' (ch := []) o2 (Un.laid k3 hsz hnone) (I1.hok.laid k3 hsz ⟨hlen, out, c', vals_of_ints hI, hob⟩) (by rw [g2]; exact I1.bare) (fun _ z => nomatch z), rfl, q1 pp hnone⟩
end
end L2
set_option Elab.async false
set_option linter.all false
set_option maxRecDepth 100000
set_option maxHeartbeats 4000000
/-! the law's call, where no repr is under way -/
namespace L2
open PySem PySem.Spec PyProof.Rows
theorem law_callG {P : Program} {w : World} {K : PySem.W.Frag} {mg mb : Str → Option Value} {k : Nat} {fa a : Addr} {fd : FuncData} {x : Str} {sp : Sp} {s₁ : Shared} {vs : List Value} {ns : List Int}
    (KX : K.In s₁.heap) (hns : s₁.heap.Ns mainGlobals mg) (hb : s₁.heap.Ns builtinsNs mb) (hbb : ∀ x : Str, x ≠ "__name__" → mb x = bootBuiltins x) (hlim : s₁.heap.NoLimit) (hg : s₁.gens = #[])
    (ha : s₁.heap.get? a = some { cls := .type "list", data := .seq vs.toArray }) (hi : IntsAre vs ns) (hl : ns.length ≤ sizeLine) (hr : Room k callerA)
    (F : ∀ base : Heap, K.In base → base.Ns mainGlobals mg → FnG P w K mg base k fa fd [x] sp) (hbind : ∀ (s : Shared) (u : Value), BindsTo s fd ⟨[u], []⟩ [(x, u)])
    (hsp : ∀ H : Hp, Only H → SqL K H a (ns.map V.int) → sp [.ref a] H (fun v _ => v = .bl true) fun _ _ _ => False) :
    codeAny (model P w) callerA (.call (.ref fa) ⟨[.ref a], []⟩) (fun r s' => r = .ok (.ret (.bool true)) ∧ OldK s₁.heap s'.heap ∧ s'.os = s₁.os ∧ AllBare s'.gens) s₁ := by
  have lenV := hi.length
  have rv := vals_ints hi
  -- at any abstract heap that tracks the script at most
  have main : ∀ H : Hp, Only H → SqL K H a (ns.map V.int) → HOk P w H s₁.heap → (∀ b, H b ≠ none → b = a) → (H a ≠ none → K.lookup a = none) →
      codeAny (model P w) callerA (.call (.ref fa) ⟨[.ref a], []⟩) (fun r s' => r = .ok (.ret (.bool true)) ∧ OldK s₁.heap s'.heap ∧ s'.os = s₁.os ∧ AllBare s'.gens) s₁ := by
    intro H hO hS hok hA hK
    have away : ∀ {b : Addr} {o : Obj} {es : Array DictEntry} {ep : Nat}, s₁.heap.get? b = some o → o.data = .dict es ep → H b = none := fun {b o es ep} e d => by
      cases q : H b with
      | none => rfl
      | some u =>
        obtain rfl : b = a := hA b (by rw [q]; simp)
        rw [ha] at e; cases e
        have d' : Data.seq vs.toArray _ = Data.dict es ep := d
        cases d'
    have space : ∀ {b : Addr} {m : Str → Option Value}, s₁.heap.Ns b m → (hidT s₁.heap H).Ns b m := fun {b m} ⟨o, es, ep, e, d, r⟩ => ⟨o, es, ep, hidT_get e (away e d), d, r⟩
    have inK : K.In (hidT s₁.heap H) := fun b o e => hidT_get (KX b o e) (by
      cases q : H b with
      | none => rfl
      | some u =>
        obtain rfl : b = a := hA b (by rw [q]; simp)
        rw [hK (by rw [q]; simp)] at e; cases e)
    obtain ⟨mc, l1, l2⟩ := hlim
    have M : Mod K mg (hidT s₁.heap H) := ⟨inK, space hns, ⟨mb, space hb, hbb⟩, ⟨mc, space l1, l2⟩⟩
    have e0 : Env0 P w K mg (hidT s₁.heap H) callerA [] s₁ H := ⟨rfl, M, fun b o e => of_hidT e, Nat.le_of_eq (hidT_size _ _), trivial, fun b z => absurd (show b ∈ ([] : List Addr) from z) (by simp), hok, .of_eq hg⟩
    refine codeAny_mono ((F _ inK (space hns)).run callerA [] s₁ H ⟨[.ref a], []⟩ [.ref a] [.ref a] _ _ rfl hr e0 (hbind s₁ (.ref a)) (.cons rfl .nil) (hsp H hO hS)) fun r s' h => ?_
    cases r with
    | error e => exact False.elim h
    | ok fl =>
      cases fl with
      | next => exact False.elim h
      | brk => exact False.elim h
      | cont => exact False.elim h
      | ret u =>
        obtain ⟨v, H', os, bare, un, hok', r', q⟩ := h
        obtain rfl : v = .bl true := q
        obtain rfl : u = Value.bool true := r'
        refine ⟨rfl, OldK.of_keep fun b o e => ?_, os, bare⟩
        cases q : H b with
        | none => exact un.keep b o e q (by intro z; exact absurd (show b ∈ ([] : List Addr) from z) (by simp)) (by simp)
        | some u =>
          rcases hO b with z | ⟨ob, xs, z⟩
          · rw [q] at z; cases z
          · obtain ⟨e1, _⟩ := hok b _ z
            obtain ⟨e2, _⟩ := hok' b _ (un.frzs b ob _ z)
            rw [e] at e1; cases e1
            exact e2
  cases hk : K.lookup a with
  | some o =>
    have e := KX a o hk
    rw [ha] at e
    cases e
    exact main (fun _ => none) (fun _ => .inl rfl) (.inr ⟨_, vs.toArray, _, hk, rfl, rfl, rfl, by rw [List.size_toArray, lenV]; exact hl, by simpa using rv⟩) (fun b u z => by have z' : (none : Option HO) = some u := z; cases z') (fun b z => absurd rfl z) fun z => absurd rfl z
  | none =>
    refine main (fun b => if b = a then some (.frz { cls := .type "list", data := .seq vs.toArray } (.lst (ns.map V.int))) else none) (fun b => ?_) (.inl (.inr ⟨{ cls := .type "list", data := .seq vs.toArray }, if_pos rfl⟩)) (fun b u z => ?_) (fun b z => ?_) fun _ => hk
    · by_cases hb : b = a
      · exact .inr ⟨_, _, if_pos hb⟩
      · exact .inl (if_neg hb)
    · by_cases hb : b = a
      · have z' := (if_pos hb).symm.trans z
        cases z'
        subst hb
        exact ⟨ha, by rw [List.length_map]; exact hl, vs, _, rv, ha⟩
      · have z' := (if_neg hb).symm.trans z
        cases z'
    · by_cases hb : b = a
      · exact hb
      · exact absurd (if_neg hb) z
/-- the head's end for a law that asks for a repr -/
theorem walk_ofG {l : PySem.W.OpenLaw} {n k : Nat} {q : Program} {loose : List Str} {XP : (Str → Option Value) → Heap → Prop} {YP : World → Heap → Prop} {d : DefRec} {x : Str}
    (hn : l.most = some n) (hn2 : n ≤ sizeLine) (hdf : d.params.defaults = []) (hr : Room k callerA)
    (F : ∀ (w : World) (mg : Str → Option Value) (fa : Addr) (h : Heap), YP w h → h.Ns mainGlobals mg → mg d.name = some (.ref fa) →
      ∃ (K : PySem.W.Frag) (fd : FuncData) (sp : Sp), K.In h ∧ (∀ (s : Shared) (u : Value), BindsTo s fd ⟨[u], []⟩ [(x, u)]) ∧
        (∀ (H : Hp) (a : Addr) (ns : List Int), ns.length ≤ n → Only H → SqL K H a (ns.map V.int) → sp [.ref a] H (fun v _ => v = .bl true) fun _ _ _ => False) ∧
        ∀ base : Heap, K.In base → base.Ns mainGlobals mg → FnG l.prog w K mg base k fa fd [x] sp) :
    PySem.W.WalkO q loose XP YP l.row.toRowW d [] (fun f vs => PySem.call f vs) := by
  refine Att.attach_call hn hdf fun w s₀ s₁ mg mb fa o pm cd doc a vs ns G Y ho hd hcd hmg hobj hints hlen hg => ?_
  obtain ⟨K, fd, sp, KX, hb, hsp, hF⟩ := F w mg fa _ Y G.T.g hmg
  exact law_callG KX G.T.g G.T.b G.T.builtins G.T.nolimit hg hobj hints (Nat.le_trans hlen hn2) hr hF hb (fun H hO hS => hsp H a ns hlen hO hS)
end L2
set_option Elab.async false
set_option linter.all false
set_option maxRecDepth 100000
set_option maxHeartbeats 4000000
/-! a def with a promise for each i -/
namespace L2
open PySem PySem.Spec PyProof.Rows
section
variable {X : Cx} {k : Nat} {f : Addr} {ι : Type} {sp : ι → Sp} {x : Str} {p pos : Pos} {e : Expr} {es : List Expr} {t : TA}
def anyS {ι : Type} (sp : ι → Sp) : Sp := fun vs H Q E => ∃ i, sp i vs H Q E
theorem pe_clU [hi : Inhabited ι] (G : ∀ i, Held X.prog X.w X.K X.mg X.base k f (sp i)) (hr : Room k X.A) (hm : X.mg x = some (.ref f)) (ha : PA X (e :: es) t) (hg : Gl X x := by rfl)
    (hdb : (x == ("__debug__" : Str)) = false := by decide) (he : starEach (e :: es) X.env = (false, eval e X.env) :: starEach es X.env := by rfl) (hpl : (backTo pos (starEach es X.env)).any (·.1) = false := by rfl) :
    PE X (.Call (.Name x p) (e :: es) [] pos) (tCl (anyS sp) t) := by
  obtain ⟨_, _, _, hk, _⟩ := (G hi.default).ex
  refine ⟨fun pins s σ H Q I h => ?_⟩
  refine wpAny_Call_Name_kw (ld_glob I hg hm ?_ hdb)
  refine PySem.W.callWith_K (h₀ := X.base) I.ok.mod.kin hk (thn (ha.run pos pins s σ H _ I h) fun us s1 ⟨vs, H1, I1, r, q⟩ => ⟨I1.kIn, ?_⟩) he hpl
  obtain ⟨i, q⟩ := q
  obtain ⟨fd, ps, F, _, hb⟩ := (G i).ex
  exact run_fn (dvs := []) (ds := []) (E := E0) F hr hb .nil pass0 I1 r (by rw [List.append_nil]; exact q)
end
end L2
set_option Elab.async false
set_option linter.all false
set_option maxRecDepth 100000
set_option maxHeartbeats 4000000
/-! what is placed: few plain signs, low forms; how long it is when shown -/
namespace WS
open PySem L2 PyProof.Rows
/-- a text of few plain signs -/
def Tex (x : Str) : Prop := x.length ≤ 16 ∧ ∀ c ∈ x.cps.toList, c < 128
def Fit : Term → Prop
  | .number n => n.natAbs < 10 ^ 31
  | .txt x => Tex x
  | .name x => Tex x
  | .deed x A e => Tex x ∧ A.height ≤ 5 ∧ Fit e
  | .call f e => Fit f ∧ Fit e
  | .lets x e f => Tex x ∧ Fit e ∧ Fit f
  | .tell A e => A.height ≤ 5 ∧ Fit e
  | .ite c e f => Fit c ∧ Fit e ∧ Fit f
  | .sum _ e f => Fit e ∧ Fit f
  | .size e => Fit e
  | .box A e => A.height ≤ 5 ∧ Fit e
  | .read e => Fit e
  | .write e f => Fit e ∧ Fit f
  | .same e f => Fit e ∧ Fit f
  | .wall m A B e => Tex m ∧ A.height ≤ 5 ∧ B.height ≤ 5 ∧ Fit e
theorem letters_tx {x : Str} (h : letters x) (hl : x.length ≤ 8) : Tex x := ⟨by omega, fun c hc => by
  have := h c hc
  unfold letter at this
  omega⟩
theorem name_tx {x : Str} (h : IsName x) : Tex x := letters_tx h.abc h.le
theorem wr_fit : ∀ t, Wr t → Fit t
  | .number _, h => h
  | .txt _, h => letters_tx h.2 h.1
  | .name _, h => name_tx h
  | .deed _ _ e, h => ⟨name_tx h.1, h.2.1, wr_fit e h.2.2⟩
  | .call f e, h => ⟨wr_fit f h.1, wr_fit e h.2⟩
  | .lets _ e f, h => ⟨name_tx h.1, wr_fit e h.2.1, wr_fit f h.2.2⟩
  | .tell _ e, h => ⟨h.1, wr_fit e h.2⟩
  | .ite c e f, h => ⟨wr_fit c h.1, wr_fit e h.2.1, wr_fit f h.2.2⟩
  | .sum _ e f, h => ⟨wr_fit e h.1, wr_fit f h.2⟩
  | .size e, h => wr_fit e h
  | .box _ e, h => ⟨h.1, wr_fit e h.2⟩
  | .read e, h => wr_fit e h
  | .write e f, h => ⟨wr_fit e h.1, wr_fit f h.2⟩
  | .same e f, h => ⟨wr_fit e h.1, wr_fit f h.2⟩
  | .wall _ _ _ _, h => h.elim
/-- what stands ahead of a mark's point -/
def Ah (a : Str) : Prop := a.length ≤ 8 ∧ ∀ c ∈ a.cps.toList, c < 128
theorem mk_tx {a : Str} (ha : Ah a) {n : Nat} (hn : n ≤ 200000) : Tex (mk a n) := by
  have hl := mark_len hn
  refine ⟨?_, fun c hc => ?_⟩
  · have h1 := ha.1
    have e : (mk a n).length = a.length + ("." : Str).length + (Str.ofString (toString ((n : Nat) : Int))).length := by
      unfold mk
      rw [Str.length_append, Str.length_append]
    have e1 : ("." : Str).length = 1 := by decide
    omega
  · unfold mk at hc
    rw [Str.cps_append, Array.toList_append, Str.cps_append, Array.toList_append, List.mem_append, List.mem_append] at hc
    rcases hc with (h | h) | h
    · exact ha.2 c h
    · have : ∀ c ∈ ("." : Str).cps.toList, c < 128 := by decide
      exact this c h
    · rcases Nat.lt_or_ge c 128 with q | q
      · exact q
      · exact absurd h (int_text_free' c ⟨by omega, by omega⟩ _)
theorem fit_fence {m : Str} {A B : Form} {t : Term} (hm : Tex m) (hA : A.height ≤ 5) (hB : B.height ≤ 5) (ht : Fit t) : Fit (fence m A B t) := by
  unfold fence
  split
  · exact ht
  · exact ⟨hm, hA, hB, ht⟩
theorem wideD_hi {F : Form} (hF : F.height ≤ 5) (h : (asDeed F).isSome = true) : (Form.deed (dom F) (cod F)).height ≤ 5 := by
  rcases asDeed_eq h with ⟨e0, e1, e2⟩ | e
  · rw [e1, e2]
    decide
  · rw [← e]; exact hF
theorem wideB_hi {F : Form} (hF : F.height ≤ 5) (h : (asBox F).isSome = true) : (Form.box (inn F)).height ≤ 5 := by
  rcases asBox_eq h with ⟨e0, e1⟩ | e
  · rw [e1]
    decide
  · rw [← e]; exact hF
theorem in_deed {F : Form} (hF : (Form.deed (dom F) (cod F)).height ≤ 5) : (dom F).height ≤ 5 := by
  have h : 1 + max (dom F).height (cod F).height ≤ 5 := hF
  omega
theorem in_box {F : Form} (hF : (Form.box (inn F)).height ≤ 5) : (inn F).height ≤ 5 := by
  have h : 1 + (inn F).height ≤ 5 := hF
  omega
theorem fit_pl {a : Str} (ha : Ah a) : ∀ (t : Term) (g : Ctx) (n : Nat), Ok g t → Wr t → Low g → n + cnt t ≤ 200000 → Fit (pl a g n t)
  | .number _, _, _, _, h, _, _ => h
  | .txt _, _, _, _, h, _, _ => letters_tx h.2 h.1
  | .name _, _, _, _, h, _, _ => name_tx h
  | .deed x A e, g, n, ok, h, lo, hn => ⟨name_tx h.1, h.2.1, fit_pl ha e _ n ok.1 h.2.2 (lo.snoc h.2.1) hn⟩
  | .call f e, g, n, ok, h, lo, hn => by
    have hn : n + (2 + (cnt f + cnt e)) ≤ 200000 := hn
    have h1 := fo_height f g ok.1 h.1 lo
    have h2 := fo_height e g ok.2.2.1 h.2 lo
    have h3 := wideD_hi h1 ok.2.1
    exact ⟨fit_fence (mk_tx ha (by omega)) h1 h3 (fit_pl ha f g _ ok.1 h.1 lo (by omega)), fit_fence (mk_tx ha (by omega)) h2 (in_deed h3) (fit_pl ha e g _ ok.2.2.1 h.2 lo (by omega))⟩
  | .lets x e f, g, n, ok, h, lo, hn => by
    have hn : n + (cnt e + cnt f) ≤ 200000 := hn
    exact ⟨name_tx h.1, fit_pl ha e g n ok.1 h.2.1 lo (by omega), fit_pl ha f _ _ ok.2 h.2.2 (lo.snoc (fo_height e g ok.1 h.2.1 lo)) (by omega)⟩
  | .tell A e, g, n, ok, h, lo, hn => by
    have hn : n + (1 + cnt e) ≤ 200000 := hn
    exact ⟨h.1, fit_fence (mk_tx ha (by omega)) (fo_height e g ok.1 h.2 lo) h.1 (fit_pl ha e g _ ok.1 h.2 lo (by omega))⟩
  | .ite c e f, g, n, ok, h, lo, hn => by
    have hn : n + (3 + (cnt c + (cnt e + cnt f))) ≤ 200000 := hn
    exact ⟨fit_fence (mk_tx ha (by omega)) (fo_height c g ok.1 h.1 lo) (Nat.zero_le _) (fit_pl ha c g _ ok.1 h.1 lo (by omega)), fit_pl ha e g _ ok.2.2.1 h.2.1 lo (by omega), fit_pl ha f g _ ok.2.2.2.2.1 h.2.2 lo (by omega)⟩
  | .sum s e f, g, n, ok, h, lo, hn => by
    have hn : n + (2 + (cnt e + cnt f)) ≤ 200000 := hn
    exact ⟨fit_fence (mk_tx ha (by omega)) (fo_height e g ok.1 h.1 lo) (Nat.zero_le _) (fit_pl ha e g _ ok.1 h.1 lo (by omega)), fit_fence (mk_tx ha (by omega)) (fo_height f g ok.2.2.1 h.2 lo) (Nat.zero_le _) (fit_pl ha f g _ ok.2.2.1 h.2 lo (by omega))⟩
  | .size e, g, n, ok, h, lo, hn => by
    have hn : n + (1 + cnt e) ≤ 200000 := hn
    exact fit_fence (mk_tx ha (by omega)) (fo_height e g ok.1 h lo) (Nat.zero_le _) (fit_pl ha e g _ ok.1 h lo (by omega))
  | .box A e, g, n, ok, h, lo, hn => by
    have hn : n + (1 + cnt e) ≤ 200000 := hn
    exact ⟨h.1, fit_fence (mk_tx ha (by omega)) (fo_height e g ok.1 h.2 lo) h.1 (fit_pl ha e g _ ok.1 h.2 lo (by omega))⟩
  | .read e, g, n, ok, h, lo, hn => by
    have hn : n + (1 + cnt e) ≤ 200000 := hn
    have h1 := fo_height e g ok.1 h lo
    exact fit_fence (mk_tx ha (by omega)) h1 (wideB_hi h1 ok.2) (fit_pl ha e g _ ok.1 h lo (by omega))
  | .write e f, g, n, ok, h, lo, hn => by
    have hn : n + (2 + (cnt e + cnt f)) ≤ 200000 := hn
    have h1 := fo_height e g ok.1 h.1 lo
    have h3 := wideB_hi h1 ok.2.1
    exact ⟨fit_fence (mk_tx ha (by omega)) h1 h3 (fit_pl ha e g _ ok.1 h.1 lo (by omega)), fit_fence (mk_tx ha (by omega)) (fo_height f g ok.2.2.1 h.2 lo) (in_box h3) (fit_pl ha f g _ ok.2.2.1 h.2 lo (by omega))⟩
  | .same e f, g, n, ok, h, lo, hn => by
    have hn : n + (2 + (cnt e + cnt f)) ≤ 200000 := hn
    have h1 := fo_height e g ok.1 h.1 lo
    have h2 := fo_height f g ok.2.2.1 h.2 lo
    exact ⟨fit_fence (mk_tx ha (by omega)) h1 (wideB_hi h1 ok.2.1) (fit_pl ha e g _ ok.1 h.1 lo (by omega)), fit_fence (mk_tx ha (by omega)) h2 (wideB_hi h2 ok.2.2.2) (fit_pl ha f g _ ok.2.2.1 h.2 lo (by omega))⟩
  | .wall _ _ _ _, _, _, ok, _, _, _ => ok.elim
/-- the walls of such -/
structure WlFit (w : Wl) : Prop where
  tx : Tex w.1
  l : w.2.1.height ≤ 5
  r : w.2.2.height ≤ 5
theorem fit_wl : ∀ t, Fit t → ∀ w ∈ wl t, WlFit w
  | .number _, _, w, hw => by cases hw
  | .txt _, _, w, hw => by cases hw
  | .name _, _, w, hw => by cases hw
  | .deed _ _ e, h, w, hw => fit_wl e h.2.2 w hw
  | .call f e, h, w, hw => by
    rcases List.mem_append.mp (show w ∈ wl f ++ wl e from hw) with q | q
    · exact fit_wl f h.1 w q
    · exact fit_wl e h.2 w q
  | .lets _ e f, h, w, hw => by
    rcases List.mem_append.mp (show w ∈ wl e ++ wl f from hw) with q | q
    · exact fit_wl e h.2.1 w q
    · exact fit_wl f h.2.2 w q
  | .tell _ e, h, w, hw => fit_wl e h.2 w hw
  | .ite c e f, h, w, hw => by
    rcases List.mem_append.mp (show w ∈ wl c ++ (wl e ++ wl f) from hw) with q | q
    · exact fit_wl c h.1 w q
    · rcases List.mem_append.mp q with q | q
      · exact fit_wl e h.2.1 w q
      · exact fit_wl f h.2.2 w q
  | .sum _ e f, h, w, hw => by
    rcases List.mem_append.mp (show w ∈ wl e ++ wl f from hw) with q | q
    · exact fit_wl e h.1 w q
    · exact fit_wl f h.2 w q
  | .size e, h, w, hw => fit_wl e h w hw
  | .box _ e, h, w, hw => fit_wl e h.2 w hw
  | .read e, h, w, hw => fit_wl e h w hw
  | .write e f, h, w, hw => by
    rcases List.mem_append.mp (show w ∈ wl e ++ wl f from hw) with q | q
    · exact fit_wl e h.1 w q
    · exact fit_wl f h.2 w q
  | .same e f, h, w, hw => by
    rcases List.mem_append.mp (show w ∈ wl e ++ wl f from hw) with q | q
    · exact fit_wl e h.1 w q
    · exact fit_wl f h.2 w q
  | .wall m A B e, h, w, hw => by
    rcases List.mem_cons.mp (show w ∈ (m, A, B) :: wl e from hw) with q | q
    · rw [q]
      exact ⟨h.1, h.2.1, h.2.2.1⟩
    · exact fit_wl e h.2.2.2 w q
/-! ### how long it is when shown -/
theorem shownAll_eq : ∀ ds : List PyData, PyData.shownAll ds = ds.map PyData.shown
  | [] => by simp only [PyData.shownAll, List.map_nil]
  | d :: r => by simp only [PyData.shownAll, List.map_cons, shownAll_eq r]
theorem tuple_len (ts : List Str) : (tupleText ts).length ≤ piled ts + 3 := by
  unfold tupleText
  rw [strLen_append, strLen_append]
  have e1 : ((("(" : String) : Str)).length = 1 := rfl
  have e3 : (((if ts.length == 1 then ",)" else ")" : String) : Str)).length ≤ 2 := by split <;> decide
  have e2 : (Str.join ", " ts).length ≤ piled ts := by
    cases ts with
    | nil => exact Nat.le_of_eq (by rfl)
    | cons t r =>
      have := join_length_add (t :: r) (by simp)
      omega
  rw [e1]
  omega
theorem list_len : ∀ ts : List Str, (listText ts).length ≤ piled ts + 2
  | [] => by decide
  | t :: r => by
    have h := textFrom_length_pos r 1 (("[" : Str) ++ (if (0 : Nat) > 0 then ", " else "" : String) ++ t) (Nat.succ_pos 0)
    have e : ((("[" : Str) ++ (if (0 : Nat) > 0 then ", " else "" : String) ++ t)).length = 1 + t.length := by
      rw [strLen_append, strLen_append]; rfl
    have e2 : (("]" : Str)).length = 1 := by decide
    rw [piled_cons]
    show (textFrom 1 (("[" : Str) ++ (if (0 : Nat) > 0 then ", " else "" : String) ++ t) r ++ ("]" : Str)).length ≤ _
    rw [strLen_append, h, e, e2]
    omega
theorem tup_len (ds : List PyData) : (PyData.shown (.tuple ds)).length ≤ piled (ds.map PyData.shown) + 3 := by
  have := tuple_len (PyData.shownAll ds)
  rw [shownAll_eq] at this
  show (tupleText (PyData.shownAll ds)).length ≤ _
  rw [shownAll_eq]
  exact this
theorem lst_len (ds : List PyData) : (PyData.shown (.list ds)).length ≤ piled (ds.map PyData.shown) + 2 := by
  have := list_len (PyData.shownAll ds)
  rw [shownAll_eq] at this
  show (listText (PyData.shownAll ds)).length ≤ _
  rw [shownAll_eq]
  exact this
theorem tx_len {x : Str} (h : Tex x) : (PyData.shown (.str x)).length ≤ 162 := by
  have := PySem.StrLaws.reprText_len x fun c hc => by have := h.2 c hc; omega
  have := h.1
  show (reprText x).length ≤ 162
  omega
theorem hd_tx (t : Term) : (PyData.shown (.str (hdw t))).length ≤ 162 := by
  refine tx_len ?_
  cases t with
  | sum s _ _ => cases s <;> refine ⟨?_, ?_⟩ <;> simp only [hdw, word] <;> decide
  | _ => refine ⟨?_, ?_⟩ <;> simp only [hdw] <;> decide
theorem form_len : ∀ F : Form, (PyData.shown F.d).length + 15 ≤ 21 * 2 ^ F.height
  | .any => by decide +kernel
  | .num => by decide +kernel
  | .text => by decide +kernel
  | .deed a b => by
    have h1 := form_len a
    have h2 := form_len b
    have h := tup_len [.str "deed", a.d, b.d]
    have e : (PyData.shown (.str "deed")).length = 6 := by decide +kernel
    simp only [List.map_cons, List.map_nil, piled_cons, piled_nil, e] at h
    have p1 : 2 ^ a.height ≤ 2 ^ max a.height b.height := Nat.pow_le_pow_right (by decide) (Nat.le_max_left _ _)
    have p2 : 2 ^ b.height ≤ 2 ^ max a.height b.height := Nat.pow_le_pow_right (by decide) (Nat.le_max_right _ _)
    show (PyData.shown (.tuple [.str "deed", a.d, b.d])).length + 15 ≤ 21 * 2 ^ (1 + max a.height b.height)
    rw [Nat.pow_add]
    omega
  | .box a => by
    have h1 := form_len a
    have h := tup_len [.str "box", a.d]
    have e : (PyData.shown (.str "box")).length = 5 := by decide +kernel
    simp only [List.map_cons, List.map_nil, piled_cons, piled_nil, e] at h
    show (PyData.shown (.tuple [.str "box", a.d])).length + 15 ≤ 21 * 2 ^ (1 + a.height)
    rw [Nat.pow_add]
    omega
theorem form_len5 {F : Form} (h : F.height ≤ 5) : (PyData.shown F.d).length ≤ 657 := by
  have h1 := form_len F
  have h2 : 2 ^ F.height ≤ 2 ^ 5 := Nat.pow_le_pow_right (by decide) h
  omega
theorem int_small {n : Int} (h : n.natAbs < 10 ^ 31) : n.natAbs.log2 < 1920 := by
  by_cases e : n.natAbs = 0
  · rw [e]
    decide
  · exact (Nat.log2_lt e).mpr (Nat.lt_of_lt_of_le h (by decide +kernel))
theorem int_len {n : Int} (h : n.natAbs < 10 ^ 31) : (PyData.shown (.int n)).length ≤ 1921 := int_text_len_1921 (int_small h)
theorem term_len : ∀ t, Fit t → (PyData.shown t.d).length + 10 ≤ 2200 * t.sz
  | .number n, f => by
    have h1 := int_len f
    have h0 := hd_tx (.number n)
    have h := tup_len (.str (hdw (.number n)) :: (ars (.number n)).map Ar.d)
    simp only [ars, List.map_cons, List.map_nil, piled_cons, piled_nil] at h
    simp only [Ar.d] at h
    rw [d_ars]
    simp only [Term.sz, ars, List.map_cons, List.map_nil, Ar.d]
    omega
  | .txt x, f => by
    have h1 := tx_len f
    have h0 := hd_tx (.txt x)
    have h := tup_len (.str (hdw (.txt x)) :: (ars (.txt x)).map Ar.d)
    simp only [ars, List.map_cons, List.map_nil, piled_cons, piled_nil] at h
    simp only [Ar.d] at h
    rw [d_ars]
    simp only [Term.sz, ars, List.map_cons, List.map_nil, Ar.d]
    omega
  | .name x, f => by
    have h1 := tx_len f
    have h0 := hd_tx (.name x)
    have h := tup_len (.str (hdw (.name x)) :: (ars (.name x)).map Ar.d)
    simp only [ars, List.map_cons, List.map_nil, piled_cons, piled_nil] at h
    simp only [Ar.d] at h
    rw [d_ars]
    simp only [Term.sz, ars, List.map_cons, List.map_nil, Ar.d]
    omega
  | .deed x A e, f => by
    have h1 := tx_len f.1
    have h2 := form_len5 f.2.1
    have h3 := term_len e f.2.2
    have h0 := hd_tx (.deed x A e)
    have h := tup_len (.str (hdw (.deed x A e)) :: (ars (.deed x A e)).map Ar.d)
    simp only [ars, List.map_cons, List.map_nil, piled_cons, piled_nil] at h
    simp only [Ar.d] at h
    rw [d_ars]
    simp only [Term.sz, ars, List.map_cons, List.map_nil, Ar.d]
    omega
  | .call a e, f => by
    have h2 := term_len a f.1
    have h3 := term_len e f.2
    have h0 := hd_tx (.call a e)
    have h := tup_len (.str (hdw (.call a e)) :: (ars (.call a e)).map Ar.d)
    simp only [ars, List.map_cons, List.map_nil, piled_cons, piled_nil] at h
    simp only [Ar.d] at h
    rw [d_ars]
    simp only [Term.sz, ars, List.map_cons, List.map_nil, Ar.d]
    omega
  | .lets x e a, f => by
    have h1 := tx_len f.1
    have h2 := term_len e f.2.1
    have h3 := term_len a f.2.2
    have h0 := hd_tx (.lets x e a)
    have h := tup_len (.str (hdw (.lets x e a)) :: (ars (.lets x e a)).map Ar.d)
    simp only [ars, List.map_cons, List.map_nil, piled_cons, piled_nil] at h
    simp only [Ar.d] at h
    rw [d_ars]
    simp only [Term.sz, ars, List.map_cons, List.map_nil, Ar.d]
    omega
  | .tell A e, f => by
    have h2 := form_len5 f.1
    have h3 := term_len e f.2
    have h0 := hd_tx (.tell A e)
    have h := tup_len (.str (hdw (.tell A e)) :: (ars (.tell A e)).map Ar.d)
    simp only [ars, List.map_cons, List.map_nil, piled_cons, piled_nil] at h
    simp only [Ar.d] at h
    rw [d_ars]
    simp only [Term.sz, ars, List.map_cons, List.map_nil, Ar.d]
    omega
  | .ite c e a, f => by
    have h1 := term_len c f.1
    have h2 := term_len e f.2.1
    have h3 := term_len a f.2.2
    have h0 := hd_tx (.ite c e a)
    have h := tup_len (.str (hdw (.ite c e a)) :: (ars (.ite c e a)).map Ar.d)
    simp only [ars, List.map_cons, List.map_nil, piled_cons, piled_nil] at h
    simp only [Ar.d] at h
    rw [d_ars]
    simp only [Term.sz, ars, List.map_cons, List.map_nil, Ar.d]
    omega
  | .sum s e a, f => by
    have h2 := term_len e f.1
    have h3 := term_len a f.2
    have h0 := hd_tx (.sum s e a)
    have h := tup_len (.str (hdw (.sum s e a)) :: (ars (.sum s e a)).map Ar.d)
    simp only [ars, List.map_cons, List.map_nil, piled_cons, piled_nil] at h
    simp only [Ar.d] at h
    rw [d_ars]
    simp only [Term.sz, ars, List.map_cons, List.map_nil, Ar.d]
    omega
  | .size e, f => by
    have h2 := term_len e f
    have h0 := hd_tx (.size e)
    have h := tup_len (.str (hdw (.size e)) :: (ars (.size e)).map Ar.d)
    simp only [ars, List.map_cons, List.map_nil, piled_cons, piled_nil] at h
    simp only [Ar.d] at h
    rw [d_ars]
    simp only [Term.sz, ars, List.map_cons, List.map_nil, Ar.d]
    omega
  | .box A e, f => by
    have h2 := form_len5 f.1
    have h3 := term_len e f.2
    have h0 := hd_tx (.box A e)
    have h := tup_len (.str (hdw (.box A e)) :: (ars (.box A e)).map Ar.d)
    simp only [ars, List.map_cons, List.map_nil, piled_cons, piled_nil] at h
    simp only [Ar.d] at h
    rw [d_ars]
    simp only [Term.sz, ars, List.map_cons, List.map_nil, Ar.d]
    omega
  | .read e, f => by
    have h2 := term_len e f
    have h0 := hd_tx (.read e)
    have h := tup_len (.str (hdw (.read e)) :: (ars (.read e)).map Ar.d)
    simp only [ars, List.map_cons, List.map_nil, piled_cons, piled_nil] at h
    simp only [Ar.d] at h
    rw [d_ars]
    simp only [Term.sz, ars, List.map_cons, List.map_nil, Ar.d]
    omega
  | .write e a, f => by
    have h2 := term_len e f.1
    have h3 := term_len a f.2
    have h0 := hd_tx (.write e a)
    have h := tup_len (.str (hdw (.write e a)) :: (ars (.write e a)).map Ar.d)
    simp only [ars, List.map_cons, List.map_nil, piled_cons, piled_nil] at h
    simp only [Ar.d] at h
    rw [d_ars]
    simp only [Term.sz, ars, List.map_cons, List.map_nil, Ar.d]
    omega
  | .same e a, f => by
    have h2 := term_len e f.1
    have h3 := term_len a f.2
    have h0 := hd_tx (.same e a)
    have h := tup_len (.str (hdw (.same e a)) :: (ars (.same e a)).map Ar.d)
    simp only [ars, List.map_cons, List.map_nil, piled_cons, piled_nil] at h
    simp only [Ar.d] at h
    rw [d_ars]
    simp only [Term.sz, ars, List.map_cons, List.map_nil, Ar.d]
    omega
  | .wall m A B e, f => by
    have h1 := tx_len f.1
    have h2 := form_len5 f.2.1
    have h3 := form_len5 f.2.2.1
    have h4 := term_len e f.2.2.2
    have h0 := hd_tx (.wall m A B e)
    have h := tup_len (.str (hdw (.wall m A B e)) :: (ars (.wall m A B e)).map Ar.d)
    simp only [ars, List.map_cons, List.map_nil, piled_cons, piled_nil] at h
    simp only [Ar.d] at h
    rw [d_ars]
    simp only [Term.sz, ars, List.map_cons, List.map_nil, Ar.d]
    omega
/-! ### laid, shown -/
def Ar.fit : Ar → Prop
  | .w n => n.natAbs < 10 ^ 31
  | .l x => Tex x
  | .nm x => Tex x
  | .A F => F.height ≤ 5
  | .e t => Fit t
theorem fit_ars (t : Term) (h : Fit t) : ∀ r ∈ ars t, r.fit := by
  cases t <;> intro r hr <;> simp only [ars, List.mem_cons, List.not_mem_nil, or_false] at hr <;> simp only [Fit] at h
  all_goals first
    | (subst hr; exact h)
    | (rcases hr with rfl | rfl <;> first | exact h.1 | exact h.2)
    | (rcases hr with rfl | rfl | rfl <;> first | exact h.1 | exact h.2.1 | exact h.2.2)
    | (rcases hr with rfl | rfl | rfl | rfl <;> first | exact h.1 | exact h.2.1 | exact h.2.2.1 | exact h.2.2.2)
theorem tx_ok {x : Str} (h : Tex x) : PyData.strOk x = true := by
  unfold PyData.strOk
  rw [Array.all_eq_true]
  intro i hi
  have := h.2 x.cps[i] (Array.getElem_mem_toList hi)
  exact decide_eq_true (by omega)
theorem showAll {ds : List PyData} (h : ∀ d ∈ ds, d.showable = true) : PyData.showableAll ds = true := by
  induction ds with
  | nil => simp only [PyData.showableAll]
  | cons d r ih =>
    simp only [PyData.showableAll]
    rw [h d List.mem_cons_self, ih fun x hx => h x (List.mem_cons_of_mem _ hx)]
    rfl
theorem show_form : ∀ F : Form, F.d.showable = true
  | .any => by decide +kernel
  | .num => by decide +kernel
  | .text => by decide +kernel
  | .deed a b => by
    simp only [Form.d, PyData.showable, PyData.showableAll, show_form a, show_form b]
    rfl
  | .box a => by
    simp only [Form.d, PyData.showable, PyData.showableAll, show_form a]
    rfl
structure DOk (d : PyData) (n : Nat) : Prop where
  lay : d.canLay0 = true
  dp : d.depth ≤ n
  sh : d.showable = true
theorem dok_form {F : Form} (h : F.height ≤ 5) : DOk F.d 6 := ⟨(lay_form F).1, by have := (lay_form F).2; omega, show_form F⟩
theorem dok_tup {ds : List PyData} {n : Nat} (h : ∀ d ∈ ds, DOk d n) : DOk (.tuple ds) (n + 1) where
  lay := by
    simp only [PyData.canLay0]
    exact layAll fun d hd => (h d hd).lay
  dp := by
    simp only [PyData.depth]
    have := depthAll_le fun d hd => (h d hd).dp
    omega
  sh := by
    simp only [PyData.showable]
    exact showAll fun d hd => (h d hd).sh
theorem dok_lst {ds : List PyData} {n : Nat} (h : ∀ d ∈ ds, DOk d n) : DOk (.list ds) (n + 1) where
  lay := by
    simp only [PyData.canLay0]
    exact layAll fun d hd => (h d hd).lay
  dp := by
    simp only [PyData.depth]
    have := depthAll_le fun d hd => (h d hd).dp
    omega
  sh := by
    simp only [PyData.showable]
    exact showAll fun d hd => (h d hd).sh
theorem DOk.mono {d : PyData} {n m : Nat} (h : DOk d n) (e : n ≤ m) : DOk d m := ⟨h.lay, Nat.le_trans h.dp e, h.sh⟩
theorem dok_str {x : Str} (h : PyData.strOk x = true) : DOk (.str x) 0 := ⟨h, Nat.le_refl _, by simp only [PyData.showable]⟩
theorem dok_term : ∀ (n : Nat) (t : Term), t.depth ≤ n → Fit t → DOk t.d (t.depth + 6)
  | 0, t, h, _ => by cases t <;> simp [Term.depth] at h
  | n + 1, t, h, hw => by
    have ha := fit_ars t hw
    have hs := sub_depth t
    have h1 : 1 ≤ t.depth := by cases t <;> simp [Term.depth]
    have hr : ∀ d ∈ .str (hdw t) :: (ars t).map Ar.d, DOk d (t.depth + 5) := fun d hd => by
      rcases List.mem_cons.mp hd with e | hd
      · rw [e]
        exact (dok_str (hdw_ok t)).mono (Nat.zero_le _)
      obtain ⟨r, hr, rfl⟩ := List.mem_map.mp hd
      have ok := ha r hr
      cases r with
      | w n => exact ⟨rfl, Nat.zero_le _, by simp only [Ar.d, PyData.showable]; exact decide_eq_true (int_small ok)⟩
      | l x => exact (dok_str (tx_ok ok)).mono (Nat.zero_le _)
      | nm x => exact (dok_str (tx_ok ok)).mono (Nat.zero_le _)
      | A F => exact (dok_form ok).mono (by omega)
      | e s =>
        have h2 := hs s hr
        exact (dok_term n s (by omega) ok).mono (by omega)
    rw [d_ars]
    exact (dok_tup hr).mono (by omega)
theorem dok_wl {w : Wl} (h : WlFit w) : DOk (Wl.d w) 7 := dok_tup fun d hd => by
  simp only [List.mem_cons, List.not_mem_nil, or_false] at hd
  rcases hd with rfl | rfl | rfl
  · exact (dok_str (tx_ok h.tx)).mono (Nat.zero_le _)
  · exact dok_form h.l
  · exact dok_form h.r
theorem wl_shown {w : Wl} (h : WlFit w) : (PyData.shown (Wl.d w)).length ≤ 1485 := by
  have h1 := tx_len h.tx
  have h2 := form_len5 h.l
  have h3 := form_len5 h.r
  have h0 := tup_len [.str w.1, w.2.1.d, w.2.2.d]
  simp only [List.map_cons, List.map_nil, piled_cons, piled_nil] at h0
  show (PyData.shown (.tuple [.str w.1, w.2.1.d, w.2.2.d])).length ≤ 1485
  omega
theorem piled_wl : ∀ ws : List Wl, (∀ w ∈ ws, WlFit w) → piled ((ws.map Wl.d).map PyData.shown) ≤ 1487 * ws.length
  | [], _ => Nat.zero_le _
  | w :: r, h => by
    have h1 := wl_shown (h w List.mem_cons_self)
    have h2 := piled_wl r fun x hx => h x (List.mem_cons_of_mem _ hx)
    simp only [List.map_cons, piled_cons, List.length_cons]
    omega
theorem wls_shown {ws : List Wl} (h : ∀ w ∈ ws, WlFit w) : (PyData.shown (.list (ws.map Wl.d))).length ≤ 1487 * ws.length + 2 := by
  have h1 := lst_len (ws.map Wl.d)
  have h2 := piled_wl ws h
  omega
theorem dok_wls {ws : List Wl} (h : ∀ w ∈ ws, WlFit w) : DOk (.list (ws.map Wl.d)) 8 := dok_lst fun d hd => by
  obtain ⟨w, hw, rfl⟩ := List.mem_map.mp hd
  exact dok_wl (h w hw)
/-! ### for a repr -/
structure RpOk (d : PyData) : Prop where
  lay : d.canLay0 = true
  dp : d.depth ≤ 60
  sh : d.showable = true
  ln : d.shown.length ≤ sizeLine
theorem rp_term {t : Term} (h : Fit t) (hd : t.depth ≤ 45) (hz : t.sz ≤ 7000) : RpOk t.d := by
  have a := dok_term t.depth t (Nat.le_refl _) h
  have b := term_len t h
  exact ⟨a.lay, by have := a.dp; omega, a.sh, by rw [sizeLine_eq]; omega⟩
theorem rp_pair {t : Term} {F : Form} (h : Fit t) (hd : t.depth ≤ 45) (hz : t.sz ≤ 7000) (hF : F.height ≤ 5) : RpOk (.tuple [t.d, F.d]) := by
  have a : DOk (.tuple [t.d, F.d]) (t.depth + 7) := dok_tup fun d hd => by
    simp only [List.mem_cons, List.not_mem_nil, or_false] at hd
    rcases hd with rfl | rfl
    · exact dok_term t.depth t (Nat.le_refl _) h
    · exact (dok_form hF).mono (by omega)
  have b := term_len t h
  have c := form_len5 hF
  have e := tup_len [t.d, F.d]
  simp only [List.map_cons, List.map_nil, piled_cons, piled_nil] at e
  exact ⟨a.lay, by have := a.dp; omega, a.sh, by rw [sizeLine_eq]; omega⟩
theorem rp_wls {ws : List Wl} (h : ∀ w ∈ ws, WlFit w) (hl : ws.length ≤ 11000) : RpOk (.list (ws.map Wl.d)) := by
  have a := dok_wls h
  have b := wls_shown h
  exact ⟨a.lay, by have := a.dp; omega, a.sh, by rw [sizeLine_eq]; omega⟩
theorem RpOk.nod {d : PyData} (h : RpOk d) : d.hasDict = false := PyData.hasDict_of_canLay d h.lay
theorem shaped_wls {ws : List Wl} (h : ∀ w ∈ ws, WlFit w) : SeqAt.shaped (.list (ws.map Wl.d)) = true := by
  have a := dok_wls h
  unfold SeqAt.shaped
  rw [a.lay, Bool.true_and, decide_eq_true_eq]
  have := a.dp
  omega
end WS
set_option Elab.async false
set_option linter.all false
set_option maxRecDepth 100000
set_option maxHeartbeats 4000000
namespace WS
open PySem L2
theorem zip_bd {H : Hp} : ∀ {ts : List Addr} {used : List Str} {zs : List V} {Fs : List Form}, Paired (fun (t : Addr) (q : V × V) => H t = some (.tup [q.1, q.2])) ts ((used.map V.str).zip zs) → PdAll H zs (Fs.map Form.d) → used.length = Fs.length → PdAll H (ts.map V.ref) ((used.zip Fs).map bdD)
  | ts, [], zs, Fs, pr, pz, hl => by
    cases pr
    exact .nil
  | ts, x :: used, zs, [], pr, pz, hl => by cases hl
  | ts, x :: used, zs, F :: Fs, pr, pz, hl => by
    obtain ⟨v, r, rfl, h1, h2⟩ := PdAll.cons_of pz
    cases pr with
    | cons e pr =>
      exact .cons (.m2 e (.str _) h1) (zip_bd pr h2 (by simpa using hl))
theorem hctx_zip : ∀ hs : List Hall, hctx hs = (hs.map (·.x)).zip (hs.map (·.F))
  | [] => rfl
  | h :: r => by
    show (h.x, h.F) :: hctx r = (h.x, h.F) :: _
    rw [hctx_zip r]
    rfl
theorem PotAt.upd {H : Hp} {p l : Addr} {o : HO} (h : PotAt H p) (hne : l ≠ p) : PotAt (L2.upd H l o) p := by
  obtain ⟨a, b, e, r⟩ := h
  exact ⟨a, b, by rw [upd_ne (Ne.symm hne)]; exact e, r⟩
/-- what is told of a hall -/
def ToldF (F : Form) : Prop := F = .any ∨ ∃ a b, F = .deed a b ∧ a.height ≤ 1 ∧ b.height ≤ 1
theorem ToldF.hi {F : Form} (h : ToldF F) : F.height ≤ 2 := by
  rcases h with rfl | ⟨a, b, rfl, h1, h2⟩
  · exact Nat.zero_le _
  · show 1 + max a.height b.height ≤ 2
    omega
structure HallIn (g : Ctx) (h : Hall) : Prop where
  hall : HallOk h
  ok : Ok g h.e
  nr : near (fo g h.e) h.F = true
  sz : h.e.sz ≤ 500
  hi : h.F.height ≤ 2
section
variable {P : Program} {w : World} {K : PySem.W.Frag} {mg : Str → Option Value} {base : Heap}
def sp_law_halls : Sp := fun vs H Q _ => ∃ (p : Addr) (n : Nat), vs = [.ref p, .int (n : Nat)] ∧ PotAt H p ∧ n ≤ 3 ∧
  ∀ H' l xs hs, Kp p H H' → PotAt H' p → l ≠ p → H' l = some (.lst xs) → PdAll H' xs (hs.map Hall.d) → HsOk hs → hs.length ≤ 3 → (∀ h ∈ hs, h.F.height ≤ 2 ∧ h.e.sz ≤ 500) → Q (.ref l) H'
theorem sc_law_halls : FnScope ["_law_pot_here", "_law_many", "_law_names", "_law_k", "_law_told", "_law_name_here", "_law_found", "_law_form_here", "_law_parts", "_law_bound", "_law_given", "_law_body"] ["_law_pot_here", "_law_many"] (defScope s__law_halls) := ⟨rfl, rfl, rfl, by decide +kernel, rfl, by decide +kernel, by decide +kernel⟩
theorem ok_law_halls (T : Tx w K mg) (k : Nat) : Held P w K mg base (k + 17) (fL K "_law_halls") sp_law_halls := by
  have G_law_name := ok_law_name (P := P) (base := base) T (k + 14)
  have G_law_form := ok_law_form (P := P) (base := base) T (k + 13) 2
  have G_law_pick := ok_law_pick (P := P) (base := base) T (k + 14)
  have G_law_near := ok_law_near (P := P) (base := base) T (k + 9) 2
  have G_law_term := ok_law_term (P := P) (base := base) T k 2
  refine FunD.held T.f__law_halls sc_law_halls (fun _ _ _ _ _ _ us hl => match us, hl with | [_, _], _ => rfl) (fun vs H Q E h => ?len) (fun fd cdv A outer s H vs Q E hr h => ?body)
  case len => obtain ⟨p, n, rfl, _⟩ := h; rfl
  case body =>
    obtain ⟨p, n, rfl, hp, hn, q⟩ := h
    have hu := hu_of hr
    refine ⟨_, (pss_cons (ps_set (i := 2) sc_law_halls.nd rfl (by first | exact Or.inl rfl | exact Or.inr rfl) (pe_lst pa_nil))
      (pss_cons (ps_for PassesOwn.never rfl (pi_range1 rfl T.b_range (pa_cons (pv 1) pa_nil)) (pg_name (i := 3) sc_law_halls.nd rfl (Or.inl rfl)) (pss_one (ps_expr (pe_bm PySem.F.plainAttrs_list PySem.F.slot_list_append PySem.F.type_list_append mt_append (pv 2) (pa_cons (pe_cl G_law_name hr T.g__law_name (pa_cons (pv 0) (pa_cons (pv 2) pa_nil))) pa_nil)))))
      (pss_cons (ps_setLc (i := 4) (own := [("_law_name_here", 5)]) rfl sc_law_halls.nd rfl rfl (sw_true rfl rfl rfl (by decide +kernel)) (pi_list (pv 2)) (blkOk_by (own := [("_law_name_here", 5)]) (N := ["_law_pot_here", "_law_many", "_law_names", "_law_k", "_law_told", "_law_name_here", "_law_found", "_law_form_here", "_law_parts", "_law_bound", "_law_given", "_law_body"]) (sc := defScope s__law_halls) (by decide +kernel)) (fun _ _ _ _ _ => (pg_name (i := 5) sc_law_halls.nd rfl (Or.inl rfl))) (fun _ _ _ _ _ => pts_nil) (fun _ _ _ _ _ => (pe_cl G_law_pick hr T.g__law_pick (pa_cons (pv 0) (pa_cons (pe_lst (pa_cons pe_str (pa_cons (pe_tup (pa_cons pe_str (pa_cons (pe_cl G_law_form hr T.g__law_form (pa_cons (pv 0) (pa_cons pe_int pa_nil))) (pa_cons (pe_cl G_law_form hr T.g__law_form (pa_cons (pv 0) (pa_cons pe_int pa_nil))) pa_nil)))) pa_nil))) pa_nil)))))
      (pss_cons (ps_set (i := 6) sc_law_halls.nd rfl (by first | exact Or.inl rfl | exact Or.inr rfl) (pe_lst pa_nil))
      (pss_cons (ps_for PassesOwn.never rfl (pi_zipB (by rfl) T.b_zip (pa_cons (pv 2) (pa_cons (pv 4) pa_nil))) (pg_tup (n := 2) rfl (pgs_cons (pg_name (i := 5) sc_law_halls.nd rfl (Or.inl rfl)) (pgs_cons (pg_name (i := 7) sc_law_halls.nd rfl (Or.inl rfl)) pgs_nil))) (pss_cons (ps_set (i := 8) sc_law_halls.nd rfl (by first | exact Or.inl rfl | exact Or.inr rfl) (pe_ifExp (pt_cmpR (op_eqD hr.units) (pv 7) pe_str (nomark _)) (pe_tup (pa_cons pe_str (pa_cons (pe_cl G_law_form hr T.g__law_form (pa_cons (pv 0) (pa_cons pe_int pa_nil))) (pa_cons (pe_cl G_law_form hr T.g__law_form (pa_cons (pv 0) (pa_cons pe_int pa_nil))) pa_nil)))) (pv 7)))
      (pss_cons (ps_par (i := 9) (j := 10) rfl sc_law_halls.nd rfl rfl (by decide) rfl rfl (pa_cons (pe_cl G_law_name hr T.g__law_name (pa_cons (pv 0) (pa_cons (pe_lst pa_nil) pa_nil))) (pa_cons (pe_cl G_law_near hr T.g__law_near (pa_cons (pv 0) (pa_cons (pe_ix ix_tup (pv 8) pe_int (fun _ _ => rfl)) (pa_cons pe_int pa_nil)))) pa_nil)) (by first | rfl | kernel_rfl))
      (pss_cons (ps_set (i := 11) sc_law_halls.nd rfl (by first | exact Or.inl rfl | exact Or.inr rfl) (pe_cl G_law_term hr T.g__law_term (pa_cons (pv 0) (pa_cons (pe_op op_cat (pe_listZip rfl rfl T.b_list (by decide +kernel) rfl T.b_zip (pa_cons (pv 2) (pa_cons (pv 4) pa_nil))) (pe_lst (pa_cons (pe_tup (pa_cons (pv 9) (pa_cons (pv 10) pa_nil))) pa_nil))) (pa_cons (pe_ix ix_tup (pv 8) pe_int (fun _ _ => rfl)) (pa_cons pe_int pa_nil))))))
      (pss_one (ps_expr (pe_bm PySem.F.plainAttrs_list PySem.F.slot_list_append PySem.F.type_list_append mt_append (pv 6) (pa_cons (pe_tup (pa_cons (pv 5) (pa_cons (pv 7) (pa_cons (pe_tup (pa_cons pe_str (pa_cons (pv 9) (pa_cons (pv 10) (pa_cons (pv 11) pa_nil))))) pa_nil)))) pa_nil))))))))
      (pss_one (ps_ret (pv 6)))))))), ?_⟩
    refine ⟨small_sz (by simp), fun l nl => ?_⟩
    have s1 := Same.new nl (o := .lst [])
    have hlp := pot_ne hp nl
    refine ⟨_, rfl, (n : Nat), rfl, by omega, by omega, forS src_range (fun i σ H' => ∃ y3 used, σ = [some (.ref p), some (.int (n : Nat)), some (.ref l), y3, none, none, none, none, none, none, none, none] ∧ Kp p H H' ∧ PotAt H' p ∧ H' l = some (.lst (used.map V.str)) ∧ used.length = i ∧ (∀ x ∈ used, IsName x) ∧ used.Nodup) ⟨none, [], rfl, s1.kp p, hp.same s1, upd_same, rfl, by simp, .nil⟩ (fun _ _ _ _ => True.intro) ?_ ?_⟩
    · rintro i x σ H1 H2 hi ⟨y3, used, rfl, k1, c1, e1, hul, hun, hud⟩ sm rfl
      have hi : i < n := hi
      refine ⟨_, rfl, ty_lst (sm _ _ e1), _, rfl, _, rfl, p, l, used, rfl, c1.same sm, sm _ _ e1, by omega, hun, fun H5 x k5 c5 nx nu => ?_⟩
      have e5 := k5 _ _ hlp (sm _ _ e1)
      refine ⟨l, _, _, rfl, rfl, e5, small_sz (by rw [List.length_map]; omega), _, used ++ [x], rfl, ((k1.trans (sm.kp p)).trans k5).upd nl, c5.upd hlp, by rw [upd_same, List.map_append]; rfl, by rw [List.length_append, hul]; rfl, ?_, ?_⟩
      · intro z hz
        rcases List.mem_append.mp hz with h | h
        · exact hun z h
        · rw [List.mem_singleton.mp h]
          exact nx
      · refine List.nodup_append.mpr ⟨hud, by simp, ?_⟩
        intro a ha b hb e
        rw [List.mem_singleton.mp hb] at e
        exact nu (e ▸ ha)
    rintro σ H1 ⟨y3, used, rfl, k1, c1, e1, hul, hun, hud⟩
    have hul : used.length = n := hul
    refine ⟨_, rfl, l, rfl, ⟨_, sl e1⟩, fun D hD => ?_⟩
    have hDp := pot_ne c1 hD
    refine lcS (σ := [some (.ref p), some (.int (n : Nat)), some (.ref l), y3, none, none, none, none, none, none, none, none]) (src_list (xs := used.map V.str)) (fun j acc H' => Kp p H1 H' ∧ PotAt H' p ∧ ∃ Fs : List Form, Fs.length = j ∧ PdAll H' acc (Fs.map Form.d) ∧ ∀ F ∈ Fs, ToldF F) (small_sz (by rw [List.length_map]; omega)) ⟨(Kp.refl _ _).upd hD, c1.upd hDp, [], rfl, .nil, by simp⟩ (fun j acc H' pv => sl (pv.1 _ _ hlp e1)) (fun j y acc H' H5 KK K2 hj hla pv hDl sm hI kk _ => ?_) (fun acc H2 hla pv eD => ?_)
    · obtain ⟨k2, c2, Fs, hFl, pF, hF⟩ := pv
      refine ⟨rfl, _, rfl, _, rfl, p, 1, rfl, c2.same sm, by decide, by decide, fun H6 va A k6 c6 pA hA => ⟨_, rfl, p, 1, rfl, c6, by decide, by decide, fun H7 vb B k7 c7 pB hB => ⟨small_sz (by simp), fun t nt => ⟨small_sz (by simp), fun g ng => ?_⟩⟩⟩⟩
      have s8 := (Same.new nt (o := .tup [V.str "deed", va, vb])).trans (Same.new ng (o := .lst [V.str "any", .ref t]))
      have et := Same.new ng (o := .lst [V.str "any", .ref t]) _ _ (upd_same (H := H7) (a := t) (o := .tup [V.str "deed", va, vb]))
      have pT : Pd (L2.upd (L2.upd H7 t (.tup [V.str "deed", va, vb])) g (.lst [V.str "any", .ref t])) (.ref t) (Form.deed A B).d := fdeed et ((pA.keep (c6.tk k7)).same s8) (pB.same s8)
      refine ⟨p, g, _, rfl, c7.same s8, upd_same, pot_ne (c7.same (Same.new nt)) ng, by simp, by simp, fun H9 x k9 c9 hx => ?_⟩
      have kA : Kp p H' H9 := (((sm.kp p).trans k6).trans k7).trans ((s8.kp p).trans k9)
      have eD9 := kA _ _ hDp hDl
      have tkA := c2.tk kA
      have tkD : TK H9 (L2.upd H9 D (.lst (acc ++ [x]))) := tk_lst (.mut D H9 _) eD9
      have done : ∀ F, ToldF F → Pd H9 x F.d → KK x H9 := fun F tF pX => kk _ _ eD9 ⟨(k2.trans kA).upd hD, c9.upd hDp, Fs ++ [F], by rw [List.length_append, hFl]; rfl, by rw [List.map_append]; exact ((pF.keep tkA).keep tkD).app (.one (pX.keep tkD)), fun G hG => by
        rcases List.mem_append.mp hG with h | h
        · exact hF G h
        · rw [List.mem_singleton.mp h]
          exact tF⟩
      simp only [List.mem_cons, List.not_mem_nil, or_false] at hx
      rcases hx with rfl | rfl
      · exact done .any (.inl rfl) (fany _)
      · exact done (.deed A B) (.inr ⟨A, B, rfl, hA, hB⟩) (pT.keep ((c7.same s8).tk k9))
    obtain ⟨k2, c2, Fs, hFl, pF, hFs⟩ := pv
    rw [List.length_map] at hFl
    refine ⟨small_sz (by simp), fun f nf => ?_⟩
    have s3 := Same.new nf (o := .lst [])
    have hfp := pot_ne c2 nf
    have k3 := (k1.trans k2).trans (s3.kp p)
    have nfH : H f = none := by
      cases e : H f with
      | none => rfl
      | some u => 
        have := (k1.trans k2) _ _ hfp e
        rw [nf] at this
        cases this
    have e7l0 := k2 _ _ hlp e1
    have e7D0 := eD
    have hzl : acc.length = Fs.length := by rw [pF.length, List.length_map]
    generalize acc = zs at *
    refine ⟨_, rfl, _, rfl, .lst l, .lst D, used.map V.str, zs, rfl, sl (s3 _ _ e7l0), sl (s3 _ _ eD), by rw [List.length_map]; omega, forS (src_zip (c1 := .lst l) (c2 := .lst D) (xs := used.map V.str) (ys := zs) (by rw [List.length_map]; omega)) (fun i σ H' => ∃ y5 y7 y8 y9 y10 y11 acc hs, σ = [some (.ref p), some (.int (n : Nat)), some (.ref l), y3, some (.ref D), y5, some (.ref f), y7, y8, y9, y10, y11] ∧ Kp p H H' ∧ PotAt H' p ∧ H' l = some (.lst (used.map V.str)) ∧ H' D = some (.lst zs) ∧ H' f = some (.lst acc) ∧ PdAll H' zs (Fs.map Form.d) ∧ PdAll H' acc (hs.map Hall.d) ∧ hs.map (·.x) = used.take i ∧ hs.map (·.F) = Fs.take i ∧ ∀ h ∈ hs, HallIn (used.zip Fs) h)
      ⟨none, none, none, none, none, none, [], [], rfl, k3, c2.same s3, s3 _ _ e7l0, s3 _ _ eD, upd_same, pF.same s3, .nil, rfl, rfl, by simp⟩ (fun i σ H' ⟨_, _, _, _, _, _, _, _, _, _, _, a1, a2, _⟩ => ⟨sl a1, sl a2⟩) ?_ ?_⟩
    · rintro i z σ H4 H5 hi ⟨y5, y7, y8, y9, y10, y11, acc, hs, rfl, k4, c4, e4l, e4D, e4f, p4z, p4a, hmx, hmF, hin⟩ sm ⟨T1, x, y, rfl, eT, ex, ey⟩
      rw [List.getElem?_map, Option.map_eq_some_iff] at ex
      obtain ⟨nm, enm, rfl⟩ := ex
      obtain ⟨F, eF, pF4⟩ := PdAll.atG p4z ey
      have hiu : i < used.length := by rw [List.length_map] at hi; exact hi
      have hhl : hs.length = i := by
        have := congrArg List.length hmx
        rw [List.length_map, List.length_take] at this
        omega
      have hF1 := hFs F (List.mem_of_getElem? eF)
      have k5 := k4.trans (sm.kp p)
      have c5 := c4.same sm
      have py5 := pF4.same sm
      refine ⟨T1, _, rfl, st eT, rfl, _, _, rfl, _, _, rfl, rfl, ?_⟩
      refine ⟨_, rfl, _, _, py5.dp, (fany _).dp, shaped_form F (by have := hF1.hi; omega), sany, _, rfl, ?_⟩
      rw [eqv_form]
      rcases hF1 with eFA | ⟨A, B, eFD, hA, hB⟩
      · refine itD eFA ⟨_, rfl, p, 1, rfl, c5, by decide, by decide, fun H6 va A k6 c6 pA hA => ⟨_, rfl, p, 1, rfl, c6, by decide, by decide, fun H6' vb B k6' c6' pB hB => ⟨small_sz (by simp), fun t nt => ?_⟩⟩⟩
        have s7 := Same.new nt (o := .tup [V.str "deed", va, vb])
        have p8 : Pd (L2.upd H6' t (.tup [V.str "deed", va, vb])) (.ref t) (Form.deed A B).d := fdeed upd_same ((pA.keep (c6.tk k6')).same s7) (pB.same s7)
        have k57 : Kp p H4 (L2.upd H6' t (.tup [V.str "deed", va, vb])) := (((sm.kp p).trans k6).trans k6').trans (s7.kp p)
        have k7 := k4.trans k57
        have c7 := c6'.same s7
        generalize (L2.upd H6' t (.tup [V.str "deed", va, vb])) = H7 at s7 p8 k57 k7 c7 ⊢
        generalize (V.ref t) = v8 at p8 ⊢
        have tk7 := c4.tk k57
        have e7l := k57 _ _ hlp e4l
        have e7D := k57 _ _ hDp e4D
        have e7f := k57 _ _ hfp e4f
        have p7z := p4z.keep tk7
        have p7a := p4a.keep tk7
        have py := pF4.keep tk7
        have hnr : ∀ a b, near a A = true → near b B = true → near (.deed a b) F = true := fun _ _ _ _ => by rw [eFA]; exact near_any _
        obtain ⟨t8, w0, w1, w2, et8, e8, qx, q1, q2⟩ := Pd.t3 p8
        subst et8
        cases qx.str_of
        refine ⟨_, rfl, small_sz (by simp), fun e0 ne0 => ?_⟩
        have s8 := Same.new ne0 (o := .lst [])
        refine ⟨p, e0, [], rfl, c7.same s8, upd_same, by simp, by simp, fun H9 bd k9 c9 hbd _ => ?_⟩
        have tk9 : TK H7 H9 := s8.tk.trans ((c7.same s8).tk k9)
        have k9' := (k7.trans (s8.kp p)).trans k9
        have e8' := tk9 _ _ e8
        refine ⟨_, rfl, _, rfl, t8, _, _, _, rfl, rfl, st e8', at1 _ _ _, p, w1, A, 1, rfl, c9, q1.keep tk9, by omega, by omega, by decide, fun H10 gv G k10 c10 pG hG => ⟨_, _, rfl, ?_⟩⟩
        obtain ⟨hG1, hG2, _⟩ := hG
        have tk10 : TK H7 H10 := tk9.trans (c9.tk k10)
        have e10l := k10 _ _ hlp (k9 _ _ hlp (s8 _ _ e7l))
        have e10D := k10 _ _ hDp (k9 _ _ hDp (s8 _ _ e7D))
        have e10f := k10 _ _ hfp (k9 _ _ hfp (s8 _ _ e7f))
        have k10' := k9'.trans k10
        refine ⟨_, rfl, _, rfl, _, rfl, .lst l, .lst D, used.map V.str, zs, rfl, sl e10l, sl e10D, by rw [List.length_map]; omega, small_sz (by rw [List.length_map]; omega), fun H11 L ts s11 nL _ hLt eL pz => ?_⟩
        have s11 : Same H10 H11 := s11
        refine ⟨_, rfl, _, rfl, small_sz (by simp), fun t1 n1 => ⟨small_sz (by simp), fun l1 nl1 => ?_⟩⟩
        have s12 := (Same.new n1 (o := .tup [.str bd, gv])).trans (Same.new nl1 (o := .lst [.ref t1]))
        have et1 := Same.new nl1 (o := .lst [.ref t1]) _ _ (upd_same (H := H11) (a := t1) (o := .tup [.str bd, gv]))
        have htl : ts.length = used.length := by
          have := Paired.length pz
          rw [List.length_zip, List.length_map] at this
          omega
        refine ⟨L, l1, _, _, rfl, rfl, s12 _ _ eL, upd_same, small_sz (by simp [htl]; omega), fun b2 nb2 => ?_⟩
        have s13 := s12.trans (Same.new nb2 (o := .lst (ts.map V.ref ++ [.ref t1])))
        have s14 := s11.trans s13
        have k14 := k10'.trans (s14.kp p)
        have c14 := c10.same s14
        have tk14 : TK H7 _ := tk10.trans s14.tk
        have pbd := (zip_bd pz ((p7z.keep tk10).same s11) (by omega)).same s13
        refine ⟨_, rfl, t8, _, _, _, rfl, rfl, st (tk14 _ _ e8), at2 _ _ _ _, p, b2, used.zip Fs ++ [(bd, G)], w2, B, rfl, ⟨c14, BdAt.snoc (H := H) (b := b2) upd_same pbd (.m2 (Same.new nb2 _ _ et1) (.str _) (pG.same s14)), ?_, ?_, q2.keep tk14, by omega, by decide, low1_of B (by omega)⟩, fun H15 bo te k15 c15 pb ht => ?_⟩
        · intro z hz
          rcases List.mem_append.mp hz with h | h
          · obtain ⟨m1, m2⟩ := List.of_mem_zip h
            exact ⟨hun _ m1, (hFs _ m2).hi⟩
          · rw [List.mem_singleton.mp h]
            exact ⟨hbd, by show G.height ≤ 2; omega⟩
        · rw [List.length_append, List.length_zip]
          simp only [List.length_cons, List.length_nil]
          omega
        have k15' := k14.trans k15
        have tk15 := c14.tk k15
        have tkH : TK H7 H15 := tk14.trans tk15
        have e15 : ∀ {b : Addr} {xs : List V}, b ≠ p → H10 b = some (.lst xs) → H15 b = some (.lst xs) := fun hb e => k15 _ _ hb (s14 _ _ e)
        refine ⟨_, rfl, ty_lst (e15 hfp e10f), _, rfl, _, rfl, _, rfl, _, rfl, _, rfl, small_sz (by simp), fun z1 nz1 => ⟨small_sz (by simp), fun z2 nz2 => ?_⟩⟩
        have s16 := (Same.new nz1 (o := .tup [V.str "deed", .str bd, gv, bo])).trans (Same.new nz2 (o := .tup [V.str nm, y, .ref z1]))
        have ez1 := Same.new nz2 (o := .tup [V.str nm, y, .ref z1]) _ _ (upd_same (H := H15) (a := z1) (o := .tup [V.str "deed", .str bd, gv, bo]))
        have ef16 := s16 _ _ (e15 hfp e10f)
        have ph : Pd (L2.upd (L2.upd H15 z1 (.tup [V.str "deed", .str bd, gv, bo])) z2 (.tup [V.str nm, y, .ref z1])) (.ref z2) (Hall.d ⟨nm, F, .deed bd G te⟩) :=
          .m3 upd_same (.str _) ((py.keep tkH).same s16) (.m4 ez1 (.str _) (.str _) (((pG.same s14).keep tk15).same s16) (pb.same s16))
        generalize (L2.upd (L2.upd H15 z1 (.tup [V.str "deed", .str bd, gv, bo])) z2 (.tup [V.str nm, y, .ref z1])) = H16 at s16 ef16 ph
        have tkf : TK H16 (L2.upd H16 f (.lst (acc ++ [.ref z2]))) := tk_lst (.mut f H16 _) ef16
        have tkL : TK H7 (L2.upd H16 f (.lst (acc ++ [.ref z2]))) := (tkH.trans s16.tk).trans tkf
        have hfl : l ≠ f := ne_of_none e7l0 nf
        have hfD : D ≠ f := ne_of_none e7D0 nf
        refine ⟨f, _, _, rfl, rfl, ef16, small_sz (by rw [p7a.length, List.length_map]; omega), _, _, _, _, _, _, acc ++ [.ref z2], hs ++ [⟨nm, F, .deed bd G te⟩], rfl, (k15'.trans (s16.kp p)).upd nfH, (c15.same s16).upd hfp, ?_, ?_, upd_same, p7z.keep tkL, ?_, ?_, ?_, ?_⟩
        · rw [upd_ne hfl]
          exact s16 _ _ (e15 hlp e10l)
        · rw [upd_ne hfD]
          exact s16 _ _ (e15 hDp e10D)
        · rw [List.map_append]
          exact (p7a.keep tkL).app (.one (ph.keep tkf))
        · rw [List.map_append, hmx, List.take_succ, enm]
          rfl
        · rw [List.map_append, hmF, List.take_succ, eF]
          rfl
        · intro h hh
          rcases List.mem_append.mp hh with h1 | h1
          · exact hin h h1
          · rw [List.mem_singleton.mp h1]
            have hnF := hFs F (List.mem_of_getElem? eF)
            have hfo : (fo (used.zip Fs ++ [(bd, G)]) te).height ≤ 4 := by have := ht.hi; omega
            have hGh : G.height ≤ 4 := by omega
            have hdp := ht.dp
            have hsz := ht.sz
            refine ⟨⟨hun _ (List.mem_of_getElem? enm), ?_, by have := hnF.hi; show F.height ≤ 5; omega, ⟨hbd, by omega, ht.wr⟩, by show 1 + te.depth ≤ 20; omega, rfl⟩, ⟨ht.ok, hGh, hfo⟩, hnr _ _ hG1 ht.nr, by show 1 + te.sz ≤ 500; have e : 4 ^ 2 = 16 := rfl; omega, hnF.hi⟩
            rcases hnF with e | ⟨a, b, e, _⟩
            · exact .inl e
            · exact .inr ⟨a, b, e⟩
      · refine itDn (by rw [eFD]; intro e; cases e) ⟨_, rfl, ?_⟩
        have p8 := py5
        rw [eFD] at p8
        have k7 := k5
        have c7 := c5
        have e7l := sm _ _ e4l
        have e7D := sm _ _ e4D
        have e7f := sm _ _ e4f
        have p7z := p4z.same sm
        have p7a := p4a.same sm
        have py := py5
        generalize hH7 : H5 = H7 at p8 k7 c7 e7l e7D e7f p7z p7a py
        have hnr : ∀ a b, near a A = true → near b B = true → near (.deed a b) F = true := fun _ _ h1 h2 => by
          rw [eFD]
          show (_ && _) = true
          rw [h1, h2]
          rfl
        obtain ⟨t8, w0, w1, w2, et8, e8, qx, q1, q2⟩ := Pd.t3 p8
        subst et8
        cases qx.str_of
        refine ⟨_, rfl, small_sz (by simp), fun e0 ne0 => ?_⟩
        have s8 := Same.new ne0 (o := .lst [])
        refine ⟨p, e0, [], rfl, c7.same s8, upd_same, by simp, by simp, fun H9 bd k9 c9 hbd _ => ?_⟩
        have tk9 : TK H7 H9 := s8.tk.trans ((c7.same s8).tk k9)
        have k9' := (k7.trans (s8.kp p)).trans k9
        have e8' := tk9 _ _ e8
        refine ⟨_, rfl, _, rfl, t8, _, _, _, rfl, rfl, st e8', at1 _ _ _, p, w1, A, 1, rfl, c9, q1.keep tk9, by omega, by omega, by decide, fun H10 gv G k10 c10 pG hG => ⟨_, _, rfl, ?_⟩⟩
        obtain ⟨hG1, hG2, _⟩ := hG
        have tk10 : TK H7 H10 := tk9.trans (c9.tk k10)
        have e10l := k10 _ _ hlp (k9 _ _ hlp (s8 _ _ e7l))
        have e10D := k10 _ _ hDp (k9 _ _ hDp (s8 _ _ e7D))
        have e10f := k10 _ _ hfp (k9 _ _ hfp (s8 _ _ e7f))
        have k10' := k9'.trans k10
        refine ⟨_, rfl, _, rfl, _, rfl, .lst l, .lst D, used.map V.str, zs, rfl, sl e10l, sl e10D, by rw [List.length_map]; omega, small_sz (by rw [List.length_map]; omega), fun H11 L ts s11 nL _ hLt eL pz => ?_⟩
        have s11 : Same H10 H11 := s11
        refine ⟨_, rfl, _, rfl, small_sz (by simp), fun t1 n1 => ⟨small_sz (by simp), fun l1 nl1 => ?_⟩⟩
        have s12 := (Same.new n1 (o := .tup [.str bd, gv])).trans (Same.new nl1 (o := .lst [.ref t1]))
        have et1 := Same.new nl1 (o := .lst [.ref t1]) _ _ (upd_same (H := H11) (a := t1) (o := .tup [.str bd, gv]))
        have htl : ts.length = used.length := by
          have := Paired.length pz
          rw [List.length_zip, List.length_map] at this
          omega
        refine ⟨L, l1, _, _, rfl, rfl, s12 _ _ eL, upd_same, small_sz (by simp [htl]; omega), fun b2 nb2 => ?_⟩
        have s13 := s12.trans (Same.new nb2 (o := .lst (ts.map V.ref ++ [.ref t1])))
        have s14 := s11.trans s13
        have k14 := k10'.trans (s14.kp p)
        have c14 := c10.same s14
        have tk14 : TK H7 _ := tk10.trans s14.tk
        have pbd := (zip_bd pz ((p7z.keep tk10).same s11) (by omega)).same s13
        refine ⟨_, rfl, t8, _, _, _, rfl, rfl, st (tk14 _ _ e8), at2 _ _ _ _, p, b2, used.zip Fs ++ [(bd, G)], w2, B, rfl, ⟨c14, BdAt.snoc (H := H) (b := b2) upd_same pbd (.m2 (Same.new nb2 _ _ et1) (.str _) (pG.same s14)), ?_, ?_, q2.keep tk14, by omega, by decide, low1_of B (by omega)⟩, fun H15 bo te k15 c15 pb ht => ?_⟩
        · intro z hz
          rcases List.mem_append.mp hz with h | h
          · obtain ⟨m1, m2⟩ := List.of_mem_zip h
            exact ⟨hun _ m1, (hFs _ m2).hi⟩
          · rw [List.mem_singleton.mp h]
            exact ⟨hbd, by show G.height ≤ 2; omega⟩
        · rw [List.length_append, List.length_zip]
          simp only [List.length_cons, List.length_nil]
          omega
        have k15' := k14.trans k15
        have tk15 := c14.tk k15
        have tkH : TK H7 H15 := tk14.trans tk15
        have e15 : ∀ {b : Addr} {xs : List V}, b ≠ p → H10 b = some (.lst xs) → H15 b = some (.lst xs) := fun hb e => k15 _ _ hb (s14 _ _ e)
        refine ⟨_, rfl, ty_lst (e15 hfp e10f), _, rfl, _, rfl, _, rfl, _, rfl, _, rfl, small_sz (by simp), fun z1 nz1 => ⟨small_sz (by simp), fun z2 nz2 => ?_⟩⟩
        have s16 := (Same.new nz1 (o := .tup [V.str "deed", .str bd, gv, bo])).trans (Same.new nz2 (o := .tup [V.str nm, (V.ref t8), .ref z1]))
        have ez1 := Same.new nz2 (o := .tup [V.str nm, (V.ref t8), .ref z1]) _ _ (upd_same (H := H15) (a := z1) (o := .tup [V.str "deed", .str bd, gv, bo]))
        have ef16 := s16 _ _ (e15 hfp e10f)
        have ph : Pd (L2.upd (L2.upd H15 z1 (.tup [V.str "deed", .str bd, gv, bo])) z2 (.tup [V.str nm, (V.ref t8), .ref z1])) (.ref z2) (Hall.d ⟨nm, F, .deed bd G te⟩) :=
          .m3 upd_same (.str _) ((py.keep tkH).same s16) (.m4 ez1 (.str _) (.str _) (((pG.same s14).keep tk15).same s16) (pb.same s16))
        generalize (L2.upd (L2.upd H15 z1 (.tup [V.str "deed", .str bd, gv, bo])) z2 (.tup [V.str nm, (V.ref t8), .ref z1])) = H16 at s16 ef16 ph
        have tkf : TK H16 (L2.upd H16 f (.lst (acc ++ [.ref z2]))) := tk_lst (.mut f H16 _) ef16
        have tkL : TK H7 (L2.upd H16 f (.lst (acc ++ [.ref z2]))) := (tkH.trans s16.tk).trans tkf
        have hfl : l ≠ f := ne_of_none e7l0 nf
        have hfD : D ≠ f := ne_of_none e7D0 nf
        refine ⟨f, _, _, rfl, rfl, ef16, small_sz (by rw [p7a.length, List.length_map]; omega), _, _, _, _, _, _, acc ++ [.ref z2], hs ++ [⟨nm, F, .deed bd G te⟩], rfl, (k15'.trans (s16.kp p)).upd nfH, (c15.same s16).upd hfp, ?_, ?_, upd_same, p7z.keep tkL, ?_, ?_, ?_, ?_⟩
        · rw [upd_ne hfl]
          exact s16 _ _ (e15 hlp e10l)
        · rw [upd_ne hfD]
          exact s16 _ _ (e15 hDp e10D)
        · rw [List.map_append]
          exact (p7a.keep tkL).app (.one (ph.keep tkf))
        · rw [List.map_append, hmx, List.take_succ, enm]
          rfl
        · rw [List.map_append, hmF, List.take_succ, eF]
          rfl
        · intro h hh
          rcases List.mem_append.mp hh with h1 | h1
          · exact hin h h1
          · rw [List.mem_singleton.mp h1]
            have hnF := hFs F (List.mem_of_getElem? eF)
            have hfo : (fo (used.zip Fs ++ [(bd, G)]) te).height ≤ 4 := by have := ht.hi; omega
            have hGh : G.height ≤ 4 := by omega
            have hdp := ht.dp
            have hsz := ht.sz
            refine ⟨⟨hun _ (List.mem_of_getElem? enm), ?_, by have := hnF.hi; show F.height ≤ 5; omega, ⟨hbd, by omega, ht.wr⟩, by show 1 + te.depth ≤ 20; omega, rfl⟩, ⟨ht.ok, hGh, hfo⟩, hnr _ _ hG1 ht.nr, by show 1 + te.sz ≤ 500; have e : 4 ^ 2 = 16 := rfl; omega, hnF.hi⟩
            rcases hnF with e | ⟨a, b, e, _⟩
            · exact .inl e
            · exact .inr ⟨a, b, e⟩
    · rintro σ H4 ⟨y5, y7, y8, y9, y10, y11, acc, hs, rfl, k4, c4, e4l, e4D, e4f, p4z, p4a, hmx, hmF, hin⟩
      rw [List.length_map, List.take_length] at hmx
      rw [List.length_map, hul, ← hul, ← hFl, List.take_length] at hmF
      have hg : hctx hs = used.zip Fs := by rw [hctx_zip, hmx, hmF]
      have hhl : hs.length = used.length := by rw [← hmx, List.length_map]
      exact ⟨_, rfl, q _ f acc hs k4 c4 hfp e4f p4a ⟨fun h hh => (hin h hh).hall, by omega, by rw [hmx]; exact hud, fun h hh => by rw [hg]; exact ⟨(hin h hh).ok, (hin h hh).nr, by have := (hin h hh).sz; omega⟩⟩ (by omega) (fun h hh => ⟨(hin h hh).hi, (hin h hh).sz⟩)⟩
end
end WS
set_option Elab.async false
set_option linter.all false
set_option maxRecDepth 100000
set_option maxHeartbeats 4000000
namespace WS
open PySem L2
theorem str_ext {x y : Str} (h : x.cps.toList = y.cps.toList) : x = y := Str.ext' (Array.toList_inj.mp h)
theorem cut_head (x y : Str) : cutS (x ++ y) none (some ((x.length : Nat) : Int)) = x := by
  refine str_ext ?_
  show ((((x ++ y).cps.toList.drop (HT.sIx (x ++ y).length 0 none)).take (HT.sIx (x ++ y).length (x ++ y).length (some ((x.length : Nat) : Int)) - HT.sIx (x ++ y).length 0 none)).toArray).toList = _
  rw [HT.sIx_nat, HT.sIx_none, List.drop_zero, Nat.sub_zero, Str.length_append, Nat.min_eq_left (Nat.le_add_right _ _), Str.cps_append, Array.toList_append]
  show ((x.cps.toList ++ y.cps.toList).take x.cps.size) = _
  rw [← Array.length_toList, List.take_left]
theorem cut_rest (x y : Str) : cutS (x ++ y) (some ((x.length : Nat) : Int)) none = y := by
  refine str_ext ?_
  show ((((x ++ y).cps.toList.drop (HT.sIx (x ++ y).length 0 (some ((x.length : Nat) : Int)))).take (HT.sIx (x ++ y).length (x ++ y).length none - HT.sIx (x ++ y).length 0 (some ((x.length : Nat) : Int)))).toArray).toList = _
  rw [HT.sIx_nat, HT.sIx_none, Str.length_append, Nat.min_eq_left (Nat.le_add_right _ _), Nat.add_sub_cancel_left, Str.cps_append, Array.toList_append]
  show (((x.cps.toList ++ y.cps.toList).drop x.cps.size).take y.cps.size) = _
  rw [← Array.length_toList, ← Array.length_toList, List.drop_left, List.take_length]
theorem num_inj {i j : Nat} (h : Str.ofString (toString ((i : Nat) : Int)) = Str.ofString (toString ((j : Nat) : Int))) : i = j := by
  have e := congrArg (fun z : Str => z.cps.toList) h
  simp only [PySem.W.KIN.signs_num] at e
  have e2 := congrArg PySem.NumText.digitsVal e
  rw [PySem.W.KIN.val_back, PySem.W.KIN.val_back] at e2
  exact e2
theorem paired_at {α β : Type} {F : α → β → Prop} : ∀ {l : List α} {m : List β} {i : Nat} {x : α}, Paired F l m → l[i]? = some x → ∃ y, m[i]? = some y ∧ F x y
  | _, _, i, x, .nil, e => by simp at e
  | _, _, 0, x, .cons h t, e => by
    cases e
    exact ⟨_, rfl, h⟩
  | _, _, i + 1, x, .cons h t, e => paired_at (i := i) t e
theorem flat_ints (l : List Int) : (l.map V.int).all flatV = true := by
  rw [List.all_map, List.all_eq_true]
  intro x _
  rfl
theorem inV_zero (ks : List Nat) (h : ∀ k ∈ ks, 0 < k) : inV (V.int 0) ((ks.map fun k : Nat => (k : Int)).map V.int) = false := by
  unfold inV
  rw [List.any_map, List.any_map, List.any_eq_false]
  intro k hk e
  have e : (((k : Nat) : Int) == 0) = true := e
  have := eq_of_beq e
  have := h k hk
  omega
theorem d_ints {K : PySem.W.Frag} {H : Hp} : ∀ l : List Int, DpAll K H (l.map V.int) (l.map PyData.int)
  | [] => .nil
  | a :: r => .cons (.int a) (d_ints r)
theorem lay_ints (l : List Int) : (PyData.list (l.map PyData.int)).canLay0 = true := by
  simp only [PyData.canLay0]
  exact layAll fun d hd => by
    obtain ⟨i, _, rfl⟩ := List.mem_map.mp hd
    rfl
theorem shaped_ints (l : List Int) : SeqAt.shaped (.list (l.map PyData.int)) = true := by
  unfold SeqAt.shaped
  rw [lay_ints, Bool.true_and, decide_eq_true_eq]
  simp only [PyData.depth]
  have : PyData.depthAll (l.map PyData.int) ≤ 0 := depthAll_le fun d hd => by
    obtain ⟨i, _, rfl⟩ := List.mem_map.mp hd
    exact Nat.le_refl _
  omega
theorem rise_len : ∀ (ks : List Nat) (n m : Nat), ks.Pairwise (· < ·) → (∀ k ∈ ks, n < k ∧ k ≤ m) → ks.length ≤ m - n
  | [], _, _, _, _ => Nat.zero_le _
  | k :: r, n, m, h, b => by
    obtain ⟨h1, h2⟩ := List.pairwise_cons.mp h
    have b0 := b k List.mem_cons_self
    have := rise_len r k m h2 fun x hx => ⟨h1 x hx, (b x (List.mem_cons_of_mem _ hx)).2⟩
    rw [List.length_cons]
    omega
section
variable {P : Program} {w : World} {K : PySem.W.Frag} {mg : Str → Option Value} {base : Heap}
def sp_marks_right : Sp := fun vs H Q _ => ∃ (l : Addr) (xs : List V) (ws : List Wl) (a : Str) (m : Nat), vs = [.ref l, .str a, .int (m : Nat)] ∧ H l = some (.lst xs) ∧ PdAll H xs (ws.map Wl.d) ∧ Marks a 0 m ws ∧ Ah a ∧ (∀ q ∈ ws, WlFit q) ∧ m ≤ 3900 ∧
  ∀ H', Same H H' → Q (.bl true) H'
theorem sc_law_marks_right : FnScope ["_law_found", "_law_sign", "_law_most", "_law_numbers", "_law_own", "_law_left", "_law_right_here", "_law_ahead", "_law_count", "_law_k", "_law_firsts", "_law_some"] ["_law_found", "_law_sign", "_law_most"] (defScope s__law_marks_right) := ⟨rfl, rfl, rfl, by decide +kernel, rfl, by decide +kernel, by decide +kernel⟩
theorem ok_law_marks_right (T : Tx w K mg) (k : Nat) : Held P w K mg base (k + 8) (fL K "_law_marks_right") sp_marks_right := by
  have G_law_is_near := (ok_law_is_near (P := P) (base := base) T k 6)
  refine FunD.held T.f__law_marks_right sc_law_marks_right (fun _ _ _ _ _ _ us hl => match us, hl with | [_, _, _], _ => rfl) (fun vs H Q E h => ?len) (fun fd cdv A outer s H vs Q E hr h => ?body)
  case len => obtain ⟨l, xs, ws, a, m, rfl, _⟩ := h; rfl
  case body =>
    obtain ⟨l, xs, ws, a, m, rfl, hl, hp, ⟨ks, hks, hrise, hb, hnr⟩, ha, hfit, hm, q⟩ := h
    have hu := hu_of hr
    refine ⟨_, (pss_cons (ps_set (i := 3) sc_law_marks_right.nd rfl (by first | exact Or.inl rfl | exact Or.inr rfl) (pe_lst pa_nil))
      (pss_cons (ps_for PassesOwn.never rfl (pi_list (pv 0)) (pg_tup (n := 3) rfl (pgs_cons (pg_name (i := 4) sc_law_marks_right.nd rfl (Or.inl rfl)) (pgs_cons (pg_name (i := 5) sc_law_marks_right.nd rfl (Or.inl rfl)) (pgs_cons (pg_name (i := 6) sc_law_marks_right.nd rfl (Or.inl rfl)) pgs_nil)))) (pss_cons (ps_asg (pe_tup (pa_cons (pe_slice sl_str (pv 4) po_none (po_some (pe_op op_add (pe_callB call_len_str (by rfl) T.b_len PySem.boot_len (pa_cons (pv 1) pa_nil)) pe_int))) (pa_cons (pe_slice sl_str (pv 4) (po_some (pe_op op_add (pe_callB call_len_str (by rfl) T.b_len PySem.boot_len (pa_cons (pv 1) pa_nil)) pe_int)) po_none) pa_nil))) (pg_tup (n := 2) rfl (pgs_cons (pg_name (i := 7) sc_law_marks_right.nd rfl (by first | exact Or.inl rfl | exact Or.inr rfl)) (pgs_cons (pg_name (i := 8) sc_law_marks_right.nd rfl (by first | exact Or.inl rfl | exact Or.inr rfl)) pgs_nil))))
      (pss_cons (ps_if (PW.pt (pw_or (pt_cmpR op_ne (pv 7) (pe_op op_add_str (pv 1) pe_str) (nomark _)) (pw_or (pt_cmpR (op_eqD hr.units) (pv 5) (pv 6) (nomark _)) (pw_or1 (pt_not (pt_val (pe_cl G_law_is_near hr T.g__law_is_near (pa_cons (pv 5) (pa_cons (pv 6) pa_nil))))))))) (pss_one (ps_ret pe_bl)) pss_nil)
      (pss_one (ps_expr (pe_bm PySem.F.plainAttrs_list PySem.F.slot_list_append PySem.F.type_list_append mt_append (pv 3) (pa_cons (pe_op op_cat (pe_lc (own := [("_law_k", 9)]) rfl sc_law_marks_right.nd (pi_range2 rfl T.b_range (pa_cons pe_int (pa_cons (pe_op op_add (pv 2) pe_int) pa_nil))) (blkOk_by (own := [("_law_k", 9)]) (N := ["_law_found", "_law_sign", "_law_most", "_law_numbers", "_law_own", "_law_left", "_law_right_here", "_law_ahead", "_law_count", "_law_k", "_law_firsts", "_law_some"]) (sc := defScope s__law_marks_right) (by decide +kernel)) (fun _ _ _ _ _ => (pg_name (i := 9) sc_law_marks_right.nd rfl (Or.inl rfl))) (fun _ _ _ _ _ => (pts_one (pt_cmpR op_eq (pe_callTy call_str_int (by rfl) T.b_str (by decide +kernel) (pa_cons (pv 9) pa_nil)) (pv 8) (nomark _)))) (fun _ _ _ _ _ => (pv 9))) (pe_lst (pa_cons pe_int pa_nil))) pa_nil)))))))
      (pss_cons (ps_setLc (i := 10) (own := [("_law_some", 11)]) rfl sc_law_marks_right.nd rfl rfl (sw_true rfl rfl rfl (by decide +kernel)) (pi_list (pv 3)) (blkOk_by (own := [("_law_some", 11)]) (N := ["_law_found", "_law_sign", "_law_most", "_law_numbers", "_law_own", "_law_left", "_law_right_here", "_law_ahead", "_law_count", "_law_k", "_law_firsts", "_law_some"]) (sc := defScope s__law_marks_right) (by decide +kernel)) (fun _ _ _ _ _ => (pg_name (i := 11) sc_law_marks_right.nd rfl (Or.inl rfl))) (fun _ _ _ _ _ => pts_nil) (fun _ _ _ _ _ => (pe_ix (ix_listK (K := K)) (pv 11) pe_int (fun _ _ => rfl))))
      (pss_one (ps_ret (pe_and (pe_cmpR op_notIn_seq pe_int (pv 10) (by rfl)) (pe_one (pe_cmpR (op_eqD hr.units) (pv 10) (pe_sortedSet rfl rfl T.b_sorted (by decide +kernel) rfl T.b_set (pv 10)) (nomark _))))))))), ?_⟩
    have hkl := rise_len ks 0 m hrise hb
    have hwl : ws.length = ks.length := by
      have := congrArg List.length hks
      rw [List.length_map, List.length_map] at this
      exact this
    refine ⟨small_sz (by simp), fun nl hnl => ?_⟩
    have hll : nl ≠ l := (ne_of_none hl hnl).symm
    refine ⟨_, rfl, l, rfl, ⟨_, sl (Same.new hnl _ _ hl)⟩, forS (src_list (xs := xs)) (fun i σ H' => ∃ y4 y5 y6 y7 y8 y9, σ = [some (.ref l), some (.str a), some (.int (m : Nat)), some (.ref nl), y4, y5, y6, y7, y8, y9, none, none] ∧ Same H H' ∧ ∃ ps : List Addr, H' nl = some (.lst (ps.map V.ref)) ∧ Paired (fun p k => p ≠ nl ∧ H' p = some (.lst [.int ((k : Nat) : Int), .int 0])) ps (ks.take i)) ⟨none, none, none, none, none, none, rfl, Same.new hnl, [], upd_same, .nil⟩ (fun i σ H' ⟨_, _, _, _, _, _, _, s, _⟩ => sl (s _ _ hl)) ?_ ?_⟩
    · rintro i x σ H2 H3 hi ⟨y4, y5, y6, y7, y8, y9, rfl, s2, ps, en, pr⟩ sm ey
      obtain ⟨q0, eq0, pq⟩ := PdAll.atG hp ey
      have s3 := s2.trans sm
      obtain ⟨T1, x1, vA, vB, rfl, eT, hx, hA, hB⟩ := Pd.t3 (pq.same s3)
      cases hx.str_of
      refine ⟨T1, _, rfl, st eT, rfl, _, _, rfl, _, _, rfl, _, _, rfl, rfl, ?_⟩
      obtain ⟨k0, ek, ekk⟩ : ∃ k0, ks[i]? = some k0 ∧ q0.1 = mk a k0 := by
        have e : (ws.map (·.1))[i]? = some q0.1 := by rw [List.getElem?_map, eq0]; rfl
        rw [hks, List.getElem?_map, Option.map_eq_some_iff] at e
        obtain ⟨k0, e1, e2⟩ := e
        exact ⟨k0, e1, e2.symm⟩
      have e1 : (((a.length : Nat) : Int) + 1) = (((a ++ "." : Str).length : Nat) : Int) := by rw [Str.length_append]; rfl
      have hz : q0.1.length ≤ 16 := (hfit q0 (List.mem_of_getElem? eq0)).tx.1
      refine ⟨_, rfl, _, rfl, a, rfl, small_sz (by have := ha.1; omega), _, _, rfl, rfl, _, rfl, _, rfl, small_sz (by omega), ?_⟩
      refine ⟨_, rfl, _, rfl, a, rfl, small_sz (by have := ha.1; omega), _, _, rfl, rfl, _, rfl, _, rfl, small_sz (by omega), ?_⟩
      rw [ekk, e1]
      unfold mk
      rw [cut_head, cut_rest]
      refine ⟨small_sz (by simp), fun t2 nt2 => ?_⟩
      have s4 := s3.trans (Same.new nt2 (o := .tup [.str (a ++ "."), .str (Str.ofString (toString ((k0 : Nat) : Int)))]))
      refine ⟨t2, _, rfl, st upd_same, rfl, _, _, rfl, _, _, rfl, rfl, ?_⟩
      have hwf := hfit q0 (List.mem_of_getElem? eq0)
      obtain ⟨hn1, hn2⟩ := hnr q0 (List.mem_of_getElem? eq0)
      have hA4 := hA.same (Same.new nt2 (o := .tup [.str (a ++ "."), .str (Str.ofString (toString ((k0 : Nat) : Int)))]))
      have hB4 := hB.same (Same.new nt2 (o := .tup [.str (a ++ "."), .str (Str.ofString (toString ((k0 : Nat) : Int)))]))
      have en4 := (Same.new nt2 (o := .tup [.str (a ++ "."), .str (Str.ofString (toString ((k0 : Nat) : Int)))])) _ _ (sm _ _ en)
      have hl4 := s4 _ _ hl
      have sx : Same H2 _ := sm.trans (Same.new nt2 (o := .tup [.str (a ++ "."), .str (Str.ofString (toString ((k0 : Nat) : Int)))]))
      generalize (upd H3 t2 (.tup [.str (a ++ "."), .str (Str.ofString (toString ((k0 : Nat) : Int)))])) = H4 at s4 hA4 hB4 en4 hl4 sx
      refine ⟨_, rfl, _, rfl, _, _, rfl, rfl, small_sz (by have := ha.1; have e1 : ("." : Str).length = 1 := (by decide); omega), rfl, _, rfl, ?_⟩
      refine ifF (by simp) ⟨_, rfl, _, rfl, _, _, hA4.dp, hB4.dp, shaped_form _ (by have := hwf.l; omega), shaped_form _ (by have := hwf.r; omega), _, rfl, ?_⟩
      rw [eqv_form]
      refine itDn hn2 ⟨_, rfl, _, rfl, vA, vB, q0.2.1, q0.2.2, rfl, hA4, hB4, by have := hwf.l; omega, by have := hwf.l; omega, by have := hwf.r; omega, fun H5 s5 => ⟨_, rfl, ?_⟩⟩
      refine ifF (by rw [hn1]; rfl) ?_
      have en5 := s5 _ _ en4
      have hk0 := hb k0 (List.mem_of_getElem? ek)
      refine ⟨_, rfl, ty_lst en5, _, rfl, _, _, rfl, rfl, 1, ((m : Nat) : Int) + 1, rfl, ⟨by omega, by omega, by omega, by omega⟩, fun D hD => ?_⟩
      have hnD : nl ≠ D := ne_of_none en5 hD
      refine lcS (σ := [some (.ref l), some (.str a), some (.int (m : Nat)), some (.ref nl), some (.str (a ++ "." ++ Str.ofString (toString ((k0 : Nat) : Int)))), some vA, some vB, some (.str (a ++ ".")), some (.str (Str.ofString (toString ((k0 : Nat) : Int)))), y9, none, none]) (src_range (lo := 1) (n := (((m : Nat) : Int) + 1 - 1).toNat)) (fun j acc H' => Same H5 H' ∧ acc = if k0 < 1 + j then [V.int ((k0 : Nat) : Int)] else []) (small_sz (by omega)) ⟨Same.new hD, by rw [if_neg (by omega)]⟩ (fun _ _ _ _ => True.intro) (fun j y acc H' H6 KK K2 hj hla pv hDl sm6 hI kk kk2 => ?_) (fun acc H' hla pv eD => ?_)
      · obtain ⟨s6, rfl⟩ := pv
        rw [show (1 + ((j : Nat) : Int)) = ((1 + j : Nat) : Int) by omega] at hI
        subst hI
        have hj : j < m := by omega
        refine ⟨rfl, _, rfl, _, rfl, Nat.lt_trans ((Nat.log2_lt (k := 12) (by omega)).mpr (by omega)) (by decide), _, rfl, rfl, _, rfl, ?_⟩
        by_cases hjk : 1 + j = k0
        · have hno : (if k0 < 1 + j then [V.int ((k0 : Nat) : Int)] else []) = [] := if_neg (by omega)
          have eDl := sm6 _ _ hDl
          rw [hno] at eDl kk
          refine itD (by rw [hjk]) ⟨_, rfl, kk _ _ eDl ⟨fun b u eb => ?_, ?_⟩⟩
          · rw [upd_ne (ne_of_none eb hD)]
            exact sm6 _ _ (s6 _ _ eb)
          · rw [if_pos (by omega), hjk]
            rfl
        · refine itDn (fun e => hjk (num_inj (V.str.inj e))) (kk2 _ (sm6 _ _ hDl) ⟨s6.trans sm6, ?_⟩)
          by_cases h : k0 < 1 + j
          · rw [if_pos h, if_pos (by omega)]
          · rw [if_neg h, if_neg (by omega)]
      obtain ⟨s6, rfl⟩ := pv
      rw [if_pos (by omega)] at eD
      refine ⟨small_sz (by simp), fun l2 nl2 => ?_⟩
      have s7 := s6.trans (Same.new nl2 (o := .lst [V.int 0]))
      have eD7 := (Same.new nl2 (o := .lst [V.int 0])) _ _ eD
      refine ⟨D, l2, _, _, rfl, rfl, eD7, upd_same, small_sz (by simp), fun b2 nb2 => ?_⟩
      have s8 := s7.trans (Same.new nb2 (o := .lst [V.int ((k0 : Nat) : Int), V.int 0]))
      have en8 := s8 _ _ en5
      have sH : Same H (upd (upd H' l2 (.lst [V.int 0])) b2 (.lst [V.int ((k0 : Nat) : Int), V.int 0])) := (s4.trans s5).trans s8
      have sx8 : Same H2 (upd (upd H' l2 (.lst [V.int 0])) b2 (.lst [V.int ((k0 : Nat) : Int), V.int 0])) := (sx.trans s5).trans s8
      have eb2 := upd_same (H := upd H' l2 (.lst [V.int 0])) (a := b2) (o := .lst [V.int ((k0 : Nat) : Int), V.int 0])
      have hb2n : b2 ≠ nl := (ne_of_none ((Same.new nl2 (o := .lst [V.int 0])) _ _ (s6 _ _ en5)) nb2).symm
      have hpl : ps.length = i := by
        have e := Paired.length pr
        rw [List.length_take] at e
        have := (List.getElem?_eq_some_iff.mp ek).1
        omega
      have hil := (List.getElem?_eq_some_iff.mp ek).1
      refine ⟨nl, _, _, rfl, rfl, en8, small_sz (by rw [List.length_map]; omega), _, _, _, _, _, _, rfl, fun b u eb => ?_, ps ++ [b2], ?_, ?_⟩
      · rw [upd_ne (ne_of_none eb hnl)]
        exact sH _ _ eb
      · rw [upd_same, List.map_append]
        rfl
      · rw [List.take_succ, ek]
        exact Paired.snoc (L2.Paired.mapP pr fun p k z => ⟨z.1, by rw [upd_ne z.1]; exact sx8 _ _ z.2⟩) ⟨hb2n, by rw [upd_ne hb2n]; exact eb2⟩
    · rintro σ H2 ⟨y4, y5, y6, y7, y8, y9, rfl, s2, ps, en, pr⟩
      have hxl : xs.length = ks.length := by rw [hp.length, List.length_map, hwl]
      rw [hxl, List.take_length] at pr
      have hpl := Paired.length pr
      refine ⟨_, rfl, nl, rfl, ⟨_, sl en⟩, fun D hD => ?_⟩
      have hnD := ne_of_none en hD
      refine lcF (σ := [some (.ref l), some (.str a), some (.int (m : Nat)), some (.ref nl), y4, y5, y6, y7, y8, y9, none, none]) (src_list (xs := ps.map V.ref)) ((ks.map fun k : Nat => (k : Int)).map V.int) (small_sz (by rw [List.length_map]; omega)) (by simp [hpl]) hD (fun H' k => sl (k _ _ hnD en)) (fun j y u H5 H6 KK hj hu kD sm hI kk => ?_) (fun H5 kD eD => ?_)
      · rw [List.getElem?_map, Option.map_eq_some_iff] at hI
        obtain ⟨p, ep, rfl⟩ := hI
        obtain ⟨k0, ek, hpn, e0⟩ := paired_at pr ep
        rw [List.getElem?_map, List.getElem?_map, ek] at hu
        cases hu
        have e6 := sm _ _ (kD _ _ (ne_of_none e0 hD) e0)
        exact ⟨rfl, _, rfl, p, _, _, _, rfl, rfl, sl e6, at0 _ _, kk _ (Same.refl _)⟩
      · refine ⟨_, rfl, D, _, rfl, .inl (sl eD), rfl, flat_ints _, ?_⟩
        have hin : inV (V.int 0) ((ks.map fun k : Nat => (k : Int)).map V.int) = false := inV_zero ks fun k hk => (hb k hk).1
        have hri : (ks.map fun k : Nat => (k : Int)).Pairwise (· < ·) := List.pairwise_map.mpr (hrise.imp fun h => by omega)
        refine ⟨_, rfl, ifT (by rw [hin]; rfl) ⟨_, rfl, _, rfl, D, _, rfl, sl eD, by rw [List.length_map]; omega, hri, fun p np => ?_⟩⟩
        have s6 := Same.new np (o := .lst ((ks.map fun k : Nat => (k : Int)).map V.int))
        refine ⟨_, _, .lst (sl (s6 _ _ eD)) (d_ints _), .lst (sl upd_same) (d_ints _), shaped_ints _, shaped_ints _, ?_⟩
        rw [SeqAt.eqv_refl _ (lay_ints _)]
        have sH : Same H H5 := fun b u eb => kD b u (ne_of_none (s2 _ _ eb) hD) (s2 _ _ eb)
        exact q _ (sH.trans s6)
end
end WS
set_option Elab.async false
set_option linter.all false
set_option maxRecDepth 100000
set_option maxHeartbeats 4000000
namespace WS
open PySem L2
theorem cut_most (xs : List V) (x : V) : cutV (xs ++ [x]) none (some (-1)) = xs := by
  unfold cutV
  rw [HT.sIx_none]
  have e : HT.sIx (xs ++ [x]).length (xs ++ [x]).length (some (-1)) = xs.length := by
    simp only [HT.sIx, List.length_append, List.length_cons, List.length_nil]
    rw [if_pos (by decide)]
    omega
  rw [e, Nat.sub_zero, List.drop_zero, List.take_left]
section
variable {P : Program} {w : World} {K : PySem.W.Frag} {mg : Str → Option Value} {base : Heap}
def sp_law_right : Sp := fun vs H Q _ => ∃ (v f pc due : V) (a : Str) (m : Nat) (t : Term) (F : Form), vs = [v, f, pc, due, .str a, .int (m : Nat)] ∧ Pd H v t.d ∧ Pd H f F.d ∧ Pd H pc (opn t).d ∧ Pd H due (.tuple [t.d, F.d]) ∧ Fit t ∧ Fit (opn t) ∧
  t.depth ≤ 41 ∧ (opn t).depth ≤ 41 ∧ t.sz ≤ 7000 ∧ (opn t).sz ≤ 7000 ∧ F.height ≤ 5 ∧ Ah a ∧ Marks a 0 m (wl t) ∧ m ≤ 3900 ∧ ∀ H', Same H H' → Q (.bl true) H'
theorem sc_law_right : FnScope ["_law_placed", "_law_form_here", "_law_piece", "_law_due", "_law_sign", "_law_most", "_law_found"] ["_law_placed", "_law_form_here", "_law_piece", "_law_due", "_law_sign", "_law_most"] (defScope s__law_right) := ⟨rfl, rfl, rfl, by decide +kernel, rfl, by decide +kernel, by decide +kernel⟩
theorem ok_law_right (T : Tx w K mg) (k : Nat) : HeldG P w K mg base (k + 46) (fL K "_law_right") sp_law_right := by
  have G_law_opened := ok_law_opened (P := P) (base := base) T (k + 1) 42
  have G_walls_in := ok_walls_in (P := P) (base := base) T k 42
  have G_law_fences := ok_law_fences (P := P) (base := base) T k 42
  have G_law_marks_right := ok_law_marks_right (P := P) (base := base) T (k + 37)
  refine FunD.heldG T.f__law_right sc_law_right (fun _ _ _ _ _ _ us hl => match us, hl with | [_, _, _, _, _, _], _ => rfl) (fun vs H Q E h => ?len) (fun fd cdv A outer s H vs Q E hgd hr h => ?body)
  case len => obtain ⟨v, f, pc, due, a, m, t, F, rfl, _⟩ := h; rfl
  case body =>
    obtain ⟨v, f, pc, due, a, m, t, F, rfl, hv, hf, hpv, hdue, fit, fito, dt, dto, zt, zto, hF, ha, hm, hm9, q⟩ := h
    have hu := hu_of hr
    refine ⟨_, (pss_cons (ps_if (PW.pt (pw_or (pt_cmpR op_ne (pe_callB (call_repr_data hgd hr.units) (by rfl) T.b_repr (by decide +kernel) (pa_cons (pe_cl G_law_opened hr T.g__law_opened (pa_cons (pv 0) pa_nil)) pa_nil)) (pe_callB (call_repr_data hgd hr.units) (by rfl) T.b_repr (by decide +kernel) (pa_cons (pv 2) pa_nil)) (nomark _)) (pw_or1 (pt_cmpR op_ne (pe_callB (call_repr_data hgd hr.units) (by rfl) T.b_repr (by decide +kernel) (pa_cons (pe_tup (pa_cons (pv 0) (pa_cons (pv 1) pa_nil))) pa_nil)) (pe_callB (call_repr_data hgd hr.units) (by rfl) T.b_repr (by decide +kernel) (pa_cons (pv 3) pa_nil)) (nomark _))))) (pss_one (ps_ret pe_bl)) pss_nil)
      (pss_cons (ps_set (i := 6) sc_law_right.nd rfl (by first | exact Or.inl rfl | exact Or.inr rfl) (pe_cl G_walls_in hr T.g_walls_in (pa_cons (pv 0) pa_nil)))
      (pss_cons (ps_if (PW.pt (pw_or (pt_cmpR op_ne (pe_callB (call_repr_data hgd hr.units) (by rfl) T.b_repr (by decide +kernel) (pa_cons (pv 6) pa_nil)) (pe_callB (call_repr_data hgd hr.units) (by rfl) T.b_repr (by decide +kernel) (pa_cons (pe_cl G_law_fences hr T.g__law_fences (pa_cons (pv 0) pa_nil)) pa_nil)) (nomark _)) (pw_or1 (pt_not (pt_val (pe_cl G_law_marks_right hr T.g__law_marks_right (pa_cons (pv 6) (pa_cons (pv 4) (pa_cons (pv 5) pa_nil))))))))) (pss_one (ps_ret pe_bl)) pss_nil)
      (pss_cons (ps_expr (pe_bm PySem.F.plainAttrs_list PySem.F.slot_list_append PySem.F.type_list_append mt_append (pv 6) (pa_cons pe_str pa_nil)))
      (pss_one (ps_ret (pe_cmpR (op_eqD hr.units) (pe_cl G_walls_in hr T.g_walls_in (pa_cons (pv 0) pa_nil)) (pe_slice sl_list (pv 6) po_none (po_some (pe_un un_neg pe_int))) (nomark _)))))))), ?_⟩
    have wfit := fit_wl t fit
    have wlen := wl_len t
    refine ⟨_, rfl, v, t, rfl, hv, by omega, fun H1 v1 s1 p1 => ?_⟩
    obtain ⟨o1, _, rfl, _⟩ := td_tup (opn t) p1
    obtain ⟨o2, _, rfl, _⟩ := td_tup (opn t) hpv
    have r1 := rp_term fito (by omega) (by omega)
    refine ⟨o1, _, rfl, p1.dp, r1.sh, r1.nod, r1.dp, r1.ln, _, rfl, o2, _, rfl, (hpv.same s1).dp, r1.sh, r1.nod, r1.dp, r1.ln, rfl, _, rfl, ifF (by simp) ?_⟩
    refine ⟨_, rfl, _, rfl, small_sz (by simp), fun z nz => ?_⟩
    have s2 := s1.trans (Same.new nz (o := .tup [v, f]))
    obtain ⟨o3, xs3, rfl, e3, h3⟩ := hdue.tup_of
    have r2 := rp_pair fit (by omega) (by omega) hF
    have p2 : Pd (upd H1 z (.tup [v, f])) (.ref z) (.tuple [t.d, F.d]) := .m2 upd_same (hv.same s2) (hf.same s2)
    refine ⟨z, _, rfl, p2.dp, r2.sh, r2.nod, r2.dp, r2.ln, _, rfl, o3, _, rfl, (hdue.same s2).dp, r2.sh, r2.nod, r2.dp, r2.ln, rfl, _, rfl, ifF (by simp) ?_⟩
    refine ⟨_, rfl, v, t, rfl, hv.same s2, by omega, by omega, fun H3 p ys s3 np e3 py => ?_⟩
    have s23 := s2.trans s3
    have r4 := rp_wls wfit (by omega)
    have hw2 := shaped_wls wfit
    refine ⟨_, rfl, p, _, rfl, .lst (sl e3) py.dp, r4.sh, r4.nod, r4.dp, r4.ln, _, rfl, v, t, rfl, hv.same s23, by omega, by omega, fun H4 p2 ys2 s4 np2 e4 py2 => ?_⟩
    refine ⟨p2, _, rfl, .lst (sl e4) py2.dp, r4.sh, r4.nod, r4.dp, r4.ln, rfl, _, rfl, ifF (by simp) ?_⟩
    refine ⟨_, rfl, _, rfl, _, rfl, p, ys, wl t, a, m, rfl, s4 _ _ e3, py.same s4, hm, ha, wfit, hm9, fun H5 s5 => ⟨_, rfl, ifF rfl ?_⟩⟩
    have s45 := s4.trans s5
    have e5 := s45 _ _ e3
    have hyl : ys.length = (wl t).length := by rw [py.length, List.length_map]
    refine ⟨_, rfl, ty_lst e5, p, _, _, rfl, rfl, e5, small_sz (by omega), ?_⟩
    have tk6 : TK H5 (upd H5 p (.lst (ys ++ [V.str "other"]))) := tk_lst (.mut p H5 _) e5
    have s6 : Same H (upd H5 p (.lst (ys ++ [V.str "other"]))) := fun b u eb => by
      have e2 := s2 _ _ eb
      rw [upd_ne (ne_of_none e2 np)]
      exact s45 _ _ (s3 _ _ e2)
    have e6 : (upd H5 p (.lst (ys ++ [V.str "other"]))) p = some (.lst (ys ++ [V.str "other"])) := upd_same
    have py6 := (py.same s45).keep tk6
    generalize (upd H5 p (.lst (ys ++ [V.str "other"]))) = H6 at tk6 s6 e6 py6
    refine ⟨_, rfl, v, t, rfl, hv.same s6, by omega, by omega, fun H7 p7 ys7 s7 np7 e7 py7 => ?_⟩
    refine ⟨_, rfl, _, rfl, _, rfl, p, _, rfl, sl (s7 _ _ e6), fun p8 np8 => ?_⟩
    have s8 := Same.new np8 (o := .lst ys)
    refine hpe (H' := upd H7 p8 (.lst ys)) (by rw [cut_most]) ?_
    refine ⟨_, _, .lst (sl (s8 _ _ e7)) (py7.same s8).dp, .lst (sl upd_same) ((py6.same s7).same s8).dp, hw2, hw2, ?_⟩
    rw [SeqAt.eqv_refl _ r4.lay]
    exact q _ ((s6.trans s7).trans s8)
end
end WS
set_option Elab.async false
set_option linter.all false
set_option maxRecDepth 100000
set_option maxHeartbeats 4000000
namespace WS
open PySem L2
/-- halls as they are drawn -/
structure HsIn (hs : List Hall) : Prop where
  ok : HsOk hs
  len : hs.length ≤ 3
  sm : ∀ h ∈ hs, h.F.height ≤ 2 ∧ h.e.sz ≤ 500
theorem opn_told {hs : List Hall} (ok : HsOk hs) {h : Hall} (hm : h ∈ hs) : opn (told hs h) = h.e := by
  unfold told
  rw [opn_fence, opn_pl h.x h.e (hctx hs) 1 (ok.ok h hm).1]
theorem name_ah {x : Str} (h : IsName x) : Ah x := ⟨h.le, (name_tx h).2⟩
theorem fit_told {hs : List Hall} (i : HsIn hs) {h : Hall} (hm : h ∈ hs) : Fit (told hs h) := by
  have o := i.ok.all h hm
  have lo := low_hctx i.ok.all
  have ok := (i.ok.ok h hm).1
  have hz := (i.sm h hm).2
  have hc := cnt_sz h.e
  exact fit_fence (mk_tx (name_ah o.nm) (by omega)) (fo_height _ _ ok o.wr lo) o.hi (fit_pl (name_ah o.nm) h.e _ 1 ok o.wr lo (by omega))
theorem told_sz2 {hs : List Hall} (i : HsIn hs) {h : Hall} (hm : h ∈ hs) : (told hs h).sz ≤ 2001 := by
  have h1 := fence_sz (mk h.x 1) (fo (hctx hs) h.e) h.F (pl h.x (hctx hs) 1 h.e)
  have h2 := pl_sz h.x h.e (hctx hs) 1 (i.ok.ok h hm).1
  have h3 := (i.sm h hm).2
  have h4 := cnt_sz h.e
  unfold told
  omega
theorem marks_told {hs : List Hall} (ok : HsOk hs) {h : Hall} (hm : h ∈ hs) : Marks h.x 0 (1 + cnt h.e) (wl (told hs h)) := by
  obtain ⟨a, b, _⟩ := ok.ok h hm
  exact (marks_pl h.x h.e (hctx hs) 1 (1 + cnt h.e) a rfl).fence b (by omega)
theorem all_fit {hs : List Hall} (i : HsIn hs) : ∀ w ∈ allWalls hs, WlFit w := fun w hw => by
  obtain ⟨h, hm, hw⟩ := List.mem_flatMap.mp hw
  exact fit_wl _ (fit_told i hm) w hw
theorem walls_few {hs : List Hall} (i : HsIn hs) : ∀ r : List Hall, (∀ h ∈ r, h ∈ hs) → (r.flatMap fun h => wl (told hs h)).length ≤ 2001 * r.length
  | [], _ => Nat.zero_le _
  | h :: r, hr => by
    have h1 := wl_len (told hs h)
    have h2 := told_sz2 i (hr h List.mem_cons_self)
    have h3 := walls_few i r fun x hx => hr x (List.mem_cons_of_mem _ hx)
    rw [List.flatMap_cons, List.length_append, List.length_cons]
    omega
section
variable {P : Program} {w : World} {K : PySem.W.Frag} {mg : Str → Option Value} {base : Heap}
def sp_halls_right (K : PySem.W.Frag) : Sp := fun vs H Q _ => ∃ (q l d : Addr) (xs : List V) (hs : List Hall), vs = [.ref q, .ref l, .ref d] ∧ PgAt K H q hs ∧ HsIn hs ∧ EnvAt H d (hctx hs) ∧ H l = some (.lst xs) ∧ PdAll H xs (hs.map Hall.d) ∧ ∀ H', Same H H' → Q (.bl true) H'
theorem sc_law_halls_right : FnScope ["_law_program", "_law_halls_here", "_law_forms", "_law_every", "_law_name_here", "_law_form_here", "_law_body", "_law_placed", "_law_wrong", "_law_told", "_law_due", "_law_many"] ["_law_program", "_law_halls_here", "_law_forms"] (defScope s__law_halls_right) := ⟨rfl, rfl, rfl, by decide +kernel, rfl, by decide +kernel, by decide +kernel⟩
theorem ok_law_halls_right (T : Tx w K mg) (k : Nat) : HeldG P w K mg base (k + 97) (fL K "_law_halls_right") (sp_halls_right K) := by
  have G_law_aimed := ok_laimed_all (P := P) (base := base) T k 21
  have G_Program_placed := ok_Program_placed (P := P) (base := base) T (k + 93)
  have G_law_places := ok_law_places (P := P) (base := base) T (k + 73) 21
  have G_law_right := (ok_law_right (P := P) (base := base) T (k + 50))
  have G_walls_in := ok_walls_in (P := P) (base := base) T (k + 51) 42
  have G_Program_walls := ok_Program_walls (P := P) (base := base) T (k + 50)
  refine FunD.heldG T.f__law_halls_right sc_law_halls_right (fun _ _ _ _ _ _ us hl => match us, hl with | [_, _, _], _ => rfl) (fun vs H Q E h => ?len) (fun fd cdv A outer s H vs Q E hgd hr h => ?body)
  case len => obtain ⟨q, l, d, xs, hs, rfl, _⟩ := h; rfl
  case body =>
    obtain ⟨q, l, d, xs, hs, rfl, pg, i, env, hl, hp, qq⟩ := h
    have hu := hu_of hr
    refine ⟨_, (pss_cons (ps_set (i := 3) sc_law_halls_right.nd rfl (by first | exact Or.inl rfl | exact Or.inr rfl) (pe_lst pa_nil))
      (pss_cons (ps_for PassesOwn.never rfl (pi_list (pv 1)) (pg_tup (n := 3) rfl (pgs_cons (pg_name (i := 4) sc_law_halls_right.nd rfl (Or.inl rfl)) (pgs_cons (pg_name (i := 5) sc_law_halls_right.nd rfl (Or.inl rfl)) (pgs_cons (pg_name (i := 6) sc_law_halls_right.nd rfl (Or.inl rfl)) pgs_nil)))) (pss_cons (ps_asg (pe_cl G_law_aimed hr T.g__law_aimed (pa_cons (pe_disp (pps_cons pe_str (pv 4) (pps_cons pe_str pe_int (pps_cons pe_str (pv 2) pps_nil))) (by rfl) (by rfl) (fun z => by cases z) (by decide)) (pa_cons (pv 6) (pa_cons (pe_lst pa_nil) (pa_cons (pv 5) pa_nil))))) (pg_tup (n := 2) rfl (pgs_cons (pg_name (i := 7) sc_law_halls_right.nd rfl (Or.inl rfl)) (pgs_cons (pg_name (i := 8) sc_law_halls_right.nd rfl (Or.inl rfl)) pgs_nil))))
      (pss_cons (ps_par (i := 9) (j := 10) rfl sc_law_halls_right.nd rfl rfl (by decide) rfl rfl (pa_cons (pe_mt G_Program_placed hr T.c_Program T.m_Program_placed (pv 0) (pa_cons (pv 4) pa_nil)) (pa_cons (pe_tup (pa_cons (pv 7) (pa_cons (pv 5) pa_nil))) pa_nil)) (by first | rfl | kernel_rfl))
      (pss_cons (ps_set (i := 11) sc_law_halls_right.nd rfl (by first | exact Or.inl rfl | exact Or.inr rfl) (pe_op op_add pe_int (pe_cl G_law_places hr T.g__law_places (pa_cons (pv 6) pa_nil))))
      (pss_cons (ps_if (PW.pt (pw_or (pt_cmpR op_notN (pv 8) pe_non (nomark _)) (pw_or1 (pt_not (pt_val (pe_clG G_law_right hgd hr T.g__law_right (pa_cons (pv 9) (pa_cons (pv 5) (pa_cons (pv 6) (pa_cons (pv 10) (pa_cons (pv 4) (pa_cons (pv 11) pa_nil)))))))))))) (pss_one (ps_ret pe_bl)) pss_nil)
      (pss_one (ps_expr (pe_bm PySem.F.plainAttrs_list PySem.F.slot_list_extend PySem.F.type_list_extend mt_extend (pv 3) (pa_cons (pe_cl G_walls_in hr T.g_walls_in (pa_cons (pv 9) pa_nil)) pa_nil)))))))))
      (pss_cons (ps_set (i := 9) sc_law_halls_right.nd rfl (by first | exact Or.inl rfl | exact Or.inr rfl) (pe_mt0 G_Program_walls hr T.c_Program T.m_Program_walls (pv 0)))
      (pss_cons (ps_expr (pe_bm PySem.F.plainAttrs_list PySem.F.slot_list_append PySem.F.type_list_append mt_append (pv 9) (pa_cons pe_str pa_nil)))
      (pss_one (ps_ret (pe_cmpR op_eq (pe_callB (call_repr_data hgd hr.units) (by rfl) T.b_repr (by decide +kernel) (pa_cons (pe_mt0 G_Program_walls hr T.c_Program T.m_Program_walls (pv 0)) pa_nil)) (pe_callB (call_repr_data hgd hr.units) (by rfl) T.b_repr (by decide +kernel) (pa_cons (pv 3) pa_nil)) (nomark _)))))))), ?_⟩
    have hxl : xs.length = hs.length := by rw [hp.length, List.length_map]
    refine ⟨small_sz (by simp), fun ev nev => ?_⟩
    have s0 := Same.new nev (o := .lst [])
    refine ⟨_, rfl, l, rfl, ⟨_, sl (s0 _ _ hl)⟩, forS (src_list (xs := xs)) (fun j σ H' => ∃ y4 y5 y6 y7 y8 y9 y10 y11 ys, σ = [some (.ref q), some (.ref l), some (.ref d), some (.ref ev), y4, y5, y6, y7, y8, y9, y10, y11] ∧ Same H H' ∧ H' ev = some (.lst ys) ∧ PdAll H' ys (((hs.take j).flatMap fun h => wl (told hs h)).map Wl.d)) ⟨none, none, none, none, none, none, none, none, [], rfl, s0, upd_same, .nil⟩ (fun j σ H' ⟨_, _, _, _, _, _, _, _, _, _, s, _⟩ => sl (s _ _ hl)) ?_ ?_⟩
    · rintro j x σ H2 H3 hj ⟨y4, y5, y6, y7, y8, y9, y10, y11, ys, rfl, s2, e2, p2⟩ sm ey
      obtain ⟨h, eh, ph⟩ := PdAll.atG hp ey
      have hm := List.mem_of_getElem? eh
      have ho := i.ok.all h hm
      obtain ⟨hok, hnr, _⟩ := i.ok.ok h hm
      have hsz := (i.sm h hm).2
      have hcs := cnt_sz h.e
      have s3 := s2.trans sm
      obtain ⟨T1, f, e, rfl, eT, pf, pe⟩ := ihall (ph.same s3)
      refine ⟨T1, _, rfl, st eT, rfl, _, _, rfl, _, _, rfl, _, _, rfl, rfl, ?_⟩
      refine fun p np => ⟨_, rfl, _, rfl, upd_same, [(.inr "ahead", .str h.x), (.inr "count", .int 0), (.inr "forms", .ref d)], rfl, by simp, ?_⟩
      have sp : Same H3 (upd (upd H3 p (.dK [])) p (.dK (mergeK [] [(.inr "ahead", .str h.x), (.inr "count", .int 0), (.inr "forms", .ref d)]))) := by
        rw [upd_upd]
        exact Same.new np
      have hpc : Lc (upd (upd H3 p (.dK [])) p (.dK (mergeK [] [(.inr "ahead", .str h.x), (.inr "count", .int 0), (.inr "forms", .ref d)]))) p h.x d 0 := upd_same
      generalize (upd (upd H3 p (.dK [])) p (.dK (mergeK [] [(.inr "ahead", .str h.x), (.inr "count", .int 0), (.inr "forms", .ref d)]))) = H4 at sp hpc
      refine ⟨_, rfl, small_sz (by simp), fun b nb => ⟨_, rfl, ?_⟩⟩
      have s5 := sp.trans (Same.new nb (o := .lst []))
      have s35 := s3.trans s5
      refine ⟨p, b, d, e, h.x, hctx hs, [], 0, h.e, f, h.F, rfl, ⟨hpc.same (Same.new nb), ⟨env.keep (fun kvs e => s35 _ _ e) s35.tk, ⟨[], upd_same, .nil⟩, by rw [List.append_nil]; exact low_hctx i.ok.all⟩, pe.same s5, by rw [List.append_nil]; exact hok, ho.wr, ho.nm.le, by omega, by have := ho.dp; show 0 + h.e.depth ≤ 1000; omega⟩, by omega, by have := ho.dp; omega, pf.same s5, by have := ho.hi; omega, by rw [List.append_nil]; exact hnr, fun H6 r x6 k6 c6 er px => ?_⟩
      rw [List.append_nil] at px
      have px : Pd H6 x6 (told hs h).d := px
      have npH : H p = none := by
        cases e0 : H p with
        | none => rfl
        | some u =>
          have := s3 _ _ e0
          rw [np] at this
          cases this
      have s6 : Same H H6 := fun b u eb => k6 b u (ne_of_none eb npH) (s35 _ _ eb)
      have hevp : ev ≠ p := ne_of_none (sm _ _ e2) np
      have e6 := k6 _ _ hevp (s5 _ _ (sm _ _ e2))
      have tk6 := (hpc.same (Same.new nb (o := .lst []))).tk k6
      have tk36 : TK H3 H6 := s5.tk.trans tk6
      refine ⟨r, _, rfl, st er, rfl, _, _, rfl, _, _, rfl, rfl, ?_⟩
      have pg0 := pg
      obtain ⟨dx, l1, df, dt, hq, _⟩ := pg0
      refine ⟨_, rfl, q, dx, _, rfl, s6 _ _ hq, by rfl, _, rfl, q, hs, h, rfl, pg.same s6, i.ok.nd, hm, ho.nm, fun H7 v7 s7 p7 => ?_⟩
      refine ⟨_, rfl, _, rfl, small_sz (by simp), fun z nz => ⟨_, _, rfl, ?_⟩⟩
      have s8 := s7.trans (Same.new nz (o := .tup [x6, f]))
      have pe8 := (pe.keep tk36).same s8
      have pf8 := (pf.keep tk36).same s8
      have pt8 := p7.same (Same.new nz (o := .tup [x6, f]))
      have pd8 : Pd (upd H7 z (.tup [x6, f])) (.ref z) (.tuple [(told hs h).d, h.F.d]) := .m2 upd_same (px.same s8) pf8
      have e8 := s8 _ _ e6
      have s68 := s6.trans s8
      have tk38 := tk36.trans s8.tk
      generalize (upd H7 z (.tup [x6, f])) = H8 at s8 pe8 pf8 pt8 pd8 e8 s68 tk38
      refine ⟨_, rfl, e, h.e, rfl, pe8, by have := ho.dp; omega, fun H9 s9 => ⟨_, _, rfl, rfl, ?_⟩⟩
      have td := told_depth i.ok hm
      have tz := told_sz2 i hm
      have ot := opn_told i.ok hm
      have dp := ho.dp
      refine ⟨_, rfl, rfl, _, rfl, ifF (by simp) ⟨_, rfl, _, rfl, _, rfl, _, rfl, _, rfl, _, rfl, v7, f, e, .ref z, h.x, 1 + cnt h.e, told hs h, h.F, rfl, pt8.same s9, pf8.same s9, by rw [ot]; exact pe8.same s9, pd8.same s9, fit_told i hm, by rw [ot]; exact wr_fit _ ho.wr, by omega, by rw [ot]; omega, by omega, by rw [ot]; omega, ho.hi, name_ah ho.nm, marks_told i.ok hm, by omega, fun H10 s10 => ⟨_, rfl, ifF rfl ?_⟩⟩⟩
      have s90 := s9.trans s10
      refine ⟨_, rfl, ty_lst (s90 _ _ e8), _, rfl, v7, told hs h, rfl, pt8.same s90, by omega, by omega, fun H11 l2 zs s11 nl2 el2 pz => ?_⟩
      have s91 := s90.trans s11
      have e11 := s91 _ _ e8
      have hyl : ys.length ≤ 8004 := by
        have h1 := walls_few i (hs.take j) fun x hx => List.mem_of_mem_take hx
        have h2 : (hs.take j).length ≤ 3 := by rw [List.length_take]; have := i.len; omega
        rw [p2.length, List.length_map]
        omega
      have hzl : zs.length ≤ 2001 := by
        have := wl_len (told hs h)
        rw [pz.length, List.length_map]
        omega
      have tkx : TK H11 (upd H11 ev (.lst (ys ++ zs))) := tk_lst (.mut ev H11 _) e11
      refine ⟨ev, l2, ys, zs, rfl, rfl, e11, el2, small_sz (by omega), ?_⟩
      refine ⟨_, _, _, _, _, _, _, _, _, rfl, fun b u eb => ?_, upd_same, ?_⟩
      · rw [upd_ne (ne_of_none eb nev)]
        exact s91 _ _ (s68 _ _ eb)
      · rw [List.take_succ, eh, List.flatMap_append, List.map_append]
        refine PdAll.app ((((p2.same sm).keep tk38).same s91).keep tkx) ?_
        have := pz.keep tkx
        simpa using this
    · rintro σ H2 ⟨y4, y5, y6, y7, y8, y9, y10, y11, ys, rfl, s2, e2, p2⟩
      rw [hxl, List.take_length] at p2
      have pg0 := pg
      obtain ⟨dx, l1, df, dt, hq, _⟩ := pg0
      refine ⟨_, rfl, q, dx, _, rfl, s2 _ _ hq, by rfl, q, hs, rfl, pg.same s2, i.ok, fun H3 p zs s3 np e3 pz => ?_⟩
      have hal : (allWalls hs).length ≤ 6003 := by
        have h1 := walls_few i hs fun _ h => h
        have h2 := i.len
        have h3 : (allWalls hs).length ≤ 2001 * hs.length := h1
        omega
      have hzl : zs.length ≤ 6003 := by
        rw [pz.length, List.length_map]
        exact hal
      refine ⟨_, rfl, ty_lst e3, p, _, _, rfl, rfl, e3, small_sz (by omega), ?_⟩
      have s4 : Same H2 (upd H3 p (.lst (zs ++ [V.str "other"]))) := fun b u eb => by
        rw [upd_ne (ne_of_none eb np)]
        exact s3 _ _ eb
      generalize (upd H3 p (.lst (zs ++ [V.str "other"]))) = H4 at s4
      have s24 := s2.trans s4
      have r := rp_wls (all_fit i) (by omega)
      refine ⟨_, rfl, q, dx, _, rfl, s24 _ _ hq, by rfl, q, hs, rfl, pg.same s24, i.ok, fun H5 p5 zs5 s5 np5 e5 pz5 => ?_⟩
      refine ⟨p5, _, rfl, .lst (sl e5) pz5.dp, r.sh, r.nod, r.dp, r.ln, _, rfl, ev, _, rfl, .lst (sl (s5 _ _ (s4 _ _ e2))) ((p2.same s4).same s5).dp, r.sh, r.nod, r.dp, r.ln, rfl, ?_⟩
      exact qe (congrArg V.bl (decide_eq_true rfl)) (qq _ (s24.trans s5))
end
end WS
set_option Elab.async false
set_option linter.all false
set_option maxRecDepth 100000
set_option maxHeartbeats 4000000
namespace WS
open PySem L2
theorem sq_same {K : PySem.W.Frag} {H H' : Hp} {a : Addr} {xs : List V} (h : SqL K H a xs) (s : Same H H') : SqL K H' a xs := by
  rcases h with (h | ⟨o, h⟩) | h
  · exact .inl (.inl (s _ _ h))
  · exact .inl (.inr ⟨o, s _ _ h⟩)
  · exact .inr h
theorem PgAt.kp {K : PySem.W.Frag} {H H' : Hp} {q p : Addr} {hs : List Hall} (h : PgAt K H q hs) (c : PotAt H p) (k : Kp p H H') : PgAt K H' q hs := by
  obtain ⟨a, b, hp, _⟩ := c
  have ne : ∀ {r : Addr} {o : HO}, H r = some o → (∀ xs, o ≠ .lst xs) → r ≠ p := fun e n z => by
    rw [z, hp] at e
    cases e
    exact n _ rfl
  have tk : TK H H' := k.tk fun xs e => by rw [hp] at e; cases e
  obtain ⟨dx, l, df, dt, hq, h1, h2⟩ := h
  exact ⟨dx, l, df, dt, k _ _ (ne hq fun xs e => by cases e) hq, h1.keep (fun kvs e => k _ _ (ne e fun xs e => by cases e) e) tk, h2.keep (fun kvs e => k _ _ (ne e fun xs e => by cases e) e) tk⟩
theorem EnvAt.kp {H H' : Hp} {d p : Addr} {g : Ctx} (h : EnvAt H d g) (c : PotAt H p) (k : Kp p H H') : EnvAt H' d g := by
  obtain ⟨a, b, hp, _⟩ := c
  have tk : TK H H' := k.tk fun xs e => by rw [hp] at e; cases e
  exact h.keep (fun kvs e => k _ _ (fun z => by rw [z, hp] at e; cases e) e) tk
theorem env_new {H : Hp} {d : Addr} {kvs : List (Key × V)} {g : Ctx} (h : EnvK H kvs g) (nd : H d = none) : EnvAt (upd H d (.dK kvs)) d g := by
  refine ⟨kvs, upd_same, fun x => ?_⟩
  have h := h x
  cases e : look g x with
  | some F =>
    rw [e] at h
    obtain ⟨v, a, b⟩ := h
    exact ⟨v, a, b.same (Same.new nd)⟩
  | none =>
    rw [e] at h
    exact h
theorem pot_kp {H H' : Hp} {p r : Addr} (h : PotAt H p) (hne : p ≠ r) (k : Kp r H H') : PotAt H' p := by
  obtain ⟨a, b, e, q⟩ := h
  exact ⟨a, b, k _ _ hne e, q⟩
theorem Same.of_kp {H H1 H2 : Hp} {p : Addr} (s : Same H H1) (np : H p = none) (k : Kp p H1 H2) : Same H H2 := fun b u eb => k b u (ne_of_none eb np) (s _ _ eb)
theorem none_of {H H' : Hp} {p : Addr} (s : Same H H') (np : H' p = none) : H p = none := by
  cases e : H p with
  | none => rfl
  | some u =>
    have := s _ _ e
    rw [np] at this
    cases this
section
variable {P : Program} {w : World} {K : PySem.W.Frag} {mg : Str → Option Value} {base : Heap}
def sp_law (K : PySem.W.Frag) : Sp := fun vs H Q _ => ∃ (l0 : Addr) (ns : List Int), vs = [.ref l0] ∧ SqL K H l0 (ns.map V.int) ∧ ns.length ≤ 63 ∧ ∀ H', Q (.bl true) H'
theorem sc_law : FnScope ["_law_script", "_law_k", "_law_pot_here", "_law_halls_here", "_law_program", "_law_forms", "_law_name_here", "_law_form_here", "_law_body", "_law_seen", "_law_turn", "_law_piece", "_law_sign", "_law_placed", "_law_wrong", "_law_told"] ["_law_script"] (defScope s_law) := ⟨rfl, rfl, rfl, by decide +kernel, rfl, by decide +kernel, by decide +kernel⟩
theorem ok_law (T : Tx w K mg) (k : Nat) {fd0 : FuncData} (F0 : FunD K "law" "law" (defArgs s_law) (defBody s_law) (defScope s_law) [] [] (fL K "law") fd0) : FnG P w K mg base (k + 100) (fL K "law") fd0 ["_law_script"] (sp_law K) := by
  have G_law_pot := ok_law_pot (P := P) (base := base) T (k + 98)
  have G_law_digit := ok_law_digit (P := P) (base := base) T (k + 98)
  have G_law_halls := ok_law_halls (P := P) (base := base) T (k + 82)
  have G_Program_init := ok_Program_init (P := P) (base := base) T k
  have G_law_halls_right := ok_law_halls_right (P := P) (base := base) T (k + 2)
  have G_law_term : ∀ i : Fin 3, Held P w K mg base (k + 99) (fL K "_law_term") (sp_term (i.val + 1)) := fun i => (ok_law_term (P := P) (base := base) T (k + 80) (i.val + 1)).mono (by omega)
  have G_law_form := ok_law_form (P := P) (base := base) T (k + 95) 3
  have G_law_pick := ok_law_pick (P := P) (base := base) T (k + 97)
  have G_law_place := ok_law_place (P := P) (base := base) T (k + 5) 21
  have G_law_places := ok_law_places (P := P) (base := base) T (k + 76) 21
  have G_law_right := ok_law_right (P := P) (base := base) T (k + 53)
  obtain ⟨fdp, Fp, ⟨dsp, hdp, hbp⟩, ⟨gp, hkp⟩, _⟩ := ok_place (P := P) (base := base) T (k + 3)
  refine FunD.okG F0 sc_law (fun vs H Q E h => ?len) (fun cdv A outer s H vs Q E hgd hr h => ?body)
  case len => obtain ⟨l0, ns, rfl, _⟩ := h; rfl
  case body =>
    obtain ⟨l0, ns, rfl, hl, hn, qq⟩ := h
    have hu := hu_of hr
    have hrM := hr
    refine ⟨_, (pss_cons (ps_for PassesOwn.never rfl (pi_range1 rfl T.b_range (pa_cons (pe_callB (call_max2 rfl) (by rfl) T.b_max (by decide +kernel) (pa_cons pe_int (pa_cons (pe_callB (call_min2 rfl) (by rfl) T.b_min (by decide +kernel) (pa_cons pe_int (pa_cons (pe_callB call_len_seq (by rfl) T.b_len PySem.boot_len (pa_cons (pv 0) pa_nil)) pa_nil))) pa_nil))) pa_nil)) (pg_name (i := 1) sc_law.nd rfl (Or.inl rfl)) (pss_cons (ps_set (i := 2) sc_law.nd rfl (by first | exact Or.inl rfl | exact Or.inr rfl) (pe_cl G_law_pot hr T.g__law_pot (pa_cons (pv 0) (pa_cons (pv 1) pa_nil))))
      (pss_cons (ps_set (i := 3) sc_law.nd rfl (by first | exact Or.inl rfl | exact Or.inr rfl) (pe_cl G_law_halls hr T.g__law_halls (pa_cons (pv 2) (pa_cons (pe_cl G_law_digit hr T.g__law_digit (pa_cons (pv 2) (pa_cons pe_int pa_nil))) pa_nil))))
      (pss_cons (ps_par (i := 4) (j := 5) rfl sc_law.nd rfl rfl (by decide) rfl rfl (pa_cons (pe_mkI G_Program_init hrM T.k_Program T.g_Program (pa_cons (pe_callTy call_list_of (by rfl) T.b_list (by decide +kernel) (pa_cons (pv 3) pa_nil)) pa_nil)) (pa_cons (pe_callTy (call_dictP rfl) (by rfl) T.b_dict (by decide +kernel) (pa_cons (pe_lc (own := [("_law_name_here", 6), ("_law_form_here", 7), ("_law_body", 8)]) rfl sc_law.nd (pi_list (pv 3)) (blkOk_by (own := [("_law_name_here", 6), ("_law_form_here", 7), ("_law_body", 8)]) (N := ["_law_script", "_law_k", "_law_pot_here", "_law_halls_here", "_law_program", "_law_forms", "_law_name_here", "_law_form_here", "_law_body", "_law_seen", "_law_turn", "_law_piece", "_law_sign", "_law_placed", "_law_wrong", "_law_told"]) (sc := defScope s_law) (by decide +kernel)) (fun _ _ _ _ _ => (pg_tupK (K := K) (n := 3) rfl (pgs_cons (pg_name (i := 6) sc_law.nd rfl (Or.inl rfl)) (pgs_cons (pg_name (i := 7) sc_law.nd rfl (Or.inl rfl)) (pgs_cons (pg_name (i := 8) sc_law.nd rfl (Or.inl rfl)) pgs_nil))))) (fun _ _ _ _ _ => pts_nil) (fun _ _ _ _ _ => (pe_tup (pa_cons (pv 6) (pa_cons (pv 7) pa_nil))))) pa_nil)) pa_nil)) (by first | rfl | kernel_rfl))
      (pss_cons (ps_if (pt_not (pt_val (pe_clG G_law_halls_right hgd hr T.g__law_halls_right (pa_cons (pv 4) (pa_cons (pv 3) (pa_cons (pv 5) pa_nil)))))) (pss_one (ps_ret pe_bl)) pss_nil)
      (pss_cons (ps_setLc (i := 9) (own := [("_law_name_here", 6), ("_law_form_here", 7), ("_law_body", 8)]) rfl sc_law.nd rfl rfl (sw_true rfl rfl rfl (by decide +kernel)) (pi_list (pv 3)) (blkOk_by (own := [("_law_name_here", 6), ("_law_form_here", 7), ("_law_body", 8)]) (N := ["_law_script", "_law_k", "_law_pot_here", "_law_halls_here", "_law_program", "_law_forms", "_law_name_here", "_law_form_here", "_law_body", "_law_seen", "_law_turn", "_law_piece", "_law_sign", "_law_placed", "_law_wrong", "_law_told"]) (sc := defScope s_law) (by decide +kernel)) (fun _ _ _ _ _ => (pg_tupK (K := K) (n := 3) rfl (pgs_cons (pg_name (i := 6) sc_law.nd rfl (Or.inl rfl)) (pgs_cons (pg_name (i := 7) sc_law.nd rfl (Or.inl rfl)) (pgs_cons (pg_name (i := 8) sc_law.nd rfl (Or.inl rfl)) pgs_nil))))) (fun _ _ _ _ _ => pts_nil) (fun _ _ _ _ _ => (pe_tup (pa_cons (pv 6) (pa_cons (pv 7) pa_nil)))))
      (pss_one (ps_for PassesOwn.never rfl (pi_range1 rfl T.b_range (pa_cons pe_int pa_nil)) (pg_name (i := 10) sc_law.nd rfl (Or.inl rfl)) (pss_cons (ps_set (i := 11) sc_law.nd rfl (by first | exact Or.inl rfl | exact Or.inr rfl) (pe_clU G_law_term hr T.g__law_term (pa_cons (pv 2) (pa_cons (pv 9) (pa_cons (pe_cl G_law_form hr T.g__law_form (pa_cons (pv 2) (pa_cons pe_int pa_nil))) (pa_cons (pe_ix ix_list (pe_lst (pa_cons pe_int (pa_cons pe_int (pa_cons pe_int (pa_cons pe_int pa_nil))))) (pe_cl G_law_digit hr T.g__law_digit (pa_cons (pv 2) (pa_cons pe_int pa_nil))) (fun _ _ => rfl)) pa_nil))))))
      (pss_cons (ps_set (i := 12) sc_law.nd rfl (by first | exact Or.inl rfl | exact Or.inr rfl) (pe_cl G_law_pick hr T.g__law_pick (pa_cons (pv 2) (pa_cons (pe_lst (pa_cons pe_str (pa_cons pe_str (pa_cons pe_str (pa_cons pe_str (pa_cons pe_str pa_nil)))))) pa_nil))))
      (pss_cons (ps_asg (pe_cl G_law_place hr T.g__law_place (pa_cons (pe_disp (pps_cons pe_str (pv 12) (pps_cons pe_str pe_int (pps_cons pe_str (pv 5) pps_nil))) (by rfl) (by rfl) (fun z => by cases z) (by decide)) (pa_cons (pv 11) (pa_cons (pe_lst pa_nil) pa_nil)))) (pg_tup (n := 3) rfl (pgs_cons (pg_name (i := 13) sc_law.nd rfl (Or.inl rfl)) (pgs_cons (pg_name (i := 7) sc_law.nd rfl (Or.inl rfl)) (pgs_cons (pg_name (i := 14) sc_law.nd rfl (Or.inl rfl)) pgs_nil)))))
      (pss_one (ps_if (pt_cmpR op_isN (pv 14) pe_non (nomark _)) (pss_cons (ps_set (i := 15) sc_law.nd rfl (by first | exact Or.inl rfl | exact Or.inr rfl) (pe_ifExp (pt_cmpR op_eq (pv 12) pe_str (nomark _)) (pe_meth (pv 4) T.c_Program T.m_Program_place Fp hr hbp hdp pass0 (pa_cons (pv 11) pa_nil)) (pe_mtN (pv 4) T.c_Program T.m_Program_place Fp hr hkp (pa_cons (pv 11) pa_nil) (pk_cons (pv 12) pk_nil))))
      (pss_one (ps_if (pt_not (pt_val (pe_clG G_law_right hgd hr T.g__law_right (pa_cons (pe_ix ix_tup (pv 15) pe_int (fun _ _ => rfl)) (pa_cons (pe_ix ix_tup (pv 15) pe_int (fun _ _ => rfl)) (pa_cons (pv 11) (pa_cons (pe_tup (pa_cons (pv 13) (pa_cons (pv 7) pa_nil))) (pa_cons (pv 12) (pa_cons (pe_cl G_law_places hr T.g__law_places (pa_cons (pv 11) pa_nil)) pa_nil))))))))) (pss_one (ps_ret pe_bl)) pss_nil))) pss_nil)))))))))))))
      (pss_one (ps_ret pe_bl))), ?_⟩
    obtain ⟨m, em, hm4⟩ : ∃ m : Nat, (if (if ((ns.map V.int).length : Int) < 4 then ((ns.map V.int).length : Int) else 4) > 1 then (if ((ns.map V.int).length : Int) < 4 then ((ns.map V.int).length : Int) else 4) else 1) = ((m : Nat) : Int) ∧ m ≤ 4 := by
      refine ⟨Int.toNat _, (Int.toNat_of_nonneg ?_).symm, ?_⟩
      · split <;> split <;> omega
      · split <;> split <;> omega
    refine ⟨_, rfl, l0, _, rfl, .inl hl, _, _, rfl, _, _, rfl, ((m : Nat) : Int), congrArg (fun z => [V.int z]) em, by omega, by omega, forS (src_range (lo := 0) (n := ((m : Nat) : Int).toNat)) (fun i σ H' => ∃ y1 y2 y3 y4 y5 y6 y7 y8 y9 y10 y11 y12 y13 y14 y15, σ = [some (.ref l0), y1, y2, y3, y4, y5, y6, y7, y8, y9, y10, y11, y12, y13, y14, y15] ∧ Same H H') ⟨none, none, none, none, none, none, none, none, none, none, none, none, none, none, none, rfl, Same.refl _⟩ (fun _ _ _ _ => True.intro) ?_ ?_⟩
    · rintro i x σ H0 H1 hi ⟨y1, y2, y3, y4, y5, y6, y7, y8, y9, y10, y11, y12, y13, y14, y15, rfl, s0⟩ sm rfl
      have hi : i < m := hi
      have s1 := s0.trans sm
      refine ⟨_, rfl, _, rfl, l0, ns, _, rfl, sq_same hl s1, by omega, by omega, fun H2 p s2 np cp => ?_⟩
      refine ⟨_, rfl, _, rfl, p, 4, rfl, cp, by decide, by decide, fun H3 d3 k3 c3 d30 d34 => ?_⟩
      obtain ⟨dn, rfl⟩ : ∃ n : Nat, d3 = ((n : Nat) : Int) := ⟨d3.toNat, by omega⟩
      refine ⟨p, dn, rfl, c3, by omega, fun H4 l xs hs k4 c4 hlp el ph hok hlen hsm => ?_⟩
      have hin : HsIn hs := ⟨hok, hlen, hsm⟩
      have sH4 : Same H1 H4 := fun b u eb => k4 b u (ne_of_none eb np) (k3 b u (ne_of_none eb np) (s2 _ _ eb))
      have npH1 := np
      refine ⟨_, rfl, l, xs, rfl, .inl (sl el), fun l2 nl2 => ?_⟩
      have s5 := Same.new nl2 (o := .lst xs)
      refine fun q dx nq ndx hne => ⟨q, l2, dx, xs, hs, rfl, upd_same, ?_, ?_, hok, fun H7 k7 pg7 => ⟨rfl, ?_⟩⟩
      · have h1 : l2 ≠ q := ne_of_none upd_same nq
        have h2 : l2 ≠ dx := ne_of_none upd_same ndx
        rw [upd_ne h1, upd_ne h2]
        exact upd_same
      · refine (ph.same s5).same fun b u eb => ?_
        rw [upd_ne (ne_of_none eb nq), upd_ne (ne_of_none eb ndx)]
        exact eb
      have s47 : Same H4 H7 := fun b u eb => by
        have e5 := s5 _ _ eb
        refine k7 b u (ne_of_none e5 nq) ?_
        rw [upd_ne (ne_of_none e5 nq), upd_ne (ne_of_none e5 ndx)]
        exact e5
      have el7 := s47 _ _ el
      have ph7 := ph.same s47
      have hxl : xs.length = hs.length := by rw [ph.length, List.length_map]
      refine ⟨_, rfl, l, rfl, ⟨_, sl el7⟩, fun D hD => ?_⟩
      refine lcS (σ := [some (.ref l0), some (.int (0 + ((i : Nat) : Int))), some (.ref p), some (.ref l), y4, y5, y6, y7, y8, y9, y10, y11, y12, y13, y14, y15]) (src_list (xs := xs)) (fun j acc H' => Same H7 H' ∧ PdAll H' acc ((hctx (hs.take j)).map bdD)) (small_sz (by omega)) ⟨Same.new hD, .nil⟩ (fun j acc H' pv => sl (pv.1 _ _ el7)) (fun j y acc H' HX KK K2 hj hla pv hDl smx hI kk _ => ?_) (fun acc H8 hla pv E8 => ?_)
      · obtain ⟨sx, pa⟩ := pv
        obtain ⟨h, eh, phh⟩ := PdAll.atG ph7 hI
        have sx2 := sx.trans smx
        obtain ⟨T1, f, e, rfl, eT, pf, pe⟩ := ihall (phh.same sx2)
        refine ⟨T1, _, rfl, st eT, rfl, _, _, rfl, _, _, rfl, _, _, rfl, rfl, rfl, _, rfl, _, rfl, small_sz (by simp), fun t nt => ?_⟩
        have st2 := Same.new nt (o := .tup [.str h.x, f])
        have eD2 := st2 _ _ (smx _ _ hDl)
        have tkD : TK (upd HX t (.tup [.str h.x, f])) (upd (upd HX t (.tup [.str h.x, f])) D (.lst (acc ++ [.ref t]))) := tk_lst (.mut D _ _) eD2
        refine kk _ _ eD2 ⟨fun b u eb => ?_, ?_⟩
        · rw [upd_ne (ne_of_none eb hD)]
          exact st2 _ _ (sx2 _ _ eb)
        · rw [List.take_succ, eh]
          unfold hctx
          rw [List.map_append, List.map_append]
          have pb : Pd (upd HX t (.tup [.str h.x, f])) (.ref t) (bdD (h.x, h.F)) := .m2 upd_same (.str _) (pf.same st2)
          exact PdAll.app (((pa.same smx).same st2).keep tkD) (.one (pb.keep tkD))
      obtain ⟨s7, P8⟩ := pv
      rw [hxl, List.take_length] at P8
      obtain ⟨ps, kvs, rfl, pr, em2⟩ := env_merge (K := K) _ (hctx hs) P8
      obtain ⟨env, _⟩ := em2 [] [] 0 (fun x => rfl) ⟨[], rfl, Nat.le_refl _⟩
      rw [List.nil_append] at env
      refine ⟨D, ps, kvs, rfl, sl E8, pr, fun d nd => ⟨_, _, rfl, ?_⟩⟩
      have s9 := s7.trans (Same.new nd (o := .dK (mergeK [] kvs)))
      have env9 := env_new env nd
      generalize (upd H8 d (.dK (mergeK [] kvs))) = H9 at s9 env9
      have s49 := s47.trans s9
      refine ⟨_, rfl, _, rfl, _, rfl, q, l, d, xs, hs, rfl, pg7.same s9, hin, env9, s49 _ _ el, ph.same s49, fun H10 s10 => ⟨_, rfl, ifF rfl ?_⟩⟩
      have s4A := s49.trans s10
      have elA := s4A _ _ el
      have phA := ph.same s4A
      refine ⟨_, rfl, l, rfl, ⟨_, sl elA⟩, fun B hB => ?_⟩
      refine lcS (σ := [some (.ref l0), some (.int (0 + ((i : Nat) : Int))), some (.ref p), some (.ref l), (some (.ref q)), (some (.ref d)), y6, y7, y8, y9, y10, y11, y12, y13, y14, y15]) (src_list (xs := xs)) (fun j acc H' => Same H10 H' ∧ PdAll H' acc ((hctx (hs.take j)).map bdD)) (small_sz (by omega)) ⟨Same.new hB, .nil⟩ (fun j acc H' pv => sl (pv.1 _ _ elA)) (fun j y acc H' HX KK K2 hj hla pv hDl smx hI kk _ => ?_) (fun acc HB hla pv EB => ?_)
      · obtain ⟨sx, pa⟩ := pv
        obtain ⟨h, eh, phh⟩ := PdAll.atG phA hI
        have sx2 := sx.trans smx
        obtain ⟨T1, f, e, rfl, eT, pf, pe⟩ := ihall (phh.same sx2)
        refine ⟨T1, _, rfl, st eT, rfl, _, _, rfl, _, _, rfl, _, _, rfl, rfl, rfl, _, rfl, _, rfl, small_sz (by simp), fun t nt => ?_⟩
        have st2 := Same.new nt (o := .tup [.str h.x, f])
        have eD2 := st2 _ _ (smx _ _ hDl)
        have tkD : TK (upd HX t (.tup [.str h.x, f])) (upd (upd HX t (.tup [.str h.x, f])) B (.lst (acc ++ [.ref t]))) := tk_lst (.mut B _ _) eD2
        refine kk _ _ eD2 ⟨fun b u eb => ?_, ?_⟩
        · rw [upd_ne (ne_of_none eb hB)]
          exact st2 _ _ (sx2 _ _ eb)
        · rw [List.take_succ, eh]
          unfold hctx
          rw [List.map_append, List.map_append]
          have pb : Pd (upd HX t (.tup [.str h.x, f])) (.ref t) (bdD (h.x, h.F)) := .m2 upd_same (.str _) (pf.same st2)
          exact PdAll.app (((pa.same smx).same st2).keep tkD) (.one (pb.keep tkD))
      obtain ⟨sB, PB⟩ := pv
      rw [hxl, List.take_length] at PB
      have s4B := s4A.trans sB
      have cpB : PotAt HB p := c4.same s4B
      have pgB : PgAt K HB q hs := ((pg7.same s9).same s10).same sB
      have envB : EnvAt HB d (hctx hs) := (env9.keep (fun kvs e => s10 _ _ e) s10.tk).keep (fun kvs e => sB _ _ e) sB.tk
      have sHB : Same H1 HB := sH4.trans s4B
      have hBp : B ≠ p := pot_ne (c4.same s4A) hB
      have lowg := low_hctx hok.all
      have hgl : (hctx hs).length ≤ 3 := by
        unfold hctx
        rw [List.length_map]
        exact hlen
      have hgn : ∀ z ∈ hctx hs, IsName z.1 ∧ z.2.height ≤ 2 := fun z hz => by
        obtain ⟨h, hm, rfl⟩ := List.mem_map.mp hz
        exact ⟨(hok.all h hm).nm, (hsm h hm).1⟩
      refine ⟨2, rfl, by decide, by decide, forS (src_range (lo := 0) (n := (2 : Int).toNat)) (fun j σ H' => ∃ y6 y7 y8 z10 z11 z12 z13 z14 z15, σ = [some (.ref l0), some (.int (0 + ((i : Nat) : Int))), some (.ref p), some (.ref l), some (.ref q), some (.ref d), y6, y7, y8, some (.ref B), z10, z11, z12, z13, z14, z15] ∧ Kp p HB H' ∧ PotAt H' p) ⟨_, _, _, _, _, _, _, _, _, rfl, Kp.refl _ _, cpB⟩ (fun _ _ _ _ => True.intro) ?_ ?_⟩
      · rintro j x σ H13 H14 hj ⟨y6, y7, y8, z10, z11, z12, z13, z14, z15, rfl, k13, c13⟩ sm13 rfl
        have k14 := k13.trans (sm13.kp p)
        have c14 := c13.same sm13
        refine ⟨_, rfl, _, rfl, _, rfl, p, 2, rfl, c14, by decide, by decide, fun H15 vA A k15 c15 pA hA => ⟨small_sz (by simp), fun e0 ne0 => ?_⟩⟩
        have s15 := Same.new ne0 (o := .lst [V.int 1, .int 2, .int 2, .int 3])
        refine ⟨_, rfl, p, 4, rfl, c15.same s15, by decide, by decide, fun H16 dd k16 c16 d0 d4 => ?_⟩
        have e16 := k16 e0 _ (pot_ne c15 ne0) (upd_same (H := H15) (a := e0) (o := .lst [V.int 1, .int 2, .int 2, .int 3]))
        have ea := atN [V.int 1, .int 2, .int 2, .int 3] dd d0 (by simpa using d4)
        have hmm := atI_mem ea
        obtain ⟨D3, eD3⟩ : ∃ D : Fin 3, ([V.int 1, .int 2, .int 2, .int 3] : List V)[dd.toNat]'(by simp; omega) = .int ((D.val + 1 : Nat) : Int) := by
          generalize ([V.int 1, .int 2, .int 2, .int 3] : List V)[dd.toNat]'(by simp; omega) = x at hmm
          simp only [List.mem_cons, List.not_mem_nil, or_false] at hmm
          rcases hmm with rfl | rfl | rfl | rfl
          · exact ⟨0, rfl⟩
          · exact ⟨1, rfl⟩
          · exact ⟨1, rfl⟩
          · exact ⟨2, rfl⟩
        rw [eD3] at ea
        have hD3 := D3.isLt
        have k16' := (((k14.trans k15).trans (s15.kp p)).trans k16)
        have pA16 := (pA.same s15).keep ((c15.same s15).tk k16)
        have tkB := cpB.tk k16'
        refine ⟨e0, _, dd, _, rfl, rfl, sl e16, ea, D3, p, B, hctx hs, vA, A, rfl, ⟨c16, ⟨_, k16' _ _ hBp EB, PB.keep tkB⟩, hgn, by omega, pA16, by omega, by omega, low1_of A hA⟩, fun H17 u t k17 c17 pu ht => ?_⟩
        have k17' := k16'.trans k17
        refine ⟨_, rfl, small_sz (by simp), fun g0 ng0 => ?_⟩
        have s18 := Same.new ng0 (o := .lst [V.str "0", .str "0", .str "7", .str "a", .str "x9x9x9x9"])
        refine ⟨p, g0, _, rfl, c17.same s18, upd_same, pot_ne c17 ng0, by simp, by simp, fun H18 sg k18 c18 hsg => ?_⟩
        obtain ⟨a, rfl, ha⟩ : ∃ a, sg = .str a ∧ Ah a := by
          simp only [List.mem_cons, List.not_mem_nil, or_false] at hsg
          rcases hsg with rfl | rfl | rfl | rfl | rfl <;> exact ⟨_, rfl, by decide, by decide⟩
        have k18' := (k17'.trans (s18.kp p)).trans k18
        have pu18 := (pu.same s18).keep ((c17.same s18).tk k18)
        have hdp := ht.dp
        have hsz : t.sz ≤ 512 := by
          have h1 := ht.sz
          have h2 : 4 ^ (D3.val + 1) ≤ 4 ^ 3 := Nat.pow_le_pow_right (by decide) (by omega)
          omega
        have hct := cnt_sz t
        refine fun sd nsd => ⟨_, rfl, _, rfl, upd_same, [(.inr "ahead", .str a), (.inr "count", .int 0), (.inr "forms", .ref d)], rfl, by simp, ?_⟩
        have s19 : Same H18 (upd (upd H18 sd (.dK [])) sd (.dK (mergeK [] [(.inr "ahead", .str a), (.inr "count", .int 0), (.inr "forms", .ref d)]))) := by
          rw [upd_upd]
          exact Same.new nsd
        have hpc : Lc (upd (upd H18 sd (.dK [])) sd (.dK (mergeK [] [(.inr "ahead", .str a), (.inr "count", .int 0), (.inr "forms", .ref d)]))) sd a d 0 := upd_same
        generalize (upd (upd H18 sd (.dK [])) sd (.dK (mergeK [] [(.inr "ahead", .str a), (.inr "count", .int 0), (.inr "forms", .ref d)]))) = H19 at s19 hpc
        refine ⟨_, rfl, small_sz (by simp), fun b nb => ?_⟩
        have s20 := s19.trans (Same.new nb (o := .lst []))
        have env18 := envB.kp cpB k18'
        have pg18 := pgB.kp cpB k18'
        refine ⟨sd, b, d, u, a, hctx hs, [], 0, t, rfl, ⟨hpc.same (Same.new nb), ⟨env18.keep (fun kvs e => s20 _ _ e) s20.tk, ⟨[], upd_same, .nil⟩, by rw [List.append_nil]; exact lowg⟩, pu18.same s20, by rw [List.append_nil]; exact ht.ok, ht.wr, ha.1, by omega, by show 0 + t.depth ≤ 1000; omega⟩, by omega, True.intro, ?_⟩
        rw [List.append_nil]
        intro H21 r x21 y21 k21 c21 er px py
        have s21 : Same H18 H21 := fun b u eb => k21 b u (ne_of_none eb nsd) (s20 _ _ eb)
        refine ⟨r, _, rfl, st er, rfl, _, _, rfl, _, _, rfl, _, _, rfl, rfl, ?_⟩
        refine ⟨_, rfl, rfl, _, rfl, ifT (by simp) ?_⟩
        have pg21 := pg18.same s21
        have pu21 := pu18.same s21
        have pg0 := pg21
        obtain ⟨dxq, lq, dfq, dtq, hq21, _⟩ := pg0
        refine ⟨_, rfl, rfl, _, rfl, ite2 (fun h0 => ?_) (fun h0 => ?_)⟩
        · have h0 : V.str a = V.str "0" := of_decide_eq_true h0
          injection h0 with h0
          subst h0
          refine ⟨_, rfl, q, dxq, _, rfl, hq21, by rfl, _, rfl, q, hs, u, "0", t, rfl, pg21, hok, pu21, ht.ok, ht.wr, by omega, by omega, by decide, fun H22 r2 x22 y22 s22 e2 px2 py2 => ?_⟩
          have hfit := fit_pl ha t (hctx hs) 0 ht.ok ht.wr lowg (by omega)
          have hop := opn_pl "0" t (hctx hs) 0 ht.ok
          have hd32 := pl_depth "0" t (hctx hs) 0 ht.ok
          have hz32 := pl_sz "0" t (hctx hs) 0 ht.ok
          have hfh := fo_height t _ ht.ok ht.wr lowg
          refine ⟨_, rfl, r2, _, _, _, rfl, rfl, st e2, at0 _ _, _, rfl, r2, _, _, _, rfl, rfl, st e2, at1 _ _ _, _, rfl, _, rfl, _, rfl, small_sz (by simp), fun z nz => ?_⟩
          have s24 := Same.new nz (o := .tup [x21, y21])
          refine ⟨_, rfl, _, rfl, u, t, rfl, (pu21.same s22).same s24, by omega, fun H23 s23 => ?_⟩
          have sz3 := s24.trans s23
          have pdue : Pd H23 (.ref z) (.tuple [(pl "0" (hctx hs) 0 t).d, (fo (hctx hs) t).d]) := .m2 (s23 _ _ upd_same) ((px.same s22).same sz3) ((py.same s22).same sz3)
          refine ⟨x22, y22, u, .ref z, "0", cnt t, pl "0" (hctx hs) 0 t, fo (hctx hs) t, rfl, px2.same sz3, py2.same sz3, by rw [hop]; exact (pu21.same s22).same sz3, pdue, hfit, by rw [hop]; exact wr_fit _ ht.wr, by omega, by rw [hop]; omega, by omega, by rw [hop]; omega, hfh, ha, marks_pl "0" t (hctx hs) 0 (cnt t) ht.ok (by omega), by omega, fun H25 s25 => ⟨_, rfl, ifF rfl ?_⟩⟩
          have sF : Same H18 H25 := ((s21.trans s22).trans sz3).trans s25
          exact ⟨_, _, _, _, _, _, _, _, _, rfl, k18'.trans (sF.kp p), c18.same sF⟩
        · refine ⟨_, rfl, q, dxq, _, rfl, hq21, by rfl, _, rfl, _, rfl, rfl, rfl, q, hs, u, a, t, rfl, pg21, hok, pu21, ht.ok, ht.wr, by omega, by omega, ha.1, fun H22 r2 x22 y22 s22 e2 px2 py2 => ?_⟩
          have hfit := fit_pl ha t (hctx hs) 0 ht.ok ht.wr lowg (by omega)
          have hop := opn_pl a t (hctx hs) 0 ht.ok
          have hd32 := pl_depth a t (hctx hs) 0 ht.ok
          have hz32 := pl_sz a t (hctx hs) 0 ht.ok
          have hfh := fo_height t _ ht.ok ht.wr lowg
          refine ⟨_, rfl, r2, _, _, _, rfl, rfl, st e2, at0 _ _, _, rfl, r2, _, _, _, rfl, rfl, st e2, at1 _ _ _, _, rfl, _, rfl, _, rfl, small_sz (by simp), fun z nz => ?_⟩
          have s24 := Same.new nz (o := .tup [x21, y21])
          refine ⟨_, rfl, _, rfl, u, t, rfl, (pu21.same s22).same s24, by omega, fun H23 s23 => ?_⟩
          have sz3 := s24.trans s23
          have pdue : Pd H23 (.ref z) (.tuple [(pl a (hctx hs) 0 t).d, (fo (hctx hs) t).d]) := .m2 (s23 _ _ upd_same) ((px.same s22).same sz3) ((py.same s22).same sz3)
          refine ⟨x22, y22, u, .ref z, a, cnt t, pl a (hctx hs) 0 t, fo (hctx hs) t, rfl, px2.same sz3, py2.same sz3, by rw [hop]; exact (pu21.same s22).same sz3, pdue, hfit, by rw [hop]; exact wr_fit _ ht.wr, by omega, by rw [hop]; omega, by omega, by rw [hop]; omega, hfh, ha, marks_pl a t (hctx hs) 0 (cnt t) ht.ok (by omega), by omega, fun H25 s25 => ⟨_, rfl, ifF rfl ?_⟩⟩
          have sF : Same H18 H25 := ((s21.trans s22).trans sz3).trans s25
          exact ⟨_, _, _, _, _, _, _, _, _, rfl, k18'.trans (sF.kp p), c18.same sF⟩
      · rintro σ H13 ⟨y6, y7, y8, z10, z11, z12, z13, z14, z15, rfl, k13, c13⟩
        exact ⟨_, _, _, _, _, _, _, _, _, _, _, _, _, _, _, rfl, s0.trans (sm.trans (Same.of_kp sHB np k13))⟩
    · rintro σ H1 ⟨y1, y2, y3, y4, y5, y6, y7, y8, y9, y10, y11, y12, y13, y14, y15, rfl, s0⟩
      exact qq _
end
end WS
set_option Elab.async false
set_option linter.all false
set_option maxRecDepth 100000
set_option maxHeartbeats 0
namespace WS
open PySem L2
theorem facts {P : Program} {w : World} {h : Heap} {mg : Str → Option Value} {f : Addr} {K : PySem.W.Frag} (X : K.In h) (G : h.Ns mainGlobals mg) (hfa : mg ("law" : Str) = some (.ref f)) (c : He.SaysT fa fn ts w K) (e : ex K = true) :
    ∃ fd : FuncData, (∀ (s : Shared) (v : Value), BindsTo s fd ⟨[v], []⟩ [("_law_script", v)]) ∧ ∀ base : Heap, K.In base → base.Ns mainGlobals mg → FnG P w K mg base 100 f fd ["_law_script"] (sp_law K) := by
  have T : Tx w K mg := ⟨c, e, ⟨h, X, G⟩⟩
  obtain ⟨fd, F⟩ := T.f_law
  have q := hfa.symm.trans T.g_law
  cases q
  have b := FunD.bindsA (ps := ["_law_script"]) F fun _ _ _ _ _ _ us hl => match us, hl with | [_], _ => rfl
  exact ⟨fd, fun s v => b s [v] rfl, fun base _ _ => ok_law T 0 F⟩
end WS
open PySem PySem.W PySem.Calls PyProof.Rows
theorem PySem.Challenge.cw_wallseal_k51_whole_forms_and_marks_holds : PySem.Challenge.rw_wallseal_k51_whole_forms_and_marks.Holds := by
  w_on; o_law
  refine HandSHeadRun.head_any (r := WS.R) (q := view WS.R.prog [102]) (H := WS.hk) (ob := WS.ob) (M := 20000) (loose := WS.loose) (d := HandSHeadRun.topDef WS.R.prog 102) (kwd := []) WS.ob_eq
    (by kernel_rfl) (fun s => by kernel_rfl) WS.run (by kernel_rfl) (by kernel_rfl) (by kernel_rfl) (by rfl) (by first | assumption | decide +kernel) (by decide +kernel) ⟨rfl, rfl, rfl, rfl, rfl, by decide +kernel⟩ ?hw ?hc
  case hw => w_witness2
  case hc =>
    refine L2.walk_ofG (l := PySem.Challenge.rw_wallseal_k51_whole_forms_and_marks) (n := 63) (k := 100) (x := "_law_script") rfl (by decide) (by kernel_rfl) ⟨rfl, by decide, by decide⟩ ?F
    intro w mg fa h Y G hmg0
    obtain ⟨K, KX, c, e⟩ := Y
    have hmg : mg ("law" : PySem.Str) = some (.ref fa) := by
      have e : (HandSHeadRun.topDef WS.R.prog 102).name = ("law" : PySem.Str) := by kernel_rfl
      rw [← e]
      exact hmg0
    obtain ⟨fd, hb, hF⟩ := WS.facts (P := (PySem.Challenge.rw_wallseal_k51_whole_forms_and_marks).prog) (w := w) KX G hmg c e
    exact ⟨K, fd, WS.sp_law K, KX, hb, fun H a ns hl _ hS => ⟨a, ns, rfl, hS, hl, fun _ => rfl⟩, hF⟩
