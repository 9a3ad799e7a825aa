import PyProof.Rows.All
import Wide.All
import OpenK.AllK
import Wide.FinOn
import HandS.ForMost
import HandS.TupAny
import HandS.Deep
import HandS.Style
import HandS.IsInst
import HandS.Wide
import HandS.RaiseMore
import PyProof.CallFns
import KE.DatumOrd
import HandS.SortInts
import HandS.TupLen
import PyProof.Rows.FactsN_isinstance
import PyProof.Rows.FactsT3
import HandS.ForExc
import HandS.Defaults
import KE.GoesEnum
import KE.GoesEnumKw
import KE.GoesMore
import HandS.TupMul
import PyProof.StrOps2
import HandS.Zip
import HandS.Ends
import HandS.WordsDict
import HandS.Iter
import PyProof.DictCompW
import HandS.DictComp
import PyProof.StrLaws
import KE.GoesZip
import PyProof.EnumMake
import KE.SortData
import PyProof.Rows.StrRev
import PyProof.ListStr
import PyProof.RowDictHeap
import PyProof.ReprRoads
import PySem.Challenge.RW_amidread_k01_letters_and_words_of_any_va
set_option Elab.async false
set_option linter.all false
set_option maxRecDepth 100000
set_option autoImplicit false
set_option maxHeartbeats 4000000
/-! TLa: values as trees; the relation of a tree to the layer's heap; readings of expressions by plain functions on trees. -/
namespace TL
open PySem PySem.Spec PyProof.Rows L2

/-- a value as a tree -/
inductive T where
  | non | bl (b : Bool) | int (i : Int) | str (x : Str)
  | tup (l : List T) | lst (l : List T) | dic (l : List (Key × T))
  | ins (c : Str) (fs : List (Str × T))
  | dck

/-- the deck's state -/
structure D where
  cells : List Int
  blend : Int
  laps : Nat

/-- an exception: its class by name, its attributes -/
structure Xn where
  cls : Str
  fs : List (Str × T)

/-- an outcome -/
inductive Out (α : Type) where
  | ok (a : α) (d : D)
  | exc (x : Xn) (d : D)
  | bad

/-- a computation on the deck -/
abbrev M (α : Type) := D → Out α
def Out.bind {α β : Type} (o : Out α) (k : α → M β) : Out β := match o with
  | .ok a d => k a d
  | .exc x d => .exc x d
  | .bad => .bad
def M.pure {α : Type} (a : α) : M α := fun d => .ok a d
def M.bind {α β : Type} (m : M α) (k : α → M β) : M β := fun d => (m d).bind k
/-- what may not be defined -/
def M.opt {α : Type} (o : Option α) : M α := fun d => match o with
  | some a => .ok a d
  | none => .bad
theorem M.bind_ok {α β : Type} {m : M α} {k : α → M β} {d d1 : D} {a : α} (h : m d = .ok a d1) : M.bind m k d = k a d1 := by
  show Out.bind (m d) k = _
  rw [h]
  rfl
theorem M.bind_exc {α β : Type} {m : M α} {k : α → M β} {d d1 : D} {x : Xn} (h : m d = .exc x d1) : M.bind m k d = .exc x d1 := by
  show Out.bind (m d) k = _
  rw [h]
  rfl
theorem M.bind_bad {α β : Type} {m : M α} {k : α → M β} {d : D} (h : m d = .bad) : M.bind m k d = .bad := by
  show Out.bind (m d) k = _
  rw [h]
  rfl
def M.bad {α : Type} : M α := fun _ => .bad

/-- a slot: without a value, a value that stays, an object of one's own -/
inductive O where
  | lst (l : List T)
  | dic (l : List (Key × T))
inductive Sl where
  | no
  | val (t : T)
  | own (o : O)
abbrev En := List Sl
def O.t : O → T
  | .lst l => .lst l
  | .dic l => .dic l

/-- the two addresses of the deck -/
abbrev Dk := Addr × Addr
/-- what is fixed: the written part, classes by name, the form of the deck -/
structure Wd where
  K : PySem.W.Frag
  ct : Str → Option Addr
  dk : Addr → D → HO

mutual
def Rep (W : Wd) (H : Hp) (F : Addr → Prop) (dk : Dk) : T → V → Prop
  | .non, v => v = .non
  | .bl b, v => v = .bl b
  | .int i, v => v = .int i
  | .str x, v => v = .str x
  | .tup l, v => ∃ a xs, v = .ref a ∧ ¬ F a ∧ H a = some (.tup xs) ∧ RepL W H F dk l xs
  | .lst l, v => ∃ a xs, v = .ref a ∧ ¬ F a ∧ H a = some (.lst xs) ∧ RepL W H F dk l xs
  | .dic l, v => ∃ a xs, v = .ref a ∧ ¬ F a ∧ Rd H a (.dK xs) ∧ RepD W H F dk l xs
  | .ins c fs, v => ∃ a C dx xs, v = .ref a ∧ ¬ F a ∧ W.ct c = some C ∧ H a = some (.ins C dx xs) ∧ RepF W H F dk fs xs
  | .dck, v => v = .ref dk.1
def RepL (W : Wd) (H : Hp) (F : Addr → Prop) (dk : Dk) : List T → List V → Prop
  | [], xs => xs = []
  | t :: l, xs => ∃ x r, xs = x :: r ∧ Rep W H F dk t x ∧ RepL W H F dk l r
def RepD (W : Wd) (H : Hp) (F : Addr → Prop) (dk : Dk) : List (Key × T) → List (Key × V) → Prop
  | [], xs => xs = []
  | (k, t) :: l, xs => ∃ x r, xs = (k, x) :: r ∧ Rep W H F dk t x ∧ RepD W H F dk l r
def RepF (W : Wd) (H : Hp) (F : Addr → Prop) (dk : Dk) : List (Str × T) → List (Str × V) → Prop
  | [], xs => xs = []
  | (k, t) :: l, xs => ∃ x r, xs = (k, x) :: r ∧ Rep W H F dk t x ∧ RepF W H F dk l r
end

/-- what stands stays, but for the deck -/
def Keep (dk : Dk) (H H' : Hp) : Prop := ∀ a o, H a = some o → a ≠ dk.1 → a ≠ dk.2 → H' a = some o
theorem Keep.refl (dk : Dk) (H : Hp) : Keep dk H H := fun _ _ h _ _ => h
theorem Keep.trans {dk : Dk} {H H1 H2 : Hp} (a : Keep dk H H1) (b : Keep dk H1 H2) : Keep dk H H2 := fun c o h n1 n2 => b c o (a c o h n1 n2) n1 n2
theorem Keep.of {dk : Dk} {H H' : Hp} (s : Same H H') : Keep dk H H' := fun a o h _ _ => s a o h

section
variable {W : Wd} {H H' : Hp} {F F' : Addr → Prop} {dk : Dk}
mutual
/-- a tree stands on objects outside F alone -/
theorem Rep.mono (k : ∀ a o, ¬ F a → H a = some o → H' a = some o ∧ ¬ F' a) : ∀ (t : T) (v : V), Rep W H F dk t v → Rep W H' F' dk t v
  | .non, v, h => by simpa only [Rep] using h
  | .bl _, v, h => by simpa only [Rep] using h
  | .int _, v, h => by simpa only [Rep] using h
  | .str _, v, h => by simpa only [Rep] using h
  | .dck, v, h => by simpa only [Rep] using h
  | .tup l, v, h => by
    simp only [Rep] at h ⊢
    obtain ⟨a, xs, e, nf, s, r⟩ := h
    exact ⟨a, xs, e, (k _ _ nf s).2, (k _ _ nf s).1, RepL.mono k l xs r⟩
  | .lst l, v, h => by
    simp only [Rep] at h ⊢
    obtain ⟨a, xs, e, nf, s, r⟩ := h
    exact ⟨a, xs, e, (k _ _ nf s).2, (k _ _ nf s).1, RepL.mono k l xs r⟩
  | .dic l, v, h => by
    simp only [Rep] at h ⊢
    obtain ⟨a, xs, e, nf, s, r⟩ := h
    refine ⟨a, xs, e, ?_, ?_, RepD.mono k l xs r⟩
    · rcases s with s | ⟨ob, s⟩
      · exact (k _ _ nf s).2
      · exact (k _ _ nf s).2
    · rcases s with s | ⟨ob, s⟩
      · exact .inl (k _ _ nf s).1
      · exact .inr ⟨ob, (k _ _ nf s).1⟩
  | .ins c fs, v, h => by
    simp only [Rep] at h ⊢
    obtain ⟨a, C, dx, xs, e, nf, c, s, r⟩ := h
    exact ⟨a, C, dx, xs, e, (k _ _ nf s).2, c, (k _ _ nf s).1, RepF.mono k fs xs r⟩
theorem RepL.mono (k : ∀ a o, ¬ F a → H a = some o → H' a = some o ∧ ¬ F' a) : ∀ (l : List T) (xs : List V), RepL W H F dk l xs → RepL W H' F' dk l xs
  | [], xs, h => by simpa only [RepL] using h
  | t :: l, xs, h => by
    simp only [RepL] at h ⊢
    obtain ⟨x, r, e, h1, h2⟩ := h
    exact ⟨x, r, e, Rep.mono k t x h1, RepL.mono k l r h2⟩
theorem RepD.mono (k : ∀ a o, ¬ F a → H a = some o → H' a = some o ∧ ¬ F' a) : ∀ (l : List (Key × T)) (xs : List (Key × V)), RepD W H F dk l xs → RepD W H' F' dk l xs
  | [], xs, h => by simpa only [RepD] using h
  | (q, t) :: l, xs, h => by
    simp only [RepD] at h ⊢
    obtain ⟨x, r, e, h1, h2⟩ := h
    exact ⟨x, r, e, Rep.mono k t x h1, RepD.mono k l r h2⟩
theorem RepF.mono (k : ∀ a o, ¬ F a → H a = some o → H' a = some o ∧ ¬ F' a) : ∀ (l : List (Str × T)) (xs : List (Str × V)), RepF W H F dk l xs → RepF W H' F' dk l xs
  | [], xs, h => by simpa only [RepF] using h
  | (q, t) :: l, xs, h => by
    simp only [RepF] at h ⊢
    obtain ⟨x, r, e, h1, h2⟩ := h
    exact ⟨x, r, e, Rep.mono k t x h1, RepF.mono k l r h2⟩
end
end

section
variable {W : Wd} {H : Hp} {F : Addr → Prop} {dk : Dk}
theorem RepL.length : ∀ {l : List T} {xs : List V}, RepL W H F dk l xs → xs.length = l.length
  | [], xs, h => by
    simp only [RepL] at h
    rw [h]
    rfl
  | t :: l, xs, h => by
    simp only [RepL] at h
    obtain ⟨x, r, rfl, _, h2⟩ := h
    rw [List.length_cons, List.length_cons, RepL.length h2]
theorem RepL.get : ∀ {l : List T} {xs : List V} {i : Nat} {t : T}, RepL W H F dk l xs → l[i]? = some t → ∃ x, xs[i]? = some x ∧ Rep W H F dk t x
  | [], _, _, _, _, e => by simp at e
  | t :: l, xs, i, u, h, e => by
    simp only [RepL] at h
    obtain ⟨x, r, rfl, h1, h2⟩ := h
    cases i with
    | zero =>
      have e' : t = u := Option.some.inj (by simpa using e)
      subst e'
      exact ⟨x, rfl, h1⟩
    | succ i =>
      obtain ⟨y, q1, q2⟩ := RepL.get (i := i) h2 (by simpa using e)
      exact ⟨y, by simpa using q1, q2⟩
theorem RepL.get' : ∀ {l : List T} {xs : List V} {i : Nat} {x : V}, RepL W H F dk l xs → xs[i]? = some x → ∃ t, l[i]? = some t ∧ Rep W H F dk t x
  | l, xs, i, x, h, e => by
    have hl := h.length
    have hi : i < l.length := by rw [← hl]; exact (List.getElem?_eq_some_iff.mp e).1
    obtain ⟨y, q1, q2⟩ := RepL.get h (List.getElem?_eq_getElem hi)
    rw [e] at q1
    cases q1
    exact ⟨l[i], List.getElem?_eq_getElem hi, q2⟩
theorem RepL.of_get : ∀ {l : List T} {xs : List V}, xs.length = l.length → (∀ (i : Nat) (t : T) (x : V), l[i]? = some t → xs[i]? = some x → Rep W H F dk t x) → RepL W H F dk l xs
  | [], xs, hl, _ => by
    simp only [RepL]
    exact List.length_eq_zero_iff.mp hl
  | t :: l, [], hl, _ => by simp at hl
  | t :: l, x :: xs, hl, h => by
    simp only [RepL]
    exact ⟨x, xs, rfl, h 0 t x rfl rfl, RepL.of_get (by simpa using hl) fun i u y e1 e2 => h (i + 1) u y (by simpa using e1) (by simpa using e2)⟩
theorem RepL.nil : RepL W H F dk [] [] := by simp only [RepL]
theorem RepL.nil_inv {l : List T} (h : RepL W H F dk l []) : l = [] := by
  have := h.length
  exact List.length_eq_zero_iff.mp this.symm
theorem RepL.cons {t : T} {x : V} {l : List T} {xs : List V} (h : Rep W H F dk t x) (r : RepL W H F dk l xs) : RepL W H F dk (t :: l) (x :: xs) := by
  simp only [RepL]
  exact ⟨x, xs, rfl, h, r⟩
theorem RepL.append : ∀ {l l' : List T} {xs xs' : List V}, RepL W H F dk l xs → RepL W H F dk l' xs' → RepL W H F dk (l ++ l') (xs ++ xs')
  | [], _, _, _, h, h' => by
    simp only [RepL] at h
    subst h
    exact h'
  | t :: l, _, _, _, h, h' => by
    simp only [RepL] at h
    obtain ⟨x, r, rfl, h1, h2⟩ := h
    exact .cons h1 (RepL.append h2 h')
theorem RepL.take : ∀ {l : List T} {xs : List V} (n : Nat), RepL W H F dk l xs → RepL W H F dk (l.take n) (xs.take n)
  | _, _, 0, _ => .nil
  | [], _, n + 1, h => by
    simp only [RepL] at h
    subst h
    exact .nil
  | t :: l, _, n + 1, h => by
    simp only [RepL] at h
    obtain ⟨x, r, rfl, h1, h2⟩ := h
    exact .cons h1 (RepL.take n h2)
theorem RepL.drop : ∀ {l : List T} {xs : List V} (n : Nat), RepL W H F dk l xs → RepL W H F dk (l.drop n) (xs.drop n)
  | _, _, 0, h => h
  | [], _, n + 1, h => by
    simp only [RepL] at h
    subst h
    exact .nil
  | t :: l, _, n + 1, h => by
    simp only [RepL] at h
    obtain ⟨x, r, rfl, h1, h2⟩ := h
    exact RepL.drop n h2
theorem RepL.reverse : ∀ {l : List T} {xs : List V}, RepL W H F dk l xs → RepL W H F dk l.reverse xs.reverse
  | [], _, h => by
    simp only [RepL] at h
    subst h
    exact .nil
  | t :: l, _, h => by
    simp only [RepL] at h
    obtain ⟨x, r, rfl, h1, h2⟩ := h
    rw [List.reverse_cons, List.reverse_cons]
    exact (RepL.reverse h2).append (.cons h1 .nil)
theorem RepL.set : ∀ {l : List T} {xs : List V} {t : T} {x : V} (i : Nat), RepL W H F dk l xs → Rep W H F dk t x → RepL W H F dk (l.set i t) (xs.set i x)
  | [], _, _, _, _, h, _ => by
    simp only [RepL] at h
    subst h
    exact .nil
  | t :: l, _, u, y, i, h, hu => by
    simp only [RepL] at h
    obtain ⟨x, r, rfl, h1, h2⟩ := h
    cases i with
    | zero => exact .cons hu h2
    | succ i => exact .cons h1 (RepL.set i h2 hu)
theorem RepL.ints : ∀ {is : List Int}, RepL W H F dk (is.map T.int) (is.map V.int)
  | [] => .nil
  | i :: is => .cons (by simp only [Rep]) RepL.ints
theorem RepL.ints_inv : ∀ {is : List Int} {xs : List V}, RepL W H F dk (is.map T.int) xs → xs = is.map V.int
  | [], xs, h => by simpa only [List.map_nil, RepL] using h
  | i :: is, xs, h => by
    simp only [List.map_cons, RepL, Rep] at h
    obtain ⟨x, r, rfl, rfl, h2⟩ := h
    rw [RepL.ints_inv h2, List.map_cons]
theorem RepL.strs_inv : ∀ {is : List Str} {xs : List V}, RepL W H F dk (is.map T.str) xs → xs = is.map V.str
  | [], xs, h => by simpa only [List.map_nil, RepL] using h
  | i :: is, xs, h => by
    simp only [List.map_cons, RepL, Rep] at h
    obtain ⟨x, r, rfl, rfl, h2⟩ := h
    rw [RepL.strs_inv h2, List.map_cons]
end

/-- an object of one's own at p -/
def OwnR (W : Wd) (H : Hp) (F : Addr → Prop) (dk : Dk) : O → Addr → Prop
  | .lst l, p => ∃ xs, H p = some (.lst xs) ∧ RepL W H F dk l xs
  | .dic l, p => ∃ xs, H p = some (.dK xs) ∧ RepD W H F dk l xs

/-- the deck stands -/
def DkAt (W : Wd) (dk : Dk) (H : Hp) (d : D) : Prop := dk.1 ≠ dk.2 ∧ H dk.2 = some (.lst (d.cells.map V.int)) ∧ H dk.1 = some (W.dk dk.2 d)

/-- the frame's slots and the heap are what the trees say -/
structure SR (W : Wd) (dk : Dk) (F G : Addr → Prop) (σ : L2.St) (H : Hp) (en : En) (d : D) : Prop where
  len : en.length = σ.length
  val : ∀ (i : Nat) (t : T), en[i]? = some (.val t) → ∃ v, σ[i]? = some (some v) ∧ Rep W H F dk t v
  own : ∀ (i : Nat) (o : O), en[i]? = some (.own o) → ∃ p, σ[i]? = some (some (.ref p)) ∧ G p ∧ OwnR W H F dk o p
  sep : ∀ (i j : Nat) (o o' : O) (p : Addr), en[i]? = some (.own o) → en[j]? = some (.own o') → σ[i]? = some (some (.ref p)) → σ[j]? = some (some (.ref p)) → i = j
  gf : ∀ a, G a → F a
  gd : ∀ a, G a → a ≠ dk.1 ∧ a ≠ dk.2
  fh : ∀ a, F a → H a ≠ none
  fd1 : F dk.1
  fd2 : F dk.2
  deck : DkAt W dk H d

section
variable {W : Wd} {H H' : Hp} {F G : Addr → Prop} {dk : Dk} {σ : L2.St} {en : En} {d d' : D}
theorem SR.free (s : SR W dk F G σ H en d) {p : Addr} (h : H p = none) : ¬ F p := fun z => s.fh p z h
theorem SR.keepR (s : SR W dk F G σ H en d) (k : Keep dk H H') {t : T} {v : V} (r : Rep W H F dk t v) : Rep W H' F dk t v :=
  Rep.mono (fun a o nf e => ⟨k a o e (fun z => nf (z ▸ s.fd1)) fun z => nf (z ▸ s.fd2), nf⟩) t v r
theorem SR.keepL (s : SR W dk F G σ H en d) (k : Keep dk H H') {t : List T} {v : List V} (r : RepL W H F dk t v) : RepL W H' F dk t v :=
  RepL.mono (fun a o nf e => ⟨k a o e (fun z => nf (z ▸ s.fd1)) fun z => nf (z ▸ s.fd2), nf⟩) t v r
theorem SR.keepD (s : SR W dk F G σ H en d) (k : Keep dk H H') {t : List (Key × T)} {v : List (Key × V)} (r : RepD W H F dk t v) : RepD W H' F dk t v :=
  RepD.mono (fun a o nf e => ⟨k a o e (fun z => nf (z ▸ s.fd1)) fun z => nf (z ▸ s.fd2), nf⟩) t v r
/-- behind an expression -/
theorem SR.keep (s : SR W dk F G σ H en d) (k : Keep dk H H') (hd : DkAt W dk H' d') : SR W dk F G σ H' en d' where
  len := s.len
  val := fun i t e => let ⟨v, h, r⟩ := s.val i t e; ⟨v, h, s.keepR k r⟩
  own := fun i o e => by
    obtain ⟨p, h, g, r⟩ := s.own i o e
    refine ⟨p, h, g, ?_⟩
    cases o with
    | lst l =>
      obtain ⟨xs, q, r⟩ := r
      exact ⟨xs, k _ _ q (s.gd _ g).1 (s.gd _ g).2, s.keepL k r⟩
    | dic l =>
      obtain ⟨xs, q, r⟩ := r
      exact ⟨xs, k _ _ q (s.gd _ g).1 (s.gd _ g).2, s.keepD k r⟩
  sep := s.sep
  gf := s.gf
  gd := s.gd
  fh := fun a z e => by
    by_cases e1 : a = dk.1
    · subst e1
      obtain ⟨_, _, h3⟩ := hd
      rw [e] at h3
      cases h3
    · by_cases e2 : a = dk.2
      · subst e2
        rw [hd.2.1] at e
        cases e
      · cases q : H a with
        | none => exact s.fh a z q
        | some o =>
          rw [k a o q e1 e2] at e
          cases e
  fd1 := s.fd1
  fd2 := s.fd2
  deck := hd
theorem DkAt.same (h : DkAt W dk H d) (s : Same H H') : DkAt W dk H' d := by
  obtain ⟨h1, h2, h3⟩ := h
  exact ⟨h1, s _ _ h2, s _ _ h3⟩
end

/-- how an exception lies: its class, its own dict, its attributes -/
def XRep (W : Wd) (H : Hp) (F : Addr → Prop) (dk : Dk) (x : Xn) (c : Value) (od : Option Addr) : Prop :=
  ∃ C, W.ct x.cls = some C ∧ c = .ref C ∧ match od with
    | none => x.fs = []
    | some q => ¬ F q ∧ ∃ xs, H q = some (.xd xs) ∧ RepF W H F dk x.fs xs

/-- what is wanted of an outcome -/
def Post (W : Wd) (Ex : XK) (F : Addr → Prop) (dk : Dk) (H : Hp) {α : Type} (R : α → D → Hp → Prop) : Out α → Prop
  | .ok a d' => ∀ H', Keep dk H H' → DkAt W dk H' d' → R a d' H'
  | .exc x d' => ∀ c od H', Keep dk H H' → DkAt W dk H' d' → XRep W H' F dk x c od → Ex c od H'
  | .bad => False
section
variable {W : Wd} {Ex : XK} {F : Addr → Prop} {dk : Dk} {H H1 : Hp} {α β : Type} {R R' : α → D → Hp → Prop} {S : β → D → Hp → Prop}
theorem Post.mono : ∀ {o : Out α}, Post W Ex F dk H R o → (∀ a d1 H1, Keep dk H H1 → DkAt W dk H1 d1 → R a d1 H1 → R' a d1 H1) → Post W Ex F dk H R' o
  | .ok a d', h, k => fun H' q1 q2 => k a d' H' q1 q2 (h H' q1 q2)
  | .exc _ _, h, _ => h
  | .bad, h, _ => h
theorem Post.later : ∀ {o : Out α}, Post W Ex F dk H R o → Keep dk H H1 → Post W Ex F dk H1 R o
  | .ok a d', h, k => fun H' q1 q2 => h H' (k.trans q1) q2
  | .exc _ _, h, k => fun c od H' q1 q2 q3 => h c od H' (k.trans q1) q2 q3
  | .bad, h, _ => h
theorem Post.bind {m : M α} {k : α → M β} {d : D} (h : Post W Ex F dk H S (M.bind m k d)) : Post W Ex F dk H (fun a d1 H1 => Post W Ex F dk H1 S (k a d1)) (m d) := by
  unfold M.bind Out.bind at h
  cases e : m d with
  | ok a d1 =>
    rw [e] at h
    exact fun H' q1 q2 => Post.later h q1
  | exc x d1 =>
    rw [e] at h
    exact h
  | bad =>
    rw [e] at h
    exact h
theorem Post.opt {o : Option α} {d : D} (h : Post W Ex F dk H R (M.opt o d)) (k : ∀ a, o = some a → (∀ H', Keep dk H H' → DkAt W dk H' d → R a d H') → Post W Ex F dk H R (M.opt o d)) : Post W Ex F dk H R (M.opt o d) := h
theorem Post.opt_some {o : Option α} {d : D} (h : Post W Ex F dk H R (M.opt o d)) : ∃ a, o = some a ∧ ∀ H', Keep dk H H' → DkAt W dk H' d → R a d H' := by
  cases o with
  | none => exact h.elim
  | some a => exact ⟨a, rfl, h⟩
end

/-- an expression's reading by a function on trees -/
def tE (W : Wd) (Ex : XK) (f : En → M T) : TE := fun σ H Q => ∃ dk F G en d, SR W dk F G σ H en d ∧
  Post W Ex F dk H (fun t d' H' => ∀ v, Rep W H' F dk t v → Q v H') (f en d)
/-- a list of one's own, new -/
def tN (W : Wd) (Ex : XK) (f : En → M (List T)) : TE := fun σ H Q => ∃ dk F G en d, SR W dk F G σ H en d ∧
  Post W Ex F dk H (fun l d' H' => ∀ p xs, RepL W H' F dk l xs → xs.length ≤ sizeLine → H' p = none → Q (.ref p) (upd H' p (.lst xs))) (f en d)
/-- a test's -/
def tT (W : Wd) (Ex : XK) (f : En → M Bool) : TT := fun σ H Q => ∃ dk F G en d, SR W dk F G σ H en d ∧
  Post W Ex F dk H (fun t d' H' => Q t H') (f en d)
/-- arguments -/
def tA (W : Wd) (Ex : XK) (f : En → M (List T)) : TA := fun σ H Q => ∃ dk F G en d, SR W dk F G σ H en d ∧
  Post W Ex F dk H (fun l d' H' => ∀ xs, RepL W H' F dk l xs → Q xs H') (f en d)
end TL

/-! TLb: expressions. -/
namespace TL
open PySem PySem.Spec PyProof.Rows L2

/-! ### slots -/
def getS : En → Nat → Sl
  | [], _ => .no
  | s :: _, 0 => s
  | _ :: r, n + 1 => getS r n
def setS : En → Nat → Sl → En
  | [], _, _ => []
  | _ :: r, 0, s => s :: r
  | x :: r, n + 1, s => x :: setS r n s
theorem getS_eq : ∀ (en : En) (i : Nat), getS en i = (en[i]?).getD .no
  | [], _ => rfl
  | _ :: _, 0 => rfl
  | _ :: r, n + 1 => by
    show getS r n = _
    rw [getS_eq r n]
    rfl
theorem setS_eq : ∀ (en : En) (i : Nat) (s : Sl), setS en i s = en.set i s
  | [], _, _ => rfl
  | _ :: _, 0, _ => rfl
  | x :: r, n + 1, s => by
    show x :: setS r n s = _
    rw [setS_eq r n s]
    rfl
theorem getS_val {en : En} {i : Nat} {t : T} (h : getS en i = .val t) : en[i]? = some (.val t) := by
  rw [getS_eq] at h
  cases e : en[i]? with
  | none =>
    rw [e] at h
    cases h
  | some s =>
    rw [e] at h
    exact congrArg some h
theorem getS_own {en : En} {i : Nat} {t : O} (h : getS en i = .own t) : en[i]? = some (.own t) := by
  rw [getS_eq] at h
  cases e : en[i]? with
  | none =>
    rw [e] at h
    cases h
  | some s =>
    rw [e] at h
    exact congrArg some h

/-! ### weaker readings -/
section
variable {X : Cx} {e : Expr} {es : List Expr}
theorem _root_.L2.PE.imp {t t' : TE} (h : PE X e t) (k : ∀ σ H Q, t' σ H Q → t σ H Q) : PE X e t' := ⟨fun pins s σ H Q I q => h.run pins s σ H Q I (k σ H Q q)⟩
theorem _root_.L2.PT.imp {t t' : TT} (h : PT X e t) (k : ∀ σ H Q, t' σ H Q → t σ H Q) : PT X e t' := ⟨fun pins s σ H Q I q => h.run pins s σ H Q I (k σ H Q q)⟩
theorem _root_.L2.PA.imp {t t' : TA} (h : PA X es t) (k : ∀ σ H Q, t' σ H Q → t σ H Q) : PA X es t' := ⟨fun pos pins s σ H Q I q => h.run pos pins s σ H Q I (k σ H Q q)⟩
end

/-! ### functions on trees -/
def xC (t : T) : En → M T := fun _ => .pure t
def xVar (i : Nat) : En → M T := fun en => match getS en i with
  | .val t => .pure t
  | _ => .bad
def xBin (op : T → T → Option T) (f g : En → M T) : En → M T := fun en => (f en).bind fun x => (g en).bind fun y => .opt (op x y)
def xUn (op : T → Option T) (f : En → M T) : En → M T := fun en => (f en).bind fun x => .opt (op x)
/-- a value used as a test: a bool -/
def boolT : T → Option Bool
  | .bl b => some b
  | _ => none
def xTest (f : En → M T) : En → M Bool := fun en => (f en).bind fun x => .opt (boolT x)

section
variable {W : Wd} {Ex : XK} {X : Cx} {a b c : Expr} {f g : En → M T} {pos : Pos}
theorem te_non {j} : PE X (.Constant .none j pos) (tE W Ex (xC .non)) := pe_non.imp fun σ H Q ⟨dk, F, G, en, d, S, h⟩ => h H (.refl _ _) S.deck .non (by simp only [Rep])
theorem te_bl {b j} : PE X (.Constant (.bool b) j pos) (tE W Ex (xC (.bl b))) := pe_bl.imp fun σ H Q ⟨dk, F, G, en, d, S, h⟩ => h H (.refl _ _) S.deck (.bl b) (by simp only [Rep])
theorem te_int {i j} : PE X (.Constant (.int i) j pos) (tE W Ex (xC (.int i))) := pe_int.imp fun σ H Q ⟨dk, F, G, en, d, S, h⟩ => h H (.refl _ _) S.deck (.int i) (by simp only [Rep])
theorem te_str {x j} : PE X (.Constant (.str x) j pos) (tE W Ex (xC (.str x))) := pe_str.imp fun σ H Q ⟨dk, F, G, en, d, S, h⟩ => h H (.refl _ _) S.deck (.str x) (by simp only [Rep])
/-- the name that stands in the i-th slot -/
theorem te_v (i : Nat) {x : Str} (hN : X.N[i]? = some x := by rfl) (hv : Vis X.env.scope x := by first | exact Or.inl rfl | exact Or.inr (Or.inl rfl) | exact Or.inr (Or.inr rfl)) (hd : (x == ("__debug__" : Str)) = false := by decide)
    (hcd : (x == ("__classdict__" : Str)) = false := by decide) : PE X (.Name x pos) (tE W Ex (xVar i)) := (pv i hN hv hd hcd).imp fun σ H Q ⟨dk, F, G, en, d, S, h⟩ => by
  unfold xVar at h
  cases e : getS en i with
  | val t =>
    rw [e] at h
    obtain ⟨v, hv, r⟩ := S.val i t (getS_val e)
    exact ⟨v, hv, h H (.refl _ _) S.deck v r⟩
  | no =>
    rw [e] at h
    exact h.elim
  | own o =>
    rw [e] at h
    exact h.elim
/-- a module's constant -/
theorem te_globC {x : Str} {u : Value} {z : Str} (hg : Gl X x) (hm : X.mg x = some u) (r : ∃ k, u = .str z k) (hd : (x == ("__debug__" : Str)) = false := by decide) : PE X (.Name x pos) (tE W Ex (xC (.str z))) :=
  (pe_glob (v := .str z) hg hm r hd).imp fun σ H Q ⟨dk, F, G, en, d, S, h⟩ => h H (.refl _ _) S.deck (.str z) (by simp only [Rep])
theorem te_globI {x : Str} {u : Value} {z : Int} (hg : Gl X x) (hm : X.mg x = some u) (r : ∃ k, u = .int z k) (hd : (x == ("__debug__" : Str)) = false := by decide) : PE X (.Name x pos) (tE W Ex (xC (.int z))) :=
  (pe_glob (v := .int z) hg hm r hd).imp fun σ H Q ⟨dk, F, G, en, d, S, h⟩ => h H (.refl _ _) S.deck (.int z) (by simp only [Rep])

/-! ### two values -/
/-- what a two-place reading asks, by trees -/
def Agr2 (W : Wd) (r : R2) (op : T → T → Option T) : Prop := ∀ {dk : Dk} {F : Addr → Prop} {H : Hp} {x y : V} {a b t : T} {Q : VK}, (∀ p, H p = none → ¬ F p) → Rep W H F dk a x → Rep W H F dk b y → op a b = some t →
  (∀ v H', Same H H' → Rep W H' F dk t v → Q v H') → r x y H Q
def Agr1 (W : Wd) (r : V → Hp → VK → Prop) (op : T → Option T) : Prop := ∀ {dk : Dk} {F : Addr → Prop} {H : Hp} {x : V} {a t : T} {Q : VK}, (∀ p, H p = none → ¬ F p) → Rep W H F dk a x → op a = some t →
  (∀ v H', Same H H' → Rep W H' F dk t v → Q v H') → r x H Q
def AgrL (W : Wd) (r : List V → Hp → VK → Prop) (op : List T → Option T) : Prop := ∀ {dk : Dk} {F : Addr → Prop} {H : Hp} {xs : List V} {l : List T} {t : T} {Q : VK}, (∀ p, H p = none → ¬ F p) → RepL W H F dk l xs → op l = some t →
  (∀ v H', Same H H' → Rep W H' F dk t v → Q v H') → r xs H Q
theorem tOp_of {r : R2} {op : T → T → Option T} (ag : Agr2 W r op) : ∀ σ H Q, tE W Ex (xBin op f g) σ H Q → tOp r (tE W Ex f) (tE W Ex g) σ H Q := fun σ H Q ⟨dk, F, G, en, d, S, h⟩ => by
  refine ⟨dk, F, G, en, d, S, (Post.bind h).mono fun t d1 H1 k1 D1 h1 v rv => ?_⟩
  have S1 := S.keep k1 D1
  refine ⟨dk, F, G, en, d1, S1, (Post.bind h1).mono fun u d2 H2 k2 D2 h2 w rw => ?_⟩
  have S2 := S1.keep k2 D2
  obtain ⟨z, e, q⟩ := Post.opt_some h2
  exact ag (fun p hp => S2.free hp) (S1.keepR k2 rv) rw e fun v' H' s r' => q H' (.of s) (D2.same s) v' r'
theorem te_bin {o : Operator} {r : R2} {op : T → T → Option T} (ho : OpR X (binaryOp o) r) (ag : Agr2 W r op) (ha : PE X a (tE W Ex f)) (hb : PE X b (tE W Ex g)) : PE X (.BinOp a o b pos) (tE W Ex (xBin op f g)) :=
  (pe_op ho ha hb).imp (tOp_of ag)
theorem te_cmp {o : CmpOp} {r : R2} {op : T → T → Option T} (ho : OpR X (compareOp o) r) (ag : Agr2 W r op) (ha : PE X a (tE W Ex f)) (hb : PE X b (tE W Ex g)) (hm : behindInMarks o b = false) : PE X (.Compare a [o] [b] pos) (tE W Ex (xBin op f g)) :=
  (pe_cmpR ho ha hb hm).imp (tOp_of ag)
theorem tTest_of : ∀ σ H (Q : Bool → Hp → Prop), tT W Ex (xTest f) σ H Q → tTest (tE W Ex f) σ H Q := fun σ H Q ⟨dk, F, G, en, d, S, h⟩ => by
  refine ⟨dk, F, G, en, d, S, (Post.bind h).mono fun t d1 H1 k1 D1 h1 v rv => ?_⟩
  obtain ⟨z, e, q⟩ := Post.opt_some h1
  cases t with
  | bl b =>
    cases e
    simp only [Rep] at rv
    exact ⟨_, rv, q H1 (.refl _ _) D1⟩
  | _ => cases e
theorem tt_cmp {o : CmpOp} {r : R2} {op : T → T → Option T} (ho : OpR X (compareOp o) r) (ag : Agr2 W r op) (ha : PE X a (tE W Ex f)) (hb : PE X b (tE W Ex g)) (hm : behindInMarks o b = false) : PT X (.Compare a [o] [b] pos) (tT W Ex (xTest (xBin op f g))) :=
  (pt_cmpR ho ha hb hm).imp fun σ H Q h => by
    obtain ⟨dk, F, G, en, d, S, h⟩ := h
    refine tOp_of ag σ H _ ⟨dk, F, G, en, d, S, (Post.bind h).mono fun t d1 H1 k1 D1 h1 v rv => ?_⟩
    obtain ⟨z, e, q⟩ := Post.opt_some h1
    cases t with
    | bl b =>
      cases e
      simp only [Rep] at rv
      exact ⟨_, rv, q H1 (.refl _ _) D1⟩
    | _ => cases e
theorem te_un {o : UnaryOp} {r : V → Hp → VK → Prop} {op : T → Option T} (ho : UnR X (unaryOp o) r) (ag : Agr1 W r op) (ha : PE X a (tE W Ex f)) : PE X (.UnaryOp o a pos) (tE W Ex (xUn op f)) :=
  (pe_un ho ha).imp fun σ H Q ⟨dk, F, G, en, d, S, h⟩ => by
    refine ⟨dk, F, G, en, d, S, (Post.bind h).mono fun t d1 H1 k1 D1 h1 v rv => ?_⟩
    have S1 := S.keep k1 D1
    obtain ⟨z, e, q⟩ := Post.opt_some h1
    exact ag (fun p hp => S1.free hp) rv e fun v' H' s r' => q H' (.of s) (D1.same s) v' r'
end

/-! ### ints, texts, sequences -/
def capL (n : Nat) {α : Type} (a : α) : Option α := if n ≤ 16777216 then some a else none
theorem capL_some {n : Nat} {α : Type} {a b : α} (h : capL n a = some b) : n ≤ sizeLine ∧ a = b := by
  unfold capL at h
  split at h
  · rename_i q
    exact ⟨by rw [sizeLine_eq]; exact q, Option.some.inj h⟩
  · cases h
def addT : T → T → Option T
  | .int i, .int j => some (.int (i + j))
  | .str x, .str y => capL (x.length + y.length) (.str (x ++ y))
  | .lst l, .lst m => capL (l.length + m.length) (.lst (l ++ m))
  | .tup l, .tup m => capL (l.length + m.length) (.tup (l ++ m))
  | _, _ => none
def subT : T → T → Option T
  | .int i, .int j => some (.int (i - j))
  | _, _ => none
/-- numbers of at most a million bits together -/
def smallI (i : Int) : Bool := decide (-(2 ^ 64) < i ∧ i < 2 ^ 64)
def wideI (i j : Int) : Bool := decide (i.natAbs.log2 + j.natAbs.log2 < 1000000)
def repT (x : Str) (k : Nat) : Str := ⟨(List.replicate k x.cps.toList).flatten.toArray⟩
def mulT : T → T → Option T
  | .int i, .int j => if smallI i || smallI j || wideI i j then some (.int (i * j)) else none
  | .lst l, .int k => if 0 ≤ k ∧ k < 2 ^ 63 then capL (l.length * k.toNat) (.lst (List.replicate k.toNat l).flatten) else none
  | .tup l, .int k => if 0 ≤ k ∧ k ≤ 1000 ∧ 0 < l.length ∧ l.length ≤ 1000 then some (.tup (List.replicate k.toNat l).flatten) else none
  | .str x, .int k => if 0 ≤ k ∧ k < 2 ^ 62 then capL (x.length * k.toNat) (.str (repT x k.toNat)) else none
  | _, _ => none
def mulWT (a b : Nat) : T → T → Option T
  | .int i, .int j => if i.natAbs < 2 ^ a ∧ j.natAbs < 2 ^ b then some (.int (i * j)) else none
  | _, _ => none
def fdivT : T → T → Option T
  | .int i, .int j => if 0 < j ∧ j < 1073741824 then some (.int (i / j)) else none
  | _, _ => none
def modT : T → T → Option T
  | .int i, .int j => if 0 < j then some (.int (i % j)) else none
  | _, _ => none
def powT : T → T → Option T
  | .int i, .int j => if 0 ≤ j ∧ j ≤ 1000000 ∧ i.natAbs < 2 ^ 64 then some (.int (i ^ j.toNat)) else none
  | _, _ => none
def negT : T → Option T
  | .int i => some (.int (-i))
  | _ => none

section
variable {W : Wd} {X : Cx}
theorem upd_same' {H : Hp} {p : Addr} {o : HO} (h : H p = none) : Same H (upd H p o) := fun b x e => by
  rw [upd_ne (ne_of_none e h)]
  exact e
/-- a new list, a new tuple of what stands -/
theorem rep_lst {H : Hp} {F : Addr → Prop} {dk : Dk} {l : List T} {xs : List V} {p : Addr} (hF : ∀ p, H p = none → ¬ F p) (hp : H p = none) (r : RepL W H F dk l xs) : Rep W (upd H p (.lst xs)) F dk (.lst l) (.ref p) := by
  simp only [Rep]
  exact ⟨p, xs, rfl, hF p hp, upd_same, RepL.mono (fun a o nf e => ⟨upd_same' hp a o e, nf⟩) l xs r⟩
theorem rep_tup {H : Hp} {F : Addr → Prop} {dk : Dk} {l : List T} {xs : List V} {p : Addr} (hF : ∀ p, H p = none → ¬ F p) (hp : H p = none) (r : RepL W H F dk l xs) : Rep W (upd H p (.tup xs)) F dk (.tup l) (.ref p) := by
  simp only [Rep]
  exact ⟨p, xs, rfl, hF p hp, upd_same, RepL.mono (fun a o nf e => ⟨upd_same' hp a o e, nf⟩) l xs r⟩
def rAddA (K : PySem.W.Frag) : R2 := fun x y H Q => (∃ i j, x = .int i ∧ y = .int j ∧ Q (.int (i + j)) H) ∨ (∃ i j, x = .str i ∧ y = .str j ∧ i.length + j.length ≤ sizeLine ∧ Q (.str (i ++ j)) H) ∨ rCat x y H Q ∨ rCatA K x y H Q
theorem op_addA : OpR X (binaryOp .Add) (rAddA X.K) := op_add.or (op_add_str.or (op_cat.or op_catA))
theorem agr_add : Agr2 W (rAddA W.K) addT := fun {dk F H x y a b t Q} hF ra rb e q => by
  unfold addT at e
  split at e
  · cases e
    simp only [Rep] at ra rb
    exact .inl ⟨_, _, ra, rb, q _ H (.refl _) (by simp only [Rep])⟩
  · obtain ⟨hz, rfl⟩ := capL_some e
    simp only [Rep] at ra rb
    exact .inr (.inl ⟨_, _, ra, rb, hz, q _ H (.refl _) (by simp only [Rep])⟩)
  · obtain ⟨hz, rfl⟩ := capL_some e
    simp only [Rep] at ra rb
    obtain ⟨p, xs, rfl, n1, h1, r1⟩ := ra
    obtain ⟨p2, ys, rfl, n2, h2, r2⟩ := rb
    exact .inr (.inr (.inl ⟨_, _, _, _, rfl, rfl, h1, h2, by rw [r1.length, r2.length]; exact hz, fun p hp => q _ _ (upd_same' hp) (rep_lst hF hp (r1.append r2))⟩))
  · obtain ⟨hz, rfl⟩ := capL_some e
    simp only [Rep] at ra rb
    obtain ⟨p, xs, rfl, n1, h1, r1⟩ := ra
    obtain ⟨p2, ys, rfl, n2, h2, r2⟩ := rb
    refine .inr (.inr (.inr ⟨_, _, _, _, rfl, rfl, .of h1, .of h2, by rw [r1.length, r2.length]; exact hz, fun e => ?_, fun _ e => ?_, fun _ _ p hp => q _ _ (upd_same' hp) (rep_tup hF hp (r1.append r2))⟩))
    · subst e
      cases RepL.nil_inv r1
      refine q _ H (.refl _) ?_
      simp only [Rep, List.nil_append]
      exact ⟨_, _, rfl, n2, h2, r2⟩
    · subst e
      cases RepL.nil_inv r2
      refine q _ H (.refl _) ?_
      simp only [Rep, List.append_nil]
      exact ⟨_, _, rfl, n1, h1, r1⟩
  · cases e
theorem agr_sub : Agr2 W (rI0 fun i j => .int (i - j)) subT := fun {dk F H x y a b t Q} hF ra rb e q => by
  unfold subT at e
  split at e
  · cases e
    simp only [Rep] at ra rb
    exact ⟨_, _, ra, rb, q _ H (.refl _) (by simp only [Rep])⟩
  · cases e
theorem agr_mod : Agr2 W (rI (fun _ j => 0 < j) fun i j => .int (i % j)) modT := fun {dk F H x y a b t Q} hF ra rb e q => by
  unfold modT at e
  split at e
  · split at e
    · rename_i h
      cases e
      simp only [Rep] at ra rb
      exact ⟨_, _, ra, rb, h, q _ H (.refl _) (by simp only [Rep])⟩
    · cases e
  · cases e
theorem agr_fdiv : Agr2 W (rI CDiv fun i j => .int (i / j)) fdivT := fun {dk F H x y a b t Q} hF ra rb e q => by
  unfold fdivT at e
  split at e
  · split at e
    · rename_i h
      cases e
      simp only [Rep] at ra rb
      exact ⟨_, _, ra, rb, h, q _ H (.refl _) (by simp only [Rep])⟩
    · cases e
  · cases e
theorem agr_pow : Agr2 W (rI CPow fun i j => .int (i ^ j.toNat)) powT := fun {dk F H x y a b t Q} hF ra rb e q => by
  unfold powT at e
  split at e
  · split at e
    · rename_i h
      cases e
      simp only [Rep] at ra rb
      exact ⟨_, _, ra, rb, h, q _ H (.refl _) (by simp only [Rep])⟩
    · cases e
  · cases e
theorem agr_neg : Agr1 W (rU fun i => .int (-i)) negT := fun {dk F H x a t Q} hF ra e q => by
  unfold negT at e
  split at e
  · cases e
    simp only [Rep] at ra
    exact ⟨_, ra, q _ H (.refl _) (by simp only [Rep])⟩
  · cases e
end
end TL

/-! TLc: comparisons, truth, places, slices, displays, calls of built-ins. -/
namespace TL
open PySem PySem.Spec PyProof.Rows L2

/-! ### trees as plain data -/
mutual
def T.py : T → Option PyData
  | .non => some .none
  | .bl b => some (.bool b)
  | .int i => some (.int i)
  | .str x => some (.str x)
  | .tup l => (pyL l).map .tuple
  | .lst l => (pyL l).map .list
  | .dic _ => none
  | .ins _ _ => none
  | .dck => none
def pyL : List T → Option (List PyData)
  | [] => some []
  | t :: l => match t.py, pyL l with
    | some d, some ds => some (d :: ds)
    | _, _ => none
end
mutual
theorem Rep.dp {W : Wd} {H : Hp} {F : Addr → Prop} {dk : Dk} : ∀ {t : T} {v : V} {d : PyData}, Rep W H F dk t v → t.py = some d → Dp W.K H v d
  | .non, v, d, r, e => by
    simp only [Rep] at r
    simp only [T.py, Option.some.injEq] at e
    subst r e
    exact .non
  | .bl b, v, d, r, e => by
    simp only [Rep] at r
    simp only [T.py, Option.some.injEq] at e
    subst r e
    exact .bl b
  | .int b, v, d, r, e => by
    simp only [Rep] at r
    simp only [T.py, Option.some.injEq] at e
    subst r e
    exact .int b
  | .str b, v, d, r, e => by
    simp only [Rep] at r
    simp only [T.py, Option.some.injEq] at e
    subst r e
    exact .str b
  | .tup l, v, d, r, e => by
    simp only [Rep] at r
    obtain ⟨a, xs, rfl, _, s, rl⟩ := r
    simp only [T.py, Option.map_eq_some_iff] at e
    obtain ⟨ds, e, rfl⟩ := e
    exact .tup (.of s) (RepL.dp rl e)
  | .lst l, v, d, r, e => by
    simp only [Rep] at r
    obtain ⟨a, xs, rfl, _, s, rl⟩ := r
    simp only [T.py, Option.map_eq_some_iff] at e
    obtain ⟨ds, e, rfl⟩ := e
    exact .lst (.of s) (RepL.dp rl e)
  | .dic _, v, d, r, e => by simp only [T.py] at e; cases e
  | .ins _ _, v, d, r, e => by simp only [T.py] at e; cases e
  | .dck, v, d, r, e => by simp only [T.py] at e; cases e
theorem RepL.dp {W : Wd} {H : Hp} {F : Addr → Prop} {dk : Dk} : ∀ {l : List T} {xs : List V} {ds : List PyData}, RepL W H F dk l xs → pyL l = some ds → DpAll W.K H xs ds
  | [], xs, ds, r, e => by
    simp only [RepL] at r
    simp only [pyL, Option.some.injEq] at e
    subst r e
    exact .nil
  | t :: l, xs, ds, r, e => by
    simp only [RepL] at r
    obtain ⟨x, q, rfl, h1, h2⟩ := r
    simp only [pyL] at e
    split at e
    · rename_i d ds e1 e2
      cases e
      exact .cons (Rep.dp h1 e1) (RepL.dp h2 e2)
    · cases e
end
/-- equality of plain data -/
def eqB (a b : T) : Option Bool := match a, b with
  | .int i, .int j => some (decide (i = j))
  | .str x, .str y => some (decide (x = y))
  | .bl x, .bl y => some (decide (x = y))
  | a, b => match a.py, b.py with
    | some d, some e => if SeqAt.shaped d && SeqAt.shaped e then some (PyData.eqv d e) else none
    | _, _ => none
def eqT (a b : T) : Option T := (eqB a b).map .bl
def neT (a b : T) : Option T := (eqB a b).map fun z => .bl (!z)
def reprT (a : T) : Option T := match a.py with
  | some d => if d.showable && SeqAt.shaped d && decide (d.shown.length ≤ 16777216) then some (.str d.shown) else none
  | none => none
def ltB : T → T → Option Bool
  | .int i, .int j => some (decide (i < j))
  | .str x, .str y => some (decide (x.cps.toList < y.cps.toList))
  | _, _ => none
def ltT (a b : T) : Option T := (ltB a b).map .bl
def leT (a b : T) : Option T := (ltB b a).map fun z => .bl (!z)
def gtT (a b : T) : Option T := (ltB b a).map .bl
def geT (a b : T) : Option T := (ltB a b).map fun z => .bl (!z)
def T.isNon : T → Bool
  | .non => true
  | _ => false
def isNonT (a b : T) : Option T := match b with
  | .non => some (.bl a.isNon)
  | _ => none
def notNonT (a b : T) : Option T := match b with
  | .non => some (.bl (!a.isNon))
  | _ => none
def keyT : T → Option Key
  | .int i => some (.inl i)
  | .str x => some (.inr x)
  | _ => none
def lookK (l : List (Key × T)) (k : Key) : Option T := (l.find? fun kv => decide (kv.1 = k)).map (·.2)
section
variable {W : Wd} {H : Hp} {F : Addr → Prop} {dk : Dk}
theorem RepD.look : ∀ {l : List (Key × T)} {xs : List (Key × V)} {k : Key}, RepD W H F dk l xs → match lookK l k with
    | some t => ∃ v, valV xs k = some v ∧ Rep W H F dk t v
    | none => valV xs k = none
  | [], xs, k, r => by
    simp only [RepD] at r
    subst r
    exact valV_nil
  | (q, t) :: l, xs, k, r => by
    simp only [RepD] at r
    obtain ⟨x, s, rfl, h1, h2⟩ := r
    by_cases e : q = k
    · have e1 : lookK ((q, t) :: l) k = some t := by simp [lookK, e]
      have e2 : valV ((q, x) :: s) k = some x := by simp [valV, e]
      rw [e1, e2]
      exact ⟨x, rfl, h1⟩
    · have e1 : lookK ((q, t) :: l) k = lookK l k := by simp [lookK, e]
      have e2 : valV ((q, x) :: s) k = valV s k := by simp [valV, e]
      rw [e1, e2]
      exact RepD.look h2
theorem key_rep {k : T} {y : V} {q : Key} (r : Rep W H F dk k y) (e : keyT k = some q) : y = kV q := by
  cases k <;> first
    | (simp only [Rep] at r; cases e; exact r)
    | cases e
end
/-- membership: a text in a text, plain data in a list or tuple -/
def flatT : T → Bool
  | .non => true | .bl _ => true | .int _ => true | .str _ => true
  | _ => false
def anyEq (a : T) : List T → Option Bool
  | [] => some false
  | b :: l => match eqB b a, anyEq a l with
    | some x, some y => some (x || y)
    | _, _ => none
def inB (a b : T) : Option Bool := match a, b with
  | a, .dic l => (keyT a).map fun k => (lookK l k).isSome
  | .str x, .str y => some (!(Builtin.Str.occurrences y x 0 y.length 1).isEmpty)
  | a, .lst l => match a.py, pyL l with
    | some d, some ds => if SeqAt.shaped d && SeqAt.shaped (.list ds) then some (ds.any fun z => PyData.eqv z d) else none
    | _, _ => none
  | a, .tup l => match a.py, pyL l with
    | some d, some ds => if flatT a && l.all flatT then some (ds.any fun z => PyData.eqv z d) else none
    | _, _ => none
  | _, _ => none
def inT (a b : T) : Option T := (inB a b).map .bl
def notInT (a b : T) : Option T := (inB a b).map fun z => .bl (!z)

section
variable {W : Wd} {X : Cx}
theorem Rep.non_iff {H : Hp} {F : Addr → Prop} {dk : Dk} {t : T} {v : V} (r : Rep W H F dk t v) : decide (v = .non) = t.isNon := by
  cases t <;> simp only [Rep] at r <;> first
    | (subst r; rfl)
    | (obtain ⟨a, xs, rfl, _⟩ := r; rfl)
    | (obtain ⟨a, C, dx, xs, rfl, _⟩ := r; rfl)
def rEqA (K : PySem.W.Frag) : R2 := fun x y H Q => rEq x y H Q ∨ rEqD K x y H Q
def rNeA (K : PySem.W.Frag) : R2 := fun x y H Q => rNe x y H Q ∨ rNeD K x y H Q
theorem op_eqA (hu : X.A.units + 64 < cLine) : OpR X (compareOp .Eq) (rEqA X.K) := op_eq.or (op_eqD hu)
theorem op_neA (hu : X.A.units + 64 < cLine) : OpR X (compareOp .NotEq) (rNeA X.K) := op_ne.or (op_neD hu)
theorem eqB_reads {H : Hp} {F : Addr → Prop} {dk : Dk} {a b : T} {x y : V} {z : Bool} (ra : Rep W H F dk a x) (rb : Rep W H F dk b y) (e : eqB a b = some z) :
    (scal x y = true ∧ decide (x = y) = z) ∨ ∃ d e, Dp W.K H x d ∧ Dp W.K H y e ∧ SeqAt.shaped d = true ∧ SeqAt.shaped e = true ∧ PyData.eqv d e = z := by
  unfold eqB at e
  split at e
  · simp only [Rep] at ra rb
    subst ra rb
    refine .inl ⟨rfl, ?_⟩
    have := Option.some.inj e
    rw [← this]
    exact decide_eq_decide.mpr ⟨fun h => V.int.inj h, fun h => congrArg _ h⟩
  · simp only [Rep] at ra rb
    subst ra rb
    refine .inl ⟨rfl, ?_⟩
    have := Option.some.inj e
    rw [← this]
    exact decide_eq_decide.mpr ⟨fun h => V.str.inj h, fun h => congrArg _ h⟩
  · simp only [Rep] at ra rb
    subst ra rb
    refine .inl ⟨rfl, ?_⟩
    have := Option.some.inj e
    rw [← this]
    exact decide_eq_decide.mpr ⟨fun h => V.bl.inj h, fun h => congrArg _ h⟩
  · split at e
    · rename_i d f ed ef
      split at e
      · rename_i hs
        obtain ⟨h1, h2⟩ := Bool.and_eq_true_iff.mp hs
        exact .inr ⟨d, f, ra.dp ed, rb.dp ef, h1, h2, Option.some.inj e⟩
      · cases e
    · cases e
theorem rep_bl {H : Hp} {F : Addr → Prop} {dk : Dk} {b : Bool} : Rep W H F dk (.bl b) (.bl b) := by simp only [Rep]
theorem rep_int {H : Hp} {F : Addr → Prop} {dk : Dk} {b : Int} : Rep W H F dk (.int b) (.int b) := by simp only [Rep]
theorem rep_str {H : Hp} {F : Addr → Prop} {dk : Dk} {b : Str} : Rep W H F dk (.str b) (.str b) := by simp only [Rep]
theorem agr_eq : Agr2 W (rEqA W.K) eqT := fun {dk F H x y a b t Q} hF ra rb e q => by
  simp only [eqT, Option.map_eq_some_iff] at e
  obtain ⟨z, e, rfl⟩ := e
  rcases eqB_reads ra rb e with ⟨h1, h2⟩ | ⟨d, f, h1, h2, h3, h4, h5⟩
  · exact .inl ⟨h1, by rw [h2]; exact q _ H (.refl _) rep_bl⟩
  · exact .inr ⟨d, f, h1, h2, h3, h4, by rw [h5]; exact q _ H (.refl _) rep_bl⟩
theorem agr_ne : Agr2 W (rNeA W.K) neT := fun {dk F H x y a b t Q} hF ra rb e q => by
  simp only [neT, Option.map_eq_some_iff] at e
  obtain ⟨z, e, rfl⟩ := e
  rcases eqB_reads ra rb e with ⟨h1, h2⟩ | ⟨d, f, h1, h2, h3, h4, h5⟩
  · exact .inl ⟨h1, by rw [h2]; exact q _ H (.refl _) rep_bl⟩
  · exact .inr ⟨d, f, h1, h2, h3, h4, by rw [h5]; exact q _ H (.refl _) rep_bl⟩
/-- the order of ints and of texts -/
def rOrd (p : Int → Int → Bool) (s : Str → Str → Bool) : R2 := fun x y H Q => (∃ i j, x = .int i ∧ y = .int j ∧ Q (.bl (p i j)) H) ∨ ∃ i j, x = .str i ∧ y = .str j ∧ Q (.bl (s i j)) H
theorem op_ltA : OpR X (compareOp .Lt) (rOrd (fun i j => decide (i < j)) fun i j => decide (i.cps.toList < j.cps.toList)) := op_lt.or op_lt_str
theorem op_leA : OpR X (compareOp .LtE) (rOrd (fun i j => decide (i ≤ j)) fun i j => !decide (j.cps.toList < i.cps.toList)) := op_le.or op_le_str
theorem op_gtA : OpR X (compareOp .Gt) (rOrd (fun i j => decide (j < i)) fun i j => decide (j.cps.toList < i.cps.toList)) := op_gt.or op_gt_str
theorem op_geA : OpR X (compareOp .GtE) (rOrd (fun i j => decide (j ≤ i)) fun i j => !decide (i.cps.toList < j.cps.toList)) := op_ge.or op_ge_str
theorem le_not (i j : Int) : decide (i ≤ j) = !decide (j < i) := by
  by_cases h : i ≤ j
  · rw [decide_eq_true h, decide_eq_false (by omega)]
    rfl
  · rw [decide_eq_false h, decide_eq_true (by omega)]
    rfl
theorem agr_ord {p : Int → Int → Bool} {s : Str → Str → Bool} {op : T → T → Option T} (h : ∀ a b t, op a b = some t → (∃ i j, a = .int i ∧ b = .int j ∧ t = .bl (p i j)) ∨ ∃ i j, a = .str i ∧ b = .str j ∧ t = .bl (s i j)) : Agr2 W (rOrd p s) op :=
  fun {dk F H x y a b t Q} hF ra rb e q => by
    rcases h a b t e with ⟨i, j, rfl, rfl, rfl⟩ | ⟨i, j, rfl, rfl, rfl⟩
    · simp only [Rep] at ra rb
      exact .inl ⟨i, j, ra, rb, q _ H (.refl _) rep_bl⟩
    · simp only [Rep] at ra rb
      exact .inr ⟨i, j, ra, rb, q _ H (.refl _) rep_bl⟩
theorem ltB_inv {a b : T} {z : Bool} (h : ltB a b = some z) : (∃ i j, a = .int i ∧ b = .int j ∧ z = decide (i < j)) ∨ ∃ i j, a = .str i ∧ b = .str j ∧ z = decide (i.cps.toList < j.cps.toList) := by
  unfold ltB at h
  split at h
  · exact .inl ⟨_, _, rfl, rfl, (Option.some.inj h).symm⟩
  · exact .inr ⟨_, _, rfl, rfl, (Option.some.inj h).symm⟩
  · cases h
theorem agr_lt : Agr2 W (rOrd (fun i j => decide (i < j)) fun i j => decide (i.cps.toList < j.cps.toList)) ltT := agr_ord fun a b t h => by
  simp only [ltT, Option.map_eq_some_iff] at h
  obtain ⟨z, h, rfl⟩ := h
  rcases ltB_inv h with ⟨i, j, rfl, rfl, rfl⟩ | ⟨i, j, rfl, rfl, rfl⟩
  · exact .inl ⟨_, _, rfl, rfl, rfl⟩
  · exact .inr ⟨_, _, rfl, rfl, rfl⟩
theorem agr_gt : Agr2 W (rOrd (fun i j => decide (j < i)) fun i j => decide (j.cps.toList < i.cps.toList)) gtT := agr_ord fun a b t h => by
  simp only [gtT, Option.map_eq_some_iff] at h
  obtain ⟨z, h, rfl⟩ := h
  rcases ltB_inv h with ⟨i, j, rfl, rfl, rfl⟩ | ⟨i, j, rfl, rfl, rfl⟩
  · exact .inl ⟨_, _, rfl, rfl, rfl⟩
  · exact .inr ⟨_, _, rfl, rfl, rfl⟩
theorem agr_le : Agr2 W (rOrd (fun i j => decide (i ≤ j)) fun i j => !decide (j.cps.toList < i.cps.toList)) leT := agr_ord fun a b t h => by
  simp only [leT, Option.map_eq_some_iff] at h
  obtain ⟨z, h, rfl⟩ := h
  rcases ltB_inv h with ⟨i, j, rfl, rfl, rfl⟩ | ⟨i, j, rfl, rfl, rfl⟩
  · exact .inl ⟨_, _, rfl, rfl, by rw [le_not]⟩
  · exact .inr ⟨_, _, rfl, rfl, rfl⟩
theorem agr_ge : Agr2 W (rOrd (fun i j => decide (j ≤ i)) fun i j => !decide (i.cps.toList < j.cps.toList)) geT := agr_ord fun a b t h => by
  simp only [geT, Option.map_eq_some_iff] at h
  obtain ⟨z, h, rfl⟩ := h
  rcases ltB_inv h with ⟨i, j, rfl, rfl, rfl⟩ | ⟨i, j, rfl, rfl, rfl⟩
  · exact .inl ⟨_, _, rfl, rfl, by rw [le_not]⟩
  · exact .inr ⟨_, _, rfl, rfl, rfl⟩
theorem agr_isN : Agr2 W (fun x y H Q => y = .non ∧ Q (.bl (decide (x = .non))) H) isNonT := fun {dk F H x y a b t Q} hF ra rb e q => by
  unfold isNonT at e
  split at e
  · cases e
    simp only [Rep] at rb
    refine ⟨rb, ?_⟩
    rw [ra.non_iff]
    exact q _ H (.refl _) rep_bl
  · cases e
theorem agr_notN : Agr2 W (fun x y H Q => y = .non ∧ Q (.bl (!decide (x = .non))) H) notNonT := fun {dk F H x y a b t Q} hF ra rb e q => by
  unfold notNonT at e
  split at e
  · cases e
    simp only [Rep] at rb
    refine ⟨rb, ?_⟩
    rw [ra.non_iff]
    exact q _ H (.refl _) rep_bl
  · cases e
/-! #### in -/
def rInA (K : PySem.W.Frag) (neg : Bool) : R2 := fun x y H Q => (∃ i j, x = .str i ∧ y = .str j ∧ Q (.bl (if neg then !(!(Builtin.Str.occurrences j i 0 j.length 1).isEmpty) else !(Builtin.Str.occurrences j i 0 j.length 1).isEmpty)) H) ∨
  (∃ d ds, Dp K H x d ∧ Dp K H y (.list ds) ∧ SeqAt.shaped d = true ∧ SeqAt.shaped (.list ds) = true ∧ Q (.bl (if neg then !ds.any fun z => PyData.eqv z d else ds.any fun z => PyData.eqv z d)) H) ∨ rIn K neg x y H Q ∨ ∃ a o, y = .ref a ∧ DGet H a x o ∧ Q (.bl (if neg then !o.isSome else o.isSome)) H
theorem op_inDk (hu : X.A.units + 65 < cLine) : OpR X (compareOp .In) (fun x y H Q => ∃ a o, y = .ref a ∧ DGet H a x o ∧ Q (.bl o.isSome) H) := by
  intro pins s σ H x y v u Q I rx ry h
  obtain ⟨a, o, rfl, g, q⟩ := h
  cases ry
  exact d_in (by omega) I g rx fun s' I' => ⟨.bl _, H, I', rfl, q⟩
theorem op_notInDk (hu : X.A.units + 65 < cLine) : OpR X (compareOp .NotIn) (fun x y H Q => ∃ a o, y = .ref a ∧ DGet H a x o ∧ Q (.bl (!o.isSome)) H) := by
  intro pins s σ H x y v u Q I rx ry h
  obtain ⟨a, o, rfl, g, q⟩ := h
  cases ry
  exact d_notIn (by omega) I g rx fun s' I' => ⟨.bl _, H, I', rfl, q⟩
theorem op_inA (hu : X.A.units + 65 < cLine) : OpR X (compareOp .In) (rInA X.K false) := op_in_str.or ((op_inD hu).or (op_in_seq.or (op_inDk hu)))
theorem op_notInA (hu : X.A.units + 65 < cLine) : OpR X (compareOp .NotIn) (rInA X.K true) := op_notin_str.or ((op_notInD hu).or (op_notIn_seq.or (op_notInDk hu)))
theorem flat_of {H : Hp} {F : Addr → Prop} {dk : Dk} {t : T} {v : V} (r : Rep W H F dk t v) (h : flatT t = true) : flatV v = true := by
  cases t <;> first
    | (simp only [Rep] at r; subst r; rfl)
    | cases h
theorem eqV_of {H : Hp} {F : Addr → Prop} {dk : Dk} {s t : T} {v u : V} {d e : PyData} (r : Rep W H F dk s v) (r' : Rep W H F dk t u) (h : flatT s = true) (h' : flatT t = true) (ed : s.py = some d) (ee : t.py = some e) : eqV v u = PyData.eqv d e := by
  cases s <;> first
    | (simp only [Rep] at r
       simp only [T.py, Option.some.injEq] at ed
       subst r ed
       cases t <;> first
         | (simp only [Rep] at r'
            simp only [T.py, Option.some.injEq] at ee
            subst r' ee
            first | rfl | simp [eqV, PyData.eqv])
         | cases h')
    | cases h
theorem anyV_of {H : Hp} {F : Addr → Prop} {dk : Dk} {a : T} {x : V} {d : PyData} (ra : Rep W H F dk a x) (fa : flatT a = true) (ed : a.py = some d) : ∀ {l : List T} {xs : List V} {ds : List PyData}, RepL W H F dk l xs → l.all flatT = true → pyL l = some ds →
    xs.all flatV = true ∧ inV x xs = ds.any fun z => PyData.eqv z d
  | [], xs, ds, r, _, e => by
    simp only [RepL] at r
    simp only [pyL, Option.some.injEq] at e
    subst r e
    exact ⟨rfl, rfl⟩
  | t :: l, xs, ds, r, h, e => by
    simp only [RepL] at r
    obtain ⟨y, q, rfl, h1, h2⟩ := r
    simp only [List.all_cons, Bool.and_eq_true] at h
    simp only [pyL] at e
    split at e
    · rename_i d' ds e1 e2
      cases e
      obtain ⟨i1, i2⟩ := anyV_of ra fa ed h2 h.2 e2
      refine ⟨?_, ?_⟩
      · rw [List.all_cons, flat_of h1 h.1, i1]
        rfl
      · unfold inV at i2 ⊢
        rw [List.any_cons, List.any_cons, i2, eqV_of h1 ra h.1 fa e1 ed]
    · cases e
theorem inB_reads {H : Hp} {F : Addr → Prop} {dk : Dk} {a b : T} {x y : V} {z : Bool} {neg : Bool} {Q : VK} (ra : Rep W H F dk a x) (rb : Rep W H F dk b y) (e : inB a b = some z) (q : Q (.bl (if neg then !z else z)) H) : rInA W.K neg x y H Q := by
  unfold inB at e
  split at e
  · obtain ⟨k, ek, rfl⟩ := Option.map_eq_some_iff.mp e
    simp only [Rep] at rb
    obtain ⟨p, xs, rfl, _, s, rd⟩ := rb
    have hl := rd.look (k := k)
    have ey := key_rep ra ek
    subst ey
    refine .inr (.inr (.inr ⟨p, valV xs k, rfl, .inl ⟨xs, k, s, rfl, rfl⟩, ?_⟩))
    generalize hlk : lookK _ k = lk at hl q
    cases lk with
    | none =>
      rw [hl]
      exact q
    | some t =>
      obtain ⟨v, hv, _⟩ := hl
      rw [hv]
      exact q
  · simp only [Rep] at ra rb
    cases e
    exact .inl ⟨_, _, ra, rb, q⟩
  · split at e
    · rename_i d ds ed eds
      split at e
      · rename_i hs
        obtain ⟨h1, h2⟩ := Bool.and_eq_true_iff.mp hs
        cases e
        refine .inr (.inl ⟨d, ds, ra.dp ed, rb.dp (by simp only [T.py, eds, Option.map_some]), h1, h2, ?_⟩)
        exact q
      · cases e
    · cases e
  · split at e
    · rename_i d ds ed eds
      split at e
      · rename_i hs
        obtain ⟨h1, h2⟩ := Bool.and_eq_true_iff.mp hs
        cases e
        simp only [Rep] at rb
        obtain ⟨p, ys, rfl, _, st, rl⟩ := rb
        obtain ⟨i1, i2⟩ := anyV_of ra h1 ed rl h2 eds
        refine .inr (.inr (.inl ⟨p, ys, rfl, .inr (.of st), flat_of ra h1, i1, ?_⟩))
        rw [i2]
        exact q
      · cases e
    · cases e
  · cases e
theorem agr_in : Agr2 W (rInA W.K false) inT := fun {dk F H x y a b t Q} hF ra rb e q => by
  simp only [inT, Option.map_eq_some_iff] at e
  obtain ⟨z, e, rfl⟩ := e
  exact inB_reads ra rb e (q _ H (.refl _) rep_bl)
theorem agr_notIn : Agr2 W (rInA W.K true) notInT := fun {dk F H x y a b t Q} hF ra rb e q => by
  simp only [notInT, Option.map_eq_some_iff] at e
  obtain ⟨z, e, rfl⟩ := e
  exact inB_reads ra rb e (q _ H (.refl _) rep_bl)
/-! #### repr -/
theorem cr_repr (hg : X.A.guards = some []) (hu : X.A.units + 70 < cLine) : CallR X (.builtin "repr") (fun xs H Q => ∃ x d, xs = [x] ∧ Dp X.K H x d ∧ d.showable = true ∧ SeqAt.shaped d = true ∧ d.shown.length ≤ sizeLine ∧ Q (.str d.shown) H) := by
  intro pins s σ H xs us Q I r h
  obtain ⟨x, d, rfl, hd, h1, h2, h3, q⟩ := h
  obtain ⟨u, rfl, ru⟩ := Vals.one r
  obtain ⟨as, rd⟩ := Dp.reads I d x u hd ru
  have hdep := SeqAt.depth_of_shaped h2
  have hnd := PyData.hasDict_of_canLay d (SeqAt.canLay_of_shaped h2)
  cases rd with
  | none => exact PySem.P.repr_of_none ⟨.str _, H, I.tok _, ⟨_, rfl⟩, by simpa only [PyData.shown] using q⟩
  | bool b => exact PySem.P.repr_of_bool ⟨.str _, H, I.tok _, ⟨_, rfl⟩, by simpa only [PyData.shown] using q⟩
  | int i t => exact PySem.P.repr_of_int (by simpa [PyData.showable] using h1) ⟨.str _, H, I.tok _, ⟨_, rfl⟩, by simpa only [PyData.shown] using q⟩
  | str x t => exact PySem.P.repr_of_str ⟨.str _, H, I.tok _, ⟨_, rfl⟩, by simpa only [PyData.shown] using q⟩ (by simpa only [PyData.shown] using h3)
  | list a1 a2 a3 a4 =>
    exact repr_of_reads' (Reads.list a1 a2 a3 a4) h1 (PyData.noDict_hsm hnd) hg (by omega) (fun _ _ e => e) (fun h' u tk hk => ⟨.str _, H, I.kept hk, ⟨_, rfl⟩, q⟩) h3
  | tuple a1 a2 a3 a4 =>
    exact repr_of_reads' (Reads.tuple a1 a2 a3 a4) h1 (PyData.noDict_hsm hnd) hg (by omega) (fun _ _ e => e) (fun h' u tk hk => ⟨.str _, H, I.kept hk, ⟨_, rfl⟩, q⟩) h3
  | dict a1 a2 a3 a4 a5 => simp only [PyData.hasDict] at hnd; cases hnd
end
end TL

/-! TLc1: max, min of a tuple of ints. -/
namespace TL
open PySem PySem.Spec PyProof.Rows L2
theorem maxOf_mem : ∀ (x : Int) (xs : List Int), PySem.W.maxOf x xs ∈ x :: xs ∧ ∀ y ∈ x :: xs, y ≤ PySem.W.maxOf x xs
  | x, [] => ⟨List.mem_singleton.mpr rfl, fun y hy => by rw [List.mem_singleton.mp hy]; exact Int.le_refl _⟩
  | x, z :: xs => by
    have e : PySem.W.maxOf x (z :: xs) = PySem.W.maxOf (if x < z then z else x) xs := by
      unfold PySem.W.maxOf
      rw [List.foldl_cons]
      congr 1
      show (if decide (x < z) = true then z else x) = _
      by_cases h : x < z
      · rw [if_pos (decide_eq_true h), if_pos h]
      · rw [if_neg (by simpa using h), if_neg h]
    rw [e]
    obtain ⟨h1, h2⟩ := maxOf_mem (if x < z then z else x) xs
    refine ⟨?_, fun y hy => ?_⟩
    · rcases List.mem_cons.mp h1 with q | q
      · rw [q]
        split <;> simp
      · exact List.mem_cons_of_mem _ (List.mem_cons_of_mem _ q)
    · have h3 := h2 _ List.mem_cons_self
      rcases List.mem_cons.mp hy with rfl | hy
      · split at h3 <;> (try split) <;> omega
      · rcases List.mem_cons.mp hy with rfl | hy
        · split at h3 <;> (try split) <;> omega
        · exact h2 y (List.mem_cons_of_mem _ hy)
theorem minOf_mem : ∀ (x : Int) (xs : List Int), PySem.W.minOf x xs ∈ x :: xs ∧ ∀ y ∈ x :: xs, PySem.W.minOf x xs ≤ y
  | x, [] => ⟨List.mem_singleton.mpr rfl, fun y hy => by rw [List.mem_singleton.mp hy]; exact Int.le_refl _⟩
  | x, z :: xs => by
    have e : PySem.W.minOf x (z :: xs) = PySem.W.minOf (if z < x then z else x) xs := by
      unfold PySem.W.minOf
      rw [List.foldl_cons]
      congr 1
      show (if decide (z < x) = true then z else x) = _
      by_cases h : z < x
      · rw [if_pos (decide_eq_true h), if_pos h]
      · rw [if_neg (by simpa using h), if_neg h]
    rw [e]
    obtain ⟨h1, h2⟩ := minOf_mem (if z < x then z else x) xs
    refine ⟨?_, fun y hy => ?_⟩
    · rcases List.mem_cons.mp h1 with q | q
      · rw [q]
        split <;> simp
      · exact List.mem_cons_of_mem _ (List.mem_cons_of_mem _ q)
    · have h3 := h2 _ List.mem_cons_self
      rcases List.mem_cons.mp hy with rfl | hy
      · split at h3 <;> (try split) <;> omega
      · rcases List.mem_cons.mp hy with rfl | hy
        · split at h3 <;> (try split) <;> omega
        · exact h2 y (List.mem_cons_of_mem _ hy)
/-- max, min of a list or a tuple of ints or texts -/
def Sq (K : PySem.W.Frag) (H : Hp) (a : Addr) (xs : List V) : Prop := SqL K H a xs ∨ SqT K H a xs
def rBest (K : PySem.W.Frag) (f : Int → List Int → Int) (g : Str → List Str → Str) : List V → Hp → VK → Prop := fun vs H Q => ∃ (a : Addr), vs = [V.ref a] ∧
  ((∃ x xs, Sq K H a ((x :: xs).map V.int) ∧ Q (.int (f x xs)) H) ∨ ∃ x xs, Sq K H a ((x :: xs).map V.str) ∧ Q (.str (g x xs)) H)
section
variable {X : Cx}
theorem cr_maxG (hc : X.calm = true) (hu : X.A.units + 64 < cLine) : CallR X (.builtin "max") (rBest X.K PySem.W.maxOf PySem.W.maxOf) := by
  intro pins s σ H vs us Q I r h
  obtain ⟨a, rfl, ⟨x, xs, hs, q⟩ | ⟨x, xs, hs, q⟩⟩ := h
  · rw [Vals.ref1 r]
    rcases hs with hs | hs
    · obtain ⟨its, rv, hl, _⟩ := I.list hs
      refine PySem.W.max_list_datum (α := Int) (I.ok.hd hc) hl.isList (x := x) (xs := xs) (.of_ints rv.ints) (by show X.A.units + 1 + 0 < cLine; omega) fun i v h' tk hv hH hk => ?_
      obtain ⟨as, rd⟩ := hH
      cases rd
      exact ⟨.int _, H, I.kept hk, ⟨_, rfl⟩, q⟩
    · obtain ⟨its, rv, hl, _⟩ := I.tuple hs
      refine PySem.W.max_tuple_datum (α := Int) (I.ok.hd hc) (show s.heap.IsTuple a _ from hl) (x := x) (xs := xs) (.of_ints rv.ints) (by show X.A.units + 1 + 0 < cLine; omega) fun i v h' tk hv hH hk => ?_
      obtain ⟨as, rd⟩ := hH
      cases rd
      exact ⟨.int _, H, I.kept hk, ⟨_, rfl⟩, q⟩
  · rw [Vals.ref1 r]
    rcases hs with hs | hs
    · obtain ⟨its, rv, hl, _⟩ := I.list hs
      refine PySem.W.max_list_datum (α := Str) (I.ok.hd hc) hl.isList (x := x) (xs := xs) (.of_strs rv.strs) (by show X.A.units + 1 + 0 < cLine; omega) fun i v h' tk hv hH hk => ?_
      obtain ⟨as, rd⟩ := hH
      cases rd
      exact ⟨.str _, H, I.kept hk, ⟨_, rfl⟩, q⟩
    · obtain ⟨its, rv, hl, _⟩ := I.tuple hs
      refine PySem.W.max_tuple_datum (α := Str) (I.ok.hd hc) (show s.heap.IsTuple a _ from hl) (x := x) (xs := xs) (.of_strs rv.strs) (by show X.A.units + 1 + 0 < cLine; omega) fun i v h' tk hv hH hk => ?_
      obtain ⟨as, rd⟩ := hH
      cases rd
      exact ⟨.str _, H, I.kept hk, ⟨_, rfl⟩, q⟩
theorem cr_minG (hc : X.calm = true) (hu : X.A.units + 64 < cLine) : CallR X (.builtin "min") (rBest X.K PySem.W.minOf PySem.W.minOf) := by
  intro pins s σ H vs us Q I r h
  obtain ⟨a, rfl, ⟨x, xs, hs, q⟩ | ⟨x, xs, hs, q⟩⟩ := h
  · rw [Vals.ref1 r]
    rcases hs with hs | hs
    · obtain ⟨its, rv, hl, _⟩ := I.list hs
      refine PySem.W.min_list_datum (α := Int) (I.ok.hd hc) hl.isList (x := x) (xs := xs) (.of_ints rv.ints) (by show X.A.units + 1 + 0 < cLine; omega) fun i v h' tk hv hH hk => ?_
      obtain ⟨as, rd⟩ := hH
      cases rd
      exact ⟨.int _, H, I.kept hk, ⟨_, rfl⟩, q⟩
    · obtain ⟨its, rv, hl, _⟩ := I.tuple hs
      refine PySem.W.min_tuple_datum (α := Int) (I.ok.hd hc) (show s.heap.IsTuple a _ from hl) (x := x) (xs := xs) (.of_ints rv.ints) (by show X.A.units + 1 + 0 < cLine; omega) fun i v h' tk hv hH hk => ?_
      obtain ⟨as, rd⟩ := hH
      cases rd
      exact ⟨.int _, H, I.kept hk, ⟨_, rfl⟩, q⟩
  · rw [Vals.ref1 r]
    rcases hs with hs | hs
    · obtain ⟨its, rv, hl, _⟩ := I.list hs
      refine PySem.W.min_list_datum (α := Str) (I.ok.hd hc) hl.isList (x := x) (xs := xs) (.of_strs rv.strs) (by show X.A.units + 1 + 0 < cLine; omega) fun i v h' tk hv hH hk => ?_
      obtain ⟨as, rd⟩ := hH
      cases rd
      exact ⟨.str _, H, I.kept hk, ⟨_, rfl⟩, q⟩
    · obtain ⟨its, rv, hl, _⟩ := I.tuple hs
      refine PySem.W.min_tuple_datum (α := Str) (I.ok.hd hc) (show s.heap.IsTuple a _ from hl) (x := x) (xs := xs) (.of_strs rv.strs) (by show X.A.units + 1 + 0 < cLine; omega) fun i v h' tk hv hH hk => ?_
      obtain ⟨as, rd⟩ := hH
      cases rd
      exact ⟨.str _, H, I.kept hk, ⟨_, rfl⟩, q⟩
end
end TL

/-! TLd: truth, places, slices, displays, calls of built-ins. -/
namespace TL
open PySem PySem.Spec PyProof.Rows L2

/-! ### and, or, not, if else -/
def xAnd (f g : En → M T) : En → M T := fun en => (f en).bind fun x => match x with
  | .bl true => g en
  | .bl false => .pure (.bl false)
  | _ => .bad
def xOr (f g : En → M T) : En → M T := fun en => (f en).bind fun x => match x with
  | .bl false => g en
  | .bl true => .pure (.bl true)
  | _ => .bad
def xAndB (f g : En → M Bool) : En → M Bool := fun en => (f en).bind fun x => match x with
  | true => g en
  | false => .pure false
def xOrB (f g : En → M Bool) : En → M Bool := fun en => (f en).bind fun x => match x with
  | false => g en
  | true => .pure true
def xNotB (f : En → M Bool) : En → M Bool := fun en => (f en).bind fun x => .pure (!x)
def notT : T → Option T
  | .bl b => some (.bl (!b))
  | _ => none
def xIf (c : En → M Bool) (f g : En → M T) : En → M T := fun en => (c en).bind fun x => match x with
  | true => f en
  | false => g en

section
variable {W : Wd} {Ex : XK} {X : Cx} {a b c : Expr} {f g : En → M T} {fb gb hb : En → M Bool} {pos : Pos} {rest : List Expr}
theorem te_one {op} (h : PE X a (tE W Ex f)) : PE X (.BoolOp op [a] pos) (tE W Ex f) := pe_one h
theorem te_and (ha : PE X a (tE W Ex f)) (hb : PE X (.BoolOp .And (b :: rest) pos) (tE W Ex g)) : PE X (.BoolOp .And (a :: b :: rest) pos) (tE W Ex (xAnd f g)) :=
  (pe_and ha hb).imp fun σ H Q ⟨dk, F, G, en, d, S, h⟩ => by
    refine ⟨dk, F, G, en, d, S, (Post.bind h).mono fun t d1 H1 k1 D1 h1 v rv => ?_⟩
    have S1 := S.keep k1 D1
    cases t with
    | bl b =>
      simp only [Rep] at rv
      subst rv
      refine ⟨b, rfl, ?_⟩
      cases b with
      | true =>
        rw [if_pos rfl]
        exact ⟨dk, F, G, en, d1, S1, h1⟩
      | false =>
        rw [if_neg (by decide)]
        exact h1 H1 (.refl _ _) D1 _ rep_bl
    | _ => exact h1.elim
theorem te_or (ha : PE X a (tE W Ex f)) (hb : PE X (.BoolOp .Or (b :: rest) pos) (tE W Ex g)) : PE X (.BoolOp .Or (a :: b :: rest) pos) (tE W Ex (xOr f g)) :=
  (pe_or ha hb).imp fun σ H Q ⟨dk, F, G, en, d, S, h⟩ => by
    refine ⟨dk, F, G, en, d, S, (Post.bind h).mono fun t d1 H1 k1 D1 h1 v rv => ?_⟩
    have S1 := S.keep k1 D1
    cases t with
    | bl b =>
      simp only [Rep] at rv
      subst rv
      refine ⟨b, rfl, ?_⟩
      cases b with
      | false =>
        rw [if_neg (by decide)]
        exact ⟨dk, F, G, en, d1, S1, h1⟩
      | true =>
        rw [if_pos rfl]
        exact h1 H1 (.refl _ _) D1 _ rep_bl
    | _ => exact h1.elim
theorem te_not (ha : PE X a (tE W Ex f)) : PE X (.UnaryOp .Not a pos) (tE W Ex (xUn notT f)) :=
  (pe_not ha).imp fun σ H Q ⟨dk, F, G, en, d, S, h⟩ => by
    refine ⟨dk, F, G, en, d, S, (Post.bind h).mono fun t d1 H1 k1 D1 h1 v rv => ?_⟩
    obtain ⟨z, e, q⟩ := Post.opt_some h1
    cases t with
    | bl b =>
      cases e
      simp only [Rep] at rv
      exact ⟨_, rv, q H1 (.refl _ _) D1 _ rep_bl⟩
    | _ => cases e
theorem tB_of : ∀ σ H (Q : Bool → Hp → Prop), tT W Ex (xTest f) σ H Q → tB (tE W Ex f) σ H Q := tTest_of
/-- a bool as a test -/
theorem tt_val (h : PE X a (tE W Ex f)) (he : ∀ whole, isTrue a X.env whole = (do let v ← whole; standAt a.pos; holding [v] (truthy v)) := by intro _; rfl) : PT X a (tT W Ex (xTest f)) := (pt_val h he).imp tB_of
theorem tw_and1 (ha : PT X a (tT W Ex fb)) : PW X (.BoolOp .And [a] pos) (tT W Ex fb) := pw_and1 ha
theorem tw_or1 (ha : PT X a (tT W Ex fb)) : PW X (.BoolOp .Or [a] pos) (tT W Ex fb) := pw_or1 ha
theorem _root_.L2.PW.imp {e : Expr} {t t' : TT} (h : PW X e t) (k : ∀ σ H Q, t' σ H Q → t σ H Q) : PW X e t' := ⟨fun wh pins s σ H Q I q => h.run wh pins s σ H Q I (k σ H Q q)⟩
theorem tw_and (ha : PT X a (tT W Ex fb)) (hb : PW X (.BoolOp .And (b :: rest) pos) (tT W Ex gb)) : PW X (.BoolOp .And (a :: b :: rest) pos) (tT W Ex (xAndB fb gb)) :=
  (pw_and ha hb).imp fun σ H Q ⟨dk, F, G, en, d, S, h⟩ => by
    refine ⟨dk, F, G, en, d, S, (Post.bind h).mono fun b d1 H1 k1 D1 h1 => ?_⟩
    cases b with
    | true =>
      rw [if_pos rfl]
      exact ⟨dk, F, G, en, d1, S.keep k1 D1, h1⟩
    | false =>
      rw [if_neg (by decide)]
      exact h1 H1 (.refl _ _) D1
theorem tw_or (ha : PT X a (tT W Ex fb)) (hb : PW X (.BoolOp .Or (b :: rest) pos) (tT W Ex gb)) : PW X (.BoolOp .Or (a :: b :: rest) pos) (tT W Ex (xOrB fb gb)) :=
  (pw_or ha hb).imp fun σ H Q ⟨dk, F, G, en, d, S, h⟩ => by
    refine ⟨dk, F, G, en, d, S, (Post.bind h).mono fun b d1 H1 k1 D1 h1 => ?_⟩
    cases b with
    | false =>
      rw [if_neg (by decide)]
      exact ⟨dk, F, G, en, d1, S.keep k1 D1, h1⟩
    | true =>
      rw [if_pos rfl]
      exact h1 H1 (.refl _ _) D1
theorem tt_not (ha : PT X a (tT W Ex fb)) : PT X (.UnaryOp .Not a pos) (tT W Ex (xNotB fb)) :=
  (pt_not ha).imp fun σ H Q ⟨dk, F, G, en, d, S, h⟩ => ⟨dk, F, G, en, d, S, (Post.bind h).mono fun b d1 H1 k1 D1 h1 => h1 H1 (.refl _ _) D1⟩
theorem te_if (hc : PT X c (tT W Ex fb)) (ha : PE X a (tE W Ex f)) (hb : PE X b (tE W Ex g)) : PE X (.IfExp c a b pos) (tE W Ex (xIf fb f g)) :=
  (pe_ifExp hc ha hb).imp fun σ H Q ⟨dk, F, G, en, d, S, h⟩ => by
    refine ⟨dk, F, G, en, d, S, (Post.bind h).mono fun b d1 H1 k1 D1 h1 => ?_⟩
    cases b with
    | true =>
      rw [if_pos rfl]
      exact ⟨dk, F, G, en, d1, S.keep k1 D1, h1⟩
    | false =>
      rw [if_neg (by decide)]
      exact ⟨dk, F, G, en, d1, S.keep k1 D1, h1⟩
end

/-! ### a op b op c -/
def xChain (op op' : T → T → Option T) (f g h : En → M T) : En → M T := fun en => (f en).bind fun x => (g en).bind fun y => (M.opt (op x y)).bind fun z => match z with
  | .bl true => (h en).bind fun w => .opt (op' y w)
  | .bl false => .pure (.bl false)
  | _ => .bad
section
variable {W : Wd} {Ex : XK} {X : Cx} {a b c : Expr} {f g h : En → M T} {pos : Pos}
theorem tChain_of {r r' : R2} {op op' : T → T → Option T} (ag : Agr2 W r op) (ag' : Agr2 W r' op') : ∀ σ H Q, tE W Ex (xChain op op' f g h) σ H Q → tChain r r' (tE W Ex f) (tE W Ex g) (tE W Ex h) σ H Q := fun σ H Q ⟨dk, F, G, en, d, S, q⟩ => by
  refine ⟨dk, F, G, en, d, S, (Post.bind q).mono fun t d1 H1 k1 D1 h1 v rv => ?_⟩
  have S1 := S.keep k1 D1
  refine ⟨dk, F, G, en, d1, S1, (Post.bind h1).mono fun u d2 H2 k2 D2 h2 w rw => ?_⟩
  have S2 := S1.keep k2 D2
  obtain ⟨z, e, q2⟩ := Post.opt_some (Post.bind h2)
  refine ag (fun p hp => S2.free hp) (S1.keepR k2 rv) rw e fun v' H3 s r3 => ?_
  have S3 := S2.keep (.of s) (D2.same s)
  have q3 := q2 H3 (.of s) (D2.same s)
  cases z with
  | bl b =>
    simp only [Rep] at r3
    subst r3
    refine ⟨b, rfl, ?_⟩
    cases b with
    | true =>
      rw [if_pos rfl]
      refine ⟨dk, F, G, en, d2, S3, (Post.bind q3).mono fun x d4 H4 k4 D4 h4 y ry => ?_⟩
      have S4 := S3.keep k4 D4
      obtain ⟨z', e', q4⟩ := Post.opt_some h4
      exact ag' (fun p hp => S4.free hp) (S3.keepR k4 (S2.keepR (.of s) rw)) ry e' fun v' H' s r' => q4 H' (.of s) (D4.same s) v' r'
    | false =>
      rw [if_neg (by decide)]
      exact q3 H3 (.refl _ _) (D2.same s) _ rep_bl
  | _ => exact q3.elim
theorem te_chain {o o' : CmpOp} {r r' : R2} {op op' : T → T → Option T} (ho : OpR X (compareOp o) r) (ho' : OpR X (compareOp o') r') (ag : Agr2 W r op) (ag' : Agr2 W r' op') (ha : PE X a (tE W Ex f)) (hb : PE X b (tE W Ex g)) (hc : PE X c (tE W Ex h))
    (hm : lastMarks [o, o'] [b, c] = false := by with_unfolding_all rfl) : PE X (.Compare a [o, o'] [b, c] pos) (tE W Ex (xChain op op' f g h)) := (pe_chain ho ho' ha hb hc hm).imp (tChain_of ag ag')
theorem tt_chain {o o' : CmpOp} {r r' : R2} {op op' : T → T → Option T} (ho : OpR X (compareOp o) r) (ho' : OpR X (compareOp o') r') (ag : Agr2 W r op) (ag' : Agr2 W r' op') (ha : PE X a (tE W Ex f)) (hb : PE X b (tE W Ex g)) (hc : PE X c (tE W Ex h))
    (hm : lastMarks [o, o'] [b, c] = false := by with_unfolding_all rfl) : PT X (.Compare a [o, o'] [b, c] pos) (tT W Ex (xTest (xChain op op' f g h))) := (pt_chain ho ho' ha hb hc hm).imp fun σ H Q q => by
  obtain ⟨dk, F, G, en, d, S, q⟩ := q
  refine tChain_of ag ag' σ H _ ⟨dk, F, G, en, d, S, (Post.bind q).mono fun t d1 H1 k1 D1 h1 v rv => ?_⟩
  obtain ⟨z, e, q⟩ := Post.opt_some h1
  cases t with
  | bl b =>
    cases e
    simp only [Rep] at rv
    exact ⟨_, rv, q H1 (.refl _ _) D1⟩
  | _ => cases e
end

/-! ### places -/
def ixT : T → T → Option T
  | .lst l, .int i => atI l i
  | .tup l, .int i => atI l i
  | .str z, .int i => if z.length ≤ 16777216 then (atI z.cps.toList i).map fun c => .str ⟨#[c]⟩ else none
  | .dic l, k => (keyT k).bind fun q => lookK l q
  | _, _ => none
def isDic : T → Bool
  | .dic _ => true
  | _ => false
section
variable {W : Wd} {H : Hp} {F : Addr → Prop} {dk : Dk}
theorem RepL.atI {l : List T} {xs : List V} {i : Int} {t : T} (r : RepL W H F dk l xs) (e : atI l i = some t) : ∃ v, L2.atI xs i = some v ∧ Rep W H F dk t v := by
  unfold L2.atI at e ⊢
  rw [r.length]
  cases q : ixN l.length i with
  | none =>
    rw [q] at e
    cases e
  | some j =>
    rw [q] at e
    exact r.get e
theorem RepD.length : ∀ {l : List (Key × T)} {xs : List (Key × V)}, RepD W H F dk l xs → xs.length = l.length
  | [], xs, h => by
    simp only [RepD] at h
    rw [h]
    rfl
  | (k, t) :: l, xs, h => by
    simp only [RepD] at h
    obtain ⟨x, r, rfl, _, h2⟩ := h
    rw [List.length_cons, List.length_cons, RepD.length h2]
end
def rDG : R2 := fun x y H Q => ∃ a v, x = .ref a ∧ DGet H a y (some v) ∧ Q v H
def ixS (a b : T) : Option T := if isDic a then none else ixT a b
def ixD : T → T → Option T
  | .dic l, k => (keyT k).bind fun q => lookK l q
  | _, _ => none
section
variable {W : Wd} {Ex : XK} {X : Cx} {a b c : Expr} {f g h : En → M T} {pos : Pos}
theorem agr_ixS : Agr2 W (rIx W.K) ixS := fun {dk F H x y a b t Q} hF ra rb e q => by
  unfold ixS at e
  split at e
  · cases e
  · unfold ixT at e
    split at e
    · simp only [Rep] at ra rb
      obtain ⟨p, xs, rfl, _, s, rl⟩ := ra
      obtain ⟨v, e1, rv⟩ := rl.atI e
      exact .inl ⟨p, xs, _, v, rfl, rb, .of s, e1, q v H (.refl _) rv⟩
    · simp only [Rep] at ra rb
      obtain ⟨p, xs, rfl, _, s, rl⟩ := ra
      obtain ⟨v, e1, rv⟩ := rl.atI e
      exact .inr (.inl ⟨p, xs, _, v, rfl, rb, .of s, e1, q v H (.refl _) rv⟩)
    · split at e
      · rename_i hz
        simp only [Option.map_eq_some_iff] at e
        obtain ⟨c, e, rfl⟩ := e
        simp only [Rep] at ra rb
        exact .inr (.inr ⟨_, _, c, ra, rb, by rw [sizeLine_eq]; exact hz, e, q _ H (.refl _) rep_str⟩)
      · cases e
    · rename_i h
      exact absurd rfl h
    · cases e
theorem agr_ixD : Agr2 W rDG ixD := fun {dk F H x y a b t Q} hF ra rb e q => by
  unfold ixD at e
  split at e
  · simp only [Option.bind_eq_some_iff] at e
    obtain ⟨k, ek, e⟩ := e
    simp only [Rep] at ra
    obtain ⟨p, xs, rfl, _, s, rd⟩ := ra
    have hl := rd.look (k := k)
    rw [e] at hl
    obtain ⟨v, hv, rv⟩ := hl
    have ey := key_rep rb ek
    subst ey
    exact ⟨p, v, rfl, .inl ⟨xs, k, s, rfl, hv.symm⟩, q v H (.refl _) rv⟩
  · cases e
/-- a[b] -/
theorem te_ix (hu : X.A.units + 1 < cLine) (hK : W.K = X.K) (ha : PE X a (tE W Ex f)) (hb : PE X b (tE W Ex g)) (hs : PlainIx b := by intro _ _; rfl) : PE X (.Subscript a b pos) (tE W Ex (xBin ixT f g)) := by
  have p1 : PE X (.Subscript a b pos) (tE W Ex (xBin ixS f g)) := (pe_ix ix_seq ha hb hs).imp (tOp_of (hK ▸ agr_ixS))
  have p2 : PE X (.Subscript a b pos) (tE W Ex (xBin ixD f g)) := (pe_dget hu ha hb hs).imp (tOp_of (r := rDG) agr_ixD)
  refine ⟨fun pins s σ H Q I q => ?_⟩
  obtain ⟨dk, F, G, en, d, S, q⟩ := q
  by_cases hd : ∃ l d1, f en d = .ok (.dic l) d1
  · obtain ⟨l, d1, e⟩ := hd
    refine p2.run pins s σ H Q I ⟨dk, F, G, en, d, S, ?_⟩
    unfold xBin M.bind Out.bind at q ⊢
    rw [e] at q ⊢
    exact q
  · refine p1.run pins s σ H Q I ⟨dk, F, G, en, d, S, ?_⟩
    unfold xBin M.bind Out.bind at q ⊢
    cases e : f en d with
    | ok t d1 =>
      rw [e] at q
      cases t <;> first
        | exact q
        | exact absurd ⟨_, _, e⟩ hd
    | exc x d1 =>
      rw [e] at q
      exact q
    | bad =>
      rw [e] at q
      exact q
end

/-! ### slices -/
def cutT (l : List T) (lo hi : Option Int) : List T := (l.drop (HT.sIx l.length 0 lo)).take (HT.sIx l.length l.length hi - HT.sIx l.length 0 lo)
def slT (t : T) (lo hi : Option Int) : Option T := match t with
  | .lst l => some (.lst (cutT l lo hi))
  | .tup l => some (.tup (cutT l lo hi))
  | .str z => if z.length ≤ 16777216 then some (.str (cutS z lo hi)) else none
  | _ => none
def xSl (f : En → M T) (lo hi : En → M (Option Int)) : En → M T := fun en => (f en).bind fun x => (lo en).bind fun l => (hi en).bind fun h => .opt (slT x l h)
def intT? : T → Option (Option Int)
  | .int i => some (some i)
  | _ => none
def xPart (f : En → M T) : En → M (Option Int) := fun en => (f en).bind fun x => .opt (intT? x)
def xNoPart : En → M (Option Int) := fun _ => .pure none
/-- a slice's part -/
def tO (W : Wd) (Ex : XK) (f : En → M (Option Int)) : TO := fun σ H Q => ∃ dk F G en d, SR W dk F G σ H en d ∧
  Post W Ex F dk H (fun o d' H' => Q o H') (f en d)
section
variable {W : Wd} {Ex : XK} {X : Cx} {a b c : Expr} {f g h : En → M T} {lo hi : En → M (Option Int)} {pos p2 : Pos} {el eh : Option Expr}
theorem _root_.L2.PO.imp {e : Option Expr} {t t' : TO} (h : PO X e t) (k : ∀ σ H Q, t' σ H Q → t σ H Q) : PO X e t' := ⟨fun pins s σ H Q I q => h.run pins s σ H Q I (k σ H Q q)⟩
theorem to_none : PO X none (tO W Ex xNoPart) := po_none.imp fun σ H Q ⟨dk, F, G, en, d, S, h⟩ => h H (.refl _ _) S.deck
theorem to_some (ha : PE X a (tE W Ex f)) : PO X (some a) (tO W Ex (xPart f)) := (po_some ha).imp fun σ H Q ⟨dk, F, G, en, d, S, h⟩ => by
  refine ⟨dk, F, G, en, d, S, (Post.bind h).mono fun t d1 H1 k1 D1 h1 v rv => ?_⟩
  obtain ⟨z, e, q⟩ := Post.opt_some h1
  cases t <;> first
    | (cases e
       simp only [Rep] at rv
       exact ⟨_, rv, q H1 (.refl _ _) D1⟩)
    | cases e
theorem RepL.cut {W : Wd} {H : Hp} {F : Addr → Prop} {dk : Dk} {l : List T} {xs : List V} (r : RepL W H F dk l xs) (lo hi : Option Int) : RepL W H F dk (cutT l lo hi) (cutV xs lo hi) := by
  unfold cutT cutV
  rw [r.length]
  exact (r.drop _).take _
theorem cut_whole {l : List T} {lo hi : Option Int} (h : HT.sIx l.length 0 lo = 0 ∧ HT.sIx l.length l.length hi = l.length) : cutT l lo hi = l := by
  unfold cutT
  rw [h.1, h.2, List.drop_zero, Nat.sub_zero, List.take_length]
theorem te_sl (hK : W.K = X.K) (ha : PE X a (tE W Ex f)) (hl : PO X el (tO W Ex lo)) (hh : PO X eh (tO W Ex hi)) : PE X (.Subscript a (.Slice el eh none p2) pos) (tE W Ex (xSl f lo hi)) :=
  (pe_slice (sl_list.or (sl_tupA.or sl_str)) ha hl hh).imp fun σ H Q ⟨dk, F, G, en, d, S, h⟩ => by
    refine ⟨dk, F, G, en, d, S, (Post.bind h).mono fun t d1 H1 k1 D1 h1 v rv => ?_⟩
    have S1 := S.keep k1 D1
    refine ⟨dk, F, G, en, d1, S1, (Post.bind h1).mono fun l d2 H2 k2 D2 h2 => ?_⟩
    have S2 := S1.keep k2 D2
    refine ⟨dk, F, G, en, d2, S2, (Post.bind h2).mono fun u d3 H3 k3 D3 h3 => ?_⟩
    have S3 := S2.keep k3 D3
    have rv3 := S2.keepR k3 (S1.keepR k2 rv)
    obtain ⟨z, e, q⟩ := Post.opt_some h3
    unfold slT at e
    rw [← hK]
    split at e
    · cases e
      simp only [Rep] at rv3
      obtain ⟨p, xs, rfl, _, s, rl⟩ := rv3
      exact .inl ⟨p, xs, rfl, .of s, fun p hp => q _ (.of (upd_same' hp)) (D3.same (upd_same' hp)) _ (rep_lst (fun p hp => S3.free hp) hp (rl.cut l u))⟩
    · cases e
      have rv3' := rv3
      simp only [Rep] at rv3
      obtain ⟨p, xs, rfl, _, s, rl⟩ := rv3
      refine .inr (.inl ⟨p, xs, rfl, .of s, fun hw => ?_, fun _ p hp => q _ (.of (upd_same' hp)) (D3.same (upd_same' hp)) _ (rep_tup (fun p hp => S3.free hp) hp (rl.cut l u))⟩)
      rw [rl.length] at hw
      rw [cut_whole hw] at q
      exact q H3 (.refl _ _) D3 _ rv3'
    · split at e
      · rename_i hz
        cases e
        simp only [Rep] at rv3
        exact .inr (.inr ⟨_, rv3, by rw [sizeLine_eq]; exact hz, q H3 (.refl _ _) D3 _ rep_str⟩)
      · cases e
    · cases e
end

/-! ### displays, arguments -/
def xNil : En → M (List T) := fun _ => .pure []
def xCons (f : En → M T) (g : En → M (List T)) : En → M (List T) := fun en => (f en).bind fun x => (g en).bind fun l => .pure (x :: l)
def xTup (f : En → M (List T)) : En → M T := fun en => (f en).bind fun l => .opt (capL l.length (.tup l))
def xLst (f : En → M (List T)) : En → M (List T) := fun en => (f en).bind fun l => .opt (capL l.length l)
def xToL (f : En → M (List T)) : En → M T := fun en => (f en).bind fun l => .pure (.lst l)
section
variable {W : Wd} {Ex : XK} {X : Cx} {a b c : Expr} {es : List Expr} {f g h : En → M T} {fl gl : En → M (List T)} {pos : Pos}
theorem ta_nil : PA X [] (tA W Ex xNil) := pa_nil.imp fun σ H Q ⟨dk, F, G, en, d, S, h⟩ => h H (.refl _ _) S.deck [] .nil
theorem ta_cons (ha : PE X a (tE W Ex f)) (hr : PA X es (tA W Ex gl)) (hs : starEach (a :: es) X.env = (false, eval a X.env) :: starEach es X.env := by rfl) : PA X (a :: es) (tA W Ex (xCons f gl)) :=
  (pa_cons ha hr hs).imp fun σ H Q ⟨dk, F, G, en, d, S, h⟩ => by
    refine ⟨dk, F, G, en, d, S, (Post.bind h).mono fun t d1 H1 k1 D1 h1 v rv => ?_⟩
    have S1 := S.keep k1 D1
    refine ⟨dk, F, G, en, d1, S1, (Post.bind h1).mono fun l d2 H2 k2 D2 h2 xs rl => ?_⟩
    exact h2 H2 (.refl _ _) D2 _ (.cons (S1.keepR k2 rv) rl)
theorem te_tup {x1} (h : PA X es (tA W Ex fl)) : PE X (.Tuple es x1 pos) (tE W Ex (xTup fl)) := (pe_tup h).imp fun σ H Q ⟨dk, F, G, en, d, S, h⟩ => by
  refine ⟨dk, F, G, en, d, S, (Post.bind h).mono fun l d1 H1 k1 D1 h1 xs rl => ?_⟩
  obtain ⟨z, e, q⟩ := Post.opt_some h1
  obtain ⟨hz, rfl⟩ := capL_some e
  exact ⟨by rw [rl.length]; exact hz, fun p hp => q _ (.of (upd_same' hp)) (D1.same (upd_same' hp)) _ (rep_tup (fun p hp => (S.keep k1 D1).free hp) hp rl)⟩
theorem tn_lst (h : PA X es (tA W Ex fl)) : PE X (.List es pos) (tN W Ex (xLst fl)) := (pe_lst h).imp fun σ H Q ⟨dk, F, G, en, d, S, h⟩ => by
  refine ⟨dk, F, G, en, d, S, (Post.bind h).mono fun l d1 H1 k1 D1 h1 xs rl => ?_⟩
  obtain ⟨z, e, q⟩ := Post.opt_some h1
  obtain ⟨hz, rfl⟩ := capL_some e
  have hx : xs.length ≤ sizeLine := by rw [rl.length]; exact hz
  exact ⟨hx, fun p hp => q H1 (.refl _ _) D1 p xs rl hx hp⟩
/-- a new list that is kept -/
theorem tE_of_tN : ∀ σ H Q, tE W Ex (xToL fl) σ H Q → tN W Ex fl σ H Q := fun σ H Q ⟨dk, F, G, en, d, S, h⟩ =>
  ⟨dk, F, G, en, d, S, (Post.bind h).mono fun l d1 H1 k1 D1 h1 p xs rl _ hp => h1 _ (.of (upd_same' hp)) (D1.same (upd_same' hp)) _ (rep_lst (fun p hp => (S.keep k1 D1).free hp) hp rl)⟩
theorem te_new (h : PE X a (tN W Ex fl)) : PE X a (tE W Ex (xToL fl)) := h.imp tE_of_tN
end

/-! ### built-ins -/
def xCall (op : List T → Option T) (f : En → M (List T)) : En → M T := fun en => (f en).bind fun l => .opt (op l)
section
variable {W : Wd} {Ex : XK} {X : Cx} {a b c e : Expr} {es : List Expr} {f g h : En → M T} {fl gl : En → M (List T)} {pos p : Pos} {x : Str} {id T : String} {r : List V → Hp → VK → Prop} {op : List TL.T → Option TL.T}
theorem tCB_of (ag : AgrL W r op) : ∀ σ H Q, tE W Ex (xCall op fl) σ H Q → tCB r (tA W Ex fl) σ H Q := fun σ H Q ⟨dk, F, G, en, d, S, h⟩ => by
  refine ⟨dk, F, G, en, d, S, (Post.bind h).mono fun l d1 H1 k1 D1 h1 xs rl => ?_⟩
  obtain ⟨z, e, q⟩ := Post.opt_some h1
  exact ag (fun p hp => (S.keep k1 D1).free hp) rl e fun v' H' s r' => q H' (.of s) (D1.same s) v' r'
theorem te_callB (hc : CallR X (.builtin id) r) (ag : AgrL W r op) (hg : Gl X x) (hm : X.mg x = none) (hv : bootBuiltins x = some (.builtin id)) (ha : PA X (e :: es) (tA W Ex fl)) (hn : x ≠ "__name__" := by decide) (hdb : (x == ("__debug__" : Str)) = false := by decide)
    (he : starEach (e :: es) X.env = (false, eval e X.env) :: starEach es X.env := by rfl) (hpl : (backTo pos (starEach es X.env)).any (·.1) = false := by rfl) : PE X (.Call (.Name x p) (e :: es) [] pos) (tE W Ex (xCall op fl)) :=
  (pe_callB hc hg hm hv ha hn hdb he hpl).imp (tCB_of ag)
theorem te_callTy (hc : CallR X (.type T) r) (ag : AgrL W r op) (hg : Gl X x) (hm : X.mg x = none) (hv : bootBuiltins x = some (.type T)) (ha : PA X (e :: es) (tA W Ex fl)) (hn : x ≠ "__name__" := by decide) (hdb : (x == ("__debug__" : Str)) = false := by decide)
    (he : starEach (e :: es) X.env = (false, eval e X.env) :: starEach es X.env := by rfl) (hpl : (backTo pos (starEach es X.env)).any (·.1) = false := by rfl) : PE X (.Call (.Name x p) (e :: es) [] pos) (tE W Ex (xCall op fl)) :=
  (pe_callTy hc hg hm hv ha hn hdb he hpl).imp (tCB_of ag)
end
def lenT : List T → Option T
  | [.str z] => if z.length ≤ 16777216 then some (.int z.length) else none
  | [.lst l] => some (.int l.length)
  | [.tup l] => some (.int l.length)
  | [.dic l] => some (.int l.length)
  | _ => none
def toIntT : List T → Option T
  | [.int i] => some (.int i)
  | [.bl b] => some (.int (if b then 1 else 0))
  | _ => none
def intsOf : List T → Option (List Int)
  | [] => some []
  | .int i :: l => (intsOf l).map (i :: ·)
  | _ => none
def boolsOf : List T → Option (List Bool)
  | [] => some []
  | .bl i :: l => (boolsOf l).map (i :: ·)
  | _ => none
def strsOf : List T → Option (List Str)
  | [] => some []
  | .str i :: l => (strsOf l).map (i :: ·)
  | _ => none
theorem intsOf_eq : ∀ {l : List T} {ns : List Int}, intsOf l = some ns → l = ns.map T.int
  | [], ns, h => by cases h; rfl
  | t :: l, ns, h => by
    cases t <;> simp only [intsOf, Option.map_eq_some_iff, reduceCtorEq] at h <;> first
      | (obtain ⟨ms, h, rfl⟩ := h
         rw [List.map_cons, ← intsOf_eq h])
theorem boolsOf_eq : ∀ {l : List T} {ns : List Bool}, boolsOf l = some ns → l = ns.map T.bl
  | [], ns, h => by cases h; rfl
  | t :: l, ns, h => by
    cases t <;> simp only [boolsOf, Option.map_eq_some_iff, reduceCtorEq] at h <;> first
      | (obtain ⟨ms, h, rfl⟩ := h
         rw [List.map_cons, ← boolsOf_eq h])
theorem strsOf_eq : ∀ {l : List T} {ns : List Str}, strsOf l = some ns → l = ns.map T.str
  | [], ns, h => by cases h; rfl
  | t :: l, ns, h => by
    cases t <;> simp only [strsOf, Option.map_eq_some_iff, reduceCtorEq] at h <;> first
      | (obtain ⟨ms, h, rfl⟩ := h
         rw [List.map_cons, ← strsOf_eq h])
theorem RepL.bools_inv {W : Wd} {H : Hp} {F : Addr → Prop} {dk : Dk} : ∀ {is : List Bool} {xs : List V}, RepL W H F dk (is.map T.bl) xs → xs = is.map V.bl
  | [], xs, h => by simpa only [List.map_nil, RepL] using h
  | i :: is, xs, h => by
    simp only [List.map_cons, RepL, Rep] at h
    obtain ⟨x, r, rfl, rfl, h2⟩ := h
    rw [RepL.bools_inv h2, List.map_cons]
def sumT : List T → Option T
  | [.lst l] => (intsOf l).map fun ns => .int ns.sum
  | _ => none
def allT : List T → Option T
  | [.lst l] => (boolsOf l).map fun ns => .bl (ns.all id)
  | _ => none
def anyT : List T → Option T
  | [.lst l] => (boolsOf l).map fun ns => .bl (ns.any id)
  | _ => none
/-- the greatest, the least of a list, a tuple; of two ints -/
def bestL (f : Int → List Int → Int) (g : Str → List Str → Str) : List T → Option T
  | .int x :: r => (intsOf r).map fun xs => .int (f x xs)
  | .str x :: r => (strsOf r).map fun xs => .str (g x xs)
  | _ => none
def maxT : List T → Option T
  | [.lst l] => bestL PySem.W.maxOf PySem.W.maxOf l
  | [.tup l] => bestL PySem.W.maxOf PySem.W.maxOf l
  | [.int i, .int j] => some (.int (if j > i then j else i))
  | _ => none
def minT : List T → Option T
  | [.lst l] => bestL PySem.W.minOf PySem.W.minOf l
  | [.tup l] => bestL PySem.W.minOf PySem.W.minOf l
  | [.int i, .int j] => some (.int (if j < i then j else i))
  | _ => none
def tupleT : List T → Option T
  | [.lst l] => some (.tup l)
  | [.tup l] => some (.tup l)
  | _ => none
def reprTL : List T → Option T
  | [a] => reprT a
  | _ => none
section
variable {W : Wd} {X : Cx}
theorem RepL.one_inv {H : Hp} {F : Addr → Prop} {dk : Dk} {t : T} {xs : List V} (r : RepL W H F dk [t] xs) : ∃ x, xs = [x] ∧ Rep W H F dk t x := by
  simp only [RepL] at r
  obtain ⟨x, s, rfl, h, rfl⟩ := r
  exact ⟨x, rfl, h⟩
theorem RepL.two_inv {H : Hp} {F : Addr → Prop} {dk : Dk} {t u : T} {xs : List V} (r : RepL W H F dk [t, u] xs) : ∃ x y, xs = [x, y] ∧ Rep W H F dk t x ∧ Rep W H F dk u y := by
  simp only [RepL] at r
  obtain ⟨x, s, rfl, h, y, s', rfl, h', rfl⟩ := r
  exact ⟨x, y, rfl, h, h'⟩
def rLenA (K : PySem.W.Frag) : List V → Hp → VK → Prop := fun xs H Q => (∃ p ys, xs = [.ref p] ∧ (SqL K H p ys ∨ SqT K H p ys) ∧ Q (.int ys.length) H) ∨ (∃ z, xs = [.str z] ∧ z.length ≤ sizeLine ∧ Q (.int z.length) H) ∨
  ∃ a kvs, xs = [V.ref a] ∧ Rd H a (.dK kvs) ∧ Q (.int kvs.length) H
theorem call_lenR : CallR X (.builtin "len") (fun xs H Q => ∃ a kvs, xs = [V.ref a] ∧ Rd H a (.dK kvs) ∧ Q (.int kvs.length) H) := by
  intro pins s σ H xs us Q I r h
  obtain ⟨a, kvs, rfl, ha, q⟩ := h
  obtain ⟨u, rfl, ru⟩ := vals1 r
  cases ru
  exact d_len I ha fun t s' I' => ⟨.int kvs.length, H, I', ⟨t, rfl⟩, q⟩
theorem cr_lenA : CallR X (.builtin "len") (rLenA X.K) := call_len_seq.or (call_len_str.or call_lenR)
theorem agr_len : AgrL W (rLenA W.K) lenT := fun {dk F H xs l t Q} hF r e q => by
  unfold lenT at e
  split at e
  · split at e
    · rename_i hz
      cases e
      obtain ⟨x, rfl, rx⟩ := r.one_inv
      simp only [Rep] at rx
      exact .inr (.inl ⟨_, by rw [rx], by rw [sizeLine_eq]; exact hz, q _ H (.refl _) rep_int⟩)
    · cases e
  · cases e
    obtain ⟨x, rfl, rx⟩ := r.one_inv
    simp only [Rep] at rx
    obtain ⟨p, ys, rfl, _, s, rl⟩ := rx
    exact .inl ⟨p, ys, rfl, .inl (.of s), by rw [rl.length]; exact q _ H (.refl _) rep_int⟩
  · cases e
    obtain ⟨x, rfl, rx⟩ := r.one_inv
    simp only [Rep] at rx
    obtain ⟨p, ys, rfl, _, s, rl⟩ := rx
    exact .inl ⟨p, ys, rfl, .inr (.of s), by rw [rl.length]; exact q _ H (.refl _) rep_int⟩
  · cases e
    obtain ⟨x, rfl, rx⟩ := r.one_inv
    simp only [Rep] at rx
    obtain ⟨p, ys, rfl, _, s, rl⟩ := rx
    exact .inr (.inr ⟨p, ys, rfl, s, by rw [rl.length]; exact q _ H (.refl _) rep_int⟩)
  · cases e
theorem agr_int : AgrL W (fun xs H Q => (∃ i, xs = [.int i] ∧ Q (.int i) H) ∨ ∃ k, xs = [.bl k] ∧ Q (.int (if k then 1 else 0)) H) toIntT := fun {dk F H xs l t Q} hF r e q => by
  unfold toIntT at e
  split at e
  · cases e
    obtain ⟨x, rfl, rx⟩ := r.one_inv
    simp only [Rep] at rx
    exact .inl ⟨_, by rw [rx], q _ H (.refl _) rep_int⟩
  · cases e
    obtain ⟨x, rfl, rx⟩ := r.one_inv
    simp only [Rep] at rx
    exact .inr ⟨_, by rw [rx], q _ H (.refl _) rep_int⟩
  · cases e
theorem agr_sum : AgrL W (rSum W.K) sumT := fun {dk F H xs l t Q} hF r e q => by
  unfold sumT at e
  split at e
  · simp only [Option.map_eq_some_iff] at e
    obtain ⟨ns, e, rfl⟩ := e
    cases intsOf_eq e
    obtain ⟨x, rfl, rx⟩ := r.one_inv
    simp only [Rep] at rx
    obtain ⟨p, ys, rfl, _, s, rl⟩ := rx
    cases rl.ints_inv
    exact ⟨p, ns, rfl, .of s, q _ H (.refl _) rep_int⟩
  · cases e
theorem agr_all : AgrL W (rAll W.K) allT := fun {dk F H xs l t Q} hF r e q => by
  unfold allT at e
  split at e
  · simp only [Option.map_eq_some_iff] at e
    obtain ⟨ns, e, rfl⟩ := e
    cases boolsOf_eq e
    obtain ⟨x, rfl, rx⟩ := r.one_inv
    simp only [Rep] at rx
    obtain ⟨p, ys, rfl, _, s, rl⟩ := rx
    cases rl.bools_inv
    exact ⟨p, ns, rfl, .of s, q _ H (.refl _) rep_bl⟩
  · cases e
theorem agr_any : AgrL W (rAny W.K) anyT := fun {dk F H xs l t Q} hF r e q => by
  unfold anyT at e
  split at e
  · simp only [Option.map_eq_some_iff] at e
    obtain ⟨ns, e, rfl⟩ := e
    cases boolsOf_eq e
    obtain ⟨x, rfl, rx⟩ := r.one_inv
    simp only [Rep] at rx
    obtain ⟨p, ys, rfl, _, s, rl⟩ := rx
    cases rl.bools_inv
    exact ⟨p, ns, rfl, .of s, q _ H (.refl _) rep_bl⟩
  · cases e
def rMaxA (K : PySem.W.Frag) : List V → Hp → VK → Prop := fun xs H Q => rBest K PySem.W.maxOf PySem.W.maxOf xs H Q ∨ ∃ i j, xs = [.int i, .int j] ∧ Q (.int (if j > i then j else i)) H
def rMinA (K : PySem.W.Frag) : List V → Hp → VK → Prop := fun xs H Q => rBest K PySem.W.minOf PySem.W.minOf xs H Q ∨ ∃ i j, xs = [.int i, .int j] ∧ Q (.int (if j < i then j else i)) H
theorem cr_maxA (hc : X.calm = true) (hu : X.A.units + 64 < cLine) : CallR X (.builtin "max") (rMaxA X.K) := (cr_maxG hc hu).or (call_max2 hc)
theorem cr_minA (hc : X.calm = true) (hu : X.A.units + 64 < cLine) : CallR X (.builtin "min") (rMinA X.K) := (cr_minG hc hu).or (call_min2 hc)
theorem best_of {f : Int → List Int → Int} {g : Str → List Str → Str} {H : Hp} {F : Addr → Prop} {dk : Dk} {p : Addr} {l : List T} {ys : List V} {t : T} {Q : VK} (hs : Sq W.K H p ys) (rl : RepL W H F dk l ys) (e : bestL f g l = some t) (q : ∀ v, Rep W H F dk t v → Q v H) : rBest W.K f g [.ref p] H Q := by
  unfold bestL at e
  split at e
  · obtain ⟨xs, ex, rfl⟩ := Option.map_eq_some_iff.mp e
    cases intsOf_eq ex
    rename_i x
    have : ys = (x :: xs).map V.int := RepL.ints_inv rl
    subst this
    exact ⟨p, rfl, .inl ⟨x, xs, hs, q _ rep_int⟩⟩
  · obtain ⟨xs, ex, rfl⟩ := Option.map_eq_some_iff.mp e
    cases strsOf_eq ex
    rename_i x
    have : ys = (x :: xs).map V.str := RepL.strs_inv rl
    subst this
    exact ⟨p, rfl, .inr ⟨x, xs, hs, q _ rep_str⟩⟩
  · cases e
theorem agr_max : AgrL W (rMaxA W.K) maxT := fun {dk F H xs l t Q} hF r e q => by
  unfold maxT at e
  split at e
  · obtain ⟨x, rfl, rx⟩ := r.one_inv
    simp only [Rep] at rx
    obtain ⟨p, ys, rfl, _, s, rl⟩ := rx
    exact .inl (best_of (.inl (.of s)) rl e fun v rv => q v H (.refl _) rv)
  · obtain ⟨x, rfl, rx⟩ := r.one_inv
    simp only [Rep] at rx
    obtain ⟨p, ys, rfl, _, s, rl⟩ := rx
    exact .inl (best_of (.inr (.of s)) rl e fun v rv => q v H (.refl _) rv)
  · cases e
    obtain ⟨x, y, rfl, rx, ry⟩ := r.two_inv
    simp only [Rep] at rx ry
    exact .inr ⟨_, _, by rw [rx, ry], q _ H (.refl _) rep_int⟩
  · cases e
theorem agr_min : AgrL W (rMinA W.K) minT := fun {dk F H xs l t Q} hF r e q => by
  unfold minT at e
  split at e
  · obtain ⟨x, rfl, rx⟩ := r.one_inv
    simp only [Rep] at rx
    obtain ⟨p, ys, rfl, _, s, rl⟩ := rx
    exact .inl (best_of (.inl (.of s)) rl e fun v rv => q v H (.refl _) rv)
  · obtain ⟨x, rfl, rx⟩ := r.one_inv
    simp only [Rep] at rx
    obtain ⟨p, ys, rfl, _, s, rl⟩ := rx
    exact .inl (best_of (.inr (.of s)) rl e fun v rv => q v H (.refl _) rv)
  · cases e
    obtain ⟨x, y, rfl, rx, ry⟩ := r.two_inv
    simp only [Rep] at rx ry
    exact .inr ⟨_, _, by rw [rx, ry], q _ H (.refl _) rep_int⟩
  · cases e
theorem agr_tuple : AgrL W (fun xs H Q => ∃ p ys, xs = [.ref p] ∧ ((SqL W.K H p ys ∧ ∀ l, H l = none → Q (.ref l) (upd H l (.tup ys))) ∨ (SqT W.K H p ys ∧ Q (.ref p) H))) tupleT := fun {dk F H xs l t Q} hF r e q => by
  unfold tupleT at e
  split at e
  · cases e
    obtain ⟨x, rfl, rx⟩ := r.one_inv
    simp only [Rep] at rx
    obtain ⟨p, ys, rfl, _, s, rl⟩ := rx
    exact ⟨p, ys, rfl, .inl ⟨.of s, fun p hp => q _ _ (upd_same' hp) (rep_tup hF hp rl)⟩⟩
  · cases e
    obtain ⟨x, rfl, rx⟩ := r.one_inv
    have rx' := rx
    simp only [Rep] at rx
    obtain ⟨p, ys, rfl, _, s, rl⟩ := rx
    exact ⟨p, ys, rfl, .inr ⟨.of s, q _ _ (.refl _) rx'⟩⟩
  · cases e
theorem agr_repr : AgrL W (fun xs H Q => ∃ x d, xs = [x] ∧ Dp W.K H x d ∧ d.showable = true ∧ SeqAt.shaped d = true ∧ d.shown.length ≤ sizeLine ∧ Q (.str d.shown) H) reprTL := fun {dk F H xs l t Q} hF r e q => by
  unfold reprTL at e
  split at e
  · obtain ⟨x, rfl, rx⟩ := r.one_inv
    unfold reprT at e
    split at e
    · rename_i d ed
      split at e
      · rename_i hs
        simp only [Bool.and_eq_true, decide_eq_true_eq] at hs
        cases e
        exact ⟨x, d, rfl, rx.dp ed, hs.1.1, hs.1.2, by rw [sizeLine_eq]; exact hs.2, q _ H (.refl _) rep_str⟩
      · cases e
    · cases e
  · cases e
end
end TL

/-! TLe: statements, loops, defs. -/
namespace TL
open PySem PySem.Spec PyProof.Rows L2

/-! ### statements' functions -/
inductive Fl where
  | nx | brk | ct
  | ret (t : T)
abbrev MS := M (Fl × En)

/-- what was seen of a heap is seen -/
def Vis (c : Hp × (Addr → Prop)) (F : Addr → Prop) (H : Hp) : Prop := ∀ a o, c.1 a = some o → ¬ c.2 a → H a = some o ∧ ¬ F a
theorem Vis.refl (F : Addr → Prop) (H : Hp) : Vis (H, F) F H := fun _ _ h n => ⟨h, n⟩
theorem Vis.rep {W : Wd} {c : Hp × (Addr → Prop)} {F : Addr → Prop} {H : Hp} {dk : Dk} (v : Vis c F H) {t : T} {x : V} (r : Rep W c.1 c.2 dk t x) : Rep W H F dk t x := Rep.mono (fun a o nf e => v a o e nf) t x r
theorem Vis.repL {W : Wd} {c : Hp × (Addr → Prop)} {F : Addr → Prop} {H : Hp} {dk : Dk} (v : Vis c F H) {t : List T} {x : List V} (r : RepL W c.1 c.2 dk t x) : RepL W H F dk t x := RepL.mono (fun a o nf e => v a o e nf) t x r
theorem Vis.repD {W : Wd} {c : Hp × (Addr → Prop)} {F : Addr → Prop} {H : Hp} {dk : Dk} (v : Vis c F H) {t : List (Key × T)} {x : List (Key × V)} (r : RepD W c.1 c.2 dk t x) : RepD W H F dk t x := RepD.mono (fun a o nf e => v a o e nf) t x r
theorem Vis.trans {c : Hp × (Addr → Prop)} {F F' : Addr → Prop} {H H' : Hp} (v : Vis c F H) (v' : Vis (H, F) F' H') : Vis c F' H' := fun a o h n => v' a o (v a o h n).1 (v a o h n).2
abbrev Cps := List (Hp × (Addr → Prop))

/-- within a def: F0 and H0 as at the entry; what stood stands; what was seen at the marks is seen -/
structure StR' (W : Wd) (dk : Dk) (F0 : Addr → Prop) (H0 : Hp) (cp : Cps) (F G : Addr → Prop) (σ : L2.St) (H : Hp) (en : En) (d : D) : Prop where
  s : SR W dk F G σ H en d
  ff : ∀ a, F0 a → F a
  g0 : ∀ a, G a → H0 a = none
  kp : Keep dk H0 H
  vs : ∀ c ∈ cp, Vis c F H
  fz : ∀ a, F0 a → H0 a ≠ none
def StR (W : Wd) (dk : Dk) (F0 : Addr → Prop) (H0 : Hp) (cp : Cps) (σ : L2.St) (H : Hp) (en : En) (d : D) : Prop := ∃ F G, StR' W dk F0 H0 cp F G σ H en d

def PostS (W : Wd) (Ex : XK) (dk : Dk) (F0 : Addr → Prop) (H0 : Hp) (cp : Cps) (D : Ends) : Out (Fl × En) → Prop
  | .ok (.nx, en) d => ∀ σ H, StR W dk F0 H0 cp σ H en d → D.nx σ H
  | .ok (.brk, en) d => ∀ σ H, StR W dk F0 H0 cp σ H en d → D.bk σ H
  | .ok (.ct, en) d => ∀ σ H, StR W dk F0 H0 cp σ H en d → D.ct σ H
  | .ok (.ret t, _) d => ∀ v H, Keep dk H0 H → DkAt W dk H d → Rep W H F0 dk t v → D.rt v H
  | .exc x d => ∀ c od H, Keep dk H0 H → DkAt W dk H d → XRep W H F0 dk x c od → Ex c od H
  | .bad => False
def tS (W : Wd) (Ex : XK) (g : En → MS) : TS := fun D σ H => ∃ dk F0 H0 cp en d, StR W dk F0 H0 cp σ H en d ∧ PostS W Ex dk F0 H0 cp D (g en d)

section
variable {W : Wd} {Ex : XK} {dk : Dk} {F F' F0 G : Addr → Prop} {H H' H0 : Hp} {cp : Cps} {σ : L2.St} {en : En} {d d' : D}
theorem RepF.weak : ∀ {l : List (Str × T)} {xs : List (Str × V)}, (∀ a, F' a → F a) → RepF W H F dk l xs → RepF W H F' dk l xs := fun {l xs} h r => RepF.mono (fun a o nf e => ⟨e, fun z => nf (h a z)⟩) l xs r
theorem Rep.weak {t : T} {v : V} (h : ∀ a, F' a → F a) (r : Rep W H F dk t v) : Rep W H F' dk t v := Rep.mono (fun a o nf e => ⟨e, fun z => nf (h a z)⟩) t v r
theorem XRep.weak {x : Xn} {c : Value} {od : Option Addr} (h : ∀ a, F' a → F a) (r : XRep W H F dk x c od) : XRep W H F' dk x c od := by
  obtain ⟨C, h1, h2, h3⟩ := r
  refine ⟨C, h1, h2, ?_⟩
  cases od with
  | none => exact h3
  | some q =>
    obtain ⟨n, xs, e, r⟩ := h3
    exact ⟨fun z => n (h q z), xs, e, r.weak h⟩
theorem StR'.keep (R : StR' W dk F0 H0 cp F G σ H en d) (k : Keep dk H H') (hd : DkAt W dk H' d') : StR' W dk F0 H0 cp F G σ H' en d' :=
  ⟨R.s.keep k hd, R.ff, R.g0, R.kp.trans k, fun c hc => fun a o h n => ⟨k a o ((R.vs c hc) a o h n).1 (fun z => ((R.vs c hc) a o h n).2 (z ▸ R.s.fd1)) (fun z => ((R.vs c hc) a o h n).2 (z ▸ R.s.fd2)), ((R.vs c hc) a o h n).2⟩, R.fz⟩
theorem SR.setVal {i : Nat} {t : T} {v : V} (S : SR W dk F G σ H en d) (r : Rep W H F dk t v) : SR W dk F G (σ.set i (some v)) H (setS en i (.val t)) d := by
  rw [setS_eq]
  refine ⟨by simp [S.len], fun j u e => ?_, fun j o e => ?_, fun j k o o' p e1 e2 e3 e4 => ?_, S.gf, S.gd, S.fh, S.fd1, S.fd2, S.deck⟩
  · by_cases h : i = j
    · subst h
      have hl : i < en.length := by
        have := (List.getElem?_eq_some_iff.mp e).1
        simpa using this
      rw [List.getElem?_set_self hl] at e
      cases e
      exact ⟨v, List.getElem?_set_self (by rw [← S.len]; exact hl), r⟩
    · rw [List.getElem?_set_ne h] at e
      obtain ⟨w, h1, h2⟩ := S.val j u e
      exact ⟨w, by rw [List.getElem?_set_ne h]; exact h1, h2⟩
  · by_cases h : i = j
    · subst h
      have hl : i < en.length := by
        have := (List.getElem?_eq_some_iff.mp e).1
        simpa using this
      rw [List.getElem?_set_self hl] at e
      cases e
    · rw [List.getElem?_set_ne h] at e
      obtain ⟨w, h1, h2⟩ := S.own j o e
      exact ⟨w, by rw [List.getElem?_set_ne h]; exact h1, h2⟩
  · have ne : ∀ {j : Nat} {o : O}, (en.set i (.val t))[j]? = some (.own o) → i ≠ j ∧ en[j]? = some (.own o) := fun {j o} e => by
      by_cases h : i = j
      · subst h
        have hl : i < en.length := by
          have := (List.getElem?_eq_some_iff.mp e).1
          simpa using this
        rw [List.getElem?_set_self hl] at e
        cases e
      · rw [List.getElem?_set_ne h] at e
        exact ⟨h, e⟩
    obtain ⟨n1, e1⟩ := ne e1
    obtain ⟨n2, e2⟩ := ne e2
    rw [List.getElem?_set_ne n1] at e3
    rw [List.getElem?_set_ne n2] at e4
    exact S.sep j k o o' p e1 e2 e3 e4
theorem StR'.setVal {i : Nat} {t : T} {v : V} (R : StR' W dk F0 H0 cp F G σ H en d) (r : Rep W H F dk t v) : StR' W dk F0 H0 cp F G (σ.set i (some v)) H (setS en i (.val t)) d := ⟨R.s.setVal r, R.ff, R.g0, R.kp, R.vs, R.fz⟩

/-- an expression within a statement -/
theorem StR'.use {f : En → M T} {k : T → MS} {D : Ends} {Q : VK} (R : StR' W dk F0 H0 cp F G σ H en d) (p : PostS W Ex dk F0 H0 cp D (M.bind (f en) k d))
    (q : ∀ t d1 v H1, Keep dk H H1 → StR' W dk F0 H0 cp F G σ H1 en d1 → Rep W H1 F dk t v → PostS W Ex dk F0 H0 cp D (k t d1) → Q v H1) : tE W Ex f σ H Q := by
  refine ⟨dk, F, G, en, d, R.s, ?_⟩
  unfold M.bind Out.bind at p
  cases e : f en d with
  | ok t d1 =>
    rw [e] at p
    exact fun H1 k1 D1 v rv => q t d1 v H1 k1 (R.keep k1 D1) rv p
  | exc x d1 =>
    rw [e] at p
    exact fun c od H1 k1 D1 xr => p c od H1 (R.kp.trans k1) D1 (xr.weak R.ff)
  | bad =>
    rw [e] at p
    exact p.elim
theorem StR'.useT {f : En → M Bool} {k : Bool → MS} {D : Ends} {Q : Bool → Hp → Prop} (R : StR' W dk F0 H0 cp F G σ H en d) (p : PostS W Ex dk F0 H0 cp D (M.bind (f en) k d))
    (q : ∀ t d1 H1, StR' W dk F0 H0 cp F G σ H1 en d1 → PostS W Ex dk F0 H0 cp D (k t d1) → Q t H1) : tT W Ex f σ H Q := by
  refine ⟨dk, F, G, en, d, R.s, ?_⟩
  unfold M.bind Out.bind at p
  cases e : f en d with
  | ok t d1 =>
    rw [e] at p
    exact fun H1 k1 D1 => q t d1 H1 (R.keep k1 D1) p
  | exc x d1 =>
    rw [e] at p
    exact fun c od H1 k1 D1 xr => p c od H1 (R.kp.trans k1) D1 (xr.weak R.ff)
  | bad =>
    rw [e] at p
    exact p.elim
theorem StR'.useN {f : En → M (List T)} {k : List T → MS} {D : Ends} {Q : VK} (R : StR' W dk F0 H0 cp F G σ H en d) (p : PostS W Ex dk F0 H0 cp D (M.bind (f en) k d))
    (q : ∀ l d1 p xs H1, StR' W dk F0 H0 cp F G σ H1 en d1 → RepL W H1 F dk l xs → H1 p = none → PostS W Ex dk F0 H0 cp D (k l d1) → Q (.ref p) (upd H1 p (.lst xs))) : tN W Ex f σ H Q := by
  refine ⟨dk, F, G, en, d, R.s, ?_⟩
  unfold M.bind Out.bind at p
  cases e : f en d with
  | ok t d1 =>
    rw [e] at p
    exact fun H1 k1 D1 a xs rl _ ha => q t d1 a xs H1 (R.keep k1 D1) rl ha p
  | exc x d1 =>
    rw [e] at p
    exact fun c od H1 k1 D1 xr => p c od H1 (R.kp.trans k1) D1 (xr.weak R.ff)
  | bad =>
    rw [e] at p
    exact p.elim
end

/-! ### blocks -/
def sNext : En → MS := fun en => .pure (.nx, en)
def sSeq (g h : En → MS) : En → MS := fun en => (g en).bind fun r => match r.1 with
  | .nx => h r.2
  | _ => .pure r
def sAsg (i : Nat) (f : En → M T) : En → MS := fun en => (f en).bind fun t => .pure (.nx, setS en i (.val t))
def sExpr (f : En → M T) : En → MS := fun en => (f en).bind fun _ => .pure (.nx, en)
def sRet (f : En → M T) : En → MS := fun en => (f en).bind fun t => .pure (.ret t, en)
def sIf (c : En → M Bool) (g h : En → MS) : En → MS := fun en => (c en).bind fun b => match b with
  | true => g en
  | false => h en
section
variable {W : Wd} {Ex : XK} {X : Cx} {st : Stmt} {rest body els : List Stmt} {g h : En → MS} {f : En → M T} {fb : En → M Bool} {e c : Expr} {pos : Pos}
theorem _root_.L2.PS.imp {t t' : TS} (h : PS X st t) (k : ∀ D σ H, t' D σ H → t D σ H) : PS X st t' := ⟨fun pins s σ H D I q => h.run pins s σ H D I (k D σ H q)⟩
theorem _root_.L2.PSs.imp {t t' : TS} (h : PSs X rest t) (k : ∀ D σ H, t' D σ H → t D σ H) : PSs X rest t' := ⟨fun pins s σ H D I q => h.run pins s σ H D I (k D σ H q)⟩
theorem ts_nil : PSs X [] (tS W Ex sNext) := pss_nil.imp fun D σ H ⟨dk, F0, H0, cp, en, d, R, p⟩ => p σ H R
theorem ts_cons (h1 : PS X st (tS W Ex g)) (h2 : PSs X rest (tS W Ex h)) : PSs X (st :: rest) (tS W Ex (sSeq g h)) := (pss_cons h1 h2).imp fun D σ H ⟨dk, F0, H0, cp, en, d, R, p⟩ => by
  refine ⟨dk, F0, H0, cp, en, d, R, ?_⟩
  unfold sSeq M.bind Out.bind at p
  cases q : g en d with
  | ok r d1 =>
    obtain ⟨fl, en1⟩ := r
    rw [q] at p
    cases fl with
    | nx => exact fun σ' H' R' => ⟨dk, F0, H0, cp, en1, d1, R', p⟩
    | brk => exact p
    | ct => exact p
    | ret t => exact p
  | exc x d1 =>
    rw [q] at p
    exact p
  | bad =>
    rw [q] at p
    exact p.elim
theorem ts_one (h1 : PS X st (tS W Ex g)) : PSs X [st] (tS W Ex g) := pss_one h1
theorem ts_pass : PS X (.Pass pos) (tS W Ex sNext) := ps_pass.imp fun D σ H ⟨dk, F0, H0, cp, en, d, R, p⟩ => p σ H R
theorem ts_break : PS X (.Break pos) (tS W Ex fun en => .pure (.brk, en)) := ps_break.imp fun D σ H ⟨dk, F0, H0, cp, en, d, R, p⟩ => p σ H R
theorem ts_set {i : Nat} {x : Str} {pos' : Pos} (hN : X.N.Nodup) (he : PE X e (tE W Ex f)) (hi : X.N[i]? = some x := by rfl) (hx : Loc X.env.scope x := by first | exact Or.inl rfl | exact Or.inr rfl) (hs : swapsWith e (some (.Name x pos')) pos.line X.env = pure false := by rfl)
    (hf : X.fn x = true ∨ X.env.scope.names.lookup x = some .local := by first | exact .inl rfl | exact .inr rfl | assumption) : PS X (.Assign [.Name x pos'] e pos) (tS W Ex (sAsg i f)) :=
  (ps_set hN hi hx he hs hf).imp fun D σ H ⟨dk, F0, H0, cp, en, d, ⟨F, G, R⟩, p⟩ => R.use p fun t d1 v H1 k1 R1 rv q => q _ _ ⟨F, G, R1.setVal rv⟩
theorem ts_expr (he : PE X e (tE W Ex f)) (hs : swapsWith e none pos.line X.env = pure false := by rfl) : PS X (.Expr e pos) (tS W Ex (sExpr f)) :=
  (ps_expr he hs).imp fun D σ H ⟨dk, F0, H0, cp, en, d, ⟨F, G, R⟩, p⟩ => R.use p fun t d1 v H1 k1 R1 rv q => q _ _ ⟨F, G, R1⟩
theorem ts_ret (he : PE X e (tE W Ex f)) : PS X (.Return (some e) pos) (tS W Ex (sRet f)) :=
  (ps_ret he).imp fun D σ H ⟨dk, F0, H0, cp, en, d, ⟨F, G, R⟩, p⟩ => R.use p fun t d1 v H1 k1 R1 rv q => q _ _ R1.kp R1.s.deck (rv.weak R.ff)
theorem ts_if (hc : PT X c (tT W Ex fb)) (ha : PSs X body (tS W Ex g)) (hb : PSs X els (tS W Ex h)) : PS X (.If c body els pos) (tS W Ex (sIf fb g h)) :=
  (ps_if hc ha hb).imp fun D σ H ⟨dk, F0, H0, cp, en, d, ⟨F, G, R⟩, p⟩ => R.useT p fun b d1 H1 R1 q => by
    cases b with
    | true =>
      rw [if_pos rfl]
      exact ⟨dk, F0, H0, cp, en, d1, ⟨F, G, R1⟩, q⟩
    | false =>
      rw [if_neg (by decide)]
      exact ⟨dk, F0, H0, cp, en, d1, ⟨F, G, R1⟩, q⟩
end

/-! ### what a loop walks -/
/-- J goes over the trees l, wherever what was seen at (H1, F1) is seen -/
structure ItOk (W : Wd) (dk : Dk) (c : Hp × (Addr → Prop)) (J : It) (l : List T) : Prop where
  go : ∀ i F H, Vis c F H → i < l.length → J.go i H
  stop : ∀ F H, Vis c F H → J.stop l.length H
  yld : ∀ i F H x H', Vis c F H → (∀ a, F a → H a ≠ none) → i < l.length → J.yld i H x H' → Same H H' ∧ ∃ t, l[i]? = some t ∧ Rep W H' F dk t x
def tI (W : Wd) (Ex : XK) (f : En → M (List T)) : TI := fun σ H R => ∃ dk F G en d, SR W dk F G σ H en d ∧
  Post W Ex F dk H (fun l d' H' => ∀ J, ItOk W dk (H', F) J l → R J H') (f en d)
def itemsT : T → Option (List T)
  | .lst l => some l
  | .tup l => some l
  | .str z => some (z.cps.toList.map fun c => .str ⟨#[c]⟩)
  | _ => none
def xItems (f : En → M T) : En → M (List T) := fun en => (f en).bind fun t => .opt (itemsT t)
def itL : T → Option (List T)
  | .lst l => some l
  | _ => none
def itT : T → Option (List T)
  | .tup l => some l
  | _ => none
def itSt : T → Option (List T)
  | .str z => some (z.cps.toList.map fun c => .str ⟨#[c]⟩)
  | _ => none
section
variable {W : Wd} {Ex : XK} {X : Cx} {tg e : Expr} {f : En → M T} {dk : Dk} {H : Hp} {F : Addr → Prop}
theorem _root_.L2.PI.imp {t t' : TI} (h : PI X tg e t) (k : ∀ σ H R, t' σ H R → t σ H R) : PI X tg e t' := ⟨fun pins s σ H R I q => h.run pins s σ H R I (k σ H R q)⟩
theorem itOk_list {K : PySem.W.Frag} {a : Addr} {xs : List V} {l : List T} (nf : ¬ F a) (h : H a = some (.lst xs)) (r : RepL W H F dk l xs) : ItOk W dk (H, F) (Itl K a) l where
  go := fun i F' H' v hi => by
    obtain ⟨x, hx, _⟩ := r.get (List.getElem?_eq_getElem hi)
    exact ⟨xs, x, .of (v a _ h nf).1, hx⟩
  stop := fun F' H' v => ⟨xs, .of (v a _ h nf).1, Nat.le_of_eq r.length⟩
  yld := fun i F' H' x H'' v _ hi y => by
    obtain ⟨rfl, hy⟩ := y
    obtain ⟨x', hx, rx⟩ := (v.repL r).get (List.getElem?_eq_getElem hi)
    have e := hy xs (.of (v a _ h nf).1)
    rw [hx] at e
    cases e
    exact ⟨.refl _, _, List.getElem?_eq_getElem hi, rx⟩
theorem itOk_tup {K : PySem.W.Frag} {a : Addr} {xs : List V} {l : List T} (nf : ¬ F a) (h : H a = some (.tup xs)) (r : RepL W H F dk l xs) : ItOk W dk (H, F) (Itt K a) l where
  go := fun i F' H' v hi => by
    obtain ⟨x, hx, _⟩ := r.get (List.getElem?_eq_getElem hi)
    exact ⟨xs, x, .of (v a _ h nf).1, hx⟩
  stop := fun F' H' v => ⟨xs, .of (v a _ h nf).1, Nat.le_of_eq r.length⟩
  yld := fun i F' H' x H'' v _ hi y => by
    obtain ⟨rfl, hy⟩ := y
    obtain ⟨x', hx, rx⟩ := (v.repL r).get (List.getElem?_eq_getElem hi)
    have e := hy xs (.of (v a _ h nf).1)
    rw [hx] at e
    cases e
    exact ⟨.refl _, _, List.getElem?_eq_getElem hi, rx⟩
theorem itOk_str {z : Str} : ItOk W dk (H, F) (Its z) (z.cps.toList.map fun c => .str ⟨#[c]⟩) where
  go := fun i F' H' v hi => by
    have h : i < z.cps.size := by simpa using hi
    exact h
  stop := fun F' H' v => by simp [Its]
  yld := fun i F' H' x H'' v _ hi y => by
    obtain ⟨rfl, c, hc, rfl⟩ := y
    refine ⟨.refl _, .str ⟨#[c]⟩, ?_, rep_str⟩
    rw [List.getElem?_map, Array.getElem?_toList, hc]
    rfl
theorem ti_list (hK : W.K = X.K) (he : PE X e (tE W Ex f)) : PI X tg e (tI W Ex fun en => (f en).bind fun t => .opt (itL t)) := (pi_list he).imp fun σ H R ⟨dk, F, G, en, d, S, h⟩ => by
  refine ⟨dk, F, G, en, d, S, (Post.bind h).mono fun t d1 H1 k1 D1 h1 v rv => ?_⟩
  obtain ⟨z, e, q⟩ := Post.opt_some h1
  cases t <;> simp only [itL, reduceCtorEq, Option.some.injEq] at e
  subst e
  simp only [Rep] at rv
  obtain ⟨a, xs, rfl, nf, s, r⟩ := rv
  exact ⟨a, rfl, ⟨xs, .of s⟩, q H1 (.refl _ _) D1 _ (itOk_list nf s r)⟩
theorem ti_tup (hK : W.K = X.K) (he : PE X e (tE W Ex f)) : PI X tg e (tI W Ex fun en => (f en).bind fun t => .opt (itT t)) := (pi_tup he).imp fun σ H R ⟨dk, F, G, en, d, S, h⟩ => by
  refine ⟨dk, F, G, en, d, S, (Post.bind h).mono fun t d1 H1 k1 D1 h1 v rv => ?_⟩
  obtain ⟨z, e, q⟩ := Post.opt_some h1
  cases t <;> simp only [itT, reduceCtorEq, Option.some.injEq] at e
  subst e
  simp only [Rep] at rv
  obtain ⟨a, xs, rfl, nf, s, r⟩ := rv
  exact ⟨a, rfl, ⟨xs, .of s⟩, q H1 (.refl _ _) D1 _ (itOk_tup nf s r)⟩
theorem ti_str (he : PE X e (tE W Ex f)) : PI X tg e (tI W Ex fun en => (f en).bind fun t => .opt (itSt t)) := (pi_str he).imp fun σ H R ⟨dk, F, G, en, d, S, h⟩ => by
  refine ⟨dk, F, G, en, d, S, (Post.bind h).mono fun t d1 H1 k1 D1 h1 v rv => ?_⟩
  obtain ⟨z, e, q⟩ := Post.opt_some h1
  cases t <;> simp only [itSt, reduceCtorEq, Option.some.injEq] at e
  subst e
  simp only [Rep] at rv
  exact ⟨_, rv, q H1 (.refl _ _) D1 _ itOk_str⟩
/-- a list, a tuple, a text -/
theorem ti_seq (hK : W.K = X.K) (he : PE X e (tE W Ex f)) : PI X tg e (tI W Ex (xItems f)) := by
  refine ⟨fun pins s σ H R I q => ?_⟩
  obtain ⟨dk, F, G, en, d, S, q⟩ := q
  unfold xItems at q
  cases h : f en d with
  | ok t d1 =>
    rw [M.bind_ok h] at q
    cases t with
    | lst l => exact (ti_list hK he).run pins s σ H R I ⟨dk, F, G, en, d, S, by show Post W Ex F dk H _ (M.bind (f en) _ d); rw [M.bind_ok h]; exact q⟩
    | tup l => exact (ti_tup hK he).run pins s σ H R I ⟨dk, F, G, en, d, S, by show Post W Ex F dk H _ (M.bind (f en) _ d); rw [M.bind_ok h]; exact q⟩
    | str z => exact (ti_str he).run pins s σ H R I ⟨dk, F, G, en, d, S, by show Post W Ex F dk H _ (M.bind (f en) _ d); rw [M.bind_ok h]; exact q⟩
    | _ => exact q.elim
  | exc x d1 =>
    rw [M.bind_exc h] at q
    exact (ti_list hK he).run pins s σ H R I ⟨dk, F, G, en, d, S, by show Post W Ex F dk H _ (M.bind (f en) _ d); rw [M.bind_exc h]; exact q⟩
  | bad =>
    rw [M.bind_bad h] at q
    exact q.elim
end

/-! ### targets -/
/-- the slots at is alone may have changed -/
def OnlyAt (is : List Nat) (σ σ' : L2.St) : Prop := σ'.length = σ.length ∧ ∀ j, j ∉ is → σ'[j]? = σ[j]?
theorem OnlyAt.refl (is : List Nat) (σ : L2.St) : OnlyAt is σ σ := ⟨rfl, fun _ _ => rfl⟩
theorem OnlyAt.trans {is js : List Nat} {σ σ1 σ2 : L2.St} (a : OnlyAt is σ σ1) (b : OnlyAt js σ1 σ2) : OnlyAt (is ++ js) σ σ2 :=
  ⟨b.1.trans a.1, fun j hj => (b.2 j fun z => hj (List.mem_append_right _ z)).trans (a.2 j fun z => hj (List.mem_append_left _ z))⟩
def tG (W : Wd) (is : List Nat) (a : T → En → Option En) : TG := fun v σ H Q => ∃ dk F G en d t en', SR W dk F G σ H en d ∧ Rep W H F dk t v ∧ a t en = some en' ∧ ∀ σ', SR W dk F G σ' H en' d → OnlyAt is σ σ' → Q σ' H
def tGs (W : Wd) (is : List Nat) (a : List T → En → Option En) : TGs := fun vs σ H Q => ∃ dk F G en d l en', SR W dk F G σ H en d ∧ RepL W H F dk l vs ∧ a l en = some en' ∧ ∀ σ', SR W dk F G σ' H en' d → OnlyAt is σ σ' → Q σ' H
def aName (i : Nat) : T → En → Option En := fun t en => some (setS en i (.val t))
def aNil : List T → En → Option En := fun l en => match l with
  | [] => some en
  | _ => none
def aCons (a : T → En → Option En) (b : List T → En → Option En) : List T → En → Option En := fun l en => match l with
  | t :: r => (a t en).bind (b r)
  | _ => none
def aTup (b : List T → En → Option En) : T → En → Option En := fun t en => match t with
  | .tup l => b l en
  | _ => none
section
variable {W : Wd} {Ex : XK} {X : Cx} {tg : Expr} {tgs : List Expr} {pos : Pos} {a : T → En → Option En} {b : List T → En → Option En} {is js : List Nat}
theorem _root_.L2.PG.imp {t t' : TG} (h : PG X tg t) (k : ∀ v σ H Q, t' v σ H Q → t v σ H Q) : PG X tg t' := ⟨fun pins s σ H v u Q I r q => h.run pins s σ H v u Q I r (k v σ H Q q)⟩
theorem _root_.L2.PGs.imp {t t' : TGs} (h : PGs X tgs t) (k : ∀ v σ H Q, t' v σ H Q → t v σ H Q) : PGs X tgs t' := ⟨fun pins s σ H v u Q I r q => h.run pins s σ H v u Q I r (k v σ H Q q)⟩
theorem tg_name {i : Nat} {x : Str} (hN : X.N.Nodup) (hi : X.N[i]? = some x := by rfl) (hx : Loc X.env.scope x := by first | exact Or.inl rfl | exact Or.inr rfl) (hf : X.fn x = true ∨ X.env.scope.names.lookup x = some .local := by first | exact .inl rfl | exact .inr rfl | assumption) :
    PG X (.Name x pos) (tG W [i] (aName i)) := (pg_name hN hi hx hf).imp fun v σ H Q ⟨dk, F, G, en, d, t, en', S, r, e, q⟩ => by
  cases e
  exact q _ (S.setVal r) ⟨List.length_set, fun j hj => List.getElem?_set_ne fun z => hj (by simp [z])⟩
theorem tgs_nil : PGs X [] (tGs W [] aNil) := pgs_nil.imp fun vs σ H Q ⟨dk, F, G, en, d, l, en', S, r, e, q⟩ => by
  cases l with
  | nil =>
    cases e
    simp only [RepL] at r
    exact ⟨r, q _ S (.refl _ _)⟩
  | cons t l => cases e
theorem tgs_cons (h1 : PG X tg (tG W is a)) (h2 : PGs X tgs (tGs W js b)) (hs : (assignEach (tg :: tgs) X.env).map (·.2) = assign tg X.env :: (assignEach tgs X.env).map (·.2) := by rfl) : PGs X (tg :: tgs) (tGs W (is ++ js) (aCons a b)) :=
  (pgs_cons h1 h2 hs).imp fun vs σ H Q ⟨dk, F, G, en, d, l, en', S, r, e, q⟩ => by
    cases l with
    | nil => cases e
    | cons t l =>
      simp only [aCons, Option.bind_eq_some_iff] at e
      obtain ⟨en1, e1, e2⟩ := e
      simp only [RepL] at r
      obtain ⟨x, rs, rfl, r1, r2⟩ := r
      exact ⟨x, rs, rfl, dk, F, G, en, d, t, en1, S, r1, e1, fun σ' S' o => ⟨dk, F, G, en1, d, l, en', S', r2, e2, fun σ2 S2 o2 => q σ2 S2 (o.trans o2)⟩⟩
theorem tg_tup {k n : Nat} (hc : X.calm = true) (h : PGs X tgs (tGs W is b)) (hl : ∀ l en en', b l en = some en' → l.length = n) (hn : (assignEach tgs X.env).length = n := by rfl) (hst : (assignEach tgs X.env).findIdx? (·.1) = none := by rfl) : PG X (.Tuple tgs k pos) (tG W is (aTup b)) :=
  (pg_tup hc h hn hst).imp fun v σ H Q ⟨dk, F, G, en, d, t, en', S, r, e, q⟩ => by
    cases t with
    | tup l =>
      simp only [Rep] at r
      obtain ⟨a, xs, rfl, nf, s, rl⟩ := r
      exact ⟨a, xs, rfl, .of s, by rw [rl.length]; exact hl _ _ _ e, dk, F, G, en, d, l, en', S, rl, e, q⟩
    | _ => cases e
end
theorem aNil_len : ∀ l en en', aNil l en = some en' → l.length = 0 := fun l en en' h => by
  cases l with
  | nil => rfl
  | cons _ _ => cases h
theorem aCons_len {a : T → En → Option En} {b : List T → En → Option En} {n : Nat} (h : ∀ l en en', b l en = some en' → l.length = n) : ∀ l en en', aCons a b l en = some en' → l.length = n + 1 := fun l en en' e => by
  cases l with
  | nil => cases e
  | cons t l =>
    simp only [aCons, Option.bind_eq_some_iff] at e
    obtain ⟨en1, e1, e2⟩ := e
    rw [List.length_cons, h _ _ _ e2]

/-! ### loops -/
def forL (a : T → En → Option En) (g : En → MS) : List T → En → MS
  | [], en => .pure (.nx, en)
  | t :: l, en => (M.opt (a t en)).bind fun en1 => (g en1).bind fun r => match r.1 with
    | .nx => forL a g l r.2
    | .ct => forL a g l r.2
    | .brk => .pure (.nx, r.2)
    | .ret _ => .pure r
def sFor (f : En → M (List T)) (a : T → En → Option En) (g : En → MS) : En → MS := fun en => (f en).bind fun l => forL a g l en
def whileL (c : En → M Bool) (g : En → MS) : Nat → En → MS
  | 0, _ => .bad
  | n + 1, en => (c en).bind fun b => match b with
    | true => (g en).bind fun r => match r.1 with
      | .nx => whileL c g n r.2
      | .ct => whileL c g n r.2
      | .brk => .pure (.nx, r.2)
      | .ret _ => .pure r
    | false => .pure (.nx, en)
def sWhile (n : Nat) (c : En → M Bool) (g : En → MS) : En → MS := fun en => whileL c g n en
section
variable {W : Wd} {Ex : XK} {X : Cx} {tg it c : Expr} {body : List Stmt} {pos : Pos} {a : T → En → Option En} {f : En → M (List T)} {g : En → MS} {fb : En → M Bool} {is : List Nat}
theorem StR'.mark {W : Wd} {dk : Dk} {F0 F G : Addr → Prop} {H0 H : Hp} {cp : Cps} {σ : L2.St} {en : En} {d : D} (R : StR' W dk F0 H0 cp F G σ H en d) : StR' W dk F0 H0 ((H, F) :: cp) F G σ H en d :=
  ⟨R.s, R.ff, R.g0, R.kp, fun c hc => by
    rcases List.mem_cons.mp hc with rfl | hc
    · exact .refl _ _
    · exact R.vs c hc, R.fz⟩
theorem StR.unmark {W : Wd} {dk : Dk} {F0 : Addr → Prop} {H0 H : Hp} {cp : Cps} {m : Hp × (Addr → Prop)} {σ : L2.St} {en : En} {d : D} (R : StR W dk F0 H0 (m :: cp) σ H en d) : StR W dk F0 H0 cp σ H en d :=
  let ⟨F, G, r⟩ := R
  ⟨F, G, r.s, r.ff, r.g0, r.kp, fun c hc => r.vs c (List.mem_cons_of_mem _ hc), r.fz⟩
theorem ts_for (hp : PassesOwn (model X.prog X.w) X.A X.env X.xe) (hi : PI X tg it (tI W Ex f)) (hg : PG X tg (tG W is a)) (hb : PSs X body (tS W Ex g)) (hc : X.calm = true := by rfl) (hs : ∀ x, foldedSetIterable it X.env x = pure x := by intro _; rfl) :
    PS X (.For tg it body [] pos) (tS W Ex (sFor f a g)) := (ps_for hp hc hi hg hb hs).imp fun D σ H ⟨dk, F0, H0, cp, en, d, ⟨F, G, R⟩, p⟩ => by
  refine ⟨dk, F, G, en, d, R.s, ?_⟩
  unfold sFor M.bind Out.bind at p
  cases e : f en d with
  | bad =>
    rw [e] at p
    exact p.elim
  | exc x d1 =>
    rw [e] at p
    exact fun c od H1 k1 D1 xr => p c od H1 (R.kp.trans k1) D1 (xr.weak R.ff)
  | ok l d1 =>
    rw [e] at p
    intro H1 k1 D1 J hJ
    have R1 := (R.keep k1 D1).mark
    refine ⟨fun i m σ' H' => m = l.length - i ∧ i ≤ l.length ∧ ∃ en' d', StR W dk F0 H0 ((H1, F) :: cp) σ' H' en' d' ∧ PostS W Ex dk F0 H0 cp D (forL a g (l.drop i) en' d'), ⟨l.length, by simp, Nat.zero_le _, en, d1, ⟨F, G, R1⟩, by rw [List.drop_zero]; exact p⟩, ?_⟩
    rintro i m σ' H' ⟨rfl, hi, en', d', ⟨F', G', R'⟩, p'⟩
    have hv : Vis (H1, F) F' H' := R'.vs _ List.mem_cons_self
    by_cases hlt : i < l.length
    · refine .inr ⟨hJ.go i F' H' hv hlt, fun σ2 H2 => ∃ en2 d2, StR W dk F0 H0 ((H1, F) :: cp) σ2 H2 en2 d2 ∧ PostS W Ex dk F0 H0 cp D (forL a g (l.drop (i + 1)) en2 d2), fun σ2 H2 ⟨en2, d2, R2, p2⟩ => ⟨l.length - (i + 1), by omega, rfl, by omega, en2, d2, R2, p2⟩, fun x H2 y => ?_⟩
      obtain ⟨sm, t, et, rt⟩ := hJ.yld i F' H' x H2 hv R'.s.fh hlt y
      have R2 := R'.keep (.of sm) (R'.s.deck.same sm)
      have hd : l.drop i = t :: l.drop (i + 1) := by
        rw [List.getElem?_eq_getElem hlt] at et
        rw [List.drop_eq_getElem_cons hlt, Option.some.inj et]
      rw [hd] at p'
      unfold forL M.bind Out.bind at p'
      cases ea : a t en' with
      | none =>
        rw [ea] at p'
        exact p'.elim
      | some en3 =>
        rw [ea] at p'
        have p' : PostS W Ex dk F0 H0 cp D (M.bind (g en3) (fun r => match r.1 with
            | .nx => forL a g (l.drop (i + 1)) r.2
            | .ct => forL a g (l.drop (i + 1)) r.2
            | .brk => .pure (.nx, r.2)
            | .ret _ => .pure r) d') := p'
        refine ⟨dk, F', G', en', d', t, en3, R2.s, rt, ea, fun σ3 S3 _ => ?_⟩
        have R3 : StR W dk F0 H0 ((H1, F) :: cp) σ3 H2 en3 d' := ⟨F', G', S3, R2.ff, R2.g0, R2.kp, R2.vs, R2.fz⟩
        refine ⟨dk, F0, H0, (H1, F) :: cp, en3, d', R3, ?_⟩
        cases eg : g en3 d' with
        | bad =>
          rw [M.bind_bad eg] at p'
          exact p'.elim
        | exc x d4 =>
          rw [M.bind_exc eg] at p'
          exact p'
        | ok r d4 =>
          obtain ⟨fl, en4⟩ := r
          rw [M.bind_ok eg] at p'
          cases fl with
          | nx => exact fun σ4 H4 R4 => ⟨en4, d4, R4, p'⟩
          | ct => exact fun σ4 H4 R4 => ⟨en4, d4, R4, p'⟩
          | brk => exact fun σ4 H4 R4 => p' _ _ R4.unmark
          | ret t => exact p'
    · have ei : i = l.length := by omega
      subst ei
      rw [List.drop_length] at p'
      exact .inl ⟨hJ.stop F' H' hv, p' _ _ (StR.unmark ⟨F', G', R'⟩)⟩
theorem ts_while {n : Nat} (hp : PassesOwn (model X.prog X.w) X.A X.env X.xe) (hc : PT X c (tT W Ex fb)) (hb : PSs X body (tS W Ex g)) : PS X (.While c body [] pos) (tS W Ex (sWhile n fb g)) := (ps_while hp hc hb).imp fun D σ H ⟨dk, F0, H0, cp, en, d, R, p⟩ => by
  refine ⟨fun m σ' H' => ∃ en' d', StR W dk F0 H0 cp σ' H' en' d' ∧ PostS W Ex dk F0 H0 cp D (whileL fb g m en' d'), ⟨n, en, d, R, p⟩, ?_⟩
  rintro m σ' H' ⟨en', d', ⟨F, G, R'⟩, p'⟩
  cases m with
  | zero => exact p'.elim
  | succ m =>
    unfold whileL at p'
    refine R'.useT p' fun b d1 H1 R1 q => ?_
    cases b with
    | false =>
      rw [if_neg (by decide)]
      exact q _ _ ⟨F, G, R1⟩
    | true =>
      rw [if_pos rfl]
      refine ⟨fun σ2 H2 => ∃ en2 d2, StR W dk F0 H0 cp σ2 H2 en2 d2 ∧ PostS W Ex dk F0 H0 cp D (whileL fb g m en2 d2), fun σ2 H2 h => ⟨m, Nat.lt_succ_self m, h⟩, dk, F0, H0, cp, en', d1, ⟨F, G, R1⟩, ?_⟩
      have q : PostS W Ex dk F0 H0 cp D (M.bind (g en') (fun r => match r.1 with
        | .nx => whileL fb g m r.2
        | .ct => whileL fb g m r.2
        | .brk => .pure (.nx, r.2)
        | .ret _ => .pure r) d1) := q
      cases eg : g en' d1 with
      | bad =>
        rw [M.bind_bad eg] at q
        exact q.elim
      | exc x d4 =>
        rw [M.bind_exc eg] at q
        exact q
      | ok r d4 =>
        obtain ⟨fl, en4⟩ := r
        rw [M.bind_ok eg] at q
        cases fl with
        | nx => exact fun σ4 H4 R4 => ⟨en4, d4, R4, q⟩
        | ct => exact fun σ4 H4 R4 => ⟨en4, d4, R4, q⟩
        | brk => exact fun σ4 H4 R4 => q _ _ R4
        | ret t => exact q
end
end TL

/-! TLf: objects of one's own, comprehensions, defs. -/
namespace TL
open PySem PySem.Spec PyProof.Rows L2

/-! ### objects of one's own -/
section
variable {W : Wd} {Ex : XK} {dk : Dk} {F F' F0 G : Addr → Prop} {H H' H0 : Hp} {cp : Cps} {σ : L2.St} {en : En} {d d' : D} {p : Addr} {ho : HO}
/-- an object of one's own changes -/
theorem SR.rep_mut (S : SR W dk F G σ H en d) (hG : G p) {t : T} {v : V} (r : Rep W H F dk t v) : Rep W (upd H p ho) F dk t v :=
  Rep.mono (fun a o nf e => ⟨by rw [upd_ne (fun z => nf (by rw [z]; exact S.gf _ hG))]; exact e, nf⟩) t v r
theorem SR.repL_mut (S : SR W dk F G σ H en d) (hG : G p) {t : List T} {v : List V} (r : RepL W H F dk t v) : RepL W (upd H p ho) F dk t v :=
  RepL.mono (fun a o nf e => ⟨by rw [upd_ne (fun z => nf (by rw [z]; exact S.gf _ hG))]; exact e, nf⟩) t v r
theorem SR.repD_mut (S : SR W dk F G σ H en d) (hG : G p) {t : List (Key × T)} {v : List (Key × V)} (r : RepD W H F dk t v) : RepD W (upd H p ho) F dk t v :=
  RepD.mono (fun a o nf e => ⟨by rw [upd_ne (fun z => nf (by rw [z]; exact S.gf _ hG))]; exact e, nf⟩) t v r
theorem DkAt.other (h : DkAt W dk H d) (h1 : p ≠ dk.1) (h2 : p ≠ dk.2) : DkAt W dk (upd H p ho) d := by
  obtain ⟨a, b, c⟩ := h
  exact ⟨a, by rw [upd_ne h2.symm]; exact b, by rw [upd_ne h1.symm]; exact c⟩
theorem OwnR.mut {q : Addr} {o : O} (S : SR W dk F G σ H en d) (hG : G p) (ne : q ≠ p) (r : OwnR W H F dk o q) : OwnR W (upd H p ho) F dk o q := by
  cases o with
  | lst l =>
    obtain ⟨xs, e, r⟩ := r
    exact ⟨xs, by rw [upd_ne ne]; exact e, S.repL_mut hG r⟩
  | dic l =>
    obtain ⟨xs, e, r⟩ := r
    exact ⟨xs, by rw [upd_ne ne]; exact e, S.repD_mut hG r⟩
theorem StR'.mut {i : Nat} {o o' : O} (R : StR' W dk F0 H0 cp F G σ H en d) (hs : getS en i = .own o) (hp : σ[i]? = some (some (.ref p))) (hG : G p) (new : OwnR W (upd H p ho) F dk o' p) :
    StR' W dk F0 H0 cp F G σ (upd H p ho) (setS en i (.own o')) d := by
  have S := R.s
  have hs' := getS_own hs
  have hil : i < en.length := (List.getElem?_eq_some_iff.mp hs').1
  have other : ∀ {j : Nat} {s : Sl}, (setS en i (.own o'))[j]? = some s → (j = i ∧ s = .own o') ∨ (j ≠ i ∧ en[j]? = some s) := fun {j s} e => by
    rw [setS_eq] at e
    by_cases h : i = j
    · subst h
      rw [List.getElem?_set_self hil] at e
      cases e
      exact .inl ⟨rfl, rfl⟩
    · rw [List.getElem?_set_ne h] at e
      exact .inr ⟨fun z => h z.symm, e⟩
  refine ⟨⟨by rw [setS_eq, List.length_set]; exact S.len, fun j t e => ?_, fun j q e => ?_, fun j k q q' a e1 e2 e3 e4 => ?_, S.gf, S.gd, fun a z => ?_, S.fd1, S.fd2, S.deck.other (S.gd p hG).1 (S.gd p hG).2⟩, R.ff, R.g0, fun a o h n1 n2 => ?_, fun c hc a o h n => ?_, R.fz⟩
  · rcases other e with ⟨_, z⟩ | ⟨_, e⟩
    · cases z
    · obtain ⟨v, h1, h2⟩ := S.val j t e
      exact ⟨v, h1, S.rep_mut hG h2⟩
  · rcases other e with ⟨rfl, z⟩ | ⟨ne, e⟩
    · cases z
      exact ⟨p, hp, hG, new⟩
    · obtain ⟨a, h1, h2, h3⟩ := S.own j q e
      refine ⟨a, h1, h2, OwnR.mut S hG (fun z => ?_) h3⟩
      subst z
      exact ne (S.sep j i q o a e hs' h1 hp)
  · have ow : ∀ {j : Nat} {q : O}, (setS en i (.own o'))[j]? = some (.own q) → ∃ q, en[j]? = some (.own q) := fun {j q} e => by
      rcases other e with ⟨rfl, _⟩ | ⟨_, e⟩
      · exact ⟨o, hs'⟩
      · exact ⟨q, e⟩
    obtain ⟨q1, e1⟩ := ow e1
    obtain ⟨q2, e2⟩ := ow e2
    exact S.sep j k q1 q2 a e1 e2 e3 e4
  · by_cases h : a = p
    · subst h
      rw [upd_same]
      exact fun z => nomatch z
    · rw [upd_ne h]
      exact S.fh a z
  · have : a ≠ p := fun z => by
      subst z
      rw [R.g0 a hG] at h
      cases h
    rw [upd_ne this]
    exact R.kp a o h n1 n2
  · obtain ⟨h1, h2⟩ := R.vs c hc a o h n
    exact ⟨by rw [upd_ne (fun z => h2 (by rw [z]; exact S.gf _ hG))]; exact h1, h2⟩
/-- a new object is one's own -/
theorem StR'.fresh {i : Nat} {o : O} (R : StR' W dk F0 H0 cp F G σ H en d) (hp : H p = none) (new : OwnR W (upd H p ho) (fun a => F a ∨ a = p) dk o p) :
    StR' W dk F0 H0 cp (fun a => F a ∨ a = p) (fun a => G a ∨ a = p) (σ.set i (some (.ref p))) (upd H p ho) (setS en i (.own o)) d := by
  have S := R.s
  have sm : Same H (upd H p ho) := upd_same' hp
  have up : ∀ {t : T} {v : V}, Rep W H F dk t v → Rep W (upd H p ho) (fun a => F a ∨ a = p) dk t v := fun {t v} r =>
    Rep.mono (fun a o nf e => ⟨sm a o e, fun z => z.elim nf (ne_of_none e hp)⟩) t v r
  have upL : ∀ {t : List T} {v : List V}, RepL W H F dk t v → RepL W (upd H p ho) (fun a => F a ∨ a = p) dk t v := fun {t v} r =>
    RepL.mono (fun a o nf e => ⟨sm a o e, fun z => z.elim nf (ne_of_none e hp)⟩) t v r
  have upD : ∀ {t : List (Key × T)} {v : List (Key × V)}, RepD W H F dk t v → RepD W (upd H p ho) (fun a => F a ∨ a = p) dk t v := fun {t v} r =>
    RepD.mono (fun a o nf e => ⟨sm a o e, fun z => z.elim nf (ne_of_none e hp)⟩) t v r
  have np1 : p ≠ dk.1 := fun z => S.fh _ (z ▸ S.fd1) hp
  have np2 : p ≠ dk.2 := fun z => S.fh _ (z ▸ S.fd2) hp
  have ownH : ∀ {q : Addr} {o : O}, OwnR W H F dk o q → H q ≠ none ∧ OwnR W (upd H p ho) (fun a => F a ∨ a = p) dk o q := fun {q o} r => by
    cases o with
    | lst l =>
      obtain ⟨xs, e, r⟩ := r
      exact ⟨fun z => (by rw [z] at e; cases e), xs, sm _ _ e, upL r⟩
    | dic l =>
      obtain ⟨xs, e, r⟩ := r
      exact ⟨fun z => (by rw [z] at e; cases e), xs, sm _ _ e, upD r⟩
  have get : ∀ {j : Nat} {s : Sl}, (setS en i (.own o))[j]? = some s → (j = i ∧ s = .own o ∧ i < σ.length) ∨ (j ≠ i ∧ en[j]? = some s) := fun {j s} e => by
    rw [setS_eq] at e
    by_cases h : i = j
    · subst h
      have hil : i < en.length := by
        have := (List.getElem?_eq_some_iff.mp e).1
        simpa using this
      rw [List.getElem?_set_self hil] at e
      cases e
      exact .inl ⟨rfl, rfl, by rw [← S.len]; exact hil⟩
    · rw [List.getElem?_set_ne h] at e
      exact .inr ⟨fun z => h z.symm, e⟩
  refine ⟨⟨by rw [setS_eq, List.length_set, List.length_set]; exact S.len, fun j t e => ?_, fun j q e => ?_, fun j k q q' a e1 e2 e3 e4 => ?_, fun a z => z.imp (S.gf a) id, fun a z => z.elim (S.gd a) fun e => by subst e; exact ⟨np1, np2⟩, fun a z => ?_, .inl S.fd1, .inl S.fd2, S.deck.same sm⟩,
    fun a z => .inl (R.ff a z), fun a z => z.elim (R.g0 a) fun e => ?_, R.kp.trans (.of sm), fun c hc a o h n => ?_, R.fz⟩
  · rcases get e with ⟨_, z, _⟩ | ⟨ne, e⟩
    · cases z
    · obtain ⟨v, h1, h2⟩ := S.val j t e
      exact ⟨v, by rw [List.getElem?_set_ne (fun z => ne z.symm)]; exact h1, up h2⟩
  · rcases get e with ⟨rfl, z, hl⟩ | ⟨ne, e⟩
    · cases z
      exact ⟨p, List.getElem?_set_self hl, .inr rfl, new⟩
    · obtain ⟨a, h1, h2, h3⟩ := S.own j q e
      exact ⟨a, by rw [List.getElem?_set_ne (fun z => ne z.symm)]; exact h1, .inl h2, (ownH h3).2⟩
  · rcases get e1 with ⟨rfl, _, hl⟩ | ⟨n1, f1⟩
    · rw [List.getElem?_set_self hl] at e3
      cases e3
      rcases get e2 with ⟨rfl, _⟩ | ⟨n2, f2⟩
      · rfl
      · rw [List.getElem?_set_ne (fun z => n2 z.symm)] at e4
        obtain ⟨a, h1, h2, h3⟩ := S.own k q' f2
        rw [e4] at h1
        cases h1
        exact absurd hp (ownH h3).1
    · rw [List.getElem?_set_ne (fun z => n1 z.symm)] at e3
      rcases get e2 with ⟨rfl, _, hl⟩ | ⟨n2, f2⟩
      · rw [List.getElem?_set_self hl] at e4
        cases e4
        obtain ⟨a, h1, h2, h3⟩ := S.own j q f1
        rw [e3] at h1
        cases h1
        exact absurd hp (ownH h3).1
      · rw [List.getElem?_set_ne (fun z => n2 z.symm)] at e4
        exact S.sep j k q q' a f1 f2 e3 e4
  · rcases z with z | rfl
    · intro q
      have := S.fh a z
      cases h : H a with
      | none => exact this h
      | some o =>
        rw [sm a o h] at q
        cases q
    · rw [upd_same]
      exact fun z => nomatch z
  · subst e
    cases h : H0 a with
    | none => rfl
    | some o =>
      exfalso
      have := R.kp a o h np1 np2
      rw [hp] at this
      cases this
  · obtain ⟨h1, h2⟩ := R.vs c hc a o h n
    exact ⟨sm _ _ h1, fun z => z.elim h2 (ne_of_none h1 hp)⟩
/-- an object of one's own is kept from now on -/
def frz (i : Nat) (en : En) : En := match getS en i with
  | .own o => setS en i (.val o.t)
  | _ => en
theorem rep_own {o : O} (F' : Addr → Prop) (hF : ∀ a, F' a → F a) (hp : ¬ F' p) (r : OwnR W H F dk o p) : Rep W H F' dk o.t (.ref p) := by
  cases o with
  | lst l =>
    obtain ⟨xs, e, r⟩ := r
    simp only [O.t, Rep]
    exact ⟨p, xs, rfl, hp, e, RepL.mono (fun a o nf e => ⟨e, fun z => nf (hF a z)⟩) l xs r⟩
  | dic l =>
    obtain ⟨xs, e, r⟩ := r
    simp only [O.t, Rep]
    exact ⟨p, xs, rfl, hp, .inl e, RepD.mono (fun a o nf e => ⟨e, fun z => nf (hF a z)⟩) l xs r⟩
theorem SR.frz {i : Nat} (S : SR W dk F G σ H en d) : ∃ F' G', (∀ a, F' a → F a) ∧ (∀ a, G' a → G a) ∧ (∀ a, F a → F' a ∨ G a) ∧ SR W dk F' G' σ H (frz i en) d := by
  unfold TL.frz
  cases hs : getS en i with
  | no => exact ⟨F, G, fun _ z => z, fun _ z => z, fun _ z => .inl z, S⟩
  | val t => exact ⟨F, G, fun _ z => z, fun _ z => z, fun _ z => .inl z, S⟩
  | own o =>
    have hs' := getS_own hs
    have hil : i < en.length := (List.getElem?_eq_some_iff.mp hs').1
    obtain ⟨p, hp, hG, hr⟩ := S.own i o hs'
    have sub : ∀ a, (F a ∧ a ≠ p) → F a := fun a z => z.1
    have get : ∀ {j : Nat} {s : Sl}, (setS en i (.val o.t))[j]? = some s → (j = i ∧ s = .val o.t) ∨ (j ≠ i ∧ en[j]? = some s) := fun {j s} e => by
      rw [setS_eq] at e
      by_cases h : i = j
      · subst h
        rw [List.getElem?_set_self hil] at e
        cases e
        exact .inl ⟨rfl, rfl⟩
      · rw [List.getElem?_set_ne h] at e
        exact .inr ⟨fun z => h z.symm, e⟩
    refine ⟨fun a => F a ∧ a ≠ p, fun a => G a ∧ a ≠ p, sub, fun a z => z.1, fun a z => ?_, by show (setS en i (.val o.t)).length = _; rw [setS_eq, List.length_set]; exact S.len, fun j t e => ?_, fun j q e => ?_, fun j k q q' a e1 e2 e3 e4 => ?_, fun a z => ⟨S.gf a z.1, z.2⟩, fun a z => S.gd a z.1, fun a z => S.fh a z.1, ⟨S.fd1, fun z => (S.gd p hG).1 z.symm⟩, ⟨S.fd2, fun z => (S.gd p hG).2 z.symm⟩, S.deck⟩
    · by_cases h : a = p
      · subst h
        exact .inr hG
      · exact .inl ⟨z, h⟩
    · rcases get e with ⟨rfl, z⟩ | ⟨_, e⟩
      · cases z
        exact ⟨.ref p, hp, rep_own _ sub (fun z => z.2 rfl) hr⟩
      · obtain ⟨v, h1, h2⟩ := S.val j t e
        exact ⟨v, h1, h2.weak sub⟩
    · rcases get e with ⟨_, z⟩ | ⟨ne, e⟩
      · cases z
      · obtain ⟨a, h1, h2, h3⟩ := S.own j q e
        have na : a ≠ p := fun z => by
          subst z
          exact ne (S.sep j i q o a e hs' h1 hp)
        refine ⟨a, h1, ⟨h2, na⟩, ?_⟩
        cases q with
        | lst l =>
          obtain ⟨xs, e, r⟩ := h3
          exact ⟨xs, e, RepL.mono (fun a o nf e => ⟨e, fun z => nf z.1⟩) l xs r⟩
        | dic l =>
          obtain ⟨xs, e, r⟩ := h3
          exact ⟨xs, e, RepD.mono (fun a o nf e => ⟨e, fun z => nf z.1⟩) l xs r⟩
    · rcases get e1 with ⟨_, z⟩ | ⟨_, e1⟩
      · cases z
      · rcases get e2 with ⟨_, z⟩ | ⟨_, e2⟩
        · cases z
        · exact S.sep j k q q' a e1 e2 e3 e4
theorem StR.frz {i : Nat} (R : StR W dk F0 H0 cp σ H en d) : StR W dk F0 H0 cp σ H (frz i en) d := by
  obtain ⟨F, G, R⟩ := R
  obtain ⟨F', G', h1, h2, h3, S⟩ := R.s.frz (i := i)
  refine ⟨F', G', S, fun a z => ?_, fun a z => R.g0 a (h2 a z), R.kp, fun c hc a o h n => ⟨(R.vs c hc a o h n).1, fun z => (R.vs c hc a o h n).2 (h1 a z)⟩, R.fz⟩
  rcases h3 a (R.ff a z) with q | q
  · exact q
  · exact absurd (R.g0 a q) (R.fz a z)
end

def M.noX {α : Type} (m : M α) : M α := fun d => match m d with
  | .ok a d' => .ok a d'
  | _ => .bad
theorem Post.noX {W : Wd} {Ex Ex' : XK} {F : Addr → Prop} {dk : Dk} {H : Hp} {α : Type} {R : α → D → Hp → Prop} {m : M α} {d : D} (h : Post W Ex F dk H R (m.noX d)) : Post W Ex' F dk H R (m d) := by
  unfold M.noX at h
  cases q : m d with
  | ok a d1 =>
    rw [q] at h
    exact h
  | exc x d1 =>
    rw [q] at h
    exact h.elim
  | bad =>
    rw [q] at h
    exact h.elim
theorem Post.reF {W : Wd} {Ex : XK} {F F' : Addr → Prop} {dk : Dk} {H : Hp} {α : Type} {R : α → D → Hp → Prop} {m : M α} {d : D} (h : Post W Ex F dk H R (m.noX d)) : Post W Ex F' dk H R (m.noX d) := by
  unfold M.noX at h ⊢
  cases q : m d with
  | ok a d1 =>
    rw [q] at h
    exact h
  | exc x d1 =>
    rw [q] at h
    exact h.elim
  | bad =>
    rw [q] at h
    exact h.elim
/-! ### statements on objects of one's own -/
def sFrz (i : Nat) (g : En → MS) : En → MS := fun en => g (frz i en)
def scalT : T → Bool
  | .non => true | .bl _ => true | .int _ => true | .str _ => true
  | _ => false
def guardT (t : T) : Option T := if scalT t then some t else none
/-- to look at an object of one's own: the value is a scalar -/
def xPk (i : Nat) (f : En → M T) : En → M T := fun en => (f (frz i en)).noX.bind fun t => .opt (guardT t)
def xPkB (i : Nat) (f : En → M Bool) : En → M Bool := fun en => (f (frz i en)).noX
def sNew (i : Nat) (f : En → M (List T)) : En → MS := fun en => (f en).bind fun l => .pure (.nx, setS en i (.own (.lst l)))
def withL (en : En) (i : Nat) (k : List T → MS) : MS := match getS en i with
  | .own (.lst l) => k l
  | _ => .bad
def withD (en : En) (i : Nat) (k : List (Key × T) → MS) : MS := match getS en i with
  | .own (.dic l) => k l
  | _ => .bad
def sApp (i : Nat) (f : En → M T) : En → MS := fun en => withL en i fun l => (f en).bind fun t => (M.opt (capL (l.length + 1) ())).bind fun _ => .pure (.nx, setS en i (.own (.lst (l ++ [t]))))
def lstT? : T → Option (List T)
  | .lst l => some l
  | _ => none
def intT1 : T → Option Int
  | .int i => some i
  | _ => none
def sExt (i : Nat) (f : En → M T) : En → MS := fun en => withL en i fun l => (f en).bind fun t => (M.opt (lstT? t)).bind fun m => (M.opt (capL (l.length + m.length) ())).bind fun _ => .pure (.nx, setS en i (.own (.lst (l ++ m))))
/-- own[b] = e: the value first, then the place -/
def sPut (i : Nat) (fb f : En → M T) : En → MS := fun en => withL en i fun l => (f en).bind fun t => (fb en).bind fun k => (M.opt ((intT1 k).bind (ixN l.length))).bind fun j => .pure (.nx, setS en i (.own (.lst (l.set j t))))
def putK' (l : List (Key × T)) (k : Key) (t : T) : List (Key × T) :=
  if (l.any fun kv => decide (kv.1 = k)) = true then l.map (fun kv => if kv.1 = k then (kv.1, t) else kv) else l ++ [(k, t)]
def sDPut (i : Nat) (fb f : En → M T) : En → MS := fun en => withD en i fun l => (f en).bind fun t => (fb en).bind fun k => (M.opt (keyT k)).bind fun q => (M.opt (capL (l.length + 1) ())).bind fun _ => .pure (.nx, setS en i (.own (.dic (putK' l q t))))
def sNewD (i : Nat) : En → MS := fun en => .pure (.nx, setS en i (.own (.dic [])))
/-- name = own.pop(): the last item goes -/
def sPop (i j : Nat) : En → MS := fun en => withL en i fun l => (M.opt (l[l.length - 1]?)).bind fun t => .pure (.nx, setS (setS en i (.own (.lst l.dropLast))) j (.val t))
section
variable {W : Wd} {Ex : XK} {dk : Dk} {F0 : Addr → Prop} {H0 : Hp} {cp : Cps} {D : Ends} {en : En} {d : TL.D} {i : Nat}
theorem PostS.withL {k : List T → MS} (p : PostS W Ex dk F0 H0 cp D (withL en i k d)) : ∃ l, getS en i = .own (.lst l) ∧ PostS W Ex dk F0 H0 cp D (k l d) := by
  unfold TL.withL at p
  cases h : getS en i with
  | own o =>
    rw [h] at p
    cases o with
    | lst l => exact ⟨l, rfl, p⟩
    | dic l => exact p.elim
  | no =>
    rw [h] at p
    exact p.elim
  | val t =>
    rw [h] at p
    exact p.elim
theorem PostS.withD {k : List (Key × T) → MS} (p : PostS W Ex dk F0 H0 cp D (withD en i k d)) : ∃ l, getS en i = .own (.dic l) ∧ PostS W Ex dk F0 H0 cp D (k l d) := by
  unfold TL.withD at p
  cases h : getS en i with
  | own o =>
    rw [h] at p
    cases o with
    | dic l => exact ⟨l, rfl, p⟩
    | lst l => exact p.elim
  | no =>
    rw [h] at p
    exact p.elim
  | val t =>
    rw [h] at p
    exact p.elim
theorem PostS.opt {α : Type} {o : Option α} {k : α → MS} (p : PostS W Ex dk F0 H0 cp D (M.bind (.opt o) k d)) : ∃ a, o = some a ∧ PostS W Ex dk F0 H0 cp D (k a d) := by
  cases o with
  | none => exact p.elim
  | some a => exact ⟨a, rfl, p⟩
end

section
variable {W : Wd} {Ex : XK} {X : Cx} {st : Stmt} {rest : List Stmt} {g h : En → MS} {f fb : En → M T} {fB : En → M Bool} {fl : En → M (List T)} {e b c : Expr} {pos cpos p1 p2 p3 : Pos} {i j : Nat} {x : Str}
theorem tss_frz (i : Nat) (h : PSs X rest (tS W Ex g)) : PSs X rest (tS W Ex (sFrz i g)) := h.imp fun D σ H ⟨dk, F0, H0, cp, en, d, R, p⟩ => ⟨dk, F0, H0, cp, frz i en, d, R.frz, p⟩
theorem rep_scal {H : Hp} {F F' : Addr → Prop} {dk : Dk} {t u : T} {v : V} (h : guardT t = some u) (r : Rep W H F dk t v) : Rep W H F' dk u v := by
  unfold guardT at h
  cases t <;> simp only [scalT, if_true, if_false, Option.some.injEq, reduceCtorEq, Bool.false_eq_true] at h <;> (subst h; simpa only [Rep] using r)
theorem te_pk (i : Nat) (he : PE X e (tE W Ex f)) : PE X e (tE W Ex (xPk i f)) := he.imp fun σ H Q ⟨dk, F, G, en, d, S, h⟩ => by
  obtain ⟨F', G', h1, h2, h3, S'⟩ := S.frz (i := i)
  refine ⟨dk, F', G', frz i en, d, S', ?_⟩
  have h : Post W Ex F' dk H _ ((f (frz i en)).noX d) := Post.reF (Post.bind h)
  refine (Post.noX h).mono fun t d1 H1 k1 D1 h1 v rv => ?_
  obtain ⟨z, e, w⟩ := Post.opt_some h1
  exact w H1 (.refl _ _) D1 v (rep_scal e rv)
theorem tt_pk (i : Nat) (he : PT X e (tT W Ex fB)) : PT X e (tT W Ex (xPkB i fB)) := he.imp fun σ H Q ⟨dk, F, G, en, d, S, h⟩ => by
  obtain ⟨F', G', h1, h2, h3, S'⟩ := S.frz (i := i)
  exact ⟨dk, F', G', frz i en, d, S', Post.noX (Post.reF h : Post W Ex F' dk H _ ((fB (frz i en)).noX d))⟩
theorem ts_new (hN : X.N.Nodup) (he : PE X e (tN W Ex fl)) (hi : X.N[i]? = some x := by rfl) (hx : Loc X.env.scope x := by first | exact Or.inl rfl | exact Or.inr rfl) (hs : swapsWith e (some (.Name x p1)) pos.line X.env = pure false := by rfl)
    (hf : X.fn x = true ∨ X.env.scope.names.lookup x = some .local := by first | exact .inl rfl | exact .inr rfl | assumption) : PS X (.Assign [.Name x p1] e pos) (tS W Ex (sNew i fl)) :=
  (ps_set hN hi hx he hs hf).imp fun D σ H ⟨dk, F0, H0, cp, en, d, ⟨F, G, R⟩, p⟩ => R.useN p fun l d1 a xs H1 R1 rl ha q => q _ _ ⟨_, _, R1.fresh ha ⟨xs, upd_same, RepL.mono (fun b o nf e => ⟨upd_same' ha b o e, fun z => z.elim nf (ne_of_none e ha)⟩) l xs rl⟩⟩
theorem ts_newD (hN : X.N.Nodup) (hi : X.N[i]? = some x := by rfl) (hx : Loc X.env.scope x := by first | exact Or.inl rfl | exact Or.inr rfl)
    (hf : X.fn x = true ∨ X.env.scope.names.lookup x = some .local := by first | exact .inl rfl | exact .inr rfl | assumption) : PS X (.Assign [.Name x p1] (.Dict [] [] p2) pos) (tS W Ex (sNewD i)) :=
  (ps_set hN hi hx pe_dnewK (by rfl) hf).imp fun D σ H ⟨dk, F0, H0, cp, en, d, ⟨F, G, R⟩, p⟩ a ha => p _ _ ⟨_, _, R.fresh ha ⟨[], upd_same, by simp only [RepD]⟩⟩
theorem ownL {W : Wd} {dk : Dk} {F G : Addr → Prop} {σ : L2.St} {H : Hp} {en : En} {d : D} {i : Nat} {l : List T} (S : SR W dk F G σ H en d) (hs : getS en i = .own (.lst l)) : ∃ p xs, σ[i]? = some (some (.ref p)) ∧ G p ∧ H p = some (.lst xs) ∧ RepL W H F dk l xs := by
  obtain ⟨p, h1, h2, xs, h3, h4⟩ := S.own i _ (getS_own hs)
  exact ⟨p, xs, h1, h2, h3, h4⟩
theorem ownD {W : Wd} {dk : Dk} {F G : Addr → Prop} {σ : L2.St} {H : Hp} {en : En} {d : D} {i : Nat} {l : List (Key × T)} (S : SR W dk F G σ H en d) (hs : getS en i = .own (.dic l)) : ∃ p xs, σ[i]? = some (some (.ref p)) ∧ G p ∧ H p = some (.dK xs) ∧ RepD W H F dk l xs := by
  obtain ⟨p, h1, h2, xs, h3, h4⟩ := S.own i _ (getS_own hs)
  exact ⟨p, xs, h1, h2, h3, h4⟩
/-- own.append(e) -/
theorem ts_app (he : PE X e (tE W Ex f)) (hi : X.N[i]? = some x := by rfl) (hv : L2.Vis X.env.scope x := by first | exact Or.inl rfl | exact Or.inr (Or.inl rfl) | exact Or.inr (Or.inr rfl))
    (hd : (x == ("__debug__" : Str)) = false := by decide) (hcd : (x == ("__classdict__" : Str)) = false := by decide)
    (hbase : attributeBase (.Name x p1) "append" X.env (eval (.Name x p1) X.env) = eval (.Name x p1) X.env := by rfl)
    (hfew : ((backTo cpos (starEach [e] X.env)).all (fun x => !x.1) && (backToKw cpos (keywordEach [] X.env)).all (fun x => x.1.isSome) && decide ([e].length + ([] : List Keyword).length + (if ([] : List Keyword).isEmpty then 0 else 1) < 30)) = true := by rfl)
    (hline : (p2.endLine == cpos.line) = true := by rfl) (hs : starEach [e] X.env = (false, eval e X.env) :: starEach [] X.env := by rfl) (hplain : (backTo cpos (starEach [] X.env)).any (·.1) = false := by rfl)
    (hsw : swapsWith (.Call (.Attribute (.Name x p1) "append" p2) [e] [] cpos) none pos.line X.env = pure false := by rfl) : PS X (.Expr (.Call (.Attribute (.Name x p1) "append" p2) [e] [] cpos) pos) (tS W Ex (sApp i f)) :=
  (ps_expr (pe_bm PySem.F.plainAttrs_list PySem.F.slot_list_append PySem.F.type_list_append mt_append (pv i hi hv hd hcd) (pa_cons he pa_nil hs) hbase hfew hline hs hplain) hsw).imp fun D σ H ⟨dk, F0, H0, cp, en, d, ⟨F, G, R⟩, p⟩ => by
    obtain ⟨l, hs, p⟩ := PostS.withL p
    obtain ⟨a, xs, h1, h2, h3, h4⟩ := ownL R.s hs
    refine ⟨.ref a, h1, .inl ⟨rfl, xs, .of h3⟩, R.use p fun t d1 v H1 k1 R1 rv q => ?_⟩
    obtain ⟨a', xs', h1', h2', h3', h4'⟩ := ownL R1.s hs
    rw [h1] at h1'
    cases h1'
    obtain ⟨u, hz, q⟩ := PostS.opt q
    refine ⟨a, xs', v, rfl, rfl, h3', ?_, q _ _ ⟨F, G, R1.mut hs h1 h2' ⟨xs' ++ [v], upd_same, R1.s.repL_mut h2' (h4'.append (.cons rv .nil))⟩⟩⟩
    rw [h4'.length]
    exact (capL_some hz).1
/-- own.extend(e) -/
theorem ts_ext (he : PE X e (tE W Ex f)) (hi : X.N[i]? = some x := by rfl) (hv : L2.Vis X.env.scope x := by first | exact Or.inl rfl | exact Or.inr (Or.inl rfl) | exact Or.inr (Or.inr rfl))
    (hd : (x == ("__debug__" : Str)) = false := by decide) (hcd : (x == ("__classdict__" : Str)) = false := by decide)
    (hbase : attributeBase (.Name x p1) "extend" X.env (eval (.Name x p1) X.env) = eval (.Name x p1) X.env := by rfl)
    (hfew : ((backTo cpos (starEach [e] X.env)).all (fun x => !x.1) && (backToKw cpos (keywordEach [] X.env)).all (fun x => x.1.isSome) && decide ([e].length + ([] : List Keyword).length + (if ([] : List Keyword).isEmpty then 0 else 1) < 30)) = true := by rfl)
    (hline : (p2.endLine == cpos.line) = true := by rfl) (hs : starEach [e] X.env = (false, eval e X.env) :: starEach [] X.env := by rfl) (hplain : (backTo cpos (starEach [] X.env)).any (·.1) = false := by rfl)
    (hsw : swapsWith (.Call (.Attribute (.Name x p1) "extend" p2) [e] [] cpos) none pos.line X.env = pure false := by rfl) : PS X (.Expr (.Call (.Attribute (.Name x p1) "extend" p2) [e] [] cpos) pos) (tS W Ex (sExt i f)) :=
  (ps_expr (pe_bm PySem.F.plainAttrs_list PySem.F.slot_list_extend PySem.F.type_list_extend mt_extend (pv i hi hv hd hcd) (pa_cons he pa_nil hs) hbase hfew hline hs hplain) hsw).imp fun D σ H ⟨dk, F0, H0, cp, en, d, ⟨F, G, R⟩, p⟩ => by
    obtain ⟨l, hs, p⟩ := PostS.withL p
    obtain ⟨a, xs, h1, h2, h3, h4⟩ := ownL R.s hs
    refine ⟨.ref a, h1, .inl ⟨rfl, xs, .of h3⟩, R.use p fun t d1 v H1 k1 R1 rv q => ?_⟩
    obtain ⟨a', xs', h1', h2', h3', h4'⟩ := ownL R1.s hs
    rw [h1] at h1'
    cases h1'
    obtain ⟨m, hm, q⟩ := PostS.opt q
    obtain ⟨u, hz, q⟩ := PostS.opt q
    cases t <;> simp only [lstT?, reduceCtorEq, Option.some.injEq] at hm
    subst hm
    simp only [Rep] at rv
    obtain ⟨b, ys, rfl, nb, hb, rb⟩ := rv
    refine ⟨a, b, xs', ys, rfl, rfl, h3', hb, ?_, q _ _ ⟨F, G, R1.mut hs h1 h2' ⟨xs' ++ ys, upd_same, R1.s.repL_mut h2' (h4'.append rb)⟩⟩⟩
    rw [h4'.length, rb.length]
    exact (capL_some hz).1
/-- own[b] = e, a list -/
theorem ts_put (he : PE X e (tE W Ex f)) (hb : PE X b (tE W Ex fb)) (hi : X.N[i]? = some x := by rfl) (hv : L2.Vis X.env.scope x := by first | exact Or.inl rfl | exact Or.inr (Or.inl rfl) | exact Or.inr (Or.inr rfl))
    (hd : (x == ("__debug__" : Str)) = false := by decide) (hcd : (x == ("__classdict__" : Str)) = false := by decide)
    (ha : ∀ v, assign (.Subscript (.Name x p1) b p2) X.env v = (do let ov ← holding [v] (eval (.Name x p1) X.env); let iv ← holding [v, ov] (eval b X.env); standAt p2; holding [v, ov, iv] (setItem ov iv v); release [v, ov, iv] []) := by intro _; rfl)
    (hs : swapsWithSole [.Subscript (.Name x p1) b p2] e pos.line X.env = pure false := by rfl) (hw : swappedStores [.Subscript (.Name x p1) b p2] e X.env = pure none := by rfl)
    (h1 : (assignEach [.Subscript (.Name x p1) b p2] X.env).map (·.2) = [assign (.Subscript (.Name x p1) b p2) X.env] := by rfl) : PS X (.Assign [.Subscript (.Name x p1) b p2] e pos) (tS W Ex (sPut i fb f)) :=
  (ps_asg he (pg_sub (pv i hi hv hd hcd) hb set_list ha) hs hw h1).imp fun D σ H ⟨dk, F0, H0, cp, en, d, ⟨F, G, R⟩, p⟩ => by
    obtain ⟨l, hs, p⟩ := PostS.withL p
    obtain ⟨a, xs, h1, h2, h3, h4⟩ := ownL R.s hs
    refine R.use p fun t d1 v H1 k1 R1 rv q => ?_
    refine ⟨.ref a, h1, R1.use q fun k d2 y H2 k2 R2 ry q2 => ?_⟩
    obtain ⟨a', xs', h1', h2', h3', h4'⟩ := ownL R2.s hs
    rw [h1] at h1'
    cases h1'
    obtain ⟨j, hj, q3⟩ := PostS.opt q2
    cases k <;> simp only [intT1, Option.bind_none, Option.bind_some, reduceCtorEq] at hj
    simp only [Rep] at ry
    refine ⟨a, xs', _, j, rfl, ry, h3', by rw [h4'.length]; exact hj, q3 _ _ ⟨F, G, R2.mut hs h1 h2' ⟨xs'.set j v, upd_same, R2.s.repL_mut h2' (h4'.set j (R1.s.keepR k2 rv))⟩⟩⟩
end
end TL

/-! TLg: comprehensions, defs. -/
namespace TL
open PySem PySem.Spec PyProof.Rows L2

theorem Post.bind0 {W : Wd} {Ex : XK} {F : Addr → Prop} {dk : Dk} {H : Hp} {α β : Type} {S : β → D → Hp → Prop} {m : M α} {k : α → M β} {d : D} (h : Post W Ex F dk H S (M.bind m k d)) : Post W Ex F dk H (fun a d1 _ => Post W Ex F dk H S (k a d1)) (m d) := by
  cases e : m d with
  | ok a d1 =>
    rw [M.bind_ok e] at h
    exact fun _ _ _ => h
  | exc x d1 =>
    rw [M.bind_exc e] at h
    exact h
  | bad =>
    rw [M.bind_bad e] at h
    exact h

/-! ### list comprehensions -/
def wipeE (en : En) : List Nat → En
  | [] => en
  | v :: vs => setS (wipeE en vs) v .no
def lcL (a : T → En → Option En) (c : En → M Bool) (f : En → M T) (en : En) : List T → M (List T)
  | [] => .pure []
  | t :: l => (M.opt (a t en)).bind fun en1 => (c en1).noX.bind fun b => match b with
    | true => (f en1).noX.bind fun y => (lcL a c f en l).bind fun r => .pure (y :: r)
    | false => lcL a c f en l
def xLc (fi : En → M (List T)) (a : T → En → Option En) (vs : List Nat) (c : En → M Bool) (f : En → M T) : En → M (List T) := fun en => (fi en).bind fun l => (M.opt (capL l.length ())).bind fun _ => lcL a c f (wipeE en vs) l
def xYes : En → M Bool := fun _ => .pure true
section
variable {W : Wd} {dk : Dk} {F G : Addr → Prop} {σ : L2.St} {H : Hp} {en : En} {d : D}
theorem SR.setNo {i : Nat} (S : SR W dk F G σ H en d) : SR W dk F G (σ.set i none) H (setS en i .no) d := by
  rw [setS_eq]
  have ne : ∀ {j : Nat} {s : Sl}, (en.set i .no)[j]? = some s → s ≠ .no → i ≠ j ∧ en[j]? = some s := fun {j s} e hs => by
    by_cases h : i = j
    · subst h
      have hl : i < en.length := by
        have := (List.getElem?_eq_some_iff.mp e).1
        simpa using this
      rw [List.getElem?_set_self hl] at e
      cases e
      exact absurd rfl hs
    · rw [List.getElem?_set_ne h] at e
      exact ⟨h, e⟩
  refine ⟨by simp [S.len], fun j u e => ?_, fun j o e => ?_, fun j k o o' p e1 e2 e3 e4 => ?_, S.gf, S.gd, S.fh, S.fd1, S.fd2, S.deck⟩
  · obtain ⟨n, e⟩ := ne e (fun z => nomatch z)
    obtain ⟨w, h1, h2⟩ := S.val j u e
    exact ⟨w, by rw [List.getElem?_set_ne n]; exact h1, h2⟩
  · obtain ⟨n, e⟩ := ne e (fun z => nomatch z)
    obtain ⟨w, h1, h2⟩ := S.own j o e
    exact ⟨w, by rw [List.getElem?_set_ne n]; exact h1, h2⟩
  · obtain ⟨n1, e1⟩ := ne e1 (fun z => nomatch z)
    obtain ⟨n2, e2⟩ := ne e2 (fun z => nomatch z)
    rw [List.getElem?_set_ne n1] at e3
    rw [List.getElem?_set_ne n2] at e4
    exact S.sep j k o o' p e1 e2 e3 e4
theorem SR.wipe (S : SR W dk F G σ H en d) : ∀ vs : List Nat, SR W dk F G (wipe σ vs) H (wipeE en vs) d
  | [] => S
  | v :: vs => (S.wipe vs).setNo
theorem wipe_get {σ : L2.St} {vs : List Nat} {j : Nat} : (wipe σ vs)[j]? = if j ∈ vs then (if j < σ.length then some none else none) else σ[j]? := by
  induction vs with
  | nil => simp [wipe]
  | cons v vs ih =>
    show ((wipe σ vs).set v none)[j]? = _
    by_cases h : v = j
    · subst h
      rw [if_pos List.mem_cons_self]
      by_cases hl : v < σ.length
      · rw [List.getElem?_set_self (by rw [wipe_length]; exact hl), if_pos hl]
      · rw [if_neg hl, List.getElem?_eq_none_iff, List.length_set, wipe_length]
        omega
    · rw [List.getElem?_set_ne h, ih]
      by_cases hm : j ∈ vs
      · rw [if_pos hm, if_pos (List.mem_cons_of_mem _ hm)]
      · rw [if_neg hm, if_neg (fun z => (List.mem_cons.mp z).elim (fun e => h e.symm) hm)]
theorem wipe_only {σ σ2 : L2.St} {is vs : List Nat} (h : OnlyAt is (wipe σ vs) σ2) (hs : ∀ j ∈ is, j ∈ vs) : wipe σ2 vs = wipe σ vs := by
  have hl : σ2.length = σ.length := h.1.trans (wipe_length _ _)
  refine List.ext_getElem? fun j => ?_
  rw [wipe_get, wipe_get, hl]
  by_cases hm : j ∈ vs
  · rw [if_pos hm, if_pos hm]
  · rw [if_neg hm, if_neg hm, h.2 j (fun z => hm (hs j z)), wipe_get, if_neg hm]
/-- a hidden object that is nobody's changes -/
theorem SR.mutH {p : Addr} {ho : HO} (S : SR W dk F G σ H en d) (hF : F p) (hG : ¬ G p) (n1 : p ≠ dk.1) (n2 : p ≠ dk.2) : SR W dk F G σ (upd H p ho) en d := by
  have up : ∀ {t : T} {v : V}, Rep W H F dk t v → Rep W (upd H p ho) F dk t v := fun {t v} r =>
    Rep.mono (fun a o nf e => ⟨by rw [upd_ne (fun z => nf (by rw [z]; exact hF))]; exact e, nf⟩) t v r
  refine ⟨S.len, fun j u e => ?_, fun j o e => ?_, S.sep, S.gf, S.gd, fun a z => ?_, S.fd1, S.fd2, S.deck.other n1 n2⟩
  · obtain ⟨v, h1, h2⟩ := S.val j u e
    exact ⟨v, h1, up h2⟩
  · obtain ⟨a, h1, h2, h3⟩ := S.own j o e
    have na : a ≠ p := fun z => hG (by rw [← z]; exact h2)
    refine ⟨a, h1, h2, ?_⟩
    cases o with
    | lst l =>
      obtain ⟨xs, e, r⟩ := h3
      exact ⟨xs, by rw [upd_ne na]; exact e, RepL.mono (fun a o nf e => ⟨by rw [upd_ne (fun z => nf (by rw [z]; exact hF))]; exact e, nf⟩) l xs r⟩
    | dic l =>
      obtain ⟨xs, e, r⟩ := h3
      exact ⟨xs, by rw [upd_ne na]; exact e, RepD.mono (fun a o nf e => ⟨by rw [upd_ne (fun z => nf (by rw [z]; exact hF))]; exact e, nf⟩) l xs r⟩
  · by_cases h : a = p
    · subst h
      rw [upd_same]
      exact fun z => nomatch z
    · rw [upd_ne h]
      exact S.fh a z
/-- one more hidden, new object -/
theorem SR.hide {p : Addr} {ho : HO} (S : SR W dk F G σ H en d) (hp : H p = none) : SR W dk (fun a => F a ∨ a = p) G σ (upd H p ho) en d := by
  have sm : Same H (upd H p ho) := upd_same' hp
  refine ⟨S.len, fun j u e => ?_, fun j o e => ?_, S.sep, fun a z => .inl (S.gf a z), S.gd, fun a z => ?_, .inl S.fd1, .inl S.fd2, S.deck.same sm⟩
  · obtain ⟨v, h1, h2⟩ := S.val j u e
    exact ⟨v, h1, Rep.mono (fun a o nf e => ⟨sm a o e, fun z => z.elim nf (ne_of_none e hp)⟩) u v h2⟩
  · obtain ⟨a, h1, h2, h3⟩ := S.own j o e
    refine ⟨a, h1, h2, ?_⟩
    cases o with
    | lst l =>
      obtain ⟨xs, e, r⟩ := h3
      exact ⟨xs, sm _ _ e, RepL.mono (fun a o nf e => ⟨sm a o e, fun z => z.elim nf (ne_of_none e hp)⟩) l xs r⟩
    | dic l =>
      obtain ⟨xs, e, r⟩ := h3
      exact ⟨xs, sm _ _ e, RepD.mono (fun a o nf e => ⟨sm a o e, fun z => z.elim nf (ne_of_none e hp)⟩) l xs r⟩
  · rcases z with z | rfl
    · intro q
      have := S.fh a z
      cases h : H a with
      | none => exact this h
      | some o =>
        rw [sm a o h] at q
        cases q
    · rw [upd_same]
      exact fun z => nomatch z
end
/-- a heap without an address -/
def without (H : Hp) (p : Addr) : Hp := fun a => if a = p then none else H a
theorem without_upd {H : Hp} {p : Addr} {o : HO} (h : H p = some o) : upd (without H p) p o = H := by
  funext a
  unfold upd without
  by_cases e : a = p
  · subst e
    rw [if_pos rfl, h]
  · rw [if_neg e, if_neg e]
section
variable {W : Wd} {Ex : XK} {X : Cx} {tg iter elt c : Expr} {ifs : List Expr} {scope : Scope} {own : List (Str × Nat)} {pos : Pos} {fi : En → M (List T)} {a : T → En → Option En} {is : List Nat} {fc : En → M Bool} {f : En → M T}
theorem _root_.L2.PTs.imp {t t' : TT} (h : PTs X ifs t) (k : ∀ σ H Q, t' σ H Q → t σ H Q) : PTs X ifs t' := ⟨fun pins s σ H Q I q => h.run pins s σ H Q I (k σ H Q q)⟩
theorem tts_nil : PTs X [] (tT W Ex xYes) := pts_nil.imp fun σ H Q ⟨dk, F, G, en, d, S, h⟩ => h H (.refl _ _) S.deck
theorem tts_one (h : PT X c (tT W Ex fc)) : PTs X [c] (tT W Ex fc) := pts_one h
theorem lc_of {vs : List Nat} (hs : ∀ j ∈ is, j ∈ vs) : ∀ σ H Q, tN W Ex (xLc fi a vs fc f) σ H Q → tLc (tI W Ex fi) (tG W is a) (tT W E0 fc) (tE W E0 f) vs σ H Q := fun σ H Q ⟨dk, F, G, en, d, S, h⟩ => by
  refine ⟨dk, F, G, en, d, S, (Post.bind h).mono fun l d1 H1 k1 D1 h1 J hJ Dd hD => ?_⟩
  have S1 := S.keep k1 D1
  cases hz : capL l.length () with
  | none =>
    rw [hz] at h1
    exact h1.elim
  | some u =>
    rw [hz] at h1
    have hcap := (capL_some hz).1
    have n1 : Dd ≠ dk.1 := fun z => S1.fh _ (z ▸ S1.fd1) hD
    have n2 : Dd ≠ dk.2 := fun z => S1.fh _ (z ▸ S1.fd2) hD
    have nG : ¬ G Dd := fun z => S1.fh _ (S1.gf _ z) hD
    refine ⟨fun i m H' => m = l.length - i ∧ i ≤ l.length ∧ ∃ acc ts d', H' Dd = some (.lst acc) ∧ acc.length ≤ i ∧ SR W dk (fun b => F b ∨ b = Dd) G (wipe σ vs) H' (wipeE en vs) d' ∧ Keep dk H1 H' ∧ RepL W H' (fun b => F b ∨ b = Dd) dk ts acc ∧
      Post W Ex F dk H1 (fun r d'' H'' => ∀ p xs, RepL W H'' F dk (ts ++ r) xs → xs.length ≤ sizeLine → H'' p = none → Q (.ref p) (upd H'' p (.lst xs))) (lcL a fc f (wipeE en vs) (l.drop i) d'),
      ⟨l.length, by simp, Nat.zero_le _, [], [], d1, upd_same, Nat.le_refl _, (S1.wipe vs).hide hD, .of (upd_same' hD), .nil, by simp only [List.nil_append]; exact h1⟩, ?_⟩
    rintro i m H' ⟨rfl, hi, acc, ts, d', hDd, hacc, S', k', rl, P⟩
    have hv : TL.Vis (H1, F) (fun b => F b ∨ b = Dd) H' := fun b o e nf => ⟨k' b o e (fun z => nf (z ▸ S1.fd1)) (fun z => nf (z ▸ S1.fd2)), fun z => z.elim nf (ne_of_none e hD)⟩
    by_cases hlt : i < l.length
    · refine .inr ⟨hJ.go i _ H' hv hlt, fun H2 => i + 1 ≤ l.length ∧ ∃ acc ts d', H2 Dd = some (.lst acc) ∧ acc.length ≤ i + 1 ∧ SR W dk (fun b => F b ∨ b = Dd) G (wipe σ vs) H2 (wipeE en vs) d' ∧ Keep dk H1 H2 ∧ RepL W H2 (fun b => F b ∨ b = Dd) dk ts acc ∧
        Post W Ex F dk H1 (fun r d'' H'' => ∀ p xs, RepL W H'' F dk (ts ++ r) xs → xs.length ≤ sizeLine → H'' p = none → Q (.ref p) (upd H'' p (.lst xs))) (lcL a fc f (wipeE en vs) (l.drop (i + 1)) d'),
        fun H2 h => ⟨l.length - (i + 1), by omega, rfl, h⟩, fun x H2 y => ?_⟩
      obtain ⟨sm, t, et, rt⟩ := hJ.yld i _ H' x H2 hv S'.fh hlt y
      have S2 := S'.keep (.of sm) (S'.deck.same sm)
      have hd : l.drop i = t :: l.drop (i + 1) := by
        rw [List.getElem?_eq_getElem hlt] at et
        rw [List.drop_eq_getElem_cons hlt, Option.some.inj et]
      rw [hd] at P
      cases ea : a t (wipeE en vs) with
      | none =>
        unfold lcL at P
        rw [ea] at P
        exact P.elim
      | some en1 =>
        have P : Post W Ex F dk H1 (fun r d'' H'' => ∀ p xs, RepL W H'' F dk (ts ++ r) xs → xs.length ≤ sizeLine → H'' p = none → Q (.ref p) (upd H'' p (.lst xs))) (M.bind (fc en1).noX (fun b => match b with
            | true => (f en1).noX.bind fun y => (lcL a fc f (wipeE en vs) (l.drop (i + 1))).bind fun r => .pure (y :: r)
            | false => lcL a fc f (wipeE en vs) (l.drop (i + 1))) d') := by
          unfold lcL at P
          rw [ea] at P
          exact P
        refine ⟨dk, _, G, wipeE en vs, d', t, en1, S2, rt, ea, fun σ3 S3 on => ⟨wipe_only on hs, ?_⟩⟩
        refine ⟨dk, _, G, en1, d', S3, (Post.later (Post.noX (Ex' := E0) (Post.reF (Post.bind0 P))) (k'.trans (.of sm))).mono fun b d3 H3 k3 D3 P => ?_⟩
        have S2w := S2.keep k3 D3
        have k13 : Keep dk H1 H3 := (k'.trans (.of sm)).trans k3
        have rl3 : RepL W H3 (fun b => F b ∨ b = Dd) dk ts acc := S2.keepL k3 (S'.keepL (.of sm) rl)
        have hD3 : H3 Dd = some (.lst acc) := k3 _ _ (sm _ _ hDd) n1 n2
        cases b with
        | false =>
          refine iteF ?_
          exact ⟨hlt, acc, ts, d3, hD3, by omega, S2w, k13, rl3, P⟩
        | true =>
          refine iteT ?_
          have S33 := S3.keep k3 D3
          refine ⟨dk, _, G, en1, d3, S33, (Post.later (Post.noX (Ex' := E0) (Post.reF (Post.bind0 P))) k13).mono fun y d4 H4 k4 D4 P v rv => ?_⟩
          have hD4 : H4 Dd = some (.lst acc) := k4 _ _ hD3 n1 n2
          have S4w := S2w.keep k4 D4
          refine ⟨acc, hD4, by omega, hlt, acc ++ [v], ts ++ [y], d4, upd_same, by rw [List.length_append]; exact Nat.succ_le_succ hacc, S4w.mutH (.inr rfl) nG n1 n2, fun b o e q1 q2 => ?_, ?_, ?_⟩
          · rw [upd_ne (ne_of_none e hD)]
            exact k4 _ _ (k13 b o e q1 q2) q1 q2
          · refine RepL.mono (fun b o nf e => ⟨by rw [upd_ne (fun z => nf (.inr z))]; exact e, nf⟩) _ _ ((S2w.keepL k4 rl3).append (.cons rv .nil))
          · refine (Post.bind0 P).mono fun r d5 H5 k5 D5 h5 p xs rx hx hp => ?_
            rw [List.append_assoc] at rx
            exact h5 H5 k5 D5 p xs rx hx hp
    · have ei : i = l.length := by omega
      subst ei
      rw [List.drop_length] at P
      refine .inl ⟨hJ.stop _ H' hv, ?_⟩
      have nw : ∀ b o, b ≠ Dd → H' b = some o → without H' Dd b = some o := fun b o e h => by
        unfold without
        rw [if_neg e]
        exact h
      have hk : Keep dk H1 (without H' Dd) := fun b o e q1 q2 => nw b o (ne_of_none e hD) (k' b o e q1 q2)
      have hdk : DkAt W dk (without H' Dd) d' := by
        obtain ⟨z1, z2, z3⟩ := S'.deck
        exact ⟨z1, nw _ _ n2.symm z2, nw _ _ n1.symm z3⟩
      have := P (without H' Dd) hk hdk Dd acc (by
        rw [List.append_nil]
        exact RepL.mono (fun b o nf e => ⟨nw b o (fun z => nf (.inr z)) e, fun z => nf (.inl z)⟩) _ _ rl) (Nat.le_trans hacc hcap) (by unfold without; rw [if_pos rfl])
      rw [without_upd hDd] at this
      exact this
theorem tn_lc (hN : X.N.Nodup) (hi : PI X tg iter (tI W Ex fi)) (ok : BlkOk X.N X.env.scope scope own)
    (hg : ∀ (s : Shared) (H : Hp) (C : Addr) (cl : List (Str × Addr)) (fp : List Addr), PG (X.blk s H scope (compEnvC scope cl C X.env) fp) tg (tG W is a))
    (ht : ∀ (s : Shared) (H : Hp) (C : Addr) (cl : List (Str × Addr)) (fp : List Addr), PTs (X.blk s H scope (compEnvC scope cl C X.env) fp) ifs (tT W E0 fc))
    (he : ∀ (s : Shared) (H : Hp) (C : Addr) (cl : List (Str × Addr)) (fp : List Addr), PE (X.blk s H scope (compEnvC scope cl C X.env) fp) elt (tE W E0 f)) (his : ∀ j ∈ is, j ∈ own.map (·.2) := by decide) (hc : X.calm = true := by rfl)
    (hs : ∀ x, foldedSetIterable iter X.env x = pure x := by intro _; rfl) : PE X (.ListComp elt [⟨tg, iter, ifs, 0⟩] scope pos) (tN W Ex (xLc fi a (own.map (·.2)) fc f)) :=
  (pe_lc hc hN hi ok hg ht he hs).imp (lc_of his)
/-- name = [..], the name a local: kept (val), or one's own (own) -/
theorem ts_setLc {i : Nat} {y : Str} {py spos : Pos} (hN : X.N.Nodup) (hi : PI X tg iter (tI W Ex fi)) (ok : BlkOk X.N X.env.scope scope own)
    (hg : ∀ (s : Shared) (H : Hp) (C : Addr) (cl : List (Str × Addr)) (fp : List Addr), PG (X.blk s H scope (compEnvC scope cl C X.env) fp) tg (tG W is a))
    (ht : ∀ (s : Shared) (H : Hp) (C : Addr) (cl : List (Str × Addr)) (fp : List Addr), PTs (X.blk s H scope (compEnvC scope cl C X.env) fp) ifs (tT W E0 fc))
    (he : ∀ (s : Shared) (H : Hp) (C : Addr) (cl : List (Str × Addr)) (fp : List Addr), PE (X.blk s H scope (compEnvC scope cl C X.env) fp) elt (tE W E0 f)) (his : ∀ j ∈ is, j ∈ own.map (·.2) := by decide)
    (hy : X.N[i]? = some y := by rfl) (hyl : X.env.scope.names.lookup y = some .local := by rfl) (hsw : swapsWith (.ListComp elt [⟨tg, iter, ifs, 0⟩] scope pos) (some (.Name y py)) spos.line X.env = pure true := by exact sw_true rfl rfl rfl (by decide +kernel)) (hc : X.calm = true := by rfl)
    (hs : ∀ x, foldedSetIterable iter X.env x = pure x := by intro _; rfl) : PS X (.Assign [.Name y py] (.ListComp elt [⟨tg, iter, ifs, 0⟩] scope pos) spos) (tS W Ex (sAsg i (xToL (xLc fi a (own.map (·.2)) fc f)))) :=
  (ps_setLc hc hN hy hyl hsw hi ok hg ht he hs).imp fun D σ H ⟨dk, F0, H0, cp, en, d, ⟨F, G, R⟩, p⟩ => lc_of his _ _ _ (tE_of_tN _ _ _ (R.use p fun t d1 v H1 k1 R1 rv q => q _ _ ⟨F, G, R1.setVal rv⟩))
theorem ts_newLc {i : Nat} {y : Str} {py spos : Pos} (hN : X.N.Nodup) (hi : PI X tg iter (tI W Ex fi)) (ok : BlkOk X.N X.env.scope scope own)
    (hg : ∀ (s : Shared) (H : Hp) (C : Addr) (cl : List (Str × Addr)) (fp : List Addr), PG (X.blk s H scope (compEnvC scope cl C X.env) fp) tg (tG W is a))
    (ht : ∀ (s : Shared) (H : Hp) (C : Addr) (cl : List (Str × Addr)) (fp : List Addr), PTs (X.blk s H scope (compEnvC scope cl C X.env) fp) ifs (tT W E0 fc))
    (he : ∀ (s : Shared) (H : Hp) (C : Addr) (cl : List (Str × Addr)) (fp : List Addr), PE (X.blk s H scope (compEnvC scope cl C X.env) fp) elt (tE W E0 f)) (his : ∀ j ∈ is, j ∈ own.map (·.2) := by decide)
    (hy : X.N[i]? = some y := by rfl) (hyl : X.env.scope.names.lookup y = some .local := by rfl) (hsw : swapsWith (.ListComp elt [⟨tg, iter, ifs, 0⟩] scope pos) (some (.Name y py)) spos.line X.env = pure true := by exact sw_true rfl rfl rfl (by decide +kernel)) (hc : X.calm = true := by rfl)
    (hs : ∀ x, foldedSetIterable iter X.env x = pure x := by intro _; rfl) : PS X (.Assign [.Name y py] (.ListComp elt [⟨tg, iter, ifs, 0⟩] scope pos) spos) (tS W Ex (sNew i (xLc fi a (own.map (·.2)) fc f))) :=
  (ps_setLc hc hN hy hyl hsw hi ok hg ht he hs).imp fun D σ H ⟨dk, F0, H0, cp, en, d, ⟨F, G, R⟩, p⟩ => lc_of his _ _ _ (R.useN p fun l d1 a xs H1 R1 rl ha q => q _ _ ⟨_, _, R1.fresh ha ⟨xs, upd_same, RepL.mono (fun b o nf e => ⟨upd_same' ha b o e, fun z => z.elim nf (ne_of_none e ha)⟩) l xs rl⟩⟩)
end
end TL

/-! TLh: defs and their calls. -/
namespace TL
open PySem PySem.Spec PyProof.Rows L2

/-- a def's promise, by a function on trees -/
def spT (W : Wd) (n : Nat) (Fm : List T → M T) : Sp := fun vs H Q E => ∃ (dk : Dk) (F : Addr → Prop) (ts : List T) (d : D), vs.length = n ∧ RepL W H F dk ts vs ∧ (∀ a, F a → H a ≠ none) ∧ F dk.1 ∧ F dk.2 ∧ DkAt W dk H d ∧
  Post W E F dk H (fun t d' H' => ∀ v, Rep W H' F dk t v → Q v H') (Fm ts d)
/-- the def at f does what Fm says, called where no repr runs -/
structure FnT (W : Wd) (P : Program) (w : World) (mg : Str → Option Value) (base : Heap) (CX : CXT) (k : Nat) (f : Addr) (fd : FuncData) (ps : List Str) (Fm : List T → M T) : Prop where
  run : ∀ (A : Around) (outer : List Env) (s : Shared) (H : Hp) (args : Args) (us : List Value) (vs : List V) (Q : VK) (E : XK), A.guards = some [] → Room k A → Env0 P w W.K mg base A outer s H → BindsTo s fd args (ps.zip us) → Vals vs us →
    spT W ps.length Fm vs H Q E → codeAny (model P w) A (.call (.ref f) args) (CR CX outer P w H s Q E) s
theorem FnT.mono {W : Wd} {P : Program} {w : World} {mg : Str → Option Value} {base : Heap} {CX : CXT} {j k : Nat} {f : Addr} {fd : FuncData} {ps : List Str} {Fm : List T → M T} (h : FnT W P w mg base CX j f fd ps Fm) (hk : j ≤ k) : FnT W P w mg base CX k f fd ps Fm :=
  ⟨fun A outer s H args us vs Q E hg hr => h.run A outer s H args us vs Q E hg (hr.mono hk)⟩
def startE (n : Nat) (ts : List T) : En := ts.map Sl.val ++ List.replicate (n - ts.length) .no
def retM : Fl × En → M T
  | (.ret t, _) => .pure t
  | (.nx, _) => .pure .non
  | _ => .bad
def fnM (n : Nat) (g : En → MS) : List T → M T := fun ts => (g (startE n ts)).noX.bind retM
section
variable {W : Wd} {dk : Dk} {F : Addr → Prop} {H : Hp} {d : D}
theorem SR.start {n : Nat} {N : List Str} {ts : List T} {vs : List V} (hN : N.length = n) (r : RepL W H F dk ts vs) (fh : ∀ a, F a → H a ≠ none) (f1 : F dk.1) (f2 : F dk.2) (hd : DkAt W dk H d) : SR W dk F (fun _ => False) (start N vs) H (startE n ts) d := by
  have hl := r.length
  refine ⟨?_, fun i t e => ?_, fun i o e => ?_, fun i j o o' p e => ?_, fun _ z => z.elim, fun _ z => z.elim, fh, f1, f2, hd⟩
  · unfold L2.start startE
    rw [List.length_append, List.length_append, List.length_map, List.length_map, List.length_replicate, List.length_replicate, hl, hN]
  · unfold startE at e
    by_cases h : i < ts.length
    · rw [List.getElem?_append_left (by simpa using h), List.getElem?_map] at e
      cases q : ts[i]? with
      | none =>
        rw [q] at e
        cases e
      | some u =>
        rw [q] at e
        cases e
        obtain ⟨v, hv, rv⟩ := r.get q
        refine ⟨v, ?_, rv⟩
        unfold L2.start
        rw [List.getElem?_append_left (by rw [List.length_map, hl]; exact h), List.getElem?_map, hv]
        rfl
    · rw [List.getElem?_append_right (by simpa using h), List.getElem?_replicate] at e
      split at e <;> cases e
  all_goals
    unfold startE at e
    by_cases h : i < ts.length
    · rw [List.getElem?_append_left (by simpa using h), List.getElem?_map] at e
      cases q : ts[i]? with
      | none =>
        rw [q] at e
        cases e
      | some u =>
        rw [q] at e
        cases e
    · rw [List.getElem?_append_right (by simpa using h), List.getElem?_replicate] at e
      split at e <;> cases e
end
section
variable {W : Wd} {P : Program} {w : World} {mg : Str → Option Value} {base : Heap}
/-- any promise of a def, by its body, called where no repr runs; nothing is raised -/
theorem fg_of {x qual : Str} {st : Stmt} {f : Addr} {fd : FuncData} {N ps : List Str} {k : Nat} {CX : CXT} {sp : Sp} {K : PySem.W.Frag} (Fd : Fun K x qual st f fd) (S : FnScope N ps (defScope st)) (hlen : ∀ vs H Q E, sp vs H Q E → vs.length = ps.length)
    (hbody : ∀ (cdv : Value) (A : Around) (outer : List Env) (s : Shared) (H : Hp) (vs : List V) (Q : VK) (E : XK), A.guards = some [] → Room k (A.deeper (envOfC qual (defScope st) s.heap.objs.size f cdv)) → sp vs H Q E →
      ∃ t, PSs (cxOf CX P w K mg base N qual (defScope st) f cdv A outer s H E).nox (defBody st) t ∧ t { nx := fun _ H' => Q .non H', rt := Q } (start N vs) H)
    (A : Around) (outer : List Env) (s : Shared) (H : Hp) (args : Args) (us : List Value) (vs : List V) (Q : VK) (E : XK) (hg : A.guards = some []) (hr : Room (k + 1) A) (env : Env0 P w K mg base A outer s H) (hb : BindsTo s fd args (ps.zip us)) (rv : Vals vs us)
    (hsp : sp vs H Q E) : codeAny (model P w) A (.call (.ref f) args) (CR CX outer P w H s Q E) s := by
  obtain ⟨oc, od, kV, doc, pm, an, cdv, ct, osl, rfl, look, hcode⟩ := Fd.ex
  have kin : K.In s.heap := env.mod.kin.keeps fun b o e => (env.bs b o e).1
  have noLim : s.heap.NoLimit := env.mod.nolimit.keeps fun b o e => (env.bs b o e).1
  refine codeAny_call_function hr.depth (kin _ _ look) rfl S.co S.gen rfl (PySem.W.codeRec_of kin hcode) (hb _ _ _ _ ?_)
  refine wpAny_newFunctionEnv_cells S.kind (fun y hy => ?_) fun fe he s1 ic => ?_
  · obtain ⟨nm, v⟩ := y
    rcases S.par nm (List.of_mem_zip hy).1 with z | z
    · exact .inl z
    · exact .inr ⟨z, PySem.W.cellsFrom_some _ _ _ (.inl z)⟩
  subst he
  refine ⟨noLim.keeps ic.toInCall.keep, codeAny_func ?_⟩
  obtain ⟨t, body, run0⟩ := hbody cdv A outer s H vs Q E hg (hr.deeper _) hsp
  have I := inv_start (CX := CX) (E := E) S hr.hd env (hlen _ _ _ _ hsp) rv ic
  refine wpAny_mono (body.nox.run [] s1 (start N vs) H _ I run0) (fun fl s' hs => ?_) fun _ _ z => z
  cases fl with
  | ret u =>
    obtain ⟨v, σ', H', J, r', q⟩ := hs
    exact ⟨v, H', J.os, J.bare, J.base, J.hok, r', q⟩
  | next =>
    obtain ⟨σ', H', J, q⟩ := hs
    exact ⟨.non, H', J.os, J.bare, J.base, J.hok, rfl, q⟩
  | brk =>
    obtain ⟨_, _, _, q⟩ := hs
    exact q.elim
  | cont =>
    obtain ⟨_, _, _, q⟩ := hs
    exact q.elim
theorem spT_len {n : Nat} {Fm : List T → M T} : ∀ vs H Q E, spT W n Fm vs H Q E → vs.length = n := fun _ _ _ _ ⟨_, _, _, _, h, _⟩ => h
/-- .. by a function on trees -/
theorem ft_raw {x qual : Str} {st : Stmt} {f : Addr} {fd : FuncData} {N ps : List Str} {k : Nat} {CX : CXT} {Fm : List T → M T} (Fd : Fun W.K x qual st f fd) (S : FnScope N ps (defScope st))
    (hbody : ∀ (cdv : Value) (A : Around) (outer : List Env) (s : Shared) (H : Hp) (vs : List V) (Q : VK) (E : XK), A.guards = some [] → Room k (A.deeper (envOfC qual (defScope st) s.heap.objs.size f cdv)) → spT W ps.length Fm vs H Q E →
      ∃ t, PSs (cxOf CX P w W.K mg base N qual (defScope st) f cdv A outer s H E).nox (defBody st) t ∧ t { nx := fun _ H' => Q .non H', rt := Q } (start N vs) H) : FnT W P w mg base CX (k + 1) f fd ps Fm :=
  ⟨fun A outer s H args us vs Q E hg hr env hb rv hsp => fg_of Fd S spT_len hbody A outer s H args us vs Q E hg hr env hb rv hsp⟩
/-- the body's run, from the entry -/
theorem run_start {n : Nat} {N : List Str} {g : En → MS} {ts : List T} {vs : List V} {H : Hp} {F : Addr → Prop} {dk : Dk} {d : D} {E : XK} {Q : VK} (hN : N.length = n) (rl : RepL W H F dk ts vs) (fh : ∀ a, F a → H a ≠ none) (f1 : F dk.1) (f2 : F dk.2) (hd : DkAt W dk H d)
    (P0 : Post W E F dk H (fun t d' H' => ∀ v, Rep W H' F dk t v → Q v H') (fnM n g ts d)) : tS W E0 g { nx := fun _ H' => Q .non H', rt := Q } (start N vs) H := by
  refine ⟨dk, F, H, [], startE n ts, d, ⟨F, _, SR.start hN rl fh f1 f2 hd, fun _ z => z, fun _ z => z.elim, .refl _ _, (fun c hc => nomatch hc), fh⟩, ?_⟩
  have P1 := Post.bind0 P0
  unfold M.noX at P1
  cases e : g (startE n ts) d with
  | bad =>
    rw [e] at P1
    exact P1.elim
  | exc xx d1 =>
    rw [e] at P1
    exact P1.elim
  | ok r d1 =>
    rw [e] at P1
    obtain ⟨fl, en1⟩ := r
    cases fl with
    | nx =>
      intro σ1 H1 R1
      obtain ⟨F1, G1, R1⟩ := R1
      exact P1 H1 R1.kp R1.s.deck H1 R1.kp R1.s.deck .non (by simp only [Rep])
    | ret t => exact fun v H1 k1 D1 rt => P1 H1 k1 D1 H1 k1 D1 v rt
    | brk =>
      intro σ1 H1 R1
      obtain ⟨F1, G1, R1⟩ := R1
      exact (P1 H1 R1.kp R1.s.deck).elim
    | ct =>
      intro σ1 H1 R1
      obtain ⟨F1, G1, R1⟩ := R1
      exact (P1 H1 R1.kp R1.s.deck).elim
/-- a def by its body's function -/
theorem ft_of {x qual : Str} {st : Stmt} {f : Addr} {fd : FuncData} {N ps : List Str} {k n : Nat} {g : En → MS} {CX : CXT} (Fd : Fun W.K x qual st f fd) (S : FnScope N ps (defScope st)) (hn : N.length = n)
    (hbody : ∀ (cdv : Value) (A : Around) (outer : List Env) (s : Shared) (H : Hp) (E : XK), A.guards = some [] → Room k (A.deeper (envOfC qual (defScope st) s.heap.objs.size f cdv)) →
      PSs (cxOf CX P w W.K mg base N qual (defScope st) f cdv A outer s H E).nox (defBody st) (tS W E0 g)) : FnT W P w mg base CX (k + 1) f fd ps (fnM n g) :=
  ft_raw Fd S fun cdv A outer s H vs Q E hg hr hsp => by
    obtain ⟨dk, F, ts, d, hlen, rl, fh, f1, f2, hd, P0⟩ := hsp
    exact ⟨_, hbody cdv A outer s H E hg hr, run_start hn rl fh f1 f2 hd P0⟩
end

/-! ### calls -/
def xFn (Fm : List T → M T) (fl : En → M (List T)) : En → M T := fun en => (fl en).bind Fm
def perm {α : Type} (is : List Nat) (l : List α) : List α := is.filterMap fun i => l[i]?
theorem perm_vals {is : List Nat} {vs : List V} {us : List Value} (r : Vals vs us) : Vals (perm is vs) (perm is us) := by
  induction is with
  | nil => exact .nil
  | cons i is ih =>
    unfold perm at ih ⊢
    rw [List.filterMap_cons, List.filterMap_cons]
    cases e : vs[i]? with
    | none =>
      rw [r.none_of e]
      exact ih
    | some v =>
      obtain ⟨u, hu, ru⟩ := r.get e
      rw [hu]
      exact .cons ru ih
theorem perm_rep {W : Wd} {H : Hp} {F : Addr → Prop} {dk : Dk} {is : List Nat} {ts : List T} {vs : List V} (r : RepL W H F dk ts vs) : RepL W H F dk (perm is ts) (perm is vs) := by
  induction is with
  | nil => exact .nil
  | cons i is ih =>
    unfold perm at ih ⊢
    rw [List.filterMap_cons, List.filterMap_cons]
    cases e : ts[i]? with
    | none =>
      have : vs[i]? = none := by
        rw [List.getElem?_eq_none_iff] at e ⊢
        rw [r.length]
        exact e
      rw [this]
      exact ih
    | some t =>
      obtain ⟨v, hv, rv⟩ := r.get e
      rw [hv]
      exact .cons rv ih
section
variable {W : Wd} {Ex : XK} {X : Cx} {CX : CXT} {k : Nat} {f : Addr} {fd : FuncData} {ps ks : List Str} {Fm : List T → M T} {x : Str} {p pos kpos : Pos} {e : Expr} {es : List Expr} {fe : En → M T} {fl gl : En → M (List T)} {kws : List Keyword} {nm : Option Str} {is : List Nat}
theorem spT_of {dk : Dk} {F G : Addr → Prop} {σ : L2.St} {H : Hp} {en : En} {d : D} {ts : List T} {vs : List V} {Q : VK} {n : Nat} (S : SR W dk F G σ H en d) (r : RepL W H F dk ts vs) (hn : vs.length = n) (h : Post W Ex F dk H (fun t d' H' => ∀ v, Rep W H' F dk t v → Q v H') (Fm ts d)) :
    spT W n Fm vs H Q Ex := ⟨dk, F, ts, d, hn, r, S.fh, S.fd1, S.fd2, S.deck, h⟩
theorem run_ft {pins : List (Addr × Obj)} {σ : L2.St} {H : Hp} {s : Shared} {Q : VK} {us : List Value} {kw : List (Str × Value)} {bs : List Value} {ws : List V} (hF : FnT W X.prog X.w X.mg X.base CX k f fd ps Fm) (hK : W.K = X.K) (hgd : X.A.guards = some []) (hr : Room k X.A) (hx : Passes CX X Ex)
    (I : L2.Inv X pins σ H s) (hb : BindsTo s fd ⟨us, kw⟩ (ps.zip bs)) (r : Vals ws bs) (h : spT W ps.length Fm ws H Q Ex) : wpAny (model X.prog X.w) X.A (call (.ref f) us kw) (EP X pins σ Q) X.xe s := by
  have e0 : Env0 X.prog X.w W.K X.mg X.base X.A X.stack s H := by
    rw [hK]
    exact I.env0
  refine wpAny_call (codeAny_mono (hF.run X.A X.stack s H ⟨us, kw⟩ bs ws Q Ex hgd hr e0 hb r h) fun o s' hq => ?_)
  cases o with
  | error er => exact hx pins σ H s er s' I hq
  | ok fl =>
    cases fl with
    | ret u => exact I.after hq
    | next => exact False.elim hq
    | brk => exact False.elim hq
    | cont => exact False.elim hq
/-- f(e, ..) -/
theorem te_call (hF : FnT W X.prog X.w X.mg X.base CX k f fd ps Fm) (hK : W.K = X.K) (hgd : X.A.guards = some []) (hr : Room k X.A) (hg : Gl X x) (hm : X.mg x = some (.ref f)) (hk : PySem.W.keepIn X.K (.ref f) = true) (hb : Binds X.K fd ps []) (hx : Passes CX X Ex)
    (ha : PA X (e :: es) (tA W Ex fl)) (hlen : (e :: es).length = ps.length := by rfl) (hfl : ∀ en d l d', fl en d = .ok l d' → l.length = ps.length) (hdb : (x == ("__debug__" : Str)) = false := by decide) (he : starEach (e :: es) X.env = (false, eval e X.env) :: starEach es X.env := by rfl) (hpl : (backTo pos (starEach es X.env)).any (·.1) = false := by rfl) :
    PE X (.Call (.Name x p) (e :: es) [] pos) (tE W Ex (xFn Fm fl)) := by
  constructor
  intro pins s σ H Q I h
  obtain ⟨dk, F, G, en, d, S, h⟩ := h
  refine wpAny_Call_Name_kw (ld_glob I hg hm ?_ hdb)
  refine PySem.W.callWith_K (h₀ := X.base) I.ok.mod.kin hk (thn (ha.run pos pins s σ H (fun vs H1 => spT W ps.length Fm vs H1 Q Ex) I ⟨dk, F, G, en, d, S, ?_⟩) fun us s1 ⟨vs, H1, I1, r, q⟩ => ⟨I1.kIn, ?_⟩) he hpl
  · have P1 := Post.bind h
    cases q : fl en d with
    | bad =>
      rw [q] at P1
      exact P1.elim
    | exc xx d1 =>
      rw [q] at P1
      exact P1
    | ok l d1 =>
      rw [q] at P1
      exact fun H1 k1 D1 xs rl => spT_of (S.keep k1 D1) rl (by rw [rl.length]; exact hfl _ _ _ _ q) (P1 H1 k1 D1)
  · have hl : vs.length = ps.length := by
      obtain ⟨_, _, _, _, hl, _⟩ := q
      exact hl
    have b := hb s1 us I1.kIn (by rw [List.append_nil, ← r.length]; exact hl)
    rw [List.append_nil] at b
    exact run_ft hF hK hgd hr hx I1 b r q
theorem tk_nil : PK X [] (tA W Ex xNil) := ⟨fun pos pins s σ H Q I h => pk_nil.run pos pins s σ H Q I (by
  obtain ⟨dk, F, G, en, d, S, h⟩ := h
  exact h H (.refl _ _) S.deck [] .nil)⟩
theorem tk_cons (ha : PE X e (tE W Ex fe)) (hr : PK X kws (tA W Ex gl)) : PK X (⟨nm, e, kpos⟩ :: kws) (tA W Ex (xCons fe gl)) := ⟨fun pos pins s σ H Q I h => (pk_cons ha hr).run pos pins s σ H Q I (by
  obtain ⟨dk, F, G, en, d, S, h⟩ := h
  refine ⟨dk, F, G, en, d, S, (Post.bind h).mono fun t d1 H1 k1 D1 h1 v rv => ?_⟩
  have S1 := S.keep k1 D1
  refine ⟨dk, F, G, en, d1, S1, (Post.bind h1).mono fun l d2 H2 k2 D2 h2 xs rl => ?_⟩
  exact h2 H2 (.refl _ _) D2 _ (.cons (S1.keepR k2 rv) rl))⟩
/-- f(k = v, ..): is puts the values in the parameters' order -/
theorem te_callK (hF : FnT W X.prog X.w X.mg X.base CX k f fd ps Fm) (hK : W.K = X.K) (hgd : X.A.guards = some []) (hr : Room k X.A) (hg : Gl X x) (hm : X.mg x = some (.ref f)) (hk : PySem.W.keepIn X.K (.ref f) = true)
    (hb : ∀ (s : Shared) (ws : List Value), ws.length = ks.length → BindsTo s fd ⟨[], ks.zip ws⟩ (ps.zip (perm is ws))) (hx : Passes CX X Ex)
    (ha : PK X kws (tA W Ex fl)) (hfl : ∀ en d l d', fl en d = .ok l d' → l.length = ks.length) (hpm : ∀ {α : Type} (l : List α), l.length = ks.length → (perm is l).length = ps.length)
    (hall : (backToKw pos (keywordEach kws X.env)).all (·.1.isSome) = true := by rfl) (hks : (backToKw pos (keywordEach kws X.env)).filterMap (·.1) = ks := by rfl)
    (hpl : (backToKw pos (keywordEach kws X.env)).any (·.1.isNone) = false := by rfl) (hdb : (x == ("__debug__" : Str)) = false := by decide) :
    PE X (.Call (.Name x p) [] kws pos) (tE W Ex (xFn (fun l => Fm (perm is l)) fl)) := by
  constructor
  intro pins s σ H Q I h
  obtain ⟨dk, F, G, en, d, S, h⟩ := h
  refine wpAny_Call_Name_kw (ld_glob I hg hm ?_ hdb)
  refine PySem.W.callWith_KW0 (h₀ := X.base) I.ok.mod.kin hk hall (thn (ha.run pos pins s σ H (fun vs H1 => vs.length = ks.length ∧ spT W ps.length Fm (perm is vs) H1 Q Ex) I ⟨dk, F, G, en, d, S, ?_⟩) fun us s1 ⟨vs, H1, I1, r, q⟩ => ⟨I1.kIn, ?_⟩) hpl
  · have P1 := Post.bind h
    cases q : fl en d with
    | bad =>
      rw [q] at P1
      exact P1.elim
    | exc xx d1 =>
      rw [q] at P1
      exact P1
    | ok l d1 =>
      rw [q] at P1
      intro H1 k1 D1 xs rl
      have hl : xs.length = ks.length := by rw [rl.length]; exact hfl _ _ _ _ q
      exact ⟨hl, spT_of (S.keep k1 D1) (perm_rep rl) (hpm xs hl) (P1 H1 k1 D1)⟩
  · rw [hks]
    exact run_ft hF hK hgd hr hx I1 (hb s1 us (by rw [← r.length]; exact q.1)) (perm_vals r) q.2
end
end TL

/-! TLi: range, enumerate; isinstance, join; two targets. -/
namespace TL
open PySem PySem.Spec PyProof.Rows L2

/-! ### range -/
def ints? : List T → Option (List Int)
  | [] => some []
  | .int i :: l => (ints? l).map (i :: ·)
  | _ => none
def upI (lo : Int) (n : Nat) : List T := (List.range n).map fun (k : Nat) => .int (lo + (k : Int))
def rng1 : List T → Option (List T)
  | [.int j] => if -(2 ^ 62) ≤ j ∧ j < 2 ^ 62 then some (upI 0 j.toNat) else none
  | _ => none
def rng2 : List T → Option (List T)
  | [.int i, .int j] => if -(2 ^ 62) ≤ i ∧ i < 2 ^ 62 ∧ -(2 ^ 62) ≤ j ∧ j < 2 ^ 62 then some (upI i (j - i).toNat) else none
  | _ => none
def xIt (op : List T → Option (List T)) (fl : En → M (List T)) : En → M (List T) := fun en => (fl en).bind fun l => .opt (op l)
section
variable {W : Wd} {Ex : XK} {X : Cx} {tg e a b : Expr} {es : List Expr} {f : En → M T} {fl : En → M (List T)} {dk : Dk} {H : Hp} {F : Addr → Prop} {p pos : Pos}
theorem upI_get {lo : Int} {n i : Nat} (h : i < n) : (upI lo n)[i]? = some (.int (lo + (i : Int))) := by
  unfold upI
  rw [List.getElem?_map, List.getElem?_range h]
  rfl
theorem itOk_rng {lo : Int} {n : Nat} : ItOk W dk (H, F) (Itr lo n) (upI lo n) where
  go := fun i F' H' v hi => by
    have h : i < n := by simpa [upI] using hi
    exact h
  stop := fun F' H' v => by
    show n ≤ (upI lo n).length
    simp [upI]
  yld := fun i F' H' x H'' v _ hi y => by
    obtain ⟨rfl, rfl⟩ := y
    have h : i < n := by simpa [upI] using hi
    exact ⟨.refl _, _, upI_get h, rep_int⟩
theorem ti_rng1 (hg : Gl X "range") (hm : X.mg "range" = none) (ha : PA X [a] (tA W Ex fl)) (hs : starEach [a] X.env = [(false, eval a X.env)] := by rfl) : PI X tg (.Call (.Name "range" p) [a] [] pos) (tI W Ex (xIt rng1 fl)) :=
  (pi_range1 hg hm ha hs).imp fun σ H R ⟨dk, F, G, en, d, S, h⟩ => by
    refine ⟨dk, F, G, en, d, S, (Post.bind h).mono fun l d1 H1 k1 D1 h1 xs rl => ?_⟩
    obtain ⟨z, e, q⟩ := Post.opt_some h1
    unfold rng1 at e
    split at e
    · split at e
      · rename_i hb
        cases e
        obtain ⟨x, rfl, rx⟩ := rl.one_inv
        simp only [Rep] at rx
        exact ⟨_, by rw [rx], hb.1, hb.2, q H1 (.refl _ _) D1 _ itOk_rng⟩
      · cases e
    · cases e
theorem ti_rng2 (hg : Gl X "range") (hm : X.mg "range" = none) (ha : PA X [a, b] (tA W Ex fl)) (hs : starEach [a, b] X.env = [(false, eval a X.env), (false, eval b X.env)] := by rfl) (hs2 : starEach [b] X.env = [(false, eval b X.env)] := by rfl) : PI X tg (.Call (.Name "range" p) [a, b] [] pos) (tI W Ex (xIt rng2 fl)) :=
  (pi_range2 hg hm ha hs hs2).imp fun σ H R ⟨dk, F, G, en, d, S, h⟩ => by
    refine ⟨dk, F, G, en, d, S, (Post.bind h).mono fun l d1 H1 k1 D1 h1 xs rl => ?_⟩
    obtain ⟨z, e, q⟩ := Post.opt_some h1
    unfold rng2 at e
    split at e
    · split at e
      · rename_i hb
        cases e
        obtain ⟨x, y, rfl, rx, ry⟩ := rl.two_inv
        simp only [Rep] at rx ry
        exact ⟨_, _, by rw [rx, ry], hb, q H1 (.refl _ _) D1 _ itOk_rng⟩
      · cases e
    · cases e
end

/-! ### enumerate -/
def seqO (tp : Bool) (xs : List V) : HO := if tp = true then .tup xs else .lst xs
def IterAt (tp : Bool) (h : Heap) (it a : Addr) (i : Nat) : Prop := if tp = true then h.IsTupleIter it a i else h.IsListIter it a i
def SrcAt (tp : Bool) (h : Heap) (a : Addr) (items : Array Value) : Prop := if tp = true then h.IsTuple a items else h.IsList a items
def IteC (tp : Bool) (c : Int) (a : Addr) : It :=
  ⟨fun i H => ∃ xs x, H a = some (seqO tp xs) ∧ xs[i]? = some x, fun i H v H' => ∃ q x, v = .ref q ∧ H q = none ∧ H' = upd H q (.tup [.int (c + (i : Nat)), x]) ∧ ∀ xs, H a = some (seqO tp xs) → xs[i]? = some x, fun i H => ∃ xs, H a = some (seqO tp xs) ∧ xs.length = i⟩
section
variable {P : Program} {w : World}
theorem srcDraws (tp : Bool) {A : Around} (hh : A.handled = none) (it a : Addr) (hne : a ≠ it) (items : Array Value) : Draws P w A it [it, a] items.size (fun i v => items[i]? = some v) (fun i h => IterAt tp h it a i ∧ SrcAt tp h a items) := by
  cases tp
  · exact Draws.list hh it a hne items
  · exact Draws.tuple hh it a hne items
theorem iterAt_obj {tp : Bool} {h : Heap} {it a : Addr} {i : Nat} (st : IterAt tp h it a i) : ∃ o, h.get? it = some o ∧ ∀ v, o.data ≠ .cell v := by
  cases tp <;> (obtain ⟨o, ho, hc, hd⟩ := st; exact ⟨o, ho, fun v q => by rw [hd] at q; cases q⟩)
theorem iterAt_keep {tp : Bool} {h h' : Heap} {it a : Addr} {i : Nat} (st : IterAt tp h it a i) (k : ∀ o, h.get? it = some o → h'.get? it = some o) : IterAt tp h' it a i := by
  cases tp
  · exact Heap.IsListIter.at (h := h) st k
  · exact Heap.IsTupleIter.at (h := h) st k
theorem srcAt_of {X : Cx} {pins : List (Addr × Obj)} {σ : L2.St} {H : Hp} {s : Shared} {tp : Bool} {a : Addr} {xs : List V} (I : L2.Inv X pins σ H s) (h : H a = some (seqO tp xs)) : ∃ its : List Value, Vals xs its ∧ SrcAt tp s.heap a its.toArray := by
  cases tp
  · obtain ⟨its, r, q, _⟩ := I.list (.of h)
    exact ⟨its, r, q.isList⟩
  · obtain ⟨its, r, q, _⟩ := I.tuple (.of h)
    obtain ⟨o, ho, hc, n, hd⟩ := q
    exact ⟨its, r, ⟨o, ho, hc, n, hd⟩⟩
theorem seqO_inj {tp : Bool} {xs ys : List V} (h : seqO tp xs = seqO tp ys) : xs = ys := by
  cases tp <;> (injection h)
theorem turn_enumC {K : PySem.W.Frag} {elts : List Expr} {kk : Nat} {tpos : Pos} (tp : Bool) (c : Int) (a e it : Addr) (hai : a ≠ it) (hei : e ≠ it) :
    Turn P w K (.Tuple elts kk tpos) (IteC tp c a) [e, it] e (fun i h => (∃ old, IsEnum h e it (c + (i : Int)) old) ∧ IterAt tp h it a i) where
  mem := List.mem_cons_self
  obj := fun i h st b hb => by
    obtain ⟨⟨old, he⟩, hi⟩ := st
    rcases List.mem_cons.mp hb with rfl | hb
    · exact ⟨_, he, fun v q => nomatch q⟩
    · rw [List.mem_singleton.mp hb]
      exact iterAt_obj hi
  keep := fun i h h' st k => by
    obtain ⟨⟨old, he⟩, hi⟩ := st
    exact ⟨⟨old, k e List.mem_cons_self _ he⟩, iterAt_keep hi fun o q => k it (List.mem_cons_of_mem _ List.mem_cons_self) o q⟩
  item := by
    intro X hP hw hK hc i pins s σ H E I hf st hg
    subst hP hw hK
    obtain ⟨⟨old, he⟩, hit⟩ := st
    obtain ⟨xs, x, hq, hx⟩ := hg
    obtain ⟨its, rv, src⟩ := srcAt_of I hq
    obtain ⟨u, hu, ru⟩ := rv.get hx
    have hin : i < its.toArray.size := by
      have := (List.getElem?_eq_some_iff.mp hu).1
      simpa using this
    have e0 : H e = none := (hf e List.mem_cons_self).1
    have hea : e ≠ a := fun z => by
      rw [z, hq] at e0
      cases e0
    have hel : e < s.heap.objs.size := Heap.lt_size he
    obtain ⟨oi, hoi, _⟩ := iterAt_obj hit
    have hil : it < s.heap.objs.size := Heap.lt_size hoi
    refine wpAny_pyNext_enum_itemC (srcDraws tp (A := X.A.in1) (I.ok.hd hc) it a hai its.toArray) he ⟨hit, src⟩ hin hei (by simp [hei, hea]) fun y h' tk hy ho hst hT hsz hk => ?_
    have ey : y = u := by
      rw [List.getElem?_toArray, hu] at hy
      exact (Option.some.inj hy).symm
    subst ey
    refine ⟨_, rfl, wpAny_letOwnedTupleGo_enum (s := { s with heap := h', toks := tk + 1 }) ho fun h2 he2 sb => ?_⟩
    have hT2 : h2.get? s.heap.objs.size = some { cls := .type "tuple", data := .seq #[.int (c + (i : Int)) tk, y] } := (sb.2 _ (Nat.ne_of_gt hel)).trans hT
    have new : ObjOk X.prog X.w (upd H s.heap.objs.size (.tup [.int (c + (i : Nat)), x])) h2 s.heap.objs.size (.tup [.int (c + (i : Nat)), x]) :=
      ⟨by show 2 ≤ sizeLine; decide, [.int (c + (i : Int)) tk, y], .cons ⟨_, rfl⟩ (.cons ru .nil), ⟨_, hT2, rfl, _, rfl⟩⟩
    have I1 := I.turnedNew (t' := tk + 1) (ch := [e, it]) (fun b ob hb q => (sb.2 b (fun z => hb (by simp [z]))).trans (hk b ob (fun z => hb (by simp [z])) (fun z => hb (by simp [z])) q)) hf (Nat.le_refl _) new
    refine ⟨.ref s.heap.objs.size, _, I1, rfl, ⟨_, x, rfl, I.hok.fresh (Nat.le_refl _), rfl, fun ys hy => ?_⟩, ⟨⟨y, ?_⟩, iterAt_keep hst.1 fun o q => (sb.2 it (Ne.symm hei)).trans q⟩, fun b hb => ?_⟩
    · rw [hq] at hy
      rw [← seqO_inj (Option.some.inj hy)]
      exact hx
    · have e1 : c + ((i + 1 : Nat) : Int) = c + (i : Int) + 1 := by omega
      rw [e1]
      exact he2
    · have hb' : b < s.heap.objs.size := by
        rcases List.mem_cons.mp hb with rfl | hb
        · exact hel
        · rw [List.mem_singleton.mp hb]
          exact hil
      rw [upd_ne (Nat.ne_of_lt hb')]
      exact (hf b hb).1
  done := by
    intro X hP hw hK hc i pins s σ H E I hf st hg
    subst hP hw hK
    obtain ⟨⟨old, he⟩, hit⟩ := st
    obtain ⟨xs, hq, hx⟩ := hg
    obtain ⟨its, rv, src⟩ := srcAt_of I hq
    obtain ⟨f0, f1, f2, f3, f4, f5⟩ := hf it (List.mem_cons_of_mem _ List.mem_cons_self)
    have hn : its.toArray.size = i := by
      rw [List.size_toArray, ← rv.length]
      exact hx
    subst hn
    exact wpAny_pyNext_enum_endD (srcDraws tp (A := X.A.in1) (I.ok.hd hc) it a hai its.toArray) he ⟨hit, src⟩ fun h' eb => ⟨rfl, I.turned (t' := s.toks) (fun b o hb q => eb b o hb q) f0 f1 f3 f4 f5⟩
  self := fun A i s Q E st h => by
    obtain ⟨⟨_, he⟩, _⟩ := st
    exact wpAny_pyIter_enum he h
end
/-- the items of enumerate: new pairs -/
def enumL (c : Int) : List T → List T
  | [] => []
  | t :: l => .tup [.int c, t] :: enumL (c + 1) l
theorem enumL_length : ∀ (l : List T) (c : Int), (enumL c l).length = l.length
  | [], _ => rfl
  | t :: l, c => congrArg Nat.succ (enumL_length l (c + 1))
theorem enumL_get : ∀ (l : List T) (c : Int) (i : Nat), (enumL c l)[i]? = (l[i]?).map fun t => T.tup [.int (c + (i : Int)), t]
  | [], _, _ => rfl
  | t :: l, c, 0 => by
    show some (T.tup [.int c, t]) = some (T.tup [.int (c + ((0 : Nat) : Int)), t])
    rw [show c + ((0 : Nat) : Int) = c by omega]
  | t :: l, c, i + 1 => by
    show (enumL (c + 1) l)[i]? = _
    rw [enumL_get l (c + 1) i, show c + 1 + (i : Int) = c + ((i + 1 : Nat) : Int) by omega]
    rfl
def isTup : T → Bool
  | .tup _ => true
  | _ => false
/-- enumerate(x), enumerate(x, c), enumerate(x, start=c): a list or a tuple -/
def enu : List T → Option (List T)
  | [.lst l] => some (enumL 0 l)
  | [.tup l] => some (enumL 0 l)
  | [.lst l, .int c] => if -(2 ^ 63) ≤ c ∧ c < 2 ^ 63 then some (enumL c l) else none
  | [.tup l, .int c] => if -(2 ^ 63) ≤ c ∧ c < 2 ^ 63 then some (enumL c l) else none
  | _ => none
section
variable {W : Wd} {Ex : XK} {X : Cx} {e b : Expr} {es elts : List Expr} {f : En → M T} {fl gl : En → M (List T)} {dk : Dk} {H : Hp} {F : Addr → Prop} {p pos tpos : Pos} {kk : Nat} {kws : List Keyword}
theorem itOk_enum {tp : Bool} {c : Int} {a : Addr} {xs : List V} {l : List T} (nf : ¬ F a) (h : H a = some (seqO tp xs)) (r : RepL W H F dk l xs) : ItOk W dk (H, F) (IteC tp c a) (enumL c l) where
  go := fun i F' H' v hi => by
    rw [enumL_length] at hi
    obtain ⟨x, hx, _⟩ := r.get (List.getElem?_eq_getElem hi)
    exact ⟨xs, x, (v a _ h nf).1, hx⟩
  stop := fun F' H' v => ⟨xs, (v a _ h nf).1, by rw [enumL_length]; exact r.length⟩
  yld := fun i F' H' x H'' v fh hi y => by
    rw [enumL_length] at hi
    obtain ⟨q, z, rfl, hq, rfl, hz⟩ := y
    have e := hz xs (v a _ h nf).1
    obtain ⟨x', hx, rx⟩ := (v.repL r).get (List.getElem?_eq_getElem hi)
    rw [hx] at e
    cases e
    refine ⟨upd_same' hq, _, by rw [enumL_get, List.getElem?_eq_getElem hi]; rfl, ?_⟩
    exact rep_tup (fun p hp z => fh p z hp) hq (.cons rep_int (.cons rx .nil))
/-- the source of enumerate -/
def enuS : T → Option (Bool × List T)
  | .lst l => some (false, l)
  | .tup l => some (true, l)
  | _ => none
theorem enuS_rep {t : T} {v : V} {tp : Bool} {l : List T} (r : Rep W H F dk t v) (e : enuS t = some (tp, l)) : ∃ a xs, v = .ref a ∧ ¬ F a ∧ H a = some (seqO tp xs) ∧ RepL W H F dk l xs := by
  cases t <;> simp only [enuS, reduceCtorEq, Option.some.injEq, Prod.mk.injEq] at e
  · obtain ⟨rfl, rfl⟩ := e
    simp only [Rep] at r
    exact r
  · obtain ⟨rfl, rfl⟩ := e
    simp only [Rep] at r
    exact r
theorem srcBegins {tp : Bool} {a : Addr} {items : Array Value} : ∃ o, Begins (.ref a) o (fun h => SrcAt tp h a items) ∧ o.isFreed = false ∧ ∀ (h : Heap) (it : Addr), h.get? it = some o → IterAt tp h it a 0 := by
  cases tp
  · exact ⟨_, begins_list a items, rfl, fun h it e => ⟨_, e, rfl, rfl⟩⟩
  · exact ⟨_, begins_tuple a items, rfl, fun h it e => ⟨_, e, rfl, rfl⟩⟩
theorem enum_done {pins : List (Addr × Obj)} {σ : L2.St} {s : Shared} {R : It → Hp → Prop} {E : Value → Shared → Prop} {tp : Bool} {c : Int} {a : Addr} {h' : Heap} {xs : List V} (I : L2.Inv X pins σ H s) (ha : H a = some (seqO tp xs)) (he : IsEnum h' (s.heap.objs.size + 1) s.heap.objs.size c .none) (hit : IterAt tp h' s.heap.objs.size a 0)
    (hk : ∀ b o, s.heap.get? b = some o → h'.get? b = some o) (q : R (IteC tp c a) H) : wpAny (model X.prog X.w) X.A (pyIter (.ref (s.heap.objs.size + 1))) (PIE X pins σ (.Tuple elts kk tpos) R) E { s with heap := h' } := by
  have hal : a < s.heap.objs.size := I.hok.lt ha
  refine wpAny_pyIter_enum he ⟨s.heap.objs.size + 1, [s.heap.objs.size + 1, s.heap.objs.size], _, _, H, rfl, I.kept (t' := s.toks) hk, turn_enumC tp c a _ _ (Nat.ne_of_lt hal) (Nat.succ_ne_self _), ⟨⟨.none, ?_⟩, hit⟩, fun b hb => ?_, q⟩
  · show IsEnum h' _ _ (c + ((0 : Nat) : Int)) _
    rw [show c + ((0 : Nat) : Int) = c by omega]
    exact he
  · have hle : s.heap.objs.size ≤ b := by
      rcases List.mem_cons.mp hb with rfl | hb
      · exact Nat.le_succ _
      · rw [List.mem_singleton.mp hb]
        exact Nat.le_refl _
    exact I.fpOk hle (I.hok.fresh hle)
def enu1 : List T → Option (List T)
  | [t] => (enuS t).map fun r => enumL 0 r.2
  | _ => none
def enu2 (zs : List T) : List T → Option (List T)
  | [t] => match zs with
    | [.int c] => if -(2 ^ 63) ≤ c ∧ c < 2 ^ 63 then (enuS t).map fun r => enumL c r.2 else none
    | _ => none
  | _ => none
set_option maxHeartbeats 1000000 in
theorem enumNew {v : Value} {o : Obj} {Hb : Heap → Prop} (B : Begins v o Hb) : Meets (Builtin.«enumerate.__new__» ⟨[.type "enumerate", v], []⟩) (fun _ R s => Hb s.heap ∧
    R (.ok (.ret (.ref (s.heap.push o).objs.size))) { s with heap := (s.heap.push o).push { cls := .type "enumerate", data := .fields #[.none, .bool false, .ref s.heap.objs.size, rawInt 0, .none, .none] } }) :=
  .of_wp fun prog w A R s hyp => by
    obtain ⟨hp, gs, dr, tk, os⟩ := s
    obtain ⟨hb, hr⟩ := hyp
    have sub := sub_enumerate
    have begin_ : ∀ {A' : Around} {E : Value → Shared → Prop} {Q : Value → Shared → Prop}, Q (.ref hp.objs.size) ⟨hp.push o, gs, dr, tk, os⟩ → wpAny (model prog w) A' (pyIter v) Q E ⟨hp, gs, dr, tk, os⟩ := fun q => B.iter prog w _ _ ⟨hp, gs, dr, tk, os⟩ _ hb q
    wp_walk using begin_
    refine wpAny_stack_any fun st => wpAny_pure ?_
    split
    · rename_i cl _ _ _ _ _
      cases (cl == Value.type "enumerate") <;> (wp_walk using begin_; exact ⟨_, rfl, hr⟩)
    · wp_walk using begin_
      exact ⟨_, rfl, hr⟩
theorem call_enumC {s : Shared} {v : Value} {o : Obj} {Hb : Heap → Prop} {Q : Value → Shared → Prop} {A : Around} {E : Value → Shared → Prop} (B : Begins v o Hb) (h1 : Hb s.heap)
    (h : ∀ h', IsEnum h' (s.heap.objs.size + 1) s.heap.objs.size 0 .none → h'.get? s.heap.objs.size = some o → (∀ b o, s.heap.get? b = some o → h'.get? b = some o) → Q (.ref (s.heap.objs.size + 1)) { s with heap := h' }) :
    wpAny (model X.prog X.w) A (call (.type "enumerate") [v]) Q E s := by
  refine callType_new F.called_enumerate (by decide) (F.typeCall_enumerate_1 _) (F.newCall_enumerate_1 _) (fun obj => F.args_object_init_2 obj _) F.entry_enumerate_new (enumNew B) ⟨h1, ?_⟩
  have size1 : (s.heap.push o).objs.size = s.heap.objs.size + 1 := Heap.size_push ..
  have there : IsEnum ((s.heap.push o).push { cls := .type "enumerate", data := .fields #[.none, .bool false, .ref s.heap.objs.size, rawInt 0, .none, .none] }) (s.heap.objs.size + 1) s.heap.objs.size 0 .none := by
    have g := Heap.get?_push_size (s.heap.push o) (o := { cls := .type "enumerate", data := .fields #[.none, .bool false, .ref s.heap.objs.size, rawInt 0, .none, .none] }) rfl
    rw [size1] at g
    exact g
  show _ ∧ _
  rw [size1]
  exact ⟨⟨_, there, rfl⟩, h _ there (Heap.get?_push_of_some _ (Heap.get?_push_size _ B.free)) fun b q x => Heap.get?_push_of_some _ (Heap.get?_push_of_some _ x)⟩
theorem ti_enum (hg : Gl X "enumerate") (hm : X.mg "enumerate" = none) (ha : PA X [e] (tA W Ex fl)) (hs : starEach [e] X.env = [(false, eval e X.env)] := by rfl) : PI X (.Tuple elts kk tpos) (.Call (.Name "enumerate" p) [e] [] pos) (tI W Ex (xIt enu1 fl)) := by
  constructor
  intro pins s σ H R I h
  obtain ⟨dk, F, G, en, d, S, h⟩ := h
  refine Call_ (ld_blt I hg hm boot_enumerate (PyProof.Rows.callWith_type1 (thn (ha.run pos pins s σ H (fun vs H1 => ∃ a tp xs, vs = [V.ref a] ∧ H1 a = some (seqO tp xs) ∧ R (IteC tp 0 a) H1) I ⟨dk, F, G, en, d, S, (Post.bind h).mono fun l d1 H1 k1 D1 h1 xs rl => ?_⟩) fun us s1 ⟨vs, H1, I1, r1, q1⟩ => ?_) hs rfl))
  · obtain ⟨z, ez, q⟩ := Post.opt_some h1
    unfold enu1 at ez
    split at ez
    · obtain ⟨⟨tp, l'⟩, ee, rfl⟩ := Option.map_eq_some_iff.mp ez
      obtain ⟨x, rfl, rx⟩ := rl.one_inv
      obtain ⟨a, ys, rfl, nf, ha', rl'⟩ := enuS_rep rx ee
      exact ⟨a, tp, ys, rfl, ha', q H1 (.refl _ _) D1 _ (itOk_enum nf ha' rl')⟩
    · cases ez
  · obtain ⟨a, tp, xs, rfl, ha', q⟩ := q1
    obtain ⟨u, rfl, ru⟩ := Vals.one r1
    cases ru
    obtain ⟨its, rv, src⟩ := srcAt_of I1 ha'
    obtain ⟨o, B, _, hit⟩ := srcBegins (tp := tp) (a := a) (items := its.toArray)
    exact call_enumC B src fun h' he ho hk => enum_done I1 ha' he (hit _ _ ho) hk q
/-- a built-in class called with keywords -/
theorem callWith_tyKw {M : Model} {A : Around} {E : Value → Shared → Prop} {s : Shared} {Ty : String} {args : List (Bool × Sem Value)} {keywords : List (Option Str × Sem Value)} {Q : Value → Shared → Prop} (hplain : (args.any (·.1) || keywords.any (·.1.isNone)) = false)
    (h : wpAny M A (evalArgs (.type Ty) true args keywords) (fun a s1 => wpAny M A (call (.type Ty) a.pos a.kw) Q E s1) E s) : wpAny M A (callWith pos (.type Ty) [] args keywords) Q E s := by
  unfold callWith
  refine wpAny_bind (wpAny_holding (wpAny_mono h (fun a s1 h1 => wpAny_bind (wpAny_standAt ?_)) fun _ _ z => z))
  simp only [hplain]
  refine wpAny_bind (wpAny_pure ?_)
  exact wpAny_bind (wpAny_mono h1 (fun r s2 hr => wpAny_bind (wpAny_holding (wpAny_point (wpAny_pure hr)))) fun _ _ z => z)
def xIt2 (op : List T → List T → Option (List T)) (fl gl : En → M (List T)) : En → M (List T) := fun en => (fl en).bind fun l => (gl en).bind fun m => .opt (op m l)
theorem ti_enumK (hg : Gl X "enumerate") (hm : X.mg "enumerate" = none) (ha : PA X [e] (tA W Ex fl)) (hk : PK X kws (tA W Ex gl)) (hall : (backToKw pos (keywordEach kws X.env)).all (·.1.isSome) = true := by rfl) (hks : (backToKw pos (keywordEach kws X.env)).filterMap (·.1) = [Str.ofString "start"] := by rfl)
    (hpl : ((backTo pos (starEach [e] X.env)).any (·.1) || (backToKw pos (keywordEach kws X.env)).any (·.1.isNone)) = false := by rfl) (hs : starEach [e] X.env = (false, eval e X.env) :: starEach [] X.env := by rfl) : PI X (.Tuple elts kk tpos) (.Call (.Name "enumerate" p) [e] kws pos) (tI W Ex (xIt2 enu2 fl gl)) := by
  constructor
  intro pins s σ H R I h
  obtain ⟨dk, F, G, en, d, S, h⟩ := h
  refine wpAny_Call_Name_kw (ld_blt I hg hm boot_enumerate ?_)
  refine callWith_tyKw hpl (evalArgs_kw2 hall (thn (ha.run pos pins s σ H (fun vs H1 => tA W Ex gl σ H1 fun zs H2 => ∃ a tp xs c, vs = [V.ref a] ∧ zs = [V.int c] ∧ -(2 ^ 63) ≤ c ∧ c < 2 ^ 63 ∧ H2 a = some (seqO tp xs) ∧ R (IteC tp c a) H2) I ⟨dk, F, G, en, d, S, (Post.bind h).mono fun l d1 H1 k1 D1 h1 xs rl => ⟨dk, F, G, en, d1, S.keep k1 D1, (Post.bind h1).mono fun m d2 H2 k2 D2 h2 zs rz => ?_⟩⟩)
    fun us s1 ⟨vs, H1, I1, r1, q1⟩ => thn (hk.run pos pins s1 σ H1 _ I1 q1) fun ws s2 ⟨zs, H2, I2, r2, q2⟩ => ?_) hs)
  · obtain ⟨z, ez, q⟩ := Post.opt_some h2
    have rl2 := (S.keep k1 D1).keepL k2 rl
    unfold enu2 at ez
    split at ez
    · split at ez
      · split at ez
        · rename_i hc
          obtain ⟨⟨tp, l'⟩, ee, rfl⟩ := Option.map_eq_some_iff.mp ez
          obtain ⟨x, rfl, rx⟩ := rl2.one_inv
          obtain ⟨y, rfl, ry⟩ := rz.one_inv
          obtain ⟨a, ys, rfl, nf, ha', rl'⟩ := enuS_rep rx ee
          simp only [Rep] at ry
          exact ⟨a, tp, ys, _, rfl, by rw [ry], hc.1, hc.2, ha', q H2 (.refl _ _) D2 _ (itOk_enum nf ha' rl')⟩
        · cases ez
      · cases ez
    · cases ez
  · obtain ⟨a, tp, xs, c, rfl, rfl, hc0, hc1, ha', q⟩ := q2
    obtain ⟨u, rfl, ru⟩ := Vals.one r1
    cases ru
    obtain ⟨u2, rfl, ru2⟩ := Vals.one r2
    obtain ⟨t, rfl⟩ := ru2
    obtain ⟨its, rv, src⟩ := srcAt_of I2 ha'
    obtain ⟨o, B, _, hit⟩ := srcBegins (tp := tp) (a := a) (items := its.toArray)
    rw [hks]
    exact enum_begins_start B src hc0 hc1 fun h' he ho _ hk => enum_done I2 ha' he (hit _ _ ho) hk q
end
end TL

/-! TLi1: tuple * 0, tuple * 1, text * n. -/
namespace TL
open PySem PySem.Spec PyProof.Rows L2
theorem tuple_mul1 (l : Addr) (items : Array Value) (n : Nat) (sl : Array (Option Value)) (u : Tok) (dd : Option Addr) :
    Meets (Builtin.«tuple.__mul__» ⟨[.ref l, .int 1 u], []⟩) (fun _ R s => s.heap.get? l = some { cls := .type "tuple", dict := dd, data := .seq items n, slots := sl } ∧ R (.ok (.ret (.ref l))) s) :=
  .of_wp fun prog w A R s h => by
    obtain ⟨hp, g, d, tk, os⟩ := s
    obtain ⟨hl, h⟩ := h
    have f1 := AutoSeq1.idx_int
    have c0 : (decide ((1 : Int) < -(2 ^ 63)) || decide ((1 : Int) ≥ 2 ^ 63)) = false := by decide
    have c1 : (items.isEmpty || (1 : Int) == 1) = true := by simp
    wp_walk using wpAny_loadPart' hl
    repeat (first
      | (refine wpAny_ite_false (decide_eq_false (by rw [c0]; exact Bool.false_ne_true)) ?_; wp_walk using wpAny_loadPart' hl)
      | (refine wpAny_ite_true (decide_eq_true c1) ?_; wp_walk using wpAny_loadPart' hl))
    exact ⟨_, rfl, h⟩
theorem tuple_mul0 (l : Addr) (items : Array Value) (n : Nat) (sl : Array (Option Value)) (x : Int) (u : Tok) (dd : Option Addr) (c0 : (decide (x < -(2 ^ 63)) || decide (x ≥ 2 ^ 63)) = false) (c1 : (items.isEmpty || x == 1) = false) (c2 : (decide (x ≤ 0) || items.isEmpty) = true) :
    Meets (Builtin.«tuple.__mul__» ⟨[.ref l, .int x u], []⟩) (fun _ R s => s.heap.get? l = some { cls := .type "tuple", dict := dd, data := .seq items n, slots := sl } ∧
      R (.ok (.ret (Value.ref s.heap.objs.size))) { s with heap := s.heap.push { cls := Value.type "tuple", data := Data.seq #[] }, toks := s.toks }) :=
  .of_wp fun prog w A R s h => by
    obtain ⟨hp, g, d, tk, os⟩ := s
    obtain ⟨hl, h⟩ := h
    have f1 := AutoSeq1.idx_int
    wp_walk using wpAny_loadPart' hl
    repeat (first
      | (refine wpAny_ite_false (decide_eq_false (by rw [c0]; exact Bool.false_ne_true)) ?_; wp_walk using wpAny_loadPart' hl)
      | (refine wpAny_ite_false (decide_eq_false (by rw [c1]; exact Bool.false_ne_true)) ?_; wp_walk using wpAny_loadPart' hl)
      | (refine wpAny_ite_true (decide_eq_true c2) ?_; wp_walk using wpAny_loadPart' hl))
    exact ⟨_, rfl, h⟩
section
variable {X : Cx}
def rRepT1 (K : PySem.W.Frag) : R2 := fun x y H Q => ∃ l xs, x = .ref l ∧ y = .int 1 ∧ SqT K H l xs ∧ Q (.ref l) H
theorem op_repT1 : OpR X (binaryOp .Mult) (rRepT1 X.K) := by
  intro pins s σ H x y v u Q I rx ry h
  obtain ⟨l, xs, rfl, rfl, hT, q⟩ := h
  cases rx
  obtain ⟨t, rfl⟩ := ry
  obtain ⟨its, r, ⟨⟨cls, dd, data, sl⟩, ho, hc, n, hd⟩, hs⟩ := I.tuple hT
  simp only at hc hd
  subst hc hd
  refine wpAny_binaryOp_repeat_ref (T := "tuple") (U := "int") (by decide) ⟨_, ho, rfl⟩ (fun s' => typeIs_int s' 1 t) noFill_tuple_mul F.fills_int_mul F.slot_int_rmul repeat_tuple F.slot_int_index.lookup
    (call_meets F.slot_int_rmul (typeIs_int s 1 t) F.entry_int_rmul (F.args_int_rmul_2 _ _) (int_rmul_tuple 1 t l its.toArray n dd sl)
      ⟨ho, rfl, ⟨_, ho, rfl⟩, call_meets F.slot_tuple_mul ⟨_, ho, rfl⟩ F.entry_tuple_mul (F.args_tuple_mul_2 _ _) (tuple_mul1 l its.toArray n sl t dd) ⟨ho, ?_⟩⟩)
  exact ⟨.ref l, H, I, rfl, q⟩
def rRepT0 (K : PySem.W.Frag) : R2 := fun x y H Q => ∃ l xs, x = .ref l ∧ y = .int 0 ∧ xs ≠ [] ∧ SqT K H l xs ∧ ∀ p, H p = none → Q (.ref p) (upd H p (.tup []))
theorem op_repT0 : OpR X (binaryOp .Mult) (rRepT0 X.K) := by
  intro pins s σ H x y v u Q I rx ry h
  obtain ⟨l, xs, rfl, rfl, hne, hT, q⟩ := h
  cases rx
  obtain ⟨t, rfl⟩ := ry
  obtain ⟨its, r, ⟨⟨cls, dd, data, sl⟩, ho, hc, n, hd⟩, hs⟩ := I.tuple hT
  simp only at hc hd
  subst hc hd
  have hle : its.length = xs.length := r.length.symm
  have hn : its ≠ [] := fun e => hne (by
    rw [e] at hle
    exact List.eq_nil_of_length_eq_zero hle.symm)
  have hi : its.toArray.isEmpty = false := by
    cases its with
    | nil => exact absurd rfl hn
    | cons a b => rfl
  refine wpAny_binaryOp_repeat_ref (T := "tuple") (U := "int") (by decide) ⟨_, ho, rfl⟩ (fun s' => typeIs_int s' 0 t) noFill_tuple_mul F.fills_int_mul F.slot_int_rmul repeat_tuple F.slot_int_index.lookup
    (call_meets F.slot_int_rmul (typeIs_int s 0 t) F.entry_int_rmul (F.args_int_rmul_2 _ _) (int_rmul_tuple 0 t l its.toArray n dd sl)
      ⟨ho, rfl, ⟨_, ho, rfl⟩, call_meets F.slot_tuple_mul ⟨_, ho, rfl⟩ F.entry_tuple_mul (F.args_tuple_mul_2 _ _) (tuple_mul0 l its.toArray n sl 0 t dd (by decide) (by rw [hi]; rfl) (by rfl)) ⟨ho, ?_⟩⟩)
  refine ⟨.ref s.heap.objs.size, _, I.laid (t' := s.toks) (o := .tup []) (fun b ob q => Heap.get?_push_of_some _ q) (Nat.le_refl _) ?_, rfl, q _ (I.hok.fresh (Nat.le_refl _))⟩
  exact ⟨Nat.zero_le _, _, .nil, IsTup.new _ _⟩
def repS (x : Str) (k : Nat) : Str := ⟨(List.replicate k x.cps.toList).flatten.toArray⟩
def rRepS : R2 := fun x y H Q => ∃ z k, x = .str z ∧ y = .int k ∧ 0 ≤ k ∧ k < 2 ^ 62 ∧ z.length * k.toNat ≤ 16777216 ∧ Q (.str (repS z k.toNat)) H
theorem repS_fold (x : Str) : ∀ (k : Nat), (List.replicate k x.cps).foldl (· ++ ·) #[] = (List.replicate k x.cps.toList).flatten.toArray := by
  intro k
  have key : ∀ (k : Nat) (acc : List Nat), (List.replicate k x.cps).foldl (· ++ ·) acc.toArray = (acc ++ (List.replicate k x.cps.toList).flatten).toArray := by
    intro k
    induction k with
    | zero => intro acc; simp
    | succ k ih =>
      intro acc
      rw [List.replicate_succ, List.foldl_cons, List.replicate_succ, List.flatten_cons]
      have : acc.toArray ++ x.cps = (acc ++ x.cps.toList).toArray := by
        rw [← List.append_toArray]
      rw [this, ih, List.append_assoc]
  exact key k []
theorem op_repS : OpR X (binaryOp .Mult) rRepS := by
  intro pins s σ H x y v u Q I rx ry h
  obtain ⟨z, k, rfl, rfl, k0, k1, hz, q⟩ := h
  obtain ⟨t, rfl⟩ := rx
  obtain ⟨t', rfl⟩ := ry
  have hlim : ¬ k < 1 → ¬ ((z.length : Int) > (2 ^ 63 - 1) / k) := fun hk hgt => by
    have hq : ((z.length : Nat) : Int) * k ≤ 16777216 := by
      have : ((z.length * k.toNat : Nat) : Int) ≤ 16777216 := by omega
      rw [Int.natCast_mul, Int.toNat_of_nonneg k0] at this
      exact this
    have hq2 : ((z.length : Nat) : Int) ≤ (2 ^ 63 - 1) / k := Int.le_ediv_of_mul_le (by omega) (by omega)
    omega
  refine P.mul_str (by rw [decide_eq_false (by omega), decide_eq_false (by omega)]; rfl) (fun h1 _ => hlim h1) (fun _ _ => ?_) ?_
  · unfold Builtin.Str.tooLong
    rw [sizeLine_eq]
    exact decide_eq_false (by omega)
  · by_cases h1 : k < 1
    · rw [if_pos h1]
      have : k.toNat = 0 := by omega
      rw [this] at q
      exact ⟨by decide, .str Str.empty, H, I.tok _, ⟨_, rfl⟩, q⟩
    · rw [if_neg h1]
      by_cases h2 : (k == 1 || z.length == 0) = true
      · rw [if_pos h2]
        have e : repS z k.toNat = z := by
          rcases Bool.or_eq_true_iff.mp h2 with h3 | h3
          · have : k = 1 := by simpa using h3
            subst this
            show (⟨(List.replicate 1 z.cps.toList).flatten.toArray⟩ : Str) = z
            simp
          · have : z.cps = #[] := Array.eq_empty_of_size_eq_zero (by simpa [Str.length] using h3)
            obtain ⟨c⟩ := z
            simp only at this
            subst this
            show (⟨(List.replicate k.toNat []).flatten.toArray⟩ : Str) = _
            simp
        rw [e] at q
        exact ⟨.str z, H, I, ⟨_, rfl⟩, q⟩
      · rw [if_neg h2, repS_fold]
        refine ⟨?_, .str (repS z k.toNat), H, I.tok _, ⟨_, rfl⟩, q⟩
        show (List.replicate k.toNat z.cps.toList).flatten.toArray.size ≤ sizeLine
        rw [List.size_toArray, List.length_flatten, List.map_replicate, List.sum_replicate_nat, sizeLine_eq, Nat.mul_comm]
        exact hz
end
end TL

/-! TLj: short words, isinstance, join, list, two targets; what is drawn. -/
namespace TL
open PySem PySem.Spec PyProof.Rows L2

/-! ### short words (hu: room on the machine's stack) -/
section
variable {W : Wd} {Ex : XK} {X : Cx} {a b c e : Expr} {es : List Expr} {f g h : En → M T} {fl : En → M (List T)} {pos p : Pos} {x : Str}
theorem room_of {k : Nat} {A : Around} (hr : Room k A) : A.units + 100 < cLine := by
  have := hr.un
  omega
theorem te_add (hK : W.K = X.K) (ha : PE X a (tE W Ex f)) (hb : PE X b (tE W Ex g)) : PE X (.BinOp a .Add b pos) (tE W Ex (xBin addT f g)) := te_bin op_addA (hK ▸ agr_add) ha hb
theorem te_sub (ha : PE X a (tE W Ex f)) (hb : PE X b (tE W Ex g)) : PE X (.BinOp a .Sub b pos) (tE W Ex (xBin subT f g)) := te_bin op_sub agr_sub ha hb
theorem te_mod (ha : PE X a (tE W Ex f)) (hb : PE X b (tE W Ex g)) : PE X (.BinOp a .Mod b pos) (tE W Ex (xBin modT f g)) := te_bin op_mod agr_mod ha hb
theorem te_fdiv (ha : PE X a (tE W Ex f)) (hb : PE X b (tE W Ex g)) : PE X (.BinOp a .FloorDiv b pos) (tE W Ex (xBin fdivT f g)) := te_bin op_fdiv agr_fdiv ha hb
theorem te_pow (ha : PE X a (tE W Ex f)) (hb : PE X b (tE W Ex g)) : PE X (.BinOp a .Pow b pos) (tE W Ex (xBin powT f g)) := te_bin op_pow agr_pow ha hb
theorem te_neg (ha : PE X a (tE W Ex f)) : PE X (.UnaryOp .USub a pos) (tE W Ex (xUn negT f)) := te_un un_neg agr_neg ha
def rMulA (K : PySem.W.Frag) : R2 := fun x y H Q => rI CMul (fun i j => .int (i * j)) x y H Q ∨ rI CMulW (fun i j => .int (i * j)) x y H Q ∨ rRep x y H Q ∨ rRepT K x y H Q ∨ rRepT1 K x y H Q ∨ rRepT0 K x y H Q ∨ rRepS x y H Q
theorem rep_repeat {H : Hp} {F : Addr → Prop} {dk : Dk} {l : List T} {xs : List V} (r : RepL W H F dk l xs) : ∀ n : Nat, RepL W H F dk (List.replicate n l).flatten (List.replicate n xs).flatten
  | 0 => .nil
  | n + 1 => by
    rw [List.replicate_succ, List.replicate_succ, List.flatten_cons, List.flatten_cons]
    exact r.append (rep_repeat r n)
theorem agr_mul : Agr2 W (rMulA W.K) mulT := fun {dk F H x y a b t Q} hF ra rb e q => by
  unfold mulT at e
  split at e
  · split at e
    · rename_i i j h
      cases e
      simp only [Rep] at ra rb
      rw [Bool.or_eq_true] at h
      rcases h with h | h
      · refine .inl ⟨_, _, ra, rb, ?_, q _ H (.refl _) rep_int⟩
        simp only [smallI, Bool.or_eq_true, decide_eq_true_eq] at h
        exact h
      · refine .inr (.inl ⟨_, _, ra, rb, ?_, q _ H (.refl _) rep_int⟩)
        unfold wideI at h
        show i.natAbs.log2 + j.natAbs.log2 < 1000000
        exact of_decide_eq_true h
    · cases e
  · split at e
    · rename_i h
      obtain ⟨hz, rfl⟩ := capL_some e
      simp only [Rep] at ra rb
      obtain ⟨p, xs, rfl, _, s, rl⟩ := ra
      refine .inr (.inr (.inl ⟨p, _, xs, rfl, rb, s, by omega, h.2, by rw [rl.length]; exact hz, fun p hp => q _ _ (upd_same' hp) (rep_lst hF hp (rep_repeat rl _))⟩))
    · cases e
  · split at e
    · rename_i l k h
      cases e
      have ra0 := ra
      simp only [Rep] at ra rb
      obtain ⟨p, xs, rfl, _, s, rl⟩ := ra
      have hlen := rl.length
      have hne : xs ≠ [] := fun z => by rw [z] at hlen; simp at hlen; omega
      by_cases h2 : 2 ≤ k
      · exact .inr (.inr (.inr (.inl ⟨p, _, xs, rfl, rb, .of s, hne, h2, h.2.1, by omega, fun p hp => q _ _ (upd_same' hp) (rep_tup hF hp (rep_repeat rl _))⟩)))
      · by_cases h3 : k = 1
        · subst h3
          have e1 : (List.replicate (1 : Int).toNat l).flatten = l := by
            show (List.replicate 1 l).flatten = l
            simp
          rw [e1] at q
          exact .inr (.inr (.inr (.inr (.inl ⟨p, xs, rfl, rb, .of s, q _ H (.refl _) ra0⟩))))
        · have h4 : k = 0 := by omega
          subst h4
          exact .inr (.inr (.inr (.inr (.inr (.inl ⟨p, xs, rfl, rb, hne, .of s, fun p hp => q _ _ (upd_same' hp) (rep_tup hF hp .nil)⟩)))))
    · cases e
  · split at e
    · rename_i h
      obtain ⟨hz, rfl⟩ := capL_some e
      simp only [Rep] at ra rb
      exact .inr (.inr (.inr (.inr (.inr (.inr ⟨_, _, ra, rb, h.1, h.2, hz, q _ H (.refl _) rep_str⟩)))))
    · cases e
  · cases e
theorem te_mul (hK : W.K = X.K) (ha : PE X a (tE W Ex f)) (hb : PE X b (tE W Ex g)) : PE X (.BinOp a .Mult b pos) (tE W Ex (xBin mulT f g)) := te_bin (op_mul.or (op_mulW.or (op_rep.or (op_repT.or (op_repT1.or (op_repT0.or op_repS)))))) (hK ▸ agr_mul) ha hb
theorem te_eq (hu : X.A.units + 100 < cLine) (hK : W.K = X.K) (ha : PE X a (tE W Ex f)) (hb : PE X b (tE W Ex g)) : PE X (.Compare a [.Eq] [b] pos) (tE W Ex (xBin eqT f g)) := te_cmp (op_eqA (by omega)) (hK ▸ agr_eq) ha hb (nomark _)
theorem te_ne (hu : X.A.units + 100 < cLine) (hK : W.K = X.K) (ha : PE X a (tE W Ex f)) (hb : PE X b (tE W Ex g)) : PE X (.Compare a [.NotEq] [b] pos) (tE W Ex (xBin neT f g)) := te_cmp (op_neA (by omega)) (hK ▸ agr_ne) ha hb (nomark _)
theorem te_lt (ha : PE X a (tE W Ex f)) (hb : PE X b (tE W Ex g)) : PE X (.Compare a [.Lt] [b] pos) (tE W Ex (xBin ltT f g)) := te_cmp op_ltA agr_lt ha hb (nomark _)
theorem te_le (ha : PE X a (tE W Ex f)) (hb : PE X b (tE W Ex g)) : PE X (.Compare a [.LtE] [b] pos) (tE W Ex (xBin leT f g)) := te_cmp op_leA agr_le ha hb (nomark _)
theorem te_gt (ha : PE X a (tE W Ex f)) (hb : PE X b (tE W Ex g)) : PE X (.Compare a [.Gt] [b] pos) (tE W Ex (xBin gtT f g)) := te_cmp op_gtA agr_gt ha hb (nomark _)
theorem te_ge (ha : PE X a (tE W Ex f)) (hb : PE X b (tE W Ex g)) : PE X (.Compare a [.GtE] [b] pos) (tE W Ex (xBin geT f g)) := te_cmp op_geA agr_ge ha hb (nomark _)
theorem te_isN (ha : PE X a (tE W Ex f)) (hb : PE X b (tE W Ex g)) : PE X (.Compare a [.Is] [b] pos) (tE W Ex (xBin isNonT f g)) := te_cmp op_isN agr_isN ha hb (nomark _)
theorem te_notN (ha : PE X a (tE W Ex f)) (hb : PE X b (tE W Ex g)) : PE X (.Compare a [.IsNot] [b] pos) (tE W Ex (xBin notNonT f g)) := te_cmp op_notN agr_notN ha hb (nomark _)
theorem te_in (hu : X.A.units + 100 < cLine) (hK : W.K = X.K) (ha : PE X a (tE W Ex f)) (hb : PE X b (tE W Ex g)) (hm : behindInMarks .In b = false := by with_unfolding_all rfl) : PE X (.Compare a [.In] [b] pos) (tE W Ex (xBin inT f g)) := te_cmp (op_inA (by omega)) (hK ▸ agr_in) ha hb hm
theorem te_notIn (hu : X.A.units + 100 < cLine) (hK : W.K = X.K) (ha : PE X a (tE W Ex f)) (hb : PE X b (tE W Ex g)) (hm : behindInMarks .NotIn b = false := by with_unfolding_all rfl) : PE X (.Compare a [.NotIn] [b] pos) (tE W Ex (xBin notInT f g)) := te_cmp (op_notInA (by omega)) (hK ▸ agr_notIn) ha hb hm
theorem te_at (hu : X.A.units + 100 < cLine) (hK : W.K = X.K) (ha : PE X a (tE W Ex f)) (hb : PE X b (tE W Ex g)) (hs : PlainIx b := by intro _ _; rfl) : PE X (.Subscript a b pos) (tE W Ex (xBin ixT f g)) := te_ix (by omega) hK ha hb hs
theorem te_len (hK : W.K = X.K) (hm : X.mg "len" = none) (ha : PA X (e :: es) (tA W Ex fl)) (hg : Gl X "len" := by rfl) (he : starEach (e :: es) X.env = (false, eval e X.env) :: starEach es X.env := by rfl) (hpl : (backTo pos (starEach es X.env)).any (·.1) = false := by rfl) :
    PE X (.Call (.Name "len" p) (e :: es) [] pos) (tE W Ex (xCall lenT fl)) := te_callB cr_lenA (hK ▸ agr_len) hg hm PySem.boot_len ha (he := he) (hpl := hpl)
theorem te_sum (hc : X.calm = true) (hK : W.K = X.K) (hm : X.mg "sum" = none) (ha : PA X (e :: es) (tA W Ex fl)) (hg : Gl X "sum" := by rfl) (he : starEach (e :: es) X.env = (false, eval e X.env) :: starEach es X.env := by rfl) (hpl : (backTo pos (starEach es X.env)).any (·.1) = false := by rfl) :
    PE X (.Call (.Name "sum" p) (e :: es) [] pos) (tE W Ex (xCall sumT fl)) := te_callB (cr_sum hc) (hK ▸ agr_sum) hg hm (by decide +kernel) ha (he := he) (hpl := hpl)
theorem te_all (hc : X.calm = true) (hK : W.K = X.K) (hm : X.mg "all" = none) (ha : PA X (e :: es) (tA W Ex fl)) (hg : Gl X "all" := by rfl) (he : starEach (e :: es) X.env = (false, eval e X.env) :: starEach es X.env := by rfl) (hpl : (backTo pos (starEach es X.env)).any (·.1) = false := by rfl) :
    PE X (.Call (.Name "all" p) (e :: es) [] pos) (tE W Ex (xCall allT fl)) := te_callB (cr_all hc) (hK ▸ agr_all) hg hm (by decide +kernel) ha (he := he) (hpl := hpl)
theorem te_any (hc : X.calm = true) (hK : W.K = X.K) (hm : X.mg "any" = none) (ha : PA X (e :: es) (tA W Ex fl)) (hg : Gl X "any" := by rfl) (he : starEach (e :: es) X.env = (false, eval e X.env) :: starEach es X.env := by rfl) (hpl : (backTo pos (starEach es X.env)).any (·.1) = false := by rfl) :
    PE X (.Call (.Name "any" p) (e :: es) [] pos) (tE W Ex (xCall anyT fl)) := te_callB (cr_any hc) (hK ▸ agr_any) hg hm (by decide +kernel) ha (he := he) (hpl := hpl)
theorem te_max (hc : X.calm = true) (hu : X.A.units + 100 < cLine) (hK : W.K = X.K) (hm : X.mg "max" = none) (ha : PA X (e :: es) (tA W Ex fl)) (hg : Gl X "max" := by rfl) (he : starEach (e :: es) X.env = (false, eval e X.env) :: starEach es X.env := by rfl) (hpl : (backTo pos (starEach es X.env)).any (·.1) = false := by rfl) :
    PE X (.Call (.Name "max" p) (e :: es) [] pos) (tE W Ex (xCall maxT fl)) := te_callB (cr_maxA hc (by omega)) (hK ▸ agr_max) hg hm (by decide +kernel) ha (he := he) (hpl := hpl)
theorem te_min (hc : X.calm = true) (hu : X.A.units + 100 < cLine) (hK : W.K = X.K) (hm : X.mg "min" = none) (ha : PA X (e :: es) (tA W Ex fl)) (hg : Gl X "min" := by rfl) (he : starEach (e :: es) X.env = (false, eval e X.env) :: starEach es X.env := by rfl) (hpl : (backTo pos (starEach es X.env)).any (·.1) = false := by rfl) :
    PE X (.Call (.Name "min" p) (e :: es) [] pos) (tE W Ex (xCall minT fl)) := te_callB (cr_minA hc (by omega)) (hK ▸ agr_min) hg hm (by decide +kernel) ha (he := he) (hpl := hpl)
theorem te_repr (hgd : X.A.guards = some []) (hu : X.A.units + 100 < cLine) (hK : W.K = X.K) (hm : X.mg "repr" = none) (ha : PA X (e :: es) (tA W Ex fl)) (hg : Gl X "repr" := by rfl) (he : starEach (e :: es) X.env = (false, eval e X.env) :: starEach es X.env := by rfl) (hpl : (backTo pos (starEach es X.env)).any (·.1) = false := by rfl) :
    PE X (.Call (.Name "repr" p) (e :: es) [] pos) (tE W Ex (xCall reprTL fl)) := te_callB (cr_repr hgd (by omega)) (hK ▸ agr_repr) hg hm (by decide +kernel) ha (he := he) (hpl := hpl)
theorem te_toInt (hm : X.mg "int" = none) (ha : PA X (e :: es) (tA W Ex fl)) (hg : Gl X "int" := by rfl) (he : starEach (e :: es) X.env = (false, eval e X.env) :: starEach es X.env := by rfl) (hpl : (backTo pos (starEach es X.env)).any (·.1) = false := by rfl) :
    PE X (.Call (.Name "int" p) (e :: es) [] pos) (tE W Ex (xCall toIntT fl)) := te_callTy call_int1 agr_int hg hm (by decide +kernel) ha (he := he) (hpl := hpl)
theorem te_toTup (hK : W.K = X.K) (hm : X.mg "tuple" = none) (ha : PA X (e :: es) (tA W Ex fl)) (hg : Gl X "tuple" := by rfl) (he : starEach (e :: es) X.env = (false, eval e X.env) :: starEach es X.env := by rfl) (hpl : (backTo pos (starEach es X.env)).any (·.1) = false := by rfl) :
    PE X (.Call (.Name "tuple" p) (e :: es) [] pos) (tE W Ex (xCall tupleT fl)) := te_callTy call_tuple_of (hK ▸ agr_tuple) hg hm (by decide +kernel) ha (he := he) (hpl := hpl)
end

/-! ### isinstance(e, T), T a built-in class -/
def T.tyN : T → Option String
  | .non => some "NoneType" | .bl _ => some "bool" | .int _ => some "int" | .str _ => some "str" | .tup _ => some "tuple" | .lst _ => some "list" | .dic _ => some "dict"
  | _ => none
def isiT (n : String) (t : T) : Option T := (t.tyN).bind fun m => (kitB m n).map T.bl
section
variable {W : Wd} {Ex : XK} {X : Cx} {a e : Expr} {f : En → M T} {pos p q : Pos} {n : String} {y : Str}
theorem tyN_rep {K : PySem.W.Frag} {H : Hp} {F : Addr → Prop} {dk : Dk} {t : T} {v : V} {m : String} (r : Rep W H F dk t v) (e : t.tyN = some m) : TyX K H v (.type m) := by
  cases t <;> simp only [T.tyN, Option.some.injEq, reduceCtorEq] at e <;> subst e <;> simp only [Rep] at r
  · subst r
    exact .base .non
  · subst r
    exact .base (.bl _)
  · subst r
    exact .base (.int _)
  · subst r
    exact .base (.str _)
  · obtain ⟨b, xs, rfl, _, s, _⟩ := r
    exact .base (.tup s)
  · obtain ⟨b, xs, rfl, _, s, _⟩ := r
    exact .base (.lst s)
  · obtain ⟨b, xs, rfl, _, s, _⟩ := r
    rcases s with s | ⟨o, s⟩
    · exact .base (.dK s)
    · exact .fDict s
theorem te_isi (hm : X.mg "isinstance" = none) (hm2 : X.mg y = none) (hv2 : bootBuiltins y = some (.type n)) (ha : PE X a (tE W Ex f)) (hg : Gl X "isinstance" := by rfl) (hg2 : Gl X y := by rfl) (hn : y ≠ "__name__" := by decide) (hdb : (y == ("__debug__" : Str)) = false := by decide)
    (he : starEach [a, .Name y q] X.env = (false, eval a X.env) :: starEach [.Name y q] X.env := by rfl) (he2 : starEach [.Name y q] X.env = (false, eval (.Name y q) X.env) :: starEach [] X.env := by rfl) (hpl : (backTo pos (starEach [.Name y q] X.env)).any (·.1) = false := by rfl) :
    PE X (.Call (.Name "isinstance" p) [a, .Name y q] [] pos) (tE W Ex (xUn (isiT n) f)) :=
  (pe_callB call_isi hg hm PyProof.Rows.boot_isinstance (pa_cons ha (pa_cons (pe_bltn (v := .ty n) hg2 hm2 hv2 rfl hn hdb) pa_nil he2) he) (he := he) (hpl := hpl)).imp fun σ H Q ⟨dk, F, G, en, d, S, h⟩ => by
    refine ⟨dk, F, G, en, d, S, (Post.bind h).mono fun t d1 H1 k1 D1 h1 v rv => ?_⟩
    obtain ⟨z, ez, q⟩ := Post.opt_some h1
    simp only [isiT, Option.bind_eq_some_iff, Option.map_eq_some_iff] at ez
    obtain ⟨m, em, b, eb, rfl⟩ := ez
    exact ⟨v, .ty n, .type m, .type n, b, rfl, .ty n, tyN_rep rv em, kit_ty eb, q H1 (.refl _ _) D1 _ rep_bl⟩
end

/-! ### sep.join(e) -/
def joinT (a b : T) : Option T := match a, b with
  | .str s, .lst l => (strsOf l).bind fun ys => if (ys.map (·.length)).sum + ys.length * s.length ≤ 16777216 then some (.str (Txt.join s ys)) else none
  | .str s, .tup l => (strsOf l).bind fun ys => if (ys.map (·.length)).sum + ys.length * s.length ≤ 16777216 then some (.str (Txt.join s ys)) else none
  | _, _ => none
def strT? : T → Option Str
  | .str s => some s
  | _ => none
def xJoin (f g : En → M T) : En → M T := fun en => (f en).bind fun x => (M.opt (strT? x)).bind fun s => (g en).bind fun y => .opt (joinT (.str s) y)
section
variable {W : Wd} {Ex : XK} {X : Cx} {o e : Expr} {f g : En → M T} {apos pos : Pos}
theorem te_join (hK : W.K = X.K) (ho : PE X o (tE W Ex f)) (he : PE X e (tE W Ex g)) (hs : starEach [e] X.env = [(false, eval e X.env)] := by rfl) (hbase : attributeBase o "join" X.env (eval o X.env) = eval o X.env := by rfl) (hline : (apos.endLine == pos.line) = true := by rfl) :
    PE X (.Call (.Attribute o "join" apos) [e] [] pos) (tE W Ex (xJoin f g)) := (pe_join ho he hs hbase hline).imp fun σ H Q ⟨dk, F, G, en, d, S, h⟩ => by
  refine ⟨dk, F, G, en, d, S, (Post.bind h).mono fun t d1 H1 k1 D1 h1 v rv => ?_⟩
  have S1 := S.keep k1 D1
  cases hz : strT? t with
  | none =>
    rw [hz] at h1
    exact h1.elim
  | some s =>
    rw [hz] at h1
    have h1 : Post W Ex F dk H1 _ (M.bind (g en) (fun y => .opt (joinT (.str s) y)) d1) := h1
    cases t <;> simp only [strT?, reduceCtorEq, Option.some.injEq] at hz
    subst hz
    simp only [Rep] at rv
    subst rv
    refine ⟨⟨_, rfl⟩, dk, F, G, en, d1, S1, (Post.bind h1).mono fun u d2 H2 k2 D2 h2 y ry => ?_⟩
    obtain ⟨z, ez, q⟩ := Post.opt_some h2
    unfold joinT at ez
    split at ez
    · obtain ⟨ys, ey, ez⟩ := Option.bind_eq_some_iff.mp ez
      split at ez
      · rename_i s' l e1 e2 hsz
        cases e1
        cases ez
        cases strsOf_eq ey
        simp only [Rep] at ry
        obtain ⟨b, xs, rfl, _, st, rl⟩ := ry
        cases rl.strs_inv
        exact ⟨_, b, ys, rfl, rfl, .inl (.of st), hsz, q H2 (.refl _ _) D2 _ rep_str⟩
      · cases ez
    · obtain ⟨ys, ey, ez⟩ := Option.bind_eq_some_iff.mp ez
      split at ez
      · rename_i s' l e1 e2 hsz
        cases e1
        cases ez
        cases strsOf_eq ey
        simp only [Rep] at ry
        obtain ⟨b, xs, rfl, _, st, rl⟩ := ry
        cases rl.strs_inv
        exact ⟨_, b, ys, rfl, rfl, .inr (.of st), hsz, q H2 (.refl _ _) D2 _ rep_str⟩
      · cases ez
    · cases ez
end

/-! ### list(e) of a list or a tuple -/
def listT : List T → Option (List T)
  | [.lst l] => capL l.length l
  | [.tup l] => capL l.length l
  | _ => none
def xCallN (op : List T → Option (List T)) (f : En → M (List T)) : En → M (List T) := fun en => (f en).bind fun l => .opt (op l)
section
variable {W : Wd} {Ex : XK} {X : Cx} {e a b : Expr} {es tgs : List Expr} {f g : En → M T} {fl : En → M (List T)} {pos p p1 p2 p3 p4 : Pos} {k1 k2 : Nat}
theorem tn_list (hK : W.K = X.K) (hm : X.mg "list" = none) (ha : PA X (e :: es) (tA W Ex fl)) (hg : Gl X "list" := by rfl) (he : starEach (e :: es) X.env = (false, eval e X.env) :: starEach es X.env := by rfl) (hpl : (backTo pos (starEach es X.env)).any (·.1) = false := by rfl) :
    PE X (.Call (.Name "list" p) (e :: es) [] pos) (tN W Ex (xCallN listT fl)) := (pe_callTy call_list_of hg hm (by decide +kernel) ha (he := he) (hpl := hpl)).imp fun σ H Q ⟨dk, F, G, en, d, S, h⟩ => by
  refine ⟨dk, F, G, en, d, S, (Post.bind h).mono fun l d1 H1 k1 D1 h1 xs rl => ?_⟩
  obtain ⟨z, ez, q⟩ := Post.opt_some h1
  rw [← hK]
  unfold listT at ez
  split at ez
  · obtain ⟨hz, rfl⟩ := capL_some ez
    obtain ⟨x, rfl, rx⟩ := rl.one_inv
    simp only [Rep] at rx
    obtain ⟨b, ys, rfl, _, s, r⟩ := rx
    exact ⟨b, ys, rfl, .inl (.of s), fun q' hq => q H1 (.refl _ _) D1 q' ys r (by rw [r.length]; exact hz) hq⟩
  · obtain ⟨hz, rfl⟩ := capL_some ez
    obtain ⟨x, rfl, rx⟩ := rl.one_inv
    simp only [Rep] at rx
    obtain ⟨b, ys, rfl, _, s, r⟩ := rx
    exact ⟨b, ys, rfl, .inr (.of s), fun q' hq => q H1 (.refl _ _) D1 q' ys r (by rw [r.length]; exact hz) hq⟩
  · cases ez
end
end TL

/-! TLk: the deck's own words. -/
namespace TL
open PySem PySem.Spec PyProof.Rows L2

/-- a deck that is a list: cells, a number, another -/
def dkL (c : Addr) (d : D) : HO := .lst [.ref c, .int d.blend, .int d.laps]
/-- a deck that is a dict with three keys -/
def dkD (k0 k1 k2 : Str) (c : Addr) (d : D) : HO := .dK [(.inr k0, .ref c), (.inr k1, .int d.blend), (.inr k2, .int d.laps)]
def dckP (p : D → T) : T → M T := fun t d => match t with
  | .dck => .ok (p d) d
  | _ => .bad
def xDkB (f : En → M T) : En → M T := fun en => (f en).bind (dckP fun d => .int d.blend)
def xDkN (f : En → M T) : En → M T := fun en => (f en).bind (dckP fun d => .int d.laps)
def xDkNe (f : En → M T) : En → M T := fun en => (f en).bind (dckP fun d => .bl (!d.cells.isEmpty))
def popD : T → M T := fun t d => match t with
  | .dck => match d.cells[d.cells.length - 1]? with
    | some i => .ok (.int i) { d with cells := d.cells.dropLast }
    | none => .bad
  | _ => .bad
def xDkPop (f : En → M T) : En → M T := fun en => (f en).bind popD
def appD : T → M T := fun t d => match t with
  | .int i => if d.cells.length < 16777216 then .ok .non { d with cells := d.cells ++ [i] } else .bad
  | _ => .bad
def xDkApp (f g : En → M T) : En → M T := fun en => (f en).bind fun o => match o with
  | .dck => (g en).bind appD
  | _ => .bad
def setD : T → T → En → MS := fun o t en d => match o, t with
  | .dck, .int i => if 0 ≤ i then .ok (.nx, en) { d with laps := i.toNat } else .bad
  | _, _ => .bad
def sDkSet (fo f : En → M T) : En → MS := fun en => (f en).bind fun t => (fo en).bind fun o => setD o t en

section
variable {W : Wd} {Ex : XK} {F G : Addr → Prop} {dk : Dk} {H H1 : Hp} {d d1 : D} {α : Type} {R : α → D → Hp → Prop}
theorem Post.ok_at {a : α} (h : Post W Ex F dk H R (.ok a d1)) (k : Keep dk H H1) (D1 : DkAt W dk H1 d1) : R a d1 H1 := h H1 k D1
theorem Keep.upd1 {o : HO} : Keep dk H (upd H dk.1 o) := fun a x e n1 n2 => by
  rw [upd_ne n1]
  exact e
theorem Keep.upd2 {o : HO} : Keep dk H (upd H dk.2 o) := fun a x e n1 n2 => by
  rw [upd_ne n2]
  exact e
end

/-! ### the deck is a list -/
section
variable {W : Wd} {Ex : XK} {X : Cx} {o e : Expr} {f g : En → M T} {pos p1 p2 apos : Pos} {j : Nat}
theorem dkGet {dk : Dk} {H : Hp} {d : D} {K : PySem.W.Frag} (hW : W.dk = dkL) (h : DkAt W dk H d) : SqL K H dk.1 [.ref dk.2, .int d.blend, .int d.laps] := .of (by rw [h.2.2, hW]; rfl)
theorem te_dkB (hW : W.dk = dkL) (ho : PE X o (tE W Ex f)) : PE X (.Subscript o (.Constant (.int 1) j p1) pos) (tE W Ex (xDkB f)) := (pe_ix ix_list ho pe_int (fun _ _ => rfl)).imp fun σ H Q ⟨dk, F, G, en, d, S, h⟩ => by
  refine ⟨dk, F, G, en, d, S, (Post.bind h).mono fun t d1 H1 k1 D1 h1 v rv => ?_⟩
  cases t with
  | dck =>
    simp only [Rep] at rv
    exact ⟨dk.1, _, 1, .int d1.blend, rv, rfl, dkGet hW D1, rfl, h1 H1 (.refl _ _) D1 _ rep_int⟩
  | _ => exact h1.elim
theorem te_dkN (hW : W.dk = dkL) (ho : PE X o (tE W Ex f)) : PE X (.Subscript o (.Constant (.int 2) j p1) pos) (tE W Ex (xDkN f)) := (pe_ix ix_list ho pe_int (fun _ _ => rfl)).imp fun σ H Q ⟨dk, F, G, en, d, S, h⟩ => by
  refine ⟨dk, F, G, en, d, S, (Post.bind h).mono fun t d1 H1 k1 D1 h1 v rv => ?_⟩
  cases t with
  | dck =>
    simp only [Rep] at rv
    exact ⟨dk.1, _, 2, .int d1.laps, rv, rfl, dkGet hW D1, rfl, h1 H1 (.refl _ _) D1 _ rep_int⟩
  | _ => exact h1.elim
def intsD (is : List Int) : List PyData := is.map PyData.int
theorem intsD_dp {K : PySem.W.Frag} {H : Hp} : ∀ is : List Int, DpAll K H (is.map V.int) (intsD is)
  | [] => .nil
  | i :: is => .cons (.int i) (intsD_dp is)
theorem intsD_lay : ∀ is : List Int, PyData.canLayAll0 (intsD is) = true
  | [] => rfl
  | i :: is => by
    simp only [intsD, List.map_cons, PyData.canLayAll0, PyData.canLay0, Bool.true_and]
    exact intsD_lay is
theorem intsD_depth : ∀ is : List Int, PyData.depthAll (intsD is) ≤ 1
  | [] => by simp [intsD, PyData.depthAll]
  | i :: is => by
    have := intsD_depth is
    simp only [intsD, List.map_cons, PyData.depthAll, PyData.depth] at *
    omega
theorem intsD_shaped (is : List Int) : SeqAt.shaped (.list (intsD is)) = true := by
  unfold SeqAt.shaped
  have h1 := intsD_lay is
  have h2 := intsD_depth is
  simp only [PyData.canLay0, PyData.depth, Bool.and_eq_true, decide_eq_true_eq]
  exact ⟨h1, decide_eq_true (by omega)⟩
theorem intsD_ne (is : List Int) : (!PyData.eqv (.list (intsD is)) (.list [])) = !is.isEmpty := by
  cases is <;> simp [intsD, PyData.eqv, PyData.eqvAll]
theorem te_dkNe {p0 : Pos} (hW : W.dk = dkL) (hu : X.A.units + 100 < cLine) (ho : PE X o (tE W Ex f)) : PE X (.Compare (.Subscript o (.Constant (.int 0) j p1) p0) [.NotEq] [.List [] p2] pos) (tE W Ex (xDkNe f)) :=
  (pe_cmpR (op_neD (by omega)) (pe_ix ix_list ho pe_int (fun _ _ => rfl)) (pe_lst pa_nil) (nomark _)).imp fun σ H Q ⟨dk, F, G, en, d, S, h⟩ => by
  refine ⟨dk, F, G, en, d, S, (Post.bind h).mono fun t d1 H1 k1 D1 h1 v rv => ?_⟩
  cases t with
  | dck =>
    simp only [Rep] at rv
    refine ⟨dk.1, _, 0, .ref dk.2, rv, rfl, dkGet hW D1, rfl, Nat.zero_le _, fun p hp => ?_⟩
    have sm : Same H1 (upd H1 p (.lst [])) := upd_same' hp
    refine ⟨.list (intsD d1.cells), .list [], .lst (.of (sm _ _ D1.2.1)) (intsD_dp _), .lst (.of upd_same) .nil, intsD_shaped _, rfl, ?_⟩
    rw [intsD_ne]
    exact h1 _ (.of sm) (D1.same sm) _ rep_bl
  | _ => exact h1.elim
theorem Rep.atDk {dk : Dk} {H : Hp} {F : Addr → Prop} {v : V} (r : Rep W H F dk .dck v) : v = .ref dk.1 := by simpa only [Rep] using r
/-- the cells shrink, grow -/
theorem DkAt.cells {dk : Dk} {H : Hp} {d d' : D} (h : DkAt W dk H d) (hb : ∀ c, W.dk c d' = W.dk c d) : DkAt W dk (upd H dk.2 (.lst (d'.cells.map V.int))) d' :=
  ⟨h.1, upd_same, by rw [upd_ne h.1, hb]; exact h.2.2⟩
theorem te_dkPop {p0 : Pos} (hW : W.dk = dkL) (ho : PE X o (tE W Ex f)) (hbase : attributeBase (.Subscript o (.Constant (.int 0) j p1) p0) "pop" X.env (eval (.Subscript o (.Constant (.int 0) j p1) p0) X.env) = eval (.Subscript o (.Constant (.int 0) j p1) p0) X.env := by rfl) (hline : (apos.endLine == pos.line) = true := by rfl) :
    PE X (.Call (.Attribute (.Subscript o (.Constant (.int 0) j p1) p0) "pop" apos) [] [] pos) (tE W Ex (xDkPop f)) :=
  (pe_bm0 PySem.F.plainAttrs_list PySem.F.slot_list_pop PySem.F.type_list_pop mt_pop (pe_ix ix_list ho pe_int (fun _ _ => rfl)) hbase hline).imp fun σ H Q ⟨dk, F, G, en, d, S, h⟩ => by
  refine ⟨dk, F, G, en, d, S, (Post.bind h).mono fun t d1 H1 k1 D1 h1 v rv => ?_⟩
  cases t with
  | dck =>
    have rv := rv.atDk
    simp only [popD] at h1
    split at h1
    · rename_i i hi
      refine ⟨dk.1, _, 0, .ref dk.2, rv, rfl, dkGet hW D1, rfl, .inl ⟨rfl, _, .of D1.2.1⟩, dk.2, _, .int i, rfl, rfl, D1.2.1, by rw [List.length_map, List.getElem?_map, hi]; rfl, ?_⟩
      have := h1 (upd H1 dk.2 (.lst ((d1.cells.dropLast).map V.int))) Keep.upd2 (DkAt.cells (d' := { d1 with cells := d1.cells.dropLast }) D1 (by intro c; rw [hW]; rfl)) _ rep_int
      rw [List.map_dropLast] at this
      exact this
    · exact h1.elim
  | _ => exact h1.elim
theorem te_dkApp {p0 : Pos} (hW : W.dk = dkL) (ho : PE X o (tE W Ex f)) (he : PE X e (tE W Ex g)) (hbase : attributeBase (.Subscript o (.Constant (.int 0) j p1) p0) "append" X.env (eval (.Subscript o (.Constant (.int 0) j p1) p0) X.env) = eval (.Subscript o (.Constant (.int 0) j p1) p0) X.env := by rfl) (hline : (apos.endLine == pos.line) = true := by rfl) (hs : starEach [e] X.env = (false, eval e X.env) :: starEach [] X.env := by rfl) (hpl : (backTo pos (starEach [] X.env)).any (·.1) = false := by rfl) (hfew : ((((backTo pos (starEach [e] X.env)).all fun x => !x.fst) && (backToKw pos (keywordEach [] X.env)).all fun x => x.fst.isSome) && decide (([e].length + ([] : List Keyword).length + if ([] : List Keyword).isEmpty = true then 0 else 1) < 30)) = true := by rfl) :
    PE X (.Call (.Attribute (.Subscript o (.Constant (.int 0) j p1) p0) "append" apos) [e] [] pos) (tE W Ex (xDkApp f g)) :=
  (pe_bm PySem.F.plainAttrs_list PySem.F.slot_list_append PySem.F.type_list_append mt_append (pe_ix ix_list ho pe_int (fun _ _ => rfl)) (ta_cons he ta_nil hs) hbase hfew hline hs hpl).imp fun σ H Q ⟨dk, F, G, en, d, S, h⟩ => by
  refine ⟨dk, F, G, en, d, S, (Post.bind h).mono fun t d1 H1 k1 D1 h1 v rv => ?_⟩
  have S1 := S.keep k1 D1
  cases t with
  | dck =>
    have rv := rv.atDk
    refine ⟨dk.1, _, 0, .ref dk.2, rv, rfl, dkGet hW D1, rfl, .inl ⟨rfl, _, .of D1.2.1⟩, dk, F, G, en, d1, S1, ?_⟩
    have h1 : Post W Ex F dk H1 (fun u d2 H2 => Post W Ex F dk H2 (fun t d' H' => ∀ v, Rep W H' F dk t v → Q v H') (appD u d2)) (g en d1) := Post.bind h1
    unfold xCons xNil
    cases hg : g en d1 with
    | bad =>
      rw [hg] at h1
      exact h1.elim
    | exc xx d2 =>
      rw [hg] at h1
      rw [M.bind_exc hg]
      exact h1
    | ok u d2 =>
      rw [hg] at h1
      rw [M.bind_ok hg]
      intro H2 k2 D2 xs rx
      have h2 := h1 H2 k2 D2
      obtain ⟨y, rfl, ry⟩ := RepL.one_inv rx
      cases u with
      | int i =>
        simp only [appD] at h2
        simp only [Rep] at ry
        subst ry
        split at h2
        · rename_i hz
          refine ⟨dk.2, _, .int i, rfl, rfl, D2.2.1, by rw [List.length_map, sizeLine_eq]; exact hz, ?_⟩
          have := h2 (upd H2 dk.2 (.lst ((d2.cells ++ [i]).map V.int))) Keep.upd2 (DkAt.cells (d' := { d2 with cells := d2.cells ++ [i] }) D2 (by intro c; rw [hW]; rfl)) .non (by simp only [Rep])
          rw [List.map_append] at this
          exact this
        · exact h2.elim
      | _ => exact h2.elim
  | _ => exact h1.elim
/-- deck[2] = e -/
theorem ts_dkSet {p0 : Pos} (hW : W.dk = dkL) (ho : PE X o (tE W Ex g)) (he : PE X e (tE W Ex f)) (ha : ∀ v, assign (.Subscript o (.Constant (.int 2) j p1) p0) X.env v = (do
      let ov ← holding [v] (eval o X.env)
      let iv ← holding [v, ov] (eval (.Constant (.int 2) j p1) X.env)
      standAt p0
      holding [v, ov, iv] (setItem ov iv v)
      release [v, ov, iv] []) := by intro _; rfl) (hs : swapsWithSole [.Subscript o (.Constant (.int 2) j p1) p0] e pos.line X.env = pure false := by rfl) (hw : swappedStores [.Subscript o (.Constant (.int 2) j p1) p0] e X.env = pure none := by rfl)
    (h1 : (assignEach [.Subscript o (.Constant (.int 2) j p1) p0] X.env).map (·.2) = [assign (.Subscript o (.Constant (.int 2) j p1) p0) X.env] := by rfl) :
    PS X (.Assign [.Subscript o (.Constant (.int 2) j p1) p0] e pos) (tS W Ex (sDkSet g f)) :=
  (ps_asg he (pg_sub ho pe_int set_list ha) hs hw h1).imp fun Dd σ H ⟨dk, F0, H0, cp, en, d, ⟨F, G, R⟩, p⟩ => R.use p fun t d1 v H1 k1 R1 rv q => R1.use q fun u d2 w H2 k2 R2 rw q2 => by
    cases u with
    | dck =>
      cases t with
      | int i =>
        simp only [setD] at q2
        split at q2
        · rename_i hi
          have rv := R1.s.keepR k2 rv
          simp only [Rep] at rv
          have rw := rw.atDk
          have D2 := R2.s.deck
          refine ⟨dk.1, _, 2, 2, rw, rfl, by rw [D2.2.2, hW]; rfl, rfl, q2 _ _ ⟨F, G, R2.keep Keep.upd1 ⟨D2.1, by rw [upd_ne D2.1.symm]; exact D2.2.1, ?_⟩⟩⟩
          rw [upd_same, hW, rv]
          show some (HO.lst [.ref dk.2, .int d2.blend, .int i]) = some (.lst [.ref dk.2, .int d2.blend, .int (i.toNat : Int)])
          rw [Int.toNat_of_nonneg hi]
        · exact q2.elim
      | _ => exact q2.elim
    | _ => cases t <;> exact q2.elim
end
end TL

/-! TLl: two targets; lengths of arguments; a law's beginning and end. -/
namespace TL
open PySem PySem.Spec PyProof.Rows L2

/-! ### lengths of arguments -/
theorem xNil_len : ∀ (en : En) (d : D) (l : List T) (d' : D), xNil en d = .ok l d' → l.length = 0 := fun en d l d' h => by
  cases h
  rfl
theorem xCons_len {f : En → M T} {g : En → M (List T)} {n : Nat} (h : ∀ en d l d', g en d = .ok l d' → l.length = n) : ∀ en d l d', xCons f g en d = .ok l d' → l.length = n + 1 := fun en d l d' e => by
  unfold xCons M.bind Out.bind at e
  cases q : f en d with
  | ok t d1 =>
    rw [q] at e
    have e : Out.bind (g en d1) (fun l => .pure (t :: l)) = .ok l d' := e
    cases q2 : g en d1 with
    | ok m d2 =>
      rw [q2] at e
      have e : Out.ok (t :: m) d2 = .ok l d' := e
      injection e with e1 e2
      rw [← e1, List.length_cons, h _ _ _ _ q2]
    | exc x d2 =>
      rw [q2] at e
      cases e
    | bad =>
      rw [q2] at e
      cases e
  | exc x d1 =>
    rw [q] at e
    cases e
  | bad =>
    rw [q] at e
    cases e

/-! ### a, b = .. -/
def sPar (i j : Nat) (fl : En → M (List T)) : En → MS := fun en => (fl en).bind fun l => match l with
  | [a, b] => .pure (.nx, setS (setS en i (.val a)) j (.val b))
  | _ => .bad
def sPar3 (i j k : Nat) (fl : En → M (List T)) : En → MS := fun en => (fl en).bind fun l => match l with
  | [a, b, c] => .pure (.nx, setS (setS (setS en i (.val a)) j (.val b)) k (.val c))
  | _ => .bad
def sAsgG (a : T → En → Option En) (f : En → M T) : En → MS := fun en => (f en).bind fun t => (M.opt (a t en)).bind fun en' => .pure (.nx, en')
section
variable {W : Wd} {Ex : XK} {X : Cx} {a b c e tg : Expr} {fl : En → M (List T)} {f : En → M T} {px py pz pt pos : Pos} {i j l kt : Nat} {k2 pt2} {x y z : Str} {ag : T → En → Option En} {is : List Nat}
theorem StR'.useA {dk : Dk} {F F0 G : Addr → Prop} {H H0 : Hp} {cp : Cps} {σ : L2.St} {en : En} {d : D} {k : List T → MS} {Dd : Ends} {Q : List V → Hp → Prop} (R : StR' W dk F0 H0 cp F G σ H en d) (p : PostS W Ex dk F0 H0 cp Dd (M.bind (fl en) k d))
    (q : ∀ t d1 v H1, StR' W dk F0 H0 cp F G σ H1 en d1 → RepL W H1 F dk t v → PostS W Ex dk F0 H0 cp Dd (k t d1) → Q v H1) : tA W Ex fl σ H Q := by
  refine ⟨dk, F, G, en, d, R.s, ?_⟩
  unfold M.bind Out.bind at p
  cases e : fl en d with
  | ok t d1 =>
    rw [e] at p
    exact fun H1 k1 D1 v rv => q t d1 v H1 (R.keep k1 D1) rv p
  | exc x d1 =>
    rw [e] at p
    exact fun c od H1 k1 D1 xr => p c od H1 (R.kp.trans k1) D1 (xr.weak R.ff)
  | bad =>
    rw [e] at p
    exact p.elim
theorem ts_par (hc : X.calm = true) (hN : X.N.Nodup) (ha : PA X [a, b] (tA W Ex fl)) (hij : i ≠ j := by decide) (hi : X.N[i]? = some x := by rfl) (hj : X.N[j]? = some y := by rfl)
    (hx : X.env.scope.names.lookup x = some .local := by rfl) (hy : X.env.scope.names.lookup y = some .local := by rfl)
    (hw : swappedStores [.Tuple [.Name x px, .Name y py] kt pt] (.Tuple [a, b] k2 pt2) X.env = pure (some [x, y]) := by rfl)
    (hs : swapsWithSole [.Tuple [.Name x px, .Name y py] kt pt] (.Tuple [a, b] k2 pt2) pos.line X.env = pure false := by rfl) :
    PS X (.Assign [.Tuple [.Name x px, .Name y py] kt pt] (.Tuple [a, b] k2 pt2) pos) (tS W Ex (sPar i j fl)) :=
  (ps_par hc hN hi hj hij hx hy ha hw hs).imp fun Dd σ H ⟨dk, F0, H0, cp, en, d, ⟨F, G, R⟩, p⟩ => R.useA p fun t d1 v H1 R1 rv q => by
    match t, rv, q with
    | [], _, q => exact q.elim
    | [_], _, q => exact q.elim
    | _ :: _ :: _ :: _, _, q => exact q.elim
    | [u, w], rv, q =>
      obtain ⟨x1, x2, rfl, r1, r2⟩ := RepL.two_inv rv
      have R2 := R1.setVal (i := i) r1
      exact ⟨x1, x2, rfl, q _ _ ⟨F, G, R2.setVal (i := j) r2⟩⟩
theorem ts_par3 (hc : X.calm = true) (hN : X.N.Nodup) (ha : PA X [a, b, c] (tA W Ex fl)) (hij : i ≠ j := by decide) (hil : i ≠ l := by decide) (hjl : j ≠ l := by decide) (hi : X.N[i]? = some x := by rfl) (hj : X.N[j]? = some y := by rfl) (hl : X.N[l]? = some z := by rfl)
    (hx : X.env.scope.names.lookup x = some .local := by rfl) (hy : X.env.scope.names.lookup y = some .local := by rfl) (hz : X.env.scope.names.lookup z = some .local := by rfl)
    (hw : swappedStores [.Tuple [.Name x px, .Name y py, .Name z pz] kt pt] (.Tuple [a, b, c] k2 pt2) X.env = pure (some [x, y, z]) := by rfl)
    (hs : swapsWithSole [.Tuple [.Name x px, .Name y py, .Name z pz] kt pt] (.Tuple [a, b, c] k2 pt2) pos.line X.env = pure false := by rfl) :
    PS X (.Assign [.Tuple [.Name x px, .Name y py, .Name z pz] kt pt] (.Tuple [a, b, c] k2 pt2) pos) (tS W Ex (sPar3 i j l fl)) :=
  (ps_par3 hc hN hi hj hl hij hil hjl hx hy hz ha hw hs).imp fun Dd σ H ⟨dk, F0, H0, cp, en, d, ⟨F, G, R⟩, p⟩ => R.useA p fun t d1 v H1 R1 rv q => by
    match t, rv, q with
    | [], _, q => exact q.elim
    | [_], _, q => exact q.elim
    | [_, _], _, q => exact q.elim
    | _ :: _ :: _ :: _ :: _, _, q => exact q.elim
    | [u, w, o], rv, q =>
      simp only [RepL] at rv
      obtain ⟨x1, _, rfl, r1, x2, _, rfl, r2, x3, _, rfl, r3, rfl⟩ := rv
      exact ⟨x1, x2, x3, rfl, q _ _ ⟨F, G, ((R1.setVal (i := i) r1).setVal (i := j) r2).setVal (i := l) r3⟩⟩
/-- target = value, by a target's own words -/
theorem ts_asg (he : PE X e (tE W Ex f)) (hg : PG X tg (tG W is ag)) (hs : swapsWithSole [tg] e pos.line X.env = pure false := by rfl) (hw : swappedStores [tg] e X.env = pure none := by rfl)
    (h1 : (assignEach [tg] X.env).map (·.2) = [assign tg X.env] := by rfl) : PS X (.Assign [tg] e pos) (tS W Ex (sAsgG ag f)) :=
  (ps_asg he hg hs hw h1).imp fun Dd σ H ⟨dk, F0, H0, cp, en, d, ⟨F, G, R⟩, p⟩ => R.use p fun t d1 v H1 k1 R1 rv q => by
    cases ea : ag t en with
    | none =>
      rw [ea] at q
      exact q.elim
    | some en' =>
      rw [ea] at q
      exact ⟨dk, F, G, en, d1, t, en', R1.s, rv, ea, fun σ' S' _ => q _ _ ⟨F, G, S', R1.ff, R1.g0, R1.kp, R1.vs, R1.fz⟩⟩
end

/-! ### a law's beginning: the script -/
/-- the law's promise: of at most n whole numbers it says True -/
def spS (K : PySem.W.Frag) (n : Nat) : Sp := fun vs H Q _ => ∃ (a : Addr) (ns : List Int), vs = [.ref a] ∧ SqL K H a (ns.map V.int) ∧ ns.length ≤ n ∧ ∀ H', Q (.bl true) H'
/-- behind the deck's making: the rest of the law, in trees -/
theorem law_rest {W : Wd} {dk : Dk} {H : Hp} {d : D} {σ : L2.St} {en : En} {g : En → MS} {Q : VK} (hD : DkAt W dk H d) (hl : en.length = σ.length) (hen : ∀ (i : Nat) (s : Sl), en[i]? = some s → s = .no ∨ (s = .val .dck ∧ σ[i]? = some (some (.ref dk.1))))
    (hr : ∃ d', (∃ en', g en d = .ok (.ret (.bl true), en') d')) (hq : ∀ H', Q (.bl true) H') : tS W E0 g { nx := fun _ H' => Q .non H', rt := Q } σ H := by
  refine ⟨dk, fun a => a = dk.1 ∨ a = dk.2, H, [], en, d, ⟨fun a => a = dk.1 ∨ a = dk.2, fun _ => False, ⟨hl, fun i t e => ?_, fun i o e => ?_, fun i j o o' p e => ?_, fun _ z => z.elim, fun _ z => z.elim, fun a z => ?_, .inl rfl, .inr rfl, hD⟩, fun _ z => z, fun _ z => z.elim, .refl _ _, (fun c hc => nomatch hc), fun a z => ?_⟩, ?_⟩
  · rcases hen i _ e with z | ⟨z, h⟩
    · cases z
    · cases z
      exact ⟨_, h, by simp only [Rep]⟩
  · rcases hen i _ e with z | ⟨z, h⟩ <;> cases z
  · rcases hen i _ e with z | ⟨z, h⟩ <;> cases z
  · rcases z with rfl | rfl
    · rw [hD.2.2]
      exact fun z => nomatch z
    · rw [hD.2.1]
      exact fun z => nomatch z
  · rcases z with rfl | rfl
    · rw [hD.2.2]
      exact fun z => nomatch z
    · rw [hD.2.1]
      exact fun z => nomatch z
  · obtain ⟨d', en', e⟩ := hr
    rw [e]
    intro v H' k D' r
    simp only [Rep] at r
    rw [r]
    exact hq _

/-! ### a law's end -/
/-- the script alone is tracked, if it is no object of the module -/
def scrH (K : PySem.W.Frag) (a : Addr) (o : Obj) (xs : List V) : Hp := fun b => if b = a ∧ K.lookup a = none then some (.frz o (.lst xs)) else none
theorem scrH_some {K : PySem.W.Frag} {a b : Addr} {o : Obj} {xs : List V} {u : HO} (h : scrH K a o xs b = some u) : b = a ∧ K.lookup a = none ∧ u = .frz o (.lst xs) := by
  unfold scrH at h
  split at h
  · rename_i z
    exact ⟨z.1, z.2, (Option.some.inj h).symm⟩
  · cases h
/-- a def's promise, called by the law's caller alone -/
def CallS (P : Program) (w : World) (K : PySem.W.Frag) (mg : Str → Option Value) (base : Heap) (CX : CXT) (fa : Addr) (fd : FuncData) (x : Str) (sp : Sp) : Prop :=
  ∀ (s : Shared) (H : Hp) (u : Value) (v : V) (Q : VK) (E : XK), Env0 P w K mg base callerA [] s H → BindsTo s fd ⟨[u], []⟩ [(x, u)] → RelV v u → sp [v] H Q E → codeAny (model P w) callerA (.call (.ref fa) ⟨[u], []⟩) (CR CX [] P w H s Q E) s
section
variable {P : Program} {w : World} {K : PySem.W.Frag} {mg mb : Str → Option Value} {CX : CXT} {fa a : Addr} {fd : FuncData} {x : Str} {n : Nat} {s1 : Shared} {vs : List Value} {ns : List Int}
theorem law_run (KX : K.In s1.heap) (gM : s1.heap.Ns mainGlobals mg) (gB : s1.heap.Ns builtinsNs mb) (boot : ∀ y : Str, y ≠ "__name__" → mb y = bootBuiltins y) (nl : s1.heap.NoLimit) (g0 : s1.gens = #[])
    (ha : s1.heap.get? a = some { cls := .type "list", data := .seq vs.toArray }) (ia : IntsAre vs ns) (hn : ns.length ≤ n) (hz : n ≤ sizeLine)
    (F : ∀ base : Heap, K.In base → base.Ns mainGlobals mg → CallS P w K mg base CX fa fd x (spS K n)) (bnd : ∀ (s : Shared) (u : Value), BindsTo s fd ⟨[u], []⟩ [(x, u)])
    (hCX : ∀ (H : Hp) (e : Value) (s' : Shared), ¬ CX [] H s1 (fun _ _ _ => False) e s') :
    codeAny (model P w) callerA (.call (.ref fa) ⟨[.ref a], []⟩) (fun r s' => r = .ok (.ret (.bool true)) ∧ OldK s1.heap s'.heap ∧ s'.os = s1.os ∧ AllBare s'.gens) s1 := by
  have are := L2.vals_ints ia
  have cnt : ns.length = vs.length := by
    have := are.length
    rwa [List.length_map] at this
  let obj : Obj := { cls := .type "list", data := .seq vs.toArray }
  let Hs : Hp := scrH K a obj (ns.map V.int)
  have hid : ∀ {b : Addr} {o : Obj}, s1.heap.get? b = some o → Hs b = none → (hidT s1.heap Hs).get? b = some o := fun h1 h2 => hidT_get h1 h2
  have dct : ∀ {b : Addr} {o : Obj} {es : Array DictEntry} {ep : Nat}, s1.heap.get? b = some o → o.data = .dict es ep → Hs b = none := fun {b o es ep} h1 h2 => by
    cases q : Hs b with
    | none => rfl
    | some u =>
      obtain ⟨rfl, _, _⟩ := scrH_some q
      rw [ha] at h1
      cases h1
      exact nomatch h2
  have nsH : ∀ {b : Addr} {m : Str → Option Value}, s1.heap.Ns b m → (hidT s1.heap Hs).Ns b m := fun ⟨o, es, ep, h1, h2, r⟩ => ⟨o, es, ep, hid h1 (dct h1 h2), h2, r⟩
  have kinH : K.In (hidT s1.heap Hs) := fun b o h1 => hid (KX b o h1) (by
    cases q : Hs b with
    | none => rfl
    | some u =>
      obtain ⟨rfl, hk, _⟩ := scrH_some q
      rw [hk] at h1
      cases h1)
  have ok0 : HOk P w Hs s1.heap := fun b u q => by
    obtain ⟨rfl, _, rfl⟩ := scrH_some q
    exact ⟨ha, by rw [List.length_map]; exact Nat.le_trans hn hz, vs, _, are, ha⟩
  have seq0 : SqL K Hs a (ns.map V.int) := by
    cases hk : K.lookup a with
    | none => exact .inl (.inr ⟨obj, if_pos ⟨rfl, hk⟩⟩)
    | some o =>
      have h1 := KX a o hk
      rw [ha] at h1
      cases h1
      exact .inr ⟨_, vs.toArray, _, hk, rfl, rfl, rfl, by rw [List.size_toArray, ← cnt]; exact Nat.le_trans hn hz, by simpa using are⟩
  have env0 : Env0 P w K mg (hidT s1.heap Hs) callerA [] s1 Hs :=
    { frames := rfl, mod := ⟨kinH, nsH gM, ⟨mb, nsH gB, boot⟩, by obtain ⟨mc, m1, m2⟩ := nl; exact ⟨mc, nsH m1, m2⟩⟩
      bs := fun b o h1 => of_hidT h1, bsz := Nat.le_of_eq (hidT_size _ _), funs := trivial, frf := (fun b hb => nomatch hb), hok := ok0, bare := .of_eq g0 }
  refine codeAny_mono (F _ kinH (nsH gM) s1 Hs (.ref a) (.ref a) (fun v _ => v = .bl true) (fun _ _ _ => False) env0 (bnd s1 _) rfl ⟨a, ns, rfl, seq0, hn, fun _ => rfl⟩) ?_
  rintro (er | (_ | _ | _ | u)) s2 hr
  · exact (hCX Hs er s2 hr).elim
  all_goals first | exact False.elim hr | skip
  obtain ⟨v, H2, eos, bare, un, ok2, rel, ev⟩ := hr
  have ev : v = .bl true := ev
  subst ev
  have rel : u = .bool true := rel
  subst rel
  refine ⟨rfl, OldK.of_keep fun b o h1 => ?_, eos, bare⟩
  cases q : Hs b with
  | none => exact un.keep b o h1 q (fun z => nomatch z) (fun z => nomatch z)
  | some u =>
    obtain ⟨rfl, _, rfl⟩ := scrH_some q
    have h2 := (ok2 b _ (un.frzs b _ _ q)).1
    rw [ha] at h1
    cases h1
    exact h2
end
/-- the goal that the head leaves -/
theorem law_walk {l : PySem.W.OpenLaw} {n : Nat} {q : Program} {loose : List Str} {XP : (Str → Option Value) → Heap → Prop} {YP : World → Heap → Prop} {d : DefRec} {K : Params → PySem.W.Frag} {CX : World → CXT} {x : Str}
    (hn : l.most = some n) (hz : n ≤ sizeLine) (hdf : d.params.defaults = []) (hY : ∀ (w : World) (h : Heap), YP w h → (K w.params).In h)
    (F : ∀ (w : World) (mg : Str → Option Value) (fa : Addr) (h : Heap), (K w.params).In h → h.Ns mainGlobals mg → mg d.name = some (.ref fa) →
      ∃ fd : FuncData, (∀ (s : Shared) (u : Value), BindsTo s fd ⟨[u], []⟩ [(x, u)]) ∧
        ∀ base : Heap, (K w.params).In base → base.Ns mainGlobals mg → CallS l.prog w (K w.params) mg base (CX w) fa fd x (spS (K w.params) n))
    (hCX : ∀ (w : World) (H : Hp) (s : Shared) (e : Value) (s' : Shared), ¬ CX w [] H s (fun _ _ _ => False) e s') :
    PySem.W.WalkO q loose XP YP l.row.toRowW d [] (fun f vs => PySem.call f vs) :=
  Att.attach_call hn hdf fun w s₀ s₁ mg mb fa o pm cd doc a vs ns G Y ho hd hcd hmg hobj hints hlen hg => by
    obtain ⟨fd, hb, hF⟩ := F w mg fa s₁.heap (hY w _ Y) G.T.g hmg
    exact law_run (hY w _ Y) G.T.g G.T.b G.T.builtins G.T.nolimit hg hobj hints hlen hz hF hb fun H e s' => hCX w H s₁ e s'
end TL

/-! TLm: comparisons as tests; keywords. -/
namespace TL
open PySem PySem.Spec PyProof.Rows L2
section
variable {W : Wd} {Ex : XK} {X : Cx} {a b c e : Expr} {f g h : En → M T} {pos p : Pos}
theorem tt_eq (hu : X.A.units + 100 < cLine) (hK : W.K = X.K) (ha : PE X a (tE W Ex f)) (hb : PE X b (tE W Ex g)) : PT X (.Compare a [.Eq] [b] pos) (tT W Ex (xTest (xBin eqT f g))) := tt_cmp (op_eqA (by omega)) (hK ▸ agr_eq) ha hb (nomark _)
theorem tt_ne (hu : X.A.units + 100 < cLine) (hK : W.K = X.K) (ha : PE X a (tE W Ex f)) (hb : PE X b (tE W Ex g)) : PT X (.Compare a [.NotEq] [b] pos) (tT W Ex (xTest (xBin neT f g))) := tt_cmp (op_neA (by omega)) (hK ▸ agr_ne) ha hb (nomark _)
theorem tt_lt (ha : PE X a (tE W Ex f)) (hb : PE X b (tE W Ex g)) : PT X (.Compare a [.Lt] [b] pos) (tT W Ex (xTest (xBin ltT f g))) := tt_cmp op_ltA agr_lt ha hb (nomark _)
theorem tt_le (ha : PE X a (tE W Ex f)) (hb : PE X b (tE W Ex g)) : PT X (.Compare a [.LtE] [b] pos) (tT W Ex (xTest (xBin leT f g))) := tt_cmp op_leA agr_le ha hb (nomark _)
theorem tt_gt (ha : PE X a (tE W Ex f)) (hb : PE X b (tE W Ex g)) : PT X (.Compare a [.Gt] [b] pos) (tT W Ex (xTest (xBin gtT f g))) := tt_cmp op_gtA agr_gt ha hb (nomark _)
theorem tt_ge (ha : PE X a (tE W Ex f)) (hb : PE X b (tE W Ex g)) : PT X (.Compare a [.GtE] [b] pos) (tT W Ex (xTest (xBin geT f g))) := tt_cmp op_geA agr_ge ha hb (nomark _)
theorem tt_isN (ha : PE X a (tE W Ex f)) (hb : PE X b (tE W Ex g)) : PT X (.Compare a [.Is] [b] pos) (tT W Ex (xTest (xBin isNonT f g))) := tt_cmp op_isN agr_isN ha hb (nomark _)
theorem tt_notN (ha : PE X a (tE W Ex f)) (hb : PE X b (tE W Ex g)) : PT X (.Compare a [.IsNot] [b] pos) (tT W Ex (xTest (xBin notNonT f g))) := tt_cmp op_notN agr_notN ha hb (nomark _)
theorem tt_in (hu : X.A.units + 100 < cLine) (hK : W.K = X.K) (ha : PE X a (tE W Ex f)) (hb : PE X b (tE W Ex g)) (hm : behindInMarks .In b = false := by with_unfolding_all rfl) : PT X (.Compare a [.In] [b] pos) (tT W Ex (xTest (xBin inT f g))) := tt_cmp (op_inA (by omega)) (hK ▸ agr_in) ha hb hm
theorem tt_notIn (hu : X.A.units + 100 < cLine) (hK : W.K = X.K) (ha : PE X a (tE W Ex f)) (hb : PE X b (tE W Ex g)) (hm : behindInMarks .NotIn b = false := by with_unfolding_all rfl) : PT X (.Compare a [.NotIn] [b] pos) (tT W Ex (xTest (xBin notInT f g))) := tt_cmp (op_notInA (by omega)) (hK ▸ agr_notIn) ha hb hm
theorem tt_dkNe {o : Expr} {p0 p1 p2 : Pos} {j : Nat} (hW : W.dk = dkL) (hu : X.A.units + 100 < cLine) (ho : PE X o (tE W Ex f)) : PT X (.Compare (.Subscript o (.Constant (.int 0) j p1) p0) [.NotEq] [.List [] p2] pos) (tT W Ex (xTest (xDkNe f))) :=
  (pt_cmpR (op_neD (by omega)) (pe_ix ix_list ho pe_int (fun _ _ => rfl)) (pe_lst pa_nil) (nomark _)).imp fun σ H Q ⟨dk, F, G, en, d, S, h⟩ => by
  have h := Post.bind (m := xDkNe f en) h
  refine ⟨dk, F, G, en, d, S, (Post.bind h).mono fun t d1 H1 k1 D1 h1 v rv => ?_⟩
  cases t with
  | dck =>
    have rv := rv.atDk
    refine ⟨dk.1, _, 0, .ref dk.2, rv, rfl, dkGet hW D1, rfl, Nat.zero_le _, fun p hp => ?_⟩
    have sm : Same H1 (upd H1 p (.lst [])) := upd_same' hp
    refine ⟨.list (intsD d1.cells), .list [], .lst (.of (sm _ _ D1.2.1)) (intsD_dp _), .lst (.of upd_same) .nil, intsD_shaped _, rfl, _, rfl, ?_⟩
    rw [intsD_ne]
    exact h1 _ (.of sm) (D1.same sm) _ (.refl _ _) (D1.same sm)
  | _ => exact h1.elim
end
/-- a def called with keywords alone -/
theorem bindsK {K : PySem.W.Frag} {x qual : Str} {st : Stmt} {f : Addr} {fd : FuncData} {ks ps : List Str} {is : List Nat} (F : Fun K x qual st f fd)
    (h : ∀ (kV doc pm : Value) (an : Option Addr) (cdv ct : Value) (ws : List Value), ws.length = ks.length → bindArgs (PySem.W.fnOf x qual (defArgs st) (defBody st) (defScope st) .none kV doc pm an cdv ct) ⟨[], ks.zip ws⟩ = pure (ps.zip (perm is ws))) :
    ∀ (s : Shared) (ws : List Value), ws.length = ks.length → BindsTo s fd ⟨[], ks.zip ws⟩ (ps.zip (perm is ws)) := fun s ws hl => by
  obtain ⟨oc, od, kV, doc, pm, an, cdv, ct, osl, rfl, lk, hcd⟩ := F.ex
  exact .of_eq (h kV doc pm an cdv ct ws hl)
/-- so many draws, at most -/
def Dok (k : Nat) (d : D) : Prop := d.laps ≤ k ∧ d.cells.length ≤ 63
/-- the deck's making -/
def spDeck (W : Wd) (n : Nat) : Sp := fun vs H Q _ => ∃ (a : Addr) (ns : List Int), vs = [.ref a] ∧ SqL W.K H a (ns.map V.int) ∧ ns.length ≤ n ∧ ∀ (H' : Hp) (dk : Dk) (d : D), DkAt W dk H' d → Dok 0 d → Q (.ref dk.1) H'
/-- the frame behind the deck's making -/
def lawE (n i : Nat) : En := (List.replicate n Sl.no).set i (.val .dck)
theorem law_rest2 {W : Wd} {dk : Dk} {H : Hp} {d : D} {σ : L2.St} {n i : Nat} {g : En → MS} {Q : VK} (hD : DkAt W dk H d) (hl : σ.length = n) (h0 : Dok 0 d)
    (hr : ∀ d : D, Dok 0 d → ∃ d' en', g (lawE n i) d = .ok (.ret (.bl true), en') d') (hq : ∀ H', Q (.bl true) H') : tS W E0 g { nx := fun _ H' => Q .non H', rt := Q } (σ.set i (some (.ref dk.1))) H := by
  refine law_rest (en := lawE n i) hD (by unfold lawE; rw [List.length_set, List.length_set, List.length_replicate, hl]) (fun j s e => ?_) (hr d h0) hq
  unfold lawE at e
  by_cases q : i = j
  · subst q
    have hi : i < n := by
      have := (List.getElem?_eq_some_iff.mp e).1
      simpa using this
    rw [List.getElem?_set_self (by simpa using hi)] at e
    cases e
    exact .inr ⟨rfl, List.getElem?_set_self (by rw [hl]; exact hi)⟩
  · rw [List.getElem?_set_ne q, List.getElem?_replicate] at e
    split at e
    · cases e
      exact .inl rfl
    · cases e
theorem deck_cut {ns : List Int} (h : ns.length ≤ 63) : cutV (ns.map V.int) none (some 63) = ns.map V.int := by
  unfold cutV
  rw [List.length_map, HT.sIx_none, show HT.sIx ns.length ns.length (some 63) = min 63 ns.length from HT.sIx_nat _ _ 63]
  rw [List.drop_zero, Nat.sub_zero, Nat.min_eq_right h]
  exact List.take_of_length_le (by rw [List.length_map]; exact Nat.le_refl _)
end TL

/-! TLn: plain law: how the functions on trees run. -/
namespace TL
open PySem PySem.Spec PyProof.Rows L2

section
variable {α β : Type} {en : En} {d d1 : D} {i j k : Nat} {t u : T} {f g h : En → M T} {fl gl : En → M (List T)} {c cb : En → M Bool}
@[simp] theorem ev_pure (a : α) : M.pure a d = .ok a d := (rfl)
@[simp] theorem ev_bind (m : M α) (k : α → M β) : M.bind m k d = Out.bind (m d) k := (rfl)
@[simp] theorem ev_ok (a : α) (k : α → M β) : Out.bind (.ok a d) k = k a d := (rfl)
@[simp] theorem ev_exc (x : Xn) (k : α → M β) : Out.bind (.exc x d) k = .exc x d := (rfl)
@[simp] theorem ev_badO (k : α → M β) : Out.bind (.bad : Out α) k = .bad := (rfl)
@[simp] theorem ev_bad : (M.bad : M α) d = .bad := (rfl)
@[simp] theorem ev_opt (a : α) : M.opt (some a) d = .ok a d := (rfl)
@[simp] theorem ev_opt0 : M.opt (none : Option α) d = .bad := (rfl)
@[simp] theorem ev_noX (m : M α) : M.noX m d = (match m d with | .ok a d' => .ok a d' | _ => .bad) := (rfl)
@[simp] theorem ev_C : xC t en d = .ok t d := (rfl)
@[simp] theorem ev_Var : xVar i en d = (match getS en i with | .val t => .ok t d | _ => .bad) := by
  unfold xVar
  cases getS en i <;> rfl
@[simp] theorem ev_Bin (op : T → T → Option T) : xBin op f g en d = (f en d).bind fun x => (g en).bind fun y => .opt (op x y) := (rfl)
@[simp] theorem ev_Un (op : T → Option T) : xUn op f en d = (f en d).bind fun x => .opt (op x) := (rfl)
@[simp] theorem ev_Test : xTest f en d = (f en d).bind fun x => .opt (boolT x) := (rfl)
@[simp] theorem ev_boolT (b : Bool) : boolT (.bl b) = some b := (rfl)
@[simp] theorem ev_If : xIf c f g en d = (c en d).bind fun x => match x with | true => f en | false => g en := (rfl)
@[simp] theorem ev_NotB : xNotB c en d = (c en d).bind fun x => .pure (!x) := (rfl)
@[simp] theorem ev_AndB : xAndB c cb en d = (c en d).bind fun x => match x with | true => cb en | false => .pure false := (rfl)
@[simp] theorem ev_OrB : xOrB c cb en d = (c en d).bind fun x => match x with | false => cb en | true => .pure true := (rfl)
@[simp] theorem ev_And : xAnd f g en d = (f en d).bind fun x => match x with | .bl true => g en | .bl false => .pure (.bl false) | _ => .bad := (rfl)
@[simp] theorem ev_Or : xOr f g en d = (f en d).bind fun x => match x with | .bl false => g en | .bl true => .pure (.bl true) | _ => .bad := (rfl)
@[simp] theorem ev_Yes : xYes en d = .ok true d := (rfl)
@[simp] theorem ev_Chain (op op' : T → T → Option T) : xChain op op' f g h en d = (f en d).bind fun x => (g en).bind fun y => (M.opt (op x y)).bind fun z => match z with | .bl true => (h en).bind fun w => .opt (op' y w) | .bl false => .pure (.bl false) | _ => .bad := (rfl)
@[simp] theorem ev_Nil : xNil en d = .ok [] d := (rfl)
@[simp] theorem ev_Cons : xCons f fl en d = (f en d).bind fun x => (fl en).bind fun l => .pure (x :: l) := (rfl)
@[simp] theorem ev_Tup : xTup fl en d = (fl en d).bind fun l => .opt (capL l.length (.tup l)) := (rfl)
@[simp] theorem ev_Lst : xLst fl en d = (fl en d).bind fun l => .opt (capL l.length l) := (rfl)
@[simp] theorem ev_ToL : xToL fl en d = (fl en d).bind fun l => .pure (.lst l) := (rfl)
@[simp] theorem ev_Call (op : List T → Option T) : xCall op fl en d = (fl en d).bind fun l => .opt (op l) := (rfl)
@[simp] theorem ev_CallN (op : List T → Option (List T)) : xCallN op fl en d = (fl en d).bind fun l => .opt (op l) := (rfl)
@[simp] theorem ev_Items : xItems f en d = (f en d).bind fun t => .opt (itemsT t) := (rfl)
@[simp] theorem ev_It (op : List T → Option (List T)) : xIt op fl en d = (fl en d).bind fun l => .opt (op l) := (rfl)
@[simp] theorem ev_It2 (op : List T → List T → Option (List T)) : xIt2 op fl gl en d = (fl en d).bind fun l => (gl en).bind fun m => .opt (op m l) := (rfl)
@[simp] theorem ev_Pk : xPk i f en d = ((f (frz i en)).noX d).bind fun t => .opt (guardT t) := (rfl)
@[simp] theorem ev_PkB : xPkB i c en d = (c (frz i en)).noX d := (rfl)
@[simp] theorem ev_Fn (Fm : List T → M T) : xFn Fm fl en d = (fl en d).bind Fm := (rfl)
@[simp] theorem ev_Sl (lo hi : En → M (Option Int)) : xSl f lo hi en d = (f en d).bind fun x => (lo en).bind fun l => (hi en).bind fun h => .opt (slT x l h) := (rfl)
@[simp] theorem ev_Part : xPart f en d = (f en d).bind fun x => .opt (intT? x) := (rfl)
@[simp] theorem ev_NoPart : xNoPart en d = .ok none d := (rfl)
@[simp] theorem ev_Lc (a : T → En → Option En) (vs : List Nat) : xLc fl a vs c f en d = (fl en d).bind fun l => (M.opt (capL l.length ())).bind fun _ => lcL a c f (wipeE en vs) l := (rfl)
@[simp] theorem ev_wipe0 : wipeE en [] = en := (rfl)
@[simp] theorem ev_wipe1 (v : Nat) (vs : List Nat) : wipeE en (v :: vs) = setS (wipeE en vs) v .no := (rfl)
/-! statements -/
variable {s s' : En → MS}
@[simp] theorem ev_Seq : sSeq s s' en d = (s en d).bind fun r => match r.1 with | .nx => s' r.2 | _ => .pure r := (rfl)
@[simp] theorem ev_Asg : sAsg i f en d = (f en d).bind fun t => .pure (.nx, setS en i (.val t)) := (rfl)
@[simp] theorem ev_Expr : sExpr f en d = (f en d).bind fun _ => .pure (.nx, en) := (rfl)
@[simp] theorem ev_Ret : sRet f en d = (f en d).bind fun t => .pure (.ret t, en) := (rfl)
@[simp] theorem ev_sIf : sIf c s s' en d = (c en d).bind fun b => match b with | true => s en | false => s' en := (rfl)
@[simp] theorem ev_Next : sNext en d = .ok (.nx, en) d := (rfl)
@[simp] theorem ev_For (a : T → En → Option En) : sFor fl a s en d = (fl en d).bind fun l => forL a s l en := (rfl)
@[simp] theorem ev_Frz : sFrz i s en d = s (frz i en) d := (rfl)
@[simp] theorem ev_New : sNew i fl en d = (fl en d).bind fun l => .pure (.nx, setS en i (.own (.lst l))) := (rfl)
@[simp] theorem ev_NewD : sNewD i en d = .ok (.nx, setS en i (.own (.dic []))) d := (rfl)
@[simp] theorem ev_App : sApp i f en d = withL en i (fun l => (f en).bind fun t => (M.opt (capL (l.length + 1) ())).bind fun _ => .pure (.nx, setS en i (.own (.lst (l ++ [t]))))) d := (rfl)
@[simp] theorem ev_Ext : sExt i f en d = withL en i (fun l => (f en).bind fun t => (M.opt (lstT? t)).bind fun m => (M.opt (capL (l.length + m.length) ())).bind fun _ => .pure (.nx, setS en i (.own (.lst (l ++ m))))) d := (rfl)
@[simp] theorem ev_Put : sPut i f g en d = withL en i (fun l => (g en).bind fun t => (f en).bind fun k => (M.opt ((intT1 k).bind (ixN l.length))).bind fun j => .pure (.nx, setS en i (.own (.lst (l.set j t))))) d := (rfl)
@[simp] theorem ev_withL (k : List T → MS) : withL en i k d = (match getS en i with | .own (.lst l) => k l d | _ => .bad) := by
  unfold withL
  cases getS en i with
  | no => rfl
  | val t => rfl
  | own o => cases o <;> rfl
@[simp] theorem ev_Par : sPar i j fl en d = (fl en d).bind fun l => match l with | [a, b] => .pure (.nx, setS (setS en i (.val a)) j (.val b)) | _ => .bad := (rfl)
@[simp] theorem ev_Par3 : sPar3 i j k fl en d = (fl en d).bind fun l => match l with | [a, b, c] => .pure (.nx, setS (setS (setS en i (.val a)) j (.val b)) k (.val c)) | _ => .bad := (rfl)
@[simp] theorem ev_AsgG (a : T → En → Option En) : sAsgG a f en d = (f en d).bind fun t => (M.opt (a t en)).bind fun en' => .pure (.nx, en') := (rfl)
@[simp] theorem ev_lstT (l : List T) : lstT? (.lst l) = some l := (rfl)
@[simp] theorem ev_frz : frz i en = (match getS en i with | .own o => setS en i (.val o.t) | _ => en) := (rfl)
@[simp] theorem ev_Ot (l : List T) : (O.lst l).t = .lst l := (rfl)
@[simp] theorem ev_Otd (l : List (Key × T)) : (O.dic l).t = .dic l := (rfl)
@[simp] theorem ev_get0 (x : Sl) : getS (x :: en) 0 = x := (rfl)
@[simp] theorem ev_getS (x : Sl) (n : Nat) : getS (x :: en) (n + 1) = getS en n := (rfl)
@[simp] theorem ev_set0 (x y : Sl) : setS (x :: en) 0 y = y :: en := (rfl)
@[simp] theorem ev_setS (x y : Sl) (n : Nat) : setS (x :: en) (n + 1) y = x :: setS en n y := (rfl)
@[simp] theorem ev_fn (n : Nat) (s : En → MS) (ts : List T) : fnM n s ts d = (match s (startE n ts) d with | .ok a d' => retM a d' | _ => .bad) := by
  unfold fnM
  rw [ev_bind, ev_noX]
  cases s (startE n ts) d <;> rfl
@[simp] theorem ev_retT (t : T) (e : En) : retM (.ret t, e) d = .ok t d := (rfl)
@[simp] theorem ev_retN (e : En) : retM (.nx, e) d = .ok .non d := (rfl)
@[simp] theorem ev_startE (n : Nat) (ts : List T) : startE n ts = ts.map Sl.val ++ List.replicate (n - ts.length) .no := (rfl)
@[simp] theorem ev_rep0 : List.replicate 0 Sl.no = [] := (rfl)
/-! values -/
@[simp] theorem ev_add (a b : Int) : addT (.int a) (.int b) = some (.int (a + b)) := (rfl)
@[simp] theorem ev_addS (a b : Str) : addT (.str a) (.str b) = capL (a.length + b.length) (.str (a ++ b)) := (rfl)
@[simp] theorem ev_addL (a b : List T) : addT (.lst a) (.lst b) = capL (a.length + b.length) (.lst (a ++ b)) := (rfl)
@[simp] theorem ev_addT (a b : List T) : addT (.tup a) (.tup b) = capL (a.length + b.length) (.tup (a ++ b)) := (rfl)
@[simp] theorem ev_sub (a b : Int) : subT (.int a) (.int b) = some (.int (a - b)) := (rfl)
@[simp] theorem ev_mul (a b : Int) : mulT (.int a) (.int b) = if smallI a || smallI b || wideI a b then some (.int (a * b)) else none := (rfl)
@[simp] theorem ev_fdiv (a b : Int) : fdivT (.int a) (.int b) = if 0 < b ∧ b < 1073741824 then some (.int (a / b)) else none := (rfl)
@[simp] theorem ev_mod (a b : Int) : modT (.int a) (.int b) = if 0 < b then some (.int (a % b)) else none := (rfl)
@[simp] theorem ev_pow (a b : Int) : powT (.int a) (.int b) = if 0 ≤ b ∧ b ≤ 1000000 ∧ a.natAbs < 2 ^ 64 then some (.int (a ^ b.toNat)) else none := (rfl)
@[simp] theorem ev_neg (a : Int) : negT (.int a) = some (.int (-a)) := (rfl)
@[simp] theorem ev_eqI (a b : Int) : eqT (.int a) (.int b) = some (.bl (decide (a = b))) := (rfl)
@[simp] theorem ev_neI (a b : Int) : neT (.int a) (.int b) = some (.bl (!decide (a = b))) := (rfl)
@[simp] theorem ev_eqS (a b : Str) : eqT (.str a) (.str b) = some (.bl (decide (a = b))) := (rfl)
@[simp] theorem ev_neS (a b : Str) : neT (.str a) (.str b) = some (.bl (!decide (a = b))) := (rfl)
@[simp] theorem ev_ltI (a b : Int) : ltT (.int a) (.int b) = some (.bl (decide (a < b))) := (rfl)
@[simp] theorem ev_leI (a b : Int) : leT (.int a) (.int b) = some (.bl (decide (a ≤ b))) := by rw [le_not]; rfl
@[simp] theorem ev_gtI (a b : Int) : gtT (.int a) (.int b) = some (.bl (decide (b < a))) := (rfl)
@[simp] theorem ev_geI (a b : Int) : geT (.int a) (.int b) = some (.bl (decide (b ≤ a))) := by rw [le_not]; rfl
@[simp] theorem ev_not (b : Bool) : notT (.bl b) = some (.bl (!b)) := (rfl)
@[simp] theorem ev_isN (a : T) : isNonT a .non = some (.bl a.isNon) := (rfl)
@[simp] theorem ev_notN (a : T) : notNonT a .non = some (.bl (!a.isNon)) := (rfl)
@[simp] theorem ev_ixL (l : List T) (i : Int) : ixT (.lst l) (.int i) = atI l i := (rfl)
@[simp] theorem ev_ixT (l : List T) (i : Int) : ixT (.tup l) (.int i) = atI l i := (rfl)
@[simp] theorem ev_lenL (l : List T) : lenT [.lst l] = some (.int l.length) := (rfl)
@[simp] theorem ev_lenT (l : List T) : lenT [.tup l] = some (.int l.length) := (rfl)
@[simp] theorem ev_lenS (z : Str) : lenT [.str z] = if z.length ≤ 16777216 then some (.int z.length) else none := (rfl)
@[simp] theorem ev_toInt (a : Int) : toIntT [.int a] = some (.int a) := (rfl)
@[simp] theorem ev_guI (a : Int) : guardT (.int a) = some (.int a) := (rfl)
@[simp] theorem ev_guS (a : Str) : guardT (.str a) = some (.str a) := (rfl)
@[simp] theorem ev_guB (a : Bool) : guardT (.bl a) = some (.bl a) := (rfl)
@[simp] theorem ev_itL (l : List T) : itemsT (.lst l) = some l := (rfl)
@[simp] theorem ev_itT (l : List T) : itemsT (.tup l) = some l := (rfl)
@[simp] theorem ev_itS (z : Str) : itemsT (.str z) = some (z.cps.toList.map fun c => .str ⟨#[c]⟩) := (rfl)
@[simp] theorem ev_rng1 (j : Int) : rng1 [.int j] = if -(2 ^ 62) ≤ j ∧ j < 2 ^ 62 then some (upI 0 j.toNat) else none := (rfl)
@[simp] theorem ev_rng2 (i j : Int) : rng2 [.int i, .int j] = if -(2 ^ 62) ≤ i ∧ i < 2 ^ 62 ∧ -(2 ^ 62) ≤ j ∧ j < 2 ^ 62 then some (upI i (j - i).toNat) else none := (rfl)
@[simp] theorem ev_enu2L (l : List T) (c : Int) : enu2 [.int c] [.lst l] = if -(2 ^ 63) ≤ c ∧ c < 2 ^ 63 then some (enumL c l) else none := (rfl)
@[simp] theorem ev_enu2T (l : List T) (c : Int) : enu2 [.int c] [.tup l] = if -(2 ^ 63) ≤ c ∧ c < 2 ^ 63 then some (enumL c l) else none := (rfl)
@[simp] theorem ev_enu1L (l : List T) : enu1 [.lst l] = some (enumL 0 l) := (rfl)
@[simp] theorem ev_enu1T (l : List T) : enu1 [.tup l] = some (enumL 0 l) := (rfl)
theorem ev_cap {n : Nat} {a : α} (h : n ≤ 16777216) : capL n a = some a := if_pos h
theorem small_of {i : Int} (h : -18446744073709551616 < i ∧ i < 18446744073709551616) : smallI i = true := decide_eq_true h
end

/-! ### loops -/
/-- a loop over a list, by a word about what was walked -/
theorem forL_inv {α : Type} (c : α → T) (xs : List α) {a : T → En → Option En} {g : En → MS} (I : List α → En → D → Prop) {en : En} {d : D} (h0 : I [] en d)
    (st : ∀ (pre : List α) (x : α) (post : List α) (en : En) (d : D), xs = pre ++ x :: post → I pre en d → ∃ en1, a (c x) en = some en1 ∧ ∃ en' d', g en1 d = .ok (.nx, en') d' ∧ I (pre ++ [x]) en' d') :
    ∃ en' d', forL a g (xs.map c) en d = .ok (.nx, en') d' ∧ I xs en' d' := by
  have : ∀ (post pre : List α) (en : En) (d : D), xs = pre ++ post → I pre en d → ∃ en' d', forL a g (post.map c) en d = .ok (.nx, en') d' ∧ I xs en' d' := by
    intro post
    induction post with
    | nil =>
      intro pre en d e h
      rw [List.append_nil] at e
      subst e
      exact ⟨en, d, rfl, h⟩
    | cons x post ih =>
      intro pre en d e h
      obtain ⟨en1, e1, en2, d2, e2, h2⟩ := st pre x post en d e h
      obtain ⟨en3, d3, e3, h3⟩ := ih (pre ++ [x]) en2 d2 (by rw [e, List.append_assoc]; rfl) h2
      refine ⟨en3, d3, ?_, h3⟩
      rw [List.map_cons]
      unfold forL
      simp only [e1, e2, e3, ev_bind, ev_opt, ev_ok]
  exact this xs [] en d rfl h0
/-- a comprehension over a list that neither draws nor raises -/
theorem lcL_map {α : Type} (c : α → T) {a : T → En → Option En} {fc : En → M Bool} {f : En → M T} {en : En} {d : D} (p : α → Bool) (q : α → T) : ∀ (xs : List α),
    (∀ x ∈ xs, ∃ en1, a (c x) en = some en1 ∧ fc en1 d = .ok (p x) d ∧ (p x = true → f en1 d = .ok (q x) d)) → lcL a fc f en (xs.map c) d = .ok ((xs.filter p).map q) d
  | [], _ => rfl
  | x :: xs, h => by
    obtain ⟨en1, e1, e2, e3⟩ := h x List.mem_cons_self
    have ih := lcL_map c p q xs fun y hy => h y (List.mem_cons_of_mem _ hy)
    rw [List.map_cons]
    unfold lcL
    simp only [e1, e2, ev_bind, ev_opt, ev_ok, ev_noX]
    cases hp : p x with
    | true => simp only [hp, e3 hp, ev_bind, ev_noX, ev_ok, ih, ev_pure, List.filter_cons, if_true, List.map_cons]
    | false => simp only [hp, ih, List.filter_cons, if_false, Bool.false_eq_true]
theorem upI_map (lo : Int) (n : Nat) : upI lo n = (List.range n).map fun (k : Nat) => T.int (lo + (k : Int)) := rfl
theorem pyL_ints : ∀ is : List Int, pyL (is.map T.int) = some (is.map PyData.int)
  | [] => rfl
  | i :: is => by
    rw [List.map_cons, List.map_cons]
    simp only [pyL, T.py, pyL_ints is]
@[simp] theorem ev_neNil (is : List Int) : neT (.lst (is.map T.int)) (.lst []) = some (.bl (!is.isEmpty)) := by
  unfold neT eqB
  simp only [T.py, pyL_ints, pyL, Option.map_some]
  have h1 : SeqAt.shaped (.list (is.map PyData.int)) = true := intsD_shaped is
  have h2 : SeqAt.shaped (.list []) = true := rfl
  have h3 := intsD_ne is
  unfold intsD at h3
  rw [h1, h2]
  simp only [Bool.and_true, if_true, Option.map_some, Option.some.injEq, T.bl.injEq]
  exact h3
@[simp] theorem ev_eqNil (is : List Int) : eqT (.lst (is.map T.int)) (.lst []) = some (.bl is.isEmpty) := by
  unfold eqT eqB
  simp only [T.py, pyL_ints, pyL, Option.map_some]
  have h1 : SeqAt.shaped (.list (is.map PyData.int)) = true := intsD_shaped is
  have h2 : SeqAt.shaped (.list []) = true := rfl
  have h3 := intsD_ne is
  unfold intsD at h3
  rw [h1, h2]
  simp only [Bool.and_true, if_true, Option.map_some, Option.some.injEq, T.bl.injEq]
  cases is <;> simp_all
theorem intsOf_map : ∀ is : List Int, intsOf (is.map T.int) = some is
  | [] => rfl
  | i :: is => by
    rw [List.map_cons]
    simp only [intsOf, intsOf_map is, Option.map_some]
@[simp] theorem ev_sum (is : List Int) : sumT [.lst (is.map T.int)] = some (.int is.sum) := by
  simp only [sumT, intsOf_map, Option.map_some]
theorem atI_nat' {α : Type} {l : List α} {n : Nat} {i : Int} {x : α} (hi : i = n) (h : l[n]? = some x) : atI l i = some x := by
  subst hi
  exact atI_nat h

/-! ### the deck -/
section
variable {en : En} {d : D} {f g : En → M T}
@[simp] theorem ev_DkSet : sDkSet g f en d = (f en d).bind fun t => (g en).bind fun o => setD o t en := (rfl)
@[simp] theorem ev_setD (i : Int) : setD .dck (.int i) en d = if 0 ≤ i then .ok (.nx, en) { d with laps := i.toNat } else .bad := (rfl)
@[simp] theorem ev_DkB : xDkB f en d = (f en d).bind (dckP fun d => .int d.blend) := (rfl)
@[simp] theorem ev_DkN : xDkN f en d = (f en d).bind (dckP fun d => .int d.laps) := (rfl)
@[simp] theorem ev_DkNe : xDkNe f en d = (f en d).bind (dckP fun d => .bl (!d.cells.isEmpty)) := (rfl)
@[simp] theorem ev_dckP (p : D → T) : dckP p .dck d = .ok (p d) d := (rfl)
@[simp] theorem ev_DkPop : xDkPop f en d = (f en d).bind popD := (rfl)
@[simp] theorem ev_popD : popD .dck d = (match d.cells[d.cells.length - 1]? with | some i => .ok (.int i) { d with cells := d.cells.dropLast } | none => .bad) := (rfl)
@[simp] theorem ev_DkApp : xDkApp f g en d = (f en d).bind fun o => match o with | .dck => (g en).bind appD | _ => .bad := (rfl)
@[simp] theorem ev_appD (i : Int) : appD (.int i) d = if d.cells.length < 16777216 then .ok .non { d with cells := d.cells ++ [i] } else .bad := (rfl)
end
theorem fn_ret {n : Nat} {g : En → MS} {ts : List T} {en en' : En} {d d' : D} {r : T} (e : g en d = .ok (.ret r, en') d') (h : startE n ts = en := by rfl) : fnM n g ts d = .ok r d' := by
  subst h
  rw [ev_fn, e]
  rfl
section
variable {α : Type} {a : α}
@[simp] theorem ev_cap0 : capL 0 a = some a := (rfl)
@[simp] theorem ev_cap1 : capL 1 a = some a := (rfl)
@[simp] theorem ev_cap2 : capL 2 a = some a := (rfl)
@[simp] theorem ev_cap3 : capL 3 a = some a := (rfl)
@[simp] theorem ev_cap4 : capL 4 a = some a := (rfl)
@[simp] theorem ev_cap5 : capL 5 a = some a := (rfl)
end
/-- range(n) -/
theorem rng1_nat {n : Nat} (h : n ≤ 1000000000) : rng1 [.int (n : Int)] = some ((List.range n).map fun (k : Nat) => T.int (k : Int)) := by
  rw [ev_rng1, if_pos (by omega), Int.toNat_natCast, upI_map]
  congr 1
  exact List.map_congr_left fun k _ => by rw [Int.zero_add]
/-- range(i, j) -/
theorem rng2_nat {i n : Nat} {j : Int} (hj : j = (i : Int) + (n : Int)) (h : i + n ≤ 1000000000) : rng2 [.int (i : Int), .int j] = some ((List.range n).map fun (k : Nat) => T.int ((i + k : Nat) : Int)) := by
  subst hj
  rw [ev_rng2, if_pos (by omega), show ((i : Int) + (n : Int) - (i : Int)).toNat = n by omega, upI_map]
  congr 1
/-- enumerate of whole numbers -/
def enumI (c : Int) : List Int → List (Int × Int)
  | [] => []
  | i :: l => (c, i) :: enumI (c + 1) l
def prT (p : Int × Int) : T := .tup [.int p.1, .int p.2]
theorem enumL_ints : ∀ (c : Int) (l : List Int), enumL c (l.map T.int) = (enumI c l).map prT
  | _, [] => rfl
  | c, i :: l => by
    show _ :: enumL (c + 1) (l.map T.int) = _
    rw [enumL_ints (c + 1) l]
    rfl
theorem enumI_mem : ∀ {c : Int} {l : List Int} {p : Int × Int}, p ∈ enumI c l → c ≤ p.1 ∧ p.1 < c + (l.length : Int)
  | _, [], _, h => by cases h
  | c, i :: l, p, h => by
    rcases List.mem_cons.mp h with rfl | h
    · exact ⟨Int.le_refl _, by rw [List.length_cons]; omega⟩
    · have := enumI_mem h
      rw [List.length_cons]
      omega
theorem enumI_len : ∀ (c : Int) (l : List Int), (enumI c l).length = l.length
  | _, [] => rfl
  | c, i :: l => congrArg Nat.succ (enumI_len (c + 1) l)
theorem ev_sum_map {α : Type} (l : List α) (f : α → Int) : sumT [.lst (l.map fun x => T.int (f x))] = some (.int (l.map f).sum) := by
  have := ev_sum (l.map f)
  rwa [List.map_map] at this
end TL

/-! TLo: plain law: texts as lists of signs. -/
namespace TL
open PySem PySem.Spec PyProof.Rows L2

def strR (l : List Nat) : T := .str ⟨l.toArray⟩
theorem strR_len (l : List Nat) : (⟨l.toArray⟩ : Str).length = l.length := List.size_toArray
theorem str_app (a b : List Nat) : (⟨a.toArray⟩ ++ ⟨b.toArray⟩ : Str) = ⟨(a ++ b).toArray⟩ := by
  show (⟨a.toArray ++ b.toArray⟩ : Str) = _
  rw [List.append_toArray]
theorem ev_strAdd (a b : List Nat) : addT (strR a) (strR b) = capL (a.length + b.length) (strR (a ++ b)) := by
  unfold strR
  rw [ev_addS, strR_len, strR_len, str_app]
theorem ev_strItems (l : List Nat) : itemsT (strR l) = some (l.map fun c => strR [c]) := rfl
theorem ev_strLe (a b : List Nat) : leT (strR a) (strR b) = some (.bl (!decide (b < a))) := rfl
theorem ev_strLt (a b : List Nat) : ltT (strR a) (strR b) = some (.bl (decide (a < b))) := rfl
theorem str_inj {a b : List Nat} : ((⟨a.toArray⟩ : Str) = ⟨b.toArray⟩) ↔ a = b := by
  constructor
  · intro h
    have := congrArg (fun z : Str => z.cps.toList) h
    simpa using this
  · rintro rfl
    rfl
theorem ev_strEq (a b : List Nat) : eqT (strR a) (strR b) = some (.bl (decide (a = b))) := by
  unfold strR
  rw [ev_eqS]
  congr 2
  exact decide_eq_decide.mpr str_inj
theorem ev_strNe (a b : List Nat) : neT (strR a) (strR b) = some (.bl (!decide (a = b))) := by
  unfold strR
  rw [ev_neS]
  congr 3
  exact decide_eq_decide.mpr str_inj
theorem ev_strLen {l : List Nat} (h : l.length ≤ 16777216) : lenT [strR l] = some (.int l.length) := by
  unfold strR
  rw [ev_lenS, strR_len, if_pos h]
theorem ev_strFrom {l : List Nat} (k : Nat) (h : l.length ≤ 16777216) : slT (strR l) (some (k : Int)) none = some (strR (l.drop k)) := by
  unfold strR
  show (if (⟨l.toArray⟩ : Str).length ≤ 16777216 then _ else _) = _
  rw [strR_len, if_pos h]
  unfold cutS
  rw [strR_len, HT.sIx_none, HT.sIx_nat]
  congr 3
  rw [List.toList_toArray]
  by_cases hk : k ≤ l.length
  · rw [Nat.min_eq_left hk, List.take_of_length_le (by rw [List.length_drop]; exact Nat.le_refl _)]
  · rw [Nat.min_eq_right (by omega), List.drop_length, List.take_nil, List.drop_of_length_le (by omega)]
theorem ev_strTo {l : List Nat} (k : Nat) (h : l.length ≤ 16777216) : slT (strR l) none (some (k : Int)) = some (strR (l.take k)) := by
  unfold strR
  show (if (⟨l.toArray⟩ : Str).length ≤ 16777216 then _ else _) = _
  rw [strR_len, if_pos h]
  unfold cutS
  rw [strR_len, HT.sIx_none, HT.sIx_nat]
  congr 3
  rw [List.toList_toArray, List.drop_zero, Nat.sub_zero]
  by_cases hk : k ≤ l.length
  · rw [Nat.min_eq_left hk]
  · rw [Nat.min_eq_right (by omega), List.take_length, List.take_of_length_le (by omega)]
theorem ev_strIx {l : List Nat} {k : Nat} {c : Nat} (h : l.length ≤ 16777216) (e : l[k]? = some c) : ixT (strR l) (.int (k : Int)) = some (strR [c]) := by
  unfold strR
  show (if (⟨l.toArray⟩ : Str).length ≤ 16777216 then _ else _) = _
  rw [strR_len, if_pos h]
  show Option.map _ (atI l (k : Int)) = _
  rw [atI_nat e]
  rfl
end TL

/-! TLp: more lemmas on loops and lists. -/
namespace TL
open PySem PySem.Spec PyProof.Rows L2
theorem enumI_app : ∀ (c : Int) (l : List Int) (x : Int), enumI c (l ++ [x]) = enumI c l ++ [(c + l.length, x)]
  | c, [], x => by
    show [(c, x)] = [(c + (0 : Nat), x)]
    rw [show c + ((0 : Nat) : Int) = c by omega]
  | c, i :: l, x => by
    show (c, i) :: enumI (c + 1) (l ++ [x]) = (c, i) :: (enumI (c + 1) l ++ [(c + ((l.length + 1 : Nat) : Int), x)])
    rw [enumI_app (c + 1) l x, show c + 1 + (l.length : Int) = c + ((l.length + 1 : Nat) : Int) by omega]
theorem enumI_range (c : Int) (f : Nat → Int) : ∀ n, enumI c ((List.range n).map f) = (List.range n).map fun (i : Nat) => (c + (i : Int), f i)
  | 0 => rfl
  | n + 1 => by
    rw [List.range_succ, List.map_append, List.map_append, List.map_cons, List.map_nil, enumI_app, enumI_range c f n]
    simp
/-- a loop: each turn goes on, or returns -/
theorem forL_step {α : Type} (c : α → T) (xs : List α) {a : T → En → Option En} {g : En → MS} (I : List α → En → D → Prop) (R : T → D → Prop) {en : En} {d : D} (h0 : I [] en d)
    (st : ∀ (pre : List α) (x : α) (post : List α) (en : En) (d : D), xs = pre ++ x :: post → I pre en d → ∃ en1, a (c x) en = some en1 ∧ ∃ en' d', (g en1 d = .ok (.nx, en') d' ∧ I (pre ++ [x]) en' d') ∨ ∃ t, g en1 d = .ok (.ret t, en') d' ∧ R t d') :
    ∃ en' d', (forL a g (xs.map c) en d = .ok (.nx, en') d' ∧ I xs en' d') ∨ ∃ t, forL a g (xs.map c) en d = .ok (.ret t, en') d' ∧ R t d' := by
  have : ∀ (post pre : List α) (en : En) (d : D), xs = pre ++ post → I pre en d → ∃ en' d', (forL a g (post.map c) en d = .ok (.nx, en') d' ∧ I xs en' d') ∨ ∃ t, forL a g (post.map c) en d = .ok (.ret t, en') d' ∧ R t d' := by
    intro post
    induction post with
    | nil =>
      intro pre en d e h
      rw [List.append_nil] at e
      subst e
      exact ⟨en, d, .inl ⟨rfl, h⟩⟩
    | cons x post ih =>
      intro pre en d e h
      obtain ⟨en1, e1, en2, d2, h2⟩ := st pre x post en d e h
      rw [List.map_cons]
      rcases h2 with ⟨e2, h2⟩ | ⟨t, e2, h2⟩
      · obtain ⟨en3, d3, h3⟩ := ih (pre ++ [x]) en2 d2 (by rw [e, List.append_assoc]; rfl) h2
        refine ⟨en3, d3, ?_⟩
        rcases h3 with ⟨e3, h3⟩ | ⟨t, e3, h3⟩
        · refine .inl ⟨?_, h3⟩
          unfold forL
          simp only [e1, e2, e3, ev_bind, ev_opt, ev_ok]
        · refine .inr ⟨t, ?_, h3⟩
          unfold forL
          simp only [e1, e2, e3, ev_bind, ev_opt, ev_ok]
      · refine ⟨en2, d2, .inr ⟨t, ?_, h2⟩⟩
        unfold forL
        simp only [e1, e2, ev_bind, ev_opt, ev_ok, ev_pure]
  exact this xs [] en d rfl h0
/-- a while loop: a number that falls -/
theorem whileL_dn {c : En → M Bool} {g : En → MS} (I : Nat → En → D → Prop) (R : En → D → Prop)
    (st : ∀ k en d, I k en d → (∃ d', c en d = .ok false d' ∧ R en d') ∨ ∃ d1, c en d = .ok true d1 ∧ ∃ en' d', g en d1 = .ok (.nx, en') d' ∧ ∃ k', k' < k ∧ I k' en' d') :
    ∀ (k n : Nat) (en : En) (d : D), k < n → I k en d → ∃ en' d', whileL c g n en d = .ok (.nx, en') d' ∧ R en' d' := by
  intro k
  induction k using Nat.strongRecOn with
  | _ k ih =>
    intro n en d hk h
    cases n with
    | zero => omega
    | succ n =>
      unfold whileL
      rcases st k en d h with ⟨d', e, r⟩ | ⟨d1, e, en', d', e2, k', hk', h'⟩
      · exact ⟨en, d', by simp only [e, ev_bind, ev_ok, ev_pure], r⟩
      · obtain ⟨en3, d3, e3, r3⟩ := ih k' hk' n en' d' (by omega) h'
        exact ⟨en3, d3, by simp only [e, e2, e3, ev_bind, ev_ok], r3⟩
theorem ev_While (n : Nat) (c : En → M Bool) (g : En → MS) (en : En) (d : D) : sWhile n c g en d = whileL c g n en d := rfl
/-- lots as trees -/
def natT (n : Nat) : T := .int (n : Int)
def lotT (u : List Nat) : T := .tup (u.map natT)
theorem atI_natT {u : List Nat} {k : Nat} (h : k < u.length) : atI (u.map natT) (k : Int) = some (.int (u.getD k 0 : Nat)) := by
  refine atI_nat ?_
  rw [List.getElem?_map, List.getElem?_eq_getElem h]
  simp [natT, List.getD_eq_getElem?_getD, h]
theorem atI_range {n k : Nat} (f : Nat → T) (h : k < n) : atI ((List.range n).map f) (k : Int) = some (f k) := by
  refine atI_nat ?_
  rw [List.getElem?_map, List.getElem?_range h]
  rfl
theorem enumL_app (c : Int) (l : List T) (x : T) : enumL c (l ++ [x]) = enumL c l ++ [.tup [.int (c + l.length), x]] := by
  induction l generalizing c with
  | nil =>
    show [T.tup [.int c, x]] = [T.tup [.int (c + (0 : Nat)), x]]
    rw [show c + ((0 : Nat) : Int) = c by omega]
  | cons i l ih =>
    show _ :: enumL (c + 1) (l ++ [x]) = _ :: (enumL (c + 1) l ++ [_])
    rw [ih, show c + 1 + (l.length : Int) = c + ((l.length + 1 : Nat) : Int) by omega]
    rfl
/-- enumerate of anything, by place -/
theorem enumL_range {α : Type} [Inhabited α] (c : Int) (f : α → T) (l : List α) : enumL c (l.map f) = (List.range l.length).map fun (i : Nat) => .tup [.int (c + (i : Int)), f (l.getD i default)] := by
  apply List.ext_getElem?
  intro i
  rw [enumL_get, List.getElem?_map, List.getElem?_map]
  by_cases h : i < l.length
  · rw [List.getElem?_eq_getElem h, List.getElem?_range h]
    simp [List.getD_eq_getElem?_getD, h]
  · rw [List.getElem?_eq_none (by omega), List.getElem?_eq_none (by rw [List.length_range]; omega)]
    rfl
/-- a comprehension that keeps all -/
theorem lcL_all {α : Type} (c : α → T) {a : T → En → Option En} {f : En → M T} {en : En} {d : D} (q : α → T) (xs : List α)
    (h : ∀ x ∈ xs, ∃ en1, a (c x) en = some en1 ∧ f en1 d = .ok (q x) d) : lcL a xYes f en (xs.map c) d = .ok (xs.map q) d := by
  rw [lcL_map c (fun _ => true) q xs fun x hx => by
    obtain ⟨en1, h1, h2⟩ := h x hx
    exact ⟨en1, h1, rfl, fun _ => h2⟩]
  rw [List.filter_eq_self.mpr fun _ _ => rfl]
@[simp] theorem ev_aTup (b : List T → En → Option En) (l : List T) (en : En) : aTup b (.tup l) en = b l en := (rfl)
@[simp] theorem ev_aCons (a : T → En → Option En) (b : List T → En → Option En) (t : T) (l : List T) (en : En) : aCons a b (t :: l) en = (a t en).bind (b l) := (rfl)
@[simp] theorem ev_aNil (en : En) : aNil [] en = some en := (rfl)
@[simp] theorem ev_aName (i : Nat) (t : T) (en : En) : aName i t en = some (setS en i (.val t)) := (rfl)
theorem ev_max2 (i j : Int) : maxT [.int i, .int j] = some (.int (if j > i then j else i)) := (rfl)
theorem ev_min2 (i j : Int) : minT [.int i, .int j] = some (.int (if j < i then j else i)) := (rfl)
section
variable {α : Type} (x y z w : α) (l : List α)
theorem ev_at0 : atI (x :: l) 0 = some x := atI_nat' (n := 0) rfl rfl
theorem ev_at1 : atI (x :: y :: l) 1 = some y := atI_nat' (n := 1) rfl rfl
theorem ev_at2 : atI (x :: y :: z :: l) 2 = some z := atI_nat' (n := 2) rfl rfl
theorem ev_at3 : atI (x :: y :: z :: w :: l) 3 = some w := atI_nat' (n := 3) rfl rfl
end
theorem isN_natT (n : Nat) : (natT n).isNon = false := rfl
end TL

/-! TLq: tame trees: their repr is told, equality of them is told. -/
namespace TL
open PySem PySem.Spec PyProof.Rows L2
def okStr (x : Str) : Bool := x.cps.all (· < 0x110000)
mutual
/-- ints below 10 ^ 60, signs of Unicode, at most k deep -/
def T.tm : T → Nat → Bool
  | .non, _ => true
  | .bl _, _ => true
  | .int i, _ => decide (i.natAbs < 10 ^ 60)
  | .str x, _ => okStr x
  | .tup l, k => match k with | 0 => false | k + 1 => tmL l k
  | .lst l, k => match k with | 0 => false | k + 1 => tmL l k
  | _, _ => false
def tmL : List T → Nat → Bool
  | [], _ => true
  | t :: l, k => t.tm k && tmL l k
end
mutual
/-- how much there is of it -/
def T.bk : T → Nat
  | .str x => x.length
  | .tup l => bkL l
  | .lst l => bkL l
  | _ => 0
def bkL : List T → Nat
  | [] => 0
  | t :: l => t.bk + 1 + bkL l
end
structure TmPy (d : PyData) (k b : Nat) : Prop where
  lay : d.canLay0 = true
  dep : d.depth ≤ k
  sh : d.showable = true
  lf : d.leavesShort 61 = true
  bu : d.bulk = b
structure TmPyL (d : List PyData) (k b : Nat) : Prop where
  lay : PyData.canLayAll0 d = true
  dep : PyData.depthAll d ≤ k
  sh : PyData.showableAll d = true
  lf : PyData.leavesShortAll 61 d = true
  bu : PyData.bulkAll d = b
theorem okStr_lf {x : Str} (h : okStr x = true) : (x.cps.toList.all fun c => decide (c < 16 ^ 8)) = true := by
  rw [List.all_eq_true]
  intro c hc
  have h2 := (Array.all_eq_true_iff_forall_mem.mp h) c (Array.mem_toList_iff.mp hc)
  have h2 : c < 0x110000 := by simpa using h2
  have e : (16 : Nat) ^ 8 = 4294967296 := by decide
  exact decide_eq_true (by omega)
mutual
theorem tm_py : ∀ (t : T) (k : Nat), t.tm k = true → ∃ d, t.py = some d ∧ TmPy d k t.bk
  | .non, k, h => ⟨.none, by simp only [T.py], by simp only [PyData.canLay0], by simp only [PyData.depth]; omega, by simp only [PyData.showable], by simp only [PyData.leavesShort], by simp only [PyData.bulk, T.bk]⟩
  | .bl b, k, h => ⟨.bool b, by simp only [T.py], by simp only [PyData.canLay0], by simp only [PyData.depth]; omega, by simp only [PyData.showable], by simp only [PyData.leavesShort], by simp only [PyData.bulk, T.bk]⟩
  | .int i, k, h => by
    have h : i.natAbs < 10 ^ 60 := of_decide_eq_true (by simpa only [T.tm] using h)
    refine ⟨.int i, by simp only [T.py], by simp only [PyData.canLay0], by simp only [PyData.depth]; omega, ?_, ?_, by simp only [PyData.bulk, T.bk]⟩
    · simp only [PyData.showable]
      refine decide_eq_true ?_
      rcases Nat.eq_zero_or_pos i.natAbs with h0 | h0
      · rw [h0]
        decide
      · refine (Nat.log2_lt (by omega)).mpr (Nat.lt_of_lt_of_le h ?_)
        exact Nat.le_of_lt (by decide +kernel : (10 : Nat) ^ 60 < 2 ^ 1920)
    · simp only [PyData.leavesShort]
      refine decide_eq_true ?_
      have e := int_text_length_le10 (k := 60) (by decide) h
      show (Str.ofString (toString i)).length ≤ 61
      rw [PySem.ofString_length]
      exact e
  | .str x, k, h => by
    have h : okStr x = true := by simpa only [T.tm] using h
    refine ⟨.str x, by simp only [T.py], ?_, by simp only [PyData.depth]; omega, by simp only [PyData.showable], ?_, by simp only [PyData.bulk, T.bk]; rfl⟩
    · simp only [PyData.canLay0]
      exact h
    · simp only [PyData.leavesShort]
      exact okStr_lf h
  | .tup l, k, h => by
    cases k with
    | zero => simp only [T.tm] at h; cases h
    | succ k =>
      obtain ⟨ds, e, q⟩ := tmL_py l k (by simpa only [T.tm] using h)
      refine ⟨.tuple ds, by simp only [T.py, e, Option.map_some], by simp only [PyData.canLay0]; exact q.lay, by simp only [PyData.depth]; have := q.dep; omega, by simp only [PyData.showable]; exact q.sh, by simp only [PyData.leavesShort]; exact q.lf, by simp only [PyData.bulk, T.bk]; exact q.bu⟩
  | .lst l, k, h => by
    cases k with
    | zero => simp only [T.tm] at h; cases h
    | succ k =>
      obtain ⟨ds, e, q⟩ := tmL_py l k (by simpa only [T.tm] using h)
      refine ⟨.list ds, by simp only [T.py, e, Option.map_some], by simp only [PyData.canLay0]; exact q.lay, by simp only [PyData.depth]; have := q.dep; omega, by simp only [PyData.showable]; exact q.sh, by simp only [PyData.leavesShort]; exact q.lf, by simp only [PyData.bulk, T.bk]; exact q.bu⟩
  | .dic _, k, h => by simp only [T.tm] at h; cases h
  | .ins _ _, k, h => by simp only [T.tm] at h; cases h
  | .dck, k, h => by simp only [T.tm] at h; cases h
theorem tmL_py : ∀ (l : List T) (k : Nat), tmL l k = true → ∃ ds, pyL l = some ds ∧ TmPyL ds k (bkL l)
  | [], k, h => ⟨[], by simp only [pyL], by simp only [PyData.canLayAll0], by simp only [PyData.depthAll]; omega, by simp only [PyData.showableAll], by simp only [PyData.leavesShortAll], by simp only [PyData.bulkAll, bkL]⟩
  | t :: l, k, h => by
    simp only [tmL, Bool.and_eq_true] at h
    obtain ⟨d, e1, q1⟩ := tm_py t k h.1
    obtain ⟨ds, e2, q2⟩ := tmL_py l k h.2
    refine ⟨d :: ds, by simp only [pyL, e1, e2], ?_, ?_, ?_, ?_, ?_⟩
    · simp only [PyData.canLayAll0, q1.lay, q2.lay, Bool.and_self]
    · simp only [PyData.depthAll]
      have := q1.dep
      have := q2.dep
      omega
    · simp only [PyData.showableAll, q1.sh, q2.sh, Bool.and_self]
    · simp only [PyData.leavesShortAll, q1.lf, q2.lf, Bool.and_self]
    · simp only [PyData.bulkAll, bkL, q1.bu, q2.bu]
end
theorem TmPy.shaped {d : PyData} {k b : Nat} (q : TmPy d k b) (hk : k ≤ 64) : SeqAt.shaped d = true := by
  unfold SeqAt.shaped
  rw [q.lay, Bool.true_and]
  exact decide_eq_true (Nat.le_trans q.dep hk)
/-- the repr of a tame tree -/
theorem repr_tm {t : T} (h : t.tm 20 = true) (hb : t.bk ≤ 260000) : ∃ x, reprT t = some (.str x) := by
  obtain ⟨d, e, q⟩ := tm_py t 20 h
  have hs := PyData.shown_le_bulk 61 (by decide) d q.lf
  rw [q.bu] at hs
  refine ⟨d.shown, ?_⟩
  unfold reprT
  rw [e]
  simp only [q.sh, q.shaped (by decide), Bool.true_and, decide_eq_true (show d.shown.length ≤ 16777216 by omega), if_true]
theorem reprL_tm {t : T} (h : t.tm 20 = true) (hb : t.bk ≤ 260000) : ∃ x, reprTL [t] = some (.str x) := repr_tm h hb
mutual
theorem eqv_self : ∀ d : PyData, d.canLay0 = true → PyData.eqv d d = true
  | .none, _ => by simp only [PyData.eqv]
  | .bool b, _ => by simp only [PyData.eqv, beq_self_eq_true]
  | .int b, _ => by simp only [PyData.eqv, beq_self_eq_true]
  | .str b, _ => by simp only [PyData.eqv, beq_self_eq_true]
  | .list l, h => by
    simp only [PyData.eqv]
    exact eqvAll_self l (by simpa only [PyData.canLay0] using h)
  | .tuple l, h => by
    simp only [PyData.eqv]
    exact eqvAll_self l (by simpa only [PyData.canLay0] using h)
  | .dict _, h => by simp only [PyData.canLay0] at h; cases h
theorem eqvAll_self : ∀ l : List PyData, PyData.canLayAll0 l = true → PyData.eqvAll l l = true
  | [], _ => by simp only [PyData.eqvAll]
  | d :: l, h => by
    simp only [PyData.canLayAll0, Bool.and_eq_true] at h
    simp only [PyData.eqvAll, eqv_self d h.1, eqvAll_self l h.2, Bool.and_self]
end
theorem eqB_self {t : T} (h : t.tm 60 = true) : eqB t t = some true := by
  obtain ⟨d, e, q⟩ := tm_py t 60 h
  have hs := q.shaped (by decide)
  unfold eqB
  split
  · simp only [decide_true]
  · simp only [decide_true]
  · simp only [decide_true]
  · rw [e]
    simp only [hs, Bool.and_self, if_true, eqv_self d q.lay]
theorem eqT_self {t : T} (h : t.tm 60 = true) : eqT t t = some (.bl true) := by unfold eqT; rw [eqB_self h]; rfl
theorem neT_self {t : T} (h : t.tm 60 = true) : neT t t = some (.bl false) := by unfold neT; rw [eqB_self h]; rfl
theorem tmL_all {l : List T} {k : Nat} (h : ∀ t ∈ l, t.tm k = true) : tmL l k = true := by
  induction l with
  | nil => rfl
  | cons t l ih =>
    simp only [tmL, h t List.mem_cons_self, ih fun x hx => h x (List.mem_cons_of_mem _ hx), Bool.and_self]
theorem tmL_mem {l : List T} {k : Nat} (h : tmL l k = true) : ∀ t ∈ l, t.tm k = true := by
  induction l with
  | nil => intro t ht; cases ht
  | cons t l ih =>
    simp only [tmL, Bool.and_eq_true] at h
    intro x hx
    rcases List.mem_cons.mp hx with rfl | hx
    · exact h.1
    · exact ih h.2 x hx
theorem tm_tup {l : List T} {k : Nat} (h : tmL l k = true) : (T.tup l).tm (k + 1) = true := by simpa only [T.tm] using h
theorem tm_lst {l : List T} {k : Nat} (h : tmL l k = true) : (T.lst l).tm (k + 1) = true := by simpa only [T.tm] using h
theorem tm_int {i : Int} {k : Nat} (h : i.natAbs < 10 ^ 60) : (T.int i).tm k = true := by simp only [T.tm]; exact decide_eq_true h
mutual
theorem T.tm_mono : ∀ (t : T) (k j : Nat), k ≤ j → t.tm k = true → t.tm j = true
  | .non, _, _, _, _ => by simp only [T.tm]
  | .bl _, _, _, _, _ => by simp only [T.tm]
  | .int _, _, _, _, h => by simpa only [T.tm] using h
  | .str _, _, _, _, h => by simpa only [T.tm] using h
  | .tup l, k, j, hk, h => by
    cases k with
    | zero => simp only [T.tm] at h; cases h
    | succ k =>
      obtain ⟨j, rfl⟩ : ∃ i, j = i + 1 := ⟨j - 1, by omega⟩
      simp only [T.tm] at h ⊢
      exact tmL_mono l k j (by omega) h
  | .lst l, k, j, hk, h => by
    cases k with
    | zero => simp only [T.tm] at h; cases h
    | succ k =>
      obtain ⟨j, rfl⟩ : ∃ i, j = i + 1 := ⟨j - 1, by omega⟩
      simp only [T.tm] at h ⊢
      exact tmL_mono l k j (by omega) h
  | .dic _, _, _, _, h => by simp only [T.tm] at h; cases h
  | .ins _ _, _, _, _, h => by simp only [T.tm] at h; cases h
  | .dck, _, _, _, h => by simp only [T.tm] at h; cases h
theorem tmL_mono : ∀ (l : List T) (k j : Nat), k ≤ j → tmL l k = true → tmL l j = true
  | [], _, _, _, _ => by simp only [tmL]
  | t :: l, k, j, hk, h => by
    simp only [tmL, Bool.and_eq_true] at h ⊢
    exact ⟨T.tm_mono t k j hk h.1, tmL_mono l k j hk h.2⟩
end
theorem bkL_le {l : List T} {b : Nat} (h : ∀ t ∈ l, t.bk ≤ b) : bkL l ≤ l.length * (b + 1) := by
  induction l with
  | nil => simp [bkL]
  | cons t l ih =>
    have h1 := h t List.mem_cons_self
    have h2 := ih fun x hx => h x (List.mem_cons_of_mem _ hx)
    simp only [bkL, List.length_cons, Nat.succ_mul]
    omega
theorem small60 {i : Int} (h : -1000000000000000000000000000000000000000 < i) (h2 : i < 1000000000000000000000000000000000000000) : i.natAbs < 10 ^ 60 := by
  have : (10 : Nat) ^ 60 = 1000000000000000000000000000000000000000000000000000000000000 := by decide +kernel
  omega
end TL

/-! TLr: slices of lists and tuples by places. -/
namespace TL
open PySem PySem.Spec PyProof.Rows L2
theorem cutT_from (l : List T) (k : Nat) : cutT l (some (k : Int)) none = l.drop k := by
  unfold cutT
  rw [HT.sIx_none, HT.sIx_nat]
  by_cases hk : k ≤ l.length
  · rw [Nat.min_eq_left hk, List.take_of_length_le (by rw [List.length_drop]; exact Nat.le_refl _)]
  · rw [Nat.min_eq_right (by omega), List.drop_length, List.take_nil, List.drop_of_length_le (by omega)]
theorem cutT_to (l : List T) (k : Nat) : cutT l none (some (k : Int)) = l.take k := by
  unfold cutT
  rw [HT.sIx_none, HT.sIx_nat, List.drop_zero, Nat.sub_zero]
  by_cases hk : k ≤ l.length
  · rw [Nat.min_eq_left hk]
  · rw [Nat.min_eq_right (by omega), List.take_length, List.take_of_length_le (by omega)]
theorem cutT_mid (l : List T) (j k : Nat) : cutT l (some (j : Int)) (some (k : Int)) = (l.take k).drop j := by
  unfold cutT
  rw [HT.sIx_nat, HT.sIx_nat, List.drop_take]
  by_cases hj : j ≤ l.length
  · rw [Nat.min_eq_left hj]
    by_cases hk : k ≤ l.length
    · rw [Nat.min_eq_left hk]
    · rw [Nat.min_eq_right (by omega), List.take_of_length_le (by rw [List.length_drop]; exact Nat.le_refl _), List.take_of_length_le (by rw [List.length_drop]; omega)]
  · rw [Nat.min_eq_right (show l.length ≤ j by omega), List.drop_length, List.take_nil, List.drop_of_length_le (show l.length ≤ j by omega), List.take_nil]
theorem slT_tup_to (l : List T) (k : Nat) : slT (.tup l) none (some (k : Int)) = some (.tup (l.take k)) := by
  show some (T.tup (cutT l none (some (k : Int)))) = _
  rw [cutT_to]
theorem slT_tup_from (l : List T) (k : Nat) : slT (.tup l) (some (k : Int)) none = some (.tup (l.drop k)) := by
  show some (T.tup (cutT l (some (k : Int)) none)) = _
  rw [cutT_from]
theorem slT_lst_to (l : List T) (k : Nat) : slT (.lst l) none (some (k : Int)) = some (.lst (l.take k)) := by
  show some (T.lst (cutT l none (some (k : Int)))) = _
  rw [cutT_to]
theorem slT_lst_from (l : List T) (k : Nat) : slT (.lst l) (some (k : Int)) none = some (.lst (l.drop k)) := by
  show some (T.lst (cutT l (some (k : Int)) none)) = _
  rw [cutT_from]
/-- u[:k] + (u[k] + m,) + u[k + 1:] -/
theorem wider_eq {u : List Nat} {k m : Nat} (h : k < u.length) : (u.map natT).take k ++ [T.int ((u.getD k 0 + m : Nat) : Int)] ++ (u.map natT).drop (k + 1) = (u.set k (u.getD k 0 + m)).map natT := by
  rw [List.set_eq_take_append_cons_drop, if_pos h]
  rw [List.map_append, List.map_cons, List.map_take, List.map_drop, List.append_assoc]
  rfl
theorem lot_tm {u : List Nat} (h : ∀ x ∈ u, x < 1000000000000000000) (k : Nat) : (lotT u).tm (k + 1) = true := by
  unfold lotT
  refine tm_tup (tmL_all fun t ht => ?_)
  obtain ⟨x, hx, rfl⟩ := List.mem_map.mp ht
  have := h x hx
  exact tm_int (small60 (by omega) (by omega))
theorem lot_bk (u : List Nat) : (lotT u).bk ≤ u.length := by
  unfold lotT
  simp only [T.bk]
  have := bkL_le (l := u.map natT) (b := 0) fun t ht => by
    obtain ⟨x, hx, rfl⟩ := List.mem_map.mp ht
    exact Nat.le_refl _
  rw [List.length_map] at this
  omega
theorem getD_set (u : List Nat) {k : Nat} (hk : k < u.length) (x i : Nat) : (u.set k x).getD i 0 = if i = k then x else u.getD i 0 := by
  rw [List.getD_eq_getElem?_getD, List.getElem?_set]
  by_cases e : k = i
  · subst e
    simp [hk]
  · rw [if_neg e, if_neg (fun z => e z.symm), List.getD_eq_getElem?_getD]
theorem getD_set_le (u : List Nat) {k : Nat} (hk : k < u.length) (m i : Nat) : u.getD i 0 ≤ (u.set k (u.getD k 0 + m)).getD i 0 := by
  rw [getD_set u hk]
  by_cases e : i = k
  · rw [if_pos e, e]
    exact Nat.le_add_right _ _
  · rw [if_neg e]
    exact Nat.le_refl _
theorem find_le {p q : Nat → Bool} (n : Nat) (h : ∀ i, p i = true → q i = true) {i : Nat} (hi : (List.range n).find? p = some i) : ∃ j, j ≤ i ∧ (List.range n).find? q = some j := by
  have hp := List.find?_some hi
  have hm := List.mem_of_find?_eq_some hi
  cases e : (List.range n).find? q with
  | none => exact absurd (h i hp) (List.find?_eq_none.mp e i hm)
  | some j =>
    refine ⟨j, ?_, rfl⟩
    rcases Nat.lt_or_ge i j with r | r
    · have hn := List.find?_range_eq_some.mp e
      have := hn.2.2 i r
      rw [h i hp] at this
      exact absurd this (by decide)
    · exact r
end TL
namespace TL
open PySem PySem.Spec PyProof.Rows L2
theorem wide_of {i j : Int} {a b : Nat} (ha : i.natAbs < 2 ^ a) (hb : j.natAbs < 2 ^ b) (h0 : 0 < a) (h1 : 0 < b) (h : a + b ≤ 1000000) : wideI i j = true := by
  have := wide_mul ha hb h0 h1 h
  unfold wideI
  exact decide_eq_true this
end TL

/-! TLs: comprehensions that draw. -/
namespace TL
open PySem PySem.Spec PyProof.Rows L2
/-- a comprehension whose element draws -/
theorem lcL_draw {α : Type} (c : α → T) {a : T → En → Option En} {f : En → M T} {en : En} (J : Nat → D → Prop) (Q : T → Prop) :
    ∀ (xs : List α) (i : Nat) (d : D), J i d → (∀ (x : α) (k : Nat) (d : D), x ∈ xs → k < i + xs.length → J k d → ∃ en1, a (c x) en = some en1 ∧ ∃ y d', f en1 d = .ok y d' ∧ Q y ∧ J (k + 1) d') →
    ∃ ys d', lcL a xYes f en (xs.map c) d = .ok ys d' ∧ ys.length = xs.length ∧ (∀ y ∈ ys, Q y) ∧ J (i + xs.length) d'
  | [], i, d, h, _ => ⟨[], d, rfl, rfl, fun _ h => (by cases h), h⟩
  | x :: xs, i, d, h, st => by
    obtain ⟨en1, e1, y, d1, e2, hq, hj⟩ := st x i d List.mem_cons_self (by rw [List.length_cons]; omega) h
    obtain ⟨ys, d2, e3, hl, hall, hj2⟩ := lcL_draw c J Q xs (i + 1) d1 hj fun x k d hx hk h => st x k d (List.mem_cons_of_mem _ hx) (by rw [List.length_cons]; omega) h
    refine ⟨y :: ys, d2, ?_, by rw [List.length_cons, List.length_cons, hl], fun z hz => ?_, ?_⟩
    · rw [List.map_cons]
      unfold lcL
      simp only [e1, e2, e3, ev_bind, ev_opt, ev_ok, ev_noX, ev_Yes, ev_pure]
    · rcases List.mem_cons.mp hz with rfl | hz
      · exact hq
      · exact hall z hz
    · rw [List.length_cons, show i + (xs.length + 1) = i + 1 + xs.length by omega]
      exact hj2
theorem nat_list {B : Nat} : ∀ {ys : List T}, (∀ y ∈ ys, ∃ n : Nat, y = natT n ∧ n < B) → ∃ u : List Nat, ys = u.map natT ∧ u.length = ys.length ∧ ∀ x ∈ u, x < B
  | [], _ => ⟨[], rfl, rfl, fun _ h => (by cases h)⟩
  | y :: ys, h => by
    obtain ⟨n, rfl, hn⟩ := h y List.mem_cons_self
    obtain ⟨u, rfl, hl, hu⟩ := nat_list fun z hz => h z (List.mem_cons_of_mem _ hz)
    refine ⟨n :: u, rfl, by simp, fun x hx => ?_⟩
    rcases List.mem_cons.mp hx with rfl | hx
    · exact hn
    · exact hu x hx
theorem ev_isiI (i : Int) : isiT "int" (.int i) = some (.bl true) := rfl
theorem ev_isiB (i : Int) : isiT "bool" (.int i) = some (.bl false) := rfl
theorem ev_isiT (l : List T) : isiT "tuple" (.tup l) = some (.bl true) := rfl
theorem ev_isiL (l : List T) : isiT "tuple" (.lst l) = some (.bl false) := rfl
theorem ev_isiS (x : Str) : isiT "str" (.str x) = some (.bl true) := rfl
theorem perm1 (a : T) : perm [0] [a] = [a] := rfl
theorem perm21 (a b : T) : perm [1, 0] [a, b] = [b, a] := rfl
theorem perm210 (a b c : T) : perm [2, 1, 0] [a, b, c] = [c, b, a] := rfl
end TL
namespace TL
open PySem PySem.Spec PyProof.Rows L2
theorem cutT_init (l : List T) : cutT l none (some (-1)) = l.dropLast := by
  unfold cutT
  rw [HT.sIx_none]
  have : HT.sIx l.length l.length (some (-1)) = l.length - 1 := by
    simp only [HT.sIx]
    rw [if_pos (by decide)]
    omega
  rw [this, List.drop_zero, Nat.sub_zero, List.dropLast_eq_take]
theorem slT_tup_init (l : List T) : slT (.tup l) none (some (-1)) = some (.tup l.dropLast) := by
  show some (T.tup (cutT l none (some (-1)))) = _
  rw [cutT_init]
theorem slT_lst_init (l : List T) : slT (.lst l) none (some (-1)) = some (.lst l.dropLast) := by
  show some (T.lst (cutT l none (some (-1)))) = _
  rw [cutT_init]
/-- the greatest of a lot -/
theorem max_lot {u : List Nat} (h : 0 < u.length) : ∃ m : Nat, maxT [lotT u] = some (.int m) ∧ ∀ x ∈ u, x ≤ m := by
  cases u with
  | nil => simp at h
  | cons a u =>
    have e : intsOf (u.map natT) = some (u.map fun n : Nat => (n : Int)) := by
      have := intsOf_map (u.map fun n : Nat => (n : Int))
      rw [List.map_map] at this
      exact this
    obtain ⟨h1, h2⟩ := maxOf_mem (a : Int) (u.map fun n : Nat => (n : Int))
    have e2 : maxT [lotT (a :: u)] = some (.int (PySem.W.maxOf (a : Int) (u.map fun n : Nat => (n : Int)))) := by
      show (intsOf (u.map natT)).map _ = _
      rw [e]
      rfl
    generalize PySem.W.maxOf (a : Int) (u.map fun n : Nat => (n : Int)) = M at h1 h2 e2
    have hM : 0 ≤ M := by
      have := h2 (a : Int) List.mem_cons_self
      omega
    refine ⟨M.toNat, by rw [e2, Int.toNat_of_nonneg hM], fun x hx => ?_⟩
    have : (x : Int) ≤ M := h2 x (by
      rcases List.mem_cons.mp hx with rfl | hx
      · exact List.mem_cons_self
      · exact List.mem_cons_of_mem _ (List.mem_map.mpr ⟨x, hx, rfl⟩))
    omega
end TL

/-! TLt: dicts: own[k] = e, d.get(k, e), comprehensions over a dict's keys. -/
namespace TL
open PySem PySem.Spec PyProof.Rows L2
/-! ### the same but for locks -/
section
variable {W : Wd} {H H' : Hp} {F : Addr → Prop} {dk : Dk}
structure LkSame (F : Addr → Prop) (H H' : Hp) : Prop where
  tup : ∀ a xs, ¬ F a → H a = some (.tup xs) → H' a = some (.tup xs)
  lst : ∀ a xs, ¬ F a → H a = some (.lst xs) → H' a = some (.lst xs)
  ins : ∀ a C dx xs, ¬ F a → H a = some (.ins C dx xs) → H' a = some (.ins C dx xs)
  dic : ∀ a xs, ¬ F a → Rd H a (.dK xs) → Rd H' a (.dK xs)
mutual
theorem Rep.lk (k : LkSame F H H') : ∀ (t : T) (v : V), Rep W H F dk t v → Rep W H' F dk t v
  | .non, v, h => by simpa only [Rep] using h
  | .bl _, v, h => by simpa only [Rep] using h
  | .int _, v, h => by simpa only [Rep] using h
  | .str _, v, h => by simpa only [Rep] using h
  | .dck, v, h => by simpa only [Rep] using h
  | .tup l, v, h => by
    simp only [Rep] at h ⊢
    obtain ⟨a, xs, e, nf, s, r⟩ := h
    exact ⟨a, xs, e, nf, k.tup _ _ nf s, RepL.lk k l xs r⟩
  | .lst l, v, h => by
    simp only [Rep] at h ⊢
    obtain ⟨a, xs, e, nf, s, r⟩ := h
    exact ⟨a, xs, e, nf, k.lst _ _ nf s, RepL.lk k l xs r⟩
  | .dic l, v, h => by
    simp only [Rep] at h ⊢
    obtain ⟨a, xs, e, nf, s, r⟩ := h
    exact ⟨a, xs, e, nf, k.dic _ _ nf s, RepD.lk k l xs r⟩
  | .ins c fs, v, h => by
    simp only [Rep] at h ⊢
    obtain ⟨a, C, dx, xs, e, nf, c, s, r⟩ := h
    exact ⟨a, C, dx, xs, e, nf, c, k.ins _ _ _ _ nf s, RepF.lk k fs xs r⟩
theorem RepL.lk (k : LkSame F H H') : ∀ (l : List T) (xs : List V), RepL W H F dk l xs → RepL W H' F dk l xs
  | [], xs, h => by simpa only [RepL] using h
  | t :: l, xs, h => by
    simp only [RepL] at h ⊢
    obtain ⟨x, r, e, h1, h2⟩ := h
    exact ⟨x, r, e, Rep.lk k t x h1, RepL.lk k l r h2⟩
theorem RepD.lk (k : LkSame F H H') : ∀ (l : List (Key × T)) (xs : List (Key × V)), RepD W H F dk l xs → RepD W H' F dk l xs
  | [], xs, h => by simpa only [RepD] using h
  | (q, t) :: l, xs, h => by
    simp only [RepD] at h ⊢
    obtain ⟨x, r, e, h1, h2⟩ := h
    exact ⟨x, r, e, Rep.lk k t x h1, RepD.lk k l r h2⟩
theorem RepF.lk (k : LkSame F H H') : ∀ (l : List (Str × T)) (xs : List (Str × V)), RepF W H F dk l xs → RepF W H' F dk l xs
  | [], xs, h => by simpa only [RepF] using h
  | (q, t) :: l, xs, h => by
    simp only [RepF] at h ⊢
    obtain ⟨x, r, e, h1, h2⟩ := h
    exact ⟨x, r, e, Rep.lk k t x h1, RepF.lk k l r h2⟩
end
/-- locked, unlocked -/
theorem lk_lock {p : Addr} {xs : List (Key × V)} {od : Obj} (e : H p = some (.dK xs)) : LkSame F H (upd H p (.frz od (.dK xs))) where
  tup := fun a ys _ h => by rw [upd_ne (fun z => by rw [z, e] at h; cases h)]; exact h
  lst := fun a ys _ h => by rw [upd_ne (fun z => by rw [z, e] at h; cases h)]; exact h
  ins := fun a C dx ys _ h => by rw [upd_ne (fun z => by rw [z, e] at h; cases h)]; exact h
  dic := fun a ys _ h => by
    by_cases z : a = p
    · subst z
      rcases h with h | ⟨ob, h⟩
      · rw [e] at h
        cases h
        exact .inr ⟨od, upd_same⟩
      · rw [e] at h
        cases h
    · rcases h with h | ⟨ob, h⟩
      · exact .inl (by rw [upd_ne z]; exact h)
      · exact .inr ⟨ob, by rw [upd_ne z]; exact h⟩
theorem lk_unlock {p : Addr} {xs : List (Key × V)} {od : Obj} (e : H p = some (.frz od (.dK xs))) : LkSame F H (upd H p (.dK xs)) where
  tup := fun a ys _ h => by rw [upd_ne (fun z => by rw [z, e] at h; cases h)]; exact h
  lst := fun a ys _ h => by rw [upd_ne (fun z => by rw [z, e] at h; cases h)]; exact h
  ins := fun a C dx ys _ h => by rw [upd_ne (fun z => by rw [z, e] at h; cases h)]; exact h
  dic := fun a ys _ h => by
    by_cases z : a = p
    · subst z
      rcases h with h | ⟨ob, h⟩
      · rw [e] at h
        cases h
      · rw [e] at h
        cases h
        exact .inl upd_same
    · rcases h with h | ⟨ob, h⟩
      · exact .inl (by rw [upd_ne z]; exact h)
      · exact .inr ⟨ob, by rw [upd_ne z]; exact h⟩
theorem upd_comm {p q : Addr} {a b : HO} (h : p ≠ q) : upd (upd H p a) q b = upd (upd H q b) p a := by
  funext x
  unfold upd
  by_cases h1 : x = p
  · subst h1
    simp [h]
  · by_cases h2 : x = q
    · subst h2
      simp [h1]
    · simp [h1, h2]
variable {G : Addr → Prop} {σ : L2.St} {en : En} {d : D}
theorem DkAt.upd {p : Addr} {o : HO} (D1 : DkAt W dk H d) (n1 : p ≠ dk.1) (n2 : p ≠ dk.2) : DkAt W dk (upd H p o) d :=
  ⟨D1.1, by rw [upd_ne n2.symm]; exact D1.2.1, by rw [upd_ne n1.symm]; exact D1.2.2⟩
theorem SR.lock {p : Addr} {xs : List (Key × V)} {od : Obj} (S : SR W dk F G σ H en d) (e : H p = some (.dK xs)) (nf : ¬ F p) : SR W dk F G σ (upd H p (.frz od (.dK xs))) en d := by
  have n1 : p ≠ dk.1 := fun z => nf (z ▸ S.fd1)
  have n2 : p ≠ dk.2 := fun z => nf (z ▸ S.fd2)
  have k : LkSame F H (upd H p (.frz od (.dK xs))) := lk_lock e
  refine ⟨S.len, fun i t h => ?_, fun i o h => ?_, S.sep, S.gf, S.gd, fun a z h => ?_, S.fd1, S.fd2, S.deck.upd n1 n2⟩
  · obtain ⟨v, h1, h2⟩ := S.val i t h
    exact ⟨v, h1, Rep.lk k t v h2⟩
  · obtain ⟨q, h1, g, h2⟩ := S.own i o h
    have nq : q ≠ p := fun z => nf (z ▸ S.gf q g)
    refine ⟨q, h1, g, ?_⟩
    cases o with
    | lst l =>
      obtain ⟨ys, h3, h4⟩ := h2
      exact ⟨ys, by rw [upd_ne nq]; exact h3, RepL.lk k l ys h4⟩
    | dic l =>
      obtain ⟨ys, h3, h4⟩ := h2
      exact ⟨ys, by rw [upd_ne nq]; exact h3, RepD.lk k l ys h4⟩
  · by_cases q : a = p
    · subst q
      exact nf z
    · rw [upd_ne q] at h
      exact S.fh a z h
end
/-! ### a comprehension over a dict's keys -/
def keyV : Key → T
  | .inl i => .int i
  | .inr x => .str x
theorem keyV_rep {W : Wd} {H : Hp} {F : Addr → Prop} {dk : Dk} (k : Key) : Rep W H F dk (keyV k) (kV k) := by
  cases k <;> simp only [keyV, Rep] <;> rfl
/-- the keys of the dict in the i-th slot -/
def xKeys (i : Nat) : En → M (List T) := fun en => match getS en i with
  | .val (.dic l) => .pure (l.map fun kv => keyV kv.1)
  | _ => .bad
theorem Post.keys {W : Wd} {Ex : XK} {F : Addr → Prop} {dk : Dk} {H : Hp} {R : List T → D → Hp → Prop} {en : En} {d : D} {i : Nat} (h : Post W Ex F dk H R (xKeys i en d)) :
    ∃ l, getS en i = .val (.dic l) ∧ Post W Ex F dk H R (.ok (l.map fun kv => keyV kv.1) d) := by
  unfold xKeys at h
  cases e : getS en i with
  | no => rw [e] at h; exact h.elim
  | own o => rw [e] at h; exact h.elim
  | val t =>
    rw [e] at h
    cases t with
    | dic l => exact ⟨l, rfl, h⟩
    | _ => exact h.elim
theorem lcL_noX {a : T → En → Option En} {c : En → M Bool} {f : En → M T} {en : En} : ∀ (l : List T) (d : D) (x : Xn) (d' : D), lcL a c f en l d ≠ .exc x d'
  | [], d, x, d', h => by cases h
  | t :: l, d, x, d', h => by
    unfold lcL at h
    cases ea : a t en with
    | none =>
      rw [ea] at h
      cases h
    | some en1 =>
      rw [ea] at h
      have h : M.bind (c en1).noX (fun b => match b with
            | true => (f en1).noX.bind fun y => (lcL a c f en l).bind fun r => .pure (y :: r)
            | false => lcL a c f en l) d = .exc x d' := h
      unfold M.bind at h
      have nx : ∀ {α : Type} (m : M α) (d : D) (x : Xn) (d' : D), m.noX d ≠ .exc x d' := fun m d x d' h => by
        unfold M.noX at h
        split at h <;> cases h
      cases e1 : (c en1).noX d with
      | bad => rw [e1] at h; cases h
      | exc y d2 => exact nx _ _ _ _ e1
      | ok b d2 =>
        rw [e1] at h
        cases b with
        | false => exact lcL_noX l d2 x d' h
        | true =>
          have h : M.bind (f en1).noX (fun y => (lcL a c f en l).bind fun r => .pure (y :: r)) d2 = .exc x d' := h
          unfold M.bind at h
          cases e2 : (f en1).noX d2 with
          | bad => rw [e2] at h; cases h
          | exc y d3 => exact nx _ _ _ _ e2
          | ok y d3 =>
            rw [e2] at h
            have h : M.bind (lcL a c f en l) (fun r => .pure (y :: r)) d3 = .exc x d' := h
            unfold M.bind at h
            cases e3 : lcL a c f en l d3 with
            | bad => rw [e3] at h; cases h
            | exc z d4 => exact lcL_noX l d3 z d4 e3
            | ok r d4 => rw [e3] at h; cases h
section
variable {W : Wd} {Ex : XK} {X : Cx} {tg elt c : Expr} {ifs : List Expr} {scope : Scope} {own : List (Str × Nat)} {pos p0 : Pos} {a : T → En → Option En} {is : List Nat} {fc : En → M Bool} {f : En → M T}
theorem pe_either {e : Expr} {t : TE} (h : PE X e t) : PE X e (fun σ H Q => t σ H Q ∨ tLockE t σ H Q) := ⟨fun pins s σ H Q I q => q.elim (fun q => h.run pins s σ H Q I q) fun q => (pe_lock h).run pins s σ H Q I q⟩
theorem RepD.keys {H : Hp} {F : Addr → Prop} {dk : Dk} : ∀ {l : List (Key × T)} {xs : List (Key × V)}, RepD W H F dk l xs → xs.map (·.1) = l.map (·.1)
  | [], xs, h => by
    simp only [RepD] at h
    rw [h]
    rfl
  | (k, t) :: l, xs, h => by
    simp only [RepD] at h
    obtain ⟨x, r, rfl, _, h2⟩ := h
    rw [List.map_cons, List.map_cons, RepD.keys h2]
theorem itOk_keys {H : Hp} {F : Addr → Prop} {dk : Dk} {p : Addr} {o : Obj} {xs : List (Key × V)} {l : List (Key × T)} (nf : ¬ F p) (h : H p = some (.frz o (.dK xs))) (r : RepD W H F dk l xs) : ItOk W dk (H, F) (Itk p o xs) (l.map fun kv => keyV kv.1) where
  go := fun i F' H' v hi => ⟨(v p _ h nf).1, by rw [r.length]; simpa using hi⟩
  stop := fun F' H' v => ⟨(v p _ h nf).1, by rw [r.length]; simp⟩
  yld := fun i F' H' x H'' v _ hi y => by
    obtain ⟨rfl, k, u, hk, rfl⟩ := y
    refine ⟨.refl _, keyV k, ?_, keyV_rep k⟩
    have e := congrArg (fun l => l[i]?) r.keys
    simp only [List.getElem?_map, hk] at e
    rw [List.getElem?_map]
    cases e2 : l[i]? with
    | none =>
      rw [e2] at e
      cases e
    | some kv =>
      rw [e2] at e
      cases e
      rfl
theorem lc_at {wi : TI} {fi : En → M (List T)} {vs : List Nat} (hs : ∀ j ∈ is, j ∈ vs) {σ : L2.St} {H : Hp} {Q : VK} (hw : ∀ R, tI W Ex fi σ H R → wi σ H R) (h : tN W Ex (xLc fi a vs fc f) σ H Q) :
    tLc wi (tG W is a) (tT W E0 fc) (tE W E0 f) vs σ H Q := hw _ (lc_of hs σ H Q h)
theorem tn_lcK (i : Nat) {x : Str} (hN : X.N.Nodup) (ok : BlkOk X.N X.env.scope scope own)
    (hg : ∀ (s : Shared) (H : Hp) (C : Addr) (cl : List (Str × Addr)) (fp : List Addr), PG (X.blk s H scope (compEnvC scope cl C X.env) fp) tg (tG W is a))
    (ht : ∀ (s : Shared) (H : Hp) (C : Addr) (cl : List (Str × Addr)) (fp : List Addr), PTs (X.blk s H scope (compEnvC scope cl C X.env) fp) ifs (tT W E0 fc))
    (he : ∀ (s : Shared) (H : Hp) (C : Addr) (cl : List (Str × Addr)) (fp : List Addr), PE (X.blk s H scope (compEnvC scope cl C X.env) fp) elt (tE W E0 f)) (his : ∀ j ∈ is, j ∈ own.map (·.2) := by decide) (hc : X.calm = true := by rfl)
    (hi : X.N[i]? = some x := by rfl) (hv : L2.Vis X.env.scope x := by first | exact Or.inl rfl | exact Or.inr (Or.inl rfl) | exact Or.inr (Or.inr rfl)) (hd : (x == ("__debug__" : Str)) = false := by decide)
    (hcd : (x == ("__classdict__" : Str)) = false := by decide)
    (hs : ∀ y, foldedSetIterable (.Name x p0) X.env y = pure y := by intro _; rfl) : PE X (.ListComp elt [⟨tg, .Name x p0, ifs, 0⟩] scope pos) (tN W Ex (xLc (xKeys i) a (own.map (·.2)) fc f)) := by
  refine (pe_either (pe_lc hc hN (pi_keys (pv i hi hv hd hcd)) ok hg ht he hs)).imp fun σ H Q h => ?_
  have h0 := h
  obtain ⟨dk, F, G, en, d, S, P⟩ := h
  have P1 : Post W Ex F dk H _ (M.bind (xKeys i en) (fun l => (M.opt (capL l.length ())).bind fun _ => lcL a fc f (wipeE en (own.map (·.2))) l) d) := P
  obtain ⟨l, hsl, _⟩ := (Post.bind P1).keys
  · skip
    obtain ⟨v, hv1, rv⟩ := S.val i _ (getS_val hsl)
    simp only [Rep] at rv
    obtain ⟨p, xs, rfl, nf, rd, rl⟩ := rv
    -- with the dict locked
    have key : ∀ (o : Obj) (H' : Hp) (Q' : VK), H' p = some (.frz o (.dK xs)) → RepD W H' F dk l xs → SR W dk F G σ H' en d → tN W Ex (xLc (xKeys i) a (own.map (·.2)) fc f) σ H' Q' →
        tLc (iKeys (fun σ H Q => ∃ v, σ[i]? = some (some v) ∧ Q v H)) (tG W is a) (tT W E0 fc) (tE W E0 f) (own.map (·.2)) σ H' Q' := fun o H' Q' hp rl' S' h' => by
      refine lc_at his (fun R hR => ?_) h'
      obtain ⟨dk2, F2, G2, en2, d2, S2, P2⟩ := hR
      -- the frame is told by the reading
      obtain ⟨l2, hsl2, P2⟩ := P2.keys
      obtain ⟨v2, hv2, rv2⟩ := S2.val i _ (getS_val hsl2)
      rw [hv1] at hv2
      cases hv2
      simp only [Rep] at rv2
      obtain ⟨p2, xs2, e2, nf2, rd2, rl2⟩ := rv2
      cases e2
      rcases rd2 with rd2 | ⟨o2, rd2⟩
      · rw [hp] at rd2
        cases rd2
      · rw [hp] at rd2
        cases rd2
        exact ⟨.ref p, hv1, p, o, rfl, .inl ⟨xs, hp, P2 H' (.refl _ _) S2.deck _ (itOk_keys nf2 hp rl2)⟩⟩
    rcases rd with rd | ⟨o, rd⟩
    · refine .inr ⟨p, .dK xs, rd, trivial, fun od => ?_⟩
      have n1 : p ≠ dk.1 := fun z => nf (z ▸ S.fd1)
      have n2 : p ≠ dk.2 := fun z => nf (z ▸ S.fd2)
      refine key od _ _ upd_same (RepD.lk (lk_lock rd) l xs rl) (S.lock rd nf) ⟨dk, F, G, en, d, S.lock rd nf, ?_⟩
      have P3 : Post W Ex F dk H _ (xLc (xKeys i) a (own.map (·.2)) fc f en d) := P
      cases hr : xLc (xKeys i) a (own.map (·.2)) fc f en d with
      | bad => rw [hr] at P3; exact P3.elim
      | exc y d1 =>
        exfalso
        have hr : M.bind (xKeys i en) (fun l => (M.opt (capL l.length ())).bind fun _ => lcL a fc f (wipeE en (own.map (·.2))) l) d = .exc y d1 := hr
        unfold xKeys at hr
        rw [hsl] at hr
        have hr : M.bind (M.opt (capL (l.map fun kv => keyV kv.1).length ())) (fun _ => lcL a fc f (wipeE en (own.map (·.2))) (l.map fun kv => keyV kv.1)) d = .exc y d1 := hr
        cases hz : capL (l.map fun kv => keyV kv.1).length () with
        | none => rw [hz] at hr; cases hr
        | some u =>
          rw [hz] at hr
          exact lcL_noX _ _ _ _ hr
      | ok r d1 =>
        rw [hr] at P3
        intro H2 k2 D2 q ys ry hz hq
        have e2 : H2 p = some (.frz od (.dK xs)) := k2 _ _ upd_same n1 n2
        have nq : q ≠ p := fun z => by rw [z, e2] at hq; cases hq
        refine ⟨by rw [upd_ne nq.symm]; exact e2, ?_⟩
        rw [upd_comm nq]
        refine P3 (upd H2 p (.dK xs)) (fun b o hb m1 m2 => ?_) (D2.upd n1 n2) q ys (RepL.lk (lk_unlock e2) r ys ry) hz (by rw [upd_ne nq]; exact hq)
        by_cases z : b = p
        · subst z
          rw [rd] at hb
          cases hb
          exact upd_same
        · rw [upd_ne z]
          exact k2 b o (by rw [upd_ne z]; exact hb) m1 m2
    · exact .inl (key o H Q rd rl S h0)
end
end TL
namespace TL
open PySem PySem.Spec PyProof.Rows L2
/-! ### own[k] = e -/
def putT (l : List (Key × T)) (k : Key) (t : T) : List (Key × T) :=
  if (l.any fun kv => decide (kv.1 = k)) = true then l.map (fun kv => if kv.1 = k then (kv.1, t) else kv) else l ++ [(k, t)]
section
variable {W : Wd} {H : Hp} {F : Addr → Prop} {dk : Dk}
theorem RepD.cons {k : Key} {t : T} {x : V} {l : List (Key × T)} {xs : List (Key × V)} (h : Rep W H F dk t x) (r : RepD W H F dk l xs) : RepD W H F dk ((k, t) :: l) ((k, x) :: xs) := by
  simp only [RepD]
  exact ⟨x, xs, rfl, h, r⟩
theorem RepD.snoc {k : Key} {t : T} {x : V} : ∀ {l : List (Key × T)} {xs : List (Key × V)}, RepD W H F dk l xs → Rep W H F dk t x → RepD W H F dk (l ++ [(k, t)]) (xs ++ [(k, x)])
  | [], xs, r, h => by
    simp only [RepD] at r
    subst r
    exact .cons h (by simp only [RepD])
  | (q, u) :: l, xs, r, h => by
    simp only [RepD] at r
    obtain ⟨y, s, rfl, h1, h2⟩ := r
    exact .cons h1 (RepD.snoc h2 h)
theorem RepD.repl {k : Key} {t : T} {x : V} : ∀ {l : List (Key × T)} {xs : List (Key × V)}, RepD W H F dk l xs → Rep W H F dk t x → RepD W H F dk (l.map fun kv => if kv.1 = k then (kv.1, t) else kv) (xs.map fun kv => if kv.1 = k then (kv.1, x) else kv)
  | [], xs, r, h => by
    simp only [RepD] at r
    subst r
    simp only [List.map_nil, RepD]
  | (q, u) :: l, xs, r, h => by
    simp only [RepD] at r
    obtain ⟨y, s, rfl, h1, h2⟩ := r
    rw [List.map_cons, List.map_cons]
    by_cases e : q = k
    · simp only [e, if_true]
      exact .cons h (RepD.repl h2 h)
    · simp only [e, if_false]
      exact .cons h1 (RepD.repl h2 h)
theorem RepD.put {k : Key} {t : T} {x : V} {l : List (Key × T)} {xs : List (Key × V)} (r : RepD W H F dk l xs) (h : Rep W H F dk t x) : RepD W H F dk (putT l k t) (putK xs k x) := by
  have e : (xs.any fun kv => decide (kv.1 = k)) = l.any fun kv => decide (kv.1 = k) := by
    have := congrArg (fun l => l.any fun q => decide (q = k)) r.keys
    simpa only [List.any_map, Function.comp_def] using this
  unfold putT putK
  rw [e]
  split
  · exact r.repl h
  · exact r.snoc h
end
def sPutD (i : Nat) (fb f : En → M T) : En → MS := fun en => withD en i fun l => (f en).bind fun t => (fb en).bind fun k => (M.opt (keyT k)).bind fun q => (M.opt (capL (l.length + 1) ())).bind fun _ => .pure (.nx, setS en i (.own (.dic (putT l q t))))
/-- a.get(b, c) -/
def dicT? : T → Option (List (Key × T))
  | .dic l => some l
  | _ => none
def xGet2 (fa fb fc : En → M T) : En → M T := fun en => (fa en).bind fun x => (M.opt (dicT? x)).bind fun l => (fb en).bind fun y => (fc en).bind fun z => .opt ((keyT y).map fun q => (lookK l q).getD z)
section
variable {W : Wd} {Ex : XK} {X : Cx} {e b a c : Expr} {f fb fa fc : En → M T} {i : Nat} {x : Str} {pos p1 p2 apos cpos : Pos} {dk : Dk} {F0 : Addr → Prop} {H0 : Hp} {cp : Cps} {D : Ends} {en : En} {d : TL.D}
theorem ts_putD (hu : X.A.units + 100 < cLine) (he : PE X e (tE W Ex f)) (hb : PE X b (tE W Ex fb)) (hi : X.N[i]? = some x := by rfl) (hv : L2.Vis X.env.scope x := by first | exact Or.inl rfl | exact Or.inr (Or.inl rfl) | exact Or.inr (Or.inr rfl))
    (hd : (x == ("__debug__" : Str)) = false := by decide) (hcd : (x == ("__classdict__" : Str)) = false := by decide)
    (hs : swapsWith e (some (.Subscript (.Name x p1) b p2)) pos.line X.env = pure false := by rfl) : PS X (.Assign [.Subscript (.Name x p1) b p2] e pos) (tS W Ex (sPutD i fb f)) :=
  (ps_dput (by omega) (pv i hi hv hd hcd) hb he hs).imp fun D σ H ⟨dk, F0, H0, cp, en, d, ⟨F, G, R⟩, p⟩ => by
    obtain ⟨l, hs, p⟩ := PostS.withD p
    refine R.use p fun t d1 v H1 k1 R1 rv q => ?_
    obtain ⟨a, xs, h1, h2, h3, h4⟩ := ownD R1.s hs
    refine ⟨.ref a, h1, R1.use q fun k d2 y H2 k2 R2 ry q2 => ?_⟩
    obtain ⟨a', xs', h1', h2', h3', h4'⟩ := ownD R2.s hs
    rw [h1] at h1'
    cases h1'
    obtain ⟨q', hq, q3⟩ := PostS.opt q2
    obtain ⟨u, hz, q4⟩ := PostS.opt q3
    have ey := key_rep ry hq
    subst ey
    refine ⟨a, _, rfl, .k h3' (by rw [h4'.length]; have := (capL_some hz).1; omega), q4 _ _ ⟨F, G, R2.mut hs h1 h2' ⟨putK xs' q' v, upd_same, ?_⟩⟩⟩
    have hrep := R1.s.keepR k2 rv
    have mono : ∀ (t : T) (v : V), Rep W H2 F dk t v → Rep W (upd H2 a (.dK (putK xs' q' v))) F dk t v := fun t v r => Rep.mono (fun b o nf e => ⟨by
      have : b ≠ a := fun z => nf (z ▸ R2.s.gf a h2')
      rw [upd_ne this]
      exact e, nf⟩) t v r
    have := h4'.put (k := q') hrep
    exact RepD.mono (fun b o nf e => ⟨by
      have : b ≠ a := fun z => nf (z ▸ R2.s.gf a h2')
      rw [upd_ne this]
      exact e, nf⟩) _ _ this
theorem te_get2 (hu : X.A.units + 100 < cLine) (ha : PE X a (tE W Ex fa)) (hb : PE X b (tE W Ex fb)) (hc : PE X c (tE W Ex fc)) (m : M2 X a "get" apos b c cpos) : PE X (.Call (.Attribute a "get" apos) [b, c] [] cpos) (tE W Ex (xGet2 fa fb fc)) :=
  (pe_dget2 (by omega) ha hb hc m).imp fun σ H Q ⟨dk, F, G, en, d, S, h⟩ => by
    refine ⟨dk, F, G, en, d, S, (Post.bind h).mono fun t d1 H1 k1 D1 h1 v rv => ?_⟩
    have S1 := S.keep k1 D1
    have h1 : Post W Ex F dk H1 _ (M.bind (M.opt (dicT? t)) (fun l => (fb en).bind fun y => (fc en).bind fun z => .opt ((keyT y).map fun q => (lookK l q).getD z)) d1) := h1
    cases t with
    | dic l =>
      have rv0 := rv
      simp only [Rep] at rv
      obtain ⟨p, xs, rfl, nf, rd, rl⟩ := rv
      have h1 : Post W Ex F dk H1 _ (M.bind (fb en) (fun y => (fc en).bind fun z => .opt ((keyT y).map fun q => (lookK l q).getD z)) d1) := h1
      refine ⟨p, rfl, .inl ⟨xs, rd⟩, dk, F, G, en, d1, S1, (Post.bind h1).mono fun y d2 H2 k2 D2 h2 w rw' => ?_⟩
      have S2 := S1.keep k2 D2
      refine ⟨dk, F, G, en, d2, S2, (Post.bind h2).mono fun z d3 H3 k3 D3 h3 u ru => ?_⟩
      have S3 := S2.keep k3 D3
      obtain ⟨o, eo, q⟩ := Post.opt_some h3
      obtain ⟨k, ek, rfl⟩ := Option.map_eq_some_iff.mp eo
      have ey := key_rep rw' ek
      subst ey
      have rv3 := S2.keepR k3 (S1.keepR k2 rv0)
      simp only [Rep] at rv3
      obtain ⟨p3, xs3, e3, nf3, rd3, rl3⟩ := rv3
      cases e3
      refine ⟨valV xs3 k, .inl ⟨xs3, k, rd3, rfl, rfl⟩, ?_⟩
      have hl := rl3.look (k := k)
      cases hk : lookK l k with
      | none =>
        rw [hk] at hl q
        rw [hl]
        exact q H3 (.refl _ _) D3 _ ru
      | some t =>
        rw [hk] at hl q
        obtain ⟨v', hv', rv'⟩ := hl
        rw [hv']
        exact q H3 (.refl _ _) D3 _ rv'
    | _ => exact h1.elim
end
end TL
namespace TL
open PySem PySem.Spec PyProof.Rows L2
/-! ### own[e]: an item -/
def xOwnL (i : Nat) (fb : En → M T) : En → M T := fun en => match getS en i with
  | .own (.lst l) => (fb en).bind fun k => .opt ((intT1 k).bind (atI l))
  | _ => M.bad
def xOwnD (i : Nat) (fb : En → M T) : En → M T := fun en => match getS en i with
  | .own (.dic l) => (fb en).bind fun k => .opt ((keyT k).bind (lookK l))
  | _ => M.bad
section
variable {W : Wd} {Ex : XK} {X : Cx} {b : Expr} {fb : En → M T} {i : Nat} {x : Str} {pos p1 : Pos}
theorem te_ownL (i : Nat) (hb : PE X b (tE W Ex fb)) (hs : PlainIx b := by intro _ _; rfl) (hi : X.N[i]? = some x := by rfl) (hv : L2.Vis X.env.scope x := by first | exact Or.inl rfl | exact Or.inr (Or.inl rfl) | exact Or.inr (Or.inr rfl))
    (hd : (x == ("__debug__" : Str)) = false := by decide) (hcd : (x == ("__classdict__" : Str)) = false := by decide) : PE X (.Subscript (.Name x p1) b pos) (tE W Ex (xOwnL i fb)) :=
  (pe_ix ix_list (pv i hi hv hd hcd) hb hs).imp fun σ H Q ⟨dk, F, G, en, d, S, h⟩ => by
    unfold xOwnL at h
    cases e : getS en i with
    | no => rw [e] at h; exact h.elim
    | val t => rw [e] at h; exact h.elim
    | own o =>
      rw [e] at h
      cases o with
      | dic l => exact h.elim
      | lst l =>
        obtain ⟨p, xs, h1, h2, h3, h4⟩ := ownL S e
        refine ⟨.ref p, h1, dk, F, G, en, d, S, (Post.bind h).mono fun k d1 H1 k1 D1 h5 y ry => ?_⟩
        obtain ⟨t, et, q⟩ := Post.opt_some h5
        obtain ⟨j, ej, et⟩ := Option.bind_eq_some_iff.mp et
        cases k <;> simp only [intT1, reduceCtorEq, Option.some.injEq] at ej
        subst ej
        simp only [Rep] at ry
        have h3' := k1 _ _ h3 (S.gd _ h2).1 (S.gd _ h2).2
        obtain ⟨v, hv1, rv⟩ := (S.keepL k1 h4).atI et
        exact ⟨p, xs, _, v, rfl, ry, .of h3', hv1, q H1 (.refl _ _) D1 _ rv⟩
theorem te_ownD (i : Nat) (hu : X.A.units + 100 < cLine) (hb : PE X b (tE W Ex fb)) (hs : NoSl b := by intro _ _; rfl) (hi : X.N[i]? = some x := by rfl) (hv : L2.Vis X.env.scope x := by first | exact Or.inl rfl | exact Or.inr (Or.inl rfl) | exact Or.inr (Or.inr rfl))
    (hd : (x == ("__debug__" : Str)) = false := by decide) (hcd : (x == ("__classdict__" : Str)) = false := by decide) : PE X (.Subscript (.Name x p1) b pos) (tE W Ex (xOwnD i fb)) :=
  (pe_dget (by omega) (pv i hi hv hd hcd) hb hs).imp fun σ H Q ⟨dk, F, G, en, d, S, h⟩ => by
    unfold xOwnD at h
    cases e : getS en i with
    | no => rw [e] at h; exact h.elim
    | val t => rw [e] at h; exact h.elim
    | own o =>
      rw [e] at h
      cases o with
      | lst l => exact h.elim
      | dic l =>
        obtain ⟨p, xs, h1, h2, h3, h4⟩ := ownD S e
        refine ⟨.ref p, h1, dk, F, G, en, d, S, (Post.bind h).mono fun k d1 H1 k1 D1 h5 y ry => ?_⟩
        obtain ⟨t, et, q⟩ := Post.opt_some h5
        obtain ⟨j, ej, et⟩ := Option.bind_eq_some_iff.mp et
        have ey := key_rep ry ej
        subst ey
        have h3' := k1 _ _ h3 (S.gd _ h2).1 (S.gd _ h2).2
        have hl := (S.keepD k1 h4).look (k := j)
        rw [et] at hl
        obtain ⟨v, hv1, rv⟩ := hl
        exact ⟨p, v, rfl, .inl ⟨xs, j, .inl h3', rfl, hv1.symm⟩, q H1 (.refl _ _) D1 _ rv⟩
end
end TL
namespace TL
open PySem PySem.Spec PyProof.Rows L2
section
variable {en : En} {d : TL.D} {f g h : En → M T} {i : Nat}
@[simp] theorem ev_OwnL : xOwnL i f en d = (match getS en i with | .own (.lst l) => (f en d).bind fun k => .opt ((intT1 k).bind (atI l)) | _ => .bad) := by
  unfold xOwnL
  cases getS en i with
  | no => rfl
  | val t => rfl
  | own o => cases o <;> rfl
@[simp] theorem ev_OwnD : xOwnD i f en d = (match getS en i with | .own (.dic l) => (f en d).bind fun k => .opt ((keyT k).bind (lookK l)) | _ => .bad) := by
  unfold xOwnD
  cases getS en i with
  | no => rfl
  | val t => rfl
  | own o => cases o <;> rfl
@[simp] theorem ev_Keys : xKeys i en d = (match getS en i with | .val (.dic l) => .ok (l.map fun kv => keyV kv.1) d | _ => .bad) := by
  unfold xKeys
  cases getS en i with
  | no => rfl
  | own o => rfl
  | val t => cases t <;> rfl
@[simp] theorem ev_withD (k : List (Key × T) → MS) : withD en i k d = (match getS en i with | .own (.dic l) => k l d | _ => .bad) := by
  unfold withD
  cases getS en i with
  | no => rfl
  | val t => rfl
  | own o => cases o <;> rfl
@[simp] theorem ev_PutD : sPutD i f g en d = withD en i (fun l => (g en).bind fun t => (f en).bind fun k => (M.opt (keyT k)).bind fun q => (M.opt (capL (l.length + 1) ())).bind fun _ => .pure (.nx, setS en i (.own (.dic (putT l q t))))) d := (rfl)
@[simp] theorem ev_Get2 : xGet2 f g h en d = (f en d).bind fun x => (M.opt (dicT? x)).bind fun l => (g en).bind fun y => (h en).bind fun z => .opt ((keyT y).map fun q => (lookK l q).getD z) := (rfl)
@[simp] theorem ev_dicT (l : List (Key × T)) : dicT? (.dic l) = some l := (rfl)
@[simp] theorem ev_keyI (n : Int) : keyT (.int n) = some (.inl n) := (rfl)
@[simp] theorem ev_keyS (x : Str) : keyT (.str x) = some (.inr x) := (rfl)
@[simp] theorem ev_int1 (n : Int) : intT1 (.int n) = some n := (rfl)
@[simp] theorem ev_ixDi (l : List (Key × T)) (n : Int) : ixT (.dic l) (.int n) = lookK l (.inl n) := (rfl)
@[simp] theorem ev_ixDs (l : List (Key × T)) (x : Str) : ixT (.dic l) (.str x) = lookK l (.inr x) := (rfl)
end
/-- dicts from numbers to numbers -/
def encN (p : Nat × Nat) : Key × T := (.inl (p.1 : Int), .int (p.2 : Int))
def putN (l : List (Nat × Nat)) (k c : Nat) : List (Nat × Nat) := if l.any (fun p => decide (p.1 = k)) = true then l.map (fun p => if p.1 = k then (p.1, c) else p) else l ++ [(k, c)]
def lookN (l : List (Nat × Nat)) (k : Nat) : Option Nat := (l.find? fun p => decide (p.1 = k)).map (·.2)
theorem key_nat {a b : Nat} : ((Sum.inl (a : Int) : Key) = Sum.inl (b : Int)) ↔ a = b := by
  constructor
  · intro h
    have := Sum.inl.inj h
    omega
  · rintro rfl; rfl
theorem putT_enc (l : List (Nat × Nat)) (k c : Nat) : putT (l.map encN) (.inl (k : Int)) (.int (c : Int)) = (putN l k c).map encN := by
  have e : (l.map encN).any (fun kv => decide (kv.1 = (.inl (k : Int) : Key))) = l.any fun p => decide (p.1 = k) := by
    rw [List.any_map]
    congr 1
    funext p
    exact decide_eq_decide.mpr key_nat
  unfold putT putN
  rw [e]
  split
  · rw [List.map_map, List.map_map]
    refine List.map_congr_left fun p _ => ?_
    simp only [Function.comp_def, encN, key_nat]
    split <;> rfl
  · rw [List.map_append]
    rfl
theorem lookK_enc (k : Nat) : ∀ l : List (Nat × Nat), lookK (l.map encN) (.inl (k : Int)) = (lookN l k).map fun c => T.int (c : Int)
  | [] => rfl
  | p :: l => by
    have ih := lookK_enc k l
    unfold lookK lookN at ih ⊢
    rw [List.map_cons, List.find?_cons, List.find?_cons]
    have : decide ((encN p).1 = (.inl (k : Int) : Key)) = decide (p.1 = k) := decide_eq_decide.mpr key_nat
    rw [this]
    cases decide (p.1 = k) with
    | true => rfl
    | false => exact ih
end TL
namespace TL
open PySem PySem.Spec PyProof.Rows L2
theorem dok_mono {j k : Nat} {d : TL.D} (h : Dok j d) (hk : j ≤ k) : Dok k d := ⟨Nat.le_trans h.1 hk, h.2⟩
theorem pre_range {n : Nat} {pre : List Nat} {x : Nat} {post : List Nat} (hx : List.range n = pre ++ x :: post) : pre.length = x ∧ x < n := by
  have hl := congrArg List.length hx
  simp at hl
  have := congrArg (fun l => l[pre.length]?) hx
  simp at this
  rw [List.getElem?_range (by omega)] at this
  have := Option.some.inj this
  exact ⟨this, by omega⟩
/-- plain data that are told by a list of codes -/
theorem eqv_inj {α : Type} (f : α → PyData) [DecidableEq α] (hf : ∀ a b, PyData.eqv (f a) (f b) = decide (a = b)) : ∀ xs ys : List α, PyData.eqvAll (xs.map f) (ys.map f) = decide (xs = ys)
  | [], [] => by simp [PyData.eqvAll]
  | [], y :: ys => by simp [PyData.eqvAll]
  | x :: xs, [] => by simp [PyData.eqvAll]
  | x :: xs, y :: ys => by
    rw [List.map_cons, List.map_cons]
    simp only [PyData.eqvAll]
    rw [hf, eqv_inj f hf xs ys]
    by_cases h1 : x = y
    · by_cases h2 : xs = ys <;> simp [h1, h2]
    · simp [h1]
end TL
namespace TL
open PySem PySem.Spec PyProof.Rows L2
/-- a loop: each turn goes on, or leaves the loop -/
theorem forL_brk {α : Type} (c : α → T) (xs : List α) {a : T → En → Option En} {g : En → MS} (I : List α → En → TL.D → Prop) (R : List α → En → TL.D → Prop) {en : En} {d : TL.D} (h0 : I [] en d)
    (st : ∀ (pre : List α) (x : α) (post : List α) (en : En) (d : TL.D), xs = pre ++ x :: post → I pre en d → ∃ en1, a (c x) en = some en1 ∧ ∃ en' d', (g en1 d = .ok (.nx, en') d' ∧ I (pre ++ [x]) en' d') ∨ (g en1 d = .ok (.brk, en') d' ∧ R (pre ++ [x]) en' d')) :
    ∃ en' d', forL a g (xs.map c) en d = .ok (.nx, en') d' ∧ (I xs en' d' ∨ ∃ pre post, xs = pre ++ post ∧ R pre en' d') := by
  have : ∀ (post pre : List α) (en : En) (d : TL.D), xs = pre ++ post → I pre en d → ∃ en' d', forL a g (post.map c) en d = .ok (.nx, en') d' ∧ (I xs en' d' ∨ ∃ pre post, xs = pre ++ post ∧ R pre en' d') := by
    intro post
    induction post with
    | nil =>
      intro pre en d e h
      rw [List.append_nil] at e
      subst e
      exact ⟨en, d, rfl, .inl h⟩
    | cons x post ih =>
      intro pre en d e h
      obtain ⟨en1, e1, en2, d2, h2⟩ := st pre x post en d e h
      rw [List.map_cons]
      rcases h2 with ⟨e2, h2⟩ | ⟨e2, h2⟩
      · obtain ⟨en3, d3, e3, h3⟩ := ih (pre ++ [x]) en2 d2 (by rw [e, List.append_assoc]; rfl) h2
        refine ⟨en3, d3, ?_, h3⟩
        unfold forL
        simp only [e1, e2, e3, ev_bind, ev_opt, ev_ok]
      · refine ⟨en2, d2, ?_, .inr ⟨pre ++ [x], post, by rw [e, List.append_assoc]; rfl, h2⟩⟩
        unfold forL
        simp only [e1, e2, ev_bind, ev_opt, ev_ok, ev_pure]
  exact this xs [] en d rfl h0
end TL

/-! TLu: the deck is a dict with three texts as keys. -/
namespace TL
open PySem PySem.Spec PyProof.Rows L2
/-- the deck's form: a dict with these keys, all unlike -/
structure DkIs (W : Wd) (k0 k1 k2 : Str) : Prop where
  dk : W.dk = dkD k0 k1 k2
  n01 : k0 ≠ k1
  n02 : k0 ≠ k2
  n12 : k1 ≠ k2
section
variable {W : Wd} {Ex : XK} {X : Cx} {o e : Expr} {f g : En → M T} {pos p1 p2 apos : Pos} {j : Nat} {k0 k1 k2 : Str}
theorem inr_ne {a b : Str} (h : a ≠ b) : (Sum.inr a : Key) ≠ Sum.inr b := fun e => h (Sum.inr.inj e)
theorem dkV0 (c : Addr) (d : TL.D) (h : k0 = k0) : valV [((Sum.inr k0 : Key), V.ref c), (Sum.inr k1, V.int d.blend), (Sum.inr k2, V.int d.laps)] (.inr k0) = some (.ref c) := by
  unfold valV
  rw [List.find?_cons, decide_eq_true rfl]
  rfl
theorem dkV1 (c : Addr) (d : TL.D) (h : k0 ≠ k1) : valV [((Sum.inr k0 : Key), V.ref c), (Sum.inr k1, V.int d.blend), (Sum.inr k2, V.int d.laps)] (.inr k1) = some (.int d.blend) := by
  unfold valV
  rw [List.find?_cons, decide_eq_false (inr_ne h), List.find?_cons, decide_eq_true rfl]
  rfl
theorem dkV2 (c : Addr) (d : TL.D) (h : k0 ≠ k2) (h2 : k1 ≠ k2) : valV [((Sum.inr k0 : Key), V.ref c), (Sum.inr k1, V.int d.blend), (Sum.inr k2, V.int d.laps)] (.inr k2) = some (.int d.laps) := by
  unfold valV
  rw [List.find?_cons, decide_eq_false (inr_ne h), List.find?_cons, decide_eq_false (inr_ne h2), List.find?_cons, decide_eq_true rfl]
  rfl
theorem dkAtD {dk : Dk} {H : Hp} {d : TL.D} (hW : DkIs W k0 k1 k2) (h : DkAt W dk H d) : H dk.1 = some (.dK [(.inr k0, .ref dk.2), (.inr k1, .int d.blend), (.inr k2, .int d.laps)]) := by rw [h.2.2, hW.dk]; rfl
theorem dkG0 {dk : Dk} {H : Hp} {d : TL.D} (hW : DkIs W k0 k1 k2) (h : DkAt W dk H d) : DGet H dk.1 (.str k0) (some (.ref dk.2)) := .inl ⟨_, .inr k0, .inl (dkAtD hW h), rfl, (dkV0 _ _ rfl).symm⟩
theorem dkG1 {dk : Dk} {H : Hp} {d : TL.D} (hW : DkIs W k0 k1 k2) (h : DkAt W dk H d) : DGet H dk.1 (.str k1) (some (.int d.blend)) := .inl ⟨_, .inr k1, .inl (dkAtD hW h), rfl, (dkV1 _ _ hW.n01).symm⟩
theorem dkG2 {dk : Dk} {H : Hp} {d : TL.D} (hW : DkIs W k0 k1 k2) (h : DkAt W dk H d) : DGet H dk.1 (.str k2) (some (.int d.laps)) := .inl ⟨_, .inr k2, .inl (dkAtD hW h), rfl, (dkV2 _ _ hW.n02 hW.n12).symm⟩
theorem te_dqB (hW : DkIs W k0 k1 k2) (hu : X.A.units + 100 < cLine) (ho : PE X o (tE W Ex f)) : PE X (.Subscript o (.Constant (.str k1) j p1) pos) (tE W Ex (xDkB f)) := (pe_dget (by omega) ho pe_str (fun _ _ => rfl)).imp fun σ H Q ⟨dk, F, G, en, d, S, h⟩ => by
  refine ⟨dk, F, G, en, d, S, (Post.bind h).mono fun t d1 H1 k1 D1 h1 v rv => ?_⟩
  cases t with
  | dck =>
    have rv := rv.atDk
    exact ⟨dk.1, .int d1.blend, rv, dkG1 hW D1, h1 H1 (.refl _ _) D1 _ rep_int⟩
  | _ => exact h1.elim
theorem te_dqN (hW : DkIs W k0 k1 k2) (hu : X.A.units + 100 < cLine) (ho : PE X o (tE W Ex f)) : PE X (.Subscript o (.Constant (.str k2) j p1) pos) (tE W Ex (xDkN f)) := (pe_dget (by omega) ho pe_str (fun _ _ => rfl)).imp fun σ H Q ⟨dk, F, G, en, d, S, h⟩ => by
  refine ⟨dk, F, G, en, d, S, (Post.bind h).mono fun t d1 H1 k1 D1 h1 v rv => ?_⟩
  cases t with
  | dck =>
    have rv := rv.atDk
    exact ⟨dk.1, .int d1.laps, rv, dkG2 hW D1, h1 H1 (.refl _ _) D1 _ rep_int⟩
  | _ => exact h1.elim
theorem te_dqNe {p0 : Pos} (hW : DkIs W k0 k1 k2) (hu : X.A.units + 100 < cLine) (ho : PE X o (tE W Ex f)) : PE X (.Compare (.Subscript o (.Constant (.str k0) j p1) p0) [.NotEq] [.List [] p2] pos) (tE W Ex (xDkNe f)) :=
  (pe_cmpR (op_neD (by omega)) (pe_dget (by omega) ho pe_str (fun _ _ => rfl)) (pe_lst pa_nil) (nomark _)).imp fun σ H Q ⟨dk, F, G, en, d, S, h⟩ => by
  refine ⟨dk, F, G, en, d, S, (Post.bind h).mono fun t d1 H1 k1 D1 h1 v rv => ?_⟩
  cases t with
  | dck =>
    simp only [Rep] at rv
    refine ⟨dk.1, .ref dk.2, rv, dkG0 hW D1, Nat.zero_le _, fun p hp => ?_⟩
    have sm : Same H1 (upd H1 p (.lst [])) := upd_same' hp
    refine ⟨.list (intsD d1.cells), .list [], .lst (.of (sm _ _ D1.2.1)) (intsD_dp _), .lst (.of upd_same) .nil, intsD_shaped _, rfl, ?_⟩
    rw [intsD_ne]
    exact h1 _ (.of sm) (D1.same sm) _ rep_bl
  | _ => exact h1.elim
theorem tt_dqNe {p0 : Pos} (hW : DkIs W k0 k1 k2) (hu : X.A.units + 100 < cLine) (ho : PE X o (tE W Ex f)) : PT X (.Compare (.Subscript o (.Constant (.str k0) j p1) p0) [.NotEq] [.List [] p2] pos) (tT W Ex (xTest (xDkNe f))) :=
  (pt_cmpR (op_neD (by omega)) (pe_dget (by omega) ho pe_str (fun _ _ => rfl)) (pe_lst pa_nil) (nomark _)).imp fun σ H Q ⟨dk, F, G, en, d, S, h⟩ => by
  have h := Post.bind (m := xDkNe f en) h
  refine ⟨dk, F, G, en, d, S, (Post.bind h).mono fun t d1 H1 k1 D1 h1 v rv => ?_⟩
  cases t with
  | dck =>
    have rv := rv.atDk
    refine ⟨dk.1, .ref dk.2, rv, dkG0 hW D1, Nat.zero_le _, fun p hp => ?_⟩
    have sm : Same H1 (upd H1 p (.lst [])) := upd_same' hp
    refine ⟨.list (intsD d1.cells), .list [], .lst (.of (sm _ _ D1.2.1)) (intsD_dp _), .lst (.of upd_same) .nil, intsD_shaped _, rfl, _, rfl, ?_⟩
    rw [intsD_ne]
    exact h1 _ (.of sm) (D1.same sm) _ (.refl _ _) (D1.same sm)
  | _ => exact h1.elim
theorem te_dqPop {p0 : Pos} (hW : DkIs W k0 k1 k2) (hu : X.A.units + 100 < cLine) (ho : PE X o (tE W Ex f)) (hbase : attributeBase (.Subscript o (.Constant (.str k0) j p1) p0) "pop" X.env (eval (.Subscript o (.Constant (.str k0) j p1) p0) X.env) = eval (.Subscript o (.Constant (.str k0) j p1) p0) X.env := by rfl) (hline : (apos.endLine == pos.line) = true := by rfl) :
    PE X (.Call (.Attribute (.Subscript o (.Constant (.str k0) j p1) p0) "pop" apos) [] [] pos) (tE W Ex (xDkPop f)) :=
  (pe_bm0 PySem.F.plainAttrs_list PySem.F.slot_list_pop PySem.F.type_list_pop mt_pop (pe_dget (by omega) ho pe_str (fun _ _ => rfl)) hbase hline).imp fun σ H Q ⟨dk, F, G, en, d, S, h⟩ => by
  refine ⟨dk, F, G, en, d, S, (Post.bind h).mono fun t d1 H1 k1 D1 h1 v rv => ?_⟩
  cases t with
  | dck =>
    have rv := rv.atDk
    simp only [popD] at h1
    split at h1
    · rename_i i hi
      refine ⟨dk.1, .ref dk.2, rv, dkG0 hW D1, .inl ⟨rfl, _, .of D1.2.1⟩, dk.2, _, .int i, rfl, rfl, D1.2.1, by rw [List.length_map, List.getElem?_map, hi]; rfl, ?_⟩
      have := h1 (upd H1 dk.2 (.lst ((d1.cells.dropLast).map V.int))) Keep.upd2 (DkAt.cells (d' := { d1 with cells := d1.cells.dropLast }) D1 (by intro c; rw [hW.dk]; rfl)) _ rep_int
      rw [List.map_dropLast] at this
      exact this
    · exact h1.elim
  | _ => exact h1.elim
theorem te_dqApp {p0 : Pos} (hW : DkIs W k0 k1 k2) (hu : X.A.units + 100 < cLine) (ho : PE X o (tE W Ex f)) (he : PE X e (tE W Ex g)) (hbase : attributeBase (.Subscript o (.Constant (.str k0) j p1) p0) "append" X.env (eval (.Subscript o (.Constant (.str k0) j p1) p0) X.env) = eval (.Subscript o (.Constant (.str k0) j p1) p0) X.env := by rfl) (hline : (apos.endLine == pos.line) = true := by rfl) (hs : starEach [e] X.env = (false, eval e X.env) :: starEach [] X.env := by rfl) (hpl : (backTo pos (starEach [] X.env)).any (·.1) = false := by rfl) (hfew : ((((backTo pos (starEach [e] X.env)).all fun x => !x.fst) && (backToKw pos (keywordEach [] X.env)).all fun x => x.fst.isSome) && decide (([e].length + ([] : List Keyword).length + if ([] : List Keyword).isEmpty = true then 0 else 1) < 30)) = true := by rfl) :
    PE X (.Call (.Attribute (.Subscript o (.Constant (.str k0) j p1) p0) "append" apos) [e] [] pos) (tE W Ex (xDkApp f g)) :=
  (pe_bm PySem.F.plainAttrs_list PySem.F.slot_list_append PySem.F.type_list_append mt_append (pe_dget (by omega) ho pe_str (fun _ _ => rfl)) (ta_cons he ta_nil hs) hbase hfew hline hs hpl).imp fun σ H Q ⟨dk, F, G, en, d, S, h⟩ => by
  refine ⟨dk, F, G, en, d, S, (Post.bind h).mono fun t d1 H1 k1 D1 h1 v rv => ?_⟩
  have S1 := S.keep k1 D1
  cases t with
  | dck =>
    have rv := rv.atDk
    refine ⟨dk.1, .ref dk.2, rv, dkG0 hW D1, .inl ⟨rfl, _, .of D1.2.1⟩, dk, F, G, en, d1, S1, ?_⟩
    have h1 : Post W Ex F dk H1 (fun u d2 H2 => Post W Ex F dk H2 (fun t d' H' => ∀ v, Rep W H' F dk t v → Q v H') (appD u d2)) (g en d1) := Post.bind h1
    unfold xCons xNil
    cases hg : g en d1 with
    | bad =>
      rw [hg] at h1
      exact h1.elim
    | exc xx d2 =>
      rw [hg] at h1
      rw [M.bind_exc hg]
      exact h1
    | ok u d2 =>
      rw [hg] at h1
      rw [M.bind_ok hg]
      intro H2 k2 D2 xs rx
      have h2 := h1 H2 k2 D2
      obtain ⟨y, rfl, ry⟩ := RepL.one_inv rx
      cases u with
      | int i =>
        simp only [appD] at h2
        simp only [Rep] at ry
        subst ry
        split at h2
        · rename_i hz
          refine ⟨dk.2, _, .int i, rfl, rfl, D2.2.1, by rw [List.length_map, sizeLine_eq]; exact hz, ?_⟩
          have := h2 (upd H2 dk.2 (.lst ((d2.cells ++ [i]).map V.int))) Keep.upd2 (DkAt.cells (d' := { d2 with cells := d2.cells ++ [i] }) D2 (by intro c; rw [hW.dk]; rfl)) .non (by simp only [Rep])
          rw [List.map_append] at this
          exact this
        · exact h2.elim
      | _ => exact h2.elim
  | _ => exact h1.elim
/-- deck[k2] = e -/
theorem ts_dqSet {p0 : Pos} (hW : DkIs W k0 k1 k2) (hu : X.A.units + 100 < cLine) (ho : PE X o (tE W Ex g)) (he : PE X e (tE W Ex f)) (hs : swapsWith e (some (.Subscript o (.Constant (.str k2) j p1) p0)) pos.line X.env = pure false := by rfl) :
    PS X (.Assign [.Subscript o (.Constant (.str k2) j p1) p0] e pos) (tS W Ex (sDkSet g f)) :=
  (ps_dput (by omega) ho pe_str he hs).imp fun Dd σ H ⟨dk, F0, H0, cp, en, d, ⟨F, G, R⟩, p⟩ => R.use p fun t d1 v H1 k1' R1 rv q => R1.use q fun u d2 w H2 k2' R2 rw q2 => by
    cases u with
    | dck =>
      cases t with
      | int i =>
        simp only [setD] at q2
        split at q2
        · rename_i hi
          have rv := R1.s.keepR k2' rv
          simp only [Rep] at rv
          have rw := rw.atDk
          have D2 := R2.s.deck
          have hat := dkAtD hW D2
          refine ⟨dk.1, _, rw, .k (k := .inr k2) hat (by show 3 < sizeLine; decide), q2 _ _ ⟨F, G, R2.keep Keep.upd1 ⟨D2.1, by rw [upd_ne D2.1.symm]; exact D2.2.1, ?_⟩⟩⟩
          rw [upd_same, hW.dk, rv]
          have e : putK [((Sum.inr k0 : Key), V.ref dk.2), (Sum.inr k1, V.int d2.blend), (Sum.inr k2, V.int d2.laps)] (.inr k2) (.int i) = [((Sum.inr k0 : Key), V.ref dk.2), (Sum.inr k1, V.int d2.blend), (Sum.inr k2, V.int i)] := by
            have a1 : ((Sum.inr k0 : Key) = Sum.inr k2) ↔ False := ⟨fun z => hW.n02 (Sum.inr.inj z), False.elim⟩
            have a2 : ((Sum.inr k1 : Key) = Sum.inr k2) ↔ False := ⟨fun z => hW.n12 (Sum.inr.inj z), False.elim⟩
            unfold putK
            simp [a1, a2]
          rw [e]
          show some (HO.dK [(.inr k0, .ref dk.2), (.inr k1, .int d2.blend), (.inr k2, .int i)]) = some (.dK [(.inr k0, .ref dk.2), (.inr k1, .int d2.blend), (.inr k2, .int (i.toNat : Int))])
          rw [Int.toNat_of_nonneg hi]
        · exact q2.elim
      | _ => exact q2.elim
    | _ => cases t <;> exact q2.elim
end
theorem merge3 {k0 k1 k2 : Str} {a b c : V} (n01 : k0 ≠ k1) (n02 : k0 ≠ k2) (n12 : k1 ≠ k2) : mergeK [] [((Sum.inr k0 : Key), a), (Sum.inr k1, b), (Sum.inr k2, c)] = [((Sum.inr k0 : Key), a), (Sum.inr k1, b), (Sum.inr k2, c)] := by
  have a1 : ((Sum.inr k0 : Key) = Sum.inr k1) ↔ False := ⟨fun z => n01 (Sum.inr.inj z), False.elim⟩
  have a2 : ((Sum.inr k0 : Key) = Sum.inr k2) ↔ False := ⟨fun z => n02 (Sum.inr.inj z), False.elim⟩
  have a3 : ((Sum.inr k1 : Key) = Sum.inr k2) ↔ False := ⟨fun z => n12 (Sum.inr.inj z), False.elim⟩
  unfold mergeK
  simp [putK, a1, a2, a3]
theorem deck_take (ns : List Int) (n : Nat) : cutV (ns.map V.int) none (some (n : Int)) = (ns.take n).map V.int := by
  unfold cutV
  rw [List.length_map, HT.sIx_none, HT.sIx_nat, List.drop_zero, Nat.sub_zero, List.map_take]
  by_cases h : n ≤ ns.length
  · rw [Nat.min_eq_left h]
  · rw [Nat.min_eq_right (by omega), List.take_of_length_le (by rw [List.length_map]; exact Nat.le_refl _), List.take_of_length_le (by rw [List.length_map]; omega)]
end TL

/-! TLv: comprehensions with any number of clauses, to a list or to a dict: one clause over anything that is done with an item; what is done may be the next clause. -/
namespace TL
open PySem PySem.Spec PyProof.Rows L2

/-- a clause's turn; em: what is done with an item -/
def clTurn (tg : Expr) (ip : Pos) (ifs : List Expr) (em : Sem Fin → Sem Fin) (nx : Code) (it : Value) (env : Env) : Sem Fin := do
  standAt ip
  match ← pyNext it with
  | none => pure (.done .next)
  | some v =>
    letOwnedTupleGo tg it v; assign tg env v
    let mut good := true
    for c in ifs do
      if good then good ← isTrue c env (eval c env)
    if good then em (again nx) else again nx
/-- the next clause, as what is done with an item -/
def clNext (e : Expr) (k : Nat) (i1 : Expr) (acc : Value) (env : Env) (nx : Sem Fin) : Sem Fin := do
  let x ← eval i1 env
  standAt i1.pos
  let x ← foldedSetIterable i1 env x
  let _ ← runOwn (.compStart e k (← holding [x] (pyIter x)) acc env) env
  nx
/-- the node is no generator's: its turns are nobody's frame -/
structure Plain (e : Expr) : Prop where
  lp : ∀ k it acc env, (Code.compLoop e k it acc env).isFrame = false
  sp : ∀ k it acc env, (Code.compStart e k it acc env).isFrame = false
  qu : ∀ k it acc env, (Code.compLoop e k it acc env).quiet = true
  ul : ∀ (A : Around) k it acc env, A.under (Code.compLoop e k it acc env) = A
  us : ∀ (A : Around) k it acc env, A.under (Code.compStart e k it acc env) = A
abbrev TM := L2.St → Hp → (Hp → Prop) → Prop
/-- what is done with an item keeps all slots but ws -/
structure PM (X : Cx) (ws : List Nat) (em : Sem Fin → Sem Fin) (t : TM) : Prop where
  run : ∀ (pins : List (Addr × Obj)) (s : Shared) (σ : L2.St) (H : Hp) (N : Hp → Prop) (nx : Sem Fin) (Q : Fin → Shared → Prop) (E : Value → Shared → Prop), Inv X pins σ H s → t σ H N →
    (∀ s' σ' H', Inv X pins σ' H' s' → σ'.length = σ.length → (∀ (j : Nat) v, (wipe σ ws)[j]? = some (some v) → σ'[j]? = some (some v)) → N H' → wpAny (model X.prog X.w) X.A nx Q E s') → wpAny (model X.prog X.w) X.A (em nx) Q E s
theorem PM.imp {X : Cx} {ws : List Nat} {em : Sem Fin → Sem Fin} {t t' : TM} (h : PM X ws em t) (k : ∀ σ H N, t' σ H N → t σ H N) : PM X ws em t' := ⟨fun pins s σ H N nx Q E I q => h.run pins s σ H N nx Q E I (k σ H N q)⟩
/-- a clause's way: W by the turn and a measure -/
def Way (J : It) (g : TG) (tt : TT) (tm : TM) (vs : List Nat) (σ : L2.St) (Nd : Hp → Prop) (H0 : Hp) : Prop :=
  ∃ W : Nat → Nat → Hp → Prop, (∃ m, W 0 m H0) ∧ ∀ i m H, W i m H → (J.stop i H ∧ Nd H) ∨ (J.go i H ∧ ∃ Nx : Hp → Prop, (∀ H', Nx H' → ∃ m', m' < m ∧ W (i + 1) m' H') ∧
    ∀ x H', J.yld i H x H' → g x (wipe σ vs) H' fun σ2 H2 => wipe σ2 vs = wipe σ vs ∧ tt σ2 H2 fun b H3 => if b = true then tm σ2 H3 Nx else Nx H3)
def tClauseM (wi : TI) (g : TG) (tt : TT) (tm : TM) (vs : List Nat) : TM := fun σ H N => wi σ H fun J H1 => Way J g tt tm vs σ N H1
section
variable {Y : Cx} {e tg iter : Expr} {ifs : List Expr} {k : Nat} {acc : Value} {ip : Pos} {em : Sem Fin → Sem Fin} {R : Result → Shared → Prop} {g : TG} {tt : TT} {tm : TM} {vs ws : List Nat} {wi : TI}
theorem clLoop_run {J : It} {fp : List Addr} {it : Addr} {tn : Nat → Heap → Prop} {pins : List (Addr × Obj)} {s : Shared} {σ : L2.St} {H : Hp} {Nd : Hp → Prop}
    (hp : Plain e) (he : ∀ z, compTurn e k z acc Y.env = clTurn tg ip ifs em (.compLoop e k z acc Y.env) z Y.env) (hc : Y.calm = true) (T : Turn Y.prog Y.w Y.K tg J fp it tn)
    (hg : PG Y tg g) (ht : PTs Y ifs tt) (hm : PM Y ws em tm) (hw : ∀ i ∈ ws, i ∈ vs) (hxe : Y.xe = fun _ _ => False)
    (I : Inv Y pins (wipe σ vs) H s) (st : tn 0 s.heap) (hf : ∀ b ∈ fp, FpOk Y pins H b) (way : Way J g tt tm vs σ Nd H)
    (hR : ∀ s' H', Inv Y pins (wipe σ vs) H' s' → Nd H' → R (.ok .next) s') :
    codeAny (model Y.prog Y.w) Y.A (.compLoop e k (.ref it) acc Y.env) R s := by
  obtain ⟨W, ⟨m0, w0⟩, turn⟩ := way
  have still : ∀ {G : Hp}, (∀ b ∈ fp, G b = none) → ∀ b ∈ fp, FpOk Y pins G b := fun z b hb => ⟨z b hb, (hf b hb).2⟩
  refine codeAny_loop (hp.qu ..) (fun n s' => ∃ i G, Inv Y pins (wipe σ vs) G s' ∧ tn i s'.heap ∧ (∀ b ∈ fp, G b = none) ∧ W i n G) (fun n s1 hI => ?_) m0 ⟨0, H, I, st, fun b hb => (hf b hb).1, w0⟩
  obtain ⟨i, G1, I1, t1, f1, w1⟩ := hI
  rw [hp.ul]
  show wpAny _ Y.A (if (Code.compLoop e k (.ref it) acc Y.env).isFrame then (compTurn e k (.ref it) acc Y.env).onRaise (leaving Y.env) else (compTurn e k (.ref it) acc Y.env).onRaise (fun x => do noteFrame x Y.env; theTreesLotGoes x)) _ _ s1
  rw [if_neg (by rw [hp.lp]; decide)]
  refine wpAny_noted ?_
  rw [he]
  unfold clTurn
  refine wpAny_bind (wpAny_standAt (wpAny_bind ?_))
  rcases turn i n G1 w1 with ⟨stop, nd⟩ | ⟨go, Nx, hNx, step⟩
  · refine thnF (T.done Y rfl rfl rfl hc i pins s1 _ G1 (fun _ _ => False) I1 (still f1) t1 stop) fun r s2 ⟨hr, I2⟩ => ?_
    subst hr
    exact wpAny_pure (hR s2 G1 I2 nd)
  · refine thnF (T.item Y rfl rfl rfl hc i pins s1 _ G1 (fun _ _ => False) I1 (still f1) t1 go) fun r s2 ⟨u, hr, h2⟩ => ?_
    subst hr
    refine wpAny_bind (thnF h2 fun _ s3 ⟨x, G3, I3, r3, y3, t3, f3⟩ => ?_)
    have I3p := I3.pinned (still f3) (T.obj _ _ t3)
    have pgr := hg.run _ s3 _ G3 x u _ I3p r3 (step x G3 y3)
    rw [hxe] at pgr
    refine wpAny_bind (thnF pgr fun _ s4 ⟨σ4, G4, I4, w4, q4⟩ => ?_)
    have ptr := ht.run _ s4 σ4 G4 _ I4 q4
    rw [hxe] at ptr
    refine wpAny_bind (thnF ptr fun b s5 ⟨G5, I5, q5⟩ => ?_)
    -- the way back to the loop's head
    have back : ∀ {τ : L2.St} {s' : Shared} {G : Hp}, Inv Y (pins ++ pinsAt fp s3.heap) τ G s' → τ.length = σ4.length → (∀ (j : Nat) v, (wipe σ4 ws)[j]? = some (some v) → τ[j]? = some (some v)) → Nx G →
        ∃ m, m < n ∧ ∃ i G, Inv Y pins (wipe σ vs) G s' ∧ tn i s'.heap ∧ (∀ b ∈ fp, G b = none) ∧ W i m G := fun {τ s' G} Ib hl hk nx => by
      obtain ⟨m', lt, w'⟩ := hNx G nx
      have pinned : ∀ b ∈ fp, ∀ o, s3.heap.get? b = some o → s'.heap.get? b = some o ∧ G b = none := fun b hb o eo =>
        have z := Ib.pin (b, o) (List.mem_append_right _ (List.mem_append_right _ (mem_pinsAt hb eo)))
        ⟨z.1, z.2.1⟩
      refine ⟨m', lt, i + 1, G, (Ib.unpinned (pins := pins)).weak (by rw [hl, ← w4, wipe_length]) (fun j v ev => ?_), ?_, fun b hb => ?_, w'⟩
      · rw [← w4] at ev
        obtain ⟨e1, e2⟩ := wipe_some ev
        exact hk j v (by rw [wipe_out (fun z => e2 (hw j z))]; exact e1)
      · exact T.keep _ _ _ t3 fun b hb o eo => (pinned b hb o eo).1
      · obtain ⟨o, eo, _⟩ := T.obj _ _ t3 b hb
        exact (pinned b hb o eo).2
    cases b with
    | false =>
      simp only [Bool.false_eq_true, if_false] at q5 ⊢
      exact wpAny_pure ⟨rfl, back I5 rfl (fun j v ev => (wipe_some ev).1) q5⟩
    | true =>
      simp only [if_true] at q5 ⊢
      refine hm.run _ s5 σ4 G5 _ _ _ _ I5 q5 fun s6 τ G6 I6 l6 k6 n6 => ?_
      exact wpAny_pure ⟨rfl, back I6 l6 k6 n6⟩
theorem clStart_run {it : Value} {s : Shared} (hp : Plain e) (hcl : (clausesOf e)[k]? = some ⟨tg, iter, ifs, 0⟩)
    (h0 : codeAny (model Y.prog Y.w) Y.A (.compLoop e k it acc Y.env) R s)
    (h1 : wpAny (model Y.prog Y.w) Y.A (pyIter it) (fun z s' => codeAny (model Y.prog Y.w) Y.A (.compLoop e k z acc Y.env) R s') (notedBy (model Y.prog Y.w) Y.A Y.env fun x s' => R (.error x) s') s) :
    codeAny (model Y.prog Y.w) Y.A (.compStart e k it acc Y.env) R s := by
  refine codeAny_of_tree ?_
  rw [hp.us]
  show wpAny _ _ (if (Code.compStart e k it acc Y.env).isFrame then (compStart e k it acc Y.env).onRaise (leaving Y.env) else (compStart e k it acc Y.env).onRaise (fun x => do noteFrame x Y.env; standAt theWindowsPlace)) _ _ s
  rw [if_neg (by rw [hp.sp]; decide)]
  refine wpAny_notedAt ?_
  unfold compStart
  rw [hcl]
  show wpAny _ _ (ask >>= _) _ _ s
  refine wpAny_bind (wpAny_askSetting (wpAny_ite ?_))
  split
  · first
      | exact wpAny_pure ⟨hp.qu .., h0⟩
      | exact wpAny_bind (wpAny_pure (wpAny_pure ⟨hp.qu .., h0⟩))
  · refine wpAny_bind (wpAny_rule ?_)
    show wpAny _ _ (standAt iter.pos >>= _) _ _ s
    exact wpAny_bind (wpAny_standAt (wpAny_bind (wpAny_mono h1 (fun z s' h => wpAny_pure ⟨hp.qu .., h⟩) fun _ _ x => x)))
/-- the next clause -/
theorem pm_next (hp : Plain e) (hcl : (clausesOf e)[k]? = some ⟨tg, iter, ifs, 0⟩) (he : ∀ z, compTurn e k z acc Y.env = clTurn tg ip ifs em (.compLoop e k z acc Y.env) z Y.env) (hc : Y.calm = true) (hxe : Y.xe = fun _ _ => False)
    (hi : PI Y tg iter wi) (hg : PG Y tg g) (ht : PTs Y ifs tt) (hm : PM Y ws em tm) (hw : ∀ i ∈ ws, i ∈ vs) (hs : ∀ x, foldedSetIterable iter Y.env x = pure x) :
    PM Y vs (clNext e k iter acc Y.env) (tClauseM wi g tt tm vs) := by
  refine ⟨fun pins s σ H N nx Q E I h fin => ?_⟩
  unfold clNext
  have ir := hi.run pins s σ H _ I h
  rw [hxe] at ir
  refine wpAny_bind (thnF ir fun x s1 h1 => ?_)
  refine wpAny_bind (wpAny_standAt (wpAny_bind (wpAny_of_eq (hs x) (wpAny_bind (wpAny_holding (thnF h1 fun itv s2 h2 => ?_))))))
  obtain ⟨it, fp, tn, J, H2, rfl, I2, T, t2, f2, way⟩ := h2
  refine wpAny_bind (wpAny_runOwn ?_)
  rw [Around.mark_none]
  have lp : codeAny (model Y.prog Y.w) Y.A (.compLoop e k (.ref it) acc Y.env) (fun r s' => match r with
      | .ok _ => ∃ σ' H', Inv Y pins σ' H' s' ∧ σ'.length = σ.length ∧ (∀ (j : Nat) v, (wipe σ vs)[j]? = some (some v) → σ'[j]? = some (some v)) ∧ N H'
      | .error _ => False) s2 :=
    clLoop_run hp he hc T hg ht hm hw hxe (I2.weak (wipe_length _ _) fun j v ev => (wipe_some ev).1) t2 f2 way fun s' H' I' nd => ⟨_, H', I', wipe_length _ _, fun _ _ z => z, nd⟩
  refine codeAny_mono (clStart_run hp hcl lp (T.self Y.A 0 _ _ _ t2 lp)) fun r s' hr => ?_
  cases r with
  | ok f =>
    obtain ⟨σ', H', I', l', k', n'⟩ := hr
    exact fin s' σ' H' I' l' k' n'
  | error x => exact hr.elim
/-- the last clause's deeds -/
theorem pm_list {elt : Expr} {te : TE} {D : Addr} (h : PE Y elt te) (hxe : Y.xe = fun _ _ => False) :
    PM Y [] (fun nx => (do let _ ← call (.builtin "list.append") [.ref D, ← eval elt Y.env] : Sem Unit) >>= fun _ => nx) (fun σ H N => te σ H fun y G => ∃ l, G D = some (.lst l) ∧ l.length < sizeLine ∧ N (upd G D (.lst (l ++ [y])))) := by
  refine ⟨fun pins s σ H N nx Q E I q fin => ?_⟩
  have er := h.run pins s σ H _ I q
  rw [hxe] at er
  refine wpAny_bind (wpAny_bind (thnF er fun v s1 ⟨y, G, I1, r1, l, hl, hz, n⟩ => ?_))
  exact wpAny_bind (app_ok I1 hl hz r1 fun s2 I2 => wpAny_pure (fin s2 σ _ I2 rfl (fun _ _ z => z) n))
theorem pm_dict {kx vx : Expr} {tk tv : TE} {D : Addr} (h1 : PE Y kx tk) (h2 : PE Y vx tv) (hxe : Y.xe = fun _ _ => False) :
    PM Y [] (fun nx => (do
      let kv ← eval kx Y.env
      let vv ← holding [kv] (eval vx Y.env)
      match (.ref D : Value) with
      | .ref d => do
        standAt { kx.pos with endLine := vx.pos.endLine, endCol := vx.pos.endCol }
        holding [kv, vv] (dictSet d kv vv)
      | _ => unsupported "internal:dictcomp" : Sem Unit) >>= fun _ => nx) (fun σ H N => tk σ H fun y G => tv σ G fun z G2 => ∃ l q, y = kV q ∧ G2 D = some (.dK l) ∧ l.length < sizeLine ∧ N (upd G2 D (.dK (putK l q z)))) := by
  refine ⟨fun pins s σ H N nx Q E I q fin => ?_⟩
  have er := h1.run pins s σ H _ I q
  rw [hxe] at er
  refine wpAny_bind (wpAny_bind (thnF er fun v s1 ⟨y, G, I1, r1, q1⟩ => ?_))
  have vr := h2.run pins s1 σ G _ I1 q1
  rw [hxe] at vr
  refine wpAny_bind (wpAny_holding (thnF vr fun v2 s2 ⟨z, G2, I2, r2, l, qk, ey, hl, hz, n⟩ => ?_))
  subst ey
  exact wpAny_bind (wpAny_standAt (wpAny_holding (d_dictSet I2 hl hz r1 r2 fun s3 I3 => fin s3 σ _ I3 rfl (fun _ _ z => z) n)))
end
/-- a comprehension: o0 the new object as it begins -/
def tCompr (wi : TI) (g : TG) (tt : TT) (tm : Addr → TM) (o0 : HO) (vs : List Nat) : TE := fun σ H Q => wi σ H fun J H1 => ∀ D, H1 D = none → Way J g tt (tm D) vs σ (Q (.ref D)) (upd H1 D o0)
/-- how the new object is laid -/
structure Lays (mk : Sem Value) (ob : Obj) (o0 : HO) : Prop where
  does : ∀ {M : Model} {A : Around} {E : Value → Shared → Prop} {s : Shared} {Q : Value → Shared → Prop}, Q (.ref s.heap.objs.size) { s with heap := s.heap.push ob } → wpAny M A mk Q E s
  inv : ∀ {X : Cx} {pins : List (Addr × Obj)} {σ : L2.St} {H : Hp} {s : Shared}, Inv X pins σ H s → Inv X pins σ (upd H s.heap.objs.size o0) { s with heap := s.heap.push ob }
theorem lays_list : Lays (newList []) { cls := .type "list", data := .seq ([] : List Value).toArray } (.lst []) where
  does := fun h => wpAny_newObj_type h (by show 0 ≤ sizeLine; decide)
  inv := fun {X pins σ H s} I => I.laid (t' := s.toks) (fun b o z => Heap.get?_push_of_some _ z) (Nat.le_refl _) ⟨Nat.zero_le _, [], 0, .nil, Heap.get?_push_size _ rfl⟩
theorem lays_dict : Lays newDict { cls := .type "dict", data := .dict #[] } (.dK []) where
  does := fun h => wpAny_newObj_type h
  inv := fun {X pins σ H s} I => I.laid (t' := s.toks) (fun b o z => Heap.get?_push_of_some _ z) (Nat.le_refl _) (dk_empty s.heap I.big)
section
variable {X : Cx} {e tg iter : Expr} {ifs : List Expr} {rest : List Comprehension} {scope : Scope} {own : List (Str × Nat)} {ip : Pos} {g : TG} {tt : TT} {wi : TI} {ws : List Nat} {mk : Sem Value} {ob : Obj} {o0 : HO} {em : Addr → Env → Sem Fin → Sem Fin} {tm : Addr → TM}
theorem compr_core {pins : List (Addr × Obj)} {s : Shared} {σ : L2.St} {H : Hp} {Q : VK} {pos : Pos} {use : Option (Value → Sem Unit)} {Qf : Value → Shared → Prop}
    (hp : Plain e) (hcl : clausesOf e = ⟨tg, iter, ifs, 0⟩ :: rest) (he : ∀ D env z, compTurn e 0 z (.ref D) env = clTurn tg ip ifs (em D env) (.compLoop e 0 z (.ref D) env) z env) (lay : Lays mk ob o0)
    (hc : X.calm = true) (hN : X.N.Nodup) (I : Inv X pins σ H s) (hi : PI X tg iter wi) (ok : BlkOk X.N X.env.scope scope own) (hw : ∀ i ∈ ws, i ∈ own.map (·.2))
    (hg : ∀ s H C cl fp, PG (X.blk s H scope (compEnvC scope cl C X.env) fp) tg g) (ht : ∀ s H C cl fp, PTs (X.blk s H scope (compEnvC scope cl C X.env) fp) ifs tt)
    (hm : ∀ s H C cl fp D, PM (X.blk s H scope (compEnvC scope cl C X.env) fp) ws (em D (compEnvC scope cl C X.env)) (tm D)) (hs : ∀ x, foldedSetIterable iter X.env x = pure x)
    (h : tCompr wi g tt tm o0 (own.map (·.2)) σ H Q)
    (hE : ∀ D C s' m H', Inv X pins σ H' s' → Q (.ref D) H' → s'.heap.Ns C m → FpOk X pins H' C → compPost (model X.prog X.w) X.A X.xe use Qf (.ref D) C (.ok .next) s') :
    wpAny (model X.prog X.w) X.A (comprehension e scope X.env pos mk false (eval iter X.env) use) Qf X.xe s := by
  refine wpAny_comprehension_free (use := use) hcl hs (closure_ok fun y hy ey => (ok.free y hy ey).elim (fun z => I.ok.has _ (.inl z)) (fun z => I.ok.has _ (.inr z))) ok.kind (fun y hy ey => by rw [ok.uniq y hy, ey])
    (thn (hi.run pins s σ H _ I h) fun x s1 h1 => thn h1 fun itv s2 h2 => ?_)
  obtain ⟨it, fp, tn, J, H2, rfl, I2, T, t2, f2, way⟩ := h2
  refine lay.does (newEnv_comp ?_)
  have I3 := lay.inv I2
  have way := way _ (I2.hok.fresh (Nat.le_refl _))
  have kept : ∀ b o, s2.heap.get? b = some o → (s2.heap.push ob).get? b = some o := fun b o z => Heap.get?_push_of_some _ z
  have small : ∀ b ∈ fp, b < s2.heap.objs.size := fun b hb => by
    obtain ⟨o, eo, _⟩ := T.obj _ _ t2 b hb
    exact Heap.lt_size eo
  generalize s2.heap.objs.size = D at *
  have t3 : tn 0 (s2.heap.push ob) := T.keep _ _ _ t2 fun b _ o z => kept b o z
  generalize hz3 : ({ s2 with heap := s2.heap.push ob } : Shared) = s3 at I3 ⊢
  have h3 : s3.heap = s2.heap.push ob := by rw [← hz3]
  have D3 : D < s3.heap.objs.size := by
    have := I3.hok D o0 upd_same
    exact Nat.lt_of_not_le fun z => by
      have nn := I3.hok.fresh z
      rw [upd_same] at nn
      cases nn
  rw [← h3] at t3
  generalize hH3 : upd H2 D o0 = H3 at I3 way
  have f3 : ∀ b ∈ fp, FpOk X pins H3 b ∧ b < s3.heap.objs.size := fun b hb => by
    have lt := small b hb
    refine ⟨⟨?_, (f2 b hb).2⟩, Nat.lt_trans lt D3⟩
    rw [← hH3, upd_ne (Nat.ne_of_lt lt)]
    exact (f2 b hb).1
  have I4 := block_start I3 ok hN f3
  show codeAny _ _ (.compStart e 0 (.ref it) (.ref D) (compEnvC scope (cellsFrom (s3.heap.objs.size + 1) scope.names (cloFrom X.env.cells scope.names [])) s3.heap.objs.size X.env)) (compPost (model X.prog X.w) X.A X.xe use Qf (.ref D) s3.heap.objs.size) { s3 with heap := pushCells (s3.heap.push { cls := .type "dict", data := .dict #[] }) scope.names }
  have pg := hg s3 H3 s3.heap.objs.size (cellsFrom (s3.heap.objs.size + 1) scope.names (cloFrom X.env.cells scope.names [])) fp
  have pt := ht s3 H3 s3.heap.objs.size (cellsFrom (s3.heap.objs.size + 1) scope.names (cloFrom X.env.cells scope.names [])) fp
  have pm := hm s3 H3 s3.heap.objs.size (cellsFrom (s3.heap.objs.size + 1) scope.names (cloFrom X.env.cells scope.names [])) fp D
  generalize hce : compEnvC scope (cellsFrom (s3.heap.objs.size + 1) scope.names (cloFrom X.env.cells scope.names [])) s3.heap.objs.size X.env = ce at I4 pg pt pm ⊢
  have hL : ce.locals = s3.heap.objs.size := by rw [← hce]; rfl
  have t4 : tn 0 (pushCells (s3.heap.push { cls := .type "dict", data := .dict #[] }) scope.names) := T.keep _ _ _ t3 fun b _ o z => pushCells_keeps _ _ _ _ (Heap.get?_push_of_some _ z)
  generalize hz4 : ({ s3 with heap := pushCells (s3.heap.push { cls := .type "dict", data := .dict #[] }) scope.names } : Shared) = s4 at I4 ⊢
  have t4 : tn 0 s4.heap := by rw [← hz4]; exact t4
  have lp : codeAny (model X.prog X.w) X.A (.compLoop e 0 (.ref it) (.ref D) ce) (compPost (model X.prog X.w) X.A X.xe use Qf (.ref D) s3.heap.objs.size) s4 := by
    refine clLoop_run (Y := X.blk s3 H3 scope ce fp) hp (he D ce) hc T pg pt pm hw rfl I4 t4 (fun b hb => ⟨(f3 b hb).1.1, (I4.ok.exf b hb).1, I4.ok.exfs b hb, .inl hb, fun x c z => (I4.ok.exf b hb).2 x c z, fun p hp => absurd (show p ∈ ([] : List (Addr × Obj)) ++ [] from hp) (by simp)⟩) way fun s5 H5 I5 nd => ?_
    have I6 : Inv X pins σ H5 s5 := I3.call' (ch := fp) I5.os I5.base I5.hok I5.bare fun b hb => ⟨(f3 b hb).1.2.2.2.1, (f3 b hb).1.2.1, (f3 b hb).1.2.2.2.2.1, (f3 b hb).1.2.2.2.2.2⟩
    have fr : H5 ce.locals = none := I5.free
    obtain ⟨m, ns, _⟩ := I5.loc
    have ns : s5.heap.Ns ce.locals m := ns
    rw [hL] at ns fr
    exact hE D s3.heap.objs.size s5 m H5 I6 nd ns (I3.fpOk (Nat.le_refl _) fr)
  exact clStart_run (Y := X.blk s3 H3 scope ce fp) hp (by rw [hcl]; rfl) lp (T.self X.A 0 _ _ _ t4 lp)
/-- as a value -/
theorem compr_pe {pos : Pos} (hp : Plain e) (hev : eval e X.env = comprehension e scope X.env pos mk false (eval iter X.env)) (hcl : clausesOf e = ⟨tg, iter, ifs, 0⟩ :: rest) (he : ∀ D env z, compTurn e 0 z (.ref D) env = clTurn tg ip ifs (em D env) (.compLoop e 0 z (.ref D) env) z env) (lay : Lays mk ob o0)
    (hc : X.calm = true) (hN : X.N.Nodup) (hi : PI X tg iter wi) (ok : BlkOk X.N X.env.scope scope own) (hw : ∀ i ∈ ws, i ∈ own.map (·.2))
    (hg : ∀ s H C cl fp, PG (X.blk s H scope (compEnvC scope cl C X.env) fp) tg g) (ht : ∀ s H C cl fp, PTs (X.blk s H scope (compEnvC scope cl C X.env) fp) ifs tt)
    (hm : ∀ s H C cl fp D, PM (X.blk s H scope (compEnvC scope cl C X.env) fp) ws (em D (compEnvC scope cl C X.env)) (tm D)) (hs : ∀ x, foldedSetIterable iter X.env x = pure x) :
    PE X e (tCompr wi g tt tm o0 (own.map (·.2))) := by
  refine ⟨fun pins s σ H Q I h => ?_⟩
  rw [hev]
  refine compr_core hp hcl he lay hc hN I hi ok hw hg ht hm hs h fun D C s' m H' I' q ns f => ⟨m, ns, fun z sb => ?_⟩
  exact ⟨.ref D, H', I'.turned (t' := s'.toks) (fun b o _ eo => (sb.2 b (by assumption)).trans eo) f.1 f.2.1 f.2.2.2.1 f.2.2.2.2.1 f.2.2.2.2.2, rfl, q⟩
/-- name = .., on one line, the name a local -/
theorem compr_set {i : Nat} {y : Str} {py pos spos : Pos} (hp : Plain e) (hu : evalThenUse e X.env (assign (.Name y py) X.env) = (do let _ ← comprehension e scope X.env pos mk false (eval iter X.env) (some (assign (.Name y py) X.env)))) (hcl : clausesOf e = ⟨tg, iter, ifs, 0⟩ :: rest) (he : ∀ D env z, compTurn e 0 z (.ref D) env = clTurn tg ip ifs (em D env) (.compLoop e 0 z (.ref D) env) z env) (lay : Lays mk ob o0)
    (hc : X.calm = true) (hN : X.N.Nodup) (hy : X.N[i]? = some y) (hyl : X.env.scope.names.lookup y = some .local) (hsw : swapsWith e (some (.Name y py)) spos.line X.env = pure true)
    (hi : PI X tg iter wi) (ok : BlkOk X.N X.env.scope scope own) (hw : ∀ i ∈ ws, i ∈ own.map (·.2))
    (hg : ∀ s H C cl fp, PG (X.blk s H scope (compEnvC scope cl C X.env) fp) tg g) (ht : ∀ s H C cl fp, PTs (X.blk s H scope (compEnvC scope cl C X.env) fp) ifs tt)
    (hm : ∀ s H C cl fp D, PM (X.blk s H scope (compEnvC scope cl C X.env) fp) ws (em D (compEnvC scope cl C X.env)) (tm D)) (hs : ∀ x, foldedSetIterable iter X.env x = pure x) :
    PS X (.Assign [.Name y py] e spos) (tAsg (tCompr wi g tt tm o0 (own.map (·.2))) (gName i)) := by
  refine ⟨fun pins s σ H D I h => ?_⟩
  rw [exec_Assign_Name_used _ _ _ _ hsw, hu]
  refine wpAny_bind (wpAny_standAt (wpAny_bind (wpAny_bind ?_)))
  have h : tCompr wi g tt tm o0 (own.map (·.2)) σ H (fun x H1 => gName i x σ H1 D.nx) := h
  refine thn (compr_core (Qf := fun _ s' => SP X pins D .next s') hp hcl he lay hc hN I hi ok hw hg ht hm hs h fun L C s' m H' I' q ns f => ?_) fun _ s' q => wpAny_pure (wpAny_pure q)
  show wpAny _ _ (assign (.Name y py) X.env (.ref L)) _ _ _
  refine wpAny_assign_Name (store_ok2 (v := V.ref L) I' hN hy (.inl hyl) rfl (fun s2 I2 ⟨a, sb, ha⟩ => ?_) (.inr hyl))
  have nC : C ≠ a := ha.elim (fun z => z ▸ f.2.1) (fun z q => f.2.2.2.2.1 y a z q.symm)
  exact ⟨m, ns.sameBut sb nC, fun s3 sb3 => ⟨_, H', I2.turned (t' := s2.toks) (fun b o _ eo => (sb3.2 b (by assumption)).trans eo) f.1 f.2.1 f.2.2.2.1 f.2.2.2.2.1 f.2.2.2.2.2, q⟩⟩
end
end TL

namespace TL
open PySem PySem.Spec PyProof.Rows L2
/-! ### by trees: what is done with an item turns an object of one's own -/
def tMO (W : Wd) (Dd : Addr) (f : En → O → M O) : TM := fun σ H N => ∃ dk F G en d o, SR W dk F G σ H en d ∧ F Dd ∧ ¬ G Dd ∧ Dd ≠ dk.1 ∧ Dd ≠ dk.2 ∧ OwnR W H F dk o Dd ∧
  Post W E0 F dk (without H Dd) (fun o' _ H' => OwnR W H' F dk o' Dd → N H') (f en o d)
def mApp (f : En → M T) : En → O → M O := fun en o => match o with
  | .lst l => (f en).bind fun t => (M.opt (capL (l.length + 1) ())).bind fun _ => .pure (.lst (l ++ [t]))
  | .dic _ => M.bad
def mPut (fk fv : En → M T) : En → O → M O := fun en o => match o with
  | .dic l => (fk en).bind fun y => (fv en).bind fun t => (M.opt (keyT y)).bind fun q => (M.opt (capL (l.length + 1) ())).bind fun _ => .pure (.dic (putT l q t))
  | .lst _ => M.bad
def clL (a : T → En → Option En) (fc : En → M Bool) (fm : En → O → M O) (en : En) : List T → O → M O
  | [], o => .pure o
  | t :: l, o => match a t en with
    | none => M.bad
    | some en1 => (fc en1).bind fun b => match b with
      | true => (fm en1 o).bind fun o' => clL a fc fm en l o'
      | false => clL a fc fm en l o
/-- a clause -/
def clM (fi : En → M (List T)) (a : T → En → Option En) (vs : List Nat) (fc : En → M Bool) (fm : En → O → M O) : En → O → M O := fun en o => (fi en).bind fun l => (clL a fc fm (wipeE en vs) l o).noX
section
variable {W : Wd} {Ex : XK} {dk : Dk} {F G : Addr → Prop} {σ : L2.St} {H H' : Hp} {en : En} {d d' : TL.D} {p : Addr} {o : O}
theorem keep_wo : Keep dk (without H p) H := fun b o h _ _ => by
  unfold without at h
  split at h
  · cases h
  · exact h
theorem wo_some {b : Addr} {ho : HO} (n : b ≠ p) (h : H b = some ho) : without H p b = some ho := by
  unfold without
  rw [if_neg n]
  exact h
theorem OwnR.there (r : OwnR W H F dk o p) : ∃ ho, H p = some ho := by
  cases o with
  | lst l => exact ⟨_, r.choose_spec.1⟩
  | dic l => exact ⟨_, r.choose_spec.1⟩
theorem OwnR.on (S : SR W dk F G σ H en d) (k : Keep dk H H') (n1 : p ≠ dk.1) (n2 : p ≠ dk.2) (r : OwnR W H F dk o p) : OwnR W H' F dk o p := by
  cases o with
  | lst l =>
    obtain ⟨xs, e, r⟩ := r
    exact ⟨xs, k _ _ e n1 n2, S.keepL k r⟩
  | dic l =>
    obtain ⟨xs, e, r⟩ := r
    exact ⟨xs, k _ _ e n1 n2, S.keepD k r⟩
theorem SR.past (S : SR W dk F G σ H en d) (hF : F p) (hG : ¬ G p) (n1 : p ≠ dk.1) (n2 : p ≠ dk.2) (k : Keep dk (without H p) H') (hd : DkAt W dk H' d') (hp : ∃ ho, H' p = some ho) : SR W dk F G σ H' en d' := by
  obtain ⟨h2, e2⟩ := hp
  cases e0 : H p with
  | none => exact absurd e0 (S.fh p hF)
  | some h0 =>
    have S2 : SR W dk F G σ (upd H' p h0) en d' := S.keep (fun b o e m1 m2 => by
      by_cases z : b = p
      · subst z
        rw [e0] at e
        cases e
        exact upd_same
      · rw [upd_ne z]
        exact k b o (wo_some z e) m1 m2) (hd.other n1 n2)
    have S3 := S2.mutH (ho := h2) hF hG n1 n2
    have eq : upd (upd H' p h0) p h2 = H' := by
      funext b
      by_cases z : b = p
      · subst z
        rw [upd_same, e2]
      · rw [upd_ne z, upd_ne z]
    rw [eq] at S3
    exact S3
end
section
variable {W : Wd} {Ex : XK} {Y : Cx} {e tg iter elt kx vx : Expr} {ifs : List Expr} {k : Nat} {acc : Value} {ip : Pos} {em : Sem Fin → Sem Fin} {vs ws is : List Nat} {fi : En → M (List T)} {a : T → En → Option En} {fc : En → M Bool} {fm : En → O → M O} {f fk fv : En → M T} {Dd : Addr}
theorem way_tm {J : It} {l : List T} {c : Hp × (Addr → Prop)} {dk : Dk} {F G : Addr → Prop} {σ : L2.St} {H : Hp} {en : En} {d : TL.D} {o : O} {Nd : Hp → Prop} (hs : ∀ j ∈ is, j ∈ vs) (S : SR W dk F G σ H en d) (hF : F Dd) (hG : ¬ G Dd) (n1 : Dd ≠ dk.1) (n2 : Dd ≠ dk.2)
    (ow : OwnR W H F dk o Dd) (hJ : ItOk W dk c J l) (hv : TL.Vis c F H) (P : Post W E0 F dk (without H Dd) (fun o' _ H' => OwnR W H' F dk o' Dd → Nd H') (clL a fc fm (wipeE en vs) l o d)) :
    Way J (tG W is a) (tT W E0 fc) (tMO W Dd fm) vs σ Nd H := by
  refine ⟨fun i m K => m = l.length - i ∧ i ≤ l.length ∧ ∃ o d', Keep dk (without H Dd) K ∧ DkAt W dk K d' ∧ OwnR W K F dk o Dd ∧ Post W E0 F dk (without H Dd) (fun o' _ H' => OwnR W H' F dk o' Dd → Nd H') (clL a fc fm (wipeE en vs) (l.drop i) o d'),
    ⟨l.length, by simp, Nat.zero_le _, o, d, keep_wo, S.deck, ow, P⟩, ?_⟩
  rintro i m K ⟨rfl, hi, o, d', kK, dK, ow, P⟩
  have SK := S.past hF hG n1 n2 kK dK ow.there
  have hvK : TL.Vis c F K := fun b ho e nf => by
    obtain ⟨e1, e2⟩ := hv b ho e nf
    exact ⟨kK b ho (wo_some (fun z => e2 (z ▸ hF)) e1) (fun z => e2 (z ▸ S.fd1)) (fun z => e2 (z ▸ S.fd2)), e2⟩
  by_cases hlt : i < l.length
  · refine .inr ⟨hJ.go i _ K hvK hlt, fun K2 => i + 1 ≤ l.length ∧ ∃ o d', Keep dk (without H Dd) K2 ∧ DkAt W dk K2 d' ∧ OwnR W K2 F dk o Dd ∧ Post W E0 F dk (without H Dd) (fun o' _ H' => OwnR W H' F dk o' Dd → Nd H') (clL a fc fm (wipeE en vs) (l.drop (i + 1)) o d'),
      fun K2 h => ⟨l.length - (i + 1), by omega, rfl, h⟩, fun x K2 y => ?_⟩
    obtain ⟨sm, t, et, rt⟩ := hJ.yld i _ K x K2 hvK SK.fh hlt y
    have S2 := (SK.keep (.of sm) (dK.same sm)).wipe vs
    have kK2 : Keep dk (without H Dd) K2 := kK.trans (.of sm)
    have hd : l.drop i = t :: l.drop (i + 1) := by
      rw [List.getElem?_eq_getElem hlt] at et
      rw [List.drop_eq_getElem_cons hlt, Option.some.inj et]
    rw [hd] at P
    unfold clL at P
    cases ea : a t (wipeE en vs) with
    | none => rw [ea] at P; exact P.elim
    | some en1 =>
      rw [ea] at P
      refine ⟨dk, _, G, wipeE en vs, d', t, en1, S2, rt, ea, fun σ3 S3 on => ⟨wipe_only on hs, ?_⟩⟩
      refine ⟨dk, _, G, en1, d', S3, (Post.later (Post.bind0 P) kK2).mono fun b d3 H3 k3 D3 P => ?_⟩
      have k13 := kK2.trans k3
      have ow3 : OwnR W H3 F dk o Dd := OwnR.on S2 k3 n1 n2 (OwnR.on SK (.of sm) n1 n2 ow)
      cases b with
      | false => exact iteF ⟨hlt, o, d3, k13, D3, ow3, P⟩
      | true =>
        refine iteT ⟨dk, F, G, en1, d3, o, S3.keep k3 D3, hF, hG, n1, n2, ow3, ?_⟩
        have kw : Keep dk (without H Dd) (without H3 Dd) := fun b ho e m1 m2 => by
          by_cases z : b = Dd
          · subst z
            unfold without at e
            rw [if_pos rfl] at e
            cases e
          · exact wo_some z (k13 b ho e m1 m2)
        refine (Post.later (Post.bind0 P) kw).mono fun o' d4 H4 k4 D4 P ow4 => ⟨hlt, o', d4, kw.trans k4, D4, ow4, P⟩
  · have ei : i = l.length := by omega
    subst ei
    rw [List.drop_length] at P
    exact .inl ⟨hJ.stop _ K hvK, P K kK dK ow⟩
theorem post_any {α : Type} {m : M α} {dk : Dk} {F F' : Addr → Prop} {H H' : Hp} {R R' : α → TL.D → Hp → Prop} {d : TL.D} (h : Post W Ex F dk H R (m.noX d)) (k : ∀ a d1, (∀ K, Keep dk H K → DkAt W dk K d1 → R a d1 K) → ∀ K, Keep dk H' K → DkAt W dk K d1 → R' a d1 K) : Post W E0 F' dk H' R' (m d) := by
  unfold M.noX at h
  cases q : m d with
  | ok a d1 =>
    rw [q] at h
    exact k a d1 h
  | exc x d1 =>
    rw [q] at h
    exact h.elim
  | bad =>
    rw [q] at h
    exact h.elim
theorem Post.opt_bind {α β : Type} {m : Option α} {q : α → M β} {dk : Dk} {F : Addr → Prop} {H : Hp} {R : β → TL.D → Hp → Prop} {d : TL.D} (h : Post W Ex F dk H R (M.bind (M.opt m) q d)) : ∃ a, m = some a ∧ Post W Ex F dk H R (q a d) := by
  cases m with
  | none => exact h.elim
  | some a => exact ⟨a, rfl, h⟩
theorem pmt_list (h : PE Y elt (tE W E0 f)) (hxe : Y.xe = fun _ _ => False) : PM Y [] (fun nx => (do let _ ← call (.builtin "list.append") [.ref Dd, ← eval elt Y.env] : Sem Unit) >>= fun _ => nx) (tMO W Dd (mApp f)) :=
  (pm_list h hxe).imp fun σ H N ⟨dk, F, G, en, d, o, S, hF, hG, n1, n2, ow, P⟩ => by
    cases o with
    | dic l => exact P.elim
    | lst l =>
      obtain ⟨xs, e, r⟩ := ow
      refine ⟨dk, F, G, en, d, S, (Post.later (Post.bind0 P) keep_wo).mono fun t d1 H1 k1 D1 P v rv => ?_⟩
      obtain ⟨u, hz, q⟩ := Post.opt_bind P
      have hl := (capL_some hz).1
      refine ⟨xs, k1 _ _ e n1 n2, by rw [r.length]; omega, q _ (fun b ho eb m1 m2 => ?_) (D1.other n1 n2) ⟨_, upd_same, ?_⟩⟩
      · have nb : b ≠ Dd := fun z => by
          subst z
          unfold without at eb
          rw [if_pos rfl] at eb
          cases eb
        rw [upd_ne nb]
        exact k1 b ho (keep_wo b ho eb m1 m2) m1 m2
      · exact RepL.mono (fun b ho nf eb => ⟨by rw [upd_ne (fun z : b = Dd => nf (by rw [z]; exact hF))]; exact eb, nf⟩) _ _ ((S.keepL k1 r).append (.cons rv .nil))
theorem pmt_dict (h1 : PE Y kx (tE W E0 fk)) (h2 : PE Y vx (tE W E0 fv)) (hxe : Y.xe = fun _ _ => False) : PM Y [] (fun nx => (do
      let kv ← eval kx Y.env
      let vv ← holding [kv] (eval vx Y.env)
      match (.ref Dd : Value) with
      | .ref d => do
        standAt { kx.pos with endLine := vx.pos.endLine, endCol := vx.pos.endCol }
        holding [kv, vv] (dictSet d kv vv)
      | _ => unsupported "internal:dictcomp" : Sem Unit) >>= fun _ => nx) (tMO W Dd (mPut fk fv)) :=
  (pm_dict h1 h2 hxe).imp fun σ H N ⟨dk, F, G, en, d, o, S, hF, hG, n1, n2, ow, P⟩ => by
    cases o with
    | lst l => exact P.elim
    | dic l =>
      obtain ⟨xs, e, r⟩ := ow
      refine ⟨dk, F, G, en, d, S, (Post.later (Post.bind0 P) keep_wo).mono fun y d1 H1 k1 D1 P v rv => ?_⟩
      have S1 := S.keep k1 D1
      refine ⟨dk, F, G, en, d1, S1, (Post.later (Post.bind0 P) (keep_wo.trans k1)).mono fun t d2 H2 k2 D2 P w rw' => ?_⟩
      obtain ⟨q, hq, P⟩ := Post.opt_bind P
      obtain ⟨u, hz, fin⟩ := Post.opt_bind P
      have hl := (capL_some hz).1
      have ey := key_rep rv hq
      subst ey
      have k12 := k1.trans k2
      refine ⟨xs, q, rfl, k12 _ _ e n1 n2, by rw [r.length]; omega, fin _ (fun b ho eb m1 m2 => ?_) (D2.other n1 n2) ⟨_, upd_same, ?_⟩⟩
      · have nb : b ≠ Dd := fun z => by
          subst z
          unfold without at eb
          rw [if_pos rfl] at eb
          cases eb
        rw [upd_ne nb]
        exact k12 b ho (keep_wo b ho eb m1 m2) m1 m2
      · exact RepD.mono (fun b ho nf eb => ⟨by rw [upd_ne (fun z : b = Dd => nf (by rw [z]; exact hF))]; exact eb, nf⟩) _ _ ((S.keepD k12 r).put rw')
theorem pmt_next (hp : Plain e) (hcl : (clausesOf e)[k]? = some ⟨tg, iter, ifs, 0⟩) (he : ∀ z, compTurn e k z acc Y.env = clTurn tg ip ifs em (.compLoop e k z acc Y.env) z Y.env) (hc : Y.calm = true) (hxe : Y.xe = fun _ _ => False)
    (hi : PI Y tg iter (tI W E0 fi)) (hg : PG Y tg (tG W is a)) (ht : PTs Y ifs (tT W E0 fc)) (hm : PM Y ws em (tMO W Dd fm)) (his : ∀ j ∈ is, j ∈ vs) (hw : ∀ i ∈ ws, i ∈ vs) (hs : ∀ x, foldedSetIterable iter Y.env x = pure x) :
    PM Y vs (clNext e k iter acc Y.env) (tMO W Dd (clM fi a vs fc fm)) :=
  (pm_next hp hcl he hc hxe hi hg ht hm hw hs).imp fun σ H N ⟨dk, F, G, en, d, o, S, hF, hG, n1, n2, ow, P⟩ => by
    refine ⟨dk, F, G, en, d, S, (Post.later (Post.bind0 P) keep_wo).mono fun l d1 H1 k1 D1 P J hJ => ?_⟩
    refine way_tm his (S.keep k1 D1) hF hG n1 n2 (OwnR.on S k1 n1 n2 ow) hJ (.refl _ _) (post_any P fun o' d2 h K kk DK => h K (Keep.trans (fun b ho eb m1 m2 => ?_) kk) DK)
    have nb : b ≠ Dd := fun z => by
      subst z
      unfold without at eb
      rw [if_pos rfl] at eb
      cases eb
    exact wo_some nb (k1 b ho (keep_wo b ho eb m1 m2) m1 m2)
/-- the outermost clause -/
def ObR (W : Wd) (H : Hp) (F : Addr → Prop) (dk : Dk) : O → HO → Prop
  | .lst l, ho => ∃ xs, ho = .lst xs ∧ RepL W H F dk l xs
  | .dic l, ho => ∃ xs, ho = .dK xs ∧ RepD W H F dk l xs
theorem compr_of {o0 : O} {h0 : HO} (hs : ∀ j ∈ is, j ∈ vs) (h0r : ∀ H F dk, ObR W H F dk o0 h0) : ∀ σ H Q, (∃ dk F G en d, SR W dk F G σ H en d ∧ Post W Ex F dk H (fun o _ H' => ∀ p ho, ObR W H' F dk o ho → H' p = none → Q (.ref p) (upd H' p ho)) (clM fi a vs fc fm en o0 d)) →
    tCompr (tI W Ex fi) (tG W is a) (tT W E0 fc) (fun D => tMO W D fm) h0 vs σ H Q := fun σ H Q ⟨dk, F, G, en, d, S, h⟩ => by
  refine ⟨dk, F, G, en, d, S, (Post.bind h).mono fun l d1 H1 k1 D1 P J hJ D hD => ?_⟩
  have S1 := S.keep k1 D1
  have n1 : D ≠ dk.1 := fun z => S1.fh _ (z ▸ S1.fd1) hD
  have n2 : D ≠ dk.2 := fun z => S1.fh _ (z ▸ S1.fd2) hD
  have nG : ¬ G D := fun z => S1.fh _ (S1.gf _ z) hD
  have ow : OwnR W (upd H1 D h0) (fun b => F b ∨ b = D) dk o0 D := by
    have := h0r (upd H1 D h0) (fun b => F b ∨ b = D) dk
    cases o0 with
    | lst l0 =>
      obtain ⟨xs, e, r⟩ := this
      exact ⟨xs, by rw [upd_same, e], r⟩
    | dic l0 =>
      obtain ⟨xs, e, r⟩ := this
      exact ⟨xs, by rw [upd_same, e], r⟩
  refine way_tm (F := fun b => F b ∨ b = D) hs (S1.hide hD) (.inr rfl) nG n1 n2 ow hJ (fun b ho e nf => ⟨upd_same' hD b ho e, fun z => z.elim nf (ne_of_none e hD)⟩) (post_any P fun o' d2 hP K kK DK ow' => ?_)
  have wk : ∀ {b ho}, K b = some ho → b ≠ D → without K D b = some ho := fun e n => wo_some n e
  obtain ⟨z1, z2, z3⟩ := DK
  have kH : Keep dk H1 (without K D) := fun b ho e m1 m2 => wk (kK b ho (wo_some (ne_of_none e hD) (upd_same' hD b ho e)) m1 m2) (ne_of_none e hD)
  have hK := hP (without K D) kH ⟨z1, wk z2 n2.symm, wk z3 n1.symm⟩ D
  have hN : without K D D = none := by unfold without; rw [if_pos rfl]
  cases o' with
  | lst l' =>
    obtain ⟨xs, e, r⟩ := ow'
    have := hK _ ⟨xs, rfl, RepL.mono (fun b ho nf eb => ⟨wk eb (fun z => nf (.inr z)), fun z => nf (.inl z)⟩) _ _ r⟩ hN
    rw [without_upd e] at this
    exact this
  | dic l' =>
    obtain ⟨xs, e, r⟩ := ow'
    have := hK _ ⟨xs, rfl, RepD.mono (fun b ho nf eb => ⟨wk eb (fun z => nf (.inr z)), fun z => nf (.inl z)⟩) _ _ r⟩ hN
    rw [without_upd e] at this
    exact this
/-- kept: a value -/
def xCl (o0 : O) (f : En → O → M O) : En → M T := fun en => (f en o0).bind fun o => .pure o.t
theorem compr_val {o0 : O} : ∀ σ H Q, tE W Ex (xCl o0 (clM fi a vs fc fm)) σ H Q → ∃ dk F G en d, SR W dk F G σ H en d ∧ Post W Ex F dk H (fun o _ H' => ∀ p ho, ObR W H' F dk o ho → H' p = none → Q (.ref p) (upd H' p ho)) (clM fi a vs fc fm en o0 d) := fun σ H Q ⟨dk, F, G, en, d, S, h⟩ => by
  refine ⟨dk, F, G, en, d, S, (Post.bind h).mono fun o d1 H1 k1 D1 q p ho ob hp => ?_⟩
  refine q _ (.of (upd_same' hp)) (D1.same (upd_same' hp)) _ ?_
  have nF := (S.keep k1 D1).free hp
  cases o with
  | lst l =>
    obtain ⟨xs, rfl, r⟩ := ob
    exact rep_lst (fun p hp => (S.keep k1 D1).free hp) hp r
  | dic l =>
    obtain ⟨xs, rfl, r⟩ := ob
    simp only [O.t, Rep]
    exact ⟨p, xs, rfl, nF, .inl upd_same, RepD.mono (fun b ho nf e => ⟨upd_same' hp b ho e, nf⟩) _ _ r⟩
/-- a list, two clauses -/
theorem te_lc2 {X : Cx} {scope : Scope} {own : List (Str × Nat)} {pos : Pos} {tg1 iter1 : Expr} {ifs1 : List Expr} {fi1 : En → M (List T)} {a1 : T → En → Option En} {fc1 : En → M Bool} {is1 vs1 : List Nat} (hN : X.N.Nodup) (hi : PI X tg iter (tI W Ex fi)) (ok : BlkOk X.N X.env.scope scope own)
    (hg : ∀ s H C cl fp, PG (X.blk s H scope (compEnvC scope cl C X.env) fp) tg (tG W is a)) (ht : ∀ s H C cl fp, PTs (X.blk s H scope (compEnvC scope cl C X.env) fp) ifs (tT W E0 fc))
    (hi1 : ∀ s H C cl fp, PI (X.blk s H scope (compEnvC scope cl C X.env) fp) tg1 iter1 (tI W E0 fi1)) (hg1 : ∀ s H C cl fp, PG (X.blk s H scope (compEnvC scope cl C X.env) fp) tg1 (tG W is1 a1)) (ht1 : ∀ s H C cl fp, PTs (X.blk s H scope (compEnvC scope cl C X.env) fp) ifs1 (tT W E0 fc1))
    (hx : ∀ s H C cl fp, PE (X.blk s H scope (compEnvC scope cl C X.env) fp) elt (tE W E0 f)) (his : ∀ j ∈ is, j ∈ own.map (·.2) := by decide) (his1 : ∀ j ∈ is1, j ∈ vs1 := by decide) (hvs : ∀ j ∈ vs1, j ∈ own.map (·.2) := by decide) (hc : X.calm = true := by rfl)
    (hs : ∀ x, foldedSetIterable iter X.env x = pure x := by intro _; rfl) (hs1 : ∀ env x, foldedSetIterable iter1 env x = pure x := by intro _ _; rfl) :
    PE X (.ListComp elt [⟨tg, iter, ifs, 0⟩, ⟨tg1, iter1, ifs1, 0⟩] scope pos) (tE W Ex (xCl (.lst []) (clM fi a (own.map (·.2)) fc (clM fi1 a1 vs1 fc1 (mApp f))))) :=
  (compr_pe (ws := vs1) (em := fun D env => clNext (.ListComp elt [⟨tg, iter, ifs, 0⟩, ⟨tg1, iter1, ifs1, 0⟩] scope pos) 1 iter1 (.ref D) env) ⟨fun _ _ _ _ => rfl, fun _ _ _ _ => rfl, fun _ _ _ _ => rfl, fun _ _ _ _ _ => rfl, fun _ _ _ _ _ => rfl⟩ rfl rfl (fun _ _ _ => rfl) lays_list hc hN hi ok hvs hg ht
    (fun s H C cl fp D => pmt_next (ws := []) ⟨fun _ _ _ _ => rfl, fun _ _ _ _ => rfl, fun _ _ _ _ => rfl, fun _ _ _ _ _ => rfl, fun _ _ _ _ _ => rfl⟩ rfl (fun _ => rfl) hc rfl (hi1 s H C cl fp) (hg1 s H C cl fp) (ht1 s H C cl fp) (pmt_list (hx s H C cl fp) rfl) his1 (by simp) (hs1 _)) hs).imp
    fun σ H Q h => compr_of (o0 := .lst []) his (fun _ _ _ => ⟨[], rfl, .nil⟩) σ H Q (compr_val σ H Q h)
/-- a dict, two clauses -/
theorem te_dc2 {X : Cx} {scope : Scope} {own : List (Str × Nat)} {pos : Pos} {tg1 iter1 : Expr} {ifs1 : List Expr} {fi1 : En → M (List T)} {a1 : T → En → Option En} {fc1 : En → M Bool} {is1 vs1 : List Nat} (hN : X.N.Nodup) (hi : PI X tg iter (tI W Ex fi)) (ok : BlkOk X.N X.env.scope scope own)
    (hg : ∀ s H C cl fp, PG (X.blk s H scope (compEnvC scope cl C X.env) fp) tg (tG W is a)) (ht : ∀ s H C cl fp, PTs (X.blk s H scope (compEnvC scope cl C X.env) fp) ifs (tT W E0 fc))
    (hi1 : ∀ s H C cl fp, PI (X.blk s H scope (compEnvC scope cl C X.env) fp) tg1 iter1 (tI W E0 fi1)) (hg1 : ∀ s H C cl fp, PG (X.blk s H scope (compEnvC scope cl C X.env) fp) tg1 (tG W is1 a1)) (ht1 : ∀ s H C cl fp, PTs (X.blk s H scope (compEnvC scope cl C X.env) fp) ifs1 (tT W E0 fc1))
    (hk : ∀ s H C cl fp, PE (X.blk s H scope (compEnvC scope cl C X.env) fp) kx (tE W E0 fk)) (hx : ∀ s H C cl fp, PE (X.blk s H scope (compEnvC scope cl C X.env) fp) vx (tE W E0 fv)) (his : ∀ j ∈ is, j ∈ own.map (·.2) := by decide) (his1 : ∀ j ∈ is1, j ∈ vs1 := by decide) (hvs : ∀ j ∈ vs1, j ∈ own.map (·.2) := by decide) (hc : X.calm = true := by rfl)
    (hs : ∀ x, foldedSetIterable iter X.env x = pure x := by intro _; rfl) (hs1 : ∀ env x, foldedSetIterable iter1 env x = pure x := by intro _ _; rfl) :
    PE X (.DictComp kx vx [⟨tg, iter, ifs, 0⟩, ⟨tg1, iter1, ifs1, 0⟩] scope pos) (tE W Ex (xCl (.dic []) (clM fi a (own.map (·.2)) fc (clM fi1 a1 vs1 fc1 (mPut fk fv))))) :=
  (compr_pe (ws := vs1) (em := fun D env => clNext (.DictComp kx vx [⟨tg, iter, ifs, 0⟩, ⟨tg1, iter1, ifs1, 0⟩] scope pos) 1 iter1 (.ref D) env) ⟨fun _ _ _ _ => rfl, fun _ _ _ _ => rfl, fun _ _ _ _ => rfl, fun _ _ _ _ _ => rfl, fun _ _ _ _ _ => rfl⟩ rfl rfl (fun _ _ _ => rfl) lays_dict hc hN hi ok hvs hg ht
    (fun s H C cl fp D => pmt_next (ws := []) ⟨fun _ _ _ _ => rfl, fun _ _ _ _ => rfl, fun _ _ _ _ => rfl, fun _ _ _ _ _ => rfl, fun _ _ _ _ _ => rfl⟩ rfl (fun _ => rfl) hc rfl (hi1 s H C cl fp) (hg1 s H C cl fp) (ht1 s H C cl fp) (pmt_dict (hk s H C cl fp) (hx s H C cl fp) rfl) his1 (by simp) (hs1 _)) hs).imp
    fun σ H Q h => compr_of (o0 := .dic []) his (fun _ _ _ => ⟨[], rfl, by simp only [RepD]⟩) σ H Q (compr_val σ H Q h)
/-- name = {..: .. for .. for ..} -/
theorem ts_setDc2 {X : Cx} {scope : Scope} {own : List (Str × Nat)} {pos : Pos} {tg1 iter1 : Expr} {ifs1 : List Expr} {fi1 : En → M (List T)} {a1 : T → En → Option En} {fc1 : En → M Bool} {is1 vs1 : List Nat} {i : Nat} {y : Str} {py spos : Pos} (hN : X.N.Nodup) (hi : PI X tg iter (tI W Ex fi)) (ok : BlkOk X.N X.env.scope scope own)
    (hg : ∀ s H C cl fp, PG (X.blk s H scope (compEnvC scope cl C X.env) fp) tg (tG W is a)) (ht : ∀ s H C cl fp, PTs (X.blk s H scope (compEnvC scope cl C X.env) fp) ifs (tT W E0 fc))
    (hi1 : ∀ s H C cl fp, PI (X.blk s H scope (compEnvC scope cl C X.env) fp) tg1 iter1 (tI W E0 fi1)) (hg1 : ∀ s H C cl fp, PG (X.blk s H scope (compEnvC scope cl C X.env) fp) tg1 (tG W is1 a1)) (ht1 : ∀ s H C cl fp, PTs (X.blk s H scope (compEnvC scope cl C X.env) fp) ifs1 (tT W E0 fc1))
    (hk : ∀ s H C cl fp, PE (X.blk s H scope (compEnvC scope cl C X.env) fp) kx (tE W E0 fk)) (hx : ∀ s H C cl fp, PE (X.blk s H scope (compEnvC scope cl C X.env) fp) vx (tE W E0 fv)) (his : ∀ j ∈ is, j ∈ own.map (·.2) := by decide) (his1 : ∀ j ∈ is1, j ∈ vs1 := by decide) (hvs : ∀ j ∈ vs1, j ∈ own.map (·.2) := by decide)
    (hy : X.N[i]? = some y := by rfl) (hyl : X.env.scope.names.lookup y = some .local := by rfl) (hsw : swapsWith (.DictComp kx vx [⟨tg, iter, ifs, 0⟩, ⟨tg1, iter1, ifs1, 0⟩] scope pos) (some (.Name y py)) spos.line X.env = pure true := by rfl) (hc : X.calm = true := by rfl)
    (hs : ∀ x, foldedSetIterable iter X.env x = pure x := by intro _; rfl) (hs1 : ∀ env x, foldedSetIterable iter1 env x = pure x := by intro _ _; rfl) :
    PS X (.Assign [.Name y py] (.DictComp kx vx [⟨tg, iter, ifs, 0⟩, ⟨tg1, iter1, ifs1, 0⟩] scope pos) spos) (tS W Ex (sAsg i (xCl (.dic []) (clM fi a (own.map (·.2)) fc (clM fi1 a1 vs1 fc1 (mPut fk fv)))))) :=
  (compr_set (ws := vs1) (em := fun D env => clNext (.DictComp kx vx [⟨tg, iter, ifs, 0⟩, ⟨tg1, iter1, ifs1, 0⟩] scope pos) 1 iter1 (.ref D) env) ⟨fun _ _ _ _ => rfl, fun _ _ _ _ => rfl, fun _ _ _ _ => rfl, fun _ _ _ _ _ => rfl, fun _ _ _ _ _ => rfl⟩ rfl rfl (fun _ _ _ => rfl) lays_dict hc hN hy hyl hsw hi ok hvs hg ht
    (fun s H C cl fp D => pmt_next (ws := []) ⟨fun _ _ _ _ => rfl, fun _ _ _ _ => rfl, fun _ _ _ _ => rfl, fun _ _ _ _ _ => rfl, fun _ _ _ _ _ => rfl⟩ rfl (fun _ => rfl) hc rfl (hi1 s H C cl fp) (hg1 s H C cl fp) (ht1 s H C cl fp) (pmt_dict (hk s H C cl fp) (hx s H C cl fp) rfl) his1 (by simp) (hs1 _)) hs).imp
    fun D σ H ⟨dk, F0, H0, cp, en, d, ⟨F, G, R⟩, p⟩ => compr_of (o0 := .dic []) his (fun _ _ _ => ⟨[], rfl, by simp only [RepD]⟩) _ _ _ (compr_val _ _ _ (R.use p fun t d1 v H1 k1 R1 rv q => q _ _ ⟨F, G, R1.setVal rv⟩))
end
end TL

/-! TLw: plain law: lists of texts, clauses that are walked, loops that ask all. -/
namespace TL
open PySem PySem.Spec PyProof.Rows L2
abbrev pyS (w : List Nat) : PyData := .str ⟨w.toArray⟩
theorem pyL_strs : ∀ ws : List (List Nat), pyL (ws.map strR) = some (ws.map pyS)
  | [] => rfl
  | w :: ws => by
    rw [List.map_cons, List.map_cons]
    unfold pyL
    rw [pyL_strs ws]
    rfl
/-- signs of plain text -/
def Wo (w : List Nat) : Prop := ∀ c ∈ w, c < 128
theorem Wo.ok {w : List Nat} (h : Wo w) : PyData.strOk ⟨w.toArray⟩ = true := by
  unfold PyData.strOk
  first
    | (rw [Array.all_eq_true_iff_forall_mem]; intro c hc; have := h c (by simpa using hc); simp; omega)
    | (simp only [List.all_toArray, List.all_eq_true, decide_eq_true_eq]; intro c hc; have := h c hc; omega)
    | (rw [List.all_eq_true]; intro c hc; have := h c (by simpa using hc); simp; omega)
theorem lay_strs : ∀ ws : List (List Nat), (∀ w ∈ ws, Wo w) → PyData.canLayAll0 (ws.map pyS) = true
  | [], _ => by simp only [List.map_nil, PyData.canLayAll0]
  | w :: ws, h => by
    rw [List.map_cons]
    simp only [PyData.canLayAll0, PyData.canLay0, lay_strs ws fun w hw => h w (List.mem_cons_of_mem _ hw), (h w List.mem_cons_self).ok, Bool.and_self]
theorem dep_strs : ∀ ws : List (List Nat), PyData.depthAll (ws.map pyS) ≤ 1
  | [] => by simp only [List.map_nil, PyData.depthAll]; omega
  | w :: ws => by
    have := dep_strs ws
    rw [List.map_cons]
    simp only [PyData.depthAll, PyData.depth]
    omega
theorem shaped_strs {ws : List (List Nat)} (h : ∀ w ∈ ws, Wo w) : SeqAt.shaped (.list (ws.map pyS)) = true := by
  have := dep_strs ws
  unfold SeqAt.shaped
  simp only [PyData.canLay0, PyData.depth, lay_strs ws h, Bool.true_and]
  exact decide_eq_true (by omega)
theorem eqv_strs (a b : List Nat) : PyData.eqv (pyS a) (pyS b) = decide (a = b) := by
  simp only [PyData.eqv]
  by_cases h : a = b
  · subst h
    simp
  · rw [decide_eq_false h]
    exact beq_false_of_ne fun z => h (str_inj.mp z)
theorem any_strs (x : List Nat) (ws : List (List Nat)) : ((ws.map pyS).any fun z => PyData.eqv z (pyS x)) = decide (x ∈ ws) := by
  rw [List.any_map]
  induction ws with
  | nil => rfl
  | cons w ws ih =>
    rw [List.any_cons, ih]
    show (PyData.eqv (pyS w) (pyS x) || _) = _
    rw [eqv_strs]
    by_cases h : x = w
    · subst h
      simp
    · have h' : ¬ w = x := fun z => h z.symm
      rw [decide_eq_false h', Bool.false_or]
      exact decide_eq_decide.mpr ⟨fun m => List.mem_cons_of_mem _ m, fun m => (List.mem_cons.mp m).resolve_left h⟩
theorem shaped_str {x : List Nat} (h : Wo x) : SeqAt.shaped (pyS x) = true := by
  unfold SeqAt.shaped
  simp only [PyData.canLay0, PyData.depth, h.ok, Bool.true_and]
  rfl
theorem inB_strs {x : List Nat} {ws : List (List Nat)} (hx : Wo x) (h : ∀ w ∈ ws, Wo w) : inB (strR x) (.lst (ws.map strR)) = some (decide (x ∈ ws)) := by
  show (match (strR x).py, pyL (ws.map strR) with
    | some d, some ds => if SeqAt.shaped d && SeqAt.shaped (.list ds) then some (ds.any fun z => PyData.eqv z d) else none
    | _, _ => none) = _
  rw [pyL_strs]
  show (if SeqAt.shaped (pyS x) && SeqAt.shaped (.list (ws.map pyS)) then some ((ws.map pyS).any fun z => PyData.eqv z (pyS x)) else none) = _
  rw [shaped_strs h, shaped_str hx, any_strs]
  rfl
theorem in_strs {x : List Nat} {ws : List (List Nat)} (hx : Wo x) (h : ∀ w ∈ ws, Wo w) : inT (strR x) (.lst (ws.map strR)) = some (.bl (decide (x ∈ ws))) := by
  unfold inT
  rw [inB_strs hx h]
  rfl
theorem notin_strs {x : List Nat} {ws : List (List Nat)} (hx : Wo x) (h : ∀ w ∈ ws, Wo w) : notInT (strR x) (.lst (ws.map strR)) = some (.bl (!decide (x ∈ ws))) := by
  unfold notInT
  rw [inB_strs hx h]
  rfl
theorem eqB_strs {a b : List (List Nat)} (ha : ∀ w ∈ a, Wo w) (hb : ∀ w ∈ b, Wo w) : eqB (.lst (a.map strR)) (.lst (b.map strR)) = some (decide (a = b)) := by
  show (match (T.lst (a.map strR)).py, (T.lst (b.map strR)).py with
    | some d, some e => if SeqAt.shaped d && SeqAt.shaped e then some (PyData.eqv d e) else none
    | _, _ => none) = _
  simp only [T.py, pyL_strs, Option.map_some, shaped_strs ha, shaped_strs hb, Bool.and_self, if_true, PyData.eqv]
  rw [eqv_inj pyS eqv_strs]
theorem ne_strs {a b : List (List Nat)} (ha : ∀ w ∈ a, Wo w) (hb : ∀ w ∈ b, Wo w) : neT (.lst (a.map strR)) (.lst (b.map strR)) = some (.bl (!decide (a = b))) := by
  unfold neT
  rw [eqB_strs ha hb]
  rfl
theorem ne_strs0 {a : List (List Nat)} (ha : ∀ w ∈ a, Wo w) : neT (.lst (a.map strR)) (.lst []) = some (.bl (!decide (a = []))) := ne_strs ha (b := []) (fun _ h => by cases h)
/-! ### dicts -/
theorem look_put (l : List (Key × T)) (k : Key) (t : T) (q : Key) : (lookK (putT l k t) q).isSome = (decide (q = k) || (lookK l q).isSome) := by
  have key : ∀ l : List (Key × T), (lookK l q).isSome = l.any fun kv => decide (kv.1 = q) := fun l => by
    unfold lookK
    rw [Option.isSome_map, List.isSome_find?]
  rw [key, key]
  unfold putT
  split
  · rename_i h
    rw [List.any_map]
    have e : ((fun kv : Key × T => decide (kv.1 = q)) ∘ fun kv : Key × T => if kv.1 = k then (kv.1, t) else kv) = fun kv => decide (kv.1 = q) := by
      funext kv
      show decide ((if kv.1 = k then (kv.1, t) else kv).1 = q) = _
      split <;> rfl
    rw [e]
    by_cases hq : q = k
    · subst hq
      rw [h, Bool.or_true]
    · rw [decide_eq_false hq, Bool.false_or]
  · rw [List.any_append, Bool.or_comm]
    congr 1
    rw [List.any_cons, List.any_nil, Bool.or_false]
    exact decide_eq_decide.mpr eq_comm
theorem put_length (l : List (Key × T)) (k : Key) (t : T) : (putT l k t).length ≤ l.length + 1 := by
  unfold putT
  split
  · rw [List.length_map]; omega
  · rw [List.length_append]; exact Nat.le_refl _
theorem in_dic (x : List Nat) (l : List (Key × T)) : inT (strR x) (.dic l) = some (.bl (lookK l (.inr ⟨x.toArray⟩)).isSome) := rfl
theorem inr_str {a b : List Nat} : ((Sum.inr (⟨a.toArray⟩ : Str) : Key) = Sum.inr ⟨b.toArray⟩) ↔ a = b :=
  ⟨fun h => str_inj.mp (Sum.inr.inj h), fun h => by rw [h]⟩
/-! ### clauses -/
/-- a clause without tests that draws nothing -/
theorem clL_run {α : Type} (c : α → T) {a : T → En → Option En} {fm : En → O → M O} {en : En} {d : TL.D} (I : List α → O → Prop) :
    ∀ (post pre : List α) (o : O), I pre o → (∀ (pr : List α) (x : α) (po : List α) (o : O), pre ++ post = pr ++ x :: po → I pr o → ∃ en1, a (c x) en = some en1 ∧ ∃ o', fm en1 o d = .ok o' d ∧ I (pr ++ [x]) o') →
    ∃ o', clL a xYes fm en (post.map c) o d = .ok o' d ∧ I (pre ++ post) o'
  | [], pre, o, h, _ => ⟨o, rfl, by rw [List.append_nil]; exact h⟩
  | x :: post, pre, o, h, st => by
    obtain ⟨en1, e1, o1, e2, h1⟩ := st pre x post o rfl h
    obtain ⟨o2, e3, h2⟩ := clL_run c I post (pre ++ [x]) o1 h1 fun pr y po o e hi => st pr y po o (by rw [← e]; simp) hi
    refine ⟨o2, ?_, by rw [List.append_cons]; exact h2⟩
    rw [List.map_cons]
    unfold clL
    simp only [e1, e2, e3, ev_bind, ev_opt, ev_ok, ev_noX, ev_Yes, ev_pure]
theorem clM_run {fi : En → M (List T)} {a : T → En → Option En} {vs : List Nat} {fc : En → M Bool} {fm : En → O → M O} {en : En} {o o' : O} {d : TL.D} {l : List T} (h1 : fi en d = .ok l d) (h2 : clL a fc fm (wipeE en vs) l o d = .ok o' d) : clM fi a vs fc fm en o d = .ok o' d := by
  unfold clM
  simp only [ev_bind, h1, ev_ok, ev_noX, h2]
theorem ev_Cl {o0 o : O} {f : En → O → M O} {en : En} {d d' : TL.D} (h : f en o0 d = .ok o d') : xCl o0 f en d = .ok o.t d' := by
  unfold xCl
  simp only [ev_bind, h, ev_ok, ev_pure]
/-! ### a loop that asks all -/
theorem forL_allB {α : Type} (c : α → T) {a : T → En → Option En} {g : En → MS} (P : α → Bool) (Fr : En → Prop) {d : TL.D} (r : T) :
    ∀ (xs : List α) (en : En), Fr en → (∀ x ∈ xs, ∀ en, Fr en → ∃ en1, a (c x) en = some en1 ∧ ∃ en', (P x = true ∧ g en1 d = .ok (.nx, en') d ∧ Fr en') ∨ (P x = false ∧ g en1 d = .ok (.ret r, en') d)) →
    ∃ en', (xs.all P = true ∧ forL a g (xs.map c) en d = .ok (.nx, en') d ∧ Fr en') ∨ (xs.all P = false ∧ forL a g (xs.map c) en d = .ok (.ret r, en') d)
  | [], en, h, _ => ⟨en, .inl ⟨rfl, rfl, h⟩⟩
  | x :: xs, en, h, st => by
    obtain ⟨en1, e1, en2, ⟨p, e2, h2⟩ | ⟨p, e2⟩⟩ := st x List.mem_cons_self en h
    · obtain ⟨en3, ⟨p3, e3, h3⟩ | ⟨p3, e3⟩⟩ := forL_allB c P Fr r xs en2 h2 fun y hy => st y (List.mem_cons_of_mem _ hy)
      · refine ⟨en3, .inl ⟨by rw [List.all_cons, p, p3]; rfl, ?_, h3⟩⟩
        rw [List.map_cons]
        unfold forL
        simp only [e1, ev_bind, ev_opt, e2, ev_ok]
        exact e3
      · refine ⟨en3, .inr ⟨by rw [List.all_cons, p, p3]; rfl, ?_⟩⟩
        rw [List.map_cons]
        unfold forL
        simp only [e1, ev_bind, ev_opt, e2, ev_ok]
        exact e3
    · refine ⟨en2, .inr ⟨by rw [List.all_cons, p]; rfl, ?_⟩⟩
      rw [List.map_cons]
      unfold forL
      simp only [e1, ev_bind, ev_opt, e2, ev_ok]
      rfl
theorem any_bools {α : Type} (f : α → Bool) : ∀ xs : List α, anyT [.lst (xs.map fun x => T.bl (f x))] = some (.bl (xs.any f)) := fun xs => by
  show (boolsOf (xs.map fun x => T.bl (f x))).map (fun ns => T.bl (ns.any id)) = _
  have : ∀ xs : List α, boolsOf (xs.map fun x => T.bl (f x)) = some (xs.map f) := by
    intro xs
    induction xs with
    | nil => rfl
    | cons x xs ih =>
      rw [List.map_cons]
      unfold boolsOf
      rw [ih]
      rfl
  rw [this, Option.map_some, List.any_map]
  rfl
theorem str_twice {w : List Nat} (h : w.length ≤ 1000) : mulT (strR w) (.int 2) = some (strR (w ++ w)) := by
  show (if 0 ≤ (2 : Int) ∧ (2 : Int) < 2 ^ 62 then capL ((⟨w.toArray⟩ : Str).length * (2 : Int).toNat) (T.str (repT ⟨w.toArray⟩ (2 : Int).toNat)) else none) = _
  rw [if_pos (by decide), strR_len, ev_cap (by show w.length * 2 ≤ _; omega)]
  have : repT ⟨w.toArray⟩ (2 : Int).toNat = ⟨(w ++ w).toArray⟩ := by
    show (⟨((List.replicate 2 w.toArray.toList).flatten).toArray⟩ : Str) = _
    rw [List.toList_toArray]
    simp [List.replicate]
  rw [this]
  rfl
theorem join_all : ∀ ws : List (List Nat), Txt.join (⟨#[]⟩ : Str) (ws.map fun w => (⟨w.toArray⟩ : Str)) = ⟨ws.flatten.toArray⟩ := fun ws => by
  rw [show Txt.join = Str.join from funext fun y => funext fun p => PySem.StrLaws.glued_eq_join y p]
  induction ws with
  | nil => rfl
  | cons w ws ih =>
    cases ws with
    | nil =>
      show (⟨w.toArray⟩ : Str) = _
      simp
    | cons v r =>
      show (⟨w.toArray⟩ : Str) ++ ⟨#[]⟩ ++ Str.join ⟨#[]⟩ ((v :: r).map fun w => (⟨w.toArray⟩ : Str)) = _
      rw [ih, List.flatten_cons (l := w), ← str_app]
      congr 1
theorem strsOf_map : ∀ ws : List (List Nat), strsOf (ws.map strR) = some (ws.map fun w => (⟨w.toArray⟩ : Str))
  | [] => rfl
  | w :: ws => by
    rw [List.map_cons, List.map_cons]
    show (strsOf (ws.map strR)).map _ = _
    rw [strsOf_map ws]
    rfl
theorem join_ones {cs : List Nat} (h : cs.length ≤ 16777216) : joinT (.str "") (.lst (cs.map fun c => strR [c])) = some (strR cs) := by
  have e : (cs.map fun c => strR [c]) = (cs.map fun c => [c]).map strR := by rw [List.map_map]; rfl
  have f : (cs.map fun c => [c]).flatten = cs := by
    clear e h
    induction cs with
    | nil => rfl
    | cons c cs ih => rw [List.map_cons, List.flatten_cons, ih]; rfl
  rw [e]
  show (strsOf _).bind _ = _
  rw [strsOf_map, Option.bind_some]
  have s1 : ((((cs.map fun c => [c]).map fun w => (⟨w.toArray⟩ : Str)).map (·.length)).sum) = cs.length := by
    rw [List.map_map, List.map_map]
    clear e f h
    induction cs with
    | nil => rfl
    | cons c cs ih => rw [List.map_cons, List.sum_cons, ih, List.length_cons, Nat.add_comm]; rfl
  have s2 : (("" : Str).length) = 0 := rfl
  rw [if_pos (by rw [s1, s2]; omega)]
  have : Txt.join ("" : Str) ((cs.map fun c => [c]).map fun w => (⟨w.toArray⟩ : Str)) = ⟨((cs.map fun c => [c]).flatten).toArray⟩ := join_all _
  rw [this, f]
  rfl
@[simp] theorem ev_Join {f g : En → M T} {en : En} {d : TL.D} : xJoin f g en d = (f en d).bind fun x => (M.opt (strT? x)).bind fun s => (g en).bind fun y => .opt (joinT (.str s) y) := (rfl)
end TL

/-! TLw0: zip of two texts is made. -/
namespace TL
open PySem PySem.Spec PyProof.Rows L2

/-- a text's iterator, as it is made -/
abbrev itS (x : Str) (t : Tok) : Obj := { cls := .type (strIterType x), data := .fields #[.str x t, .int 0 0] }
abbrev zs1 (h : Heap) (x : Str) (t : Tok) : Heap := h.push (itS x t)
abbrev zs2 (h : Heap) (x y : Str) (t u : Tok) : Heap := (zs1 h x t).push (itS y u)
abbrev zs3 (h : Heap) (x y : Str) (t u : Tok) : Heap := (zs2 h x y t u).push { cls := .type "tuple", data := .seq #[.ref h.objs.size, .ref (zs1 h x t).objs.size] }
abbrev zs4 (h : Heap) (x y : Str) (t u : Tok) : Heap := (zs3 h x y t u).push { cls := .type "tuple", data := .seq #[.none, .none] }
abbrev zs5 (h : Heap) (x y : Str) (t u : Tok) : Heap := (zs4 h x y t u).push { cls := .type "zip", data := .fields #[.none, .bool false, .bool false, .ref (zs2 h x y t u).objs.size, .ref (zs3 h x y t u).objs.size] }
set_option maxHeartbeats 1000000 in
theorem meets_zipSS (x y : Str) (t u : Tok) :
    Meets (Builtin.«zip.__new__» ⟨[.type "zip", .str x t, .str y u], []⟩) (fun _ R s => R (.ok (.ret (.ref (zs4 s.heap x y t u).objs.size))) { s with heap := zs5 s.heap x y t u }) :=
  .of_wp fun prog w A R s h => by
    obtain ⟨hp, g, dd, tk, os⟩ := s
    have sz := sub_zip
    wp_walk using wpAny_pyIter_strU
    exact ⟨_, rfl, h⟩
theorem call_zipSS {prog : Program} {w : World} {A : Around} {E : Value → Shared → Prop} {s : Shared} {x y : Str} {t u : Tok} {Q : Value → Shared → Prop}
    (h : ∀ hp, IsZip hp (s.heap.objs.size + 4) (s.heap.objs.size + 2) (s.heap.objs.size + 3) .none → IsTupOf2 hp (s.heap.objs.size + 2) (.ref s.heap.objs.size) (.ref (s.heap.objs.size + 1)) → IsTupOf2 hp (s.heap.objs.size + 3) .none .none →
      hp.IsStrIter s.heap.objs.size (strIterType x) x t 0 → hp.IsStrIter (s.heap.objs.size + 1) (strIterType y) y u 0 → (∀ b o, s.heap.get? b = some o → hp.get? b = some o) → Q (.ref (s.heap.objs.size + 4)) { s with heap := hp }) :
    wpAny (model prog w) A (call (.type "zip") [.str x t, .str y u]) Q E s := by
  refine callType_new F.called_zip (by decide) (F.typeCall_zip_2 _ _) (F.newCall_zip_2 _ _) (fun obj => F.args_object_init_3 obj _ _) F.entry_zip_new (meets_zipSS x y t u) ?_
  have n1 : (zs1 s.heap x t).objs.size = s.heap.objs.size + 1 := Heap.size_push ..
  have n2 : (zs2 s.heap x y t u).objs.size = s.heap.objs.size + 2 := by rw [Heap.size_push, n1]
  have n3 : (zs3 s.heap x y t u).objs.size = s.heap.objs.size + 3 := by rw [Heap.size_push, n2]
  have n4 : (zs4 s.heap x y t u).objs.size = s.heap.objs.size + 4 := by rw [Heap.size_push, n3]
  have at4 : (zs5 s.heap x y t u).get? (zs4 s.heap x y t u).objs.size = some _ := Heap.get?_push_size _ rfl
  have at3 : (zs5 s.heap x y t u).get? (zs3 s.heap x y t u).objs.size = some _ := Heap.get?_push_of_some _ (Heap.get?_push_size _ rfl)
  have at2 : (zs5 s.heap x y t u).get? (zs2 s.heap x y t u).objs.size = some _ := Heap.get?_push_of_some _ (Heap.get?_push_of_some _ (Heap.get?_push_size _ rfl))
  have at1 : (zs5 s.heap x y t u).get? (zs1 s.heap x t).objs.size = some _ := Heap.get?_push_of_some _ (Heap.get?_push_of_some _ (Heap.get?_push_of_some _ (Heap.get?_push_size _ rfl)))
  have at0 : (zs5 s.heap x y t u).get? s.heap.objs.size = some _ := Heap.get?_push_of_some _ (Heap.get?_push_of_some _ (Heap.get?_push_of_some _ (Heap.get?_push_of_some _ (Heap.get?_push_size _ rfl))))
  have old : ∀ b o, s.heap.get? b = some o → (zs5 s.heap x y t u).get? b = some o := fun b o e =>
    Heap.get?_push_of_some _ (Heap.get?_push_of_some _ (Heap.get?_push_of_some _ (Heap.get?_push_of_some _ (Heap.get?_push_of_some _ e))))
  show _ ∧ _
  rw [n2, n3, n4] at at4
  rw [n3] at at3
  rw [n1, n2] at at2
  rw [n1] at at1
  rw [n4]
  exact ⟨⟨_, at4, rfl⟩, h _ at4 at2 at3 ⟨_, at0, rfl, rfl⟩ ⟨_, at1, rfl, rfl⟩ old⟩
end TL

/-! TLx: zip of two texts, of two lists, of two tuples. -/
namespace TL
open PySem PySem.Spec PyProof.Rows L2

theorem adNe {a b : Nat} (h : a ≠ b) : (a : Addr) ≠ b := h
theorem adLe {a b : Nat} (h : a ≤ b) : (a : Addr) ≤ b := h
theorem adNot {a b : Nat} (h : a ≠ b) : (a : Addr) ∉ [(b : Addr)] := fun q => h (List.mem_singleton.mp q)
/-- the signs of two texts, in new pairs -/
def ItzS (x y : Str) : It :=
  ⟨fun i _ => i < x.cps.size ∧ i < y.cps.size, fun i H v H' => ∃ q c d, v = .ref q ∧ H q = none ∧ H' = upd H q (.tup [.str ⟨#[c]⟩, .str ⟨#[d]⟩]) ∧ x.cps[i]? = some c ∧ y.cps[i]? = some d,
    fun i _ => i ≤ x.cps.size ∧ i ≤ y.cps.size ∧ (i = x.cps.size ∨ i = y.cps.size)⟩
theorem drawS {P : Program} {w : World} {A : Around} (hh : A.handled = none) (it : Addr) (x : Str) (t : Tok) : Draws P w A it [it] x.cps.size (fun i v => ∃ c u, x.cps[i]? = some c ∧ v = .str ⟨#[c]⟩ u) (fun i h => h.IsStrIter it (strIterType x) x t i) := by
  unfold strIterType
  split
  · exact Draws.strAscii hh it x t
  · exact Draws.strWide hh it x t
theorem turn_zipSS {P : Program} {w : World} {K : PySem.W.Frag} {elts : List Expr} {kk : Nat} {tpos : Pos} {x y : Str} {t u : Tok} {z TI TO i1 i2 : Addr} (D : ZipSep2 z TI TO i1 i2 [i1] [i2]) :
    Turn P w K (.Tuple elts kk tpos) (ItzS x y) [z, TI, TO, i1, i2] z (fun i h => IsZip h z TI TO .none ∧ IsTupOf2 h TI (.ref i1) (.ref i2) ∧ (∃ a b, IsTupOf2 h TO a b) ∧ h.IsStrIter i1 (strIterType x) x t i ∧ h.IsStrIter i2 (strIterType y) y u i) where
  mem := List.mem_cons_self
  obj := by
    rintro i h ⟨hz, hTI, ⟨a, b, hTO⟩, ⟨o1, e1, _, d1⟩, ⟨o2, e2, _, d2⟩⟩ c hc
    simp only [List.mem_cons, List.not_mem_nil, or_false] at hc
    rcases hc with rfl | rfl | rfl | rfl | rfl
    · exact ⟨_, hz, fun v q => nomatch q⟩
    · exact ⟨_, hTI, fun v q => nomatch q⟩
    · exact ⟨_, hTO, fun v q => nomatch q⟩
    · exact ⟨o1, e1, fun v q => by rw [d1] at q; cases q⟩
    · exact ⟨o2, e2, fun v q => by rw [d2] at q; cases q⟩
  keep := by
    rintro i h h2 ⟨hz, hTI, ⟨a, b, hTO⟩, ⟨o1, e1, r1⟩, ⟨o2, e2, r2⟩⟩ k
    exact ⟨k z (by simp) _ hz, k TI (by simp) _ hTI, ⟨a, b, k TO (by simp) _ hTO⟩, ⟨o1, k i1 (by simp) _ e1, r1⟩, ⟨o2, k i2 (by simp) _ e2, r2⟩⟩
  item := by
    intro X hP hw hK hc i pins s σ H E I hf st hg
    subst hP hw hK
    obtain ⟨hz, hTI, ⟨a, b, hTO⟩, s1, s2⟩ := st
    have hzl : z < s.heap.objs.size := Heap.lt_size hz
    have l1 : i1 < s.heap.objs.size := by obtain ⟨o, e, _⟩ := s1; exact Heap.lt_size e
    have l2 : i2 < s.heap.objs.size := by obtain ⟨o, e, _⟩ := s2; exact Heap.lt_size e
    have dr1 := drawS (P := X.prog) (w := X.w) (A := X.A.in1) (I.ok.hd hc) i1 x t
    have dr2 := drawS (P := X.prog) (w := X.w) (A := X.A.in1) (I.ok.hd hc) i2 y u
    refine wpAny_pyNext_zipD2_item D dr1 dr2 hz hTI hTO s1 s2 hg.1 hg.2 fun v1 v2 hp tk ⟨c, tc, hc1, ev1⟩ ⟨d, td, hd1, ev2⟩ z1 TO1 s1' s2' hT _ hk => ?_
    subst ev1 ev2
    refine ⟨_, rfl, wpAny_letOwnedTupleGo_zip (s := { s with heap := hp, toks := tk }) z1 fun hq z2 sb => ?_⟩
    have tup : hq.get? s.heap.objs.size = some { cls := .type "tuple", data := .seq #[.str ⟨#[c]⟩ tc, .str ⟨#[d]⟩ td] } := (sb.2 _ (Nat.ne_of_gt hzl)).trans hT
    have new : ObjOk X.prog X.w (upd H s.heap.objs.size (.tup [.str ⟨#[c]⟩, .str ⟨#[d]⟩])) hq s.heap.objs.size (.tup [.str ⟨#[c]⟩, .str ⟨#[d]⟩]) :=
      ⟨by show 2 ≤ sizeLine; decide, _, .cons ⟨tc, rfl⟩ (.cons ⟨td, rfl⟩ .nil), ⟨_, tup, rfl, _, rfl⟩⟩
    have J := I.turnedNew (t' := tk) (ch := [z, TI, TO, i1, i2]) (fun b ob hb q => (sb.2 b (fun w => hb (by simp [w]))).trans (hk b ob (fun w => hb (by simp [w])) (fun w => hb (by simp [w])) (fun w => hb (by simp [w])) (fun w => hb (by simp [w])) q)) hf (Nat.le_refl _) new
    refine ⟨.ref s.heap.objs.size, _, J, rfl, ⟨_, c, d, rfl, I.hok.fresh (Nat.le_refl _), rfl, hc1, hd1⟩, ⟨z2, ?_, ⟨.str ⟨#[c]⟩ tc, .str ⟨#[d]⟩ td, ?_⟩, ?_, ?_⟩, fun b hb => ?_⟩
    · exact (sb.2 _ D.TIz).trans (hk _ _ D.TIz D.TITO D.TIi1 D.TIi2 hTI)
    · exact (sb.2 _ D.TOz).trans TO1
    · obtain ⟨o, e, r⟩ := s1'
      exact ⟨o, (sb.2 i1 D.zi1.symm).trans e, r⟩
    · obtain ⟨o, e, r⟩ := s2'
      exact ⟨o, (sb.2 i2 D.zi2.symm).trans e, r⟩
    · have lt : b < s.heap.objs.size := by
        simp only [List.mem_cons, List.not_mem_nil, or_false] at hb
        rcases hb with rfl | rfl | rfl | rfl | rfl
        · exact hzl
        · exact Heap.lt_size hTI
        · exact Heap.lt_size hTO
        · exact l1
        · exact l2
      rw [upd_ne (Nat.ne_of_lt lt)]
      exact (hf b hb).1
  done := by
    intro X hP hw hK hc i pins s σ H E I hf st hg
    subst hP hw hK
    obtain ⟨hz, hTI, ⟨a, b, hTO⟩, s1, s2⟩ := st
    have dr1 := drawS (P := X.prog) (w := X.w) (A := X.A.in1) (I.ok.hd hc) i1 x t
    have dr2 := drawS (P := X.prog) (w := X.w) (A := X.A.in1) (I.ok.hd hc) i2 y u
    exact wpAny_pyNext_zipD2_end D dr1 dr2 hz hTI hTO s1 s2 hg.1 hg.2.1 hg.2.2 fun hp tk hk => ⟨rfl, I.turnedL (t' := tk) (ch := [z, TI, TO, i1, i2]) (fun c o hb q =>
      hk c o (fun w => hb (by simp [w])) (fun w => hb (by simp [w])) (fun w => hb (by simp [w])) (fun w => hb (by simp [w])) q) hf⟩
  self := fun A i s Q E st h => wpAny_pyIter_zip st.1 h
def iZipSS (ta : TA) : TI := fun σ H R => ta σ H fun vs H1 => ∃ x y, vs = [.str x, .str y] ∧ R (ItzS x y) H1
theorem pi_zipSS {X : Cx} {e e2 : Expr} {ta : TA} {p pos tpos : Pos} {elts : List Expr} {kk : Nat} (hg : Gl X "zip") (hm : X.mg "zip" = none) (ha : PA X [e, e2] ta)
    (hs : starEach [e, e2] X.env = (false, eval e X.env) :: starEach [e2] X.env := by rfl) (hpl : (backTo pos (starEach [e2] X.env)).any (·.1) = false := by rfl) : PI X (.Tuple elts kk tpos) (.Call (.Name "zip" p) [e, e2] [] pos) (iZipSS ta) := by
  refine ⟨fun pins s σ H R I h => Call_ (ld_blt I hg hm PyProof.Rows.boot_zip (PyProof.Rows.callWith_type1 (thn (ha.run pos pins s σ H _ I h) fun us s1 hu => ?_) hs hpl))⟩
  obtain ⟨vs, H1, J, r, x, y, rfl, q⟩ := hu
  cases r with
  | cons rx r =>
    cases r with
    | cons ry r =>
      cases r
      obtain ⟨t, rfl⟩ := rx
      obtain ⟨u, rfl⟩ := ry
      refine call_zipSS fun hp hz hTI hTO h1 h2 old => wpAny_pyIter_zip hz ?_
      refine ⟨s1.heap.objs.size + 4, [s1.heap.objs.size + 4, s1.heap.objs.size + 2, s1.heap.objs.size + 3, s1.heap.objs.size, s1.heap.objs.size + 1], _, _, H1, rfl, J.kept (t' := s1.toks) old, turn_zipSS (x := x) (y := y) (t := t) (u := u) ⟨?_, ?_, ?_, ?_, by simp, ?_, ?_, ?_, by simp, ?_, ?_, ?_, ?_⟩, ⟨hz, hTI, ⟨_, _, hTO⟩, h1, h2⟩, fun b hb => ?fp, q⟩
      case fp =>
        simp only [List.mem_cons, List.not_mem_nil, or_false] at hb
        have le : s1.heap.objs.size ≤ b := by
          rcases hb with rfl | rfl | rfl | rfl | rfl
          · exact adLe (by omega)
          · exact adLe (by omega)
          · exact adLe (by omega)
          · exact adLe (by omega)
          · exact adLe (by omega)
        exact J.fpOk le (J.hok.fresh le)
      all_goals first
        | exact adNe (by omega)
        | exact adNot (by omega)
/-! ### by trees -/
def zipP (l m : List T) : List T := (l.zip m).map fun p => .tup [p.1, p.2]
def sgs (x : Str) : List T := x.cps.toList.map fun c => .str ⟨#[c]⟩
def zipT : List T → Option (List T)
  | [.str x, .str y] => some (zipP (sgs x) (sgs y))
  | [.lst l, .lst m] => some (zipP l m)
  | [.tup l, .tup m] => some (zipP l m)
  | _ => none
theorem zipP_len (l m : List T) : (zipP l m).length = min l.length m.length := by
  unfold zipP
  rw [List.length_map, List.length_zip]
theorem zipP_get {l m : List T} {i : Nat} {a b : T} (h1 : l[i]? = some a) (h2 : m[i]? = some b) : (zipP l m)[i]? = some (.tup [a, b]) := by
  have : (l.zip m)[i]? = some (a, b) := by
    rw [List.getElem?_zip_eq_some]
    exact ⟨h1, h2⟩
  unfold zipP
  rw [List.getElem?_map, this]
  rfl
theorem sgs_len (x : Str) : (sgs x).length = x.cps.size := by
  unfold sgs
  rw [List.length_map, Array.length_toList]
section
variable {W : Wd} {Ex : XK} {X : Cx} {e e2 : Expr} {elts : List Expr} {fl : En → M (List T)} {dk : Dk} {H : Hp} {F : Addr → Prop} {p pos tpos : Pos} {kk : Nat}
theorem itOk_zipS (x y : Str) : ItOk W dk (H, F) (ItzS x y) (zipP (sgs x) (sgs y)) where
  go := fun i F' H' v hi => by
    rw [zipP_len, sgs_len, sgs_len] at hi
    exact ⟨by omega, by omega⟩
  stop := fun F' H' v => by
    rw [zipP_len, sgs_len, sgs_len]
    exact ⟨by omega, by omega, by omega⟩
  yld := fun i F' H' x' H'' v fh hi y' => by
    obtain ⟨q, c, d, rfl, hq, rfl, h1, h2⟩ := y'
    refine ⟨upd_same' hq, .tup [.str ⟨#[c]⟩, .str ⟨#[d]⟩], zipP_get ?_ ?_, rep_tup (fun p hp z => fh p z hp) hq (.cons rep_str (.cons rep_str .nil))⟩
    · unfold sgs
      rw [List.getElem?_map, Array.getElem?_toList, h1]
      rfl
    · unfold sgs
      rw [List.getElem?_map, Array.getElem?_toList, h2]
      rfl
theorem itOk_zipL {a b : Addr} {xs ys : List V} {l m : List T} (n1 : ¬ F a) (h1 : H a = some (.lst xs)) (r1 : RepL W H F dk l xs) (n2 : ¬ F b) (h2 : H b = some (.lst ys)) (r2 : RepL W H F dk m ys) : ItOk W dk (H, F) (Itz W.K a b) (zipP l m) where
  go := fun i F' H' v hi => by
    rw [zipP_len] at hi
    obtain ⟨x, hx, _⟩ := r1.get (List.getElem?_eq_getElem (show i < l.length by omega))
    obtain ⟨y, hy, _⟩ := r2.get (List.getElem?_eq_getElem (show i < m.length by omega))
    exact ⟨xs, ys, x, y, .of (v a _ h1 n1).1, .of (v b _ h2 n2).1, hx, hy⟩
  stop := fun F' H' v => by
    rw [zipP_len]
    exact ⟨xs, ys, .of (v a _ h1 n1).1, .of (v b _ h2 n2).1, by rw [r1.length, r2.length]; omega⟩
  yld := fun i F' H' x' H'' v fh hi y' => by
    rw [zipP_len] at hi
    obtain ⟨q, x, y, rfl, hq, rfl, z1, z2⟩ := y'
    obtain ⟨x0, hx, rx⟩ := (v.repL r1).get (List.getElem?_eq_getElem (show i < l.length by omega))
    obtain ⟨y0, hy, ry⟩ := (v.repL r2).get (List.getElem?_eq_getElem (show i < m.length by omega))
    have e1 := z1 xs (.of (v a _ h1 n1).1)
    have e2 := z2 ys (.of (v b _ h2 n2).1)
    rw [hx] at e1
    rw [hy] at e2
    cases e1
    cases e2
    exact ⟨upd_same' hq, _, zipP_get (List.getElem?_eq_getElem _) (List.getElem?_eq_getElem _), rep_tup (fun p hp z => fh p z hp) hq (.cons rx (.cons ry .nil))⟩
theorem itOk_zipU {a b : Addr} {xs ys : List V} {l m : List T} (n1 : ¬ F a) (h1 : H a = some (.tup xs)) (r1 : RepL W H F dk l xs) (n2 : ¬ F b) (h2 : H b = some (.tup ys)) (r2 : RepL W H F dk m ys) : ItOk W dk (H, F) (RZ.ItzT W.K a b) (zipP l m) where
  go := fun i F' H' v hi => by
    rw [zipP_len] at hi
    obtain ⟨x, hx, _⟩ := r1.get (List.getElem?_eq_getElem (show i < l.length by omega))
    obtain ⟨y, hy, _⟩ := r2.get (List.getElem?_eq_getElem (show i < m.length by omega))
    exact ⟨xs, ys, x, y, .of (v a _ h1 n1).1, .of (v b _ h2 n2).1, hx, hy⟩
  stop := fun F' H' v => by
    rw [zipP_len]
    exact ⟨xs, ys, .of (v a _ h1 n1).1, .of (v b _ h2 n2).1, by rw [r1.length, r2.length]; omega⟩
  yld := fun i F' H' x' H'' v fh hi y' => by
    rw [zipP_len] at hi
    obtain ⟨q, x, y, rfl, hq, rfl, z1, z2⟩ := y'
    obtain ⟨x0, hx, rx⟩ := (v.repL r1).get (List.getElem?_eq_getElem (show i < l.length by omega))
    obtain ⟨y0, hy, ry⟩ := (v.repL r2).get (List.getElem?_eq_getElem (show i < m.length by omega))
    have e1 := z1 xs (.of (v a _ h1 n1).1)
    have e2 := z2 ys (.of (v b _ h2 n2).1)
    rw [hx] at e1
    rw [hy] at e2
    cases e1
    cases e2
    exact ⟨upd_same' hq, _, zipP_get (List.getElem?_eq_getElem _) (List.getElem?_eq_getElem _), rep_tup (fun p hp z => fh p z hp) hq (.cons rx (.cons ry .nil))⟩
theorem pi_or {tg : Expr} {t t' : TI} (h : PI X tg e t) (h' : PI X tg e t') : PI X tg e (fun σ H R => t σ H R ∨ t' σ H R) := ⟨fun pins s σ H R I q => q.elim (fun q => h.run pins s σ H R I q) fun q => h'.run pins s σ H R I q⟩
theorem ti_zip (hK : W.K = X.K) (hg : Gl X "zip") (hm : X.mg "zip" = none) (ha : PA X [e, e2] (tA W Ex fl))
    (hs : starEach [e, e2] X.env = (false, eval e X.env) :: starEach [e2] X.env := by rfl) (hpl : (backTo pos (starEach [e2] X.env)).any (·.1) = false := by rfl) : PI X (.Tuple elts kk tpos) (.Call (.Name "zip" p) [e, e2] [] pos) (tI W Ex (xIt zipT fl)) :=
  (pi_or (pi_zipSS hg hm ha hs hpl) (RZ.pi_zipA hg hm ha hs hpl)).imp fun σ H R ⟨dk, F, G, en, d, S, h⟩ => by
    have P := Post.bind h
    cases q : fl en d with
    | bad => rw [q] at P; exact P.elim
    | exc x d1 =>
      refine .inl ⟨dk, F, G, en, d, S, ?_⟩
      rw [q] at P ⊢
      exact P
    | ok l d1 =>
      rw [q] at P
      cases hz : zipT l with
      | none =>
        refine .inl ⟨dk, F, G, en, d, S, ?_⟩
        rw [q]
        intro H1 k1 D1
        have := P H1 k1 D1
        dsimp only at this
        rw [hz] at this
        exact this.elim
      | some zs =>
        have P : ∀ H1, Keep dk H H1 → DkAt W dk H1 d1 → ∀ J, ItOk W dk (H1, F) J zs → R J H1 := fun H1 k1 D1 => by
          have := P H1 k1 D1
          dsimp only at this
          rw [hz] at this
          exact this H1 (.refl _ _) D1
        unfold zipT at hz
        split at hz
        · cases hz
          refine .inl ⟨dk, F, G, en, d, S, ?_⟩
          rw [q]
          intro H1 k1 D1 xs rl
          obtain ⟨x, y, rfl, rx, ry⟩ := rl.two_inv
          simp only [Rep] at rx ry
          subst rx ry
          exact ⟨_, _, rfl, P H1 k1 D1 _ (itOk_zipS _ _)⟩
        · cases hz
          refine .inr ⟨dk, F, G, en, d, S, ?_⟩
          rw [q]
          intro H1 k1 D1 xs rl
          obtain ⟨x, y, rfl, rx, ry⟩ := rl.two_inv
          simp only [Rep] at rx ry
          obtain ⟨a, xs, rfl, na, ea, ra⟩ := rx
          obtain ⟨b, ys, rfl, nb, eb, rb⟩ := ry
          exact ⟨a, b, xs, ys, rfl, .inl ⟨.of ea, .of eb, hK ▸ P H1 k1 D1 _ (itOk_zipL na ea ra nb eb rb)⟩⟩
        · cases hz
          refine .inr ⟨dk, F, G, en, d, S, ?_⟩
          rw [q]
          intro H1 k1 D1 xs rl
          obtain ⟨x, y, rfl, rx, ry⟩ := rl.two_inv
          simp only [Rep] at rx ry
          obtain ⟨a, xs, rfl, na, ea, ra⟩ := rx
          obtain ⟨b, ys, rfl, nb, eb, rb⟩ := ry
          exact ⟨a, b, xs, ys, rfl, .inr ⟨.of ea, .of eb, hK ▸ P H1 k1 D1 _ (itOk_zipU na ea ra nb eb rb)⟩⟩
        · cases hz
end
end TL

/-! TLy: own.append(own2.pop(e)); constants of modules; list(text). -/
namespace TL
open PySem PySem.Spec PyProof.Rows L2
/-- a place, told by a number that is not below nought -/
def plIx (n : Nat) : T → Option Nat
  | .int i => if 0 ≤ i ∧ i < (n : Int) ∧ n ≤ 16777216 then some i.toNat else none
  | _ => none
def sAppPop (i j : Nat) (f : En → M T) : En → MS := fun en => withL en i fun l => withL en j fun m => (f en).bind fun t => (M.opt (plIx m.length t)).bind fun k => (M.opt m[k]?).bind fun v => (M.opt (capL (l.length + 1) ())).bind fun _ =>
  .pure (.nx, setS (setS en j (.own (.lst (m.eraseIdx k)))) i (.own (.lst (l ++ [v]))))
theorem plIx_some {n : Nat} {t : T} {k : Nat} (h : plIx n t = some k) : t = .int (k : Int) ∧ k < n ∧ n ≤ 16777216 := by
  cases t <;> simp only [plIx, reduceCtorEq] at h
  split at h
  · cases h
    refine ⟨?_, by omega, by omega⟩
    congr 1
    omega
  · cases h
theorem seqIx_nat {k n : Nat} (h : k < n) : seqIndex? (k : Int) n = some k := by
  have h0 : ¬ ((k : Int) < 0) := by omega
  simp [seqIndex?, h0, h]
theorem RepL.erase {W : Wd} {H : Hp} {F : Addr → Prop} {dk : Dk} : ∀ {l : List T} {xs : List V} (k : Nat), RepL W H F dk l xs → RepL W H F dk (l.eraseIdx k) (xs.eraseIdx k)
  | [], xs, k, h => by
    simp only [RepL] at h
    subst h
    exact .nil
  | t :: l, xs, 0, h => by
    simp only [RepL] at h
    obtain ⟨x, r, rfl, h1, h2⟩ := h
    exact h2
  | t :: l, xs, k + 1, h => by
    simp only [RepL] at h
    obtain ⟨x, r, rfl, h1, h2⟩ := h
    exact .cons h1 (RepL.erase k h2)
theorem getS_setS_ne {en : En} {i j : Nat} {s : Sl} (h : i ≠ j) : getS (setS en j s) i = getS en i := by
  rw [getS_eq, getS_eq, setS_eq, List.getElem?_set_ne (Ne.symm h)]
section
variable {W : Wd} {Ex : XK} {X : Cx} {e : Expr} {f : En → M T} {x y : Str} {pos p1 p2 p3 p4 c1 c2 : Pos} {i j : Nat}
theorem ts_appPop (hij : i ≠ j) (he : PE X e (tE W Ex f)) (hi : X.N[i]? = some x := by rfl) (hj : X.N[j]? = some y := by rfl) (hv : L2.Vis X.env.scope x := by first | exact Or.inl rfl | exact Or.inr (Or.inl rfl) | exact Or.inr (Or.inr rfl)) (hw : L2.Vis X.env.scope y := by first | exact Or.inl rfl | exact Or.inr (Or.inl rfl) | exact Or.inr (Or.inr rfl))
    (hd : (x == ("__debug__" : Str)) = false := by decide) (hcd : (x == ("__classdict__" : Str)) = false := by decide) (hd2 : (y == ("__debug__" : Str)) = false := by decide) (hcd2 : (y == ("__classdict__" : Str)) = false := by decide)
    (b1 : attributeBase (.Name x p1) "append" X.env (eval (.Name x p1) X.env) = eval (.Name x p1) X.env := by rfl) (b2 : attributeBase (.Name y p3) "pop" X.env (eval (.Name y p3) X.env) = eval (.Name y p3) X.env := by rfl)
    (few1 : ((backTo c1 (starEach [.Call (.Attribute (.Name y p3) "pop" p4) [e] [] c2] X.env)).all (fun x => !x.1) && (backToKw c1 (keywordEach [] X.env)).all (fun x => x.1.isSome) && decide ([Expr.Call (.Attribute (.Name y p3) "pop" p4) [e] [] c2].length + ([] : List Keyword).length + (if ([] : List Keyword).isEmpty then 0 else 1) < 30)) = true := by rfl)
    (few2 : ((backTo c2 (starEach [e] X.env)).all (fun x => !x.1) && (backToKw c2 (keywordEach [] X.env)).all (fun x => x.1.isSome) && decide ([e].length + ([] : List Keyword).length + (if ([] : List Keyword).isEmpty then 0 else 1) < 30)) = true := by rfl)
    (ln1 : (p2.endLine == c1.line) = true := by rfl) (ln2 : (p4.endLine == c2.line) = true := by rfl) (st1 : starEach [.Call (.Attribute (.Name y p3) "pop" p4) [e] [] c2] X.env = (false, eval (.Call (.Attribute (.Name y p3) "pop" p4) [e] [] c2) X.env) :: starEach [] X.env := by rfl) (st2 : starEach [e] X.env = (false, eval e X.env) :: starEach [] X.env := by rfl)
    (pl1 : (backTo c1 (starEach [] X.env)).any (·.1) = false := by rfl) (pl2 : (backTo c2 (starEach [] X.env)).any (·.1) = false := by rfl)
    (hsw : swapsWith (.Call (.Attribute (.Name x p1) "append" p2) [.Call (.Attribute (.Name y p3) "pop" p4) [e] [] c2] [] c1) none pos.line X.env = pure false := by rfl) :
    PS X (.Expr (.Call (.Attribute (.Name x p1) "append" p2) [.Call (.Attribute (.Name y p3) "pop" p4) [e] [] c2] [] c1) pos) (tS W Ex (sAppPop i j f)) :=
  (ps_expr (pe_bm PySem.F.plainAttrs_list PySem.F.slot_list_append PySem.F.type_list_append mt_append (pv i hi hv hd hcd) (pa_cons (pe_bm PySem.F.plainAttrs_list PySem.F.slot_list_pop PySem.F.type_list_pop mt_popAt (pv j hj hw hd2 hcd2) (pa_cons he pa_nil st2) b2 few2 ln2 st2 pl2) pa_nil st1) b1 few1 ln1 st1 pl1) hsw).imp fun D σ H ⟨dk, F0, H0, cp, en, d, ⟨F, G, R⟩, p⟩ => by
    obtain ⟨l, hs, p⟩ := PostS.withL p
    obtain ⟨m, ht, p⟩ := PostS.withL p
    obtain ⟨a, xs, h1, h2, h3, h4⟩ := ownL R.s hs
    obtain ⟨b, ys, g1, g2, g3, g4⟩ := ownL R.s ht
    refine ⟨.ref a, h1, .inl ⟨rfl, xs, .of h3⟩, .ref b, g1, .inl ⟨rfl, ys, .of g3⟩, R.use p fun t d1 v H1 k1 R1 rv q => ?_⟩
    obtain ⟨a', xs', h1', h2', h3', h4'⟩ := ownL R1.s hs
    rw [h1] at h1'
    cases h1'
    obtain ⟨b', ys', g1', g2', g3', g4'⟩ := ownL R1.s ht
    rw [g1] at g1'
    cases g1'
    have nab : a ≠ b := fun z => by
      subst z
      exact hij (R1.s.sep i j _ _ a (getS_own hs) (getS_own ht) h1 g1)
    obtain ⟨k, hk, q1⟩ := PostS.opt q
    obtain ⟨w, hw', q2⟩ := PostS.opt q1
    obtain ⟨u, hz, q3⟩ := PostS.opt q2
    obtain ⟨rfl, hk1, hk2⟩ := plIx_some hk
    simp only [Rep] at rv
    obtain ⟨z, hz1, rz⟩ := g4'.get hw'
    have R2 := R1.mut ht g1 g2' (ho := .lst (ys'.eraseIdx k)) (o' := .lst (m.eraseIdx k)) ⟨_, upd_same, R1.s.repL_mut g2' (g4'.erase k)⟩
    have rz2 := R1.s.rep_mut (ho := .lst (ys'.eraseIdx k)) g2' rz
    refine ⟨b, ys', (k : Int), k, z, rfl, by rw [rv], g3', by omega, by omega, by rw [g4'.length]; exact seqIx_nat hk1, hz1, ?_⟩
    have e3 : upd H1 b (.lst (ys'.eraseIdx k)) a = some (.lst xs') := by rw [upd_ne nab]; exact h3'
    have hs2 : getS (setS en j (.own (.lst (m.eraseIdx k)))) i = .own (.lst l) := by rw [getS_setS_ne hij]; exact hs
    exact ⟨a, xs', z, rfl, rfl, e3, by rw [h4'.length]; have := (capL_some hz).1; omega, q3 _ _ ⟨F, G, R2.mut hs2 h1 h2' ⟨xs' ++ [z], upd_same, R2.s.repL_mut h2' ((R1.s.repL_mut g2' h4').append (.cons rz2 .nil))⟩⟩⟩
/-- a constant of a module -/
theorem te_cI {n : Int} (hg : Gl X x) (hm : ∃ t, X.mg x = some (.int n t)) (hd : (x == ("__debug__" : Str)) = false := by decide) : PE X (.Name x pos) (tE W Ex (xC (.int n))) := by
  obtain ⟨t, hm⟩ := hm
  exact (pe_glob (v := .int n) hg hm ⟨t, rfl⟩ hd).imp fun σ H Q ⟨dk, F, G, en, d, S, h⟩ => h H (.refl _ _) S.deck _ rep_int
theorem te_cS {z : Str} (hg : Gl X x) (hm : ∃ t, X.mg x = some (.str z t)) (hd : (x == ("__debug__" : Str)) = false := by decide) : PE X (.Name x pos) (tE W Ex (xC (.str z))) := by
  obtain ⟨t, hm⟩ := hm
  exact (pe_glob (v := .str z) hg hm ⟨t, rfl⟩ hd).imp fun σ H Q ⟨dk, F, G, en, d, S, h⟩ => h H (.refl _ _) S.deck _ rep_str
end
end TL

/-! TLy1: sorted of a list of plain data of one kind. -/
namespace TL
open PySem PySem.Spec PyProof.Rows L2
/-- sorted(xs): bs tells the items: each its value and its data -/
def rSortB (K : PySem.W.Frag) : List V → Hp → VK → Prop := fun vs H Q => ∃ (β : Type) (enc : β → PyData) (val : β → V) (bs : List β) (a : Addr), vs = [.ref a] ∧ SqL K H a (bs.map val) ∧ (∀ b ∈ bs, Dp K H (val b) (enc b)) ∧ PySem.W.AllAlike (bs.map enc) ∧ PySem.W.Sortable (bs.map enc) ∧
  (∀ b ∈ bs, (enc b).depth ≤ 64) ∧ bs.length ≤ sizeLine ∧ ∀ p, H p = none → Q (.ref p) (upd H p (.lst ((bs.mergeSort (PySem.W.dataLe false enc)).map val)))
theorem each_of {β : Type} {R : Value → β → Prop} {val : β → V} : ∀ {bs : List β} {us : List Value}, Vals (bs.map val) us → (∀ b ∈ bs, ∀ u, RelV (val b) u → R u b) → PySem.W.EachIs R us bs
  | [], _, r, _ => by
    cases r
    exact .nil
  | b :: bs, _, r, h => by
    rw [List.map_cons] at r
    cases r with
    | cons r1 r2 => exact .cons (h b List.mem_cons_self _ r1) (each_of r2 fun c hc => h c (List.mem_cons_of_mem _ hc))
theorem vals_of_each {β : Type} {val : β → V} : ∀ {us : List Value} {bs : List β}, PySem.W.EachIs (fun u b => RelV (val b) u) us bs → Vals (bs.map val) us
  | _, _, .nil => .nil
  | _, _, .cons h t => .cons h (vals_of_each t)
section
variable {X : Cx}
theorem cr_sortedB (hu : X.A.units + 100 < cLine) : CallR X (.builtin "sorted") (rSortB X.K) := by
  intro pins s σ H vs us Q I r h
  obtain ⟨β, enc, val, bs, a, rfl, hs, hd, hal, hk, hdep, hL, q⟩ := h
  obtain ⟨its, rv, hl, _⟩ := I.list hs
  rw [Vals.ref1 r]
  have e1 : PySem.W.EachIs (fun u b => RelV (val b) u) its bs := each_of rv fun b _ u h => h
  have e2 : PySem.W.EachIs (fun v b => ∃ as, Reads s.heap v (enc b) as) its bs := each_of rv fun b hb u h => Dp.reads I _ _ _ (hd b hb) h
  refine PySem.W.sorted_data hl.isList e1 e2 hal hk hL (fun b hb => by have := hdep b hb; omega) fun out ho er => ?_
  obtain ⟨ep, at1⟩ := PyProof.Rows.sortedAll_at s.heap its out.toArray
  have vo := vals_of_each er
  have hlen : ((bs.mergeSort (PySem.W.dataLe false enc)).map val).length ≤ sizeLine := by
    rw [List.length_map, List.length_mergeSort]
    exact hL
  exact ⟨.ref _, upd H (s.heap.objs.size + 1) (.lst ((bs.mergeSort (PySem.W.dataLe false enc)).map val)), I.laid (t' := s.toks) (fun _ _ => PyProof.Rows.sortedAll_old) (Nat.le_succ _) ⟨hlen, out, ep, vo, at1⟩, rfl, q _ (I.hok.fresh (Nat.le_succ _))⟩
end
/-! ### by trees -/
def pyD (t : T) : PyData := t.py.getD .none
def alikeC (ds : List PyData) : Bool := ds.all fun d => ds.all fun e => PySem.W.alike d e
def tupC : PyData → Bool
  | .tuple (_ :: _) => true
  | _ => false
def flatC : PyData → Bool
  | .none => false
  | .tuple _ => false
  | _ => true
def sortC (l : List T) : Bool := (l.all fun t => t.py.isSome && decide ((pyD t).depth ≤ 64)) && alikeC (l.map pyD) && ((l.map pyD).all tupC || (l.map pyD).all flatC) && decide (l.length ≤ 16777216)
def leD (a b : T) : Bool := PySem.W.dataLe false pyD a b
def sortedT : List T → Option (List T)
  | [.lst l] => if sortC l then some (l.mergeSort leD) else none
  | _ => none
section
variable {W : Wd} {Ex : XK} {X : Cx} {e : Expr} {es : List Expr} {fl : En → M (List T)} {pos p : Pos} {dk : Dk} {H : Hp} {F : Addr → Prop}
theorem RepL.zipped : ∀ {l : List T} {xs : List V}, RepL W H F dk l xs → (l.zip xs).map (·.1) = l ∧ (l.zip xs).map (·.2) = xs ∧ ∀ b ∈ l.zip xs, Rep W H F dk b.1 b.2
  | [], xs, r => by
    simp only [RepL] at r
    subst r
    exact ⟨rfl, rfl, fun _ h => (by cases h)⟩
  | t :: l, xs, r => by
    simp only [RepL] at r
    obtain ⟨x, r', rfl, h1, h2⟩ := r
    obtain ⟨q1, q2, q3⟩ := RepL.zipped h2
    refine ⟨by rw [List.zip_cons_cons, List.map_cons, q1], by rw [List.zip_cons_cons, List.map_cons, q2], fun b hb => ?_⟩
    rw [List.zip_cons_cons] at hb
    rcases List.mem_cons.mp hb with rfl | hb
    · exact h1
    · exact q3 b hb
theorem repL_pairs : ∀ {bs : List (T × V)}, (∀ b ∈ bs, Rep W H F dk b.1 b.2) → RepL W H F dk (bs.map (·.1)) (bs.map (·.2))
  | [], _ => .nil
  | b :: bs, h => .cons (h b List.mem_cons_self) (repL_pairs fun c hc => h c (List.mem_cons_of_mem _ hc))
theorem tn_sorted (hK : W.K = X.K) (hu : X.A.units + 100 < cLine) (hm : X.mg "sorted" = none) (ha : PA X (e :: es) (tA W Ex fl)) (hg : Gl X "sorted" := by rfl) (he : starEach (e :: es) X.env = (false, eval e X.env) :: starEach es X.env := by rfl) (hpl : (backTo pos (starEach es X.env)).any (·.1) = false := by rfl) :
    PE X (.Call (.Name "sorted" p) (e :: es) [] pos) (tN W Ex (xCallN sortedT fl)) := (pe_callB (cr_sortedB hu) hg hm PyProof.Rows.boot_sorted ha (he := he) (hpl := hpl)).imp fun σ H Q ⟨dk, F, G, en, d, S, h⟩ => by
  refine ⟨dk, F, G, en, d, S, (Post.bind h).mono fun l d1 H1 k1 D1 h1 xs rl => ?_⟩
  obtain ⟨z, ez, q⟩ := Post.opt_some h1
  unfold sortedT at ez
  split at ez
  · split at ez
    · rename_i l hc
      cases ez
      obtain ⟨x, rfl, rx⟩ := rl.one_inv
      simp only [Rep] at rx
      obtain ⟨a, ys, rfl, nf, ea, ra⟩ := rx
      obtain ⟨z1, z2, z3⟩ := RepL.zipped ra
      unfold sortC at hc
      simp only [Bool.and_eq_true, Bool.or_eq_true, List.all_eq_true, decide_eq_true_eq, alikeC] at hc
      obtain ⟨⟨⟨c1, c2⟩, c3⟩, c4⟩ := hc
      have mem : ∀ b ∈ l.zip ys, b.1 ∈ l := fun b hb => by rw [← z1]; exact List.mem_map_of_mem hb
      have em : (l.zip ys).map (fun b => pyD b.1) = l.map pyD := by
        conv => rhs; rw [← z1, List.map_map]
        rfl
      have srt : ((l.zip ys).mergeSort (PySem.W.dataLe false fun b : T × V => pyD b.1)).map (·.1) = l.mergeSort leD := by
        refine (List.map_mergeSort (r := PySem.W.dataLe false fun b : T × V => pyD b.1) (s := leD) (f := fun b : T × V => b.1) (fun a _ b _ => rfl)).trans ?_
        rw [z1]
      have lz : (l.zip ys).length = l.length := by rw [← List.length_map (f := (·.1)), z1]
      refine ⟨T × V, fun b => pyD b.1, fun b => b.2, l.zip ys, a, rfl, hK ▸ .of (by rw [z2]; exact ea), fun b hb => ?_, ?_, ?_, fun b hb => (c1 b.1 (mem b hb)).2, by rw [lz, sizeLine_eq]; exact c4, fun p hp => ?_⟩
      · have hs := (c1 b.1 (mem b hb)).1
        obtain ⟨dd, hdd⟩ := Option.isSome_iff_exists.mp hs
        have := (z3 b hb).dp hdd
        show Dp X.K H1 b.2 (b.1.py.getD .none)
        rw [hdd]
        exact hK ▸ this
      · rw [em]
        exact fun d hd d' hd' => c2 d hd d' hd'
      · rw [em]
        rcases c3 with c3 | c3
        · refine .inl fun d hd => ?_
          have := c3 d hd
          unfold tupC at this
          split at this
          · exact ⟨_, _, rfl⟩
          · cases this
        · refine .inr fun d hd => ?_
          have := c3 d hd
          unfold flatC at this
          split at this
          · cases this
          · cases this
          · rename_i n1 n2
            exact ⟨n1, n2⟩
      · have rr : RepL W H1 F dk (l.mergeSort leD) (((l.zip ys).mergeSort (PySem.W.dataLe false fun b : T × V => pyD b.1)).map (·.2)) := by
          rw [← srt]
          exact repL_pairs fun b hb => z3 b (List.mem_mergeSort.mp hb)
        exact q H1 (.refl _ _) D1 p _ rr (by rw [List.length_map, List.length_mergeSort, lz, sizeLine_eq]; exact c4) hp
    · cases ez
  · cases ez
end
end TL

/-! TLy2: e[::-1] of texts and lists; list(text). -/
namespace TL
open PySem PySem.Spec PyProof.Rows L2
theorem rev_picked (x : Str) : (Builtin.Str.strSliceIndices none none (-1) x.length).filterMap (x.cps[·]?) = x.cps.toList.reverse := by
  rw [picked_rev, filterMap_get, List.map_map]
  · refine List.ext_getElem (by simp [Str.length]) fun i h1 h2 => ?_
    have hi : i < x.cps.size := by simpa [Str.length] using h1
    rw [List.getElem_map, List.getElem_range, List.getElem_reverse]
    have h3 : x.cps.size - 1 - i < x.cps.size := by omega
    simp [Array.getD, h3, Str.length]
  · intro i hi
    obtain ⟨k, hk, rfl⟩ := List.mem_map.mp hi
    have := List.mem_range.mp hk
    show x.length - 1 - k < x.length
    omega
def tRevS (te : TE) : TE := fun σ H Q => te σ H fun x H1 => ∃ z, x = .str z ∧ z.length ≤ sizeLine ∧ Q (.str ⟨z.cps.toList.reverse.toArray⟩) H1
section
variable {X : Cx} {e : Expr} {te : TE} {k : Nat} {p1 p2 p3 pos : Pos}
theorem pe_revS (he : PE X e te) : PE X (.Subscript e (.Slice none none (some (.UnaryOp .USub (.Constant (.int 1) k p1) p2)) p3) pos) (tRevS te) := by
  refine ⟨fun pins s σ H Q I h => Subscript_ (thn (he.run pins s σ H _ I h) fun v s1 ⟨x, H1, J, r, z, ez, hz, q⟩ => ?_)⟩
  subst ez
  obtain ⟨t, rfl⟩ := r
  have third : PO X (some (.UnaryOp .USub (.Constant (.int 1) k p1) p2)) (tPart (tUn (rU fun i => .int (-i)) (tC (.int 1)))) := po_some (pe_un un_neg pe_int)
  refine wpAny_Slice (thn (po_none.run pins s1 σ H1 (fun o G => o = none ∧ G = H1) J ⟨rfl, rfl⟩) fun v1 s2 ⟨o1, G1, J1, pl, el, e1⟩ => ?_)
  subst el e1
  refine thn (po_none.run pins s2 σ G1 (fun o G => o = none ∧ G = G1) J1 ⟨rfl, rfl⟩) fun v2 s3 ⟨o2, G2, J2, pu, eu, e2⟩ => ?_
  subst eu e2
  refine thn (third.run pins s3 σ G2 (fun o G => o = some (-1) ∧ G = G2) J2 ⟨1, rfl, -1, rfl, rfl, rfl⟩) fun v3 s4 ⟨o3, G3, J3, pp, eo, e3⟩ => ?_
  subst eo e3
  have J4 : Inv X pins σ G3 { s4 with heap := s4.heap.push { cls := .type "slice", data := .fields #[v1, v2, v3] } } := J3.kept (t' := s4.toks) fun b ob w => Heap.get?_push_of_some _ w
  obtain ⟨l, rfl, el⟩ := IsPart.raw pl
  obtain ⟨u, rfl, eu⟩ := IsPart.raw pu
  obtain ⟨w, rfl, ew⟩ := IsPart.raw pp
  have l0 : l = none := by cases l with | none => rfl | some _ => cases el
  have u0 : u = none := by cases u with | none => rfl | some _ => cases eu
  subst l0 u0
  obtain ⟨tw, rfl⟩ : ∃ tw, w = some (-1, tw) := by
    cases w with
    | none => cases ew
    | some p =>
      obtain ⟨a, b⟩ := p
      cases ew
      exact ⟨b, rfl⟩
  refine tail_any (ops := [.str z t, .ref s4.heap.objs.size]) (typeIs_str _ z t) PySem.F.slot_str_getitem.lookup ?_ (by with_unfolding_all rfl)
  refine wpAny_getItem_str_slice (l := none) (u := none) (st := some (-1, tw)) ⟨_, Heap.get?_push_size _ rfl, rfl, rfl⟩ rfl ?_
  show Made.post (if ((-1 : Int) == 1 && (Builtin.Str.strSliceIndices none none (-1) z.length).length == z.length) = true then Made.val (.str z t) else Made.str ⟨((Builtin.Str.strSliceIndices none none (-1) z.length).filterMap (z.cps[·]?)).toArray⟩) _ _
  rw [if_neg (by simp), rev_picked]
  exact ⟨by show (z.cps.toList.reverse.toArray).size ≤ sizeLine; simpa [Str.length] using hz, .str _, G3, J4.tok _, ⟨_, rfl⟩, q⟩
end
def revT : T → Option T
  | .str z => if z.length ≤ 16777216 then some (.str ⟨z.cps.toList.reverse.toArray⟩) else none
  | .lst l => some (.lst l.reverse)
  | _ => none
theorem RepL.rev {W : Wd} {H : Hp} {F : Addr → Prop} {dk : Dk} {l : List T} {xs : List V} (h : RepL W H F dk l xs) : RepL W H F dk l.reverse xs.reverse := by
  induction l generalizing xs with
  | nil =>
    simp only [RepL] at h
    subst h
    exact .nil
  | cons t l ih =>
    simp only [RepL] at h
    obtain ⟨x, r, rfl, h1, h2⟩ := h
    rw [List.reverse_cons, List.reverse_cons]
    exact (ih h2).append (.cons h1 .nil)
section
variable {W : Wd} {Ex : XK} {X : Cx} {e : Expr} {f : En → M T} {k : Nat} {p1 p2 p3 pos : Pos}
theorem pe_or {t t' : TE} (h : PE X e t) (h' : PE X e t') : PE X e (fun σ H Q => t σ H Q ∨ t' σ H Q) := ⟨fun pins s σ H Q I q => q.elim (fun q => h.run pins s σ H Q I q) fun q => h'.run pins s σ H Q I q⟩
theorem te_rev (hK : W.K = X.K) (he : PE X e (tE W Ex f)) : PE X (.Subscript e (.Slice none none (some (.UnaryOp .USub (.Constant (.int 1) k p1) p2)) p3) pos) (tE W Ex (xUn revT f)) :=
  (pe_or (pe_revS he) (pe_revL he)).imp fun σ H Q ⟨dk, F, G, en, d, S, h⟩ => by
    have P := Post.bind h
    cases q : f en d with
    | bad => rw [q] at P; exact P.elim
    | exc x d1 =>
      refine .inl ⟨dk, F, G, en, d, S, ?_⟩
      rw [q] at P ⊢
      exact P
    | ok t d1 =>
      rw [q] at P
      cases t with
      | str z =>
        refine .inl ⟨dk, F, G, en, d, S, ?_⟩
        rw [q]
        intro H1 k1 D1 v rv
        simp only [Rep] at rv
        have P1 := P H1 k1 D1
        obtain ⟨w, ew, fin⟩ := Post.opt_some P1
        dsimp only [revT] at ew
        split at ew
        · rename_i hz
          cases ew
          exact ⟨z, rv, by rw [sizeLine_eq]; exact hz, fin H1 (.refl _ _) D1 _ rep_str⟩
        · cases ew
      | lst l =>
        refine .inr ⟨dk, F, G, en, d, S, ?_⟩
        rw [q]
        intro H1 k1 D1 v rv
        simp only [Rep] at rv
        obtain ⟨a, xs, rfl, nf, ea, ra⟩ := rv
        have P1 := P H1 k1 D1
        obtain ⟨w, ew, fin⟩ := Post.opt_some P1
        cases ew
        exact ⟨a, xs, rfl, .of ea, fun p hp => fin _ (.of (upd_same' hp)) (D1.same (upd_same' hp)) _ (rep_lst (fun p hp => (S.keep k1 D1).free hp) hp ra.rev)⟩
      | _ =>
        refine .inl ⟨dk, F, G, en, d, S, ?_⟩
        rw [q]
        intro H1 k1 D1 v rv
        exact (P H1 k1 D1).elim
end
end TL

/-! TLy3: list(text). -/
namespace TL
open PySem PySem.Spec PyProof.Rows L2
abbrev sgV (x : Str) : List V := x.cps.toList.map fun c => V.str ⟨#[c]⟩
theorem vals_signs : ∀ (cs : List Nat) (us : List Value), us.length = cs.length → (∀ (j : Nat) v, us[j]? = some v → ∃ c u, cs[j]? = some c ∧ v = .str ⟨#[c]⟩ u) → Vals (cs.map fun c => V.str ⟨#[c]⟩) us
  | [], us, hl, _ => by
    cases us with
    | nil => exact .nil
    | cons u us => cases hl
  | c :: cs, us, hl, h => by
    cases us with
    | nil => cases hl
    | cons u us =>
      obtain ⟨c', t, e1, e2⟩ := h 0 u rfl
      cases e1
      exact .cons ⟨t, e2⟩ (vals_signs cs us (by simpa using hl) fun j v e => by simpa using h (j + 1) v (by simpa using e))
def rListStr : List V → Hp → VK → Prop := fun xs H Q => ∃ x : Str, xs = [.str x] ∧ x.cps.size ≤ sizeLine ∧ ∀ p, H p = none → Q (.ref p) (upd H p (.lst (sgV x)))
theorem call_listStr {X : Cx} (hc : X.calm = true) : CallR X (.type "list") rListStr := by
  intro pins s σ H xs us Q I r h
  obtain ⟨x, rfl, hz, q⟩ := h
  obtain ⟨u, rfl, t, rfl⟩ := vals1 r
  refine call_list_str (hn := hz) (I.ok.hd hc) x t fun hp tk acc n old new its => ?_
  have v : Vals (sgV x) acc.toList := vals_signs _ _ (by rw [Array.length_toList, Array.length_toList, its.1]) fun j v e => by
    rw [Array.getElem?_toList] at e
    obtain ⟨c, w, e1, e2⟩ := its.2 j v e
    exact ⟨c, w, by rw [Array.getElem?_toList]; exact e1, e2⟩
  exact ⟨.ref _, _, I.laid (t' := tk) (o := .lst (sgV x)) old (Nat.le_refl _) ⟨by rw [List.length_map, Array.length_toList]; exact hz, acc.toList, n, v, by rw [Array.toArray_toList]; exact new⟩, rfl, q _ (I.hok.fresh (Nat.le_refl _))⟩
def listAT : List T → Option (List T)
  | [.str x] => if x.cps.size ≤ 16777216 then some (sgs x) else none
  | l => listT l
theorem listAT_other {l : List T} (h : ∀ x, l ≠ [.str x]) : listAT l = listT l := by
  unfold listAT
  split
  · exact absurd rfl (h _)
  · rfl
section
variable {W : Wd} {Ex : XK} {X : Cx} {e : Expr} {es : List Expr} {fl : En → M (List T)} {pos p : Pos} {dk : Dk} {H : Hp} {F : Addr → Prop}
theorem repL_signs (x : Str) : RepL W H F dk (sgs x) (sgV x) := by
  unfold sgs sgV
  generalize x.cps.toList = l
  induction l with
  | nil => exact .nil
  | cons c l ih => exact .cons rep_str ih
theorem tn_listA (hK : W.K = X.K) (hm : X.mg "list" = none) (ha : PA X (e :: es) (tA W Ex fl)) (hg : Gl X "list" := by rfl) (he : starEach (e :: es) X.env = (false, eval e X.env) :: starEach es X.env := by rfl) (hpl : (backTo pos (starEach es X.env)).any (·.1) = false := by rfl) (hc : X.calm = true := by rfl) :
    PE X (.Call (.Name "list" p) (e :: es) [] pos) (tN W Ex (xCallN listAT fl)) :=
  (pe_or (pe_callTy (call_listStr hc) hg hm (by decide +kernel) ha (he := he) (hpl := hpl)) (tn_list hK hm ha hg he hpl)).imp fun σ H Q ⟨dk, F, G, en, d, S, h⟩ => by
    by_cases hx : ∃ x d1, fl en d = .ok [.str x] d1
    · obtain ⟨x, d1, q⟩ := hx
      refine .inl ⟨dk, F, G, en, d, S, ?_⟩
      have P := Post.bind h
      rw [q] at P ⊢
      intro H1 k1 D1 xs rl
      have P1 := P H1 k1 D1
      dsimp only [listAT] at P1
      split at P1
      · rename_i hz
        obtain ⟨v, rfl, rv⟩ := rl.one_inv
        simp only [Rep] at rv
        subst rv
        exact ⟨x, rfl, by rw [sizeLine_eq]; exact hz, fun p hp => P1 H1 (.refl _ _) D1 p _ (repL_signs x) (by rw [List.length_map, Array.length_toList, sizeLine_eq]; exact hz) hp⟩
      · exact P1.elim
    · refine .inr ⟨dk, F, G, en, d, S, ?_⟩
      have e1 : xCallN listT fl en d = xCallN listAT fl en d := by
        show Out.bind (fl en d) _ = Out.bind (fl en d) _
        cases q : fl en d with
        | ok l d1 =>
          show M.opt (listT l) d1 = M.opt (listAT l) d1
          rw [listAT_other fun x z => hx ⟨x, d1, by rw [q, z]⟩]
        | exc x d1 => rfl
        | bad => rfl
      rw [e1]
      exact h
end
end TL

/-! TLy4: a, b = new list, new list. -/
namespace TL
open PySem PySem.Spec PyProof.Rows L2
section
variable {W : Wd} {Ex : XK} {dk : Dk} {F F0 G : Addr → Prop} {H H0 : Hp} {cp : Cps} {σ : L2.St} {en : En} {d : TL.D} {p : Addr} {ho : HO}
/-- a new object that no slot has yet -/
theorem StR'.hideR (R : StR' W dk F0 H0 cp F G σ H en d) (hp : H p = none) : StR' W dk F0 H0 cp (fun a => F a ∨ a = p) G σ (upd H p ho) en d where
  s := R.s.hide hp
  ff := fun a z => .inl (R.ff a z)
  g0 := R.g0
  kp := R.kp.trans (.of (upd_same' hp))
  vs := fun c hc a o h n => by
    obtain ⟨e1, e2⟩ := R.vs c hc a o h n
    exact ⟨upd_same' hp a o e1, fun z => z.elim e2 (ne_of_none e1 hp)⟩
  fz := R.fz
/-- it gets its slot -/
theorem StR'.adopt {i : Nat} {o : O} (R : StR' W dk F0 H0 cp F G σ H en d) (hF : F p) (hG : ¬ G p) (n1 : p ≠ dk.1) (n2 : p ≠ dk.2) (h0 : H0 p = none) (new : OwnR W H F dk o p) : StR' W dk F0 H0 cp F (fun a => G a ∨ a = p) (σ.set i (some (.ref p))) H (setS en i (.own o)) d := by
  have S := R.s
  have at_ : ∀ {j : Nat} {s : Sl}, (setS en i (.own o))[j]? = some s → (j = i ∧ s = .own o ∧ i < σ.length) ∨ (j ≠ i ∧ en[j]? = some s) := fun {j s} e => by
    rw [setS_eq] at e
    by_cases h : i = j
    · subst h
      have hil : i < en.length := by simpa using (List.getElem?_eq_some_iff.mp e).1
      rw [List.getElem?_set_self hil] at e
      cases e
      exact .inl ⟨rfl, rfl, by rw [← S.len]; exact hil⟩
    · rw [List.getElem?_set_ne h] at e
      exact .inr ⟨fun z => h z.symm, e⟩
  have keep_ : ∀ {j : Nat}, j ≠ i → (σ.set i (some (V.ref p)))[j]? = σ[j]? := fun {j} ne => List.getElem?_set_ne (fun z => ne z.symm)
  refine ⟨⟨by rw [setS_eq, List.length_set, List.length_set]; exact S.len, fun j t e => ?_, fun j q e => ?_, fun j k q q' a e1 e2 e3 e4 => ?_, fun a z => z.elim (S.gf a) fun e => e ▸ hF, fun a z => z.elim (S.gd a) fun e => e ▸ ⟨n1, n2⟩, S.fh, S.fd1, S.fd2, S.deck⟩, R.ff, fun a z => z.elim (R.g0 a) fun e => e ▸ h0, R.kp, R.vs, R.fz⟩
  · rcases at_ e with ⟨_, z, _⟩ | ⟨ne, e⟩
    · cases z
    · rw [keep_ ne]
      exact S.val j t e
  · rcases at_ e with ⟨rfl, z, hl⟩ | ⟨ne, e⟩
    · cases z
      exact ⟨p, List.getElem?_set_self hl, .inr rfl, new⟩
    · obtain ⟨a, h1, h2, h3⟩ := S.own j q e
      exact ⟨a, by rw [keep_ ne]; exact h1, .inl h2, h3⟩
  · rcases at_ (j := j) e1 with ⟨ej, _, hl⟩ | ⟨nj, e1⟩
    · rcases at_ (j := k) e2 with ⟨ek, _, _⟩ | ⟨nk, e2⟩
      · rw [ej, ek]
      · exfalso
        rw [ej, List.getElem?_set_self hl] at e3
        cases e3
        obtain ⟨b, h1, h2, _⟩ := S.own k q' e2
        rw [keep_ nk, h1] at e4
        cases e4
        exact hG h2
    · rcases at_ (j := k) e2 with ⟨ek, _, hl⟩ | ⟨nk, e2⟩
      · exfalso
        rw [ek, List.getElem?_set_self hl] at e4
        cases e4
        obtain ⟨b, h1, h2, _⟩ := S.own j q e1
        rw [keep_ nj, h1] at e3
        cases e3
        exact hG h2
      · rw [keep_ nj] at e3
        rw [keep_ nk] at e4
        exact S.sep j k q q' a e1 e2 e3 e4
end
theorem StR'.useNK {W : Wd} {Ex : XK} {dk : Dk} {F F0 G : Addr → Prop} {H H0 : Hp} {cp : Cps} {σ : L2.St} {en : En} {d : TL.D} {f : En → M (List T)} {k : List T → MS} {D : Ends} {Q : VK} (R : StR' W dk F0 H0 cp F G σ H en d) (p : PostS W Ex dk F0 H0 cp D (M.bind (f en) k d))
    (q : ∀ l d1 u xs H1, Keep dk H H1 → StR' W dk F0 H0 cp F G σ H1 en d1 → RepL W H1 F dk l xs → H1 u = none → PostS W Ex dk F0 H0 cp D (k l d1) → Q (.ref u) (upd H1 u (.lst xs))) : tN W Ex f σ H Q := by
  refine ⟨dk, F, G, en, d, R.s, ?_⟩
  cases e : f en d with
  | ok t d1 =>
    have p1 : PostS W Ex dk F0 H0 cp D (k t d1) := by
      rw [M.bind_ok e] at p
      exact p
    exact fun H1 k1 D1 u xs rl _ hu => q t d1 u xs H1 k1 (R.keep k1 D1) rl hu p1
  | exc x d1 =>
    rw [M.bind_exc e] at p
    exact fun c od H1 k1 D1 xr => p c od H1 (R.kp.trans k1) D1 (xr.weak R.ff)
  | bad =>
    rw [M.bind_bad e] at p
    exact p.elim
def sPar2N (i j : Nat) (f g : En → M (List T)) : En → MS := fun en => (f en).bind fun l => (g en).bind fun m => .pure (.nx, setS (setS en i (.own (.lst l))) j (.own (.lst m)))
section
variable {W : Wd} {Ex : XK} {X : Cx} {a b : Expr} {f g : En → M (List T)} {x y : Str} {px py pt pt2 pos : Pos} {i j kt k2 : Nat}
theorem ts_par2N (hc : X.calm = true) (hN : X.N.Nodup) (ha : PE X a (tN W Ex f)) (hb : PE X b (tN W Ex g)) (hij : i ≠ j := by decide) (hi : X.N[i]? = some x := by rfl) (hj : X.N[j]? = some y := by rfl)
    (hx : X.env.scope.names.lookup x = some .local := by rfl) (hy : X.env.scope.names.lookup y = some .local := by rfl)
    (hw : swappedStores [.Tuple [.Name x px, .Name y py] kt pt] (.Tuple [a, b] k2 pt2) X.env = pure (some [x, y]) := by rfl)
    (hs : swapsWithSole [.Tuple [.Name x px, .Name y py] kt pt] (.Tuple [a, b] k2 pt2) pos.line X.env = pure false := by rfl)
    (s1 : starEach [a, b] X.env = (false, eval a X.env) :: starEach [b] X.env := by rfl) (s2 : starEach [b] X.env = (false, eval b X.env) :: starEach [] X.env := by rfl) :
    PS X (.Assign [.Tuple [.Name x px, .Name y py] kt pt] (.Tuple [a, b] k2 pt2) pos) (tS W Ex (sPar2N i j f g)) :=
  (ps_par hc hN hi hj hij hx hy (pa_cons ha (pa_cons hb pa_nil s2) s1) hw hs).imp fun Dd σ H ⟨dk, F0, H0, cp, en, d, ⟨F, G, R⟩, p⟩ => by
    show tN W Ex f σ H (fun v H1 => tN W Ex g σ H1 (fun w H2 => ∃ x1 x2, [v, w] = [x1, x2] ∧ Dd.nx ((σ.set i (some x1)).set j (some x2)) H2))
    refine R.useNK p fun l d1 u xs H1 k1 R1 rl h1 q => ?_
    have fresh : ∀ {F' : Addr → Prop} {H' : Hp} {d' : TL.D} {G' : Addr → Prop} {v : Addr}, StR' W dk F0 H0 cp F' G' σ H' en d' → H' v = none → v ≠ dk.1 ∧ v ≠ dk.2 ∧ ¬ G' v ∧ H0 v = none := fun {F' H' d' G' v} R' hv => by
      have m1 : v ≠ dk.1 := fun z => R'.s.fh _ (z ▸ R'.s.fd1) hv
      have m2 : v ≠ dk.2 := fun z => R'.s.fh _ (z ▸ R'.s.fd2) hv
      refine ⟨m1, m2, fun z => R'.s.fh _ (R'.s.gf _ z) hv, ?_⟩
      cases z : H0 v with
      | none => rfl
      | some o =>
        have := R'.kp v o z m1 m2
        rw [hv] at this
        cases this
    obtain ⟨n1, n2, n3, n4⟩ := fresh R1 h1
    have Ra : StR' W dk F0 H0 cp (fun b => F b ∨ b = u) G σ (upd H1 u (.lst xs)) en d1 := R1.hideR h1
    refine Ra.useNK q fun m d2 w ys H2 k2 R2 rm h2 q2 => ⟨_, _, rfl, ?_⟩
    obtain ⟨m1, m2, m3, m4⟩ := fresh R2 h2
    have hu : H2 u = some (.lst xs) := k2 _ _ upd_same n1 n2
    have nuw : u ≠ w := fun z => by rw [z, h2] at hu; cases hu
    have Rb : StR' W dk F0 H0 cp (fun b => (F b ∨ b = u) ∨ b = w) G σ (upd H2 w (.lst ys)) en d2 := R2.hideR h2
    have hu2 : upd H2 w (.lst ys) u = some (.lst xs) := by rw [upd_ne nuw]; exact hu
    have rl2 : RepL W (upd H2 w (.lst ys)) (fun b => (F b ∨ b = u) ∨ b = w) dk l xs := by
      have r1 : RepL W (upd H1 u (.lst xs)) (fun b => F b ∨ b = u) dk l xs := RepL.mono (fun b o nf e => ⟨upd_same' h1 b o e, fun z => z.elim nf (ne_of_none e h1)⟩) l xs rl
      exact RepL.mono (fun b o nf e => ⟨upd_same' h2 b o e, fun z => z.elim nf (ne_of_none e h2)⟩) l xs (Ra.s.keepL k2 r1)
    have rm2 : RepL W (upd H2 w (.lst ys)) (fun b => (F b ∨ b = u) ∨ b = w) dk m ys := RepL.mono (fun b o nf e => ⟨upd_same' h2 b o e, fun z => z.elim nf (ne_of_none e h2)⟩) m ys rm
    have Rc := Rb.adopt (i := i) (o := .lst l) (.inl (.inr rfl)) n3 n1 n2 n4 ⟨xs, hu2, rl2⟩
    have Rd := Rc.adopt (i := j) (o := .lst m) (p := w) (.inr rfl) (fun z => z.elim m3 fun e => nuw e.symm) m1 m2 m4 ⟨ys, upd_same, rm2⟩
    exact q2 _ _ ⟨_, _, Rd⟩
end
end TL

/-! TLy5: dicts as values: {}, {text: text}. -/
namespace TL
open PySem PySem.Spec PyProof.Rows L2
section
variable {W : Wd} {Ex : XK} {X : Cx} {pos p1 p2 : Pos} {k v : Str} {j1 j2 : Nat}
theorem rep_dic {H : Hp} {F : Addr → Prop} {dk : Dk} {l : List (Key × T)} {xs : List (Key × V)} {p : Addr} (hF : ¬ F p) (hp : H p = none) (r : RepD W H F dk l xs) : Rep W (upd H p (.dK xs)) F dk (.dic l) (.ref p) := by
  simp only [Rep]
  exact ⟨p, xs, rfl, hF, .inl upd_same, RepD.mono (fun b o nf e => ⟨upd_same' hp b o e, nf⟩) _ _ r⟩
theorem te_dic0 : PE X (.Dict [] [] pos) (tE W Ex (xC (.dic []))) := pe_dnewK.imp fun σ H Q ⟨dk, F, G, en, d, S, h⟩ a ha =>
  h _ (.of (upd_same' ha)) (S.deck.same (upd_same' ha)) _ (rep_dic (S.free ha) ha (by simp only [RepD]))
theorem te_dicSS : PE X (.Dict [some (.Constant (.str k) j1 p1)] [.Constant (.str v) j2 p2] pos) (tE W Ex (xC (.dic [(.inr k, .str v)]))) :=
  (pe_disp (pps_cons pe_str pe_str pps_nil) rfl rfl (by simp) (by show 1 ≤ 15; decide)).imp fun σ H Q ⟨dk, F, G, en, d, S, h⟩ a ha => by
    refine ⟨upd_same, [(.inr k, .str v)], rfl, by show 1 ≤ 15; decide, ?_⟩
    have e : mergeK [] [((Sum.inr k : Key), V.str v)] = [(Sum.inr k, V.str v)] := rfl
    rw [e]
    have e2 : upd (upd H a (.dK [])) a (.dK [((Sum.inr k : Key), V.str v)]) = upd H a (.dK [(Sum.inr k, V.str v)]) := L2.upd_upd
    try rw [e2]
    exact h _ (.of (upd_same' ha)) (S.deck.same (upd_same' ha)) _ (rep_dic (S.free ha) ha (.cons rep_str (by simp only [RepD])))
end
end TL

/-! TLy6: repr of a dict of scalars. -/
namespace TL
open PySem PySem.Spec PyProof.Rows L2
def keyPy : Key → PyData
  | .inl i => .int i
  | .inr x => .str x
def scalPy : V → PyData
  | .bl b => .bool b
  | .int i => .int i
  | .str x => .str x
  | _ => .none
def scalV : V → Bool
  | .non => true
  | .bl _ => true
  | .int _ => true
  | .str _ => true
  | _ => false
theorem scal_reads {h : Heap} {v : V} {u : Value} (hs : scalV v = true) (r : RelV v u) : Reads h u (scalPy v) [] := by
  cases v <;> simp only [scalV, Bool.false_eq_true] at hs
  · cases r; exact Reads.none
  · cases r; exact Reads.bool _
  · obtain ⟨t, rfl⟩ := r; exact Reads.int _ _
  · obtain ⟨t, rfl⟩ := r; exact Reads.str _ _
def dPy (kvs : List (Key × V)) : List (PyData × PyData) := kvs.map fun p => (keyPy p.1, scalPy p.2)
theorem pairs_read {h : Heap} : ∀ {kvs : List (Key × V)} {us : List (Key × Value)}, KV kvs us → (∀ p ∈ kvs, scalV p.2 = true) → PyProof.V.PairsRead h keyPy us (dPy kvs) []
  | [], _, r, _ => by cases r; exact .nil
  | p :: kvs, _, r, hs => by
    cases r with
    | cons h1 h2 =>
      obtain ⟨k, v⟩ := p
      obtain ⟨e, rv⟩ := h1
      cases e
      exact .cons (scal_reads (hs _ List.mem_cons_self) rv) (pairs_read h2 fun q hq => hs q (List.mem_cons_of_mem _ hq))
/-- repr of a dict of scalars -/
def rReprD : List V → Hp → VK → Prop := fun xs H Q => ∃ a kvs, xs = [V.ref a] ∧ Rd H a (.dK kvs) ∧ (∀ p ∈ kvs, scalV p.2 = true) ∧ (PyData.dict (dPy kvs)).showable = true ∧ (PyData.dict (dPy kvs)).depth ≤ 64 ∧ (PyData.dict (dPy kvs)).shown.length ≤ sizeLine ∧ Q (.str (PyData.dict (dPy kvs)).shown) H
section
variable {X : Cx}
theorem cr_reprD (hg : X.A.guards = some []) (hu : X.A.units + 70 < cLine) : CallR X (.builtin "repr") rReprD := by
  intro pins s σ H xs us Q I r h
  obtain ⟨a, kvs, rfl, hd, hs, h1, h2, h3, q⟩ := h
  obtain ⟨u, rfl, ru⟩ := Vals.one r
  cases ru
  obtain ⟨_, hns, vs, rel, dd⟩ := dk_rd I.hok hd
  have rd := PyProof.V.reads_dictOf (enc := keyPy) (fun k key e => by
    rcases keyIs_shape e with ⟨i, t, rfl, rfl⟩ | ⟨x, t, rfl, rfl⟩
    · exact Reads.int _ _
    · exact Reads.str _ _) dd (pairs_read rel hs)
  exact repr_of_reads' rd h1 (fun _ hm => by
    have := List.mem_singleton.mp hm
    rw [this] at hns
    simp at hns) hg (by omega) (fun _ _ e => e) (fun h' u tk hk => ⟨.str _, H, I.kept hk, ⟨_, rfl⟩, q⟩) h3
end
def dT? : List (Key × T) → Option (List (PyData × PyData))
  | [] => some []
  | (k, t) :: l => match t, dT? l with
    | .non, some r => some ((keyPy k, .none) :: r)
    | .bl b, some r => some ((keyPy k, .bool b) :: r)
    | .int i, some r => some ((keyPy k, .int i) :: r)
    | .str x, some r => some ((keyPy k, .str x) :: r)
    | _, _ => none
def reprDT : List T → Option T
  | [.dic l] => match dT? l with
    | some d => if (PyData.dict d).showable && decide ((PyData.dict d).depth ≤ 64) && decide ((PyData.dict d).shown.length ≤ 16777216) then some (.str (PyData.dict d).shown) else none
    | none => none
  | l => reprTL l
theorem dT_rep {W : Wd} {H : Hp} {F : Addr → Prop} {dk : Dk} : ∀ {l : List (Key × T)} {xs : List (Key × V)} {d : List (PyData × PyData)}, RepD W H F dk l xs → dT? l = some d → d = dPy xs ∧ ∀ p ∈ xs, scalV p.2 = true
  | [], xs, d, r, e => by
    simp only [RepD] at r
    subst r
    cases e
    exact ⟨rfl, fun _ h => (by cases h)⟩
  | (k, t) :: l, xs, d, r, e => by
    simp only [RepD] at r
    obtain ⟨x, r', rfl, h1, h2⟩ := r
    unfold dT? at e
    cases hd : dT? l with
    | none => rw [hd] at e; cases t <;> cases e
    | some d' =>
      rw [hd] at e
      obtain ⟨q1, q2⟩ := dT_rep h2 hd
      subst q1
      cases t <;> first
        | (cases e; simp only [Rep] at h1; subst h1; exact ⟨rfl, fun p hp => (List.mem_cons.mp hp).elim (fun z => by rw [z]; rfl) (q2 p)⟩)
        | cases e
section
variable {W : Wd} {Ex : XK} {X : Cx} {e : Expr} {es : List Expr} {fl : En → M (List T)} {pos p : Pos}
theorem te_reprD (hgd : X.A.guards = some []) (hu : X.A.units + 100 < cLine) (hK : W.K = X.K) (hm : X.mg "repr" = none) (ha : PA X (e :: es) (tA W Ex fl)) (hg : Gl X "repr" := by rfl) (he : starEach (e :: es) X.env = (false, eval e X.env) :: starEach es X.env := by rfl) (hpl : (backTo pos (starEach es X.env)).any (·.1) = false := by rfl) :
    PE X (.Call (.Name "repr" p) (e :: es) [] pos) (tE W Ex (xCall reprDT fl)) :=
  (pe_or (pe_callB (cr_reprD hgd (by omega)) hg hm (by decide +kernel) ha (he := he) (hpl := hpl)) (te_repr hgd hu hK hm ha hg he hpl)).imp fun σ H Q ⟨dk, F, G, en, d, S, h⟩ => by
    by_cases hx : ∃ l d1, fl en d = .ok [.dic l] d1
    · obtain ⟨l, d1, q⟩ := hx
      refine .inl ⟨dk, F, G, en, d, S, ?_⟩
      have P := Post.bind h
      rw [q] at P ⊢
      intro H1 k1 D1 xs rl
      obtain ⟨w, ew, fin⟩ := Post.opt_some (P H1 k1 D1)
      obtain ⟨v, rfl, rv⟩ := rl.one_inv
      simp only [Rep] at rv
      obtain ⟨a, ys, rfl, nf, rd, ry⟩ := rv
      dsimp only [reprDT] at ew
      cases hd : dT? l with
      | none => rw [hd] at ew; cases ew
      | some dd =>
        rw [hd] at ew
        dsimp only at ew
        split at ew
        · rename_i hc
          cases ew
          simp only [Bool.and_eq_true, decide_eq_true_eq] at hc
          obtain ⟨e1, e2⟩ := dT_rep ry hd
          subst e1
          exact ⟨a, ys, rfl, rd, e2, hc.1.1, hc.1.2, by rw [sizeLine_eq]; exact hc.2, fin H1 (.refl _ _) D1 _ rep_str⟩
        · cases ew
    · refine .inr ⟨dk, F, G, en, d, S, ?_⟩
      have e1 : xCall reprTL fl en d = xCall reprDT fl en d := by
        show Out.bind (fl en d) _ = Out.bind (fl en d) _
        cases q : fl en d with
        | ok l d1 =>
          show M.opt (reprTL l) d1 = M.opt (reprDT l) d1
          have : reprDT l = reprTL l := by
            unfold reprDT
            split
            · exact absurd ⟨_, d1, q⟩ hx
            · rfl
          rw [this]
        | exc x d1 => rfl
        | bad => rfl
      rw [e1]
      exact h
end
end TL

open PySem PySem.Spec PyProof.Rows L2 TL
namespace K_k01
def topS (i : Nat) : Stmt := PySem.Challenge.pw_amidread_k01_letters_and_words_of_any_va.main.body.getD i (.Pass ⟨0, 0, 0, 0⟩)
abbrev s_is_letters : Stmt := topS 4
theorem sc_is_letters : FnScope ["thing", "one", "other", "sign"] ["thing"] (defScope s_is_letters) := ⟨rfl, rfl, rfl, by decide +kernel, rfl, by decide +kernel, by decide +kernel⟩
abbrev s_is_word : Stmt := topS 5
theorem sc_is_word : FnScope ["letters", "thing", "sign"] ["letters", "thing"] (defScope s_is_word) := ⟨rfl, rfl, rfl, by decide +kernel, rfl, by decide +kernel, by decide +kernel⟩
abbrev s__law_deck : Stmt := topS 7
theorem sc__law_deck : FnScope ["_law_script", "_law_cells", "_law_blend", "_law_cell"] ["_law_script"] (defScope s__law_deck) := ⟨rfl, rfl, rfl, by decide +kernel, rfl, by decide +kernel, by decide +kernel⟩
abbrev s__law_draw : Stmt := topS 8
theorem sc__law_draw : FnScope ["_law_deck_here", "_law_bound", "_law_mixed", "_law_cell"] ["_law_deck_here", "_law_bound"] (defScope s__law_draw) := ⟨rfl, rfl, rfl, by decide +kernel, rfl, by decide +kernel, by decide +kernel⟩
abbrev s__law_pick : Stmt := topS 9
theorem sc__law_pick : FnScope ["_law_deck_here", "_law_some"] ["_law_deck_here", "_law_some"] (defScope s__law_pick) := ⟨rfl, rfl, rfl, by decide +kernel, rfl, by decide +kernel, by decide +kernel⟩
abbrev s__law_signs : Stmt := topS 10
theorem sc__law_signs : FnScope ["_law_deck_here", "_law_top", "_law_pool", "_law_found", "_law_k"] ["_law_deck_here", "_law_top"] (defScope s__law_signs) := ⟨rfl, rfl, rfl, by decide +kernel, rfl, by decide +kernel, by decide +kernel⟩
abbrev s__law_is_signs : Stmt := topS 11
theorem sc__law_is_signs : FnScope ["_law_it", "_law_k", "_law_sign"] ["_law_it"] (defScope s__law_is_signs) := ⟨rfl, rfl, rfl, by decide +kernel, rfl, by decide +kernel, by decide +kernel⟩
abbrev s__law_is_row : Stmt := topS 12
theorem sc__law_is_row : FnScope ["_law_signs_here", "_law_it", "_law_sign"] ["_law_signs_here", "_law_it"] (defScope s__law_is_row) := ⟨rfl, rfl, rfl, by decide +kernel, rfl, by decide +kernel, by decide +kernel⟩
abbrev s__law_odd : Stmt := topS 13
theorem sc__law_odd : FnScope ["_law_deck_here", "_law_some"] ["_law_deck_here"] (defScope s__law_odd) := ⟨rfl, rfl, rfl, by decide +kernel, rfl, by decide +kernel, by decide +kernel⟩
abbrev s__law_bent : Stmt := topS 14
theorem sc__law_bent : FnScope ["_law_deck_here", "_law_it", "_law_at", "_law_way"] ["_law_deck_here", "_law_it"] (defScope s__law_bent) := ⟨rfl, rfl, rfl, by decide +kernel, rfl, by decide +kernel, by decide +kernel⟩
abbrev s_law : Stmt := topS 15
theorem sc_law : FnScope ["_law_script", "_law_deck_here", "_law_signs_here", "_law_turn", "_law_row", "_law_some", "_law_it", "_law_was", "_law_k"] ["_law_script"] (defScope s_law) := ⟨rfl, rfl, rfl, by decide +kernel, rfl, by decide +kernel, by decide +kernel⟩
structure Fx (W : Wd) (P : Program) (w : World) (mg : Str → Option Value) (base : Heap) where
  dk : W.dk = dkL
  a_is_letters : Addr
  d_is_letters : FuncData
  F_is_letters : Fun W.K "is_letters" "is_letters" s_is_letters a_is_letters d_is_letters
  b_is_letters : Binds W.K d_is_letters ["thing"] []
  m_is_letters : mg "is_letters" = some (.ref a_is_letters)
  a_is_word : Addr
  d_is_word : FuncData
  F_is_word : Fun W.K "is_word" "is_word" s_is_word a_is_word d_is_word
  b_is_word : Binds W.K d_is_word ["letters", "thing"] []
  m_is_word : mg "is_word" = some (.ref a_is_word)
  a__law_deck : Addr
  d__law_deck : FuncData
  F__law_deck : Fun W.K "_law_deck" "_law_deck" s__law_deck a__law_deck d__law_deck
  b__law_deck : Binds W.K d__law_deck ["_law_script"] []
  m__law_deck : mg "_law_deck" = some (.ref a__law_deck)
  a__law_draw : Addr
  d__law_draw : FuncData
  F__law_draw : Fun W.K "_law_draw" "_law_draw" s__law_draw a__law_draw d__law_draw
  b__law_draw : Binds W.K d__law_draw ["_law_deck_here", "_law_bound"] []
  m__law_draw : mg "_law_draw" = some (.ref a__law_draw)
  a__law_pick : Addr
  d__law_pick : FuncData
  F__law_pick : Fun W.K "_law_pick" "_law_pick" s__law_pick a__law_pick d__law_pick
  b__law_pick : Binds W.K d__law_pick ["_law_deck_here", "_law_some"] []
  m__law_pick : mg "_law_pick" = some (.ref a__law_pick)
  a__law_signs : Addr
  d__law_signs : FuncData
  F__law_signs : Fun W.K "_law_signs" "_law_signs" s__law_signs a__law_signs d__law_signs
  b__law_signs : Binds W.K d__law_signs ["_law_deck_here", "_law_top"] []
  m__law_signs : mg "_law_signs" = some (.ref a__law_signs)
  a__law_is_signs : Addr
  d__law_is_signs : FuncData
  F__law_is_signs : Fun W.K "_law_is_signs" "_law_is_signs" s__law_is_signs a__law_is_signs d__law_is_signs
  b__law_is_signs : Binds W.K d__law_is_signs ["_law_it"] []
  m__law_is_signs : mg "_law_is_signs" = some (.ref a__law_is_signs)
  a__law_is_row : Addr
  d__law_is_row : FuncData
  F__law_is_row : Fun W.K "_law_is_row" "_law_is_row" s__law_is_row a__law_is_row d__law_is_row
  b__law_is_row : Binds W.K d__law_is_row ["_law_signs_here", "_law_it"] []
  m__law_is_row : mg "_law_is_row" = some (.ref a__law_is_row)
  a__law_odd : Addr
  d__law_odd : FuncData
  F__law_odd : Fun W.K "_law_odd" "_law_odd" s__law_odd a__law_odd d__law_odd
  b__law_odd : Binds W.K d__law_odd ["_law_deck_here"] []
  m__law_odd : mg "_law_odd" = some (.ref a__law_odd)
  a__law_bent : Addr
  d__law_bent : FuncData
  F__law_bent : Fun W.K "_law_bent" "_law_bent" s__law_bent a__law_bent d__law_bent
  b__law_bent : Binds W.K d__law_bent ["_law_deck_here", "_law_it"] []
  m__law_bent : mg "_law_bent" = some (.ref a__law_bent)
  a_law : Addr
  d_law : FuncData
  F_law : Fun W.K "law" "law" s_law a_law d_law
  b_law : Binds W.K d_law ["_law_script"] []
  m_law : mg "law" = some (.ref a_law)
  c_ALPHABET : ∃ t, mg "ALPHABET" = some (.str "abcdefghijklmnopqrstuvwxyz" t)
  c_LEAST_LETTERS : ∃ t, mg "LEAST_LETTERS" = some (.int 2 t)
  c_MOST_LETTERS : ∃ t, mg "MOST_LETTERS" = some (.int 5 t)
  z_all : mg "all" = none
  z_int : mg "int" = none
  z_isinstance : mg "isinstance" = none
  z_len : mg "len" = none
  z_list : mg "list" = none
  z_range : mg "range" = none
  z_repr : mg "repr" = none
  z_sorted : mg "sorted" = none
  z_str : mg "str" = none
  z_zip : mg "zip" = none
variable {W : Wd} {P : Program} {w : World} {mg : Str → Option Value} {base : Heap}
def g_is_letters_t0 : En → MS := (sSeq (sIf (xNotB (xTest (xCall allT (xCons (xToL (xLc (xItems (xVar 0)) (aName 3) [3] xYes (xBin inT (xVar 3) (xC (.str "abcdefghijklmnopqrstuvwxyz"))))) xNil)))) (sRet (xC (.bl false))) sNext)
    (sRet (xCall allT (xCons (xToL (xLc (xIt zipT (xCons (xVar 0) (xCons (xSl (xVar 0) (xPart (xC (.int 1))) xNoPart) xNil))) (aTup (aCons (aName 1) (aCons (aName 2) aNil))) [1, 2] xYes (xBin ltT (xVar 1) (xVar 2)))) xNil))))
def g_is_letters : En → MS := (sSeq (sIf (xOrB (xNotB (xTest (xUn (isiT "str") (xVar 0)))) (xNotB (xTest (xChain leT leT (xC (.int 2)) (xCall lenT (xCons (xVar 0) xNil)) (xC (.int 5)))))) (sRet (xC (.bl false))) sNext)
    g_is_letters_t0)
abbrev m_is_letters : List T → M T := fnM 4 g_is_letters
theorem ok_is_letters (Y : Fx W P w mg base) : FnT W P w mg base CX0 1 Y.a_is_letters Y.d_is_letters ["thing"] m_is_letters := ft_of Y.F_is_letters sc_is_letters rfl fun cdv A outer s H E hg hr =>
  (ts_cons (ts_if (tw_or (tt_not (tt_val (te_isi Y.z_isinstance Y.z_str (by decide +kernel) (te_v 0)))) (tw_or1 (tt_not (tt_chain op_leA op_leA agr_le agr_le (te_cI (by rfl) Y.c_LEAST_LETTERS) (te_len rfl Y.z_len (ta_cons (te_v 0) ta_nil)) (te_cI (by rfl) Y.c_MOST_LETTERS))))).pt
    (ts_one (ts_ret te_bl))
    ts_nil)
    (show PSs _ _ (tS W E0 g_is_letters_t0) from (ts_cons (ts_if (tt_not (tt_val (te_all rfl rfl Y.z_all (ta_cons (te_new (tn_lc (own := [("sign", 3)]) sc_is_letters.nd (ti_seq rfl (te_v 0)) (blkOk_by (N := ["thing", "one", "other", "sign"]) (sc := defScope s_is_letters) (own := [("sign", 3)]) (by decide +kernel)) (fun _ _ _ _ _ => (tg_name (i := 3) sc_is_letters.nd)) (fun _ _ _ _ _ => tts_nil) (fun _ _ _ _ _ => (te_in (room_of hr) rfl (te_v 3) (te_cS (by rfl) Y.c_ALPHABET))))) ta_nil))))
    (ts_one (ts_ret te_bl))
    ts_nil)
    (ts_one (ts_ret (te_all rfl rfl Y.z_all (ta_cons (te_new (tn_lc (own := [("one", 1), ("other", 2)]) sc_is_letters.nd (ti_zip rfl (by rfl) Y.z_zip (ta_cons (te_v 0) (ta_cons (te_sl rfl (te_v 0) (to_some te_int) to_none) ta_nil))) (blkOk_by (N := ["thing", "one", "other", "sign"]) (sc := defScope s_is_letters) (own := [("one", 1), ("other", 2)]) (by decide +kernel)) (fun _ _ _ _ _ => (tg_tup rfl (tgs_cons (tg_name (i := 1) sc_is_letters.nd) (tgs_cons (tg_name (i := 2) sc_is_letters.nd) tgs_nil)) (aCons_len (aCons_len aNil_len)))) (fun _ _ _ _ _ => tts_nil) (fun _ _ _ _ _ => (te_lt (te_v 1) (te_v 2))))) ta_nil)))))))
def g_is_word : En → MS := (sRet (xAnd (xUn (isiT "str") (xVar 1)) (xCall allT (xCons (xToL (xLc (xItems (xVar 1)) (aName 2) [2] xYes (xBin inT (xVar 2) (xVar 0)))) xNil))))
abbrev m_is_word : List T → M T := fnM 3 g_is_word
theorem ok_is_word (Y : Fx W P w mg base) : FnT W P w mg base CX0 1 Y.a_is_word Y.d_is_word ["letters", "thing"] m_is_word := ft_of Y.F_is_word sc_is_word rfl fun cdv A outer s H E hg hr =>
  (ts_one (ts_ret (te_and (te_isi Y.z_isinstance Y.z_str (by decide +kernel) (te_v 1)) (te_one (te_all rfl rfl Y.z_all (ta_cons (te_new (tn_lc (own := [("sign", 2)]) sc_is_word.nd (ti_seq rfl (te_v 1)) (blkOk_by (N := ["letters", "thing", "sign"]) (sc := defScope s_is_word) (own := [("sign", 2)]) (by decide +kernel)) (fun _ _ _ _ _ => (tg_name (i := 2) sc_is_word.nd)) (fun _ _ _ _ _ => tts_nil) (fun _ _ _ _ _ => (te_in (room_of hr) rfl (te_v 2) (te_v 0))))) ta_nil))))))
def g__law_draw_t0 : En → MS := (sSeq (sAsg 2 (xBin modT (xCall toIntT (xCons (xBin addT (xBin addT (xBin mulT (xVar 2) (xVar 2)) (xBin mulT (xC (.int 69621)) (xDkN (xVar 0)))) (xC (.int 7))) xNil)) (xC (.int 2147483587))))
    (sRet (xBin modT (xBin fdivT (xBin modT (xCall toIntT (xCons (xBin mulT (xVar 2) (xC (.int 39373))) xNil)) (xC (.int 2147483563))) (xC (.int 64))) (xVar 1))))
def g__law_draw_t1 : En → MS := (sSeq (sAsg 2 (xBin modT (xBin mulT (xCall toIntT (xCons (xBin addT (xBin modT (xCall toIntT (xCons (xVar 2) xNil)) (xC (.int 2147483629))) (xC (.int 43))) xNil)) (xC (.int 40692))) (xC (.int 2147483647))))
    g__law_draw_t0)
def g__law_draw_t2 : En → MS := (sSeq (sIf (xTest (xDkNe (xVar 0))) (sSeq (sAsg 3 (xDkPop (xVar 0)))
    (sSeq (sIf (xTest (xBin geT (xVar 3) (xBin powT (xC (.int 10)) (xC (.int 18))))) (sSeq (sExpr (xDkApp (xVar 0) (xBin fdivT (xVar 3) (xVar 1))))
    (sRet (xBin modT (xCall toIntT (xCons (xVar 3) xNil)) (xVar 1)))) sNext)
    (sAsg 2 (xBin addT (xVar 2) (xCall toIntT (xCons (xVar 3) xNil)))))) sNext)
    g__law_draw_t1)
def g__law_draw_t3 : En → MS := (sSeq (sAsg 2 (xBin addT (xDkB (xVar 0)) (xBin mulT (xBin mulT (xC (.int 40093)) (xDkN (xVar 0))) (xDkN (xVar 0)))))
    g__law_draw_t2)
def g__law_draw : En → MS := (sSeq (sDkSet (xVar 0) (xBin addT (xDkN (xVar 0)) (xC (.int 1))))
    g__law_draw_t3)
abbrev m__law_draw : List T → M T := fnM 4 g__law_draw
theorem ok__law_draw (Y : Fx W P w mg base) : FnT W P w mg base CX0 1 Y.a__law_draw Y.d__law_draw ["_law_deck_here", "_law_bound"] m__law_draw := ft_of Y.F__law_draw sc__law_draw rfl fun cdv A outer s H E hg hr =>
  (ts_cons (ts_dkSet Y.dk (te_v 0) (te_add rfl (te_dkN Y.dk (te_v 0)) te_int))
    (show PSs _ _ (tS W E0 g__law_draw_t3) from (ts_cons (ts_set (i := 2) sc__law_draw.nd (te_add rfl (te_dkB Y.dk (te_v 0)) (te_mul rfl (te_mul rfl te_int (te_dkN Y.dk (te_v 0))) (te_dkN Y.dk (te_v 0)))))
    (show PSs _ _ (tS W E0 g__law_draw_t2) from (ts_cons (ts_if (tt_dkNe Y.dk (room_of hr) (te_v 0))
    (ts_cons (ts_set (i := 3) sc__law_draw.nd (te_dkPop Y.dk (te_v 0)))
    (ts_cons (ts_if (tt_ge (te_v 3) (te_pow te_int te_int))
    (ts_cons (ts_expr (te_dkApp Y.dk (te_v 0) (te_fdiv (te_v 3) (te_v 1))))
    (ts_one (ts_ret (te_mod (te_toInt  Y.z_int (ta_cons (te_v 3) ta_nil)) (te_v 1)))))
    ts_nil)
    (ts_one (ts_set (i := 2) sc__law_draw.nd (te_add rfl (te_v 2) (te_toInt  Y.z_int (ta_cons (te_v 3) ta_nil)))))))
    ts_nil)
    (show PSs _ _ (tS W E0 g__law_draw_t1) from (ts_cons (ts_set (i := 2) sc__law_draw.nd (te_mod (te_mul rfl (te_toInt  Y.z_int (ta_cons (te_add rfl (te_mod (te_toInt  Y.z_int (ta_cons (te_v 2) ta_nil)) te_int) te_int) ta_nil)) te_int) te_int))
    (show PSs _ _ (tS W E0 g__law_draw_t0) from (ts_cons (ts_set (i := 2) sc__law_draw.nd (te_mod (te_toInt  Y.z_int (ta_cons (te_add rfl (te_add rfl (te_mul rfl (te_v 2) (te_v 2)) (te_mul rfl te_int (te_dkN Y.dk (te_v 0)))) te_int) ta_nil)) te_int))
    (ts_one (ts_ret (te_mod (te_fdiv (te_mod (te_toInt  Y.z_int (ta_cons (te_mul rfl (te_v 2) te_int) ta_nil)) te_int) te_int) (te_v 1)))))))))))))
def g__law_is_signs_t0 : En → MS := (sSeq (sIf (xTest (xBin neT (xToL (xLc (xItems (xVar 0)) (aName 2) [2] (xNotB (xTest (xChain leT leT (xC (.str "a")) (xVar 2) (xC (.str "z"))))) (xVar 2))) (xToL (xLst xNil)))) (sRet (xC (.bl false))) sNext)
    (sRet (xBin eqT (xToL (xLc (xIt rng2 (xCons (xC (.int 1)) (xCons (xCall lenT (xCons (xVar 0) xNil)) xNil))) (aName 1) [1] (xNotB (xTest (xBin ltT (xBin ixT (xVar 0) (xBin subT (xVar 1) (xC (.int 1)))) (xBin ixT (xVar 0) (xVar 1))))) (xVar 1))) (xToL (xLst xNil)))))
def g__law_is_signs : En → MS := (sSeq (sIf (xOrB (xNotB (xTest (xUn (isiT "str") (xVar 0)))) (xNotB (xTest (xChain ltT ltT (xC (.int 1)) (xCall lenT (xCons (xVar 0) xNil)) (xC (.int 6)))))) (sRet (xC (.bl false))) sNext)
    g__law_is_signs_t0)
abbrev m__law_is_signs : List T → M T := fnM 3 g__law_is_signs
theorem ok__law_is_signs (Y : Fx W P w mg base) : FnT W P w mg base CX0 1 Y.a__law_is_signs Y.d__law_is_signs ["_law_it"] m__law_is_signs := ft_of Y.F__law_is_signs sc__law_is_signs rfl fun cdv A outer s H E hg hr =>
  (ts_cons (ts_if (tw_or (tt_not (tt_val (te_isi Y.z_isinstance Y.z_str (by decide +kernel) (te_v 0)))) (tw_or1 (tt_not (tt_chain op_ltA op_ltA agr_lt agr_lt te_int (te_len rfl Y.z_len (ta_cons (te_v 0) ta_nil)) te_int)))).pt
    (ts_one (ts_ret te_bl))
    ts_nil)
    (show PSs _ _ (tS W E0 g__law_is_signs_t0) from (ts_cons (ts_if (tt_ne (room_of hr) rfl (te_new (tn_lc (own := [("_law_sign", 2)]) sc__law_is_signs.nd (ti_seq rfl (te_v 0)) (blkOk_by (N := ["_law_it", "_law_k", "_law_sign"]) (sc := defScope s__law_is_signs) (own := [("_law_sign", 2)]) (by decide +kernel)) (fun _ _ _ _ _ => (tg_name (i := 2) sc__law_is_signs.nd)) (fun _ _ _ _ _ => (tts_one (tt_not (tt_chain op_leA op_leA agr_le agr_le te_str (te_v 2) te_str)))) (fun _ _ _ _ _ => (te_v 2)))) (te_new (tn_lst ta_nil)))
    (ts_one (ts_ret te_bl))
    ts_nil)
    (ts_one (ts_ret (te_eq (room_of hr) rfl (te_new (tn_lc (own := [("_law_k", 1)]) sc__law_is_signs.nd (ti_rng2 (by rfl) Y.z_range (ta_cons te_int (ta_cons (te_len rfl Y.z_len (ta_cons (te_v 0) ta_nil)) ta_nil))) (blkOk_by (N := ["_law_it", "_law_k", "_law_sign"]) (sc := defScope s__law_is_signs) (own := [("_law_k", 1)]) (by decide +kernel)) (fun _ _ _ _ _ => (tg_name (i := 1) sc__law_is_signs.nd)) (fun _ _ _ _ _ => (tts_one (tt_not (tt_lt (te_at (room_of hr) rfl (te_v 0) (te_sub (te_v 1) te_int)) (te_at (room_of hr) rfl (te_v 0) (te_v 1)))))) (fun _ _ _ _ _ => (te_v 1)))) (te_new (tn_lst ta_nil))))))))
def g__law_is_row : En → MS := (sRet (xAnd (xUn (isiT "str") (xVar 1)) (xBin eqT (xToL (xLc (xItems (xVar 1)) (aName 2) [2] (xTest (xBin notInT (xVar 2) (xVar 0))) (xVar 2))) (xToL (xLst xNil)))))
abbrev m__law_is_row : List T → M T := fnM 3 g__law_is_row
theorem ok__law_is_row (Y : Fx W P w mg base) : FnT W P w mg base CX0 1 Y.a__law_is_row Y.d__law_is_row ["_law_signs_here", "_law_it"] m__law_is_row := ft_of Y.F__law_is_row sc__law_is_row rfl fun cdv A outer s H E hg hr =>
  (ts_one (ts_ret (te_and (te_isi Y.z_isinstance Y.z_str (by decide +kernel) (te_v 1)) (te_one (te_eq (room_of hr) rfl (te_new (tn_lc (own := [("_law_sign", 2)]) sc__law_is_row.nd (ti_seq rfl (te_v 1)) (blkOk_by (N := ["_law_signs_here", "_law_it", "_law_sign"]) (sc := defScope s__law_is_row) (own := [("_law_sign", 2)]) (by decide +kernel)) (fun _ _ _ _ _ => (tg_name (i := 2) sc__law_is_row.nd)) (fun _ _ _ _ _ => (tts_one (tt_notIn (room_of hr) rfl (te_v 2) (te_v 0)))) (fun _ _ _ _ _ => (te_v 2)))) (te_new (tn_lst ta_nil)))))))
def g__law_pick : En → MS := (sRet (xBin ixT (xVar 1) (xFn m__law_draw (xCons (xVar 0) (xCons (xCall lenT (xCons (xVar 1) xNil)) xNil)))))
abbrev m__law_pick : List T → M T := fnM 2 g__law_pick
theorem ok__law_pick (Y : Fx W P w mg base) : FnT W P w mg base CX0 2 Y.a__law_pick Y.d__law_pick ["_law_deck_here", "_law_some"] m__law_pick := ft_of Y.F__law_pick sc__law_pick rfl fun cdv A outer s H E hg hr =>
  (ts_one (ts_ret (te_at (room_of hr) rfl (te_v 1) (te_call ((ok__law_draw Y).mono (by decide)) rfl hg hr (by rfl) Y.m__law_draw Y.F__law_draw.kp Y.b__law_draw pass0 (ta_cons (te_v 0) (ta_cons (te_len rfl Y.z_len (ta_cons (te_v 1) ta_nil)) ta_nil)) rfl (xCons_len (xCons_len xNil_len))))))
def g__law_signs_0 : En → MS := (sAppPop 3 2 (xPk 2 (xFn m__law_draw (xCons (xVar 0) (xCons (xCall lenT (xCons (xVar 2) xNil)) xNil)))))
def g__law_signs_t0 : En → MS := (sSeq (sFor (xIt rng1 (xCons (xBin addT (xC (.int 2)) (xFn m__law_draw (xCons (xVar 0) (xCons (xBin subT (xVar 1) (xC (.int 1))) xNil)))) xNil)) (aName 4) g__law_signs_0)
    (sFrz 3 (sRet (xJoin (xC (.str "")) (xToL (xCallN sortedT (xCons (xVar 3) xNil)))))))
def g__law_signs : En → MS := (sSeq (sPar2N 2 3 (xCallN listAT (xCons (xC (.str "abcdehmxyz")) xNil)) (xLst xNil))
    g__law_signs_t0)
abbrev m__law_signs : List T → M T := fnM 5 g__law_signs
theorem ok__law_signs (Y : Fx W P w mg base) : FnT W P w mg base CX0 2 Y.a__law_signs Y.d__law_signs ["_law_deck_here", "_law_top"] m__law_signs := ft_of Y.F__law_signs sc__law_signs rfl fun cdv A outer s H E hg hr =>
  (ts_cons (ts_par2N (i := 2) (j := 3) rfl sc__law_signs.nd (tn_listA rfl Y.z_list (ta_cons te_str ta_nil)) (tn_lst ta_nil))
    (show PSs _ _ (tS W E0 g__law_signs_t0) from (ts_cons (ts_for (g := g__law_signs_0) PassesOwn.never (ti_rng1 (by rfl) Y.z_range (ta_cons (te_add rfl te_int (te_call ((ok__law_draw Y).mono (by decide)) rfl hg hr (by rfl) Y.m__law_draw Y.F__law_draw.kp Y.b__law_draw pass0 (ta_cons (te_v 0) (ta_cons (te_sub (te_v 1) te_int) ta_nil)) rfl (xCons_len (xCons_len xNil_len)))) ta_nil)) (tg_name (i := 4) sc__law_signs.nd)
    (ts_one (ts_appPop (i := 3) (j := 2) (by decide) (te_pk 2 (te_call ((ok__law_draw Y).mono (by decide)) rfl hg hr (by rfl) Y.m__law_draw Y.F__law_draw.kp Y.b__law_draw pass0 (ta_cons (te_v 0) (ta_cons (te_len rfl Y.z_len (ta_cons (te_v 2) ta_nil)) ta_nil)) rfl (xCons_len (xCons_len xNil_len)))))))
    (tss_frz 3 (ts_one (ts_ret (te_join rfl te_str (te_new (tn_sorted rfl (room_of hr) Y.z_sorted (ta_cons (te_v 3) ta_nil))))))))))
def g__law_odd_t0 : En → MS := (sSeq (sAsg 1 (xBin addT (xVar 1) (xToL (xLst (xCons (xC (.str "yz")) (xCons (xC (.str "abc\n")) (xCons (xTup xNil) (xCons (xTup (xCons (xC (.str "a")) (xCons (xC (.str "b")) xNil))) (xCons (xToL (xLst (xCons (xC (.str "a")) (xCons (xC (.str "b")) xNil)))) (xCons (xC (.dic [])) (xCons (xC (.dic [(.inr "a", .str "b")])) (xCons (xTup (xCons (xC (.str "ab")) xNil)) (xCons (xBin mulT (xC (.str "ab")) (xC (.int 900))) (xCons (xC (.str "zyxwv")) (xCons (xC (.str "~")) (xCons (xC (.str "az`")) xNil))))))))))))))))
    (sRet (xFn m__law_pick (xCons (xVar 0) (xCons (xVar 1) xNil)))))
def g__law_odd : En → MS := (sSeq (sAsg 1 (xToL (xLst (xCons (xC .non) (xCons (xC (.bl true)) (xCons (xC (.bl false)) (xCons (xC (.int 0)) (xCons (xC (.int 2)) (xCons (xBin powT (xC (.int 10)) (xC (.int 39))) (xCons (xC (.str "")) (xCons (xC (.str "a")) (xCons (xC (.str "ab")) (xCons (xC (.str "ba")) (xCons (xC (.str "aa")) (xCons (xC (.str "abcde")) (xCons (xC (.str "abcdef")) (xCons (xC (.str "Ab")) (xCons (xC (.str "a1")) (xCons (xC (.str "az")) (xCons (xC (.str "a b")) xNil))))))))))))))))))))
    g__law_odd_t0)
abbrev m__law_odd : List T → M T := fnM 2 g__law_odd
theorem ok__law_odd (Y : Fx W P w mg base) : FnT W P w mg base CX0 3 Y.a__law_odd Y.d__law_odd ["_law_deck_here"] m__law_odd := ft_of Y.F__law_odd sc__law_odd rfl fun cdv A outer s H E hg hr =>
  (ts_cons (ts_set (i := 1) sc__law_odd.nd (te_new (tn_lst (ta_cons te_non (ta_cons te_bl (ta_cons te_bl (ta_cons te_int (ta_cons te_int (ta_cons (te_pow te_int te_int) (ta_cons te_str (ta_cons te_str (ta_cons te_str (ta_cons te_str (ta_cons te_str (ta_cons te_str (ta_cons te_str (ta_cons te_str (ta_cons te_str (ta_cons te_str (ta_cons te_str ta_nil))))))))))))))))))))
    (show PSs _ _ (tS W E0 g__law_odd_t0) from (ts_cons (ts_set (i := 1) sc__law_odd.nd (te_add rfl (te_v 1) (te_new (tn_lst (ta_cons te_str (ta_cons te_str (ta_cons (te_tup ta_nil) (ta_cons (te_tup (ta_cons te_str (ta_cons te_str ta_nil))) (ta_cons (te_new (tn_lst (ta_cons te_str (ta_cons te_str ta_nil)))) (ta_cons te_dic0 (ta_cons te_dicSS (ta_cons (te_tup (ta_cons te_str ta_nil)) (ta_cons (te_mul rfl te_str te_int) (ta_cons te_str (ta_cons te_str (ta_cons te_str ta_nil))))))))))))))))
    (ts_one (ts_ret (te_call ((ok__law_pick Y).mono (by decide)) rfl hg hr (by rfl) Y.m__law_pick Y.F__law_pick.kp Y.b__law_pick pass0 (ta_cons (te_v 0) (ta_cons (te_v 1) ta_nil)) rfl (xCons_len (xCons_len xNil_len))))))))
def g__law_bent_t0 : En → MS := (sSeq (sIf (xTest (xBin eqT (xVar 3) (xC (.int 2)))) (sRet (xBin addT (xBin addT (xSl (xVar 1) xNoPart (xPart (xVar 2))) (xUn revT (xSl (xVar 1) (xPart (xVar 2)) (xPart (xBin addT (xVar 2) (xC (.int 2))))))) (xSl (xVar 1) (xPart (xBin addT (xVar 2) (xC (.int 2)))) xNoPart))) sNext)
    (sRet (xBin addT (xBin addT (xSl (xVar 1) xNoPart (xPart (xVar 2))) (xFn m__law_pick (xCons (xVar 0) (xCons (xBin addT (xToL (xCallN listAT (xCons (xC (.str "abcxyzAZ09 ~`{")) xNil))) (xToL (xLst (xCons (xC (.str "\n")) (xCons (xC (.str "ab")) xNil))))) xNil)))) (xSl (xVar 1) (xPart (xBin subT (xBin addT (xVar 2) (xVar 3)) (xC (.int 3)))) xNoPart))))
def g__law_bent_t1 : En → MS := (sSeq (sIf (xTest (xBin eqT (xVar 3) (xC (.int 1)))) (sRet (xBin addT (xSl (xVar 1) xNoPart (xPart (xBin addT (xVar 2) (xC (.int 1))))) (xSl (xVar 1) (xPart (xVar 2)) xNoPart))) sNext)
    g__law_bent_t0)
def g__law_bent_t2 : En → MS := (sSeq (sIf (xTest (xBin eqT (xVar 3) (xC (.int 0)))) (sRet (xBin addT (xSl (xVar 1) xNoPart (xPart (xVar 2))) (xSl (xVar 1) (xPart (xBin addT (xVar 2) (xC (.int 1)))) xNoPart))) sNext)
    g__law_bent_t1)
def g__law_bent : En → MS := (sSeq (sPar 2 3 (xCons (xFn m__law_draw (xCons (xVar 0) (xCons (xBin addT (xCall lenT (xCons (xVar 1) xNil)) (xC (.int 1))) xNil))) (xCons (xFn m__law_draw (xCons (xVar 0) (xCons (xC (.int 5)) xNil))) xNil)))
    g__law_bent_t2)
abbrev m__law_bent : List T → M T := fnM 4 g__law_bent
theorem ok__law_bent (Y : Fx W P w mg base) : FnT W P w mg base CX0 3 Y.a__law_bent Y.d__law_bent ["_law_deck_here", "_law_it"] m__law_bent := ft_of Y.F__law_bent sc__law_bent rfl fun cdv A outer s H E hg hr =>
  (ts_cons (ts_par (i := 2) (j := 3) rfl sc__law_bent.nd (ta_cons (te_call ((ok__law_draw Y).mono (by decide)) rfl hg hr (by rfl) Y.m__law_draw Y.F__law_draw.kp Y.b__law_draw pass0 (ta_cons (te_v 0) (ta_cons (te_add rfl (te_len rfl Y.z_len (ta_cons (te_v 1) ta_nil)) te_int) ta_nil)) rfl (xCons_len (xCons_len xNil_len))) (ta_cons (te_call ((ok__law_draw Y).mono (by decide)) rfl hg hr (by rfl) Y.m__law_draw Y.F__law_draw.kp Y.b__law_draw pass0 (ta_cons (te_v 0) (ta_cons te_int ta_nil)) rfl (xCons_len (xCons_len xNil_len))) ta_nil)))
    (show PSs _ _ (tS W E0 g__law_bent_t2) from (ts_cons (ts_if (tt_eq (room_of hr) rfl (te_v 3) te_int)
    (ts_one (ts_ret (te_add rfl (te_sl rfl (te_v 1) to_none (to_some (te_v 2))) (te_sl rfl (te_v 1) (to_some (te_add rfl (te_v 2) te_int)) to_none))))
    ts_nil)
    (show PSs _ _ (tS W E0 g__law_bent_t1) from (ts_cons (ts_if (tt_eq (room_of hr) rfl (te_v 3) te_int)
    (ts_one (ts_ret (te_add rfl (te_sl rfl (te_v 1) to_none (to_some (te_add rfl (te_v 2) te_int))) (te_sl rfl (te_v 1) (to_some (te_v 2)) to_none))))
    ts_nil)
    (show PSs _ _ (tS W E0 g__law_bent_t0) from (ts_cons (ts_if (tt_eq (room_of hr) rfl (te_v 3) te_int)
    (ts_one (ts_ret (te_add rfl (te_add rfl (te_sl rfl (te_v 1) to_none (to_some (te_v 2))) (te_rev rfl (te_sl rfl (te_v 1) (to_some (te_v 2)) (to_some (te_add rfl (te_v 2) te_int))))) (te_sl rfl (te_v 1) (to_some (te_add rfl (te_v 2) te_int)) to_none))))
    ts_nil)
    (ts_one (ts_ret (te_add rfl (te_add rfl (te_sl rfl (te_v 1) to_none (to_some (te_v 2))) (te_call ((ok__law_pick Y).mono (by decide)) rfl hg hr (by rfl) Y.m__law_pick Y.F__law_pick.kp Y.b__law_pick pass0 (ta_cons (te_v 0) (ta_cons (te_add rfl (te_new (tn_listA rfl Y.z_list (ta_cons te_str ta_nil))) (te_new (tn_lst (ta_cons te_str (ta_cons te_str ta_nil))))) ta_nil)) rfl (xCons_len (xCons_len xNil_len)))) (te_sl rfl (te_v 1) (to_some (te_sub (te_add rfl (te_v 2) (te_v 3)) te_int)) to_none)))))))))))
theorem ok__law_deck (Y : Fx W P w mg base) : FnOk P w W.K mg base CX0 1 Y.a__law_deck Y.d__law_deck ["_law_script"] (spDeck W 63) := by
  refine Y.F__law_deck.ok sc__law_deck (fun vs H Q E h => ?_) (fun cdv A outer s H vs Q E hr h => ?_)
  · obtain ⟨a, ns, rfl, _⟩ := h
    rfl
  · obtain ⟨a, ns, rfl, hS, hn, q⟩ := h
    refine ⟨_, pss_cons (ps_par (i := 1) (j := 2) rfl sc__law_deck.nd rfl rfl (by decide) rfl rfl (pa_cons (pe_callTy call_list_of (by rfl) Y.z_list (by decide +kernel) (pa_cons (pe_slice sl_list (pv 0) po_none (po_some pe_int)) pa_nil)) (pa_cons pe_int pa_nil)) rfl)
      (pss_cons (ps_for PassesOwn.never rfl (pi_list (pv 1)) (pg_name (i := 3) sc__law_deck.nd rfl (.inl rfl))
        (pss_one (ps_set (i := 2) sc__law_deck.nd rfl (.inl rfl) (pe_op op_mod (pe_callTy call_int1 (by rfl) Y.z_int (by decide +kernel) (pa_cons (pe_op op_add (pe_op op_add (pe_op op_mul (pv 2) pe_int) (pe_op op_mod (pe_callTy call_int1 (by rfl) Y.z_int (by decide +kernel) (pa_cons (pv 3) pa_nil)) pe_int)) pe_int) pa_nil)) pe_int))))
      (pss_one (ps_ret (pe_lst (pa_cons (pe_revL (pv 1)) (pa_cons (pv 2) (pa_cons pe_int pa_nil))))))), ?_⟩
    refine ⟨.ref a, rfl, _, rfl, a, _, rfl, hS, fun p1 np1 => ?_⟩
    have sm1 : Same H (upd H p1 (.lst (cutV (ns.map V.int) none (some 63)))) := upd_same' np1
    refine ⟨p1, _, rfl, .inl (.of upd_same), fun p2 np2 => ?_⟩
    rw [deck_cut hn] at np2 ⊢
    refine ⟨_, _, rfl, ?_⟩
    have sm2 := upd_same' (o := .lst (ns.map V.int)) np2
    have no2 : p2 ≠ p1 := fun z => by
      rw [z, upd_same] at np2
      cases np2
    refine ⟨.ref p2, rfl, p2, rfl, ⟨_, .of upd_same⟩, fun i m σ H' => ∃ b y3, σ = [some (.ref a), some (.ref p2), some (.int b), y3] ∧ i + m = ns.length ∧ H' p2 = some (.lst (ns.map V.int)), ⟨ns.length, _, none, rfl, by omega, upd_same⟩, ?_⟩
    rintro i m σ H' ⟨b, y3, rfl, em, e2⟩
    by_cases hi : i < ns.length
    · have g : (ns.map V.int)[i]? = some (.int ns[i]) := by
        rw [List.getElem?_map, List.getElem?_eq_getElem hi]
        rfl
      refine .inr ⟨⟨_, _, .of e2, g⟩, fun σ' H2 => ∃ b y3, σ' = [some (.ref a), some (.ref p2), some (.int b), y3] ∧ H2 p2 = some (.lst (ns.map V.int)), fun σ' H2 ⟨b, y3, e, e2⟩ => ⟨m - 1, by omega, b, y3, e, by omega, e2⟩, fun x H2 y => ?_⟩
      obtain ⟨rfl, fv⟩ := y
      have ex : x = .int ns[i] := Option.some.inj ((fv _ (.of e2)).symm.trans g)
      subst ex
      refine ⟨.int b, rfl, b, _, rfl, rfl, .inr (by decide), .int ns[i], rfl, .inl ⟨ns[i], rfl, ns[i], _, rfl, rfl, (by decide : (0 : Int) < 2147483629), _, _, rfl, rfl, _, _, rfl, rfl, .inl ⟨_, rfl, _, _, rfl, rfl, (by decide : (0 : Int) < 2147483587), _, _, rfl, e2⟩⟩⟩
    · refine .inl ⟨⟨_, .of e2, by rw [List.length_map]; omega⟩, ?_⟩
      refine ⟨.ref p2, rfl, p2, _, rfl, .of e2, fun c nc => ⟨.int b, rfl, by show 3 ≤ sizeLine; decide, fun p np => ?_⟩⟩
      have npc : p ≠ c := fun z => by
        rw [z, upd_same] at np
        cases np
      refine q _ (p, c) ⟨ns.reverse, b, 0⟩ ⟨npc, ?_, ?_⟩ ⟨Nat.le_refl _, by rw [List.length_reverse]; exact hn⟩
      · show upd _ p _ c = _
        rw [upd_ne npc.symm, upd_same, List.map_reverse]
      · rw [upd_same, Y.dk]
        rfl

def g_law_0 : En → MS := (sIf (xOrB (xNotB (xTest (xFn m_is_letters (xCons (xVar 2) xNil)))) (xOrB (xNotB (xTest (xFn m_is_word (xCons (xVar 2) (xCons (xBin mulT (xUn revT (xVar 2)) (xC (.int 80))) xNil))))) (xTest (xFn m_is_word (xCons (xSl (xVar 2) (xPart (xC (.int 1))) xNoPart) (xCons (xVar 2) xNil)))))) (sRet (xC (.bl false))) sNext)
def g_law_1 : En → MS := (sSeq (sAsg 7 (xCall reprDT (xCons (xVar 6) xNil)))
    (sSeq (sIf (xTest (xBin neT (xCall reprTL (xCons (xToL (xLst (xCons (xFn m_is_letters (xCons (xVar 6) xNil)) (xCons (xFn (fun l => m_is_letters (perm [0] l)) (xCons (xVar 6) xNil)) xNil)))) xNil)) (xCall reprTL (xCons (xBin mulT (xToL (xLst (xCons (xFn m__law_is_signs (xCons (xVar 6) xNil)) xNil))) (xC (.int 2))) xNil)))) (sRet (xC (.bl false))) sNext)
    (sSeq (sIf (xTest (xBin neT (xCall reprTL (xCons (xToL (xLst (xCons (xFn m_is_word (xCons (xVar 2) (xCons (xVar 6) xNil))) (xCons (xFn (fun l => m_is_word (perm [1, 0] l)) (xCons (xVar 6) (xCons (xVar 2) xNil))) xNil)))) xNil)) (xCall reprTL (xCons (xBin mulT (xToL (xLst (xCons (xFn m__law_is_row (xCons (xVar 2) (xCons (xVar 6) xNil))) xNil))) (xC (.int 2))) xNil)))) (sRet (xC (.bl false))) sNext)
    (sIf (xTest (xBin neT (xCall reprDT (xCons (xVar 6) xNil)) (xVar 7))) (sRet (xC (.bl false))) sNext))))
def g_law_2 : En → MS := (sSeq (sAsg 2 (xFn m__law_signs (xCons (xVar 1) (xCons (xC (.int 5)) xNil))))
    (sSeq (sAsg 4 (xJoin (xC (.str "")) (xToL (xLc (xIt rng1 (xCons (xFn m__law_draw (xCons (xVar 1) (xCons (xC (.int 9)) xNil))) xNil)) (aName 8) [8] xYes (xFn m__law_pick (xCons (xVar 1) (xCons (xVar 2) xNil)))))))
    (sSeq (sAsg 5 (xToL (xLst (xCons (xVar 2) (xCons (xSl (xVar 2) xNoPart (xPart (xC (.int 1)))) (xCons (xBin addT (xVar 2) (xSl (xVar 2) (xPart (xUn negT (xC (.int 1)))) xNoPart)) (xCons (xUn revT (xVar 2)) (xCons (xVar 4) (xCons (xFn m__law_bent (xCons (xVar 1) (xCons (xVar 2) xNil))) (xCons (xFn m__law_bent (xCons (xVar 1) (xCons (xVar 4) xNil))) xNil))))))))))
    (sSeq (sAsg 5 (xBin addT (xVar 5) (xToL (xLst (xCons (xFn m__law_bent (xCons (xVar 1) (xCons (xFn m__law_bent (xCons (xVar 1) (xCons (xVar 4) xNil))) xNil))) (xCons (xFn m__law_odd (xCons (xVar 1) xNil)) (xCons (xFn m__law_odd (xCons (xVar 1) xNil)) (xCons (xToL (xCallN listAT (xCons (xVar 2) xNil))) (xCons (xTup (xCons (xVar 4) xNil)) xNil)))))))))
    (sFor (xItems (xVar 5)) (aName 6) g_law_1)))))
def g_law_t0 : En → MS := (sSeq (sFor (xIt rng1 (xCons (xC (.int 6)) xNil)) (aName 3) g_law_2)
    (sRet (xC (.bl true))))
def g_law : En → MS := (sSeq (sFor (xItems (xTup (xCons (xC (.str "abcde")) (xCons (xC (.str "fghij")) (xCons (xC (.str "klmno")) (xCons (xC (.str "pqrst")) (xCons (xC (.str "uvwxy")) (xCons (xC (.str "xyz")) xNil)))))))) (aName 2) g_law_0)
    g_law_t0)
theorem law_body (Y : Fx W P w mg base) {cdv : Value} {A : Around} {outer : List Env} {s : Shared} {H : Hp} {E : XK} (hg : A.guards = some []) (hr : Room 4 (A.deeper (envOfC "law" (defScope s_law) s.heap.objs.size Y.a_law cdv))) :
    PSs (cxOf CX0 P w W.K mg base ["_law_script", "_law_deck_here", "_law_signs_here", "_law_turn", "_law_row", "_law_some", "_law_it", "_law_was", "_law_k"] "law" (defScope s_law) Y.a_law cdv A outer s H E).nox ((defBody s_law).drop 1) (tS W E0 g_law) :=
  (ts_cons (ts_for (g := g_law_0) PassesOwn.never (ti_seq rfl (te_tup (ta_cons te_str (ta_cons te_str (ta_cons te_str (ta_cons te_str (ta_cons te_str (ta_cons te_str ta_nil)))))))) (tg_name (i := 2) sc_law.nd)
    (ts_one (ts_if (tw_or (tt_not (tt_val (te_call ((ok_is_letters Y).mono (by decide)) rfl hg hr (by rfl) Y.m_is_letters Y.F_is_letters.kp Y.b_is_letters pass0 (ta_cons (te_v 2) ta_nil) rfl (xCons_len xNil_len)))) (tw_or (tt_not (tt_val (te_call ((ok_is_word Y).mono (by decide)) rfl hg hr (by rfl) Y.m_is_word Y.F_is_word.kp Y.b_is_word pass0 (ta_cons (te_v 2) (ta_cons (te_mul rfl (te_rev rfl (te_v 2)) te_int) ta_nil)) rfl (xCons_len (xCons_len xNil_len))))) (tw_or1 (tt_val (te_call ((ok_is_word Y).mono (by decide)) rfl hg hr (by rfl) Y.m_is_word Y.F_is_word.kp Y.b_is_word pass0 (ta_cons (te_sl rfl (te_v 2) (to_some te_int) to_none) (ta_cons (te_v 2) ta_nil)) rfl (xCons_len (xCons_len xNil_len))))))).pt
    (ts_one (ts_ret te_bl))
    ts_nil)))
    (show PSs _ _ (tS W E0 g_law_t0) from (ts_cons (ts_for (g := g_law_2) PassesOwn.never (ti_rng1 (by rfl) Y.z_range (ta_cons te_int ta_nil)) (tg_name (i := 3) sc_law.nd)
    (ts_cons (ts_set (i := 2) sc_law.nd (te_call ((ok__law_signs Y).mono (by decide)) rfl hg hr (by rfl) Y.m__law_signs Y.F__law_signs.kp Y.b__law_signs pass0 (ta_cons (te_v 1) (ta_cons te_int ta_nil)) rfl (xCons_len (xCons_len xNil_len))))
    (ts_cons (ts_set (i := 4) sc_law.nd (te_join rfl te_str (te_new (tn_lc (own := [("_law_k", 8)]) sc_law.nd (ti_rng1 (by rfl) Y.z_range (ta_cons (te_call ((ok__law_draw Y).mono (by decide)) rfl hg hr (by rfl) Y.m__law_draw Y.F__law_draw.kp Y.b__law_draw pass0 (ta_cons (te_v 1) (ta_cons te_int ta_nil)) rfl (xCons_len (xCons_len xNil_len))) ta_nil)) (blkOk_by (N := ["_law_script", "_law_deck_here", "_law_signs_here", "_law_turn", "_law_row", "_law_some", "_law_it", "_law_was", "_law_k"]) (sc := defScope s_law) (own := [("_law_k", 8)]) (by decide +kernel)) (fun _ _ _ _ _ => (tg_name (i := 8) sc_law.nd)) (fun _ _ _ _ _ => tts_nil) (fun _ _ _ _ _ => (te_call ((ok__law_pick Y).mono (by decide)) rfl hg hr (by rfl) Y.m__law_pick Y.F__law_pick.kp Y.b__law_pick pass0 (ta_cons (te_v 1) (ta_cons (te_v 2) ta_nil)) rfl (xCons_len (xCons_len xNil_len))))))))
    (ts_cons (ts_set (i := 5) sc_law.nd (te_new (tn_lst (ta_cons (te_v 2) (ta_cons (te_sl rfl (te_v 2) to_none (to_some te_int)) (ta_cons (te_add rfl (te_v 2) (te_sl rfl (te_v 2) (to_some (te_neg te_int)) to_none)) (ta_cons (te_rev rfl (te_v 2)) (ta_cons (te_v 4) (ta_cons (te_call ((ok__law_bent Y).mono (by decide)) rfl hg hr (by rfl) Y.m__law_bent Y.F__law_bent.kp Y.b__law_bent pass0 (ta_cons (te_v 1) (ta_cons (te_v 2) ta_nil)) rfl (xCons_len (xCons_len xNil_len))) (ta_cons (te_call ((ok__law_bent Y).mono (by decide)) rfl hg hr (by rfl) Y.m__law_bent Y.F__law_bent.kp Y.b__law_bent pass0 (ta_cons (te_v 1) (ta_cons (te_v 4) ta_nil)) rfl (xCons_len (xCons_len xNil_len))) ta_nil))))))))))
    (ts_cons (ts_set (i := 5) sc_law.nd (te_add rfl (te_v 5) (te_new (tn_lst (ta_cons (te_call ((ok__law_bent Y).mono (by decide)) rfl hg hr (by rfl) Y.m__law_bent Y.F__law_bent.kp Y.b__law_bent pass0 (ta_cons (te_v 1) (ta_cons (te_call ((ok__law_bent Y).mono (by decide)) rfl hg hr (by rfl) Y.m__law_bent Y.F__law_bent.kp Y.b__law_bent pass0 (ta_cons (te_v 1) (ta_cons (te_v 4) ta_nil)) rfl (xCons_len (xCons_len xNil_len))) ta_nil)) rfl (xCons_len (xCons_len xNil_len))) (ta_cons (te_call ((ok__law_odd Y).mono (by decide)) rfl hg hr (by rfl) Y.m__law_odd Y.F__law_odd.kp Y.b__law_odd pass0 (ta_cons (te_v 1) ta_nil) rfl (xCons_len xNil_len)) (ta_cons (te_call ((ok__law_odd Y).mono (by decide)) rfl hg hr (by rfl) Y.m__law_odd Y.F__law_odd.kp Y.b__law_odd pass0 (ta_cons (te_v 1) ta_nil) rfl (xCons_len xNil_len)) (ta_cons (te_new (tn_listA rfl Y.z_list (ta_cons (te_v 2) ta_nil))) (ta_cons (te_tup (ta_cons (te_v 4) ta_nil)) ta_nil)))))))))
    (ts_one (ts_for (g := g_law_1) PassesOwn.never (ti_seq rfl (te_v 5)) (tg_name (i := 6) sc_law.nd)
    (ts_cons (ts_set (i := 7) sc_law.nd (te_reprD hg (room_of hr) rfl Y.z_repr (ta_cons (te_v 6) ta_nil)))
    (ts_cons (ts_if (tt_ne (room_of hr) rfl (te_repr hg (room_of hr) rfl Y.z_repr (ta_cons (te_new (tn_lst (ta_cons (te_call ((ok_is_letters Y).mono (by decide)) rfl hg hr (by rfl) Y.m_is_letters Y.F_is_letters.kp Y.b_is_letters pass0 (ta_cons (te_v 6) ta_nil) rfl (xCons_len xNil_len)) (ta_cons (te_callK ((ok_is_letters Y).mono (by decide)) rfl hg hr (by rfl) Y.m_is_letters Y.F_is_letters.kp (bindsK (ks := ["thing"]) (ps := ["thing"]) (is := [0]) Y.F_is_letters fun _ _ _ _ _ _ us hl => match us, hl with | [_], _ => rfl) pass0 (tk_cons (te_v 6) tk_nil) (xCons_len xNil_len) (fun l hl => match l, hl with | [_], _ => rfl)) ta_nil)))) ta_nil)) (te_repr hg (room_of hr) rfl Y.z_repr (ta_cons (te_mul rfl (te_new (tn_lst (ta_cons (te_call ((ok__law_is_signs Y).mono (by decide)) rfl hg hr (by rfl) Y.m__law_is_signs Y.F__law_is_signs.kp Y.b__law_is_signs pass0 (ta_cons (te_v 6) ta_nil) rfl (xCons_len xNil_len)) ta_nil))) te_int) ta_nil)))
    (ts_one (ts_ret te_bl))
    ts_nil)
    (ts_cons (ts_if (tt_ne (room_of hr) rfl (te_repr hg (room_of hr) rfl Y.z_repr (ta_cons (te_new (tn_lst (ta_cons (te_call ((ok_is_word Y).mono (by decide)) rfl hg hr (by rfl) Y.m_is_word Y.F_is_word.kp Y.b_is_word pass0 (ta_cons (te_v 2) (ta_cons (te_v 6) ta_nil)) rfl (xCons_len (xCons_len xNil_len))) (ta_cons (te_callK ((ok_is_word Y).mono (by decide)) rfl hg hr (by rfl) Y.m_is_word Y.F_is_word.kp (bindsK (ks := ["thing", "letters"]) (ps := ["letters", "thing"]) (is := [1, 0]) Y.F_is_word fun _ _ _ _ _ _ us hl => match us, hl with | [_, _], _ => rfl) pass0 (tk_cons (te_v 6) (tk_cons (te_v 2) tk_nil)) (xCons_len (xCons_len xNil_len)) (fun l hl => match l, hl with | [_, _], _ => rfl)) ta_nil)))) ta_nil)) (te_repr hg (room_of hr) rfl Y.z_repr (ta_cons (te_mul rfl (te_new (tn_lst (ta_cons (te_call ((ok__law_is_row Y).mono (by decide)) rfl hg hr (by rfl) Y.m__law_is_row Y.F__law_is_row.kp Y.b__law_is_row pass0 (ta_cons (te_v 2) (ta_cons (te_v 6) ta_nil)) rfl (xCons_len (xCons_len xNil_len))) ta_nil))) te_int) ta_nil)))
    (ts_one (ts_ret te_bl))
    ts_nil)
    (ts_one (ts_if (tt_ne (room_of hr) rfl (te_reprD hg (room_of hr) rfl Y.z_repr (ta_cons (te_v 6) ta_nil)) (te_v 7))
    (ts_one (ts_ret te_bl))
    ts_nil))))))))))))
    (ts_one (ts_ret te_bl)))))
end K_k01

open PySem PySem.Spec PyProof.Rows L2 TL
namespace K_k01
theorem draw_t1 {d : D} {n m : Int} {x : Sl} (h0 : 0 < n) : ∃ r en', g__law_draw_t1 [.val .dck, .val (.int n), .val (.int m), x] d = .ok (.ret (.int r), en') d ∧ 0 ≤ r ∧ r < n := by
  have c1 : smallI 40692 = true := rfl
  have c2 : smallI 69621 = true := rfl
  have c3 : smallI 39373 = true := rfl
  have c4 : ∀ z : Int, smallI (z % 2147483647) = true := fun z => small_of (by omega)
  unfold g__law_draw_t1 g__law_draw_t0
  simp [c1, c2, c3, c4, h0]
  refine ⟨Int.emod_nonneg _ (by omega), Int.emod_lt_of_pos _ h0⟩
theorem draw_t3 {d : D} {n : Int} {k : Nat} (h : Dok k d) (hk : k < 2 ^ 41) (h0 : 0 < n) (h1 : n < 1073741824) : ∃ r en' d', g__law_draw_t3 [.val .dck, .val (.int n), .no, .no] d = .ok (.ret (.int r), en') d' ∧ 0 ≤ r ∧ r < n ∧ Dok k d' := by
  obtain ⟨cells, blend, laps⟩ := d
  obtain ⟨hl, hc⟩ := h
  simp only at hl hc
  have e1 : smallI laps = true := small_of (by omega)
  have c1 : smallI 40093 = true := rfl
  rcases List.eq_nil_or_concat cells with rfl | ⟨ini, c, rfl⟩
  · obtain ⟨r, en', e, r0, r1⟩ := draw_t1 (d := ⟨[], blend, laps⟩) (n := n) (m := blend + 40093 * (laps : Int) * (laps : Int)) (x := .no) h0
    refine ⟨r, en', ⟨[], blend, laps⟩, ?_, r0, r1, ⟨hl, hc⟩⟩
    simp [g__law_draw_t3, g__law_draw_t2, e1, c1, e]
  · rw [List.concat_eq_append, List.length_append] at hc
    rw [List.concat_eq_append]
    have hi : ini.length < 16777216 := by omega
    have he : (ini ++ [c]).isEmpty = false := by cases ini <;> rfl
    by_cases hb : 1000000000000000000 ≤ c
    · refine ⟨c % n, [.val .dck, .val (.int n), .val (.int (blend + 40093 * (laps : Int) * (laps : Int))), .val (.int c)], ⟨ini ++ [c / n], blend, laps⟩, ?_, Int.emod_nonneg _ (by omega), Int.emod_lt_of_pos _ h0, ⟨hl, by simp at hc ⊢; omega⟩⟩
      simp [g__law_draw_t3, g__law_draw_t2, e1, c1, hb, h0, h1, hi, he]
    · obtain ⟨r, en', e, r0, r1⟩ := draw_t1 (d := ⟨ini, blend, laps⟩) (n := n) (m := blend + 40093 * (laps : Int) * (laps : Int) + c) (x := .val (.int c)) h0
      refine ⟨r, en', ⟨ini, blend, laps⟩, ?_, r0, r1, ⟨hl, by simp at hc ⊢; omega⟩⟩
      simp [g__law_draw_t3, g__law_draw_t2, e1, c1, hb, h0, h1, hi, he, e]
theorem draw_0 {n : Int} {c : List Int} {b : Int} {l : Nat} : g__law_draw [.val .dck, .val (.int n), .no, .no] ⟨c, b, l⟩ = g__law_draw_t3 [.val .dck, .val (.int n), .no, .no] ⟨c, b, l + 1⟩ := by
  have e2 : (0 : Int) ≤ (l : Int) + 1 := by omega
  have e3 : ((l : Int) + 1).toNat = l + 1 := by omega
  simp [g__law_draw, e2, e3]
theorem draw_ok {d : D} {n : Int} {k : Nat} (h : Dok k d) (hk : k < 2 ^ 40) (h0 : 0 < n) (h1 : n < 1073741824) : ∃ r d', m__law_draw [.dck, .int n] d = .ok (.int r) d' ∧ 0 ≤ r ∧ r < n ∧ Dok (k + 1) d' := by
  obtain ⟨c, b, l⟩ := d
  obtain ⟨r, en', d', e, r0, r1, h'⟩ := draw_t3 (d := ⟨c, b, l + 1⟩) (n := n) (k := k + 1) ⟨Nat.succ_le_succ h.1, h.2⟩ (by omega) h0 h1
  exact ⟨r, d', fn_ret (draw_0.trans e), r0, r1, h'⟩
end K_k01

open PySem PySem.Spec PyProof.Rows L2 TL
namespace K_k01
local macro_rules | `(tactic| walk_at "ev") => `(tactic| simp only [ev_pure, ev_bind, ev_ok, ev_exc, ev_badO, ev_bad, ev_opt, ev_opt0, ev_noX, ev_C, ev_Var, ev_Bin, ev_Un, ev_Test, ev_boolT, ev_If, ev_NotB, ev_AndB, ev_OrB, ev_And, ev_Or, ev_Yes, ev_Chain, ev_Nil, ev_Cons, ev_Tup, ev_Lst, ev_ToL, ev_Call, ev_CallN, ev_Items, ev_It, ev_It2, ev_Pk, ev_PkB, ev_Fn, ev_Sl, ev_Part, ev_NoPart, ev_Lc, ev_wipe0, ev_wipe1, ev_Seq, ev_Asg, ev_Expr, ev_Ret, ev_sIf, ev_Next, ev_For, ev_Frz, ev_New, ev_NewD, ev_App, ev_Ext, ev_Put, ev_withL, ev_Par, ev_Par3, ev_AsgG, ev_lstT, ev_frz, ev_Ot, ev_Otd, ev_get0, ev_getS, ev_set0, ev_setS, ev_retT, ev_retN, ev_add, ev_sub, ev_neg, ev_eqI, ev_neI, ev_eqS, ev_neS, ev_ltI, ev_leI, ev_gtI, ev_geI, ev_not, ev_isN, ev_notN, ev_ixL, ev_ixT, ev_lenL, ev_lenT, ev_toInt, ev_guI, ev_guS, ev_guB, ev_itL, ev_itT, ev_itS, ev_enu1L, ev_enu1T, ev_DkSet, ev_DkB, ev_DkN, ev_DkNe, ev_dckP, ev_DkPop, ev_DkApp, ev_cap0, ev_cap1, ev_cap2, ev_cap3, ev_cap4, ev_cap5, ev_addS, ev_addL, ev_addT, ev_mul, ev_fdiv, ev_mod, ev_pow, ev_lenS, Bool.true_or, Bool.or_true, Bool.false_or, Bool.or_false, Bool.and_true, Bool.true_and, Bool.and_false, Bool.false_and, Bool.not_true, Bool.not_false, if_true, if_false, Bool.false_eq_true, List.length_cons, List.length_nil, List.map_cons, List.map_nil, List.cons_append, List.nil_append, reduceIte, Nat.zero_add, Nat.reduceAdd, decide_true, decide_false, intT?, Option.map_some, Option.bind_some, strT?, T.isNon, and_self, true_and, and_true, ev_aTup, ev_aCons, ev_aNil, ev_aName, ev_While, ev_at0, ev_at1, ev_at2, ev_at3, slT_tup_to, slT_tup_from, slT_lst_to, slT_lst_from, slT_tup_init, slT_lst_init, ev_isiI, ev_isiB, ev_isiT, ev_isiL, ev_isiS, perm1, perm21, perm210, ev_OwnL, ev_OwnD, ev_Keys, ev_withD, ev_PutD, ev_Get2, ev_dicT, ev_keyI, ev_keyS, ev_int1, ev_ixDi, ev_ixDs, *])
theorem dok_mono {j k : Nat} {d : D} (h : Dok j d) (hk : j ≤ k) : Dok k d := ⟨Nat.le_trans h.1 hk, h.2⟩
/-- one of some -/
theorem pick_ok {d : D} {l : List T} {k : Nat} (h : Dok k d) (hk : k < 2 ^ 40) (h0 : 0 < l.length) (h1 : l.length < 1073741824) : ∃ x d', m__law_pick [.dck, .lst l] d = .ok x d' ∧ x ∈ l ∧ Dok (k + 1) d' := by
  obtain ⟨r, d', e, r0, r1, h'⟩ := draw_ok (n := (l.length : Nat)) h hk (by omega) (by omega)
  obtain ⟨i, rfl⟩ : ∃ i : Nat, r = (i : Int) := ⟨r.toNat, by omega⟩
  have hi : i < l.length := by omega
  have e2 : atI l (i : Int) = some l[i] := atI_nat' rfl (List.getElem?_eq_getElem hi)
  refine ⟨l[i], d', fn_ret (en := [.val .dck, .val (.lst l)]) (en' := [.val .dck, .val (.lst l)]) ?_, List.getElem_mem hi, h'⟩
  unfold g__law_pick
  clear h h' hk
  walk_at "ev"
theorem pick_str {d : D} {s : List Nat} {k : Nat} (h : Dok k d) (hk : k < 2 ^ 40) (h0 : 0 < s.length) (h1 : s.length ≤ 16777216) : ∃ c d', m__law_pick [.dck, strR s] d = .ok (strR [c]) d' ∧ c ∈ s ∧ Dok (k + 1) d' := by
  obtain ⟨r, d', e, r0, r1, h'⟩ := draw_ok (n := (s.length : Nat)) h hk (by omega) (by omega)
  obtain ⟨i, rfl⟩ : ∃ i : Nat, r = (i : Int) := ⟨r.toNat, by omega⟩
  have hi : i < s.length := by omega
  have e1 := ev_strLen h1
  have e2 : ixT (strR s) (.int (i : Int)) = some (strR [s[i]]) := by
    show (if (Str.length ⟨s.toArray⟩) ≤ 16777216 then (atI s (i : Int)).map fun c => T.str ⟨#[c]⟩ else none) = _
    rw [if_pos (by show s.length ≤ 16777216; exact h1), atI_nat' rfl (List.getElem?_eq_getElem hi)]
    rfl
  refine ⟨s[i], d', fn_ret (en := [.val .dck, .val (strR s)]) (en' := [.val .dck, .val (strR s)]) ?_, List.getElem_mem hi, h'⟩
  unfold g__law_pick
  clear h h' hk
  walk_at "ev"
end K_k01

open PySem PySem.Spec PyProof.Rows L2 TL
namespace K_k01
local macro_rules | `(tactic| walk_at "ev") => `(tactic| simp only [ev_pure, ev_bind, ev_ok, ev_exc, ev_badO, ev_bad, ev_opt, ev_opt0, ev_noX, ev_C, ev_Var, ev_Bin, ev_Un, ev_Test, ev_boolT, ev_If, ev_NotB, ev_AndB, ev_OrB, ev_And, ev_Or, ev_Yes, ev_Chain, ev_Nil, ev_Cons, ev_Tup, ev_Lst, ev_ToL, ev_Call, ev_CallN, ev_Items, ev_It, ev_It2, ev_Pk, ev_PkB, ev_Fn, ev_Sl, ev_Part, ev_NoPart, ev_Lc, ev_wipe0, ev_wipe1, ev_Seq, ev_Asg, ev_Expr, ev_Ret, ev_sIf, ev_Next, ev_For, ev_Frz, ev_New, ev_NewD, ev_App, ev_Ext, ev_Put, ev_withL, ev_Par, ev_Par3, ev_AsgG, ev_lstT, ev_frz, ev_Ot, ev_Otd, ev_get0, ev_getS, ev_set0, ev_setS, ev_retT, ev_retN, ev_add, ev_sub, ev_neg, ev_eqI, ev_neI, ev_eqS, ev_neS, ev_ltI, ev_leI, ev_gtI, ev_geI, ev_not, ev_isN, ev_notN, ev_ixL, ev_ixT, ev_lenL, ev_lenT, ev_toInt, ev_guI, ev_guS, ev_guB, ev_itL, ev_itT, ev_itS, ev_enu1L, ev_enu1T, ev_DkSet, ev_DkB, ev_DkN, ev_DkNe, ev_dckP, ev_DkPop, ev_DkApp, ev_cap0, ev_cap1, ev_cap2, ev_cap3, ev_cap4, ev_cap5, ev_addS, ev_addL, ev_addT, ev_mul, ev_fdiv, ev_mod, ev_pow, ev_lenS, Bool.true_or, Bool.or_true, Bool.false_or, Bool.or_false, Bool.and_true, Bool.true_and, Bool.and_false, Bool.false_and, Bool.not_true, Bool.not_false, if_true, if_false, Bool.false_eq_true, List.length_cons, List.length_nil, List.map_cons, List.map_nil, List.cons_append, List.nil_append, reduceIte, Nat.zero_add, Nat.reduceAdd, decide_true, decide_false, intT?, Option.map_some, Option.bind_some, strT?, T.isNon, and_self, true_and, and_true, ev_aTup, ev_aCons, ev_aNil, ev_aName, ev_While, ev_at0, ev_at1, ev_at2, ev_at3, slT_tup_to, slT_tup_from, slT_lst_to, slT_lst_from, slT_tup_init, slT_lst_init, ev_isiI, ev_isiB, ev_isiT, ev_isiL, ev_isiS, perm1, perm21, perm210, ev_OwnL, ev_OwnD, ev_Keys, ev_withD, ev_PutD, ev_Get2, ev_dicT, ev_keyI, ev_keyS, ev_int1, ev_ixDi, ev_ixDs, *])
theorem in_one (c : Nat) (s : List Nat) : inT (strR [c]) (strR s) = some (.bl (decide (c ∈ s))) := by
  show (some (!(Builtin.Str.occurrences (⟨s.toArray⟩ : Str) ⟨[c].toArray⟩ 0 (⟨s.toArray⟩ : Str).length 1).isEmpty)).map T.bl = _
  have h := StrLaws.found_one (⟨s.toArray⟩ : Str) c
  have e : (⟨[c].toArray⟩ : Str) = ⟨#[c]⟩ := rfl
  rw [e, h]
  simp
theorem notin_one (c : Nat) (s : List Nat) : notInT (strR [c]) (strR s) = some (.bl (!decide (c ∈ s))) := by
  have h := in_one c s
  unfold inT at h
  unfold notInT
  cases q : inB (strR [c]) (strR s) with
  | none => rw [q] at h; cases h
  | some b =>
    rw [q] at h
    simp only [Option.map_some, Option.some.injEq, T.bl.injEq] at h
    rw [← h]
    rfl
theorem all_bools {α : Type} (f : α → Bool) : ∀ xs : List α, allT [.lst (xs.map fun x => T.bl (f x))] = some (.bl (xs.all f)) := fun xs => by
  show (boolsOf (xs.map fun x => T.bl (f x))).map (fun ns => T.bl (ns.all id)) = _
  have : ∀ xs : List α, boolsOf (xs.map fun x => T.bl (f x)) = some (xs.map f) := by
    intro xs
    induction xs with
    | nil => rfl
    | cons x xs ih =>
      rw [List.map_cons]
      unfold boolsOf
      rw [ih]
      rfl
  rw [this, Option.map_some, List.all_map]
  rfl
/-- a value that is no text -/
def noS (t : T) : Prop := isiT "str" t = some (.bl false)
theorem isS (w : List Nat) : isiT "str" (strR w) = some (.bl true) := rfl
def wordB (s w : List Nat) : Bool := w.all fun c => decide (c ∈ s)
theorem is_word_ok {s w : List Nat} (hw : w.length ≤ 16777216) (d : D) : m_is_word [strR s, strR w] d = .ok (.bl (wordB s w)) d := by
  refine fn_ret (en := [.val (strR s), .val (strR w), .no]) (en' := [.val (strR s), .val (strR w), .no]) ?_
  have a1 := lcL_all (fun c : Nat => strR [c]) (a := aName 2) (f := xBin inT (xVar 2) (xVar 0)) (en := [.val (strR s), .val (strR w), .no]) (d := d) (fun c => .bl (decide (c ∈ s))) w fun c hc => by
    refine ⟨_, rfl, ?_⟩
    have := in_one c s
    walk_at "ev"
  have a2 := ev_strItems w
  have a3 := all_bools (fun c => decide (c ∈ s)) w
  have a4 := isS w
  have a5 : capL (w.map fun c => strR [c]).length () = some () := ev_cap (by rw [List.length_map]; exact hw)
  unfold g_is_word wordB
  generalize (w.all fun c => decide (c ∈ s)) = b at a3 ⊢
  generalize w.map (fun c => T.bl (decide (c ∈ s))) = bs at a1 a3
  generalize w.map (fun c => strR [c]) = its at a1 a2 a5
  clear hw
  walk_at "ev"
theorem is_word_no {s : List Nat} {t : T} (h : noS t) (d : D) : m_is_word [strR s, t] d = .ok (.bl false) d := by
  refine fn_ret (en := [.val (strR s), .val t, .no]) (en' := [.val (strR s), .val t, .no]) ?_
  have h : isiT "str" t = some (.bl false) := h
  unfold g_is_word
  walk_at "ev"
end K_k01

open PySem PySem.Spec PyProof.Rows L2 TL
namespace K_k01
local macro_rules | `(tactic| walk_at "ev") => `(tactic| simp only [ev_pure, ev_bind, ev_ok, ev_exc, ev_badO, ev_bad, ev_opt, ev_opt0, ev_noX, ev_C, ev_Var, ev_Bin, ev_Un, ev_Test, ev_boolT, ev_If, ev_NotB, ev_AndB, ev_OrB, ev_And, ev_Or, ev_Yes, ev_Chain, ev_Nil, ev_Cons, ev_Tup, ev_Lst, ev_ToL, ev_Call, ev_CallN, ev_Items, ev_It, ev_It2, ev_Pk, ev_PkB, ev_Fn, ev_Sl, ev_Part, ev_NoPart, ev_Lc, ev_wipe0, ev_wipe1, ev_Seq, ev_Asg, ev_Expr, ev_Ret, ev_sIf, ev_Next, ev_For, ev_Frz, ev_New, ev_NewD, ev_App, ev_Ext, ev_Put, ev_withL, ev_Par, ev_Par3, ev_AsgG, ev_lstT, ev_frz, ev_Ot, ev_Otd, ev_get0, ev_getS, ev_set0, ev_setS, ev_retT, ev_retN, ev_add, ev_sub, ev_neg, ev_eqI, ev_neI, ev_eqS, ev_neS, ev_ltI, ev_leI, ev_gtI, ev_geI, ev_not, ev_isN, ev_notN, ev_ixL, ev_ixT, ev_lenL, ev_lenT, ev_toInt, ev_guI, ev_guS, ev_guB, ev_itL, ev_itT, ev_itS, ev_enu1L, ev_enu1T, ev_DkSet, ev_DkB, ev_DkN, ev_DkNe, ev_dckP, ev_DkPop, ev_DkApp, ev_cap0, ev_cap1, ev_cap2, ev_cap3, ev_cap4, ev_cap5, ev_addS, ev_addL, ev_addT, ev_mul, ev_fdiv, ev_mod, ev_pow, ev_lenS, Bool.true_or, Bool.or_true, Bool.false_or, Bool.or_false, Bool.and_true, Bool.true_and, Bool.and_false, Bool.false_and, Bool.not_true, Bool.not_false, if_true, if_false, Bool.false_eq_true, List.length_cons, List.length_nil, List.map_cons, List.map_nil, List.cons_append, List.nil_append, reduceIte, Nat.zero_add, Nat.reduceAdd, decide_true, decide_false, intT?, Option.map_some, Option.bind_some, strT?, T.isNon, and_self, true_and, and_true, ev_aTup, ev_aCons, ev_aNil, ev_aName, ev_While, ev_at0, ev_at1, ev_at2, ev_at3, slT_tup_to, slT_tup_from, slT_lst_to, slT_lst_from, slT_tup_init, slT_lst_init, ev_isiI, ev_isiB, ev_isiT, ev_isiL, ev_isiS, perm1, perm21, perm210, ev_OwnL, ev_OwnD, ev_Keys, ev_withD, ev_PutD, ev_Get2, ev_dicT, ev_keyI, ev_keyS, ev_int1, ev_ixDi, ev_ixDs, *])
theorem eq_strs0 {ws : List (List Nat)} (h : ∀ w ∈ ws, Wo w) : TL.eqT (.lst (ws.map strR)) (.lst []) = some (.bl (decide (ws = []))) := by
  have := eqB_strs h (b := []) (fun _ h => (by cases h))
  unfold TL.eqT
  rw [show (T.lst []) = T.lst (([] : List (List Nat)).map strR) from rfl, this]
  rfl
theorem ones_eq (w : List Nat) : (w.map fun c => strR [c]) = (w.map fun c => [c]).map strR := by rw [List.map_map]; rfl
theorem ones_wo {w : List Nat} (h : Wo w) : ∀ v ∈ w.map (fun c => [c]), Wo v := fun v hv => by
  obtain ⟨c, hc, rfl⟩ := List.mem_map.mp hv
  intro x hx
  rw [List.mem_singleton.mp hx]
  exact h c hc
theorem wo_sub {w v : List Nat} (h : Wo w) (s : ∀ c ∈ v, c ∈ w) : Wo v := fun c hc => h c (s c hc)
theorem none_left {α β : Type} (w : List α) (p : α → Bool) (g : α → β) [DecidableEq β] : decide ((w.filter p).map g = []) = w.all fun c => !p c := by
  rw [Bool.eq_iff_iff]
  simp [List.filter_eq_nil_iff]
theorem is_row_ok {s w : List Nat} (hw : w.length ≤ 16777216) (h : Wo w) (d : D) : m__law_is_row [strR s, strR w] d = .ok (.bl (wordB s w)) d := by
  refine fn_ret (en := [.val (strR s), .val (strR w), .no]) (en' := [.val (strR s), .val (strR w), .no]) ?_
  have a1 := lcL_map (fun c : Nat => strR [c]) (a := aName 2) (fc := xTest (xBin notInT (xVar 2) (xVar 0))) (f := xVar 2) (en := [.val (strR s), .val (strR w), .no]) (d := d) (fun c => !decide (c ∈ s)) (fun c => strR [c]) w fun c hc => by
    refine ⟨_, rfl, ?_, fun _ => rfl⟩
    have := notin_one c s
    walk_at "ev"
  have a2 := ev_strItems w
  have a3 := eq_strs0 (ones_wo (wo_sub h (v := w.filter fun c => !decide (c ∈ s)) fun c hc => (List.mem_filter.mp hc).1))
  rw [← ones_eq, none_left] at a3
  have a4 := isS w
  have a5 : capL (w.map fun c => strR [c]).length () = some () := ev_cap (by rw [List.length_map]; exact hw)
  have e : (w.all fun c => !!decide (c ∈ s)) = wordB s w := by unfold wordB; congr 1; funext c; rw [Bool.not_not]
  rw [e] at a3
  unfold g__law_is_row
  generalize (w.filter fun c => !decide (c ∈ s)).map (fun c => strR [c]) = fl at a1 a3
  generalize w.map (fun c => strR [c]) = its at a1 a2 a5
  clear hw h e
  walk_at "ev"
theorem is_row_no {s : List Nat} {t : T} (h : noS t) (d : D) : m__law_is_row [strR s, t] d = .ok (.bl false) d := by
  refine fn_ret (en := [.val (strR s), .val t, .no]) (en' := [.val (strR s), .val t, .no]) ?_
  have h : isiT "str" t = some (.bl false) := h
  unfold g__law_is_row
  walk_at "ev"
theorem is_letters_no {t : T} (h : noS t) (d : D) : m_is_letters [t] d = .ok (.bl false) d := by
  refine fn_ret (en := [.val t, .no, .no, .no]) (en' := [.val t, .no, .no, .no]) ?_
  have h : isiT "str" t = some (.bl false) := h
  unfold g_is_letters
  walk_at "ev"
theorem is_signs_no {t : T} (h : noS t) (d : D) : m__law_is_signs [t] d = .ok (.bl false) d := by
  refine fn_ret (en := [.val t, .no, .no]) (en' := [.val t, .no, .no]) ?_
  have h : isiT "str" t = some (.bl false) := h
  unfold g__law_is_signs
  walk_at "ev"
def alpha : List Nat := (List.range 26).map fun k => 97 + k
def ascB (w : List Nat) : Bool := (w.zip (w.drop 1)).all fun p => decide ([p.1] < [p.2])
def lettersB (w : List Nat) : Bool := decide (2 ≤ w.length) && decide (w.length ≤ 5) && (w.all fun c => decide (c ∈ alpha)) && ascB w
theorem is_letters_ok {w : List Nat} (hw : w.length ≤ 16777216) (d : D) : m_is_letters [strR w] d = .ok (.bl (lettersB w)) d := by
  have a0 := ev_strLen hw
  have a4 := isS w
  by_cases h2 : 2 ≤ w.length ∧ w.length ≤ 5
  · have b1 : decide ((2 : Int) ≤ (w.length : Int)) = true := decide_eq_true (by omega)
    have b2 : decide ((w.length : Int) ≤ 5) = true := decide_eq_true (by omega)
    have a1 := lcL_all (fun c : Nat => strR [c]) (a := aName 3) (f := xBin inT (xVar 3) (xC (.str "abcdefghijklmnopqrstuvwxyz"))) (en := [.val (strR w), .no, .no, .no]) (d := d) (fun c => .bl (decide (c ∈ alpha))) w fun c hc => by
      refine ⟨_, rfl, ?_⟩
      have : inT (strR [c]) (.str "abcdefghijklmnopqrstuvwxyz") = some (.bl (decide (c ∈ alpha))) := in_one c alpha
      walk_at "ev"
    have a2 := ev_strItems w
    have a3 := all_bools (fun c => decide (c ∈ alpha)) w
    have a5 : capL (w.map fun c => strR [c]).length () = some () := ev_cap (by rw [List.length_map]; exact hw)
    have c1 := lcL_all (fun p : Nat × Nat => T.tup [strR [p.1], strR [p.2]]) (a := aTup (aCons (aName 1) (aCons (aName 2) aNil))) (f := xBin ltT (xVar 1) (xVar 2)) (en := [.val (strR w), .no, .no, .no]) (d := d) (fun p => .bl (decide ([p.1] < [p.2]))) (w.zip (w.drop 1)) fun p hp => by
      refine ⟨_, rfl, ?_⟩
      have := ev_strLt [p.1] [p.2]
      walk_at "ev"
    have c2 : zipT [strR w, strR (w.drop 1)] = some ((w.zip (w.drop 1)).map fun p => T.tup [strR [p.1], strR [p.2]]) := by
      show some (zipP (w.map fun c => strR [c]) ((w.drop 1).map fun c => strR [c])) = _
      unfold zipP
      rw [List.zip_map, List.map_map]
      rfl
    have c3 := all_bools (fun p : Nat × Nat => decide ([p.1] < [p.2])) (w.zip (w.drop 1))
    have c4 : slT (strR w) (some (1 : Int)) none = some (strR (w.drop 1)) := ev_strFrom 1 hw
    have c5 : capL ((w.zip (w.drop 1)).map fun p => T.tup [strR [p.1], strR [p.2]]).length () = some () := ev_cap (by rw [List.length_map, List.length_zip]; omega)
    have fin : lettersB w = ((w.all fun c => decide (c ∈ alpha)) && ascB w) := by
      unfold lettersB
      rw [decide_eq_true h2.1, decide_eq_true h2.2]
      rfl
    rw [fin]
    change allT [.lst ((w.zip (w.drop 1)).map fun x => T.bl (decide ([x.1] < [x.2])))] = some (.bl (ascB w)) at c3
    generalize ascB w = asc at c3 ⊢
    generalize (w.all fun c => decide (c ∈ alpha)) = al at a3 ⊢
    generalize w.map (fun c => T.bl (decide (c ∈ alpha))) = l1 at a1 a3
    generalize w.map (fun c => strR [c]) = l2 at a1 a2 a5
    generalize (w.zip (w.drop 1)).map (fun x => T.bl (decide ([x.1] < [x.2]))) = l3 at c1 c3
    generalize (w.zip (w.drop 1)).map (fun p => T.tup [strR [p.1], strR [p.2]]) = l4 at c1 c2 c5
    generalize w.drop 1 = w1 at c2 c4
    generalize w.length = n at a0 b1 b2
    clear h2 fin hw
    refine fn_ret (en := [.val (strR w), .no, .no, .no]) (en' := [.val (strR w), .no, .no, .no]) ?_
    unfold g_is_letters g_is_letters_t0
    cases al with
    | true => walk_at "ev"
    | false => walk_at "ev"
  · have fin : lettersB w = false := by
      unfold lettersB
      by_cases h : 2 ≤ w.length
      · have : ¬ w.length ≤ 5 := fun z => h2 ⟨h, z⟩
        rw [decide_eq_false this]
        simp
      · rw [decide_eq_false h]
        rfl
    rw [fin]
    refine fn_ret (en := [.val (strR w), .no, .no, .no]) (en' := [.val (strR w), .no, .no, .no]) ?_
    unfold g_is_letters
    by_cases h : 2 ≤ w.length
    · have b1 : decide ((2 : Int) ≤ (w.length : Int)) = true := decide_eq_true (by omega)
      have b2 : decide ((w.length : Int) ≤ 5) = false := decide_eq_false (by omega)
      clear h2 fin hw h
      generalize w.length = n at a0 b1 b2
      walk_at "ev"
    · have b1 : decide ((2 : Int) ≤ (w.length : Int)) = false := decide_eq_false (by omega)
      clear h2 fin hw h
      generalize w.length = n at a0 b1
      walk_at "ev"
def upB (w : List Nat) : Bool := (List.range (w.length - 1)).all fun k => decide (w.getD k 0 < w.getD (k + 1) 0)
def signsB (w : List Nat) : Bool := decide (2 ≤ w.length) && decide (w.length ≤ 5) && (w.all fun c => decide (97 ≤ c) && decide (c ≤ 122)) && upB w
theorem one_lt (a b : Nat) : decide ([a] < [b]) = decide (a < b) := decide_eq_decide.mpr (by rw [List.cons_lt_cons_iff]; simp)
theorem getD_ix {w : List Nat} {k : Nat} (h : k < w.length) (hw : w.length ≤ 16777216) : ixT (strR w) (.int (k : Int)) = some (strR [w.getD k 0]) :=
  ev_strIx hw (by rw [List.getD_eq_getElem?_getD, List.getElem?_eq_getElem h]; rfl)
theorem eq_ints0 (ns : List Nat) (h : ns.length ≤ 100) : TL.eqT (.lst (ns.map natT)) (.lst []) = some (.bl (decide (ns = []))) := by
  cases ns with
  | nil => rfl
  | cons n ns =>
    have hp : ∀ l : List Nat, pyL (l.map natT) = some (l.map fun (n : Nat) => PyData.int (n : Int)) := by
      intro l
      induction l with
      | nil => rfl
      | cons n l ih => rw [List.map_cons, List.map_cons]; unfold pyL; rw [ih]; rfl
    have lay : ∀ l : List Nat, PyData.canLayAll0 (l.map fun (n : Nat) => PyData.int (n : Int)) = true := by
      intro l
      induction l with
      | nil => simp only [List.map_nil, PyData.canLayAll0]
      | cons n l ih => rw [List.map_cons]; simp only [PyData.canLayAll0, PyData.canLay0, ih, Bool.and_self]
    have dep : ∀ l : List Nat, PyData.depthAll (l.map fun (n : Nat) => PyData.int (n : Int)) ≤ 1 := by
      intro l
      induction l with
      | nil => simp only [List.map_nil, PyData.depthAll]; omega
      | cons n l ih => rw [List.map_cons]; simp only [PyData.depthAll, PyData.depth]; omega
    have sh : ∀ l : List Nat, SeqAt.shaped (.list (l.map fun (n : Nat) => PyData.int (n : Int))) = true := fun l => by
      have := dep l
      unfold SeqAt.shaped
      simp only [PyData.canLay0, PyData.depth, lay l, Bool.true_and]
      exact decide_eq_true (by omega)
    unfold TL.eqT
    show (match (T.lst ((n :: ns).map natT)).py, (T.lst []).py with
      | some d, some e => if SeqAt.shaped d && SeqAt.shaped e then some (PyData.eqv d e) else none
      | _, _ => none).map T.bl = _
    have e0 : (T.lst []).py = some (.list (([] : List Nat).map fun (n : Nat) => PyData.int (n : Int))) := rfl
    rw [e0]
    simp only [T.py, hp, Option.map_some, sh, Bool.and_self, if_true, PyData.eqv]
    rfl
theorem is_signs_ok {w : List Nat} (hw : w.length ≤ 16777216) (h : Wo w) (d : D) : m__law_is_signs [strR w] d = .ok (.bl (signsB w)) d := by
  have a0 := ev_strLen hw
  have a4 := isS w
  by_cases h2 : 2 ≤ w.length ∧ w.length ≤ 5
  · have b1 : decide ((1 : Int) < (w.length : Int)) = true := decide_eq_true (by omega)
    have b2 : decide ((w.length : Int) < 6) = true := decide_eq_true (by omega)
    have a1 := lcL_map (fun c : Nat => strR [c]) (a := aName 2) (fc := xNotB (xTest (xChain leT leT (xC (.str "a")) (xVar 2) (xC (.str "z"))))) (f := xVar 2) (en := [.val (strR w), .no, .no]) (d := d) (fun c => !(decide (97 ≤ c) && decide (c ≤ 122))) (fun c => strR [c]) w fun c hc => by
      refine ⟨_, rfl, ?_, fun _ => rfl⟩
      have s1 : leT (.str "a") (strR [c]) = some (.bl (decide (97 ≤ c))) := by
        refine (ev_strLe [97] [c]).trans ?_
        rw [one_lt, ← decide_not]
        exact congrArg (fun z => some (T.bl z)) (decide_eq_decide.mpr (by omega))
      have s2 : leT (strR [c]) (.str "z") = some (.bl (decide (c ≤ 122))) := by
        refine (ev_strLe [c] [122]).trans ?_
        rw [one_lt, ← decide_not]
        exact congrArg (fun z => some (T.bl z)) (decide_eq_decide.mpr (by omega))
      cases q : decide (97 ≤ c) with
      | true =>
        rw [q] at s1
        clear q
        walk_at "ev"
      | false =>
        rw [q] at s1
        clear q
        walk_at "ev"
    have a2 := ev_strItems w
    have a3 := eq_strs0 (ones_wo (wo_sub h (v := w.filter fun c => !(decide (97 ≤ c) && decide (c ≤ 122))) fun c hc => (List.mem_filter.mp hc).1))
    have a3n := ne_strs0 (a := (w.filter fun c => !(decide (97 ≤ c) && decide (c ≤ 122))).map fun c => [c]) (ones_wo (wo_sub h (v := w.filter fun c => !(decide (97 ≤ c) && decide (c ≤ 122))) fun c hc => (List.mem_filter.mp hc).1))
    rw [← ones_eq, none_left] at a3n
    have a5 : capL (w.map fun c => strR [c]).length () = some () := ev_cap (by rw [List.length_map]; exact hw)
    have r2 : rng2 [.int 1, .int (w.length : Int)] = some ((List.range (w.length - 1)).map fun (k : Nat) => T.int ((1 + k : Nat) : Int)) := rng2_nat (i := 1) (n := w.length - 1) (by omega) (by omega)
    have r3 : capL ((List.range (w.length - 1)).map fun (k : Nat) => T.int ((1 + k : Nat) : Int)).length () = some () := ev_cap (by rw [List.length_map, List.length_range]; omega)
    have c1 := lcL_map (fun k : Nat => T.int ((1 + k : Nat) : Int)) (a := aName 1) (fc := xNotB (xTest (xBin ltT (xBin ixT (xVar 0) (xBin subT (xVar 1) (xC (.int 1)))) (xBin ixT (xVar 0) (xVar 1))))) (f := xVar 1) (en := [.val (strR w), .no, .no]) (d := d) (fun k => !decide (w.getD k 0 < w.getD (k + 1) 0)) (fun k => natT (1 + k)) (List.range (w.length - 1)) fun k hk => by
      have hk := List.mem_range.mp hk
      refine ⟨_, rfl, ?_, fun _ => rfl⟩
      have i1 : ixT (strR w) (.int (((1 + k : Nat) : Int) - 1)) = some (strR [w.getD k 0]) := by
        rw [show (((1 + k : Nat) : Int) - 1) = (k : Int) by omega]
        exact getD_ix (by omega) hw
      have i2 : ixT (strR w) (.int ((1 + k : Nat) : Int)) = some (strR [w.getD (k + 1) 0]) := by
        rw [show 1 + k = k + 1 by omega]
        exact getD_ix (by omega) hw
      have i3 : ltT (strR [w.getD k 0]) (strR [w.getD (k + 1) 0]) = some (.bl (decide (w.getD k 0 < w.getD (k + 1) 0))) := by
        refine (ev_strLt _ _).trans ?_
        rw [one_lt]
      generalize ((1 + k : Nat) : Int) = kk at i1 i2
      generalize decide (w.getD k 0 < w.getD (k + 1) 0) = b at i3 ⊢
      clear a1 a2 a3 a3n a5 r2 r3 a0 b1 b2
      walk_at "ev"
    have c2 := eq_ints0 (((List.range (w.length - 1)).filter fun k => !decide (w.getD k 0 < w.getD (k + 1) 0)).map fun k => 1 + k) (by
      rw [List.length_map]
      have := List.length_filter_le (fun k => !decide (w.getD k 0 < w.getD (k + 1) 0)) (List.range (w.length - 1))
      rw [List.length_range] at this
      omega)
    rw [List.map_map, none_left] at c2
    have fin : signsB w = ((w.all fun c => decide (97 ≤ c) && decide (c ≤ 122)) && upB w) := by
      unfold signsB
      rw [decide_eq_true h2.1, decide_eq_true h2.2]
      rfl
    rw [fin]
    have u1 : ((List.range (w.length - 1)).all fun c => !!decide (w.getD c 0 < w.getD (c + 1) 0)) = upB w := by unfold upB; simp only [Bool.not_not]
    rw [u1] at c2
    have u2 : (w.all fun c => !!(decide (97 ≤ c) && decide (c ≤ 122))) = (w.all fun c => decide (97 ≤ c) && decide (c ≤ 122)) := by simp only [Bool.not_not]
    rw [u2] at a3n
    change TL.eqT (.lst (((List.range (w.length - 1)).filter fun k => !decide (w.getD k 0 < w.getD (k + 1) 0)).map fun k => natT (1 + k))) (.lst []) = some (.bl (upB w)) at c2
    generalize upB w = up at c2 ⊢
    generalize (w.all fun c => decide (97 ≤ c) && decide (c ≤ 122)) = al at a3n ⊢
    generalize (w.filter fun c => !(decide (97 ≤ c) && decide (c ≤ 122))).map (fun c => strR [c]) = l1 at a1 a3n
    generalize w.map (fun c => strR [c]) = l2 at a1 a2 a5
    generalize (((List.range (w.length - 1)).filter fun k => !decide (w.getD k 0 < w.getD (k + 1) 0)).map fun k => natT (1 + k)) = l3 at c1 c2
    generalize ((List.range (w.length - 1)).map fun (k : Nat) => T.int ((1 + k : Nat) : Int)) = l4 at c1 r2 r3
    generalize w.length = n at a0 b1 b2 r2
    clear h2 fin hw h u1 u2 a3
    refine fn_ret (en := [.val (strR w), .no, .no]) (en' := [.val (strR w), .no, .no]) ?_
    unfold g__law_is_signs g__law_is_signs_t0
    cases al with
    | true => walk_at "ev"
    | false => walk_at "ev"
  · have fin : signsB w = false := by
      unfold signsB
      by_cases h : 2 ≤ w.length
      · have : ¬ w.length ≤ 5 := fun z => h2 ⟨h, z⟩
        rw [decide_eq_false this]
        simp
      · rw [decide_eq_false h]
        rfl
    rw [fin]
    refine fn_ret (en := [.val (strR w), .no, .no]) (en' := [.val (strR w), .no, .no]) ?_
    unfold g__law_is_signs
    by_cases h : 2 ≤ w.length
    · have b1 : decide ((1 : Int) < (w.length : Int)) = true := decide_eq_true (by omega)
      have b2 : decide ((w.length : Int) < 6) = false := decide_eq_false (by omega)
      clear h2 fin hw h
      generalize w.length = n at a0 b1 b2
      walk_at "ev"
    · have b1 : decide ((1 : Int) < (w.length : Int)) = false := decide_eq_false (by omega)
      clear h2 fin hw h
      generalize w.length = n at a0 b1
      walk_at "ev"
end K_k01

open PySem PySem.Spec PyProof.Rows L2 TL
namespace K_k01
local macro_rules | `(tactic| walk_at "ev") => `(tactic| simp only [ev_pure, ev_bind, ev_ok, ev_exc, ev_badO, ev_bad, ev_opt, ev_opt0, ev_noX, ev_C, ev_Var, ev_Bin, ev_Un, ev_Test, ev_boolT, ev_If, ev_NotB, ev_AndB, ev_OrB, ev_And, ev_Or, ev_Yes, ev_Chain, ev_Nil, ev_Cons, ev_Tup, ev_Lst, ev_ToL, ev_Call, ev_CallN, ev_Items, ev_It, ev_It2, ev_Pk, ev_PkB, ev_Fn, ev_Sl, ev_Part, ev_NoPart, ev_Lc, ev_wipe0, ev_wipe1, ev_Seq, ev_Asg, ev_Expr, ev_Ret, ev_sIf, ev_Next, ev_For, ev_Frz, ev_New, ev_NewD, ev_App, ev_Ext, ev_Put, ev_withL, ev_Par, ev_Par3, ev_AsgG, ev_lstT, ev_frz, ev_Ot, ev_Otd, ev_get0, ev_getS, ev_set0, ev_setS, ev_retT, ev_retN, ev_add, ev_sub, ev_neg, ev_eqI, ev_neI, ev_eqS, ev_neS, ev_ltI, ev_leI, ev_gtI, ev_geI, ev_not, ev_isN, ev_notN, ev_ixL, ev_ixT, ev_lenL, ev_lenT, ev_toInt, ev_guI, ev_guS, ev_guB, ev_itL, ev_itT, ev_itS, ev_enu1L, ev_enu1T, ev_DkSet, ev_DkB, ev_DkN, ev_DkNe, ev_dckP, ev_DkPop, ev_DkApp, ev_cap0, ev_cap1, ev_cap2, ev_cap3, ev_cap4, ev_cap5, ev_addS, ev_addL, ev_addT, ev_mul, ev_fdiv, ev_mod, ev_pow, ev_lenS, Bool.true_or, Bool.or_true, Bool.false_or, Bool.or_false, Bool.and_true, Bool.true_and, Bool.and_false, Bool.false_and, Bool.not_true, Bool.not_false, if_true, if_false, Bool.false_eq_true, List.length_cons, List.length_nil, List.map_cons, List.map_nil, List.cons_append, List.nil_append, reduceIte, Nat.zero_add, Nat.reduceAdd, decide_true, decide_false, intT?, Option.map_some, Option.bind_some, strT?, T.isNon, and_self, true_and, and_true, ev_aTup, ev_aCons, ev_aNil, ev_aName, ev_While, ev_at0, ev_at1, ev_at2, ev_at3, slT_tup_to, slT_tup_from, slT_lst_to, slT_lst_from, slT_tup_init, slT_lst_init, ev_isiI, ev_isiB, ev_isiT, ev_isiL, ev_isiS, perm1, perm21, perm210, ev_OwnL, ev_OwnD, ev_Keys, ev_withD, ev_PutD, ev_Get2, ev_dicT, ev_keyI, ev_keyS, ev_int1, ev_ixDi, ev_ixDs, *])
theorem alpha_mem (c : Nat) : decide (c ∈ alpha) = (decide (97 ≤ c) && decide (c ≤ 122)) := by
  rw [Bool.eq_iff_iff]
  unfold alpha
  simp only [decide_eq_true_eq, List.mem_map, List.mem_range, Bool.and_eq_true]
  constructor
  · rintro ⟨k, hk, rfl⟩
    omega
  · rintro ⟨h1, h2⟩
    exact ⟨c - 97, by omega, by omega⟩
theorem asc_up (w : List Nat) : ascB w = upB w := by
  unfold ascB upB
  rw [Bool.eq_iff_iff]
  simp only [List.all_eq_true, List.mem_range, one_lt, decide_eq_true_eq]
  constructor
  · intro h k hk
    have h1 : (w.zip (w.drop 1))[k]? = some (w.getD k 0, w.getD (k + 1) 0) := by
      rw [List.getElem?_zip_eq_some, List.getElem?_drop, List.getD_eq_getElem?_getD, List.getD_eq_getElem?_getD, show 1 + k = k + 1 by omega, List.getElem?_eq_getElem (show k < w.length by omega), List.getElem?_eq_getElem (show k + 1 < w.length by omega)]
      exact ⟨rfl, rfl⟩
    exact h _ (List.mem_of_getElem? h1)
  · intro h p hp
    obtain ⟨k, hk⟩ := List.mem_iff_getElem?.mp hp
    obtain ⟨a, b⟩ := p
    rw [List.getElem?_zip_eq_some, List.getElem?_drop, show 1 + k = k + 1 by omega] at hk
    obtain ⟨e1, e2⟩ := hk
    have l2 := (List.getElem?_eq_some_iff.mp e2).1
    have := h k (by omega)
    rw [List.getD_eq_getElem?_getD, List.getD_eq_getElem?_getD] at this
    simp only at e1 e2 ⊢
    rw [e1, e2] at this
    exact this
theorem letters_signs (w : List Nat) : lettersB w = signsB w := by
  unfold lettersB signsB
  rw [asc_up]
  simp only [alpha_mem]
/-- the law's values: all of them are shown alike, texts are plain -/
structure Ok (t : T) : Prop where
  sh : ∃ x, reprDT [t] = some (.str x)
  kd : (∃ w, t = strR w ∧ Wo w ∧ w.length ≤ 100000) ∨ noS t
theorem letters_any {t : T} (h : Ok t) (d : D) : ∃ b, m_is_letters [t] d = .ok (.bl b) d ∧ m__law_is_signs [t] d = .ok (.bl b) d := by
  rcases h.kd with ⟨w, rfl, hw, hl⟩ | h
  · refine ⟨lettersB w, is_letters_ok (by omega) d, ?_⟩
    rw [letters_signs]
    exact is_signs_ok (by omega) hw d
  · exact ⟨false, is_letters_no h d, is_signs_no h d⟩
theorem word_any {s : List Nat} {t : T} (h : Ok t) (d : D) : ∃ b, m_is_word [strR s, t] d = .ok (.bl b) d ∧ m__law_is_row [strR s, t] d = .ok (.bl b) d := by
  rcases h.kd with ⟨w, rfl, hw, hl⟩ | h
  · exact ⟨wordB s w, is_word_ok (by omega) d, is_row_ok (by omega) hw d⟩
  · exact ⟨false, is_word_no h d, is_row_no h d⟩
theorem ok_str {w : List Nat} (hw : Wo w) (hl : w.length ≤ 100000) : Ok (strR w) := by
  refine ⟨?_, .inl ⟨w, rfl, hw, hl⟩⟩
  show ∃ x, reprTL [strR w] = some (.str x)
  refine reprL_tm ?_ (by show w.length ≤ 260000; omega)
  show okStr ⟨w.toArray⟩ = true
  unfold okStr
  rw [Array.all_eq_true_iff_forall_mem]
  intro c hc
  have := hw c (by simpa using hc)
  simp
  omega
end K_k01

open PySem PySem.Spec PyProof.Rows L2 TL
namespace K_k01
local macro_rules | `(tactic| walk_at "ev") => `(tactic| simp only [ev_pure, ev_bind, ev_ok, ev_exc, ev_badO, ev_bad, ev_opt, ev_opt0, ev_noX, ev_C, ev_Var, ev_Bin, ev_Un, ev_Test, ev_boolT, ev_If, ev_NotB, ev_AndB, ev_OrB, ev_And, ev_Or, ev_Yes, ev_Chain, ev_Nil, ev_Cons, ev_Tup, ev_Lst, ev_ToL, ev_Call, ev_CallN, ev_Items, ev_It, ev_It2, ev_Pk, ev_PkB, ev_Fn, ev_Sl, ev_Part, ev_NoPart, ev_Lc, ev_wipe0, ev_wipe1, ev_Seq, ev_Asg, ev_Expr, ev_Ret, ev_sIf, ev_Next, ev_For, ev_Frz, ev_New, ev_NewD, ev_App, ev_Ext, ev_Put, ev_withL, ev_Par, ev_Par3, ev_AsgG, ev_lstT, ev_frz, ev_Ot, ev_Otd, ev_get0, ev_getS, ev_set0, ev_setS, ev_retT, ev_retN, ev_add, ev_sub, ev_neg, ev_eqI, ev_neI, ev_eqS, ev_neS, ev_ltI, ev_leI, ev_gtI, ev_geI, ev_not, ev_isN, ev_notN, ev_ixL, ev_ixT, ev_lenL, ev_lenT, ev_toInt, ev_guI, ev_guS, ev_guB, ev_itL, ev_itT, ev_itS, ev_enu1L, ev_enu1T, ev_DkSet, ev_DkB, ev_DkN, ev_DkNe, ev_dckP, ev_DkPop, ev_DkApp, ev_cap0, ev_cap1, ev_cap2, ev_cap3, ev_cap4, ev_cap5, ev_addS, ev_addL, ev_addT, ev_mul, ev_fdiv, ev_mod, ev_pow, ev_lenS, Bool.true_or, Bool.or_true, Bool.false_or, Bool.or_false, Bool.and_true, Bool.true_and, Bool.and_false, Bool.false_and, Bool.not_true, Bool.not_false, if_true, if_false, Bool.false_eq_true, List.length_cons, List.length_nil, List.map_cons, List.map_nil, List.cons_append, List.nil_append, reduceIte, Nat.zero_add, Nat.reduceAdd, decide_true, decide_false, intT?, Option.map_some, Option.bind_some, strT?, T.isNon, and_self, true_and, and_true, ev_aTup, ev_aCons, ev_aNil, ev_aName, ev_While, ev_at0, ev_at1, ev_at2, ev_at3, slT_tup_to, slT_tup_from, slT_lst_to, slT_lst_from, slT_tup_init, slT_lst_init, ev_isiI, ev_isiB, ev_isiT, ev_isiL, ev_isiS, perm1, perm21, perm210, ev_OwnL, ev_OwnD, ev_Keys, ev_withD, ev_PutD, ev_Get2, ev_dicT, ev_keyI, ev_keyS, ev_int1, ev_ixDi, ev_ixDs, *])
theorem ones_of {fs : List Nat} : ∀ ys : List T, (∀ y ∈ ys, ∃ c ∈ fs, y = strR [c]) → ∃ gs : List Nat, ys = gs.map (fun c => strR [c]) ∧ ∀ c ∈ gs, c ∈ fs
  | [], _ => ⟨[], rfl, fun _ h => (by cases h)⟩
  | y :: ys, h => by
    obtain ⟨c, hc, rfl⟩ := h y List.mem_cons_self
    obtain ⟨gs, rfl, hg⟩ := ones_of ys fun z hz => h z (List.mem_cons_of_mem _ hz)
    exact ⟨c :: gs, rfl, fun x hx => (List.mem_cons.mp hx).elim (fun e => e ▸ hc) (hg x)⟩
theorem sorted_ones {fs : List Nat} (hl : fs.length ≤ 1000) : ∃ gs : List Nat, sortedT [.lst (fs.map fun c => strR [c])] = some (gs.map fun c => strR [c]) ∧ gs.length = fs.length ∧ ∀ c ∈ gs, c ∈ fs := by
  have hc : sortC (fs.map fun c => strR [c]) = true := by
    unfold sortC
    simp only [Bool.and_eq_true, Bool.or_eq_true, List.all_eq_true, decide_eq_true_eq, alikeC, List.length_map]
    refine ⟨⟨⟨fun t ht => ?_, fun d hd e he => ?_⟩, .inr fun d hd => ?_⟩, by omega⟩
    · obtain ⟨c, _, rfl⟩ := List.mem_map.mp ht
      exact ⟨rfl, by show (PyData.str _).depth ≤ 64; simp only [PyData.depth]; omega⟩
    · rw [List.map_map] at hd he
      obtain ⟨c, _, rfl⟩ := List.mem_map.mp hd
      obtain ⟨c', _, rfl⟩ := List.mem_map.mp he
      show PySem.W.alike (.str _) (.str _) = true
      simp [PySem.W.alike]
    · rw [List.map_map] at hd
      obtain ⟨c, _, rfl⟩ := List.mem_map.mp hd
      rfl
  have hp := List.mergeSort_perm (fs.map fun c => strR [c]) leD
  obtain ⟨gs, e, hg⟩ := ones_of (fs := fs) ((fs.map fun c => strR [c]).mergeSort leD) fun y hy => by
    obtain ⟨c, hc, e⟩ := List.mem_map.mp (hp.mem_iff.mp hy)
    exact ⟨c, hc, e.symm⟩
  refine ⟨gs, ?_, ?_, hg⟩
  · show (if sortC (fs.map fun c => strR [c]) then some ((fs.map fun c => strR [c]).mergeSort leD) else none) = _
    rw [if_pos hc, e]
  · have := congrArg List.length e
    rw [List.length_mergeSort, List.length_map, List.length_map] at this
    exact this.symm
theorem erase_map {α β : Type} (f : α → β) : ∀ (l : List α) (i : Nat), (l.map f).eraseIdx i = (l.eraseIdx i).map f
  | [], _ => rfl
  | _ :: _, 0 => rfl
  | x :: l, i + 1 => by
    rw [List.map_cons, List.eraseIdx_cons_succ, List.eraseIdx_cons_succ, List.map_cons, erase_map f l i]
abbrev ones (l : List Nat) : List T := l.map fun c => strR [c]
abbrev sf (t : T) (ps fs : List Nat) (k : Sl) : En := [.val .dck, .val t, .own (.lst (ones ps)), .own (.lst (ones fs)), k]
theorem signs_0_ok {t : T} {ps fs : List Nat} {j : Nat} {d : D} (hd : Dok j d) (hj : j < 2 ^ 38) (h0 : 0 < ps.length) (h1 : ps.length ≤ 100) (h2 : fs.length ≤ 100) (k : Sl) :
    ∃ ps' c d', g__law_signs_0 (sf t ps fs k) d = .ok (.nx, sf t ps' (fs ++ [c]) k) d' ∧ ps'.length + 1 = ps.length ∧ (∀ x ∈ ps', x ∈ ps) ∧ c ∈ ps ∧ Dok (j + 1) d' := by
  obtain ⟨r, d1, e1, r0, r1, hd1⟩ := draw_ok (n := (ps.length : Int)) hd (by omega) (by omega) (by omega)
  obtain ⟨i, rfl⟩ : ∃ i : Nat, r = (i : Int) := ⟨r.toNat, by omega⟩
  have hi : i < ps.length := by omega
  have a1 : lenT [.lst (ones ps)] = some (.int (ps.length : Int)) := by rw [ev_lenL, List.length_map]
  have a2 : plIx (ones ps).length (.int (i : Int)) = some i := by
    show (if 0 ≤ (i : Int) ∧ (i : Int) < ((ones ps).length : Int) ∧ (ones ps).length ≤ 16777216 then some (i : Int).toNat else none) = _
    rw [List.length_map, if_pos ⟨by omega, by omega, by omega⟩, Int.toNat_natCast]
  have a3 : (ones ps)[i]? = some (strR [ps[i]]) := by rw [List.getElem?_map, List.getElem?_eq_getElem hi]; rfl
  have a4 : capL ((ones fs).length + 1) () = some () := ev_cap (by rw [List.length_map]; omega)
  have a5 : (ones ps).eraseIdx i = ones (ps.eraseIdx i) := erase_map _ _ _
  have a6 : ones fs ++ [strR [ps[i]]] = ones (fs ++ [ps[i]]) := by
    show fs.map (fun c => strR [c]) ++ _ = (fs ++ [ps[i]]).map (fun c => strR [c])
    rw [List.map_append]
    rfl
  refine ⟨ps.eraseIdx i, ps[i], d1, ?_, by rw [List.length_eraseIdx_of_lt hi]; omega, fun x hx => List.mem_of_mem_eraseIdx hx, List.getElem_mem hi, hd1⟩
  unfold g__law_signs_0 sAppPop
  clear hd hd1 h1 h2
  generalize ps[i] = c at a3 a6 ⊢
  walk_at "ev"
theorem law_signs_ok {j : Nat} {d : D} (hd : Dok j d) (hj : j < 2 ^ 37) : ∃ s d', m__law_signs [.dck, .int 5] d = .ok (strR s) d' ∧ 2 ≤ s.length ∧ s.length ≤ 5 ∧ Wo s ∧ Dok (j + 100) d' := by
  obtain ⟨r, d1, e1, r0, r1, h1⟩ := draw_ok (n := 4) hd (by omega) (by omega) (by omega)
  obtain ⟨m, rfl⟩ : ∃ k : Nat, r = (k : Int) := ⟨r.toNat, by omega⟩
  obtain ⟨en', d2, e2, ps, fs, k, rfl, hp, hf, hw, hw2, h2⟩ := forL_inv (fun (k : Nat) => T.int (k : Int)) (List.range (2 + m)) (a := aName 4) (g := g__law_signs_0)
    (fun pre en d' => ∃ ps fs k, en = sf (.int 5) ps fs k ∧ ps.length + pre.length = 10 ∧ fs.length = pre.length ∧ Wo ps ∧ Wo fs ∧ Dok (j + 1 + pre.length) d')
    (en := sf (.int 5) [97, 98, 99, 100, 101, 104, 109, 120, 121, 122] [] .no) (d := d1) ⟨_, _, _, rfl, rfl, rfl, by unfold Wo; decide, fun _ h => (by cases h), h1⟩ fun pre k post en d1 hx ⟨ps, fs, kk, he, hp, hf, hw, hw2, hd1⟩ => by
      subst he
      obtain ⟨hpl, hk⟩ := pre_range hx
      obtain ⟨ps', c, d', q, q1, q2, q3, hq⟩ := signs_0_ok (t := .int 5) (ps := ps) (fs := fs) hd1 (by omega) (by omega) (by omega) (by omega) (.val (.int (k : Int)))
      refine ⟨_, rfl, _, _, q, _, _, _, rfl, ?_, ?_, fun x hx => hw x (q2 x hx), fun x hx => ?_, ?_⟩
      · rw [List.length_append, List.length_singleton]; omega
      · rw [List.length_append, List.length_append, List.length_singleton, List.length_singleton]; omega
      · rcases List.mem_append.mp hx with z | z
        · exact hw2 x z
        · rw [List.mem_singleton.mp z]; exact hw c q3
      · rw [List.length_append, List.length_singleton]
        exact dok_mono hq (by omega)
  rw [List.length_range] at hp hf h2
  obtain ⟨gs, s1, s2, s3⟩ := sorted_ones (fs := fs) (by omega)
  refine ⟨gs, d2, fn_ret (en := [.val .dck, .val (.int 5), .no, .no, .no]) (en' := [.val .dck, .val (.int 5), .own (.lst (ones ps)), .val (.lst (ones fs)), k]) ?_, by omega, by omega, fun c hc => hw2 c (s3 c hc), dok_mono h2 (by omega)⟩
  have z1 : rng1 [.int (2 + (m : Int))] = some ((List.range (2 + m)).map fun (k : Nat) => T.int (k : Int)) := rng1_nat (n := 2 + m) (by omega)
  have z2 := join_ones (cs := gs) (by omega)
  have z3 : listAT [.str "abcdehmxyz"] = some (ones [97, 98, 99, 100, 101, 104, 109, 120, 121, 122]) := rfl
  have z4 : ∀ x : Str, strT? (.str x) = some x := fun _ => rfl
  have z5 := @ev_Join
  replace e1 : m__law_draw [.dck, .int (5 - 1)] d = .ok (.int (m : Int)) d1 := e1
  clear hd h1 h2 hw hw2 hp hf s2 s3 r0 r1
  generalize (gs.map fun c => strR [c]) = gl at s1 z2
  replace e2 : forL (aName 4) g__law_signs_0 ((List.range (2 + m)).map fun (k : Nat) => T.int (k : Int)) [.val .dck, .val (.int 5), .own (.lst (ones [97, 98, 99, 100, 101, 104, 109, 120, 121, 122])), .own (.lst []), .no] d1 = .ok (.nx, sf (.int 5) ps fs k) d2 := e2
  generalize ones [97, 98, 99, 100, 101, 104, 109, 120, 121, 122] = pool at e2 z3
  unfold g__law_signs g__law_signs_t0 sPar2N
  walk_at "ev"
theorem ev_strMid {l : List Nat} (j k : Nat) (h : l.length ≤ 16777216) : slT (strR l) (some (j : Int)) (some (k : Int)) = some (strR ((l.take k).drop j)) := by
  unfold strR
  show (if (⟨l.toArray⟩ : Str).length ≤ 16777216 then _ else _) = _
  rw [strR_len, if_pos h]
  unfold cutS
  rw [strR_len, HT.sIx_nat, HT.sIx_nat]
  congr 3
  rw [List.toList_toArray, List.drop_take]
  by_cases hk : k ≤ l.length
  · by_cases hj : j ≤ l.length
    · rw [Nat.min_eq_left hk, Nat.min_eq_left hj]
    · rw [Nat.min_eq_left hk, Nat.min_eq_right (by omega), List.drop_of_length_le (Nat.le_refl _), List.drop_of_length_le (by omega), List.take_nil, List.take_nil]
  · by_cases hj : j ≤ l.length
    · rw [Nat.min_eq_right (by omega), Nat.min_eq_left hj, List.take_of_length_le (by rw [List.length_drop]; exact Nat.le_refl _), List.take_of_length_le (by rw [List.length_drop]; omega)]
    · rw [Nat.min_eq_right (by omega), Nat.min_eq_right (by omega), List.drop_of_length_le (Nat.le_refl _), List.drop_of_length_le (by omega), List.take_nil, List.take_nil]
theorem sadd {a b : List Nat} (h : a.length + b.length ≤ 16777216) : addT (strR a) (strR b) = some (strR (a ++ b)) := by
  rw [ev_strAdd]
  exact ev_cap h
theorem wo_app {a b : List Nat} (ha : Wo a) (hb : Wo b) : Wo (a ++ b) := fun c hc => (List.mem_append.mp hc).elim (ha c) (hb c)
theorem wo_take {a : List Nat} (ha : Wo a) (k : Nat) : Wo (a.take k) := fun c hc => ha c (List.mem_of_mem_take hc)
theorem wo_drop {a : List Nat} (ha : Wo a) (k : Nat) : Wo (a.drop k) := fun c hc => ha c (List.mem_of_mem_drop hc)
theorem rev_str {w : List Nat} (h : w.length ≤ 16777216) : revT (strR w) = some (strR w.reverse) := by
  show (if (⟨w.toArray⟩ : Str).length ≤ 16777216 then some (T.str ⟨w.toArray.toList.reverse.toArray⟩) else none) = _
  rw [strR_len, if_pos h]
  rfl
abbrev bf (w : List Nat) (k r : Nat) : En := [.val .dck, .val (strR w), .val (.int (k : Int)), .val (.int (r : Int))]
theorem bent_last {w : List Nat} (hw : Wo w) (hl : w.length ≤ 100000) {k r j : Nat} (h3 : 3 ≤ r) (hr : r < 5) (hk : k ≤ w.length) {d : D} (hd : Dok j d) (hj : j < 2 ^ 38) : ∃ v d' en', g__law_bent_t0 (bf w k r) d = .ok (.ret (strR v), en') d' ∧ Wo v ∧ v.length ≤ w.length + 3 ∧ Dok (j + 1) d' := by
  obtain ⟨x, d1, e1, hx, h1⟩ := pick_ok (l := ones [97, 98, 99, 120, 121, 122, 65, 90, 48, 57, 32, 126, 96, 123] ++ [.str "\n", .str "ab"]) hd (by omega) (by simp) (by simp)
  obtain ⟨u, rfl, hu, hul⟩ : ∃ u, x = strR u ∧ Wo u ∧ u.length ≤ 2 := by
    rcases List.mem_append.mp hx with hx | hx
    · obtain ⟨c, hc, rfl⟩ := List.mem_map.mp hx
      refine ⟨[c], rfl, fun y hy => ?_, by simp⟩
      rw [List.mem_singleton.mp hy]
      have : ∀ c ∈ [97, 98, 99, 120, 121, 122, 65, 90, 48, 57, 32, 126, 96, 123], c < 128 := by decide
      exact this c hc
    · simp only [List.mem_cons, List.not_mem_nil, or_false] at hx
      rcases hx with rfl | rfl
      · exact ⟨[10], rfl, by unfold Wo; decide, by simp⟩
      · exact ⟨[97, 98], rfl, by unfold Wo; decide, by simp⟩
  have a1 := ev_strTo (l := w) k (by omega)
  have a2 : slT (strR w) (some ((k : Int) + (r : Int) - 3)) none = some (strR (w.drop (k + r - 3))) := by
    rw [show ((k : Int) + (r : Int) - 3) = ((k + r - 3 : Nat) : Int) by omega]
    exact ev_strFrom (l := w) (k + r - 3) (by omega)
  have a3 := sadd (a := w.take k) (b := u) (by rw [List.length_take]; omega)
  have a4 := sadd (a := w.take k ++ u) (b := w.drop (k + r - 3)) (by rw [List.length_append, List.length_take, List.length_drop]; omega)
  have a5 : listAT [.str "abcxyzAZ09 ~`{"] = some (ones [97, 98, 99, 120, 121, 122, 65, 90, 48, 57, 32, 126, 96, 123]) := rfl
  have a6 : ∀ x : T, capL ((ones [97, 98, 99, 120, 121, 122, 65, 90, 48, 57, 32, 126, 96, 123]).length + 2) x = some x := fun x => ev_cap (by simp)
  have b1 : decide ((r : Int) = 2) = false := decide_eq_false (by omega)
  refine ⟨w.take k ++ u ++ w.drop (k + r - 3), d1, bf w k r, ?_, wo_app (wo_app (wo_take hw k) hu) (wo_drop hw _), by rw [List.length_append, List.length_append, List.length_take, List.length_drop]; omega, h1⟩
  clear hd h1 hw hu hul hk hr h3 hx hl
  generalize ones [97, 98, 99, 120, 121, 122, 65, 90, 48, 57, 32, 126, 96, 123] = pool at e1 a5 a6
  generalize w.take k ++ u ++ w.drop (k + r - 3) = v1 at a4 ⊢
  generalize w.take k ++ u = v2 at a3 a4
  generalize w.take k = v3 at a1 a3
  generalize w.drop (k + r - 3) = v4 at a2 a4
  unfold g__law_bent_t0
  walk_at "ev"
theorem law_bent_ok {w : List Nat} (hw : Wo w) (hl : w.length ≤ 100000) {j : Nat} {d : D} (hd : Dok j d) (hj : j < 2 ^ 37) : ∃ v d', m__law_bent [.dck, strR w] d = .ok (strR v) d' ∧ Wo v ∧ v.length ≤ w.length + 3 ∧ Dok (j + 3) d' := by
  obtain ⟨k0, d1, e1, k1, k2, h1⟩ := draw_ok (n := (w.length : Int) + 1) hd (by omega) (by omega) (by omega)
  obtain ⟨k, rfl⟩ : ∃ k : Nat, k0 = (k : Int) := ⟨k0.toNat, by omega⟩
  obtain ⟨r0, d2, e2, r1, r2, h2⟩ := draw_ok (n := 5) h1 (by omega) (by omega) (by omega)
  obtain ⟨r, rfl⟩ : ∃ k : Nat, r0 = (k : Int) := ⟨r0.toNat, by omega⟩
  have hk : k ≤ w.length := by omega
  have a0 := ev_strLen (l := w) (by omega)
  have i1 : ((k : Int) + 1) = ((k + 1 : Nat) : Int) := by omega
  have i2 : ((k : Int) + 2) = ((k + 2 : Nat) : Int) := by omega
  have t0 := ev_strTo (l := w) k (by omega)
  have t1 : slT (strR w) none (some ((k : Int) + 1)) = some (strR (w.take (k + 1))) := by rw [i1]; exact ev_strTo (l := w) (k + 1) (by omega)
  have f0 := ev_strFrom (l := w) k (by omega)
  have f1 : slT (strR w) (some ((k : Int) + 1)) none = some (strR (w.drop (k + 1))) := by rw [i1]; exact ev_strFrom (l := w) (k + 1) (by omega)
  have f2 : slT (strR w) (some ((k : Int) + 2)) none = some (strR (w.drop (k + 2))) := by rw [i2]; exact ev_strFrom (l := w) (k + 2) (by omega)
  have m2 : slT (strR w) (some (k : Int)) (some ((k : Int) + 2)) = some (strR ((w.take (k + 2)).drop k)) := by rw [i2]; exact ev_strMid (l := w) k (k + 2) (by omega)
  by_cases c0 : r = 0
  · have y0 : decide ((r : Int) = 0) = true := decide_eq_true (by omega)
    have s1 := sadd (a := w.take k) (b := w.drop (k + 1)) (by rw [List.length_take, List.length_drop]; omega)
    refine ⟨w.take k ++ w.drop (k + 1), d2, fn_ret (en := [.val .dck, .val (strR w), .no, .no]) (en' := bf w k r) ?_, wo_app (wo_take hw _) (wo_drop hw _), by rw [List.length_append, List.length_take, List.length_drop]; omega, dok_mono h2 (by omega)⟩
    clear hd h1 h2 hw hl hk i1 i2 t1 f0 f2 m2 r1 r2 k1 k2
    clear c0
    generalize w.take k ++ w.drop (k + 1) = v at s1 ⊢
    generalize w.take k = v1 at t0 s1
    generalize w.drop (k + 1) = v2 at f1 s1
    unfold g__law_bent g__law_bent_t2
    walk_at "ev"
  · have z0 : decide ((r : Int) = 0) = false := decide_eq_false (by omega)
    by_cases c1 : r = 1
    · have y1 : decide ((r : Int) = 1) = true := decide_eq_true (by omega)
      have s1 := sadd (a := w.take (k + 1)) (b := w.drop k) (by rw [List.length_take, List.length_drop]; omega)
      refine ⟨w.take (k + 1) ++ w.drop k, d2, fn_ret (en := [.val .dck, .val (strR w), .no, .no]) (en' := bf w k r) ?_, wo_app (wo_take hw _) (wo_drop hw _), by rw [List.length_append, List.length_take, List.length_drop]; omega, dok_mono h2 (by omega)⟩
      clear hd h1 h2 hw hl hk i1 i2 t0 f1 f2 m2 r1 r2 k1 k2
      clear c0 c1
      generalize w.take (k + 1) ++ w.drop k = v at s1 ⊢
      generalize w.take (k + 1) = v1 at t1 s1
      generalize w.drop k = v2 at f0 s1
      unfold g__law_bent g__law_bent_t2 g__law_bent_t1
      walk_at "ev"
    · have z1 : decide ((r : Int) = 1) = false := decide_eq_false (by omega)
      by_cases c2 : r = 2
      · have y2 : decide ((r : Int) = 2) = true := decide_eq_true (by omega)
        have s0 := rev_str (w := (w.take (k + 2)).drop k) (by rw [List.length_drop, List.length_take]; omega)
        have s1 := sadd (a := w.take k) (b := ((w.take (k + 2)).drop k).reverse) (by rw [List.length_take, List.length_reverse, List.length_drop, List.length_take]; omega)
        have s2 := sadd (a := w.take k ++ ((w.take (k + 2)).drop k).reverse) (b := w.drop (k + 2)) (by rw [List.length_append, List.length_take, List.length_reverse, List.length_drop, List.length_take, List.length_drop]; omega)
        refine ⟨w.take k ++ ((w.take (k + 2)).drop k).reverse ++ w.drop (k + 2), d2, fn_ret (en := [.val .dck, .val (strR w), .no, .no]) (en' := bf w k r) ?_, wo_app (wo_app (wo_take hw _) fun c hc => wo_drop (wo_take hw _) _ c (List.mem_reverse.mp hc)) (wo_drop hw _), by rw [List.length_append, List.length_append, List.length_take, List.length_reverse, List.length_drop, List.length_take, List.length_drop]; omega, dok_mono h2 (by omega)⟩
        clear hd h1 h2 hw hl hk i1 i2 t1 f0 f1 r1 r2 k1 k2
        clear c0 c1 c2
        generalize w.take k ++ ((w.take (k + 2)).drop k).reverse ++ w.drop (k + 2) = v at s2 ⊢
        generalize w.take k ++ ((w.take (k + 2)).drop k).reverse = v0 at s1 s2
        generalize ((w.take (k + 2)).drop k).reverse = v3 at s0 s1
        generalize (w.take (k + 2)).drop k = v4 at s0 m2
        generalize w.take k = v1 at t0 s1
        generalize w.drop (k + 2) = v2 at f2 s2
        unfold g__law_bent g__law_bent_t2 g__law_bent_t1 g__law_bent_t0
        walk_at "ev"
      · obtain ⟨v, d3, en', q, q1, q2, h3⟩ := bent_last hw hl (k := k) (r := r) (by omega) (by omega) hk h2 (by omega)
        refine ⟨v, d3, fn_ret (en := [.val .dck, .val (strR w), .no, .no]) (en' := en') ?_, q1, q2, dok_mono h3 (by omega)⟩
        clear hd h1 h2 h3 hw hl hk i1 i2 t0 t1 f0 f1 f2 m2 r1 r2 k1 k2 q1 q2
        unfold g__law_bent g__law_bent_t2 g__law_bent_t1
        walk_at "ev"
end K_k01

open PySem PySem.Spec PyProof.Rows L2 TL
namespace K_k01
local macro_rules | `(tactic| walk_at "ev") => `(tactic| simp only [ev_pure, ev_bind, ev_ok, ev_exc, ev_badO, ev_bad, ev_opt, ev_opt0, ev_noX, ev_C, ev_Var, ev_Bin, ev_Un, ev_Test, ev_boolT, ev_If, ev_NotB, ev_AndB, ev_OrB, ev_And, ev_Or, ev_Yes, ev_Chain, ev_Nil, ev_Cons, ev_Tup, ev_Lst, ev_ToL, ev_Call, ev_CallN, ev_Items, ev_It, ev_It2, ev_Pk, ev_PkB, ev_Fn, ev_Sl, ev_Part, ev_NoPart, ev_Lc, ev_wipe0, ev_wipe1, ev_Seq, ev_Asg, ev_Expr, ev_Ret, ev_sIf, ev_Next, ev_For, ev_Frz, ev_New, ev_NewD, ev_App, ev_Ext, ev_Put, ev_withL, ev_Par, ev_Par3, ev_AsgG, ev_lstT, ev_frz, ev_Ot, ev_Otd, ev_get0, ev_getS, ev_set0, ev_setS, ev_retT, ev_retN, ev_add, ev_sub, ev_neg, ev_eqI, ev_neI, ev_eqS, ev_neS, ev_ltI, ev_leI, ev_gtI, ev_geI, ev_not, ev_isN, ev_notN, ev_ixL, ev_ixT, ev_lenL, ev_lenT, ev_toInt, ev_guI, ev_guS, ev_guB, ev_itL, ev_itT, ev_itS, ev_enu1L, ev_enu1T, ev_DkSet, ev_DkB, ev_DkN, ev_DkNe, ev_dckP, ev_DkPop, ev_DkApp, ev_cap0, ev_cap1, ev_cap2, ev_cap3, ev_cap4, ev_cap5, ev_addS, ev_addL, ev_addT, ev_mul, ev_fdiv, ev_mod, ev_pow, ev_lenS, Bool.true_or, Bool.or_true, Bool.false_or, Bool.or_false, Bool.and_true, Bool.true_and, Bool.and_false, Bool.false_and, Bool.not_true, Bool.not_false, if_true, if_false, Bool.false_eq_true, List.length_cons, List.length_nil, List.map_cons, List.map_nil, List.cons_append, List.nil_append, reduceIte, Nat.zero_add, Nat.reduceAdd, decide_true, decide_false, intT?, Option.map_some, Option.bind_some, strT?, T.isNon, and_self, true_and, and_true, ev_aTup, ev_aCons, ev_aNil, ev_aName, ev_While, ev_at0, ev_at1, ev_at2, ev_at3, slT_tup_to, slT_tup_from, slT_lst_to, slT_lst_from, slT_tup_init, slT_lst_init, ev_isiI, ev_isiB, ev_isiT, ev_isiL, ev_isiS, perm1, perm21, perm210, ev_OwnL, ev_OwnD, ev_Keys, ev_withD, ev_PutD, ev_Get2, ev_dicT, ev_keyI, ev_keyS, ev_int1, ev_ixDi, ev_ixDs, *])
def ab900 : List Nat := (List.replicate 900 [97, 98]).flatten
theorem mul900 : mulT (.str "ab") (.int 900) = some (strR ab900) := by
  show (if 0 ≤ (900 : Int) ∧ (900 : Int) < 2 ^ 62 then capL (("ab" : Str).length * (900 : Int).toNat) (T.str (repT "ab" (900 : Int).toNat)) else none) = _
  rw [if_pos (by decide), ev_cap (by decide)]
  rfl
theorem wo900 : Wo ab900 := fun c hc => by
  obtain ⟨l, hl, hc⟩ := List.mem_flatten.mp hc
  rw [(List.mem_replicate.mp hl).2] at hc
  simp only [List.mem_cons, List.not_mem_nil, or_false] at hc
  omega
theorem len900 : ab900.length ≤ 100000 := by
  unfold ab900
  rw [List.length_flatten, List.map_replicate, List.sum_replicate_nat]
  decide
theorem ok_tm {t : T} (h : t.tm 20 = true) (hb : t.bk ≤ 260000) (hn : noS t) (hd : reprDT [t] = reprTL [t]) : Ok t := ⟨hd ▸ reprL_tm h hb, .inr hn⟩
def odds : List T := [.non, .bl true, .bl false, .int 0, .int 2, .int ((10 : Int) ^ (39 : Int).toNat), .str "", .str "a", .str "ab", .str "ba", .str "aa", .str "abcde", .str "abcdef", .str "Ab", .str "a1", .str "az", .str "a b"] ++
  [.str "yz", .str "abc\n", .tup [], .tup [.str "a", .str "b"], .lst [.str "a", .str "b"], .dic [], .dic [(.inr "a", .str "b")], .tup [.str "ab"], strR ab900, .str "zyxwv", .str "~", .str "az`"]
theorem odds_ok : ∀ t ∈ odds, Ok t := by
  intro t ht
  unfold odds at ht
  simp only [List.cons_append, List.nil_append, List.mem_cons, List.not_mem_nil, or_false] at ht
  have st : ∀ w : List Nat, (w.all fun c => decide (c < 128)) = true → w.length ≤ 100 → Ok (strR w) := fun w h hl => ok_str (fun c hc => of_decide_eq_true (List.all_eq_true.mp h c hc)) (by omega)
  rcases ht with rfl | rfl | rfl | rfl | rfl | rfl | rfl | rfl | rfl | rfl | rfl | rfl | rfl | rfl | rfl | rfl | rfl | rfl | rfl | rfl | rfl | rfl | rfl | rfl | rfl | rfl | rfl | rfl | rfl
  · exact ok_tm rfl (Nat.zero_le _) rfl rfl
  · exact ok_tm rfl (Nat.zero_le _) rfl rfl
  · exact ok_tm rfl (Nat.zero_le _) rfl rfl
  · exact ok_tm rfl (Nat.zero_le _) rfl rfl
  · exact ok_tm rfl (Nat.zero_le _) rfl rfl
  · exact ok_tm (tm_int (by decide +kernel)) (Nat.zero_le _) rfl rfl
  · exact st [] rfl (by decide)
  · exact st [97] rfl (by decide)
  · exact st [97, 98] rfl (by decide)
  · exact st [98, 97] rfl (by decide)
  · exact st [97, 97] rfl (by decide)
  · exact st [97, 98, 99, 100, 101] rfl (by decide)
  · exact st [97, 98, 99, 100, 101, 102] rfl (by decide)
  · exact st [65, 98] rfl (by decide)
  · exact st [97, 49] rfl (by decide)
  · exact st [97, 122] rfl (by decide)
  · exact st [97, 32, 98] rfl (by decide)
  · exact st [121, 122] rfl (by decide)
  · exact st [97, 98, 99, 10] rfl (by decide)
  · exact ok_tm rfl (Nat.zero_le _) rfl rfl
  · exact ok_tm (by decide +kernel) (by decide +kernel) rfl rfl
  · exact ok_tm (by decide +kernel) (by decide +kernel) rfl rfl
  · exact ⟨⟨_, rfl⟩, .inr rfl⟩
  · refine ⟨⟨(PyData.dict [(.str "a", .str "b")]).shown, ?_⟩, .inr rfl⟩
    show (if (PyData.dict [(.str "a", .str "b")]).showable && decide ((PyData.dict [(.str "a", .str "b")]).depth ≤ 64) && decide ((PyData.dict [(.str "a", .str "b")]).shown.length ≤ 16777216) then some (T.str (PyData.dict [(.str "a", .str "b")]).shown) else none) = _
    rw [if_pos (by decide +kernel)]
  · exact ok_tm (by decide +kernel) (by decide +kernel) rfl rfl
  · exact ok_str wo900 len900
  · exact st [122, 121, 120, 119, 118] rfl (by decide)
  · exact st [126] rfl (by decide)
  · exact st [97, 122, 96] rfl (by decide)
theorem law_odd_ok {j : Nat} {d : D} (hd : Dok j d) (hj : j < 2 ^ 38) : ∃ t d', m__law_odd [.dck] d = .ok t d' ∧ Ok t ∧ Dok (j + 1) d' := by
  obtain ⟨t, d1, e1, ht, h1⟩ := pick_ok (l := odds) hd (by omega) (by unfold odds; simp) (by unfold odds; simp)
  have a1 := mul900
  have a2 : ∀ x : List T, capL 17 x = some x := fun x => ev_cap (by decide)
  have a3 : ∀ x : List T, capL 12 x = some x := fun x => ev_cap (by decide)
  have a4 : ∀ x : T, capL 29 x = some x := fun x => ev_cap (by decide)
  have a5 : (0 : Int) ≤ 39 ∧ (39 : Int) ≤ 1000000 ∧ (10 : Int).natAbs < 2 ^ 64 := by decide
  refine ⟨t, d1, fn_ret (en := [.val .dck, .no]) (en' := [.val .dck, .val (.lst odds)]) ?_, odds_ok t ht, h1⟩
  unfold odds at e1 ⊢
  simp only [List.cons_append, List.nil_append] at e1
  clear hd h1 ht
  unfold g__law_odd g__law_odd_t0
  generalize strR ab900 = z at a1 e1 ⊢
  walk_at "ev"
end K_k01

open PySem PySem.Spec PyProof.Rows L2 TL
namespace K_k01
local macro_rules | `(tactic| walk_at "ev") => `(tactic| simp only [ev_pure, ev_bind, ev_ok, ev_exc, ev_badO, ev_bad, ev_opt, ev_opt0, ev_noX, ev_C, ev_Var, ev_Bin, ev_Un, ev_Test, ev_boolT, ev_If, ev_NotB, ev_AndB, ev_OrB, ev_And, ev_Or, ev_Yes, ev_Chain, ev_Nil, ev_Cons, ev_Tup, ev_Lst, ev_ToL, ev_Call, ev_CallN, ev_Items, ev_It, ev_It2, ev_Pk, ev_PkB, ev_Fn, ev_Sl, ev_Part, ev_NoPart, ev_Lc, ev_wipe0, ev_wipe1, ev_Seq, ev_Asg, ev_Expr, ev_Ret, ev_sIf, ev_Next, ev_For, ev_Frz, ev_New, ev_NewD, ev_App, ev_Ext, ev_Put, ev_withL, ev_Par, ev_Par3, ev_AsgG, ev_lstT, ev_frz, ev_Ot, ev_Otd, ev_get0, ev_getS, ev_set0, ev_setS, ev_retT, ev_retN, ev_add, ev_sub, ev_neg, ev_eqI, ev_neI, ev_eqS, ev_neS, ev_ltI, ev_leI, ev_gtI, ev_geI, ev_not, ev_isN, ev_notN, ev_ixL, ev_ixT, ev_lenL, ev_lenT, ev_toInt, ev_guI, ev_guS, ev_guB, ev_itL, ev_itT, ev_itS, ev_enu1L, ev_enu1T, ev_DkSet, ev_DkB, ev_DkN, ev_DkNe, ev_dckP, ev_DkPop, ev_DkApp, ev_cap0, ev_cap1, ev_cap2, ev_cap3, ev_cap4, ev_cap5, ev_addS, ev_addL, ev_addT, ev_mul, ev_fdiv, ev_mod, ev_pow, ev_lenS, Bool.true_or, Bool.or_true, Bool.false_or, Bool.or_false, Bool.and_true, Bool.true_and, Bool.and_false, Bool.false_and, Bool.not_true, Bool.not_false, if_true, if_false, Bool.false_eq_true, List.length_cons, List.length_nil, List.map_cons, List.map_nil, List.cons_append, List.nil_append, reduceIte, Nat.zero_add, Nat.reduceAdd, decide_true, decide_false, intT?, Option.map_some, Option.bind_some, strT?, T.isNon, and_self, true_and, and_true, ev_aTup, ev_aCons, ev_aNil, ev_aName, ev_While, ev_at0, ev_at1, ev_at2, ev_at3, slT_tup_to, slT_tup_from, slT_lst_to, slT_lst_from, slT_tup_init, slT_lst_init, ev_isiI, ev_isiB, ev_isiT, ev_isiL, ev_isiS, perm1, perm21, perm210, ev_OwnL, ev_OwnD, ev_Keys, ev_withD, ev_PutD, ev_Get2, ev_dicT, ev_keyI, ev_keyS, ev_int1, ev_ixDi, ev_ixDs, *])
theorem rep2 (b : Bool) : ∃ x, reprTL [.lst [.bl b, .bl b]] = some (.str x) := reprL_tm rfl (by show 2 ≤ _; omega)
theorem mul2 (b : Bool) : mulT (.lst [.bl b]) (.int 2) = some (.lst [.bl b, .bl b]) := by
  show (if 0 ≤ (2 : Int) ∧ (2 : Int) < 2 ^ 63 then capL ([T.bl b].length * (2 : Int).toNat) (T.lst (List.replicate (2 : Int).toNat [T.bl b]).flatten) else none) = _
  rw [if_pos (by decide), ev_cap (by show 1 * 2 ≤ _; omega)]
  rfl
abbrev lf (s : List Nat) (t r v i w k : Sl) : En := [.no, .val .dck, .val (strR s), t, r, v, i, w, k]
theorem law_1_ok {s : List Nat} {x : T} (h : Ok x) (t r v w k : Sl) (d : D) : ∃ w', g_law_1 (lf s t r v (.val x) w k) d = .ok (.nx, lf s t r v (.val x) w' k) d := by
  obtain ⟨y, e1⟩ := h.sh
  obtain ⟨b, e2, e3⟩ := letters_any h d
  obtain ⟨c, e4, e5⟩ := word_any (s := s) h d
  obtain ⟨y1, e6⟩ := rep2 b
  obtain ⟨y2, e7⟩ := rep2 c
  have m1 := mul2 b
  have m2 := mul2 c
  refine ⟨.val (.str y), ?_⟩
  clear h
  unfold g_law_1
  walk_at "ev"
theorem isS_last (w : List Nat) (h : w.length ≤ 16777216) (h0 : 0 < w.length) : slT (strR w) (some (-1 : Int)) none = some (strR (w.drop (w.length - 1))) := by
  unfold strR
  show (if (⟨w.toArray⟩ : Str).length ≤ 16777216 then _ else _) = _
  rw [strR_len, if_pos h]
  have e : cutS (⟨w.toArray⟩ : Str) (some (-1)) none = cutS (⟨w.toArray⟩ : Str) (some ((w.length - 1 : Nat) : Int)) none := by
    have q1 : HT.sIx w.length 0 (some (-1)) = w.length - 1 := by
      simp only [HT.sIx]
      rw [if_pos (by decide)]
      omega
    have q2 : HT.sIx w.length 0 (some ((w.length - 1 : Nat) : Int)) = w.length - 1 := by
      rw [HT.sIx_nat]
      omega
    unfold cutS
    rw [strR_len, q1, q2]
  rw [e]
  have := ev_strFrom (l := w) (w.length - 1) h
  unfold strR at this
  have t2 : (if (⟨w.toArray⟩ : Str).length ≤ 16777216 then some (T.str (cutS (⟨w.toArray⟩ : Str) (some ((w.length - 1 : Nat) : Int)) none)) else none) = some (T.str ⟨(w.drop (w.length - 1)).toArray⟩) := this
  rw [strR_len, if_pos h] at t2
  exact t2
theorem row_draw {s : List Nat} (h0 : 0 < s.length) (h1 : s.length ≤ 100) (hs : Wo s) {n j : Nat} {d : D} (hd : Dok j d) (hj : j < 2 ^ 38) (hn : n ≤ 100) {x3 x4 x5 x6 x7 : Sl} : ∃ w d', lcL (aName 8) xYes (xFn m__law_pick (xCons (xVar 1) (xCons (xVar 2) xNil))) [.no, .val .dck, .val (strR s), x3, x4, x5, x6, x7, .no] ((List.range n).map fun (k : Nat) => T.int (k : Int)) d = .ok (ones w) d' ∧ w.length = n ∧ Wo w ∧ Dok (j + n) d' := by
  obtain ⟨ys, d', e, hl, hq, h'⟩ := lcL_draw (fun (k : Nat) => T.int (k : Int)) (a := aName 8) (f := xFn m__law_pick (xCons (xVar 1) (xCons (xVar 2) xNil))) (en := [.no, .val .dck, .val (strR s), x3, x4, x5, x6, x7, .no]) (fun i d => Dok (j + i) d) (fun y => ∃ c ∈ s, y = strR [c]) (List.range n) 0 d hd fun x k d hx hk hdk => by
    rw [List.length_range] at hk
    obtain ⟨c, d1, e1, hc, hd1⟩ := pick_str (s := s) hdk (by omega) h0 (by omega)
    refine ⟨_, rfl, strR [c], d1, ?_, ⟨c, hc, rfl⟩, dok_mono hd1 (by omega)⟩
    clear hdk hd1 hc hs
    walk_at "ev"
  obtain ⟨w, rfl, hw⟩ := ones_of ys hq
  rw [List.length_map, List.length_range] at hl
  rw [List.length_range, Nat.zero_add] at h'
  exact ⟨w, d', e, hl, fun c hc => hs c (hw c hc), h'⟩
theorem law_vals {s : List Nat} {d : D} (t r v k : Sl) : ∀ (xs : List T) (i w : Sl), (∀ x ∈ xs, Ok x) → ∃ i' w', forL (aName 6) g_law_1 xs (lf s t r v i w k) d = .ok (.nx, lf s t r v i' w' k) d
  | [], i, w, _ => ⟨i, w, rfl⟩
  | x :: xs, i, w, h => by
    obtain ⟨w1, e1⟩ := law_1_ok (s := s) (h x List.mem_cons_self) t r v w k d
    obtain ⟨i2, w2, e2⟩ := law_vals (s := s) (d := d) t r v k xs (.val x) w1 fun y hy => h y (List.mem_cons_of_mem _ hy)
    refine ⟨i2, w2, ?_⟩
    unfold forL
    have e0 : aName 6 x (lf s t r v i w k) = some (lf s t r v (.val x) w k) := rfl
    simp only [e0, ev_bind, ev_opt, e1, ev_ok]
    exact e2
theorem law_0_ok {s : List Nat} (h1 : lettersB s = true) (h2 : s.length ≤ 5) (h3 : wordB (s.drop 1) s = false) (t r v i w k : Sl) (d : D) : g_law_0 (lf s t r v i w k) d = .ok (.nx, lf s t r v i w k) d := by
  have a1 := is_letters_ok (w := s) (by omega) d
  rw [h1] at a1
  have a2 := rev_str (w := s) (by omega)
  have a3 : ∃ u, mulT (strR s.reverse) (.int 80) = some (strR u) ∧ u.length ≤ 1000 ∧ ∀ c ∈ u, c ∈ s := by
    refine ⟨(List.replicate 80 s.reverse).flatten, ?_, ?_, fun c hc => ?_⟩
    · show (if 0 ≤ (80 : Int) ∧ (80 : Int) < 2 ^ 62 then capL ((⟨s.reverse.toArray⟩ : Str).length * (80 : Int).toNat) (T.str (repT ⟨s.reverse.toArray⟩ (80 : Int).toNat)) else none) = _
      rw [if_pos (by decide), strR_len, List.length_reverse, ev_cap (by show s.length * 80 ≤ _; omega)]
      rfl
    · rw [List.length_flatten, List.map_replicate, List.sum_replicate_nat, List.length_reverse]
      omega
    · obtain ⟨l, hl, hc⟩ := List.mem_flatten.mp hc
      rw [(List.mem_replicate.mp hl).2] at hc
      exact List.mem_reverse.mp hc
  obtain ⟨u, a3, ul, us⟩ := a3
  have a4 := is_word_ok (s := s) (w := u) (by omega) d
  have a5 : wordB s u = true := List.all_eq_true.mpr fun c hc => decide_eq_true (us c hc)
  rw [a5] at a4
  have a6 := is_word_ok (s := s.drop 1) (w := s) (by omega) d
  rw [h3] at a6
  have a7 : slT (strR s) (some (1 : Int)) none = some (strR (s.drop 1)) := ev_strFrom 1 (by omega)
  clear h1 h2 h3 ul us a5
  generalize s.drop 1 = s1 at a6 a7
  generalize s.reverse = s2 at a2 a3
  unfold g_law_0
  walk_at "ev"
end K_k01

open PySem PySem.Spec PyProof.Rows L2 TL
namespace K_k01
local macro_rules | `(tactic| walk_at "ev") => `(tactic| simp only [ev_pure, ev_bind, ev_ok, ev_exc, ev_badO, ev_bad, ev_opt, ev_opt0, ev_noX, ev_C, ev_Var, ev_Bin, ev_Un, ev_Test, ev_boolT, ev_If, ev_NotB, ev_AndB, ev_OrB, ev_And, ev_Or, ev_Yes, ev_Chain, ev_Nil, ev_Cons, ev_Tup, ev_Lst, ev_ToL, ev_Call, ev_CallN, ev_Items, ev_It, ev_It2, ev_Pk, ev_PkB, ev_Fn, ev_Sl, ev_Part, ev_NoPart, ev_Lc, ev_wipe0, ev_wipe1, ev_Seq, ev_Asg, ev_Expr, ev_Ret, ev_sIf, ev_Next, ev_For, ev_Frz, ev_New, ev_NewD, ev_App, ev_Ext, ev_Put, ev_withL, ev_Par, ev_Par3, ev_AsgG, ev_lstT, ev_frz, ev_Ot, ev_Otd, ev_get0, ev_getS, ev_set0, ev_setS, ev_retT, ev_retN, ev_add, ev_sub, ev_neg, ev_eqI, ev_neI, ev_eqS, ev_neS, ev_ltI, ev_leI, ev_gtI, ev_geI, ev_not, ev_isN, ev_notN, ev_ixL, ev_ixT, ev_lenL, ev_lenT, ev_toInt, ev_guI, ev_guS, ev_guB, ev_itL, ev_itT, ev_itS, ev_enu1L, ev_enu1T, ev_DkSet, ev_DkB, ev_DkN, ev_DkNe, ev_dckP, ev_DkPop, ev_DkApp, ev_cap0, ev_cap1, ev_cap2, ev_cap3, ev_cap4, ev_cap5, ev_addS, ev_addL, ev_addT, ev_mul, ev_fdiv, ev_mod, ev_pow, ev_lenS, Bool.true_or, Bool.or_true, Bool.false_or, Bool.or_false, Bool.and_true, Bool.true_and, Bool.and_false, Bool.false_and, Bool.not_true, Bool.not_false, if_true, if_false, Bool.false_eq_true, List.length_cons, List.length_nil, List.map_cons, List.map_nil, List.cons_append, List.nil_append, reduceIte, Nat.zero_add, Nat.reduceAdd, decide_true, decide_false, intT?, Option.map_some, Option.bind_some, strT?, T.isNon, and_self, true_and, and_true, ev_aTup, ev_aCons, ev_aNil, ev_aName, ev_While, ev_at0, ev_at1, ev_at2, ev_at3, slT_tup_to, slT_tup_from, slT_lst_to, slT_lst_from, slT_tup_init, slT_lst_init, ev_isiI, ev_isiB, ev_isiT, ev_isiL, ev_isiS, perm1, perm21, perm210, ev_OwnL, ev_OwnD, ev_Keys, ev_withD, ev_PutD, ev_Get2, ev_dicT, ev_keyI, ev_keyS, ev_int1, ev_ixDi, ev_ixDs, *])
theorem tm_str {w : List Nat} (h : Wo w) (k : Nat) : (strR w).tm k = true := by
  show okStr ⟨w.toArray⟩ = true
  unfold okStr
  rw [Array.all_eq_true_iff_forall_mem]
  intro c hc
  have := h c (by simpa using hc)
  simp
  omega
theorem ok_ones {s : List Nat} (h : Wo s) (hl : s.length ≤ 100) : Ok (.lst (ones s)) := by
  refine ok_tm (tm_lst (tmL_all fun t ht => ?_)) ?_ rfl rfl
  · obtain ⟨c, hc, rfl⟩ := List.mem_map.mp ht
    exact tm_str (fun x hx => by rw [List.mem_singleton.mp hx]; exact h c hc) 19
  · show bkL (ones s) ≤ 260000
    have := bkL_le (l := ones s) (b := 1) fun t ht => by
      obtain ⟨c, hc, rfl⟩ := List.mem_map.mp ht
      exact Nat.le_refl _
    rw [List.length_map] at this
    omega
theorem ok_tup1 {w : List Nat} (h : Wo w) (hl : w.length ≤ 1000) : Ok (.tup [strR w]) := by
  refine ok_tm (tm_tup (tmL_all fun t ht => ?_)) ?_ rfl rfl
  · rw [List.mem_singleton.mp ht]
    exact tm_str h 19
  · show w.length + 1 + 0 ≤ 260000
    omega
theorem law_2_ok {j : Nat} {d : D} (hd : Dok j d) (hj : j < 2 ^ 35) (s0 t r v i w : Sl) : ∃ s r' v' i' w' d', g_law_2 [.no, .val .dck, s0, t, r, v, i, w, .no] d = .ok (.nx, [.no, .val .dck, s, t, r', v', i', w', .no]) d' ∧ Dok (j + 1000) d' := by
  obtain ⟨s, d1, e1, n0, n1, hs, h1⟩ := law_signs_ok hd (by omega)
  obtain ⟨m0, d2, e2, m1, m2, h2⟩ := draw_ok (n := 9) h1 (by omega) (by omega) (by omega)
  obtain ⟨m, rfl⟩ : ∃ k : Nat, m0 = (k : Int) := ⟨m0.toNat, by omega⟩
  obtain ⟨u, d3, e3, ul, hu, h3⟩ := row_draw (s := s) (by omega) (by omega) hs (n := m) h2 (by omega) (by omega) (x3 := t) (x4 := r) (x5 := v) (x6 := i) (x7 := w)
  obtain ⟨b1, d4, e4, hb1, l1, h4⟩ := law_bent_ok hs (by omega) h3 (by omega)
  obtain ⟨b2, d5, e5, hb2, l2, h5⟩ := law_bent_ok hu (by omega) h4 (by omega)
  obtain ⟨b3, d6, e6, hb3, l3, h6⟩ := law_bent_ok hu (by omega) h5 (by omega)
  obtain ⟨b4, d7, e7, hb4, l4, h7⟩ := law_bent_ok hb3 (by omega) h6 (by omega)
  obtain ⟨o1, d8, e8, ho1, h8⟩ := law_odd_ok h7 (by omega)
  obtain ⟨o2, d9, e9, ho2, h9⟩ := law_odd_ok h8 (by omega)
  have a1 := ev_strTo (l := s) 1 (by omega)
  have a2 := isS_last s (by omega) (by omega)
  have a3 := sadd (a := s) (b := s.drop (s.length - 1)) (by rw [List.length_drop]; omega)
  have a4 := rev_str (w := s) (by omega)
  have a5 : listAT [strR s] = some (ones s) := by
    show (if s.toArray.size ≤ 16777216 then some (sgs ⟨s.toArray⟩) else none) = _
    rw [if_pos (by rw [List.size_toArray]; omega)]
    rfl
  have z1 := rng1_nat (n := m) (by omega)
  have z2 := join_ones (cs := u) (by omega)
  have z3 : capL ((List.range m).map fun (k : Nat) => T.int (k : Int)).length () = some () := ev_cap (by rw [List.length_map, List.length_range]; omega)
  have z4 : ∀ x : Str, strT? (.str x) = some x := fun _ => rfl
  have z5 := @ev_Join
  have z6 : ∀ x : List T, capL 7 x = some x := fun x => ev_cap (by decide)
  have z7 : ∀ x : T, capL 12 x = some x := fun x => ev_cap (by decide)
  have a1' : slT (strR s) none (some (1 : Int)) = some (strR (s.take 1)) := a1
  have oks : ∀ x ∈ [strR s, strR (s.take 1), strR (s ++ s.drop (s.length - 1)), strR s.reverse, strR u, strR b1, strR b2, strR b4, o1, o2, .lst (ones s), .tup [strR u]], Ok x := by
    intro x hx
    simp only [List.mem_cons, List.not_mem_nil, or_false] at hx
    rcases hx with rfl | rfl | rfl | rfl | rfl | rfl | rfl | rfl | rfl | rfl | rfl | rfl
    · exact ok_str hs (by omega)
    · exact ok_str (wo_take hs _) (by rw [List.length_take]; omega)
    · exact ok_str (wo_app hs (wo_drop hs _)) (by rw [List.length_append, List.length_drop]; omega)
    · exact ok_str (fun c hc => hs c (List.mem_reverse.mp hc)) (by rw [List.length_reverse]; omega)
    · exact ok_str hu (by omega)
    · exact ok_str hb1 (by omega)
    · exact ok_str hb2 (by omega)
    · exact ok_str hb4 (by omega)
    · exact ho1
    · exact ho2
    · exact ok_ones hs (by omega)
    · exact ok_tup1 hu (by omega)
  obtain ⟨i', w', e10⟩ := law_vals (s := s) (d := d9) t (.val (strR u)) (.val (.lst [strR s, strR (s.take 1), strR (s ++ s.drop (s.length - 1)), strR s.reverse, strR u, strR b1, strR b2, strR b4, o1, o2, .lst (ones s), .tup [strR u]])) .no _ i w oks
  refine ⟨.val (strR s), .val (strR u), .val (.lst [strR s, strR (s.take 1), strR (s ++ s.drop (s.length - 1)), strR s.reverse, strR u, strR b1, strR b2, strR b4, o1, o2, .lst (ones s), .tup [strR u]]), i', w', d9, ?_, dok_mono h9 (by omega)⟩
  clear oks hd h1 h2 h3 h4 h5 h6 h7 h8 h9 hs hu hb1 hb2 hb3 hb4 ho1 ho2 l1 l2 l3 l4 ul m1 m2 n0 n1
  unfold g_law_2
  walk_at "ev"
theorem law_sixes (t r v i w k : Sl) (d : D) : ∀ (xs : List (List Nat)) (s0 : Sl), (∀ s ∈ xs, lettersB s = true ∧ s.length ≤ 5 ∧ wordB (s.drop 1) s = false) → ∃ s', forL (aName 2) g_law_0 (xs.map strR) [.no, .val .dck, s0, t, r, v, i, w, k] d = .ok (.nx, [.no, .val .dck, s', t, r, v, i, w, k]) d
  | [], s0, _ => ⟨s0, rfl⟩
  | x :: xs, s0, h => by
    obtain ⟨a, b, c⟩ := h x List.mem_cons_self
    have e1 := law_0_ok a b c t r v i w k d
    obtain ⟨s', e2⟩ := law_sixes t r v i w k d xs (.val (strR x)) fun y hy => h y (List.mem_cons_of_mem _ hy)
    refine ⟨s', ?_⟩
    rw [List.map_cons]
    unfold forL
    have e0 : aName 2 (strR x) [.no, .val .dck, s0, t, r, v, i, w, k] = some (lf x t r v i w k) := rfl
    simp only [e0, ev_bind, ev_opt, e1, ev_ok]
    exact e2
theorem law_true : ∀ d : D, Dok 0 d → ∃ d' en', g_law (lawE 9 1) d = .ok (.ret (.bl true), en') d' := fun d hd => by
  obtain ⟨s', e0⟩ := law_sixes .no .no .no .no .no .no d [[97, 98, 99, 100, 101], [102, 103, 104, 105, 106], [107, 108, 109, 110, 111], [112, 113, 114, 115, 116], [117, 118, 119, 120, 121], [120, 121, 122]] .no (by decide)
  have e0 : forL (aName 2) g_law_0 [.str "abcde", .str "fghij", .str "klmno", .str "pqrst", .str "uvwxy", .str "xyz"] (lawE 9 1) d = .ok (.nx, [.no, .val .dck, s', .no, .no, .no, .no, .no, .no]) d := e0
  obtain ⟨en', d1, e, s2, t, r, v, i, w, rfl, h1⟩ := forL_inv (fun (k : Nat) => T.int (k : Int)) (List.range 6) (a := aName 3) (g := g_law_2)
    (fun pre en d' => ∃ s t r v i w, en = [.no, .val .dck, s, t, r, v, i, w, .no] ∧ Dok (1000 * pre.length) d')
    (en := [.no, .val .dck, s', .no, .no, .no, .no, .no, .no]) (d := d) ⟨_, _, _, _, _, _, rfl, hd⟩ fun pre k post en d1 hx ⟨s, t, r, v, i, w, h2, hd1⟩ => by
      subst h2
      obtain ⟨hp, hk⟩ := pre_range hx
      obtain ⟨s2, r', v', i', w', d', q, hq⟩ := law_2_ok hd1 (by omega) s (.val (.int (k : Int))) r v i w
      refine ⟨_, rfl, _, _, q, _, _, _, _, _, _, rfl, ?_⟩
      rw [List.length_append, List.length_singleton]
      exact dok_mono hq (by omega)
  have r5 : rng1 [.int 6] = some ((List.range 6).map fun (k : Nat) => T.int (k : Int)) := rng1_nat (n := 6) (by decide)
  have z6 : ∀ x : List T, capL 6 x = some x := fun x => ev_cap (by decide)
  have z7 : ∀ x : T, capL 6 x = some x := fun x => ev_cap (by decide)
  refine ⟨d1, [.no, .val .dck, s2, t, r, v, i, w, .no], ?_⟩
  unfold g_law g_law_t0
  clear h1 hd
  walk_at "ev"
end K_k01

open PySem PySem.Spec PyProof.Rows L2 TL
namespace K_k01
section
variable {W : Wd} {P : Program} {w : World} {mg : Str → Option Value} {base : Heap}
theorem ok_law (Y : Fx W P w mg base) : CallS P w W.K mg base CX0 Y.a_law Y.d_law "_law_script" (spS W.K 63) := fun s H u v Q E env hb rv hsp =>
  fg_of Y.F_law sc_law (fun vs H Q E ⟨a, ns, h, _⟩ => by subst h; rfl) (fun cdv A outer s H vs Q E hg hr hsp => by
    obtain ⟨a, ns, rfl, hS, hn, q⟩ := hsp
    refine ⟨_, pss_cons (ps_set (i := 1) sc_law.nd rfl (by first | exact .inl rfl | exact .inr rfl) (pe_call ((ok__law_deck Y).mono (by decide)) hr (by rfl) Y.m__law_deck Y.F__law_deck.kp Y.b__law_deck .nil pass0 (pa_cons (pv 0) pa_nil))) (law_body Y hg hr), ?_⟩
    exact ⟨.ref a, rfl, a, ns, rfl, hS, hn, fun H' dk d hD h0 => law_rest2 hD rfl h0 law_true q⟩) callerA [] s H ⟨[u], []⟩ [u] [v] Q E rfl (k := 4) ⟨rfl, by decide, by decide⟩ env hb (.cons rv .nil) hsp
end
theorem all_mk {l : PySem.W.OpenLaw} {w : World} {K : PySem.W.Frag} {h : Heap} {mg : Str → Option Value} {fa : Addr} (X : K.In h) (G : h.Ns mainGlobals mg) (hfa : mg "law" = some (.ref fa))
    {f0 : Addr} {od0 an0 : Option Addr} {sl0 : Array (Option Value)} {oc0 kV0 dc0 pm0 cd0 ct0 : Value}
    {f1 : Addr} {od1 an1 : Option Addr} {sl1 : Array (Option Value)} {oc1 kV1 dc1 pm1 cd1 ct1 : Value}
    {f2 : Addr} {od2 an2 : Option Addr} {sl2 : Array (Option Value)} {oc2 kV2 dc2 pm2 cd2 ct2 : Value}
    {f3 : Addr} {od3 an3 : Option Addr} {sl3 : Array (Option Value)} {oc3 kV3 dc3 pm3 cd3 ct3 : Value}
    {f4 : Addr} {od4 an4 : Option Addr} {sl4 : Array (Option Value)} {oc4 kV4 dc4 pm4 cd4 ct4 : Value}
    {f5 : Addr} {od5 an5 : Option Addr} {sl5 : Array (Option Value)} {oc5 kV5 dc5 pm5 cd5 ct5 : Value}
    {f6 : Addr} {od6 an6 : Option Addr} {sl6 : Array (Option Value)} {oc6 kV6 dc6 pm6 cd6 ct6 : Value}
    {f7 : Addr} {od7 an7 : Option Addr} {sl7 : Array (Option Value)} {oc7 kV7 dc7 pm7 cd7 ct7 : Value}
    {f8 : Addr} {od8 an8 : Option Addr} {sl8 : Array (Option Value)} {oc8 kV8 dc8 pm8 cd8 ct8 : Value}
    {f9 : Addr} {od9 an9 : Option Addr} {sl9 : Array (Option Value)} {oc9 kV9 dc9 pm9 cd9 ct9 : Value}
    {f10 : Addr} {od10 an10 : Option Addr} {sl10 : Array (Option Value)} {oc10 kV10 dc10 pm10 cd10 ct10 : Value}
    (a0 : PySem.W.nsIn K mainGlobals "is_letters" = some (some (.ref f0))) (l0 : K.lookup f0 = some ⟨oc0, od0, .func (PySem.W.fnOf "is_letters" "is_letters" (defArgs s_is_letters) (defBody s_is_letters) (defScope s_is_letters) .none kV0 dc0 pm0 an0 cd0 ct0), sl0⟩) (c0 : PySem.W.codeIn K cd0 "is_letters" = true) (k0 : PySem.W.keepIn K (.ref f0) = true)
    (a1 : PySem.W.nsIn K mainGlobals "is_word" = some (some (.ref f1))) (l1 : K.lookup f1 = some ⟨oc1, od1, .func (PySem.W.fnOf "is_word" "is_word" (defArgs s_is_word) (defBody s_is_word) (defScope s_is_word) .none kV1 dc1 pm1 an1 cd1 ct1), sl1⟩) (c1 : PySem.W.codeIn K cd1 "is_word" = true) (k1 : PySem.W.keepIn K (.ref f1) = true)
    (a2 : PySem.W.nsIn K mainGlobals "_law_deck" = some (some (.ref f2))) (l2 : K.lookup f2 = some ⟨oc2, od2, .func (PySem.W.fnOf "_law_deck" "_law_deck" (defArgs s__law_deck) (defBody s__law_deck) (defScope s__law_deck) .none kV2 dc2 pm2 an2 cd2 ct2), sl2⟩) (c2 : PySem.W.codeIn K cd2 "_law_deck" = true) (k2 : PySem.W.keepIn K (.ref f2) = true)
    (a3 : PySem.W.nsIn K mainGlobals "_law_draw" = some (some (.ref f3))) (l3 : K.lookup f3 = some ⟨oc3, od3, .func (PySem.W.fnOf "_law_draw" "_law_draw" (defArgs s__law_draw) (defBody s__law_draw) (defScope s__law_draw) .none kV3 dc3 pm3 an3 cd3 ct3), sl3⟩) (c3 : PySem.W.codeIn K cd3 "_law_draw" = true) (k3 : PySem.W.keepIn K (.ref f3) = true)
    (a4 : PySem.W.nsIn K mainGlobals "_law_pick" = some (some (.ref f4))) (l4 : K.lookup f4 = some ⟨oc4, od4, .func (PySem.W.fnOf "_law_pick" "_law_pick" (defArgs s__law_pick) (defBody s__law_pick) (defScope s__law_pick) .none kV4 dc4 pm4 an4 cd4 ct4), sl4⟩) (c4 : PySem.W.codeIn K cd4 "_law_pick" = true) (k4 : PySem.W.keepIn K (.ref f4) = true)
    (a5 : PySem.W.nsIn K mainGlobals "_law_signs" = some (some (.ref f5))) (l5 : K.lookup f5 = some ⟨oc5, od5, .func (PySem.W.fnOf "_law_signs" "_law_signs" (defArgs s__law_signs) (defBody s__law_signs) (defScope s__law_signs) .none kV5 dc5 pm5 an5 cd5 ct5), sl5⟩) (c5 : PySem.W.codeIn K cd5 "_law_signs" = true) (k5 : PySem.W.keepIn K (.ref f5) = true)
    (a6 : PySem.W.nsIn K mainGlobals "_law_is_signs" = some (some (.ref f6))) (l6 : K.lookup f6 = some ⟨oc6, od6, .func (PySem.W.fnOf "_law_is_signs" "_law_is_signs" (defArgs s__law_is_signs) (defBody s__law_is_signs) (defScope s__law_is_signs) .none kV6 dc6 pm6 an6 cd6 ct6), sl6⟩) (c6 : PySem.W.codeIn K cd6 "_law_is_signs" = true) (k6 : PySem.W.keepIn K (.ref f6) = true)
    (a7 : PySem.W.nsIn K mainGlobals "_law_is_row" = some (some (.ref f7))) (l7 : K.lookup f7 = some ⟨oc7, od7, .func (PySem.W.fnOf "_law_is_row" "_law_is_row" (defArgs s__law_is_row) (defBody s__law_is_row) (defScope s__law_is_row) .none kV7 dc7 pm7 an7 cd7 ct7), sl7⟩) (c7 : PySem.W.codeIn K cd7 "_law_is_row" = true) (k7 : PySem.W.keepIn K (.ref f7) = true)
    (a8 : PySem.W.nsIn K mainGlobals "_law_odd" = some (some (.ref f8))) (l8 : K.lookup f8 = some ⟨oc8, od8, .func (PySem.W.fnOf "_law_odd" "_law_odd" (defArgs s__law_odd) (defBody s__law_odd) (defScope s__law_odd) .none kV8 dc8 pm8 an8 cd8 ct8), sl8⟩) (c8 : PySem.W.codeIn K cd8 "_law_odd" = true) (k8 : PySem.W.keepIn K (.ref f8) = true)
    (a9 : PySem.W.nsIn K mainGlobals "_law_bent" = some (some (.ref f9))) (l9 : K.lookup f9 = some ⟨oc9, od9, .func (PySem.W.fnOf "_law_bent" "_law_bent" (defArgs s__law_bent) (defBody s__law_bent) (defScope s__law_bent) .none kV9 dc9 pm9 an9 cd9 ct9), sl9⟩) (c9 : PySem.W.codeIn K cd9 "_law_bent" = true) (k9 : PySem.W.keepIn K (.ref f9) = true)
    (a10 : PySem.W.nsIn K mainGlobals "law" = some (some (.ref f10))) (l10 : K.lookup f10 = some ⟨oc10, od10, .func (PySem.W.fnOf "law" "law" (defArgs s_law) (defBody s_law) (defScope s_law) .none kV10 dc10 pm10 an10 cd10 ct10), sl10⟩) (c10 : PySem.W.codeIn K cd10 "law" = true) (k10 : PySem.W.keepIn K (.ref f10) = true)
    {t_ALPHABET : Tok} (v_ALPHABET : PySem.W.nsIn K mainGlobals "ALPHABET" = some (some (.str "abcdefghijklmnopqrstuvwxyz" t_ALPHABET)))
    {t_LEAST_LETTERS : Tok} (v_LEAST_LETTERS : PySem.W.nsIn K mainGlobals "LEAST_LETTERS" = some (some (.int 2 t_LEAST_LETTERS)))
    {t_MOST_LETTERS : Tok} (v_MOST_LETTERS : PySem.W.nsIn K mainGlobals "MOST_LETTERS" = some (some (.int 5 t_MOST_LETTERS)))
    (z_all : PySem.W.nsIn K mainGlobals "all" = some none)
    (z_int : PySem.W.nsIn K mainGlobals "int" = some none)
    (z_isinstance : PySem.W.nsIn K mainGlobals "isinstance" = some none)
    (z_len : PySem.W.nsIn K mainGlobals "len" = some none)
    (z_list : PySem.W.nsIn K mainGlobals "list" = some none)
    (z_range : PySem.W.nsIn K mainGlobals "range" = some none)
    (z_repr : PySem.W.nsIn K mainGlobals "repr" = some none)
    (z_sorted : PySem.W.nsIn K mainGlobals "sorted" = some none)
    (z_str : PySem.W.nsIn K mainGlobals "str" = some none)
    (z_zip : PySem.W.nsIn K mainGlobals "zip" = some none) :
    ∃ fd : FuncData, (∀ (s : Shared) (v : Value), BindsTo s fd ⟨[v], []⟩ [("_law_script", v)]) ∧ ∀ base : Heap, K.In base → base.Ns mainGlobals mg → CallS l.prog w K mg base CX0 fa fd "_law_script" (spS K 63) := by
  have e := hfa.symm.trans (PySem.W.mg_of X G a10)
  cases e
  have F0 := fun_mk (st := s_is_letters) l0 c0 k0
  have F1 := fun_mk (st := s_is_word) l1 c1 k1
  have F2 := fun_mk (st := s__law_deck) l2 c2 k2
  have F3 := fun_mk (st := s__law_draw) l3 c3 k3
  have F4 := fun_mk (st := s__law_pick) l4 c4 k4
  have F5 := fun_mk (st := s__law_signs) l5 c5 k5
  have F6 := fun_mk (st := s__law_is_signs) l6 c6 k6
  have F7 := fun_mk (st := s__law_is_row) l7 c7 k7
  have F8 := fun_mk (st := s__law_odd) l8 c8 k8
  have F9 := fun_mk (st := s__law_bent) l9 c9 k9
  have F10 := fun_mk (st := s_law) l10 c10 k10
  let W : Wd := ⟨K, fun _ => none, dkL⟩
  refine ⟨_, fun s v => ?_, fun base _ _ => ok_law (W := W) (P := l.prog) (w := w) (mg := mg) (base := base) {
    dk := rfl,
    a_is_letters := _, d_is_letters := _, F_is_letters := F0, b_is_letters := F0.binds fun _ _ _ _ _ _ us hl => match us, hl with | [_], _ => rfl, m_is_letters := PySem.W.mg_of X G a0,
    a_is_word := _, d_is_word := _, F_is_word := F1, b_is_word := F1.binds fun _ _ _ _ _ _ us hl => match us, hl with | [_, _], _ => rfl, m_is_word := PySem.W.mg_of X G a1,
    a__law_deck := _, d__law_deck := _, F__law_deck := F2, b__law_deck := F2.binds fun _ _ _ _ _ _ us hl => match us, hl with | [_], _ => rfl, m__law_deck := PySem.W.mg_of X G a2,
    a__law_draw := _, d__law_draw := _, F__law_draw := F3, b__law_draw := F3.binds fun _ _ _ _ _ _ us hl => match us, hl with | [_, _], _ => rfl, m__law_draw := PySem.W.mg_of X G a3,
    a__law_pick := _, d__law_pick := _, F__law_pick := F4, b__law_pick := F4.binds fun _ _ _ _ _ _ us hl => match us, hl with | [_, _], _ => rfl, m__law_pick := PySem.W.mg_of X G a4,
    a__law_signs := _, d__law_signs := _, F__law_signs := F5, b__law_signs := F5.binds fun _ _ _ _ _ _ us hl => match us, hl with | [_, _], _ => rfl, m__law_signs := PySem.W.mg_of X G a5,
    a__law_is_signs := _, d__law_is_signs := _, F__law_is_signs := F6, b__law_is_signs := F6.binds fun _ _ _ _ _ _ us hl => match us, hl with | [_], _ => rfl, m__law_is_signs := PySem.W.mg_of X G a6,
    a__law_is_row := _, d__law_is_row := _, F__law_is_row := F7, b__law_is_row := F7.binds fun _ _ _ _ _ _ us hl => match us, hl with | [_, _], _ => rfl, m__law_is_row := PySem.W.mg_of X G a7,
    a__law_odd := _, d__law_odd := _, F__law_odd := F8, b__law_odd := F8.binds fun _ _ _ _ _ _ us hl => match us, hl with | [_], _ => rfl, m__law_odd := PySem.W.mg_of X G a8,
    a__law_bent := _, d__law_bent := _, F__law_bent := F9, b__law_bent := F9.binds fun _ _ _ _ _ _ us hl => match us, hl with | [_, _], _ => rfl, m__law_bent := PySem.W.mg_of X G a9,
    a_law := _, d_law := _, F_law := F10, b_law := F10.binds fun _ _ _ _ _ _ us hl => match us, hl with | [_], _ => rfl, m_law := PySem.W.mg_of X G a10,
    c_ALPHABET := ⟨_, PySem.W.mg_of X G v_ALPHABET⟩,
    c_LEAST_LETTERS := ⟨_, PySem.W.mg_of X G v_LEAST_LETTERS⟩,
    c_MOST_LETTERS := ⟨_, PySem.W.mg_of X G v_MOST_LETTERS⟩,
    z_all := PySem.W.mg_none_of X G z_all,
    z_int := PySem.W.mg_none_of X G z_int,
    z_isinstance := PySem.W.mg_none_of X G z_isinstance,
    z_len := PySem.W.mg_none_of X G z_len,
    z_list := PySem.W.mg_none_of X G z_list,
    z_range := PySem.W.mg_none_of X G z_range,
    z_repr := PySem.W.mg_none_of X G z_repr,
    z_sorted := PySem.W.mg_none_of X G z_sorted,
    z_str := PySem.W.mg_none_of X G z_str,
    z_zip := PySem.W.mg_none_of X G z_zip }⟩
  exact .of_eq rfl
end K_k01
open PySem PySem.W PyProof.Rows
set_option maxHeartbeats 0 in
theorem PySem.Challenge.cw_amidread_k01_letters_and_words_of_any_va_holds : PySem.Challenge.rw_amidread_k01_letters_and_words_of_any_va.Holds := by
  w_on; o_law; k_head; (case hw => w_witness2)
  k_fill
  refine TL.law_walk (l := PySem.Challenge.rw_amidread_k01_letters_and_words_of_any_va) (n := 63) (x := "_law_script") (CX := fun _ => L2.CX0) rfl (by decide) rfl (fun w h Y => PySem.W.kIn_of Y) ?F (fun _ _ _ _ _ h => h)
  case F =>
    intro w mg fa h KX G hmg
    refine' K_k01.all_mk KX G hmg ?a0 ?l0 ?c0 ?k0 ?a1 ?l1 ?c1 ?k1 ?a2 ?l2 ?c2 ?k2 ?a3 ?l3 ?c3 ?k3 ?a4 ?l4 ?c4 ?k4 ?a5 ?l5 ?c5 ?k5 ?a6 ?l6 ?c6 ?k6 ?a7 ?l7 ?c7 ?k7 ?a8 ?l8 ?c8 ?k8 ?a9 ?l9 ?c9 ?k9 ?a10 ?l10 ?c10 ?k10 ?v_ALPHABET ?v_LEAST_LETTERS ?v_MOST_LETTERS ?z_all ?z_int ?z_isinstance ?z_len ?z_list ?z_range ?z_repr ?z_sorted ?z_str ?z_zip
    (case a0 => k_is); (case l0 => k_is); (case c0 => k_is); (case k0 => k_is); (case a1 => k_is); (case l1 => k_is); (case c1 => k_is); (case k1 => k_is); (case a2 => k_is); (case l2 => k_is); (case c2 => k_is); (case k2 => k_is); (case a3 => k_is); (case l3 => k_is); (case c3 => k_is); (case k3 => k_is); (case a4 => k_is); (case l4 => k_is); (case c4 => k_is); (case k4 => k_is); (case a5 => k_is); (case l5 => k_is); (case c5 => k_is); (case k5 => k_is); (case a6 => k_is); (case l6 => k_is); (case c6 => k_is); (case k6 => k_is); (case a7 => k_is); (case l7 => k_is); (case c7 => k_is); (case k7 => k_is); (case a8 => k_is); (case l8 => k_is); (case c8 => k_is); (case k8 => k_is); (case a9 => k_is); (case l9 => k_is); (case c9 => k_is); (case k9 => k_is); (case a10 => k_is); (case l10 => k_is); (case c10 => k_is); (case k10 => k_is); (case v_ALPHABET => k_is); (case v_LEAST_LETTERS => k_is); (case v_MOST_LETTERS => k_is); (case z_all => k_is); (case z_int => k_is); (case z_isinstance => k_is); (case z_len => k_is); (case z_list => k_is); (case z_range => k_is); (case z_repr => k_is); (case z_sorted => k_is); (case z_str => k_is); (case z_zip => k_is)
