import PyProof.Rows.All
import Wide.All
import OpenK.AllK
import Wide.FinOn
import KE.KStateDown
import HandS.ForMost
import HandS.Exc
import HandS.TryMany
import HandS.ExcOwn
import HandS.WordsExc
import HandS.Codes
import HandS.Conv
import HandS.IsInst
import HandS.Style
import HandS.Flow
import HandS.Walk
import HandS.Defaults
import HandS.CallSlots
import HandS.Head0
import HandS.Head1
import HandS.Head2
import HandS.HeadEnd
import HandS.HeadHook1
import HandS.HeadHook2
import KE.KxWritten
import KE.KRevSl
import KE.KDictWalk
import KE.GoesMore
import KE.GoesEnum
import PySem.Challenge.RW_foretoldforms_k17_whole_foretold_by_all
set_option linter.all false
set_option maxRecDepth 100000
/-! Plain mathematics: signed words, what is left when letters are struck out. No Python here. -/
namespace Ft

/-- a great letter for a small one, a small one for a great one -/
def sw (c : Nat) : Nat := if 97 ≤ c then c - 32 else c + 32
/-- the letters that the law's words are made of -/
def Sg (c : Nat) : Prop := c = 97 ∨ c = 98 ∨ c = 65 ∨ c = 66
def Sm (c : Nat) : Prop := c = 97 ∨ c = 98
theorem Sm.sg {c : Nat} (h : Sm c) : Sg c := by
  rcases h with h | h
  · exact .inl h
  · exact .inr (.inl h)
theorem sw_sg {c : Nat} (h : Sg c) : Sg (sw c) := by
  rcases h with rfl | rfl | rfl | rfl <;> simp [sw, Sg]
theorem sw_sw {c : Nat} (h : Sg c) : sw (sw c) = c := by
  rcases h with rfl | rfl | rfl | rfl <;> simp [sw]
theorem sw_ne {c : Nat} (h : Sg c) : sw c ≠ c := by
  rcases h with rfl | rfl | rfl | rfl <;> simp [sw]

/-- a stack of letters, the last one first -/
def push (st : List Nat) (c : Nat) : List Nat := match st with
  | [] => [c]
  | d :: r => if d = sw c then r else c :: d :: r
theorem push_nil (c : Nat) : push [] c = [c] := rfl
theorem push_cons (d : Nat) (r : List Nat) (c : Nat) : push (d :: r) c = if d = sw c then r else c :: d :: r := rfl
def act (w : List Nat) (st : List Nat) : List Nat := w.foldl push st
/-- what is left -/
def nf (w : List Nat) : List Nat := (act w []).reverse
def inv (w : List Nat) : List Nat := (w.map sw).reverse
def Wd (w : List Nat) : Prop := ∀ c ∈ w, Sg c
/-- no two that can be struck out -/
def Red : List Nat → Prop
  | [] => True
  | [c] => Sg c
  | c :: d :: r => Sg c ∧ d ≠ sw c ∧ Red (d :: r)
theorem red_nil : Red [] := True.intro
theorem Red.tail {c : Nat} {r : List Nat} (h : Red (c :: r)) : Red r := by
  cases r with
  | nil => exact red_nil
  | cons d r => exact h.2.2
theorem Red.head {c : Nat} {r : List Nat} (h : Red (c :: r)) : Sg c := by
  cases r with
  | nil => exact h
  | cons d r => exact h.1
theorem Red.wd : ∀ {st : List Nat}, Red st → Wd st
  | [], _ => fun _ h => by simp at h
  | c :: r, h => fun x hx => by
    rcases List.mem_cons.mp hx with e | e
    · rw [e]; exact h.head
    · exact Red.wd h.tail x e
theorem push_red {st : List Nat} {c : Nat} (h : Red st) (hc : Sg c) : Red (push st c) := by
  cases st with
  | nil => exact hc
  | cons d r =>
    rw [push_cons]
    by_cases e : d = sw c
    · rw [if_pos e]; exact h.tail
    · rw [if_neg e]; exact ⟨hc, e, h⟩
theorem push_inv {st : List Nat} {c : Nat} (h : Red st) (hc : Sg c) : push (push st c) (sw c) = st := by
  have e2 : sw (sw c) = c := sw_sw hc
  cases st with
  | nil =>
    rw [push_nil, push_cons, e2, if_pos rfl]
  | cons d r =>
    by_cases e : d = sw c
    · have e1 : push (d :: r) c = r := by rw [push_cons, if_pos e]
      rw [e1]
      cases r with
      | nil => show [sw c] = [d]; rw [e]
      | cons x r =>
        have hx : x ≠ sw d := h.2.1
        rw [e, e2] at hx
        rw [push_cons, e2, if_neg hx, e]
    · have e1 : push (d :: r) c = c :: d :: r := by rw [push_cons, if_neg e]
      rw [e1]
      rw [push_cons, e2, if_pos rfl]
theorem act_nil (st : List Nat) : act [] st = st := rfl
theorem act_cons (c : Nat) (w st : List Nat) : act (c :: w) st = act w (push st c) := rfl
theorem act_append (u v st : List Nat) : act (u ++ v) st = act v (act u st) := by unfold act; rw [List.foldl_append]
theorem act_snoc (u : List Nat) (c : Nat) (st : List Nat) : act (u ++ [c]) st = push (act u st) c := by rw [act_append] <;> rfl
theorem Wd.nil : Wd [] := fun _ h => by simp at h
theorem Wd.cons {c : Nat} {w : List Nat} (hc : Sg c) (h : Wd w) : Wd (c :: w) := fun x hx => by
  rcases List.mem_cons.mp hx with e | e
  · rw [e]; exact hc
  · exact h x e
theorem Wd.head {c : Nat} {w : List Nat} (h : Wd (c :: w)) : Sg c := h c List.mem_cons_self
theorem Wd.tail {c : Nat} {w : List Nat} (h : Wd (c :: w)) : Wd w := fun x hx => h x (List.mem_cons_of_mem _ hx)
theorem Wd.app {u v : List Nat} (h : Wd u) (k : Wd v) : Wd (u ++ v) := fun x hx => by
  rcases List.mem_append.mp hx with e | e
  · exact h x e
  · exact k x e
theorem Wd.rev {u : List Nat} (h : Wd u) : Wd u.reverse := fun x hx => h x (List.mem_reverse.mp hx)
theorem Wd.inv {u : List Nat} (h : Wd u) : Wd (inv u) := fun x hx => by
  unfold Ft.inv at hx
  obtain ⟨y, hy, e⟩ := List.mem_map.mp (List.mem_reverse.mp hx)
  rw [← e]
  exact sw_sg (h y hy)
theorem act_red : ∀ {w st : List Nat}, Wd w → Red st → Red (act w st)
  | [], _, _, h => h
  | c :: w, st, hw, h => by
    rw [act_cons]
    exact act_red hw.tail (push_red h hw.head)
theorem inv_cons (c : Nat) (w : List Nat) : inv (c :: w) = inv w ++ [sw c] := by unfold inv; rw [List.map_cons, List.reverse_cons]
theorem inv_inv : ∀ {w : List Nat}, Wd w → inv (inv w) = w
  | w, h => by
    unfold inv
    rw [← List.map_reverse, List.reverse_reverse, List.map_map]
    have : ∀ l : List Nat, Wd l → l.map (sw ∘ sw) = l := by
      intro l
      induction l with
      | nil => intro _; rfl
      | cons c r ih => intro hl; rw [List.map_cons, ih hl.tail, Function.comp_apply, sw_sw hl.head]
    exact this w h
theorem act_inv : ∀ {w st : List Nat}, Wd w → Red st → act (inv w) (act w st) = st
  | [], st, _, _ => rfl
  | c :: w, st, hw, h => by
    rw [inv_cons, act_snoc, act_cons, act_inv hw.tail (push_red h hw.head), push_inv h hw.head]
theorem act_inv' {w st : List Nat} (hw : Wd w) (h : Red st) : act w (act (inv w) st) = st := by
  have := act_inv (w := inv w) hw.inv h
  rw [inv_inv hw] at this
  exact this
theorem act_push {t st : List Nat} {c : Nat} (ht : Red t) (hc : Sg c) (h : Red st) : act (push t c).reverse st = push (act t.reverse st) c := by
  cases t with
  | nil => rfl
  | cons d r =>
    by_cases e : d = sw c
    · have e1 : push (d :: r) c = r := by rw [push_cons, if_pos e]
      rw [e1, List.reverse_cons, act_snoc]
      have hr : Red (act r.reverse st) := act_red ht.tail.wd.rev h
      have e3 : c = sw d := by rw [e, sw_sw hc]
      rw [e3, push_inv hr ht.head]
    · have e1 : push (d :: r) c = c :: d :: r := by rw [push_cons, if_neg e]
      rw [e1, List.reverse_cons, act_snoc]
theorem act_act : ∀ {w t st : List Nat}, Wd w → Red t → Red st → act (act w t).reverse st = act w (act t.reverse st)
  | [], _, _, _, _, _ => rfl
  | c :: w, t, st, hw, ht, h => by
    rw [act_cons, act_act hw.tail (push_red ht hw.head) h, act_push ht hw.head h, act_cons]
/-- a word does what its struck row does -/
theorem act_nf {w st : List Nat} (hw : Wd w) (h : Red st) : act (nf w) st = act w st := by
  unfold nf
  rw [act_act hw red_nil h]
  rfl
theorem act_self : ∀ {t : List Nat}, Red t → act t.reverse [] = t
  | [], _ => rfl
  | c :: r, h => by
    rw [List.reverse_cons, act_snoc, act_self h.tail]
    cases r with
    | nil => rfl
    | cons d r =>
      rw [push_cons, if_neg h.2.1]
/-- a struck row: its stack is a struck one -/
def Str1 (w : List Nat) : Prop := Red w.reverse
theorem Str1.wd {w : List Nat} (h : Str1 w) : Wd w := by
  have := (Red.wd h).rev
  rwa [List.reverse_reverse] at this
theorem Str1.act {w : List Nat} (h : Str1 w) : act w [] = w.reverse := by
  have := act_self h
  rwa [List.reverse_reverse] at this
theorem Str1.nf {w : List Nat} (h : Str1 w) : nf w = w := by
  unfold Ft.nf
  rw [h.act, List.reverse_reverse]
theorem nf_str {w : List Nat} (hw : Wd w) : Str1 (nf w) := by
  unfold Str1 nf
  rw [List.reverse_reverse]
  exact act_red hw red_nil
theorem nf_wd {w : List Nat} (hw : Wd w) : Wd (nf w) := (nf_str hw).wd
theorem str_nil : Str1 [] := red_nil
theorem red_small : ∀ {w : List Nat}, (∀ c ∈ w, Sm c) → Red w
  | [], _ => red_nil
  | [c], h => (h c (by simp)).sg
  | c :: d :: r, h => by
    refine ⟨(h c (by simp)).sg, ?_, red_small fun x hx => h x (List.mem_cons_of_mem _ hx)⟩
    have h1 := h c (by simp)
    have h2 := h d (by simp)
    rcases h1 with rfl | rfl <;> rcases h2 with rfl | rfl <;> simp [sw]
/-- a form is a struck row -/
theorem form_str {w : List Nat} (h : ∀ c ∈ w, Sm c) : Str1 w := red_small fun c hc => h c (List.mem_reverse.mp hc)
theorem push_len (st : List Nat) (c : Nat) : (push st c).length ≤ st.length + 1 := by
  cases st with
  | nil => simp [push]
  | cons d r =>
    rw [push_cons]
    by_cases e : d = sw c
    · rw [if_pos e, List.length_cons]; omega
    · rw [if_neg e, List.length_cons, List.length_cons]; omega
theorem act_len : ∀ (w st : List Nat), (act w st).length ≤ st.length + w.length
  | [], st => by simp [act]
  | c :: w, st => by
    have h1 := act_len w (push st c)
    have h2 := push_len st c
    rw [act_cons, List.length_cons]
    omega
theorem nf_len (w : List Nat) : (nf w).length ≤ w.length := by
  unfold nf
  have := act_len w []
  rw [List.length_reverse]
  simpa using this
theorem inv_len (w : List Nat) : (inv w).length = w.length := by unfold inv; simp
/-! ### what follows from S E = f -/
/-- the two readings of a told box -/
theorem end_of {s e f : List Nat} (hs : Str1 s) (he : Str1 e) (h : nf (s ++ e) = f) : nf (inv s ++ f) = e := by
  have hw : Wd (s ++ e) := hs.wd.app he.wd
  have r1 : Red (act (inv s) []) := act_red hs.wd.inv red_nil
  unfold nf
  rw [act_append, ← h, act_nf hw r1, act_append, act_inv' hs.wd red_nil, he.act, List.reverse_reverse]
theorem stem_of {s e f : List Nat} (hs : Str1 s) (he : Str1 e) (h : nf (s ++ e) = f) : nf (f ++ inv e) = s := by
  have hw : Wd (s ++ e) := hs.wd.app he.wd
  have r1 : Red (act s []) := act_red hs.wd red_nil
  unfold nf
  rw [act_append, ← h, act_nf hw red_nil, act_append, act_inv he.wd r1, hs.act, List.reverse_reverse]
/-- a way's turn, from a row to a column -/
theorem go_col {s e f : List Nat} (hs : Str1 s) (he : Str1 e) (h : nf (s ++ e) = f) : act f (act (inv s) []) = act e [] := by
  have hw : Wd (s ++ e) := hs.wd.app he.wd
  have r1 : Red (act (inv s) []) := act_red hs.wd.inv red_nil
  rw [← h, act_nf hw r1, act_append, act_inv' hs.wd red_nil]
/-- .. from a column to a row -/
theorem go_row {s e f : List Nat} (hs : Str1 s) (he : Str1 e) (h : nf (s ++ e) = f) : act (inv f) (act e []) = act (inv s) [] := by
  have hw : Wd (s ++ e) := hs.wd.app he.wd
  have r1 : Red (act (inv s) []) := act_red hs.wd.inv red_nil
  have wf : Wd f := by rw [← h]; exact nf_wd hw
  rw [← go_col hs he h, act_inv wf r1]

/-! ### levels: stems and endings by the told boxes -/
abbrev Told := List ((Nat × Nat) × List Nat)
mutual
/-- a row's stem is made from r's empty one -/
inductive DR (T : Told) (r : Nat) : Nat → List Nat → Prop
  | base : DR T r r []
  | row {i j : Nat} {e f : List Nat} : DC T r j e → ((i, j), f) ∈ T → DR T r i (nf (f ++ inv e))
/-- a column's ending -/
inductive DC (T : Told) (r : Nat) : Nat → List Nat → Prop
  | col {i j : Nat} {s f : List Nat} : DR T r i s → ((i, j), f) ∈ T → DC T r j (nf (inv s ++ f))
end
/-- what a table of stems and endings must be -/
structure Lev (T : Told) (r : Nat) (S E : Nat → Option (List Nat)) : Prop where
  at_r : S r = some []
  shut : ∀ i j f, ((i, j), f) ∈ T → ((S i).isSome ↔ (E j).isSome)
  strS : ∀ i s, S i = some s → Str1 s
  strE : ∀ j e, E j = some e → Str1 e
  drS : ∀ i s, S i = some s → DR T r i s
  dcE : ∀ j e, E j = some e → DC T r j e
/-- the told boxes are what they make -/
def Quiet (T : Told) (S E : Nat → Option (List Nat)) : Prop := ∀ i j f s e, ((i, j), f) ∈ T → S i = some s → E j = some e → nf (s ++ e) = f
section
variable {T : Told} {r : Nat} {S E S' E' : Nat → Option (List Nat)}
mutual
theorem dr_in (L : Lev T r S E) : ∀ {i : Nat} {s : List Nat}, DR T r i s → (S i).isSome
  | _, _, .base => by rw [L.at_r] <;> rfl
  | _, _, .row d m => (L.shut _ _ _ m).mpr (dc_in L d)
theorem dc_in (L : Lev T r S E) : ∀ {j : Nat} {e : List Nat}, DC T r j e → (E j).isSome
  | _, _, .col d m => (L.shut _ _ _ m).mp (dr_in L d)
end
mutual
theorem dr_eq (L : Lev T r S E) (q : Quiet T S E) : ∀ {i : Nat} {s : List Nat}, DR T r i s → S i = some s
  | _, _, .base => L.at_r
  | _, _, .row (i := i) (j := j) (e := e) (f := f) d m => by
    have he := dc_eq L q d
    obtain ⟨s, hs⟩ := Option.isSome_iff_exists.mp ((L.shut _ _ _ m).mpr (by rw [he] <;> rfl))
    rw [hs, stem_of (L.strS _ _ hs) (L.strE _ _ he) (q _ _ _ _ _ m hs he)]
theorem dc_eq (L : Lev T r S E) (q : Quiet T S E) : ∀ {j : Nat} {e : List Nat}, DC T r j e → E j = some e
  | _, _, .col (i := i) (j := j) (s := s) (f := f) d m => by
    have hs := dr_eq L q d
    obtain ⟨e, he⟩ := Option.isSome_iff_exists.mp ((L.shut _ _ _ m).mp (by rw [hs] <;> rfl))
    rw [he, end_of (L.strS _ _ hs) (L.strE _ _ he) (q _ _ _ _ _ m hs he)]
end
theorem Lev.some_iff (L : Lev T r S E) (L' : Lev T r S' E') (j : Nat) : (E j).isSome ↔ (E' j).isSome := by
  constructor
  · intro h
    obtain ⟨e, he⟩ := Option.isSome_iff_exists.mp h
    exact dc_in L' (L.dcE _ _ he)
  · intro h
    obtain ⟨e, he⟩ := Option.isSome_iff_exists.mp h
    exact dc_in L (L'.dcE _ _ he)
theorem Lev.eqE (L : Lev T r S E) (L' : Lev T r S' E') (q : Quiet T S E) {j : Nat} {e : List Nat} (h : E' j = some e) : E j = some e := dc_eq L q (L'.dcE _ _ h)
theorem Lev.eqS (L : Lev T r S E) (L' : Lev T r S' E') (q : Quiet T S E) {i : Nat} {s : List Nat} (h : S' i = some s) : S i = some s := dr_eq L q (L'.drS _ _ h)
/-- two tables are quiet alike -/
theorem Lev.quiet (L : Lev T r S E) (L' : Lev T r S' E') (q : Quiet T S E) : Quiet T S' E' := fun i j f s e m hs he => q i j f s e m (L.eqS L' q hs) (L.eqE L' q he)
end

/-! ### ways -/
/-- a row of told boxes, by turns in one column and in one row, from the row i -/
inductive Way (T : Told) : Nat → List (Nat × Nat) → List (List Nat) → Nat → Prop
  | one {i j : Nat} {f : List Nat} : ((i, j), f) ∈ T → Way T i [(i, j)] [f] j
  | two {i j k l : Nat} {f g : List Nat} {bs : List (Nat × Nat)} {fs : List (List Nat)} : ((i, j), f) ∈ T → ((k, j), g) ∈ T → Way T k bs fs l → Way T i ((i, j) :: (k, j) :: bs) (f :: g :: fs) l
/-- what a way tells, ahead of striking -/
def tell : List (List Nat) → List Nat
  | [] => []
  | [f] => f
  | f :: g :: fs => f ++ (inv g ++ tell fs)
theorem way_tells {T : Told} {r : Nat} {S E : Nat → Option (List Nat)} (L : Lev T r S E) (q : Quiet T S E) :
    ∀ {i : Nat} {bs : List (Nat × Nat)} {fs : List (List Nat)} {j : Nat}, Way T i bs fs j → ∀ {s : List Nat}, S i = some s → ∃ e, E j = some e ∧ act (tell fs) (act (inv s) []) = act e []
  | _, _, _, _, .one m, s, hs => by
    obtain ⟨e, he⟩ := Option.isSome_iff_exists.mp ((L.shut _ _ _ m).mp (by rw [hs] <;> rfl))
    exact ⟨e, he, go_col (L.strS _ _ hs) (L.strE _ _ he) (q _ _ _ _ _ m hs he)⟩
  | _, _, _, _, .two (f := f) (g := g) (fs := fs) m m' w, s, hs => by
    obtain ⟨e, he⟩ := Option.isSome_iff_exists.mp ((L.shut _ _ _ m).mp (by rw [hs] <;> rfl))
    obtain ⟨s', hs'⟩ := Option.isSome_iff_exists.mp ((L.shut _ _ _ m').mpr (by rw [he] <;> rfl))
    obtain ⟨e', he', z⟩ := way_tells L q w hs'
    refine ⟨e', he', ?_⟩
    show act (f ++ (inv g ++ tell fs)) (act (inv s) []) = act e' []
    rw [act_append, act_append, go_col (L.strS _ _ hs) (L.strE _ _ he) (q _ _ _ _ _ m hs he), go_row (L.strS _ _ hs') (L.strE _ _ he) (q _ _ _ _ _ m' hs' he), z]
/-- a way from r tells the ending of its column -/
theorem way_nf {T : Told} {r : Nat} {S E : Nat → Option (List Nat)} (L : Lev T r S E) (q : Quiet T S E) {bs : List (Nat × Nat)} {fs : List (List Nat)} {j : Nat} (w : Way T r bs fs j) : E j = some (nf (tell fs)) := by
  obtain ⟨e, he, z⟩ := way_tells L q w L.at_r
  rw [he]
  have h1 : act (inv []) [] = [] := rfl
  rw [h1] at z
  unfold nf
  rw [z, (L.strE _ _ he).act, List.reverse_reverse]
end Ft
set_option linter.all false
set_option maxRecDepth 100000
/-! Plain mathematics: the told boxes of a table, in their order. -/
namespace Ft
abbrev Bx := List (List (Option (List Nat)))
def toldRow (i : Nat) : Nat → List (Option (List Nat)) → Told
  | _, [] => []
  | j, none :: r => toldRow i (j + 1) r
  | j, some u :: r => ((i, j), u) :: toldRow i (j + 1) r
def toldRows : Nat → Bx → Told
  | _, [] => []
  | i, row :: r => toldRow i 0 row ++ toldRows (i + 1) r
/-- the told boxes, row by row -/
def told (B : Bx) : Told := toldRows 0 B
/-- what one box adds -/
def add1 (i j : Nat) : Option (List Nat) → Told
  | none => []
  | some u => [((i, j), u)]
theorem toldRow_snoc (i : Nat) (o : Option (List Nat)) : ∀ (l : List (Option (List Nat))) (j : Nat), toldRow i j (l ++ [o]) = toldRow i j l ++ add1 i (j + l.length) o
  | [], j => by cases o <;> simp [toldRow, add1]
  | none :: r, j => by
    have h := toldRow_snoc i o r (j + 1)
    show toldRow i (j + 1) (r ++ [o]) = _
    rw [h, List.length_cons, show j + 1 + r.length = j + (r.length + 1) by omega] <;> rfl
  | some u :: r, j => by
    have h := toldRow_snoc i o r (j + 1)
    show ((i, j), u) :: toldRow i (j + 1) (r ++ [o]) = _
    rw [h, List.length_cons, show j + 1 + r.length = j + (r.length + 1) by omega] <;> rfl
theorem toldRows_snoc (row : List (Option (List Nat))) : ∀ (B : Bx) (i : Nat), toldRows i (B ++ [row]) = toldRows i B ++ toldRow (i + B.length) 0 row
  | [], i => by simp [toldRows]
  | r0 :: B, i => by
    have h := toldRows_snoc row B (i + 1)
    show toldRow i 0 r0 ++ toldRows (i + 1) (B ++ [row]) = _
    rw [h, List.length_cons, show i + 1 + B.length = i + (B.length + 1) by omega, ← List.append_assoc] <;> rfl
theorem toldRow_take {i k : Nat} {row : List (Option (List Nat))} {o : Option (List Nat)} (h : row[k]? = some o) : toldRow i 0 (row.take (k + 1)) = toldRow i 0 (row.take k) ++ add1 i k o := by
  have hk : k < row.length := (List.getElem?_eq_some_iff.mp h).1
  have e : row.take (k + 1) = row.take k ++ [o] := by rw [List.take_succ, h] <;> rfl
  rw [e, toldRow_snoc, List.length_take, Nat.min_eq_left (by omega), Nat.zero_add]
theorem toldRows_take {B : Bx} {k : Nat} {row : List (Option (List Nat))} (h : B[k]? = some row) : toldRows 0 (B.take (k + 1)) = toldRows 0 (B.take k) ++ toldRow k 0 row := by
  have hk : k < B.length := (List.getElem?_eq_some_iff.mp h).1
  have e : B.take (k + 1) = B.take k ++ [row] := by rw [List.take_succ, h] <;> rfl
  rw [e, toldRows_snoc, List.length_take, Nat.min_eq_left (by omega), Nat.zero_add]
theorem mem_toldRow {i : Nat} {e : (Nat × Nat) × List Nat} : ∀ {row : List (Option (List Nat))} {j : Nat}, e ∈ toldRow i j row → e.1.1 = i ∧ j ≤ e.1.2 ∧ row[e.1.2 - j]? = some (some e.2)
  | [], j, h => by simp [toldRow] at h
  | none :: r, j, h => by
    obtain ⟨h1, h2, h3⟩ := mem_toldRow (row := r) (j := j + 1) h
    refine ⟨h1, by omega, ?_⟩
    rw [show e.1.2 - j = (e.1.2 - (j + 1)) + 1 by omega, List.getElem?_cons_succ]
    exact h3
  | some u :: r, j, h => by
    rcases List.mem_cons.mp (show e ∈ ((i, j), u) :: toldRow i (j + 1) r from h) with q | q
    · rw [q]
      exact ⟨rfl, Nat.le_refl _, by simp⟩
    · obtain ⟨h1, h2, h3⟩ := mem_toldRow (row := r) (j := j + 1) q
      refine ⟨h1, by omega, ?_⟩
      rw [show e.1.2 - j = (e.1.2 - (j + 1)) + 1 by omega, List.getElem?_cons_succ]
      exact h3
theorem in_toldRow {i : Nat} {u : List Nat} : ∀ {row : List (Option (List Nat))} {j k : Nat}, row[k]? = some (some u) → ((i, j + k), u) ∈ toldRow i j row
  | [], j, k, h => by simp at h
  | none :: r, j, 0, h => by simp at h
  | none :: r, j, k + 1, h => by
    have := in_toldRow (i := i) (row := r) (j := j + 1) (k := k) (by simpa using h)
    rw [show j + 1 + k = j + (k + 1) by omega] at this
    exact this
  | some v :: r, j, 0, h => by
    have e : v = u := by simpa using h
    rw [e]
    exact List.mem_cons_self
  | some v :: r, j, k + 1, h => by
    have := in_toldRow (i := i) (row := r) (j := j + 1) (k := k) (by simpa using h)
    rw [show j + 1 + k = j + (k + 1) by omega] at this
    exact List.mem_cons_of_mem _ this
theorem mem_toldRows {e : (Nat × Nat) × List Nat} : ∀ {B : Bx} {i : Nat}, e ∈ toldRows i B → i ≤ e.1.1 ∧ ∃ row, B[e.1.1 - i]? = some row ∧ row[e.1.2]? = some (some e.2)
  | [], i, h => by simp [toldRows] at h
  | row :: B, i, h => by
    rcases List.mem_append.mp (show e ∈ toldRow i 0 row ++ toldRows (i + 1) B from h) with q | q
    · obtain ⟨h1, _, h3⟩ := mem_toldRow q
      refine ⟨by omega, row, by rw [h1]; simp, by simpa using h3⟩
    · obtain ⟨h1, r, h2, h3⟩ := mem_toldRows q
      refine ⟨by omega, r, ?_, h3⟩
      rw [show e.1.1 - i = (e.1.1 - (i + 1)) + 1 by omega, List.getElem?_cons_succ]
      exact h2
theorem in_toldRows {u : List Nat} {row : List (Option (List Nat))} {c : Nat} : ∀ {B : Bx} {i k : Nat}, B[k]? = some row → row[c]? = some (some u) → ((i + k, c), u) ∈ toldRows i B
  | [], i, k, h, _ => by simp at h
  | r0 :: B, i, 0, h, hc => by
    have e : r0 = row := by simpa using h
    rw [e]
    have := in_toldRow (i := i) (row := row) (j := 0) (k := c) hc
    rw [Nat.zero_add] at this
    exact List.mem_append_left _ this
  | r0 :: B, i, k + 1, h, hc => by
    have := in_toldRows (B := B) (i := i + 1) (k := k) (by simpa using h) hc
    rw [show i + 1 + k = i + (k + 1) by omega] at this
    exact List.mem_append_right _ this
theorem mem_told {B : Bx} {i j : Nat} {u : List Nat} : ((i, j), u) ∈ told B ↔ ∃ row, B[i]? = some row ∧ row[j]? = some (some u) := by
  constructor
  · intro h
    obtain ⟨_, row, h1, h2⟩ := mem_toldRows h
    exact ⟨row, by simpa using h1, h2⟩
  · rintro ⟨row, h1, h2⟩
    have := in_toldRows (B := B) (i := 0) (k := i) h1 h2
    rw [Nat.zero_add] at this
    exact this
/-- no box twice -/
def Keys (T : Told) : Prop := (T.map (·.1)).Nodup
theorem nodup_append {α : Type} {l m : List α} (h1 : l.Nodup) (h2 : m.Nodup) (h : ∀ x, x ∈ l → x ∉ m) : (l ++ m).Nodup := by
  rw [List.nodup_append]
  exact ⟨h1, h2, fun a ha b hb e => h a ha (e ▸ hb)⟩
theorem keys_row {i : Nat} : ∀ {row : List (Option (List Nat))} {j : Nat}, Keys (toldRow i j row)
  | [], _ => List.nodup_nil
  | none :: r, j => keys_row (row := r) (j := j + 1)
  | some u :: r, j => by
    show ((i, j) :: (toldRow i (j + 1) r).map (·.1)).Nodup
    refine List.nodup_cons.mpr ⟨fun h => ?_, keys_row⟩
    obtain ⟨e, he, q⟩ := List.mem_map.mp h
    have := (mem_toldRow he).2.1
    rw [q] at this
    exact absurd this (Nat.not_succ_le_self j)
theorem keys_rows : ∀ {B : Bx} {i : Nat}, Keys (toldRows i B)
  | [], _ => List.nodup_nil
  | row :: B, i => by
    show ((toldRow i 0 row ++ toldRows (i + 1) B).map (·.1)).Nodup
    rw [List.map_append]
    refine nodup_append keys_row keys_rows fun x h1 h2 => ?_
    obtain ⟨e, he, q⟩ := List.mem_map.mp h1
    obtain ⟨e', he', q'⟩ := List.mem_map.mp h2
    have a := (mem_toldRow he).1
    have b := (mem_toldRows he').1
    rw [q] at a
    rw [q'] at b
    omega
theorem keys_told (B : Bx) : Keys (told B) := keys_rows
theorem keys_eq {T : Told} (h : Keys T) {k : Nat × Nat} {u v : List Nat} (h1 : (k, u) ∈ T) (h2 : (k, v) ∈ T) : u = v := by
  induction T with
  | nil => simp at h1
  | cons e T ih =>
    have hn := List.nodup_cons.mp (show (e.1 :: T.map (·.1)).Nodup from h)
    rcases List.mem_cons.mp h1 with a | a <;> rcases List.mem_cons.mp h2 with b | b
    · rw [← a] at b
      exact ((Prod.mk.inj b).2).symm
    · exact absurd (List.mem_map.mpr ⟨_, b, rfl⟩) (by rw [← a] at hn; exact hn.1)
    · exact absurd (List.mem_map.mpr ⟨_, a, rfl⟩) (by rw [← b] at hn; exact hn.1)
    · exact ih hn.2 a b
/-- a form of at most n letters -/
def Fm (n : Nat) (u : List Nat) : Prop := u.length ≤ n ∧ ∀ c ∈ u, Sm c
/-- boxes of a table: at least one and at most twelve rows and columns, forms of at most n letters -/
structure Wf (n : Nat) (B : Bx) (W : Nat) : Prop where
  h1 : 1 ≤ B.length
  h2 : B.length ≤ 12
  w1 : 1 ≤ W
  w2 : W ≤ 12
  rows : ∀ row ∈ B, row.length = W
  forms : ∀ row ∈ B, ∀ u, some u ∈ row → Fm n u
theorem Wf.mono {n m : Nat} {B : Bx} {W : Nat} (h : Wf n B W) (hm : n ≤ m) : Wf m B W := ⟨h.h1, h.h2, h.w1, h.w2, h.rows, fun r hr u hu => ⟨Nat.le_trans (h.forms r hr u hu).1 hm, (h.forms r hr u hu).2⟩⟩
theorem Wf.told {n : Nat} {B : Bx} {W : Nat} (h : Wf n B W) {i j : Nat} {u : List Nat} (m : ((i, j), u) ∈ told B) : i < B.length ∧ j < W ∧ Fm n u := by
  obtain ⟨row, h1, h2⟩ := mem_told.mp m
  have hr := List.mem_of_getElem? h1
  refine ⟨(List.getElem?_eq_some_iff.mp h1).1, ?_, h.forms row hr u (List.mem_of_getElem? h2)⟩
  rw [← h.rows row hr]
  exact (List.getElem?_eq_some_iff.mp h2).1
theorem told_len_row {i : Nat} : ∀ (row : List (Option (List Nat))) (j : Nat), (toldRow i j row).length ≤ row.length
  | [], _ => Nat.le_refl _
  | none :: r, j => by
    have := told_len_row (i := i) r (j + 1)
    show (toldRow i (j + 1) r).length ≤ r.length + 1
    omega
  | some u :: r, j => by
    have := told_len_row (i := i) r (j + 1)
    show (toldRow i (j + 1) r).length + 1 ≤ r.length + 1
    omega
theorem told_len_rows {W : Nat} : ∀ (B : Bx) (i : Nat), (∀ row ∈ B, row.length = W) → (toldRows i B).length ≤ B.length * W
  | [], _, _ => by simp [toldRows]
  | row :: B, i, h => by
    have h1 := told_len_row (i := i) row 0
    have h2 := told_len_rows B (i + 1) fun r hr => h r (List.mem_cons_of_mem _ hr)
    rw [h row List.mem_cons_self] at h1
    show (toldRow i 0 row ++ toldRows (i + 1) B).length ≤ (B.length + 1) * W
    rw [List.length_append, Nat.succ_mul]
    omega
theorem Wf.len {n : Nat} {B : Bx} {W : Nat} (h : Wf n B W) : (Ft.told B).length ≤ 144 := by
  have h1 := told_len_rows B 0 h.rows
  have h2 : B.length * W ≤ 12 * 12 := Nat.mul_le_mul h.h2 h.w2
  exact Nat.le_trans h1 h2
theorem told_fresh {B : Bx} {i j : Nat} {row : List (Option (List Nat))} (v : List Nat) : ((i, j), v) ∉ toldRows 0 (B.take i) ++ toldRow i 0 (row.take j) := fun hv => by
  rcases List.mem_append.mp hv with z | z
  · obtain ⟨_, r', h1, _⟩ := mem_toldRows z
    have h2 := (List.getElem?_eq_some_iff.mp h1).1
    rw [List.length_take] at h2
    have h3 : i - 0 < min i B.length := h2
    omega
  · obtain ⟨_, _, h3⟩ := mem_toldRow z
    have h2 := (List.getElem?_eq_some_iff.mp h3).1
    rw [List.length_take] at h2
    have h3 : j - 0 < min j row.length := h2
    omega
theorem told_part {n : Nat} {B : Bx} {W : Nat} (wf : Wf n B W) {i j : Nat} {row : List (Option (List Nat))} (hr : row ∈ B) : (toldRows 0 (B.take i) ++ toldRow i 0 (row.take j)).length ≤ 1000 := by
  rw [List.length_append]
  have h1 := told_len_rows (W := W) (B.take i) 0 fun r hr => wf.rows r (List.mem_of_mem_take hr)
  have h2 := told_len_row (i := i) (row.take j) 0
  have h3 : (B.take i).length * W ≤ 12 * 12 := Nat.mul_le_mul (by rw [List.length_take]; have := wf.h2; omega) wf.w2
  have h4 : (row.take j).length ≤ 12 := by rw [List.length_take, wf.rows row hr]; have := wf.w2; omega
  omega
end Ft
set_option linter.all false
set_option maxRecDepth 100000
/-! Plain mathematics: going out from a row step by step. An entry holds the address of the box's own tuple (a number), its row, its column. -/
namespace Ft
theorem len_of_lt : ∀ {n : Nat} {l : List Nat}, l.Nodup → (∀ x ∈ l, x < n) → l.length ≤ n
  | 0, [], _, _ => Nat.le_refl _
  | 0, x :: l, _, h => absurd (h x List.mem_cons_self) (Nat.not_lt_zero _)
  | n + 1, l, hd, h => by
    have h1 := len_of_lt (n := n) (l := l.erase n) (hd.erase n) fun x hx => by
      have h2 := h x (List.mem_of_mem_erase hx)
      have h3 : x ≠ n := fun e => by
        rw [e] at hx
        exact (List.Nodup.not_mem_erase hd) hx
      omega
    have h4 := List.length_erase (a := n) (l := l)
    by_cases hm : n ∈ l
    · rw [if_pos hm] at h4
      omega
    · rw [if_neg hm] at h4
      omega
/-- a table's told boxes, its sizes -/
structure Tk (T : Told) (h w : Nat) : Prop where
  rng : ∀ i j f, ((i, j), f) ∈ T → i < h ∧ j < w ∧ Fm 30 f
  keys : Keys T
  h12 : h ≤ 12
  w12 : w ≤ 12
  len : T.length ≤ 1000
theorem Wf.tk {B : Bx} {W : Nat} (h : Wf 30 B W) : Tk (Ft.told B) B.length W := ⟨fun _ _ _ m => h.told m, keys_told B, h.h2, h.w2, by have := h.len; omega⟩
abbrev Tri := Nat × Nat × Nat
abbrev Rs := List (Nat × Option Tri)
abbrev Cs := List (Nat × Tri)
structure Bf (T : Told) (r : Nat) (R : Rs) (C : Cs) (wt : List (Bool × Nat)) : Prop where
  ndR : (R.map (·.1)).Nodup
  ndC : (C.map (·.1)).Nodup
  base : (r, none) ∈ R
  none_r : ∀ i, (i, none) ∈ R → i = r
  col : ∀ j q a b, (j, (q, a, b)) ∈ C → b = j ∧ (∃ f, ((a, j), f) ∈ T) ∧ a ∈ R.map (·.1)
  row : ∀ i q a b, (i, some (q, a, b)) ∈ R → a = i ∧ (∃ f, ((i, b), f) ∈ T) ∧ b ∈ C.map (·.1)
  rk : ∃ rk : Bool → Nat → Nat, (∀ k x, (k, x) ∈ wt → rk k x < wt.length) ∧ (∀ j q a b, (j, (q, a, b)) ∈ C → rk true a < rk false j) ∧ ∀ i q a b, (i, some (q, a, b)) ∈ R → rk false b < rk true i
  memR : ∀ i, (true, i) ∈ wt ↔ i ∈ R.map (·.1)
  memC : ∀ j, (false, j) ∈ wt ↔ j ∈ C.map (·.1)
  len : wt.length = R.length + C.length
theorem Bf.start (T : Told) (r : Nat) : Bf T r [(r, none)] [] [(true, r)] where
  ndR := by simp
  ndC := by simp
  base := by simp
  none_r := fun i h => by simpa using h
  col := fun j q a b h => by simp at h
  row := fun i q a b h => by simp at h
  rk := ⟨fun _ _ => 0, fun _ _ _ => by simp, fun j q a b h => by simp at h, fun i q a b h => by simp at h⟩
  memR := fun i => by simp
  memC := fun j => by simp
  len := rfl
theorem nodup_snoc {α : Type} {l : List α} {x : α} (h : l.Nodup) (hx : x ∉ l) : (l ++ [x]).Nodup := nodup_append h (by simp) fun y h1 h2 => by
  rw [List.mem_singleton.mp h2] at h1
  exact hx h1
theorem Bf.addC {T : Told} {r : Nat} {R : Rs} {C : Cs} {wt : List (Bool × Nat)} (B : Bf T r R C wt) {i j q : Nat} {f : List Nat} (m : ((i, j), f) ∈ T) (hi : i ∈ R.map (·.1)) (hj : j ∉ C.map (·.1)) : Bf T r R (C ++ [(j, (q, i, j))]) (wt ++ [(false, j)]) where
  ndR := B.ndR
  ndC := by
    rw [List.map_append]
    exact nodup_snoc B.ndC hj
  base := B.base
  none_r := B.none_r
  col := fun j' q' a b h => by
    rcases List.mem_append.mp h with z | z
    · exact B.col j' q' a b z
    · obtain ⟨rfl, rfl, rfl, rfl⟩ : j' = j ∧ q' = q ∧ a = i ∧ b = j := by simpa using z
      exact ⟨rfl, ⟨f, m⟩, hi⟩
  row := fun i' q' a b h => by
    obtain ⟨h1, h2, h3⟩ := B.row i' q' a b h
    exact ⟨h1, h2, by rw [List.map_append]; exact List.mem_append_left _ h3⟩
  rk := by
    obtain ⟨rk, k1, k2, k3⟩ := B.rk
    have hne : ∀ j' , j' ∈ C.map (·.1) → j' ≠ j := fun j' h e => hj (e ▸ h)
    refine ⟨fun k x => if k = false ∧ x = j then wt.length else rk k x, fun k x h => ?_, fun j' q' a b h => ?_, fun i' q' a b h => ?_⟩
    · rw [List.length_append]
      show (if k = false ∧ x = j then wt.length else rk k x) < wt.length + 1
      by_cases e : k = false ∧ x = j
      · rw [if_pos e]; omega
      · rw [if_neg e]
        rcases List.mem_append.mp h with z | z
        · have := k1 k x z; omega
        · exact absurd (by simpa using z) e
    · have ea : (if true = false ∧ a = j then wt.length else rk true a) = rk true a := if_neg (fun z => Bool.noConfusion z.1)
      show (if true = false ∧ a = j then wt.length else rk true a) < (if false = false ∧ j' = j then wt.length else rk false j')
      rw [ea]
      rcases List.mem_append.mp h with z | z
      · have hm : j' ∈ C.map (·.1) := List.mem_map.mpr ⟨_, z, rfl⟩
        rw [if_neg (fun e => hne j' hm e.2)]
        exact k2 j' q' a b z
      · obtain ⟨rfl, rfl, rfl, rfl⟩ : j' = j ∧ q' = q ∧ a = i ∧ b = j := by simpa using z
        rw [if_pos ⟨rfl, rfl⟩]
        exact k1 true a ((B.memR a).mpr hi)
    · obtain ⟨_, _, h3⟩ := B.row i' q' a b h
      show (if false = false ∧ b = j then wt.length else rk false b) < (if true = false ∧ i' = j then wt.length else rk true i')
      rw [if_neg (fun e => hne b h3 e.2), if_neg (fun z => Bool.noConfusion z.1)]
      exact k3 i' q' a b h
  memR := fun i' => by rw [List.mem_append, ← B.memR i']; simp
  memC := fun j' => by rw [List.map_append, List.mem_append, List.mem_append, B.memC j']; simp
  len := by rw [List.length_append, List.length_append, B.len]; show _ + 1 = _ + (_ + 1); omega
theorem Bf.addR {T : Told} {r : Nat} {R : Rs} {C : Cs} {wt : List (Bool × Nat)} (B : Bf T r R C wt) {i j q : Nat} {f : List Nat} (m : ((i, j), f) ∈ T) (hj : j ∈ C.map (·.1)) (hi : i ∉ R.map (·.1)) : Bf T r (R ++ [(i, some (q, i, j))]) C (wt ++ [(true, i)]) where
  ndR := by
    rw [List.map_append]
    exact nodup_snoc B.ndR hi
  ndC := B.ndC
  base := List.mem_append_left _ B.base
  none_r := fun i' h => by
    rcases List.mem_append.mp h with z | z
    · exact B.none_r i' z
    · simp at z
  col := fun j' q' a b h => by
    obtain ⟨h1, h2, h3⟩ := B.col j' q' a b h
    exact ⟨h1, h2, by rw [List.map_append]; exact List.mem_append_left _ h3⟩
  row := fun i' q' a b h => by
    rcases List.mem_append.mp h with z | z
    · exact B.row i' q' a b z
    · obtain ⟨rfl, rfl, rfl, rfl⟩ : i' = i ∧ q' = q ∧ a = i ∧ b = j := by simpa using z
      exact ⟨rfl, ⟨f, m⟩, hj⟩
  rk := by
    obtain ⟨rk, k1, k2, k3⟩ := B.rk
    have hne : ∀ i' , i' ∈ R.map (·.1) → i' ≠ i := fun i' h e => hi (e ▸ h)
    refine ⟨fun k x => if k = true ∧ x = i then wt.length else rk k x, fun k x h => ?_, fun j' q' a b h => ?_, fun i' q' a b h => ?_⟩
    · rw [List.length_append]
      show (if k = true ∧ x = i then wt.length else rk k x) < wt.length + 1
      by_cases e : k = true ∧ x = i
      · rw [if_pos e]; omega
      · rw [if_neg e]
        rcases List.mem_append.mp h with z | z
        · have := k1 k x z; omega
        · exact absurd (by simpa using z) e
    · obtain ⟨_, _, h3⟩ := B.col j' q' a b h
      show (if true = true ∧ a = i then wt.length else rk true a) < (if false = true ∧ j' = i then wt.length else rk false j')
      rw [if_neg (fun e => hne a h3 e.2), if_neg (fun z => Bool.noConfusion z.1)]
      exact k2 j' q' a b h
    · have ea : (if false = true ∧ b = i then wt.length else rk false b) = rk false b := if_neg (fun z => Bool.noConfusion z.1)
      show (if false = true ∧ b = i then wt.length else rk false b) < (if true = true ∧ i' = i then wt.length else rk true i')
      rw [ea]
      rcases List.mem_append.mp h with z | z
      · have hm : i' ∈ R.map (·.1) := List.mem_map.mpr ⟨_, z, rfl⟩
        rw [if_neg (fun e => hne i' hm e.2)]
        exact k3 i' q' a b z
      · obtain ⟨rfl, rfl, rfl, rfl⟩ : i' = i ∧ q' = q ∧ a = i ∧ b = j := by simpa using z
        rw [if_pos ⟨rfl, rfl⟩]
        exact k1 false b ((B.memC b).mpr hj)
  memR := fun i' => by rw [List.map_append, List.mem_append, List.mem_append, B.memR i']; simp
  memC := fun j' => by rw [List.mem_append, ← B.memC j']; simp
  len := by rw [List.length_append, List.length_append, B.len]; show _ + 1 = (_ + 1) + _; omega
theorem Bf.keyR {T : Told} {r h w : Nat} {R : Rs} {C : Cs} {wt : List (Bool × Nat)} (B : Bf T r R C wt) (tk : Tk T h w) (hr : r < h) : ∀ i ∈ R.map (·.1), i < h := fun i hi => by
  obtain ⟨⟨i', o⟩, he, rfl⟩ := List.mem_map.mp hi
  cases o with
  | none => rw [B.none_r i' he]; exact hr
  | some t =>
    obtain ⟨q, a, b⟩ := t
    obtain ⟨_, ⟨f, m⟩, _⟩ := B.row i' q a b he
    exact (tk.rng _ _ _ m).1
theorem Bf.keyC {T : Told} {r h w : Nat} {R : Rs} {C : Cs} {wt : List (Bool × Nat)} (B : Bf T r R C wt) (tk : Tk T h w) : ∀ j ∈ C.map (·.1), j < w := fun j hj => by
  obtain ⟨⟨j', q, a, b⟩, he, rfl⟩ := List.mem_map.mp hj
  obtain ⟨_, ⟨f, m⟩, _⟩ := B.col j' q a b he
  exact (tk.rng _ _ _ m).2.1
theorem Bf.lens {T : Told} {r h w : Nat} {R : Rs} {C : Cs} {wt : List (Bool × Nat)} (B : Bf T r R C wt) (tk : Tk T h w) (hr : r < h) : R.length ≤ h ∧ C.length ≤ w := by
  have h1 := len_of_lt B.ndR (B.keyR tk hr)
  have h2 := len_of_lt B.ndC (B.keyC tk)
  rw [List.length_map] at h1 h2
  exact ⟨h1, h2⟩
/-- all that hangs on a row, on a column, has been come to -/
def Clo (T : Told) (R : Rs) (C : Cs) : Bool × Nat → Prop
  | (true, i) => ∀ j f, ((i, j), f) ∈ T → j ∈ C.map (·.1)
  | (false, j) => ∀ i f, ((i, j), f) ∈ T → i ∈ R.map (·.1)
theorem Clo.mono {T : Told} {R R' : Rs} {C C' : Cs} {x : Bool × Nat} (h : Clo T R C x) (hR : ∀ i, i ∈ R.map (·.1) → i ∈ R'.map (·.1)) (hC : ∀ j, j ∈ C.map (·.1) → j ∈ C'.map (·.1)) : Clo T R' C' x := by
  obtain ⟨k, y⟩ := x
  cases k with
  | true => exact fun j f m => hC j (h j f m)
  | false => exact fun i f m => hR i (h i f m)
/-- what has been come to when all is done -/
structure Bfd (T : Told) (r : Nat) (R : Rs) (C : Cs) : Prop where
  ndR : (R.map (·.1)).Nodup
  ndC : (C.map (·.1)).Nodup
  base : (r, none) ∈ R
  none_r : ∀ i, (i, none) ∈ R → i = r
  col : ∀ j q a b, (j, (q, a, b)) ∈ C → b = j ∧ (∃ f, ((a, j), f) ∈ T) ∧ a ∈ R.map (·.1)
  row : ∀ i q a b, (i, some (q, a, b)) ∈ R → a = i ∧ (∃ f, ((i, b), f) ∈ T) ∧ b ∈ C.map (·.1)
  rk : ∃ rk : Bool → Nat → Nat, (∀ i ∈ R.map (·.1), rk true i < 24) ∧ (∀ j ∈ C.map (·.1), rk false j < 24) ∧ (∀ j q a b, (j, (q, a, b)) ∈ C → rk true a < rk false j) ∧ ∀ i q a b, (i, some (q, a, b)) ∈ R → rk false b < rk true i
  shut : ∀ i j f, ((i, j), f) ∈ T → (i ∈ R.map (·.1) ↔ j ∈ C.map (·.1))
  lens : R.length ≤ 12 ∧ C.length ≤ 12
theorem Bf.done {T : Told} {r h w : Nat} {R : Rs} {C : Cs} {wt : List (Bool × Nat)} (B : Bf T r R C wt) (tk : Tk T h w) (hr : r < h) (hc : ∀ x ∈ wt, Clo T R C x) : Bfd T r R C := by
  have hl := B.lens tk hr
  have h12 := tk.h12
  have w12 := tk.w12
  refine ⟨B.ndR, B.ndC, B.base, B.none_r, B.col, B.row, ?_, fun i j f m => ⟨fun hi => hc (true, i) ((B.memR i).mpr hi) j f m, fun hj => hc (false, j) ((B.memC j).mpr hj) i f m⟩, by omega, by omega⟩
  obtain ⟨rk, k1, k2, k3⟩ := B.rk
  have hz := B.len
  exact ⟨rk, fun i hi => by have := k1 true i ((B.memR i).mpr hi); omega, fun j hj => by have := k1 false j ((B.memC j).mpr hj); omega, k2, k3⟩
end Ft
set_option linter.all false
set_option maxRecDepth 100000
/-! Plain mathematics: tables of stems and endings that grow. -/
namespace Ft
abbrev Dt := List (Nat × List Nat)
def look (L : Dt) (i : Nat) : Option (List Nat) := (L.find? fun e => decide (e.1 = i)).map (·.2)
theorem look_mem {L : Dt} {i : Nat} {x : List Nat} (h : look L i = some x) : (i, x) ∈ L := by
  unfold look at h
  cases q : L.find? (fun e => decide (e.1 = i)) with
  | none => rw [q] at h; cases h
  | some e =>
    rw [q] at h
    have h1 := List.mem_of_find?_eq_some q
    have h2 : e.1 = i := by simpa using List.find?_some q
    have h3 : e.2 = x := Option.some.inj h
    rw [← h2, ← h3]
    exact h1
theorem look_is {L : Dt} {i : Nat} : (look L i).isSome ↔ i ∈ L.map (·.1) := by
  unfold look
  rw [Option.isSome_map, List.find?_isSome]
  constructor
  · rintro ⟨e, h1, h2⟩
    have h2 : e.1 = i := by simpa using h2
    exact List.mem_map.mpr ⟨e, h1, h2⟩
  · intro h
    obtain ⟨e, h1, h2⟩ := List.mem_map.mp h
    exact ⟨e, h1, by simp [h2]⟩
theorem key_eq {L : Dt} (h : (L.map (·.1)).Nodup) {i : Nat} {x y : List Nat} (h1 : (i, x) ∈ L) (h2 : (i, y) ∈ L) : x = y := by
  induction L with
  | nil => simp at h1
  | cons z L ih =>
    have hn := List.nodup_cons.mp (show (z.1 :: L.map (·.1)).Nodup from h)
    rcases List.mem_cons.mp h1 with e1 | e1
    · rcases List.mem_cons.mp h2 with e2 | e2
      · rw [← e1] at e2
        exact (Prod.mk.inj e2).2.symm
      · exact absurd (List.mem_map.mpr ⟨_, e2, by rw [← e1]⟩) hn.1
    · rcases List.mem_cons.mp h2 with e2 | e2
      · exact absurd (List.mem_map.mpr ⟨_, e1, by rw [← e2]⟩) hn.1
      · exact ih hn.2 e1 e2
theorem look_some {L : Dt} (h : (L.map (·.1)).Nodup) {i : Nat} {x : List Nat} (m : (i, x) ∈ L) : look L i = some x := by
  have h1 : (look L i).isSome := look_is.mpr (List.mem_map.mpr ⟨_, m, rfl⟩)
  obtain ⟨y, hy⟩ := Option.isSome_iff_exists.mp h1
  rw [hy, key_eq h (look_mem hy) m]
theorem len_sub : ∀ {l m : List Nat}, l.Nodup → (∀ x ∈ l, x ∈ m) → l.length ≤ m.length
  | [], _, _, _ => Nat.zero_le _
  | x :: l, m, hd, h => by
    have hn := List.nodup_cons.mp hd
    have hm : x ∈ m := h x List.mem_cons_self
    have h1 := len_sub (l := l) (m := m.erase x) hn.2 fun y hy => (List.mem_erase_of_ne (fun e => hn.1 (by rw [← e]; exact hy))).mpr (h y (List.mem_cons_of_mem _ hy))
    rw [List.length_erase, if_pos hm] at h1
    have h2 : 0 < m.length := List.length_pos_of_mem hm
    show l.length + 1 ≤ _
    omega
theorem sub_eq {l m : List Nat} (hl : l.Nodup) (h : ∀ x ∈ l, x ∈ m) (hle : m.length ≤ l.length) : ∀ x ∈ m, x ∈ l := fun x hx => by
  refine Decidable.byContradiction fun hn => ?_
  have := len_sub (l := x :: l) (m := m) (List.nodup_cons.mpr ⟨hn, hl⟩) fun y hy => by
    rcases List.mem_cons.mp hy with e | e
    · rw [e]; exact hx
    · exact h y e
  have h2 : l.length + 1 ≤ m.length := this
  omega
structure Lv (T : Told) (r : Nat) (S E : Dt) : Prop where
  ndS : (S.map (·.1)).Nodup
  ndE : (E.map (·.1)).Nodup
  base : (r, []) ∈ S
  strS : ∀ i s, (i, s) ∈ S → Str1 s
  strE : ∀ j e, (j, e) ∈ E → Str1 e
  drS : ∀ i s, (i, s) ∈ S → DR T r i s
  dcE : ∀ j e, (j, e) ∈ E → DC T r j e
  lenS : ∀ i s, (i, s) ∈ S → s.length ≤ 30 * (S.length + E.length)
  lenE : ∀ j e, (j, e) ∈ E → e.length ≤ 30 * (S.length + E.length)
theorem Lv.start (T : Told) (r : Nat) : Lv T r [(r, [])] [] where
  ndS := by simp
  ndE := by simp
  base := by simp
  strS := fun i s h => by
    obtain ⟨rfl, rfl⟩ : i = r ∧ s = [] := by simpa using h
    exact str_nil
  strE := fun j e h => by simp at h
  drS := fun i s h => by
    obtain ⟨rfl, rfl⟩ : i = r ∧ s = [] := by simpa using h
    exact .base
  dcE := fun j e h => by simp at h
  lenS := fun i s h => by
    obtain ⟨rfl, rfl⟩ : i = r ∧ s = [] := by simpa using h
    exact Nat.zero_le _
  lenE := fun j e h => by simp at h
section
variable {T : Told} {r h w : Nat} {S E : Dt}
theorem fm_str {u : List Nat} (h : Fm 30 u) : Str1 u := form_str h.2
theorem Lv.addE (L : Lv T r S E) (tk : Tk T h w) {i j : Nat} {s f : List Nat} (hs : (i, s) ∈ S) (m : ((i, j), f) ∈ T) (hj : j ∉ E.map (·.1)) : Lv T r S (E ++ [(j, nf (inv s ++ f))]) := by
  have hf := (tk.rng _ _ _ m).2.2
  have hl := nf_len (inv s ++ f)
  rw [List.length_append, inv_len] at hl
  have h1 := L.lenS _ _ hs
  have h2 := hf.1
  have el : (E ++ [(j, nf (inv s ++ f))]).length = E.length + 1 := by rw [List.length_append] <;> rfl
  refine ⟨L.ndS, by rw [List.map_append]; exact nodup_snoc L.ndE hj, L.base, L.strS, fun j' e h => ?_, L.drS, fun j' e h => ?_, fun i' s' h => ?_, fun j' e h => ?_⟩
  · rcases List.mem_append.mp h with z | z
    · exact L.strE _ _ z
    · obtain ⟨rfl, rfl⟩ : j' = j ∧ e = nf (inv s ++ f) := by simpa using z
      exact nf_str ((L.strS _ _ hs).wd.inv.app (fm_str hf).wd)
  · rcases List.mem_append.mp h with z | z
    · exact L.dcE _ _ z
    · obtain ⟨rfl, rfl⟩ : j' = j ∧ e = nf (inv s ++ f) := by simpa using z
      exact .col (L.drS _ _ hs) m
  · have := L.lenS _ _ h
    rw [el]
    omega
  · rw [el]
    rcases List.mem_append.mp h with z | z
    · have := L.lenE _ _ z
      omega
    · obtain ⟨rfl, rfl⟩ : j' = j ∧ e = nf (inv s ++ f) := by simpa using z
      omega
theorem Lv.addS (L : Lv T r S E) (tk : Tk T h w) {i j : Nat} {e f : List Nat} (he : (j, e) ∈ E) (m : ((i, j), f) ∈ T) (hi : i ∉ S.map (·.1)) : Lv T r (S ++ [(i, nf (f ++ inv e))]) E := by
  have hf := (tk.rng _ _ _ m).2.2
  have hl := nf_len (f ++ inv e)
  rw [List.length_append, inv_len] at hl
  have h1 := L.lenE _ _ he
  have h2 := hf.1
  have el : (S ++ [(i, nf (f ++ inv e))]).length = S.length + 1 := by rw [List.length_append] <;> rfl
  refine ⟨by rw [List.map_append]; exact nodup_snoc L.ndS hi, L.ndE, List.mem_append_left _ L.base, fun i' s h => ?_, L.strE, fun i' s h => ?_, L.dcE, fun i' s' h => ?_, fun j' e h => ?_⟩
  · rcases List.mem_append.mp h with z | z
    · exact L.strS _ _ z
    · obtain ⟨rfl, rfl⟩ : i' = i ∧ s = nf (f ++ inv e) := by simpa using z
      exact nf_str ((fm_str hf).wd.app (L.strE _ _ he).wd.inv)
  · rcases List.mem_append.mp h with z | z
    · exact L.drS _ _ z
    · obtain ⟨rfl, rfl⟩ : i' = i ∧ s = nf (f ++ inv e) := by simpa using z
      exact .row (L.dcE _ _ he) m
  · rw [el]
    rcases List.mem_append.mp h with z | z
    · have := L.lenS _ _ z
      omega
    · obtain ⟨rfl, rfl⟩ : i' = i ∧ s' = nf (f ++ inv e) := by simpa using z
      omega
  · have := L.lenE _ _ h
    rw [el]
    omega
theorem Lv.rngS (L : Lv T r S E) (tk : Tk T h w) (hr : r < h) : ∀ i ∈ S.map (·.1), i < h := fun i hi => by
  obtain ⟨⟨i', s⟩, he, rfl⟩ := List.mem_map.mp hi
  cases L.drS _ _ he with
  | base => exact hr
  | row d m => exact (tk.rng _ _ _ m).1
theorem Lv.rngE (L : Lv T r S E) (tk : Tk T h w) : ∀ j ∈ E.map (·.1), j < w := fun j hj => by
  obtain ⟨⟨j', e⟩, he, rfl⟩ := List.mem_map.mp hj
  cases L.dcE _ _ he with
  | col d m => exact (tk.rng _ _ _ m).2.1
theorem Lv.lens (L : Lv T r S E) (tk : Tk T h w) (hr : r < h) : S.length ≤ h ∧ E.length ≤ w := by
  have h1 := len_of_lt L.ndS (L.rngS tk hr)
  have h2 := len_of_lt L.ndE (L.rngE tk)
  rw [List.length_map] at h1 h2
  exact ⟨h1, h2⟩
theorem Lv.small (L : Lv T r S E) (tk : Tk T h w) (hr : r < h) : (∀ i s, (i, s) ∈ S → s.length ≤ 720) ∧ ∀ j e, (j, e) ∈ E → e.length ≤ 720 := by
  have h1 := L.lens tk hr
  have h2 := tk.h12
  have h3 := tk.w12
  exact ⟨fun i s m => by have := L.lenS _ _ m; omega, fun j e m => by have := L.lenE _ _ m; omega⟩
def Shut (T : Told) (S E : Dt) : Prop := ∀ i j f, ((i, j), f) ∈ T → (i ∈ S.map (·.1) ↔ j ∈ E.map (·.1))
theorem Lv.lev (L : Lv T r S E) (c : Shut T S E) : Lev T r (look S) (look E) where
  at_r := look_some L.ndS L.base
  shut := fun i j f m => by rw [look_is, look_is]; exact c i j f m
  strS := fun i s h => L.strS _ _ (look_mem h)
  strE := fun j e h => L.strE _ _ (look_mem h)
  drS := fun i s h => L.drS _ _ (look_mem h)
  dcE := fun j e h => L.dcE _ _ (look_mem h)
variable {R : Rs} {C : Cs}
mutual
theorem dr_R (b : Bfd T r R C) : ∀ {i : Nat} {s : List Nat}, DR T r i s → i ∈ R.map (·.1)
  | _, _, .base => List.mem_map.mpr ⟨_, b.base, rfl⟩
  | _, _, .row d m => (b.shut _ _ _ m).mpr (dc_C b d)
theorem dc_C (b : Bfd T r R C) : ∀ {j : Nat} {e : List Nat}, DC T r j e → j ∈ C.map (·.1)
  | _, _, .col d m => (b.shut _ _ _ m).mp (dr_R b d)
end
theorem Lv.subS (L : Lv T r S E) (b : Bfd T r R C) : ∀ i ∈ S.map (·.1), i ∈ R.map (·.1) := fun i hi => by
  obtain ⟨⟨i', s⟩, he, rfl⟩ := List.mem_map.mp hi
  exact dr_R b (L.drS _ _ he)
theorem Lv.subE (L : Lv T r S E) (b : Bfd T r R C) : ∀ j ∈ E.map (·.1), j ∈ C.map (·.1) := fun j hj => by
  obtain ⟨⟨j', e⟩, he, rfl⟩ := List.mem_map.mp hj
  exact dc_C b (L.dcE _ _ he)
theorem Lv.full (L : Lv T r S E) (b : Bfd T r R C) (hl : R.length + C.length ≤ S.length + E.length) : Shut T S E := by
  have h1 := len_sub L.ndS (L.subS b)
  have h2 := len_sub L.ndE (L.subE b)
  rw [List.length_map, List.length_map] at h1 h2
  have h3 := sub_eq L.ndS (L.subS b) (by rw [List.length_map, List.length_map]; omega)
  have h4 := sub_eq L.ndE (L.subE b) (by rw [List.length_map, List.length_map]; omega)
  exact fun i j f m => ⟨fun x => h4 j ((b.shut i j f m).mp (L.subS b i x)), fun x => h3 i ((b.shut i j f m).mpr (L.subE b j x))⟩
theorem Lv.more {S' E' : Dt} (L : Lv T r S E) (L' : Lv T r S' E') (b : Bfd T r R C) (hS : ∀ i ∈ S.map (·.1), i ∈ S'.map (·.1)) (hE : ∀ j ∈ E.map (·.1), j ∈ E'.map (·.1))
    (hC : ∀ j q a c, (j, (q, a, c)) ∈ C → a ∈ S.map (·.1) → j ∈ E'.map (·.1)) (hR : ∀ i q a c, (i, some (q, a, c)) ∈ R → c ∈ E'.map (·.1) → i ∈ S'.map (·.1))
    (hl : S.length + E.length < R.length + C.length) : S.length + E.length < S'.length + E'.length := by
  refine Decidable.byContradiction fun hn => ?_
  have h1 := len_sub L.ndS hS
  have h2 := len_sub L.ndE hE
  rw [List.length_map, List.length_map] at h1 h2
  have h3 := sub_eq L.ndS hS (by rw [List.length_map, List.length_map]; omega)
  have h4 := sub_eq L.ndE hE (by rw [List.length_map, List.length_map]; omega)
  obtain ⟨rk, _, _, k1, k2⟩ := b.rk
  have key : ∀ n, (∀ i ∈ R.map (·.1), rk true i < n → i ∈ S.map (·.1)) ∧ ∀ j ∈ C.map (·.1), rk false j < n → j ∈ E.map (·.1) := by
    intro n
    induction n with
    | zero => exact ⟨fun _ _ h => absurd h (Nat.not_lt_zero _), fun _ _ h => absurd h (Nat.not_lt_zero _)⟩
    | succ n ih =>
      refine ⟨fun i hi hn => ?_, fun j hj hn => ?_⟩
      · obtain ⟨⟨i', o⟩, he, rfl⟩ := List.mem_map.mp hi
        cases o with
        | none =>
          rw [show i' = r from b.none_r i' he]
          exact List.mem_map.mpr ⟨_, L.base, rfl⟩
        | some t =>
          obtain ⟨q, a, c⟩ := t
          obtain ⟨_, _, hc⟩ := b.row _ _ _ _ he
          have := k2 _ _ _ _ he
          exact h3 _ (hR _ _ _ _ he (hE _ (ih.2 c hc (by show rk false c < n; have hn : rk true i' < n + 1 := hn; omega))))
      · obtain ⟨⟨j', q, a, c⟩, he, rfl⟩ := List.mem_map.mp hj
        obtain ⟨_, _, ha⟩ := b.col _ _ _ _ he
        have := k1 _ _ _ _ he
        exact h4 _ (hC _ _ _ _ he (ih.1 a ha (by have hn : rk false j' < n + 1 := hn; omega)))
  have h5 := len_sub b.ndR (m := S.map (·.1)) fun i hi => (key _).1 i hi (Nat.lt_succ_self _)
  have h6 := len_sub b.ndC (m := E.map (·.1)) fun j hj => (key _).2 j hj (Nat.lt_succ_self _)
  rw [List.length_map, List.length_map] at h5 h6
  omega
end
end Ft
set_option Elab.async false
set_option linter.all false
set_option maxRecDepth 100000
namespace FtT
open PySem PySem.Spec PyProof.Rows L2
/-- the i-th statement of the text's top -/
def top (i : Nat) : Stmt := PySem.Challenge.pw_foretoldforms_k17_whole_foretold_by_all.main.body.getD i (.Pass ⟨0, 0, 0, 0⟩)
/-- a def of the top under its name; a method of Table -/
def dd (x : Str) (i : Nat) : He.DefD := ⟨(x, none), x, x, C8.fnArgs (top i), C8.fnBody (top i), C8.fnScope (top i), [], []⟩
def dm (m q : Str) (j : Nat) : He.DefD := ⟨("Table", some m), m, q, C8.fnArgs (inClass (top 22) j), C8.fnBody (inClass (top 22) j), C8.fnScope (inClass (top 22) j), [], []⟩
def fn1 : List He.DefD := [dd "is_integer" 8, dd "is_within" 9, dd "is_word" 10, dd "is_text" 11, dd "is_form" 12, dd "strike" 14, dd "inverse" 15, dd "product" 16, dd "is_row" 20, dd "is_box_text" 21, dd "spread_from" 24, dd "levels_from" 25, dd "check_place" 26, dd "boxes_back" 27, dd "way_in" 28, dd "way_between" 29, dd "are_kept" 30, dd "foretold" 31, dd "_law_pool" 33, dd "_law_draw" 34]
def fn2 : List He.DefD := [dd "_law_form" 35, dd "_law_holes" 36, dd "_law_size" 37, dd "_law_made" 38, dd "_law_boxes" 39, dd "_law_owing" 40, dd "_law_signed" 41, dd "_law_struck" 42, dd "_law_undone" 43, dd "_law_told" 44, dd "_law_tells" 45, dd "_law_levels" 46, dd "_law_quiet" 47, dd "_law_walk" 48, dd "_law_stairs" 49, dd "_law_said" 50, dd "_law_row_right" 51, dd "_law_long" 52, dd "law" 53]
def fn3 : List He.DefD := [dm "__init__" "Table.__init__" 0, dm "keep" "Table.keep" 1]
def fn : List He.DefD := fn1 ++ (fn2 ++ fn3)
def fa1 : List He.Fa := [.glo "is_integer", .glo "is_within", .glo "is_word", .glo "is_text", .glo "is_form", .glo "strike", .glo "inverse", .glo "product", .glo "is_row", .glo "is_box_text", .glo "spread_from", .glo "levels_from", .glo "check_place", .glo "boxes_back", .glo "way_in", .glo "way_between", .glo "are_kept", .glo "foretold", .glo "_law_pool", .glo "_law_draw"]
def fa2 : List He.Fa := [.glo "_law_form", .glo "_law_holes", .glo "_law_size", .glo "_law_made", .glo "_law_boxes", .glo "_law_owing", .glo "_law_signed", .glo "_law_struck", .glo "_law_undone", .glo "_law_told", .glo "_law_tells", .glo "_law_levels", .glo "_law_quiet", .glo "_law_walk", .glo "_law_stairs", .glo "_law_said", .glo "_law_row_right", .glo "_law_long", .glo "law"]
def fa3 : List He.Fa := [.free "len", .free "isinstance", .free "int", .free "bool", .free "str", .free "tuple", .free "all", .free "enumerate", .free "range", .free "sum", .free "abs", .free "max", .free "min", .free "list"]
def fa4 : List He.Fa := [.str "LETTERS" "abcdefghijklmnopqrstuvwxyz", .int "MOST_ROWS" 12, .int "MOST_LETTERS" 30, .glo "Table", .glo "Unlike", .glo "TableError", .cls "Table", .mkr "Table", .meth "Table" "keep", .noat "Table" "boxes", .noat "Table" "height", .noat "Table" "width", .noat "Table" "kept_told", .exc "Unlike", .exm "Unlike" "Unlike" true]
def fa : List He.Fa := fa1 ++ (fa2 ++ (fa3 ++ fa4))
def loose1 : List Str := ["TableError", "BadTable", "NoRow", "NoColumn", "Unlike", "LETTERS", "is_integer", "is_within", "is_word", "is_text", "is_form", "strike", "inverse", "product", "MOST_ROWS", "MOST_LETTERS", "is_row", "is_box_text", "Table", "spread_from", "levels_from", "check_place", "boxes_back", "way_in"]
def loose2 : List Str := ["way_between", "are_kept", "foretold", "_law_pool", "_law_draw", "_law_form", "_law_holes", "_law_size", "_law_made", "_law_boxes", "_law_owing", "_law_signed", "_law_struck", "_law_undone", "_law_told", "_law_tells", "_law_levels", "_law_quiet", "_law_walk", "_law_stairs", "_law_said", "_law_row_right", "_law_long"]
def loose : List Str := loose1 ++ loose2
end FtT
set_option Elab.async false
set_option linter.all false
set_option maxRecDepth 100000
set_option maxHeartbeats 0
namespace FtT
open PySem PySem.Spec PyProof.Rows L2
abbrev R : PySem.W.OpenRow := PySem.W.OpenLaw.row PySem.Challenge.rw_foretoldforms_k17_whole_foretold_by_all
abbrev hk : PySem.W.Hook := He.hookD 5 fa fn
def ob (s : PySem.W.SharedT) : He.AlD := He.obsDG 5 fa fn (HandSHeadRun.getT s)
theorem ob_eq (s : PySem.W.SharedT) : ob s = hk.obs s.abs := He.obsDG_eq (HandSHeadRun.getT_eq s)
theorem run (w : World) : HandSHeadRun.RunEq R (PySem.W.view R.prog [53]) hk ob 4000 loose w := by
  intro os
  kernel_rfl
end FtT
set_option Elab.async false
set_option linter.all false
set_option maxRecDepth 100000
set_option maxHeartbeats 4000000
/-! Rules that the layer lacks: swapcase, s[::-1], enumerate of a tuple, items of a dict with tuple keys, an own error made without words. -/
namespace FtR
open PySem PySem.Spec PyProof.Rows L2 SX

/-! ### s.swapcase() -/
theorem mt_swap {X : Cx} : MtR X "str.swapcase" (fun x xs H Q => ∃ a, x = .str a ∧ xs = [] ∧ (Txt.swapcase a).length ≤ 1000000 ∧ Q (.str (Txt.swapcase a)) H) :=
  mt0 (C := fun a => (Txt.swapcase a).length ≤ 1000000) (g := fun a => .str (Txt.swapcase a)) fun a _ s _ hc h =>
    PySem.W.KXw.swapcase rfl (PyProof.Rows.short24 (by have h1 : (Txt.swapcase a).length ≤ 1000000 := hc; omega)) fun t' k => h _ k ⟨t', rfl⟩

/-! ### s[::-1] of a text -/
def tRevS (te : TE) : TE := fun σ H Q => te σ H fun x H1 => ∃ a : List Nat, x = .str (S a) ∧ a.length ≤ 1000000 ∧ Q (.str (S a.reverse)) H1
theorem rev_picked (a : List Nat) : ((Builtin.Str.strSliceIndices none none (-1) (S a).length).filterMap ((S a).cps[·]?)) = a.reverse := by
  have e : Builtin.Str.strSliceIndices none none (-1) (S a).length = sliceRange (((S a).cps.size : Int) - 1) (-1) (-1) := rfl
  rw [e, PySem.W.krv_sliceRange, PySem.W.krv_range, List.filterMap_reverse, PySem.W.krv_all]
theorem pe_revS {X : Cx} {e : Expr} {te : TE} {k : Nat} {p1 p2 p3 pos : Pos} (he : PE X e te) : PE X (.Subscript e (.Slice none none (some (.UnaryOp .USub (.Constant (.int 1) k p1) p2)) p3) pos) (tRevS te) := by
  constructor
  intro pins s σ H Q I h
  refine Subscript_ (thn (he.run pins s σ H _ I h) fun v s1 hx => ?_)
  obtain ⟨x, H1, I1, r1, a, ex, hz, q⟩ := hx
  subst ex
  obtain ⟨t, rfl⟩ := r1
  have hst : PO X (some (.UnaryOp .USub (.Constant (.int 1) k p1) p2)) (tPart (tUn (rU fun i => .int (-i)) (tC (.int 1)))) := po_some (pe_un un_neg pe_int)
  refine wpAny_Slice (thn (po_none.run pins s1 σ H1 (fun o H2 => o = none ∧ H2 = H1) I1 ⟨rfl, rfl⟩) fun vl s2 g2 => ?_)
  obtain ⟨l, H2, I2, pl, el, e2⟩ := g2
  subst el e2
  refine thn (po_none.run pins s2 σ H2 (fun o H3 => o = none ∧ H3 = H2) I2 ⟨rfl, rfl⟩) fun vu s3 g3 => ?_
  obtain ⟨u, H3, I3, pu, eu, e3⟩ := g3
  subst eu e3
  refine thn (hst.run pins s3 σ H3 (fun o H4 => o = some (-1) ∧ H4 = H3) I3 ⟨1, rfl, -1, rfl, rfl, rfl⟩) fun vs s4 g4 => ?_
  obtain ⟨o, H4, I4, ps, eo, e4⟩ := g4
  subst eo e4
  have I5 : Inv X pins σ H4 { s4 with heap := s4.heap.push { cls := .type "slice", data := .fields #[vl, vu, vs] } } := I4.kept (t' := s4.toks) fun b ob q => Heap.get?_push_of_some _ q
  obtain ⟨l, rfl, e1⟩ := IsPart.raw pl
  obtain ⟨u, rfl, e2⟩ := IsPart.raw pu
  obtain ⟨w, rfl, e3⟩ := IsPart.raw ps
  show wpAny (model X.prog X.w) X.A (subscriptTail e (.Slice none none (some (.UnaryOp .USub (.Constant (.int 1) k p1) p2)) p3) (.str (S a) t) (.ref s4.heap.objs.size)) (EP X pins σ Q) X.xe { s4 with heap := s4.heap.push { cls := .type "slice", data := .fields #[partValue l, partValue u, partValue w] } }
  refine tail_any (ops := [.str (S a) t, .ref s4.heap.objs.size]) (typeIs_str _ _ _) F.slot_str_getitem.lookup ?_ (by with_unfolding_all rfl)
  have ew : w.map (·.1) = some (-1) := e3
  refine wpAny_getItem_str_slice (l := l) (u := u) (st := w) ⟨_, Heap.get?_push_size _ rfl, rfl, rfl⟩ (by rw [ew] <;> rfl) ?_
  have hm : sliceMade (S a) t l u w = .str (S a.reverse) := by
    unfold sliceMade
    have h1 : ((w.map (·.1)).getD 1 == 1 && (slicePicked (S a) l u w).length == (S a).length) = false := by rw [ew] <;> rfl
    rw [if_neg (by rw [h1]; exact Bool.false_ne_true)]
    have h2 : slicePicked (S a) l u w = Builtin.Str.strSliceIndices none none (-1) (S a).length := by
      unfold slicePicked
      rw [e1, e2, ew] <;> rfl
    rw [h2, rev_picked]
  rw [hm]
  exact ⟨by rw [S_len, List.length_reverse, sizeLine_eq]; omega, .str (S a.reverse), H4, I5.tok _, ⟨_, rfl⟩, q⟩

/-! ### enumerate(t), t a tuple -/
def Iet (K : PySem.W.Frag) (a : Addr) : It :=
  ⟨fun i H => ∃ (xs : List V) (x : V), SqT K H a xs ∧ xs[i]? = some x, fun i H v H' => ∃ T x, v = .ref T ∧ H T = none ∧ H' = upd H T (.tup [.int (i : Nat), x]) ∧ ∀ xs, SqT K H a xs → xs[i]? = some x, fun i H => ∃ xs : List V, SqT K H a xs ∧ xs.length ≤ i⟩
theorem turn_enumT {P : Program} {w : World} {K : PySem.W.Frag} {elts : List Expr} {kk : Nat} {tpos : Pos} (a e it : Addr) :
    Turn P w K (.Tuple elts kk tpos) (Iet K a) [e, it] e (fun i h => (∃ old, IsEnum h e it ((i : Nat) : Int) old) ∧ h.IsTupleIter it a i ∧ e ≠ it ∧ a ≠ it) where
  mem := by simp
  obj := fun i h st b hb => by
    obtain ⟨⟨old, he⟩, ⟨o, ho, hc, hd⟩, _⟩ := st
    rcases (show b = e ∨ b = it by simpa using hb) with z | z
    · rw [z]; exact ⟨_, he, fun v q => nomatch q⟩
    · rw [z]; exact ⟨o, ho, fun v q => by rw [hd] at q; cases q⟩
  keep := fun i h h' st k => let ⟨⟨old, he⟩, hi, hne⟩ := st; ⟨⟨old, k e (by simp) _ he⟩, hi.at fun o q => k it (by simp) o q, hne⟩
  item := by
    intro X hP hw hK hc i pins s σ H E I hf st hg
    subst hP hw hK
    obtain ⟨⟨old, he⟩, hit, hne, hat⟩ := st
    obtain ⟨xs, x, hq, hx⟩ := hg
    obtain ⟨its, rv, p, hz⟩ := I.tuple hq
    obtain ⟨u, hu, ru⟩ := rv.get hx
    have hel : e < s.heap.objs.size := Heap.lt_size he
    have hil : it < s.heap.objs.size := by obtain ⟨_, q, _⟩ := hit; exact Heap.lt_size q
    have hlt : i < its.toArray.size := by simpa using (List.getElem?_eq_some_iff.mp hu).1
    have hal : a ≠ e := fun z => by
      obtain ⟨o, h1, h2, _⟩ := p
      rw [z, he] at h1
      cases h1
      have h3 : ("enumerate" : String) = "tuple" := Value.type.inj h2
      exact absurd h3 (by decide +kernel)
    refine wpAny_pyNext_enum_itemD (Draws.tuple (A := X.A.in1) (I.ok.hd hc) it a hat its.toArray) he ⟨hit, p⟩ hlt hne (by simp [hne, hal.symm]) fun y h' tk hy ho st' hT hsz hk => ?_
    have ey : y = u := by
      have e1 : its[i]? = some y := by simpa using hy
      rw [hu] at e1
      exact (Option.some.inj e1).symm
    subst ey
    refine ⟨_, rfl, wpAny_letOwnedTupleGo_enum (s := { s with heap := h', toks := tk + 1 }) ho fun h'' he' sb => ?_⟩
    have hT2 : h''.get? s.heap.objs.size = some { cls := .type "tuple", data := .seq #[.int i tk, y] } := (sb.2 _ (Nat.ne_of_gt hel)).trans hT
    have new : ObjOk X.prog X.w (upd H s.heap.objs.size (.tup [.int (i : Nat), x])) h'' s.heap.objs.size (.tup [.int (i : Nat), x]) :=
      ⟨by show 2 ≤ sizeLine; decide, [.int i tk, y], .cons ⟨_, rfl⟩ (.cons ru .nil), ⟨_, hT2, rfl, _, rfl⟩⟩
    have I1 : Inv X pins σ (upd H s.heap.objs.size (.tup [.int (i : Nat), x])) { s with heap := h'', toks := tk + 1 } :=
      I.turnedNew (ch := [e, it]) (fun b ob hb q => (sb.2 b (fun z => hb (by simp [z]))).trans (hk b ob (fun z => hb (by simp [z])) (fun z => hb (by simp [z])) q)) hf (Nat.le_refl _) new
    refine ⟨.ref s.heap.objs.size, _, I1, rfl, ⟨_, x, rfl, I.hok.fresh (Nat.le_refl _), rfl, fun ys hy => by rw [I.tuple_inj hy hq]; exact hx⟩, ⟨⟨y, ?_⟩, st'.1.at fun o q => (sb.2 it (Ne.symm hne)).trans q, hne, hat⟩, fun b hb => ?_⟩
    · rw [show ((i + 1 : Nat) : Int) = (i : Int) + 1 by omega]
      exact he'
    · have hb' : b < s.heap.objs.size := by
        rcases (show b = e ∨ b = it by simpa using hb) with z | z
        · rw [z]; exact hel
        · rw [z]; exact hil
      rw [upd_ne (Nat.ne_of_lt hb')]
      exact (hf b hb).1
  done := by
    intro X hP hw hK hc i pins s σ H E I hf st hg
    subst hP hw hK
    obtain ⟨⟨old, he⟩, hit, hne, hat⟩ := st
    obtain ⟨xs, hq, hx⟩ := hg
    obtain ⟨its, rv, p, hz⟩ := I.tuple hq
    obtain ⟨f0, f1, f2, f3, f4, f5⟩ := hf it (by simp)
    have hl := rv.length
    have D : Draws X.prog X.w X.A.in1 it [it, a] i (fun _ _ => True) (fun j h => j = i ∧ h.IsTupleIter it a i ∧ h.IsTuple a its.toArray) :=
      ⟨fun _ _ st => let ⟨o, ho, _⟩ := st.2.1; ⟨o, ho⟩, fun _ _ _ st hk => ⟨st.1, st.2.1.at fun o e => hk it (by simp) o e, st.2.2.at fun o e => hk a (by simp) o e⟩, fun j s Q E hj st => absurd hj (by rw [st.1]; exact Nat.lt_irrefl _),
        fun s Q E st hE => wpAny_nextOf_tuple_end (I.ok.hd hc) st.2.1 st.2.2 (by simp; omega) hE⟩
    exact wpAny_pyNext_enum_endD D he ⟨rfl, hit, p⟩ fun h' eb => ⟨rfl, I.turned (t' := s.toks) (fun b o hb q => eb b o hb q) f0 f1 f3 f4 f5⟩
  self := fun A i s Q E st h => let ⟨⟨_, he⟩, _⟩ := st; wpAny_pyIter_enum he h
theorem meets_enum1 {v : Value} {o : Obj} {Hv : Heap → Prop} (B : Begins v o Hv) :
    Meets (Builtin.«enumerate.__new__» ⟨[.type "enumerate", v], []⟩) (fun _ R s => Hv s.heap ∧
      R (.ok (.ret (.ref (s.heap.push o).objs.size))) { s with heap := (s.heap.push o).push { cls := .type "enumerate", data := .fields #[.none, .bool false, .ref s.heap.objs.size, rawInt 0, .none, .none] } }) :=
  .of_wp fun prog w A R s h => by
    obtain ⟨hp, g, d, tk, os⟩ := s
    obtain ⟨h1, h⟩ := h
    have hsub := sub_enumerate
    have q1 : ∀ {A' : Around} {E : Value → Shared → Prop} {Q : Value → Shared → Prop}, Q (.ref hp.objs.size) ⟨hp.push o, g, d, tk, os⟩ → wpAny (model prog w) A' (pyIter v) Q E ⟨hp, g, d, tk, os⟩ :=
      fun q => B.iter prog w _ _ ⟨hp, g, d, tk, os⟩ _ h1 q
    wp_walk using q1
    refine wpAny_stack_any fun st => wpAny_pure ?_
    split
    · rename_i c _ _ _ _ _
      cases (c == Value.type "enumerate")
      · wp_walk using q1
        exact ⟨_, rfl, h⟩
      · wp_walk using q1
        exact ⟨_, rfl, h⟩
    · wp_walk using q1
      exact ⟨_, rfl, h⟩
theorem call_enum1 {prog : Program} {w : World} {A : Around} {E : Value → Shared → Prop} {s : Shared} {v : Value} {o : Obj} {Hv : Heap → Prop} {Q : Value → Shared → Prop} (B : Begins v o Hv) (h1 : Hv s.heap)
    (h : ∀ h', IsEnum h' (s.heap.objs.size + 1) s.heap.objs.size 0 .none → h'.get? s.heap.objs.size = some o → (∀ b u, s.heap.get? b = some u → h'.get? b = some u) → Q (.ref (s.heap.objs.size + 1)) { s with heap := h' }) :
    wpAny (model prog w) A (call (.type "enumerate") [v]) Q E s := by
  refine callType_new F.called_enumerate (by decide) (F.typeCall_enumerate_1 _) (F.newCall_enumerate_1 _) (fun obj => F.args_object_init_2 obj _) F.entry_enumerate_new (meets_enum1 B) ⟨h1, ?_⟩
  have hz : (s.heap.push o).objs.size = s.heap.objs.size + 1 := Heap.size_push ..
  show _ ∧ _
  rw [hz]
  have he := Heap.get?_push_size (s.heap.push o) (o := { cls := .type "enumerate", data := .fields #[.none, .bool false, .ref s.heap.objs.size, rawInt 0, .none, .none] }) rfl
  rw [hz] at he
  exact ⟨⟨_, he, rfl⟩, h _ he (Heap.get?_push_of_some _ (Heap.get?_push_size _ B.free)) fun b u x => Heap.get?_push_of_some _ (Heap.get?_push_of_some _ x)⟩
def iEnumT (K : PySem.W.Frag) (ta : TA) : TI := fun σ H R => ta σ H fun vs H1 => ∃ a xs, vs = [.ref a] ∧ SqT K H1 a xs ∧ R (Iet K a) H1
theorem pi_enumT {X : Cx} {e : Expr} {ta : TA} {p pos tpos : Pos} {elts : List Expr} {kk : Nat} (hg : Gl X "enumerate") (hm : X.mg "enumerate" = none) (ha : PA X [e] ta) (hs : starEach [e] X.env = [(false, eval e X.env)] := by rfl) :
    PI X (.Tuple elts kk tpos) (.Call (.Name "enumerate" p) [e] [] pos) (iEnumT X.K ta) := by
  constructor
  intro pins s σ H R I h
  refine Call_ (ld_blt I hg hm boot_enumerate (PyProof.Rows.callWith_type1 (thn (ha.run pos pins s σ H _ I h) fun us s1 hx => ?_) hs rfl))
  obtain ⟨vs, H1, I1, r1, a, xs, ex, hq, q⟩ := hx
  subst ex
  cases r1 with
  | cons r rr =>
    cases rr
    cases r
    obtain ⟨its, rv, p', hz⟩ := I1.tuple hq
    have hat : a < s1.heap.objs.size := p'.lt
    refine call_enum1 (begins_tuple a its.toArray) p' fun h' he hit hk => wpAny_pyIter_enum he ?_
    have I2 : Inv X pins σ H1 { s1 with heap := h' } := I1.kept (t' := s1.toks) hk
    refine ⟨s1.heap.objs.size + 1, [s1.heap.objs.size + 1, s1.heap.objs.size], _, _, H1, rfl, I2, turn_enumT a (s1.heap.objs.size + 1) s1.heap.objs.size, ⟨⟨.none, he⟩, ⟨_, hit, rfl, rfl⟩, Nat.succ_ne_self _, Nat.ne_of_lt hat⟩, fun b hb => ?_, q⟩
    have hle : s1.heap.objs.size ≤ b := by
      rcases (show b = s1.heap.objs.size + 1 ∨ b = s1.heap.objs.size by simpa using hb) with z | z
      · rw [z]; exact Nat.le_add_right _ _
      · rw [z]; exact Nat.le_refl _
    exact I1.fpOk hle (I1.hok.fresh hle)
theorem walk_enumT {K : PySem.W.Frag} {a : Addr} {xs : List V} : Walk (Iet K a) xs.length (fun H => SqT K H a xs) (YPair (fun i => some (.int (i : Nat))) (fun i => xs[i]?)) := by
  refine ⟨fun i _ hi q => ⟨xs, xs[i], q, by simp [hi]⟩, fun _ q => ⟨xs, q, Nat.le_refl _⟩, fun i H v H' _ q y => ?_⟩
  obtain ⟨T, x, h1, h2, h3, h4⟩ := y
  exact ⟨T, .int (i : Nat), x, h1, h2, h3, rfl, h4 xs q⟩

/-! ### d.items(), d a dict whose keys are tuples -/
theorem frzT2 {X : Cx} {pins : List (Addr × Obj)} {σ : L2.St} {H : Hp} {s : Shared} {d : Addr} {o : Obj} {kvs : List (List Key × V)} (I : Inv X pins σ H s) (h : H d = some (.frz o (.dT kvs))) :
    (d == sysModules) = false ∧ s.heap.get? d = some o ∧ o.ExactDict ∧ ∃ (es : Array DictEntry) (ep : Nat), o.data = .dict es ep ∧ es.size = kvs.length ∧
      ∀ (i : Nat) (k : List Key) (v : V), kvs[i]? = some (k, v) → ∃ (en : DictEntry) (q : Addr), es[i]? = some en ∧ en.key = .ref q ∧ H q = some (.tup (k.map kV)) ∧ RelV v en.val := by
  obtain ⟨hd, z, hs, xs, pr, o', es, ep, ho, hx, hdt, he, _⟩ := I.hok d _ h
  rw [hd] at ho
  cases ho
  refine ⟨hs, hd, hx, es, ep, hdt, ?_, fun i k v e => ?_⟩
  · have l1 : es.size = xs.length := size_of_entries he
    have l2 : kvs.length = xs.length := Paired.length pr
    omega
  · obtain ⟨b, hb, e1, e2, e3⟩ := paired_get pr e
    have q := entry_at he i
    rw [hb] at q
    exact ⟨_, b.2.1, q, rfl, e2, e3⟩
/-- the pairs, each a new tuple of the key's own tuple and the value -/
def ItiT (d : Addr) (o : Obj) (kvs : List (List Key × V)) : It :=
  ⟨fun i H => H d = some (.frz o (.dT kvs)) ∧ i < kvs.length, fun i H x H' => ∃ T k v q, kvs[i]? = some (k, v) ∧ x = .ref T ∧ H T = none ∧ H q = some (.tup (k.map kV)) ∧ H' = upd H T (.tup [.ref q, v]), fun i H => H d = some (.frz o (.dT kvs)) ∧ kvs.length ≤ i⟩
theorem turn_itemsT {P : Program} {w : World} {K : PySem.W.Frag} {d : Addr} {o : Obj} {es : Array DictEntry} {ep : Nat} {kvs : List (List Key × V)} {elts : List Expr} {kk : Nat} {tpos : Pos} (it : Addr) (hod : o.data = .dict es ep) :
    Turn P w K (.Tuple elts kk tpos) (ItiT d o kvs) [it] it (fun i h => ∃ ok ov, IsItemIter h it d i kvs.length ep ok ov) where
  mem := by simp
  obj := fun i h st b hb => by
    have e : b = it := by simpa using hb
    subst e
    obtain ⟨ok, ov, e⟩ := st
    exact ⟨_, e, fun v z => nomatch z⟩
  keep := fun i h h' st k => let ⟨ok, ov, e⟩ := st; ⟨ok, ov, k it (by simp) _ e⟩
  item := by
    intro X hP hw hK hc i pins s σ H E I hf st hg
    subst hP hw hK
    obtain ⟨hd, hi⟩ := hg
    obtain ⟨hs, hgd, hx, es', ep', hdt, hsz, ent⟩ := frzT2 I hd
    obtain ⟨rfl, rfl⟩ := dict_ep hod hdt
    obtain ⟨⟨k, v⟩, hkv⟩ : ∃ p, kvs[i]? = some p := ⟨kvs[i], List.getElem?_eq_getElem hi⟩
    obtain ⟨en, q, hen, hkey, hq, rv⟩ := ent i k v hkv
    obtain ⟨ok, ov, he⟩ := st
    have hlt : it < s.heap.objs.size := Heap.lt_size he
    rw [← hsz] at he
    obtain ⟨hi2, een⟩ := Array.getElem?_eq_some_iff.mp hen
    refine wpAny_pyNext_items_item_raw he ⟨o, hgd, hx, hdt⟩ hi2 fun h' ho hT hz hk => ?_
    rw [een] at ho hT
    refine ⟨_, rfl, wpAny_letOwnedTupleGo_items (s := { s with heap := h' }) ho fun h'' he' sb => ?_⟩
    have hT2 : h''.get? s.heap.objs.size = some { cls := .type "tuple", data := .seq #[en.key, en.val] } := (sb.2 _ (Nat.ne_of_gt hlt)).trans hT
    have new : ObjOk X.prog X.w (upd H s.heap.objs.size (.tup [.ref q, v])) h'' s.heap.objs.size (.tup [.ref q, v]) :=
      ⟨by show 2 ≤ sizeLine; decide, [en.key, en.val], .cons hkey (.cons rv .nil), ⟨_, hT2, rfl, _, rfl⟩⟩
    have I1 : Inv X pins σ (upd H s.heap.objs.size (.tup [.ref q, v])) { s with heap := h'' } :=
      I.turnedNew (t' := s.toks) (ch := [it]) (fun b ob hb e => (sb.2 b (by simpa using hb)).trans (hk b ob (by simpa using hb) e)) hf (Nat.le_refl _) new
    refine ⟨.ref s.heap.objs.size, _, I1, rfl, ⟨_, k, v, q, hkv, rfl, I.hok.fresh (Nat.le_refl _), hq, rfl⟩, ⟨en.key, en.val, ?_⟩, fun b hb => ?_⟩
    · rw [← hsz]; exact he'
    · have e : b = it := by simpa using hb
      rw [e, upd_ne (Nat.ne_of_lt hlt)]
      exact (hf it (by simp)).1
  done := by
    intro X hP hw hK hc i pins s σ H E I hf st hg
    subst hP hw hK
    obtain ⟨hd, hi⟩ := hg
    obtain ⟨f0, f1, f2, f3, f4, f5⟩ := hf it (by simp)
    obtain ⟨hs, hgd, hx, es', ep', hdt, hsz, ent⟩ := frzT2 I hd
    obtain ⟨rfl, rfl⟩ := dict_ep hod hdt
    obtain ⟨ok, ov, he⟩ := st
    rw [← hsz] at he
    exact wpAny_pyNext_items_end_raw (I.ok.hd hc) he ⟨o, hgd, hx, hdt⟩ (by omega) fun h' eb => ⟨rfl, I.turned (t' := s.toks) (fun b ob hb e => eb b ob hb e) f0 f1 f3 f4 f5⟩
  self := fun A i s Q E st h => let ⟨_, _, e⟩ := st; PySem.W.kcp_self e h
def iItemsT (td : TE) : TI := fun σ H R => td σ H fun x H1 => ∃ d o kvs, x = .ref d ∧ H1 d = some (.frz o (.dT kvs)) ∧ R (ItiT d o kvs) H1
theorem pi_itemsT {X : Cx} {e : Expr} {td : TE} {apos cpos tpos : Pos} {elts : List Expr} {kk : Nat} (he : PE X e td) (hbase : attributeBase e "items" X.env (eval e X.env) = eval e X.env := by rfl) (hline : (apos.endLine == cpos.line) = true := by rfl) :
    PI X (.Tuple elts kk tpos) (.Call (.Attribute e "items" apos) [] [] cpos) (iItemsT td) := by
  constructor
  intro pins s σ H R I h
  refine wpAny_Call_method (T := "dict") (id := "dict.items") hbase rfl hline F.plainAttrs_dict F.slot_dict_items F.type_dict_items (thn (he.run pins s σ H _ I h) fun u s1 hx => ?_)
  obtain ⟨x, H1, I1, rx, d, o, kvs, ex, hd, q⟩ := hx
  subst ex
  obtain rfl : u = Value.ref d := rx
  obtain ⟨hs, hgd, hx, es, ep, hdt, hsz, ent⟩ := frzT2 I1 hd
  have raw : s1.heap.DictRaw d es ep := ⟨o, hgd, hx, hdt⟩
  refine ⟨raw.typeIs, fun b q => ?_, ?_⟩
  · cases q
    exact ⟨o, hgd, hx.2.1⟩
  have I2 : Inv X pins σ H1 { s1 with heap := s1.heap.push { cls := .type "dict_items", data := .fields #[.ref d] } } := I1.kept (t' := s1.toks) fun b ob q => Heap.get?_push_of_some _ q
  have fin : wpAny (model X.prog X.w) X.A (pyIter (.ref s1.heap.objs.size)) (PIE X pins σ (.Tuple elts kk tpos) R) X.xe { s1 with heap := s1.heap.push { cls := .type "dict_items", data := .fields #[.ref d] } } := by
    refine wpAny_pyIter_items_raw (d := d) (es := es) (ep := ep) ⟨_, Heap.get?_push_size _ rfl, rfl, rfl⟩ ⟨o, Heap.get?_push_of_some _ hgd, hx, hdt⟩ (pi_one (tk := s1.toks) I2 _ (turn_itemsT _ hdt) ⟨.none, .none, ?_⟩ q)
    rw [← hsz]
    exact Heap.get?_push_size _ rfl
  show wpAny _ _ (callWith cpos (.builtin "dict.items") [.ref d] [] []) _ X.xe s1
  exact method_meetsIn F.slot_dict_items F.entry_dict_items rfl (PySem.evalArgs_none ⟨rfl, raw.typeIs, F.args_dict_items_1 _, _, meets_dict_items_raw d hs, ⟨es, ep, raw⟩, fin⟩)
theorem walk_itemsT {d : Addr} {o : Obj} {kvs : List (List Key × V)} : Walk (ItiT d o kvs) kvs.length (fun H => H d = some (.frz o (.dT kvs)))
    (fun i H x H' => ∃ T k v q, kvs[i]? = some (k, v) ∧ x = .ref T ∧ H T = none ∧ H q = some (.tup (k.map kV)) ∧ H' = upd H T (.tup [.ref q, v])) :=
  ⟨fun _ _ hi q => ⟨q, hi⟩, fun _ q => ⟨q, Nat.le_refl _⟩, fun _ _ _ _ _ _ y => y⟩

/-! ### X(), X an own error without own __init__ -/
theorem pmk_own0 {X : Cx} {C : Addr} {bmB : List Value} {B newId initId : String} {x : Str} {p pos : Pos} (F : ExcBaseFacts B newId initId bmB) (q : PySem.W.excIn X.K C bmB newId = true) (gC : X.mg x = some (.ref C)) (kC : PySem.W.keepIn X.K (.ref C) = true) (r : Raises X (.ref C)) (hg : Gl X x)
    (hdb : (x == ("__debug__" : Str)) = false := by decide) : PMk X (.Call (.Name x p) [] [] pos) (fun _ H Q => Q (.ref C) none H) := by
  intro pins s σ H Q I h
  refine wpAny_Call_Name_kw (ld_glob I hg gC ?_ hdb)
  refine PySem.W.callWith_K0 I.kIn kC ?_
  show wpAny _ _ (call (.ref C) []) _ _ _
  obtain ⟨bm, N, nm, qn, bs, hdct, sn, sub, ab, col, dd, k0, k1, k2, k3, k5, mN, hC, hN, hni, T⟩ := exc_obj I.kIn q
  refine wpAny_call_exc_subT F T hC hN hni (fun h' e hm => ?_) (by show 0 ≤ sizeLine; omega)
  exact mk_of I hm r h (I.hok.gone hm.new)
end FtR
set_option Elab.async false
set_option linter.all false
set_option maxRecDepth 100000
set_option maxHeartbeats 4000000
namespace FtT
open PySem PySem.Spec PyProof.Rows L2
/-- what the walk asks of the top -/
structure Tx (K : PySem.W.Frag) (mg : Str → Option Value) : Prop where
  ex : ∃ h : Heap, K.In h ∧ h.Ns mainGlobals mg
  c : He.SaysD fa fn K
/-- a def of the top as it stands -/
structure DefE (K : PySem.W.Frag) (mg : Str → Option Value) (x : Str) (st : Stmt) : Prop where
  ex : ∃ (f : Addr) (fd : FuncData), C8.Def K mg x st f fd ∧ fd.defaults = .none
abbrev cTab (K : PySem.W.Frag) : Addr := He.ga K "Table"
abbrev cUnl (K : PySem.W.Frag) : Addr := He.ga K "Unlike"
section
variable {K : PySem.W.Frag} {mg : Str → Option Value}
theorem Tx.fact (T : Tx K mg) (i : Nat) {f : He.Fa} (h : fa[i]? = some f) : f.ok K = true := T.c.fact i h
theorem Tx.free_ (T : Tx K mg) (i : Nat) {x : Str} (h : fa[i]? = some (.free x)) : mg x = none := by
  obtain ⟨hh, X, G⟩ := T.ex
  exact He.free_ok X G (T.c.fact i h)
theorem Tx.glo_ (T : Tx K mg) (i : Nat) {x : Str} (h : fa[i]? = some (.glo x)) : mg x = some (.ref (He.ga K x)) := by
  obtain ⟨hh, X, G⟩ := T.ex
  exact He.glo_ok X G (T.c.fact i h)
theorem Tx.str_ (T : Tx K mg) (i : Nat) {x z : Str} (h : fa[i]? = some (.str x z)) : ∃ u, mg x = some u ∧ RelV (.str z) u := by
  obtain ⟨hh, X, G⟩ := T.ex
  obtain ⟨t, e⟩ := He.str_ok X G (T.c.fact i h)
  exact ⟨_, e, t, rfl⟩
theorem Tx.int_ (T : Tx K mg) (i : Nat) {x : Str} {z : Int} (h : fa[i]? = some (.int x z)) : ∃ u, mg x = some u ∧ RelV (.int z) u := by
  obtain ⟨hh, X, G⟩ := T.ex
  obtain ⟨t, e⟩ := He.int_ok X G (T.c.fact i h)
  exact ⟨_, e, t, rfl⟩
theorem fun_of {x qual : Str} {st : Stmt} {f : Addr} {fd : FuncData} (F : FunD K x qual (C8.fnArgs st) (C8.fnBody st) (C8.fnScope st) [] [] f fd) : C8.Fun K x qual st f fd ∧ fd.defaults = .none := by
  obtain ⟨oc, od, dV, kV, doc, pm, an, cdv, ct, osl, rfl, lk, hcd, hD, _⟩ := F.ex
  rcases hD with ⟨_, e⟩ | ⟨e, _⟩
  · exact ⟨⟨oc, od, dV, kV, doc, pm, an, cdv, ct, osl, rfl, lk, hcd⟩, e⟩
  · exact absurd rfl e
theorem Tx.def_ (T : Tx K mg) {x : Str} {i j : Nat} (hj : fn[j]? = some (dd x i)) (gj : fa[j]? = some (.glo x)) : DefE K mg x (top i) := by
  obtain ⟨fd, F⟩ := T.c.def_ j hj
  have F2 : FunD K x x (C8.fnArgs (top i)) (C8.fnBody (top i)) (C8.fnScope (top i)) [] [] (He.ga K x) fd := F
  obtain ⟨h1, h2⟩ := fun_of F2
  exact ⟨_, fd, ⟨h1, T.glo_ j gj, F2.kp⟩, h2⟩
theorem Tx.d_is_integer (T : Tx K mg) : DefE K mg "is_integer" (top 8) := T.def_ (j := 0) rfl (by rfl)
theorem Tx.d_is_within (T : Tx K mg) : DefE K mg "is_within" (top 9) := T.def_ (j := 1) rfl (by rfl)
theorem Tx.d_is_word (T : Tx K mg) : DefE K mg "is_word" (top 10) := T.def_ (j := 2) rfl (by rfl)
theorem Tx.d_is_text (T : Tx K mg) : DefE K mg "is_text" (top 11) := T.def_ (j := 3) rfl (by rfl)
theorem Tx.d_is_form (T : Tx K mg) : DefE K mg "is_form" (top 12) := T.def_ (j := 4) rfl (by rfl)
theorem Tx.d_strike (T : Tx K mg) : DefE K mg "strike" (top 14) := T.def_ (j := 5) rfl (by rfl)
theorem Tx.d_inverse (T : Tx K mg) : DefE K mg "inverse" (top 15) := T.def_ (j := 6) rfl (by rfl)
theorem Tx.d_product (T : Tx K mg) : DefE K mg "product" (top 16) := T.def_ (j := 7) rfl (by rfl)
theorem Tx.d_is_row (T : Tx K mg) : DefE K mg "is_row" (top 20) := T.def_ (j := 8) rfl (by rfl)
theorem Tx.d_is_box_text (T : Tx K mg) : DefE K mg "is_box_text" (top 21) := T.def_ (j := 9) rfl (by rfl)
theorem Tx.d_spread_from (T : Tx K mg) : DefE K mg "spread_from" (top 24) := T.def_ (j := 10) rfl (by rfl)
theorem Tx.d_levels_from (T : Tx K mg) : DefE K mg "levels_from" (top 25) := T.def_ (j := 11) rfl (by rfl)
theorem Tx.d_check_place (T : Tx K mg) : DefE K mg "check_place" (top 26) := T.def_ (j := 12) rfl (by rfl)
theorem Tx.d_boxes_back (T : Tx K mg) : DefE K mg "boxes_back" (top 27) := T.def_ (j := 13) rfl (by rfl)
theorem Tx.d_way_in (T : Tx K mg) : DefE K mg "way_in" (top 28) := T.def_ (j := 14) rfl (by rfl)
theorem Tx.d_way_between (T : Tx K mg) : DefE K mg "way_between" (top 29) := T.def_ (j := 15) rfl (by rfl)
theorem Tx.d_are_kept (T : Tx K mg) : DefE K mg "are_kept" (top 30) := T.def_ (j := 16) rfl (by rfl)
theorem Tx.d_foretold (T : Tx K mg) : DefE K mg "foretold" (top 31) := T.def_ (j := 17) rfl (by rfl)
theorem Tx.d_law_pool (T : Tx K mg) : DefE K mg "_law_pool" (top 33) := T.def_ (j := 18) rfl (by rfl)
theorem Tx.d_law_draw (T : Tx K mg) : DefE K mg "_law_draw" (top 34) := T.def_ (j := 19) rfl (by rfl)
theorem Tx.d_law_form (T : Tx K mg) : DefE K mg "_law_form" (top 35) := T.def_ (j := 20) rfl (by rfl)
theorem Tx.d_law_holes (T : Tx K mg) : DefE K mg "_law_holes" (top 36) := T.def_ (j := 21) rfl (by rfl)
theorem Tx.d_law_size (T : Tx K mg) : DefE K mg "_law_size" (top 37) := T.def_ (j := 22) rfl (by rfl)
theorem Tx.d_law_made (T : Tx K mg) : DefE K mg "_law_made" (top 38) := T.def_ (j := 23) rfl (by rfl)
theorem Tx.d_law_boxes (T : Tx K mg) : DefE K mg "_law_boxes" (top 39) := T.def_ (j := 24) rfl (by rfl)
theorem Tx.d_law_owing (T : Tx K mg) : DefE K mg "_law_owing" (top 40) := T.def_ (j := 25) rfl (by rfl)
theorem Tx.d_law_signed (T : Tx K mg) : DefE K mg "_law_signed" (top 41) := T.def_ (j := 26) rfl (by rfl)
theorem Tx.d_law_struck (T : Tx K mg) : DefE K mg "_law_struck" (top 42) := T.def_ (j := 27) rfl (by rfl)
theorem Tx.d_law_undone (T : Tx K mg) : DefE K mg "_law_undone" (top 43) := T.def_ (j := 28) rfl (by rfl)
theorem Tx.d_law_told (T : Tx K mg) : DefE K mg "_law_told" (top 44) := T.def_ (j := 29) rfl (by rfl)
theorem Tx.d_law_tells (T : Tx K mg) : DefE K mg "_law_tells" (top 45) := T.def_ (j := 30) rfl (by rfl)
theorem Tx.d_law_levels (T : Tx K mg) : DefE K mg "_law_levels" (top 46) := T.def_ (j := 31) rfl (by rfl)
theorem Tx.d_law_quiet (T : Tx K mg) : DefE K mg "_law_quiet" (top 47) := T.def_ (j := 32) rfl (by rfl)
theorem Tx.d_law_walk (T : Tx K mg) : DefE K mg "_law_walk" (top 48) := T.def_ (j := 33) rfl (by rfl)
theorem Tx.d_law_stairs (T : Tx K mg) : DefE K mg "_law_stairs" (top 49) := T.def_ (j := 34) rfl (by rfl)
theorem Tx.d_law_said (T : Tx K mg) : DefE K mg "_law_said" (top 50) := T.def_ (j := 35) rfl (by rfl)
theorem Tx.d_law_row_right (T : Tx K mg) : DefE K mg "_law_row_right" (top 51) := T.def_ (j := 36) rfl (by rfl)
theorem Tx.d_law_long (T : Tx K mg) : DefE K mg "_law_long" (top 52) := T.def_ (j := 37) rfl (by rfl)
theorem Tx.d_law (T : Tx K mg) : DefE K mg "law" (top 53) := T.def_ (j := 38) rfl (by rfl)
theorem Tx.m_len (T : Tx K mg) : mg "len" = none := T.free_ 39 (by rfl)
theorem Tx.m_isinstance (T : Tx K mg) : mg "isinstance" = none := T.free_ 40 (by rfl)
theorem Tx.m_int (T : Tx K mg) : mg "int" = none := T.free_ 41 (by rfl)
theorem Tx.m_bool (T : Tx K mg) : mg "bool" = none := T.free_ 42 (by rfl)
theorem Tx.m_str (T : Tx K mg) : mg "str" = none := T.free_ 43 (by rfl)
theorem Tx.m_tuple (T : Tx K mg) : mg "tuple" = none := T.free_ 44 (by rfl)
theorem Tx.m_all (T : Tx K mg) : mg "all" = none := T.free_ 45 (by rfl)
theorem Tx.m_enumerate (T : Tx K mg) : mg "enumerate" = none := T.free_ 46 (by rfl)
theorem Tx.m_range (T : Tx K mg) : mg "range" = none := T.free_ 47 (by rfl)
theorem Tx.m_sum (T : Tx K mg) : mg "sum" = none := T.free_ 48 (by rfl)
theorem Tx.m_abs (T : Tx K mg) : mg "abs" = none := T.free_ 49 (by rfl)
theorem Tx.m_max (T : Tx K mg) : mg "max" = none := T.free_ 50 (by rfl)
theorem Tx.m_min (T : Tx K mg) : mg "min" = none := T.free_ 51 (by rfl)
theorem Tx.m_list (T : Tx K mg) : mg "list" = none := T.free_ 52 (by rfl)
theorem Tx.m_LETTERS (T : Tx K mg) : ∃ u, mg "LETTERS" = some u ∧ RelV (.str "abcdefghijklmnopqrstuvwxyz") u := T.str_ 53 (by rfl)
theorem Tx.m_ROWS (T : Tx K mg) : ∃ u, mg "MOST_ROWS" = some u ∧ RelV (.int 12) u := T.int_ 54 (by rfl)
theorem Tx.m_MOST (T : Tx K mg) : ∃ u, mg "MOST_LETTERS" = some u ∧ RelV (.int 30) u := T.int_ 55 (by rfl)
theorem Tx.g_Table (T : Tx K mg) : mg "Table" = some (.ref (cTab K)) := T.glo_ 56 (by rfl)
theorem Tx.g_Unlike (T : Tx K mg) : mg "Unlike" = some (.ref (cUnl K)) := T.glo_ 57 (by rfl)
theorem Tx.g_Error (T : Tx K mg) : mg "TableError" = some (.ref (He.ga K "TableError")) := T.glo_ 58 (by rfl)
theorem Tx.cls (T : Tx K mg) : Cls K (cTab K) := He.cls_ok (T.fact 59 (f := .cls "Table") (by rfl))
theorem Tx.mkr (T : Tx K mg) : Mk K (cTab K) (He.ma K (cTab K) "__init__") := He.mkr_ok (T.fact 60 (f := .mkr "Table") (by rfl))
theorem Tx.kp (T : Tx K mg) : Meth K (cTab K) "keep" (He.ma K (cTab K) "keep") := He.meth_ok (T.fact 61 (f := .meth "Table" "keep") (by rfl))
theorem Tx.n_boxes (T : Tx K mg) : NoAttr K (cTab K) "boxes" := He.noat_ok (T.fact 62 (f := .noat "Table" "boxes") (by rfl))
theorem Tx.n_height (T : Tx K mg) : NoAttr K (cTab K) "height" := He.noat_ok (T.fact 63 (f := .noat "Table" "height") (by rfl))
theorem Tx.n_width (T : Tx K mg) : NoAttr K (cTab K) "width" := He.noat_ok (T.fact 64 (f := .noat "Table" "width") (by rfl))
theorem Tx.n_kept_told (T : Tx K mg) : NoAttr K (cTab K) "kept_told" := He.noat_ok (T.fact 65 (f := .noat "Table" "kept_told") (by rfl))
theorem Tx.exc (T : Tx K mg) : PySem.W.excIn K (cUnl K) He.veBase "ValueError.__new__" = true ∧ PySem.W.keepIn K (.ref (cUnl K)) = true ∧ PySem.W.subIn K (.ref (cUnl K)) (.type "BaseException") = some true ∧ PySem.W.typeIn K (.ref (cUnl K)) = some (.type "type") := He.exc_ok (T.fact 66 (f := .exc "Unlike") (by rfl))
theorem Tx.exm (T : Tx K mg) : PySem.W.exmOne K (.ref (cUnl K)) (.ref (cUnl K)) = some true := He.exm_ok (T.fact 67 (f := .exm "Unlike" "Unlike" true) (by rfl))
theorem Tx.init (T : Tx K mg) : ∃ fd, C8.Fun K "__init__" "Table.__init__" (inClass (top 22) 0) (He.ma K (cTab K) "__init__") fd ∧ fd.defaults = .none := by
  obtain ⟨fd, F⟩ := T.c.def_ 39 (d := dm "__init__" "Table.__init__" 0) (by rfl)
  exact ⟨fd, fun_of F⟩
theorem Tx.keep (T : Tx K mg) : ∃ fd, C8.Fun K "keep" "Table.keep" (inClass (top 22) 1) (He.ma K (cTab K) "keep") fd ∧ fd.defaults = .none := by
  obtain ⟨fd, F⟩ := T.c.def_ 40 (d := dm "keep" "Table.keep" 1) (by rfl)
  exact ⟨fd, fun_of F⟩
end
/-! ### promises by the number of the arguments -/
abbrev Pr1 := V → Hp → VK → XK → Prop
abbrev Pr2 := V → V → Hp → VK → XK → Prop
abbrev Pr3 := V → V → V → Hp → VK → XK → Prop
abbrev Pr4 := V → V → V → V → Hp → VK → XK → Prop
def sp1 (P : Pr1) : Sp := fun vs H Q E => ∃ a, vs = [a] ∧ P a H Q E
def sp2 (P : Pr2) : Sp := fun vs H Q E => ∃ a b, vs = [a, b] ∧ P a b H Q E
def sp3 (P : Pr3) : Sp := fun vs H Q E => ∃ a b c, vs = [a, b, c] ∧ P a b c H Q E
def sp4 (P : Pr4) : Sp := fun vs H Q E => ∃ a b c d, vs = [a, b, c, d] ∧ P a b c d H Q E
section
variable {P : Program} {w : World} {K : PySem.W.Frag} {mg : Str → Option Value} {base : Heap}
/-- THE RULE for a def of the top that lets nothing out: binds, promise, body -/
theorem cal_of {x : Str} {st : Stmt} {N ps : List Str} {k : Nat} {sp : Sp} (D : DefE K mg x st) (S : C8.scC N ps (C8.fnScope st) = true)
    (b : ∀ (kV doc pm : Value) (an : Option Addr) (cdv ct : Value) (us : List Value), us.length = ps.length → bindArgs (PySem.W.fnOf x x (C8.fnArgs st) (C8.fnBody st) (C8.fnScope st) .none kV doc pm an cdv ct) ⟨us, []⟩ = pure (ps.zip us))
    (len : ∀ vs H Q E, sp vs H Q E → vs.length = ps.length)
    (hbody : ∀ (f : Addr) (cdv : Value) (A : Around) (outer : List Env) (s : Shared) (H : Hp) (vs : List V) (Q : VK) (E : XK), Room k (A.deeper (envOfC x (C8.fnScope st) s.heap.objs.size f cdv)) → sp vs H Q E →
      ∃ t, PSs (cxOf CX0 P w K mg base N x (C8.fnScope st) f cdv A outer s H E).nox (C8.fnBody st) t ∧ t { nx := fun _ H' => Q .non H', rt := Q } (start N vs) H) : C8.Cal P w K mg base (k + 1) x sp [] := by
  obtain ⟨f, fd, F, hd⟩ := D.ex
  exact C8.cal0 F (F.fn.binds hd b) .nil (C8.fnScope_by S) len fun cdv A outer s H vs Q E hr h => hbody f cdv A outer s H vs Q E hr h
theorem cal1 {x p1 : Str} {st : Stmt} {N : List Str} {k : Nat} {R : Pr1} (D : DefE K mg x st) (S : C8.scC N [p1] (C8.fnScope st) = true)
    (b : ∀ (kV doc pm : Value) (an : Option Addr) (cdv ct : Value) (us : List Value), us.length = [p1].length → bindArgs (PySem.W.fnOf x x (C8.fnArgs st) (C8.fnBody st) (C8.fnScope st) .none kV doc pm an cdv ct) ⟨us, []⟩ = pure ([p1].zip us))
    (hbody : ∀ (f : Addr) (cdv : Value) (A : Around) (outer : List Env) (s : Shared) (H : Hp) (a1 : V) (Q : VK) (E : XK), N.Nodup → Room k (A.deeper (envOfC x (C8.fnScope st) s.heap.objs.size f cdv)) → R a1 H Q E →
      ∃ t, PSs (cxOf CX0 P w K mg base N x (C8.fnScope st) f cdv A outer s H E).nox (C8.fnBody st) t ∧ t { nx := fun _ H' => Q .non H', rt := Q } (start N [a1]) H) : C8.Cal P w K mg base (k + 1) x (sp1 R) [] :=
  cal_of D S b (fun vs H Q E h => by obtain ⟨a, rfl, _⟩ := h; rfl) fun f cdv A outer s H vs Q E hr h => by
    obtain ⟨a, rfl, h⟩ := h
    exact hbody f cdv A outer s H a Q E (C8.fnScope_by S).nd hr h
theorem cal2 {x p1 p2 : Str} {st : Stmt} {N : List Str} {k : Nat} {R : Pr2} (D : DefE K mg x st) (S : C8.scC N [p1, p2] (C8.fnScope st) = true)
    (b : ∀ (kV doc pm : Value) (an : Option Addr) (cdv ct : Value) (us : List Value), us.length = [p1, p2].length → bindArgs (PySem.W.fnOf x x (C8.fnArgs st) (C8.fnBody st) (C8.fnScope st) .none kV doc pm an cdv ct) ⟨us, []⟩ = pure ([p1, p2].zip us))
    (hbody : ∀ (f : Addr) (cdv : Value) (A : Around) (outer : List Env) (s : Shared) (H : Hp) (a1 a2 : V) (Q : VK) (E : XK), N.Nodup → Room k (A.deeper (envOfC x (C8.fnScope st) s.heap.objs.size f cdv)) → R a1 a2 H Q E →
      ∃ t, PSs (cxOf CX0 P w K mg base N x (C8.fnScope st) f cdv A outer s H E).nox (C8.fnBody st) t ∧ t { nx := fun _ H' => Q .non H', rt := Q } (start N [a1, a2]) H) : C8.Cal P w K mg base (k + 1) x (sp2 R) [] :=
  cal_of D S b (fun vs H Q E h => by obtain ⟨a, a2, rfl, _⟩ := h; rfl) fun f cdv A outer s H vs Q E hr h => by
    obtain ⟨a, a2, rfl, h⟩ := h
    exact hbody f cdv A outer s H a a2 Q E (C8.fnScope_by S).nd hr h
theorem cal3 {x p1 p2 p3 : Str} {st : Stmt} {N : List Str} {k : Nat} {R : Pr3} (D : DefE K mg x st) (S : C8.scC N [p1, p2, p3] (C8.fnScope st) = true)
    (b : ∀ (kV doc pm : Value) (an : Option Addr) (cdv ct : Value) (us : List Value), us.length = [p1, p2, p3].length → bindArgs (PySem.W.fnOf x x (C8.fnArgs st) (C8.fnBody st) (C8.fnScope st) .none kV doc pm an cdv ct) ⟨us, []⟩ = pure ([p1, p2, p3].zip us))
    (hbody : ∀ (f : Addr) (cdv : Value) (A : Around) (outer : List Env) (s : Shared) (H : Hp) (a1 a2 a3 : V) (Q : VK) (E : XK), N.Nodup → Room k (A.deeper (envOfC x (C8.fnScope st) s.heap.objs.size f cdv)) → R a1 a2 a3 H Q E →
      ∃ t, PSs (cxOf CX0 P w K mg base N x (C8.fnScope st) f cdv A outer s H E).nox (C8.fnBody st) t ∧ t { nx := fun _ H' => Q .non H', rt := Q } (start N [a1, a2, a3]) H) : C8.Cal P w K mg base (k + 1) x (sp3 R) [] :=
  cal_of D S b (fun vs H Q E h => by obtain ⟨a, a2, a3, rfl, _⟩ := h; rfl) fun f cdv A outer s H vs Q E hr h => by
    obtain ⟨a, a2, a3, rfl, h⟩ := h
    exact hbody f cdv A outer s H a a2 a3 Q E (C8.fnScope_by S).nd hr h
theorem cal4 {x p1 p2 p3 p4 : Str} {st : Stmt} {N : List Str} {k : Nat} {R : Pr4} (D : DefE K mg x st) (S : C8.scC N [p1, p2, p3, p4] (C8.fnScope st) = true)
    (b : ∀ (kV doc pm : Value) (an : Option Addr) (cdv ct : Value) (us : List Value), us.length = [p1, p2, p3, p4].length → bindArgs (PySem.W.fnOf x x (C8.fnArgs st) (C8.fnBody st) (C8.fnScope st) .none kV doc pm an cdv ct) ⟨us, []⟩ = pure ([p1, p2, p3, p4].zip us))
    (hbody : ∀ (f : Addr) (cdv : Value) (A : Around) (outer : List Env) (s : Shared) (H : Hp) (a1 a2 a3 a4 : V) (Q : VK) (E : XK), N.Nodup → Room k (A.deeper (envOfC x (C8.fnScope st) s.heap.objs.size f cdv)) → R a1 a2 a3 a4 H Q E →
      ∃ t, PSs (cxOf CX0 P w K mg base N x (C8.fnScope st) f cdv A outer s H E).nox (C8.fnBody st) t ∧ t { nx := fun _ H' => Q .non H', rt := Q } (start N [a1, a2, a3, a4]) H) : C8.Cal P w K mg base (k + 1) x (sp4 R) [] :=
  cal_of D S b (fun vs H Q E h => by obtain ⟨a, a2, a3, a4, rfl, _⟩ := h; rfl) fun f cdv A outer s H vs Q E hr h => by
    obtain ⟨a, a2, a3, a4, rfl, h⟩ := h
    exact hbody f cdv A outer s H a a2 a3 a4 Q E (C8.fnScope_by S).nd hr h
end
end FtT
set_option Elab.async false
set_option linter.all false
set_option maxRecDepth 100000
set_option maxHeartbeats 4000000
namespace FtP
open PySem PySem.Spec PyProof.Rows L2 SX Ft FtT FtR C8
/-- the signs of a stack, as one-letter texts -/
def sig (st : List Nat) : List V := st.reverse.map fun c => V.str (S [c])
theorem sig_nil : sig [] = [] := rfl
theorem sig_cons (c : Nat) (st : List Nat) : sig (c :: st) = sig st ++ [V.str (S [c])] := by unfold sig; rw [List.reverse_cons, List.map_append] <;> rfl
theorem sig_len (st : List Nat) : (sig st).length = st.length := by unfold sig; simp
theorem join1 (l : List Nat) : Txt.join (S []) (l.map fun c => S [c]) = S l := by
  have h := join_S [] (l.map fun c => [c])
  rw [List.map_map] at h
  have e : (S ∘ fun c => [c]) = (fun c : Nat => S [c]) := rfl
  rw [e] at h
  rw [h]
  congr 1
  induction l with
  | nil => rfl
  | cons c r ih =>
    cases r with
    | nil => rfl
    | cons d r =>
      show [c] ++ ([] ++ TL.joinL [] (([d] : List Nat) :: r.map fun c => [c])) = c :: d :: r
      rw [List.nil_append]
      show c :: TL.joinL [] ((d :: r).map fun c => [c]) = c :: d :: r
      rw [ih (join_S [] _ ▸ by rw [List.map_map] <;> rfl)]
theorem swap_S {w : List Nat} (h : Wd w) : Txt.swapcase (S w) = S (w.map sw) := by
  unfold Txt.swapcase
  rw [placed_single (S w) _ sw fun i c hc => ?_]
  · exact TL.ext_tl (by show ((S w).cps.map sw).toList = _; rw [Array.toList_map] <;> rfl)
  · have hc' : (S w).cps[i]? = some c := by simpa using hc
    have hs : Sg c := h c (List.mem_of_getElem? hc)
    unfold Unicode.lowerAt
    rw [hc']
    have hne : (c == 0x3A3) = false := by
      rcases hs with rfl | rfl | rfl | rfl <;> rfl
    simp only [hne, Bool.false_and, Bool.false_eq_true, if_false]
    rcases hs with rfl | rfl | rfl | rfl <;> decide +kernel
theorem swap1 {c : Nat} (h : Sg c) : Txt.swapcase (S [c]) = S [sw c] := swap_S (w := [c]) fun x hx => by rw [List.mem_singleton.mp hx]; exact h
/-- what is struck out -/
def prStrike : Pr1 := fun a H Q _ => ∃ w : List Nat, a = .str (S w) ∧ Wd w ∧ w.length ≤ 100000 ∧ ∀ H', Same H H' → Q (.str (S (nf w))) H'
section
variable {P : Program} {w : World} {K : PySem.W.Frag} {mg : Str → Option Value} {base : Heap}
theorem c_strike (T : Tx K mg) : Cal P w K mg base 1 "strike" (sp1 prStrike) [] := by
  refine cal1 (N := ["row", "found", "sign"]) (p1 := "row") T.d_strike (by decide +kernel) (fun _ _ _ _ _ _ us hl => match us, hl with | [_], _ => rfl) fun f cdv A outer s H a1 Q E nd hr h => ?_
  obtain ⟨w, rfl, hw, hl, k⟩ := h
  refine ⟨_, pss_cons (ps_set (i := 1) nd rfl (.inl rfl) (pe_lst pa_nil))
    (pss_cons (ps_for PassesOwn.never rfl (pi_str (pv 0)) (pg_name (i := 2) nd rfl (.inl rfl))
      (pss_one (ps_if (PW.pt (pw_and (pt_cmpR op_gt (pe_callB call_len_seq (by rfl) T.m_len boot_len (pa_cons (pv 1) pa_nil)) pe_int (nomark _))
          (pw_and1 (pt_cmpR op_eq (pe_ix ix_list (pv 1) (pe_un un_neg pe_int) (fun _ _ => rfl)) (pe_m0 F.slot_str_swapcase F.type_str_swapcase mt_swap (pv 2)) (nomark _)))))
        (pss_one (ps_expr (pe_bm0 F.plainAttrs_list F.slot_list_pop F.type_list_pop mt_pop (pv 1))))
        (pss_one (ps_expr (pe_bm F.plainAttrs_list F.slot_list_append F.type_list_append mt_append (pv 1) (pa_cons (pv 2) pa_nil)))))))
    (pss_one (ps_ret (pe_join pe_str (pv 1))))), ?_⟩
  refine ⟨by show 0 ≤ sizeLine; omega, fun l nl => ?_⟩
  refine ⟨_, rfl, S w, rfl, for_it walk_str (fun i σ H1 => ∃ v, σ = [some (.str (S w)), some (.ref l), v] ∧ Same H H1 ∧ H1 l = some (.lst (sig (act (w.take i) [])))) ?_ (fun _ _ _ _ _ => trivial) ?_ ?_⟩
  · exact ⟨none, rfl, fun b o e => by rw [upd_ne (ne_of_none e nl)]; exact e, upd_same⟩
  · rintro i x σ H2 H1 hi ⟨v, rfl, sm, hl1⟩ ⟨rfl, c, hc, rfl⟩
    have hc' : w[i]? = some c := by simpa using hc
    have hsg : Sg c := hw c (List.mem_of_getElem? hc')
    have hi' : i < w.length := (List.getElem?_eq_some_iff.mp hc').1
    have etk : w.take (i + 1) = w.take i ++ [c] := by rw [List.take_succ, hc'] <;> rfl
    have eact : act (w.take (i + 1)) [] = push (act (w.take i) []) c := by rw [etk, act_snoc]
    have hle : (act (w.take i) []).length ≤ w.length := by
      have := act_len (w.take i) []
      rw [List.length_take] at this
      simp at this
      omega
    generalize act (w.take i) [] = st at hl1 eact hle
    refine ⟨_, rfl, l, _, rfl, .inl (SqL.of hl1), _, _, rfl, rfl, _, rfl, ?_⟩
    have fin : ∀ st', push st c = st' → ∃ v, [some (V.str (S w)), some (V.ref l), some (V.str ⟨#[c]⟩)] = [some (V.str (S w)), some (V.ref l), v] ∧ Same H (upd H1 l (.lst (sig st'))) ∧ (upd H1 l (.lst (sig st'))) l = some (.lst (sig (act (w.take (i + 1)) []))) := fun st' e =>
      ⟨_, rfl, fun b o q => by rw [upd_ne (ne_of_none q nl)]; exact sm b o q, by rw [upd_same, eact, e]⟩
    cases st with
    | nil =>
      refine iteF (iteF ?_)
      refine ⟨_, rfl, .inl ⟨rfl, _, SqL.of hl1⟩, _, rfl, l, _, _, rfl, rfl, hl1, by show 0 < sizeLine; rw [sizeLine_eq]; omega, ?_⟩
      exact fin [c] rfl
    | cons d r =>
      have e1 : decide ((0 : Int) < ((sig (d :: r)).length : Int)) = true := by rw [sig_len]; exact decide_eq_true (by simp)
      rw [e1]
      refine iteT ?_
      refine ⟨_, rfl, 1, rfl, l, _, _, V.str (S [d]), rfl, rfl, SqL.of hl1, by rw [sig_cons]; exact atI_last _ _, _, rfl, ⟨_, rfl⟩, S [c], rfl, rfl, by rw [swap1 hsg]; show 1 ≤ 1000000; omega, ?_⟩
      refine ⟨rfl, _, rfl, ?_⟩
      rw [swap1 hsg, dec_str, S_beq_eq]
      by_cases e : d = sw c
      · rw [decide_eq_true (by rw [e])]
        refine iteT ?_
        refine ⟨_, rfl, .inl ⟨rfl, _, SqL.of hl1⟩, l, sig r ++ [V.str (S [d])], V.str (S [d]), rfl, rfl, by rw [hl1, sig_cons], by simp, ?_⟩
        rw [List.dropLast_concat]
        exact fin r (by rw [push_cons, if_pos e])
      · rw [decide_eq_false (by intro z; exact e (List.cons.inj z).1)]
        refine iteF ?_
        refine ⟨_, rfl, .inl ⟨rfl, _, SqL.of hl1⟩, _, rfl, l, _, _, rfl, rfl, hl1, by rw [sig_len, sizeLine_eq]; omega, ?_⟩
        have := fin (c :: d :: r) (by rw [push_cons, if_neg e])
        rw [sig_cons c] at this
        exact this
  · rintro σ H1 ⟨v, rfl, sm, hl1⟩
    have e0 : (S w).cps.size = w.length := by simp
    rw [e0, List.take_length] at hl1
    refine ⟨⟨S [], rfl⟩, _, rfl, S [], l, (nf w).map fun c => S [c], rfl, rfl, .inl ?_, ?_, ?_⟩
    · rw [List.map_map]
      exact SqL.of hl1
    · have h1 : ∀ l : List Nat, ((l.map fun c => S [c]).map (·.length)).sum = l.length := by
        intro l
        induction l with
        | nil => rfl
        | cons c r ih => rw [List.map_cons, List.map_cons, List.sum_cons, ih, List.length_cons]; show 1 + r.length = r.length + 1; omega
      have h2 := nf_len w
      rw [h1]
      show _ + _ * 0 ≤ _
      omega
    · rw [join1]
      exact k H1 sm
/-- a row undone -/
def prInverse : Pr1 := fun a H Q _ => ∃ w : List Nat, a = .str (S w) ∧ Wd w ∧ w.length ≤ 100000 ∧ ∀ H', Same H H' → Q (.str (S (inv w))) H'
theorem c_inverse (T : Tx K mg) : Cal P w K mg base 1 "inverse" (sp1 prInverse) [] := by
  refine cal1 (N := ["row"]) (p1 := "row") T.d_inverse (by decide +kernel) (fun _ _ _ _ _ _ us hl => match us, hl with | [_], _ => rfl) fun f cdv A outer s H a1 Q E nd hr h => ?_
  obtain ⟨w, rfl, hw, hl, k⟩ := h
  refine ⟨_, pss_one (ps_ret (pe_m0 F.slot_str_swapcase F.type_str_swapcase mt_swap (pe_revS (pv 0)))), ?_⟩
  have e : Txt.swapcase (S w.reverse) = S (inv w) := by rw [swap_S hw.rev, List.map_reverse] <;> rfl
  refine ⟨_, rfl, w, rfl, by omega, ⟨_, rfl⟩, _, rfl, rfl, by rw [e, S_len, inv_len]; omega, ?_⟩
  rw [e]
  exact k H (Same.refl H)
/-- the struck row of some rows, one behind another -/
def prProduct (K : PySem.W.Frag) : Pr1 := fun a H Q _ => ∃ (p : Addr) (u v : List Nat), a = .ref p ∧ SqL K H p [.str (S u), .str (S v)] ∧ Wd u ∧ Wd v ∧ u.length + v.length ≤ 100000 ∧ ∀ H', Same H H' → Q (.str (S (nf (u ++ v)))) H'
theorem c_product (T : Tx K mg) : Cal P w K mg base 2 "product" (sp1 (prProduct K)) [] := by
  refine cal1 (N := ["rows"]) (p1 := "rows") T.d_product (by decide +kernel) (fun _ _ _ _ _ _ us hl => match us, hl with | [_], _ => rfl) fun f cdv A outer s H a1 Q E nd hr h => ?_
  obtain ⟨p, u, v, rfl, hp, hu, hv, hl, k⟩ := h
  refine ⟨_, pss_one (ps_ret (pe_c (c_strike T) hr (by decide) (by rfl) (pa_cons (pe_join pe_str (pv 0)) pa_nil))), ?_⟩
  refine ⟨⟨S [], rfl⟩, _, rfl, S [], p, [S u, S v], rfl, rfl, .inl hp, ?_, ?_⟩
  · show (S u).length + ((S v).length + 0) + 2 * 0 ≤ _
    rw [S_len, S_len]
    omega
  · have e : Txt.join (S []) [S u, S v] = S (u ++ v) := by
      have h := join_S [] [u, v]
      exact h
    rw [e]
    exact ⟨_, rfl, u ++ v, rfl, hu.app hv, by rw [List.length_append]; omega, k⟩
end
end FtP
set_option Elab.async false
set_option linter.all false
set_option maxRecDepth 100000
set_option maxHeartbeats 4000000
namespace FtP
open PySem PySem.Spec PyProof.Rows L2 SX Ft FtT FtR C8
theorem sz {n : Nat} (h : n ≤ 100000) : n ≤ sizeLine := by rw [sizeLine_eq]; omega
theorem szl {n : Nat} (h : n ≤ 100000) : n < sizeLine := by rw [sizeLine_eq]; omega
theorem map_at {α β : Type} {f : α → β} {xs : List α} {i : Nat} {y : β} (h : (xs.map f)[i]? = some y) : ∃ x, xs[i]? = some x ∧ y = f x := by
  rw [List.getElem?_map] at h
  cases e : xs[i]? with
  | none => rw [e] at h; cases h
  | some x => rw [e] at h; exact ⟨x, rfl, (Option.some.inj h).symm⟩
theorem at_map {α β : Type} (f : α → β) {xs : List α} {i : Nat} {x : α} (h : xs[i]? = some x) : (xs.map f)[i]? = some (f x) := by rw [List.getElem?_map, h] <;> rfl
/-! ### what is kept -/
theorem Same.put {H H1 : Hp} {p : Addr} {o : HO} (h : Same H H1) (n : H p = none) : Same H (upd H1 p o) := fun b u e => by
  rw [upd_ne (ne_of_none e n)]
  exact h b u e
theorem Same.none {H H1 : Hp} {p : Addr} (h : Same H H1) (n : H1 p = none) : H p = none := Same.free h n
/-- all but the pool is as it was -/
def Kp (p c : Addr) (H H' : Hp) : Prop := ∀ b o, H b = some o → b ≠ p → b ≠ c → H' b = some o
section
variable {p c q : Addr} {H H1 H2 : Hp} {o : HO}
theorem Kp.refl (H : Hp) : Kp p c H H := fun _ _ h _ _ => h
theorem Kp.trans (a : Kp p c H H1) (b : Kp p c H1 H2) : Kp p c H H2 := fun x o h n1 n2 => b x o (a x o h n1 n2) n1 n2
theorem Kp.of (h : Same H H1) : Kp p c H H1 := fun b o e _ _ => h b o e
theorem Kp.put (h : Kp p c H H1) (n : H q = none) : Kp p c H (upd H1 q o) := fun b u e n1 n2 => by
  rw [upd_ne (ne_of_none e n)]
  exact h b u e n1 n2
theorem Kp.none (h : Kp p c H H1) (hp : H p = none → H1 p = none → False) (n : H1 q = none) (n1 : q ≠ p) (n2 : q ≠ c) : H q = none := by
  cases e : H q with
  | none => rfl
  | some u =>
    rw [h q u e n1 n2] at n
    cases n
end
/-- the pool: a list of two numbers and a list of numbers -/
def Pool (H : Hp) (p c : Addr) : Prop := ∃ (a b : Int) (ns : List Int), H p = some (.lst [.int a, .int b, .ref c]) ∧ H c = some (.lst (ns.map V.int))
theorem Pool.ne {H : Hp} {p c : Addr} (h : Pool H p c) : p ≠ c := by
  obtain ⟨a, b, ns, h1, h2⟩ := h
  rintro rfl
  rw [h1] at h2
  have e := HO.lst.inj (Option.some.inj h2)
  match ns, e with
  | [], e => simp at e
  | [_], e => simp at e
  | [_, _], e => simp at e
  | _ :: _ :: x :: _, e => simp at e
theorem Pool.same {H H' : Hp} {p c : Addr} (h : Pool H p c) (s : Same H H') : Pool H' p c := by
  obtain ⟨a, b, ns, h1, h2⟩ := h
  exact ⟨a, b, ns, s _ _ h1, s _ _ h2⟩
theorem Pool.put {H : Hp} {p c q : Addr} {o : HO} (h : Pool H p c) (n1 : q ≠ p) (n2 : q ≠ c) : Pool (upd H q o) p c := by
  obtain ⟨a, b, ns, h1, h2⟩ := h
  exact ⟨a, b, ns, by rw [upd_ne n1.symm]; exact h1, by rw [upd_ne n2.symm]; exact h2⟩
theorem Pool.new {H : Hp} {p c q : Addr} (h : Pool H p c) (n : H q = none) : q ≠ p ∧ q ≠ c := by
  obtain ⟨a, b, ns, h1, h2⟩ := h
  exact ⟨(ne_of_none h1 n).symm, (ne_of_none h2 n).symm⟩
theorem Pool.none {H H1 : Hp} {p c q : Addr} (h : Pool H1 p c) (k : Kp p c H H1) (n : H1 q = none) : H q = none := by
  obtain ⟨n1, n2⟩ := h.new n
  cases e : H q with
  | none => rfl
  | some u =>
    rw [k q u e n1 n2] at n
    cases n
/-! ### a comprehension, the new list told -/
section
variable {J : It} {n : Nat} {G : Hp → Prop} {Y : Nat → Hp → V → Hp → Prop}
theorem lc_acc (w : Walk J n G Y) {g : TG} {tt : TT} {te : TE} {vs : List Nat} {σ : L2.St} {H1 : Hp} {D : Addr} {Qd : Hp → Prop} (hn : n ≤ 100000) (I : Nat → List V → Hp → Prop) (h0 : I 0 [] (upd H1 D (.lst [])))
    (hG : ∀ i acc H, i ≤ n → I i acc H → G H)
    (hs : ∀ i x acc H H' (Ky : V → Hp → Prop) (Kn : Hp → Prop), i < n → H D = some (.lst acc) → I i acc H → Y i H x H' →
      (∀ y H4, H4 D = some (.lst acc) → I (i + 1) (acc ++ [y]) (upd H4 D (.lst (acc ++ [y]))) → Ky y H4) → (∀ H4, H4 D = some (.lst acc) → I (i + 1) acc H4 → Kn H4) →
      g x (wipe σ vs) H' fun σ2 H2 => wipe σ2 vs = wipe σ vs ∧ tt σ2 H2 fun b H3 => if b = true then te σ2 H3 Ky else Kn H3)
    (hd : ∀ acc H, H D = some (.lst acc) → acc.length ≤ n → I n acc H → Qd H) :
    ∃ W : Nat → Nat → Hp → Prop, (∃ m, W 0 m (upd H1 D (.lst []))) ∧ ∀ i m H, W i m H →
      (J.stop i H ∧ Qd H) ∨ (J.go i H ∧ ∃ Nx : Hp → Prop, (∀ H', Nx H' → ∃ m', m' < m ∧ W (i + 1) m' H') ∧ ∀ x H', J.yld i H x H' → g x (wipe σ vs) H' fun σ2 H2 => wipe σ2 vs = wipe σ vs ∧ tt σ2 H2 fun b H3 =>
        if b = true then te σ2 H3 fun y H4 => ∃ acc, H4 D = some (.lst acc) ∧ acc.length < sizeLine ∧ Nx (upd H4 D (.lst (acc ++ [y]))) else Nx H3) := by
  refine lc_it w (fun i H => ∃ acc, H D = some (.lst acc) ∧ acc.length ≤ i ∧ I i acc H) ⟨[], upd_same, Nat.le_refl _, h0⟩ (fun i H hi h => ?_) (fun i x H H' hi h y => ?_) (fun H h => ?_)
  · obtain ⟨acc, _, _, h⟩ := h
    exact hG i acc H hi h
  · obtain ⟨acc, h1, h2, h3⟩ := h
    exact hs i x acc H H' _ _ hi h1 h3 y (fun y H4 e q => ⟨acc, e, szl (by omega), acc ++ [y], upd_same, by rw [List.length_append]; show _ + 1 ≤ _; omega, q⟩) fun H4 e q => ⟨acc, e, by omega, q⟩
  · obtain ⟨acc, h1, h2, h3⟩ := h
    exact hd acc H h1 h2 h3
/-- .. of no test, whose target is one name -/
theorem lc_all (w : Walk J n G Y) {j : Nat} {te : TE} {vs : List Nat} {σ : L2.St} {H1 : Hp} {D : Addr} {Qd : Hp → Prop} (hn : n ≤ 100000) (hw : ∀ x, wipe ((wipe σ vs).set j (some x)) vs = wipe σ vs) (I : Nat → List V → Hp → Prop) (h0 : I 0 [] (upd H1 D (.lst [])))
    (hG : ∀ i acc H, i ≤ n → I i acc H → G H)
    (hs : ∀ i x acc H H' (Ky : V → Hp → Prop), i < n → acc.length = i → H D = some (.lst acc) → I i acc H → Y i H x H' →
      (∀ y H4, H4 D = some (.lst acc) → I (i + 1) (acc ++ [y]) (upd H4 D (.lst (acc ++ [y]))) → Ky y H4) → te ((wipe σ vs).set j (some x)) H' Ky)
    (hd : ∀ acc H, H D = some (.lst acc) → acc.length = n → I n acc H → Qd H) :
    ∃ W : Nat → Nat → Hp → Prop, (∃ m, W 0 m (upd H1 D (.lst []))) ∧ ∀ i m H, W i m H →
      (J.stop i H ∧ Qd H) ∨ (J.go i H ∧ ∃ Nx : Hp → Prop, (∀ H', Nx H' → ∃ m', m' < m ∧ W (i + 1) m' H') ∧ ∀ x H', J.yld i H x H' → gName j x (wipe σ vs) H' fun σ2 H2 => wipe σ2 vs = wipe σ vs ∧ tYes σ2 H2 fun b H3 =>
        if b = true then te σ2 H3 fun y H4 => ∃ acc, H4 D = some (.lst acc) ∧ acc.length < sizeLine ∧ Nx (upd H4 D (.lst (acc ++ [y]))) else Nx H3) := by
  refine lc_acc w hn (fun i acc H => acc.length = i ∧ I i acc H) ⟨rfl, h0⟩ (fun i acc H hi h => hG i acc H hi h.2) (fun i x acc H H' Ky Kn hi h1 h2 y ky kn => ?_) (fun acc H h1 _ h2 => hd acc H h1 h2.1 h2.2)
  refine ⟨hw x, ?_⟩
  show te ((wipe σ vs).set j (some x)) H' Ky
  exact hs i x acc H H' Ky hi h2.1 h1 h2.2 y fun y H4 e q => ky y H4 e ⟨by rw [List.length_append, h2.1] <;> rfl, q⟩
end
end FtP
set_option Elab.async false
set_option linter.all false
set_option maxRecDepth 100000
set_option maxHeartbeats 4000000
namespace FtP
open PySem PySem.Spec PyProof.Rows L2 SX Ft FtT FtR C8
theorem bo_int : bootBuiltins "int" = some (.type "int") := by decide +kernel
theorem bo_bool : bootBuiltins "bool" = some (.type "bool") := by decide +kernel
theorem bo_str : bootBuiltins "str" = some (.type "str") := by decide +kernel
theorem bo_tuple : bootBuiltins "tuple" = some (.type "tuple") := by decide +kernel
theorem bo_list : bootBuiltins "list" = some (.type "list") := by decide +kernel
theorem bo_isinstance : bootBuiltins "isinstance" = some (.builtin "isinstance") := by decide +kernel
theorem bo_all : bootBuiltins "all" = some (.builtin "all") := by decide +kernel
theorem bo_sum : bootBuiltins "sum" = some (.builtin "sum") := by decide +kernel
theorem bo_abs : bootBuiltins "abs" = some (.builtin "abs") := by decide +kernel
theorem bo_max : bootBuiltins "max" = some (.builtin "max") := by decide +kernel
theorem bo_min : bootBuiltins "min" = some (.builtin "min") := by decide +kernel
section
variable {P : Program} {w : World} {K : PySem.W.Frag} {mg : Str → Option Value} {base : Heap}
/-- an int is an integer -/
def prInteger : Pr1 := fun a H Q _ => ∃ i : Int, a = .int i ∧ Q (.bl true) H
theorem c_is_integer (T : Tx K mg) : Cal P w K mg base 1 "is_integer" (sp1 prInteger) [] := by
  refine cal1 (N := ["thing"]) (p1 := "thing") T.d_is_integer (by decide +kernel) (fun _ _ _ _ _ _ us hl => match us, hl with | [_], _ => rfl) fun f cdv A outer s H a1 Q E nd hr h => ?_
  obtain ⟨i, rfl, k⟩ := h
  refine ⟨_, pss_one (ps_ret (pe_and (pe_callB call_isi (by rfl) T.m_isinstance bo_isinstance (pa_cons (pv 0) (pa_cons (pe_bltn (v := .ty "int") (by rfl) T.m_int bo_int rfl) pa_nil)))
    (pe_one (pe_not (pe_callB call_isi (by rfl) T.m_isinstance bo_isinstance (pa_cons (pv 0) (pa_cons (pe_bltn (v := .ty "bool") (by rfl) T.m_bool bo_bool rfl) pa_nil))))))), ?_⟩
  refine ⟨_, rfl, _, _, _, _, true, rfl, .ty _, .base (.int i), kit_ty (by decide +kernel), true, rfl, ?_⟩
  refine ⟨_, rfl, _, _, _, _, false, rfl, .ty _, .base (.int i), kit_ty (by decide +kernel), false, rfl, ?_⟩
  exact k
def prWithin : Pr3 := fun a b c H Q _ => ∃ i l m : Int, a = .int i ∧ b = .int l ∧ c = .int m ∧ l ≤ i ∧ i ≤ m ∧ Q (.bl true) H
theorem c_is_within (T : Tx K mg) : Cal P w K mg base 2 "is_within" (sp3 prWithin) [] := by
  refine cal3 (N := ["thing", "least", "most"]) (p1 := "thing") (p2 := "least") (p3 := "most") T.d_is_within (by decide +kernel) (fun _ _ _ _ _ _ us hl => match us, hl with | [_, _, _], _ => rfl) fun f cdv A outer s H a1 a2 a3 Q E nd hr h => ?_
  obtain ⟨i, l, m, rfl, rfl, rfl, h1, h2, k⟩ := h
  refine ⟨_, pss_one (ps_ret (pe_and (pe_c (c_is_integer T) hr (by decide) (by rfl) (pa_cons (pv 0) pa_nil)) (pe_one (pe_chain op_le op_le (pv 1) (pv 0) (pv 2))))), ?_⟩
  refine ⟨_, rfl, _, rfl, i, rfl, true, rfl, ?_⟩
  refine ⟨_, rfl, _, rfl, _, _, rfl, rfl, _, rfl, ?_⟩
  rw [decide_eq_true h1]
  refine ⟨_, rfl, _, _, rfl, rfl, ?_⟩
  show Q (.bl (decide (i ≤ m))) H
  rw [decide_eq_true h2]
  exact k
abbrev abc : Str := "abcdefghijklmnopqrstuvwxyz"
theorem in_abc {c : Nat} (h : Sm c) : decide (c ∈ abc.cps.toList) = true := by
  rcases h with rfl | rfl <;> decide +kernel
theorem all_id : ∀ n : Nat, (List.replicate n true).all id = true
  | 0 => rfl
  | n + 1 => by rw [List.replicate_succ, List.all_cons, all_id n] <;> rfl
/-- a form is a word -/
def prWord : Pr2 := fun a b H Q _ => ∃ u : List Nat, a = .str abc ∧ b = .str (S u) ∧ (∀ c ∈ u, Sm c) ∧ u.length ≤ 100000 ∧ ∀ H', Same H H' → Q (.bl true) H'
theorem c_is_word (T : Tx K mg) : Cal P w K mg base 1 "is_word" (sp2 prWord) [] := by
  refine cal2 (N := ["letters", "thing", "sign"]) (p1 := "letters") (p2 := "thing") T.d_is_word (by decide +kernel) (fun _ _ _ _ _ _ us hl => match us, hl with | [_, _], _ => rfl) fun f cdv A outer s H a1 a2 Q E nd hr h => ?_
  obtain ⟨u, rfl, rfl, hu, hl, k⟩ := h
  refine ⟨_, pss_one (ps_ret (pe_and (pe_callB call_isi (by rfl) T.m_isinstance bo_isinstance (pa_cons (pv 1) (pa_cons (pe_bltn (v := .ty "str") (by rfl) T.m_str bo_str rfl) pa_nil)))
    (pe_one (pe_callB (cr_all rfl) (by rfl) T.m_all bo_all (pa_cons (pe_lc (own := [("sign", 2)]) (g := gName 2) (tt := tYes) rfl nd (pi_str (pv 1))
      (blkOk_by (own := [("sign", 2)]) (N := ["letters", "thing", "sign"]) (sc := C8.fnScope (top 10)) (by decide +kernel)) (fun _ _ _ _ _ => pg_name (i := 2) nd rfl (Or.inl rfl)) (fun _ _ _ _ _ => pts_nil)
      (fun _ _ _ _ _ => pe_cmpR op_in_sign (pv 2) (pv 0) (by rfl))) pa_nil))))), ?_⟩
  refine ⟨_, rfl, _, _, _, _, true, rfl, .ty _, .base (.str _), kit_ty (by decide +kernel), true, rfl, ?_⟩
  refine ⟨_, rfl, S u, rfl, fun D nD => lc_all walk_str (by simpa using hl) (fun _ => rfl) (fun i acc H1 => Same H H1 ∧ acc = (List.replicate i true).map V.bl) ⟨Same.put (Same.refl H) nD, rfl⟩ (fun _ _ _ _ _ => trivial) ?_ ?_⟩
  · rintro i x acc H2 H1 Ky hi hlen hD ⟨sm, rfl⟩ ⟨rfl, c, hc, rfl⟩ ky
    have hc' : u[i]? = some c := by simpa using hc
    have hsm : Sm c := hu c (List.mem_of_getElem? hc')
    refine ⟨_, rfl, _, rfl, c, abc, rfl, rfl, ?_⟩
    rw [in_abc hsm]
    refine ky _ H1 hD ⟨Same.put sm nD, ?_⟩
    rw [List.replicate_succ', List.map_append] <;> rfl
  · rintro acc H1 hD hlen ⟨sm, rfl⟩
    refine ⟨D, _, rfl, SqL.of hD, ?_⟩
    rw [all_id]
    exact k H1 sm
def prText : Pr1 := fun b H Q _ => ∃ u : List Nat, b = .str (S u) ∧ (∀ c ∈ u, Sm c) ∧ u.length ≤ 100000 ∧ ∀ H', Same H H' → Q (.bl true) H'
theorem c_is_text (T : Tx K mg) : Cal P w K mg base 2 "is_text" (sp1 prText) [] := by
  refine cal1 (N := ["thing"]) (p1 := "thing") T.d_is_text (by decide +kernel) (fun _ _ _ _ _ _ us hl => match us, hl with | [_], _ => rfl) fun f cdv A outer s H a1 Q E nd hr h => ?_
  obtain ⟨u, rfl, hu, hl, k⟩ := h
  refine ⟨_, pss_one (ps_ret (pe_c (c_is_word T) hr (by decide) (by rfl) (pa_cons (pe_gc (by rfl) T.m_LETTERS) (pa_cons (pv 0) pa_nil)))), ?_⟩
  exact ⟨_, rfl, _, _, rfl, u, rfl, rfl, hu, hl, k⟩
def prForm : Pr2 := fun b m H Q _ => ∃ (u : List Nat) (n : Nat), b = .str (S u) ∧ m = .int n ∧ (∀ c ∈ u, Sm c) ∧ u.length ≤ n ∧ n ≤ 100000 ∧ ∀ H', Same H H' → Q (.bl true) H'
theorem c_is_form (T : Tx K mg) : Cal P w K mg base 3 "is_form" (sp2 prForm) [] := by
  refine cal2 (N := ["thing", "most"]) (p1 := "thing") (p2 := "most") T.d_is_form (by decide +kernel) (fun _ _ _ _ _ _ us hl => match us, hl with | [_, _], _ => rfl) fun f cdv A outer s H a1 a2 Q E nd hr h => ?_
  obtain ⟨u, n, rfl, rfl, hu, hl, hn, k⟩ := h
  refine ⟨_, pss_one (ps_ret (pe_and (pe_c (c_is_text T) hr (by decide) (by rfl) (pa_cons (pv 0) pa_nil)) (pe_one (pe_cmpR op_le (pe_callB call_len_str (by rfl) T.m_len boot_len (pa_cons (pv 0) pa_nil)) (pv 1) (nomark _))))), ?_⟩
  refine ⟨_, rfl, _, rfl, u, rfl, hu, by omega, fun H1 sm => ⟨true, rfl, ?_⟩⟩
  refine ⟨_, rfl, _, rfl, by rw [S_len]; exact sz (by omega), _, rfl, _, _, rfl, rfl, ?_⟩
  show Q (.bl (decide (((S u).length : Int) ≤ (n : Int)))) H1
  rw [S_len, decide_eq_true (by omega)]
  exact k H1 sm
def prRow : Pr1 := fun a H Q _ => ∃ (p : Addr) (xs : List V), a = .ref p ∧ H p = some (.tup xs) ∧ 1 ≤ xs.length ∧ xs.length ≤ 12 ∧ Q (.bl true) H
theorem c_is_row (T : Tx K mg) : Cal P w K mg base 1 "is_row" (sp1 prRow) [] := by
  refine cal1 (N := ["thing"]) (p1 := "thing") T.d_is_row (by decide +kernel) (fun _ _ _ _ _ _ us hl => match us, hl with | [_], _ => rfl) fun f cdv A outer s H a1 Q E nd hr h => ?_
  obtain ⟨p, xs, rfl, hp, h1, h2, k⟩ := h
  refine ⟨_, pss_one (ps_ret (pe_and (pe_callB call_isi (by rfl) T.m_isinstance bo_isinstance (pa_cons (pv 0) (pa_cons (pe_bltn (v := .ty "tuple") (by rfl) T.m_tuple bo_tuple rfl) pa_nil)))
    (pe_one (pe_chain op_le op_le pe_int (pe_callB call_len_seq (by rfl) T.m_len boot_len (pa_cons (pv 0) pa_nil)) (pe_gc (by rfl) T.m_ROWS))))), ?_⟩
  refine ⟨_, rfl, _, _, _, _, true, rfl, .ty _, .base (.tup hp), kit_ty (by decide +kernel), true, rfl, ?_⟩
  refine ⟨_, rfl, p, _, rfl, .inr (SqT.of hp), _, _, rfl, rfl, _, rfl, ?_⟩
  rw [decide_eq_true (show (1 : Int) ≤ (xs.length : Int) by omega)]
  refine ⟨_, _, rfl, rfl, ?_⟩
  show Q (.bl (decide ((xs.length : Int) ≤ 12))) H
  rw [decide_eq_true (by omega)]
  exact k
/-- what stands in a box -/
def bv : Option (List Nat) → V
  | none => .non
  | some u => .str (S u)
def prBoxText : Pr1 := fun a H Q _ => ∃ o : Option (List Nat), a = bv o ∧ (∀ u, o = some u → Fm 30 u) ∧ ∀ H', Same H H' → Q (.bl true) H'
theorem c_is_box_text (T : Tx K mg) : Cal P w K mg base 4 "is_box_text" (sp1 prBoxText) [] := by
  refine cal1 (N := ["thing"]) (p1 := "thing") T.d_is_box_text (by decide +kernel) (fun _ _ _ _ _ _ us hl => match us, hl with | [_], _ => rfl) fun f cdv A outer s H a1 Q E nd hr h => ?_
  obtain ⟨o, rfl, ho, k⟩ := h
  refine ⟨_, pss_one (ps_ret (pe_or (pe_cmpR op_isN (pv 0) pe_non (nomark _)) (pe_one (pe_c (c_is_form T) hr (by decide) (by rfl) (pa_cons (pv 0) (pa_cons (pe_gc (by rfl) T.m_MOST) pa_nil)))))), ?_⟩
  refine ⟨_, rfl, rfl, ?_⟩
  cases o with
  | none => exact ⟨true, rfl, k H (Same.refl H)⟩
  | some u =>
    obtain ⟨h1, h2⟩ := ho u rfl
    refine ⟨false, rfl, ?_⟩
    exact ⟨_, rfl, _, _, rfl, u, 30, rfl, rfl, h2, h1, by omega, k⟩
end
end FtP
set_option Elab.async false
set_option linter.all false
set_option maxRecDepth 100000
set_option maxHeartbeats 4000000
namespace FtP
open PySem PySem.Spec PyProof.Rows L2 SX Ft FtT FtR C8
/-- a table's boxes: a tuple of tuples -/
structure BoxesAt (H : Hp) (a : Addr) (rs : List Addr) (B : Bx) : Prop where
  at_ : H a = some (.tup (rs.map V.ref))
  len : rs.length = B.length
  row : ∀ (i : Nat) (r : Addr) (row : List (Option (List Nat))), rs[i]? = some r → B[i]? = some row → H r = some (.tup (row.map bv))
theorem BoxesAt.same {H H' : Hp} {a : Addr} {rs : List Addr} {B : Bx} (h : BoxesAt H a rs B) (s : Same H H') : BoxesAt H' a rs B := ⟨s _ _ h.at_, h.len, fun i r row h1 h2 => s _ _ (h.row i r row h1 h2)⟩
/-- tuples are never changed -/
theorem BoxesAt.get {H : Hp} {a : Addr} {rs : List Addr} {B : Bx} (h : BoxesAt H a rs B) {i : Nat} {row : List (Option (List Nat))} (e : B[i]? = some row) : ∃ r, rs[i]? = some r ∧ (rs.map V.ref)[i]? = some (.ref r) ∧ H r = some (.tup (row.map bv)) := by
  have hi : i < rs.length := by rw [h.len]; exact (List.getElem?_eq_some_iff.mp e).1
  refine ⟨rs[i], List.getElem?_eq_getElem hi, by rw [List.getElem?_map, List.getElem?_eq_getElem hi] <;> rfl, h.row i _ row (List.getElem?_eq_getElem hi) e⟩
theorem BoxesAt.at_row {H : Hp} {a : Addr} {rs : List Addr} {B : Bx} (h : BoxesAt H a rs B) {i : Nat} {x : V} (e : (rs.map V.ref)[i]? = some x) : ∃ r row, x = .ref r ∧ rs[i]? = some r ∧ B[i]? = some row ∧ H r = some (.tup (row.map bv)) := by
  rw [List.getElem?_map] at e
  cases q : rs[i]? with
  | none => rw [q] at e; cases e
  | some r =>
    rw [q] at e
    have hi : i < B.length := by rw [← h.len]; exact (List.getElem?_eq_some_iff.mp q).1
    exact ⟨r, B[i], (Option.some.inj e).symm, rfl, List.getElem?_eq_getElem hi, h.row i r _ q (List.getElem?_eq_getElem hi)⟩
/-! ### the dict of the told boxes -/
def kk (e : Nat × Nat) : List Key := [Sum.inl (e.1 : Int), Sum.inl (e.2 : Int)]
theorem kk_inj {e e' : Nat × Nat} (h : kk e = kk e') : e = e' := by
  obtain ⟨a, b⟩ := e
  obtain ⟨c, d⟩ := e'
  have h1 := (List.cons.inj h).1
  have h2 := (List.cons.inj (List.cons.inj h).2).1
  have h3 : (a : Int) = c := Sum.inl.inj h1
  have h4 : (b : Int) = d := Sum.inl.inj h2
  rw [show a = c by omega, show b = d by omega]
def kvT (T : Told) : List (List Key × V) := T.map fun e => (kk e.1, V.str (S e.2))
theorem kvT_len (T : Told) : (kvT T).length = T.length := by unfold kvT; simp
theorem kvT_some {T : Told} (hk : Keys T) {e : Nat × Nat} {u : List Nat} (h : (e, u) ∈ T) : valV (kvT T) (kk e) = some (.str (S u)) := by
  induction T with
  | nil => simp at h
  | cons x T ih =>
    have hn := List.nodup_cons.mp (show (x.1 :: T.map (·.1)).Nodup from hk)
    rcases List.mem_cons.mp h with q | q
    · rw [← q]
      exact valV_pos rfl
    · have ne : ¬ kk x.1 = kk e := fun z => hn.1 (by rw [kk_inj z]; exact List.mem_map.mpr ⟨_, q, rfl⟩)
      exact (valV_neg (p := (kk x.1, V.str (S x.2))) ne).trans (ih hn.2 q)
theorem kvT_none {T : Told} {e : Nat × Nat} (h : ∀ u, (e, u) ∉ T) : valV (kvT T) (kk e) = none := by
  induction T with
  | nil => rfl
  | cons x T ih =>
    have ne : ¬ kk x.1 = kk e := fun z => h x.2 (by rw [← kk_inj z]; exact List.mem_cons_self)
    exact (valV_neg (p := (kk x.1, V.str (S x.2))) ne).trans (ih fun u hu => h u (List.mem_cons_of_mem _ hu))
theorem kvT_put {T : Told} {e : Nat × Nat} {u : List Nat} (h : ∀ u, (e, u) ∉ T) : putK (kvT T) (kk e) (.str (S u)) = kvT (T ++ [(e, u)]) := by
  rw [putK_new _ (kvT_none h)]
  unfold kvT
  rw [List.map_append] <;> rfl
theorem kvT_get {T : Told} {i : Nat} {k : List Key} {v : V} (h : (kvT T)[i]? = some (k, v)) : ∃ e u, T[i]? = some (e, u) ∧ k = kk e ∧ v = .str (S u) := by
  unfold kvT at h
  rw [List.getElem?_map] at h
  cases q : T[i]? with
  | none => rw [q] at h; cases h
  | some x =>
    rw [q] at h
    have e := Option.some.inj h
    exact ⟨x.1, x.2, rfl, (Prod.mk.inj e).1.symm, (Prod.mk.inj e).2.symm⟩
/-- a Table object: its sizes, its dict of told boxes -/
structure TabAt (K : PySem.W.Frag) (H : Hp) (t d : Addr) (h w : Nat) (T : Told) : Prop where
  ob : ∃ dx fs, H t = some (.ins (cTab K) dx fs) ∧ fs.lookup ("height" : Str) = some (.int h) ∧ fs.lookup ("width" : Str) = some (.int w) ∧ fs.lookup ("kept_told" : Str) = some (.ref d)
  dc : H d = some (.dT (kvT T))
theorem TabAt.same {K : PySem.W.Frag} {H H' : Hp} {t d : Addr} {h w : Nat} {T : Told} (x : TabAt K H t d h w T) (s : Same H H') : TabAt K H' t d h w T := by
  obtain ⟨⟨dx, fs, h1, h2⟩, h3⟩ := x
  exact ⟨⟨dx, fs, s _ _ h1, h2⟩, s _ _ h3⟩
/-- the fields as keep stores them -/
def fsT (a d : Addr) (h w : Nat) : List (Str × V) := putF "kept_told" (.ref d) (putF "width" (.int w) (putF "height" (.int h) (putF "boxes" (.ref a) [])))
theorem fsT_h (a d : Addr) (h w : Nat) : (fsT a d h w).lookup ("height" : Str) = some (.int h) := by
  unfold fsT
  rw [lookup_putF, if_neg (by decide +kernel), lookup_putF, if_neg (by decide +kernel), lookup_putF, if_pos rfl]
theorem fsT_w (a d : Addr) (h w : Nat) : (fsT a d h w).lookup ("width" : Str) = some (.int w) := by
  unfold fsT
  rw [lookup_putF, if_neg (by decide +kernel), lookup_putF, if_pos rfl]
theorem fsT_d (a d : Addr) (h w : Nat) : (fsT a d h w).lookup ("kept_told" : Str) = some (.ref d) := by
  unfold fsT
  rw [lookup_putF, if_pos rfl]
theorem putF_len (f : Str) (v : V) (fs : List (Str × V)) {n : Nat} (h : fs.length ≤ n) : (putF f v fs).length ≤ n + 1 := by
  have := length_putF f v fs
  omega
def prKeep (K : PySem.W.Frag) : Pr2 := fun x b H Q _ => ∃ (p a dx : Addr) (rs : List Addr) (B : Bx) (W : Nat), x = .ref p ∧ b = .ref a ∧ H p = some (.ins (cTab K) dx []) ∧ BoxesAt H a rs B ∧ Wf 30 B W ∧
  ∀ d H', H d = none → TabAt K H' p d B.length W (told B) → (∀ b o, H b = some o → b ≠ p → H' b = some o) → Q .non H'
section
variable {P : Program} {w : World} {K : PySem.W.Frag} {mg : Str → Option Value} {base : Heap}
theorem c_keep (T : Tx K mg) : Met P w K mg base 1 (cTab K) "keep" (sp2 (prKeep K)) [] := by
  obtain ⟨fd, F, hd⟩ := T.keep
  refine met0 (N := ["self", "boxes", "row", "forms", "column", "form"]) (ps := ["self", "boxes"]) T.cls T.kp F (F.binds hd (fun _ _ _ _ _ _ us hl => match us, hl with | [_, _], _ => rfl)) (C8.fnScope_by (by decide +kernel)) (fun vs H Q E h => by obtain ⟨a, a2, rfl, _⟩ := h; rfl) fun cdv A outer s H vs Q E hr h => ?_
  have nd : (["self", "boxes", "row", "forms", "column", "form"] : List Str).Nodup := by decide +kernel
  have hu := hu_of hr
  obtain ⟨_, _, rfl, p, a, dx, rs, B, W, rfl, rfl, hp, bx, wf, k⟩ := h
  refine ⟨_, pss_cons (ps_fld (pv 0) (pv 1) rfl)
    (pss_cons (ps_fld (pv 0) (pe_callB call_len_seq (by rfl) T.m_len boot_len (pa_cons (pv 1) pa_nil)) rfl)
    (pss_cons (ps_fld (pv 0) (pe_callB call_len_seq (by rfl) T.m_len boot_len (pa_cons (pe_ix ix_tup (pv 1) pe_int (fun _ _ => rfl)) pa_nil)) rfl)
    (pss_cons (ps_fld (pv 0) pe_dnewT rfl)
    (pss_one (ps_for PassesOwn.never rfl (pi_enumT (by rfl) T.m_enumerate (pa_cons (pv 1) pa_nil)) (pg_tup rfl (pgs_cons (pg_name (i := 2) nd rfl (.inl rfl)) (pgs_cons (pg_name (i := 3) nd rfl (.inl rfl)) pgs_nil)))
      (pss_one (ps_for PassesOwn.never rfl (pi_enumT (by rfl) T.m_enumerate (pa_cons (pv 3) pa_nil)) (pg_tup rfl (pgs_cons (pg_name (i := 4) nd rfl (.inl rfl)) (pgs_cons (pg_name (i := 5) nd rfl (.inl rfl)) pgs_nil)))
        (pss_one (ps_if (pt_cmpR op_notN (pv 5) pe_non (nomark _)) (pss_one (ps_dput hu (pe_fld (pv 0) rfl) (pe_tup (pa_cons (pv 2) (pa_cons (pv 4) pa_nil))) (pv 5) rfl)) pss_nil))))))))), ?_⟩
  have hap : a ≠ p := (ne_of hp bx.at_ (by intro z; cases z)).symm
  obtain ⟨r0, hr0⟩ : ∃ r, B[0]? = some r := ⟨B[0]'(by have := wf.h1; omega), List.getElem?_eq_getElem _⟩
  obtain ⟨q0, e0, e1, hq0⟩ := bx.get hr0
  have np : ∀ b xs, H b = some (.tup xs) → b ≠ p := fun b xs e => (ne_of hp e (by intro z; cases z)).symm
  have hw0 : r0.length = W := wf.rows r0 (List.mem_of_getElem? hr0)
  -- the four fields
  refine ⟨_, rfl, _, rfl, p, _, dx, [], rfl, hp, T.cls, T.n_boxes, by show 0 < 1000; omega, ?_⟩
  refine ⟨_, rfl, a, _, rfl, .inr (SqT.of (by rw [upd_ne hap]; exact bx.at_)), _, rfl, p, _, dx, _, rfl, upd_same, T.cls, T.n_height, by have := putF_len "boxes" (.ref a) [] (Nat.le_refl 0); omega, ?_⟩
  refine ⟨_, rfl, a, _, 0, _, rfl, rfl, SqT.of (by rw [upd_ne hap, upd_ne hap]; exact bx.at_), atI_nat e1, q0, _, rfl, .inr (SqT.of (by rw [upd_ne (np _ _ hq0), upd_ne (np _ _ hq0)]; exact hq0)), _, rfl, p, _, dx, _, rfl, upd_same, T.cls, T.n_width,
    by have := putF_len "height" (.int (rs.map V.ref).length) _ (putF_len "boxes" (.ref a) [] (Nat.le_refl 0)); omega, ?_⟩
  intro d nd0
  have ndp : p ≠ d := fun z => by rw [← z, upd_same] at nd0; cases nd0
  have nd' : H d = none := by rw [upd_ne ndp.symm, upd_ne ndp.symm, upd_ne ndp.symm] at nd0; exact nd0
  refine ⟨_, rfl, p, _, dx, _, rfl, by rw [upd_ne ndp]; exact upd_same, T.cls, T.n_kept_told,
    by have := putF_len "width" (.int (r0.map bv).length) _ (putF_len "height" (.int (rs.map V.ref).length) _ (putF_len "boxes" (.ref a) [] (Nat.le_refl 0))); omega, ?_⟩
  have efs : putF "kept_told" (.ref d) (putF "width" (.int (r0.map bv).length) (putF "height" (.int (rs.map V.ref).length) (putF "boxes" (.ref a) []))) = fsT a d B.length W := by
    rw [List.length_map, List.length_map, hw0, bx.len] <;> rfl
  rw [efs]
  -- for row, forms in enumerate(boxes)
  have hbx : ∀ H1, (∀ b o, H b = some o → b ≠ p → H1 b = some o) → SqT K H1 a (rs.map V.ref) := fun H1 kp => SqT.of (kp _ _ bx.at_ hap)
  refine ⟨_, rfl, a, _, rfl, hbx _ (fun b o e n => by rw [upd_ne n, upd_ne (ne_of_none e nd'), upd_ne n, upd_ne n, upd_ne n]; exact e), ?_⟩
  refine for_it walk_enumT (fun i σ H1 => ∃ v2 v3 v4 v5, σ = [some (V.ref p), some (V.ref a), v2, v3, v4, v5] ∧ H1 p = some (.ins (cTab K) dx (fsT a d B.length W)) ∧ H1 d = some (.dT (kvT (toldRows 0 (B.take i)))) ∧ ∀ b o, H b = some o → b ≠ p → H1 b = some o)
    ⟨none, none, none, none, rfl, upd_same, by rw [upd_ne ndp.symm, upd_same] <;> rfl, fun b o e n => by rw [upd_ne n, upd_ne (ne_of_none e nd'), upd_ne n, upd_ne n, upd_ne n]; exact e⟩ (fun i σ H1 _ h => by obtain ⟨_, _, _, _, _, _, _, kp⟩ := h; exact hbx H1 kp) ?_ ?_
  · rintro i x σ H1 H2 hi ⟨v2, v3, v4, v5, rfl, hp1, hd1, kp1⟩ ⟨Tu, x1, y1, rfl, nT, rfl, ex1, hy1⟩
    cases ex1
    obtain ⟨r, row, rfl, hri, hBi, hrow⟩ := bx.at_row hy1
    have hrm : row ∈ B := List.mem_of_getElem? hBi
    refine ⟨Tu, _, rfl, SqT.of upd_same, rfl, _, _, rfl, _, _, rfl, rfl, ?_⟩
    have hrow' : ∀ H3, (∀ b o, H b = some o → b ≠ p → H3 b = some o) → SqT K H3 r (row.map bv) := fun H3 kp => SqT.of (kp _ _ hrow (np _ _ hrow))
    have nTH : H Tu = none := by
      cases e : H Tu with
      | none => rfl
      | some o =>
        have := kp1 Tu o e (ne_of_none hp1 nT).symm
        rw [nT] at this; cases this
    have kp2 : ∀ b o, H b = some o → b ≠ p → (upd H1 Tu (.tup [.int i, .ref r])) b = some o := fun b o e n => by rw [upd_ne (ne_of_none e nTH)]; exact kp1 b o e n
    refine ⟨_, rfl, r, _, rfl, hrow' _ kp2, ?_⟩
    refine for_it walk_enumT (fun j σ H1 => ∃ v4 v5, σ = [some (V.ref p), some (V.ref a), some (V.int i), some (V.ref r), v4, v5] ∧ H1 p = some (.ins (cTab K) dx (fsT a d B.length W)) ∧ H1 d = some (.dT (kvT (toldRows 0 (B.take i) ++ toldRow i 0 (row.take j)))) ∧ ∀ b o, H b = some o → b ≠ p → H1 b = some o)
      ⟨_, _, rfl, by rw [upd_ne (ne_of_none hp1 nT)]; exact hp1, by rw [upd_ne (ne_of_none hd1 nT), hd1, List.take_zero]; show _ = some (HO.dT (kvT (toldRows 0 (B.take i) ++ []))); rw [List.append_nil], kp2⟩ (fun j σ H1 _ h => by obtain ⟨_, _, _, _, _, kp⟩ := h; exact hrow' H1 kp) ?_ ?_
    · rintro j x σ H3 H4 hj ⟨v4, v5, rfl, hp3, hd3, kp3⟩ ⟨Tv, x2, y2, rfl, nTv, rfl, ex2, hy2⟩
      cases ex2
      obtain ⟨o, ho, rfl⟩ := map_at hy2
      have nTvH : H Tv = none := by
        cases e : H Tv with
        | none => rfl
        | some o =>
          have := kp3 Tv o e (ne_of_none hp3 nTv).symm
          rw [nTv] at this; cases this
      refine ⟨Tv, _, rfl, SqT.of upd_same, rfl, _, _, rfl, _, _, rfl, rfl, ?_⟩
      have hp4 : (upd H3 Tv (.tup [.int j, bv o])) p = some (.ins (cTab K) dx (fsT a d B.length W)) := by rw [upd_ne (ne_of_none hp3 nTv)]; exact hp3
      have hd4 : (upd H3 Tv (.tup [.int j, bv o])) d = some (.dT (kvT (toldRows 0 (B.take i) ++ toldRow i 0 (row.take j)))) := by rw [upd_ne (ne_of_none hd3 nTv)]; exact hd3
      have kp4 : ∀ b o', H b = some o' → b ≠ p → (upd H3 Tv (.tup [.int j, bv o])) b = some o' := fun b o' e n => by rw [upd_ne (ne_of_none e nTvH)]; exact kp3 b o' e n
      generalize upd H3 Tv (.tup [.int j, bv o]) = H5 at hp4 hd4 kp4
      have etk : toldRow i 0 (row.take (j + 1)) = toldRow i 0 (row.take j) ++ add1 i j o := toldRow_take ho
      refine ⟨_, rfl, rfl, _, rfl, ?_⟩
      cases o with
      | none =>
        refine iteF ?_
        exact ⟨_, _, rfl, hp4, by rw [hd4, etk]; show _ = some (HO.dT (kvT (toldRows 0 (B.take i) ++ (toldRow i 0 (row.take j) ++ [])))); rw [List.append_nil], kp4⟩
      | some u =>
        refine iteT ?_
        refine ⟨_, rfl, _, rfl, p, _, dx, _, _, rfl, hp4, T.cls, T.n_kept_told, fsT_d _ _ _ _, _, rfl, _, rfl, by show 2 ≤ sizeLine; exact sz (by omega), fun Tk nTk => ?_⟩
        have nTkH : H Tk = none := by
          cases e : H Tk with
          | none => rfl
          | some o =>
            have := kp4 Tk o e (ne_of_none hp4 nTk).symm
            rw [nTk] at this; cases this
        have fresh : ∀ v, ((i, j), v) ∉ toldRows 0 (B.take i) ++ toldRow i 0 (row.take j) := told_fresh
        have hlen : (kvT (toldRows 0 (B.take i) ++ toldRow i 0 (row.take j))).length ≤ 100000 := by
          rw [kvT_len]
          have := told_part wf (i := i) (j := j) hrm
          omega
        refine ⟨d, _, rfl, DPut.t (k := kk (i, j)) (by rw [upd_ne (ne_of_none hd4 nTk)]; exact hd4) upd_same (szl hlen), ?_⟩
        refine ⟨_, _, rfl, ?_, ?_, fun b o e n => ?_⟩
        · rw [upd_ne ndp, upd_ne (ne_of_none hp4 nTk)]
          exact hp4
        · rw [upd_same, etk]
          show some (HO.dT (putK _ (kk (i, j)) (V.str (S u)))) = _
          rw [kvT_put fresh, List.append_assoc] <;> rfl
        · rw [upd_ne (ne_of_none e nd'), upd_ne (ne_of_none e nTkH)]
          exact kp4 b o e n
    · rintro σ H3 ⟨v4, v5, rfl, hp3, hd3, kp3⟩
      refine ⟨_, _, _, _, rfl, hp3, ?_, kp3⟩
      rw [List.length_map, List.take_length, ← toldRows_take hBi] at hd3
      exact hd3
  · rintro σ H1 ⟨v2, v3, v4, v5, rfl, hp1, hd1, kp1⟩
    rw [List.length_map, bx.len, List.take_length] at hd1
    exact k d H1 nd' ⟨⟨dx, _, hp1, fsT_h _ _ _ _, fsT_w _ _ _ _, fsT_d _ _ _ _⟩, hd1⟩ kp1
end
end FtP
set_option Elab.async false
set_option linter.all false
set_option maxRecDepth 100000
set_option maxHeartbeats 4000000
namespace FtP
open PySem PySem.Spec PyProof.Rows L2 SX Ft FtT FtR C8
section
variable {P : Program} {w : World} {K : PySem.W.Frag} {mg : Str → Option Value} {base : Heap}
theorem c_init (T : Tx K mg) : Mak P w K mg base 5 "Table" (cTab K) (sp2 (prKeep K)) [] := by
  obtain ⟨fd, F, hd⟩ := T.init
  refine mak0 (N := ["self", "boxes", "at", "row", "column", "thing"]) (ps := ["self", "boxes"]) T.mkr T.g_Table F (F.binds hd (fun _ _ _ _ _ _ us hl => match us, hl with | [_, _], _ => rfl)) .nil (C8.fnScope_by (by decide +kernel)) (fun vs H Q E h => by obtain ⟨a, a2, rfl, _⟩ := h; rfl) fun cdv A outer s H vs Q E hr h => ?_
  have nd : (["self", "boxes", "at", "row", "column", "thing"] : List Str).Nodup := by decide +kernel
  obtain ⟨_, _, rfl, p, a, dx, rs, B, W, rfl, rfl, hp, bx, wf, k⟩ := h
  refine ⟨_, pss_cons (ps_if (pt_not (pt_val (pe_c (c_is_row T) hr (by decide) (by rfl) (pa_cons (pv 1) pa_nil)))) pss_never pss_nil)
    (pss_cons (ps_for PassesOwn.never rfl (pi_enumT (by rfl) T.m_enumerate (pa_cons (pv 1) pa_nil)) (pg_tup rfl (pgs_cons (pg_name (i := 2) nd rfl (.inl rfl)) (pgs_cons (pg_name (i := 3) nd rfl (.inl rfl)) pgs_nil)))
      (pss_one (ps_if (PW.pt (pw_or (pt_not (pt_val (pe_c (c_is_row T) hr (by decide) (by rfl) (pa_cons (pv 3) pa_nil)))) (pw_or1 (pt_cmpR op_ne (pe_callB call_len_seq (by rfl) T.m_len boot_len (pa_cons (pv 3) pa_nil))
        (pe_callB call_len_seq (by rfl) T.m_len boot_len (pa_cons (pe_ix ix_tup (pv 1) pe_int (fun _ _ => rfl)) pa_nil)) (nomark _))))) pss_never pss_nil)))
    (pss_cons (ps_for PassesOwn.never rfl (pi_enumT (by rfl) T.m_enumerate (pa_cons (pv 1) pa_nil)) (pg_tup rfl (pgs_cons (pg_name (i := 2) nd rfl (.inl rfl)) (pgs_cons (pg_name (i := 3) nd rfl (.inl rfl)) pgs_nil)))
      (pss_one (ps_for PassesOwn.never rfl (pi_enumT (by rfl) T.m_enumerate (pa_cons (pv 3) pa_nil)) (pg_tup rfl (pgs_cons (pg_name (i := 4) nd rfl (.inl rfl)) (pgs_cons (pg_name (i := 5) nd rfl (.inl rfl)) pgs_nil)))
        (pss_one (ps_if (pt_not (pt_val (pe_c (c_is_box_text T) hr (by decide) (by rfl) (pa_cons (pv 5) pa_nil)))) pss_never pss_nil)))))
    (pss_one (ps_expr (pe_mt (c_keep T) hr (by decide) (pv 0) (pa_cons (pv 1) pa_nil)))))), ?_⟩
  obtain ⟨r0, hr0⟩ : ∃ r, B[0]? = some r := ⟨B[0]'(by have := wf.h1; omega), List.getElem?_eq_getElem _⟩
  obtain ⟨q0, e0, e1, hq0⟩ := bx.get hr0
  have hw0 : r0.length = W := wf.rows r0 (List.mem_of_getElem? hr0)
  have hB1 := wf.h1
  have hB2 := wf.h2
  have hW1 := wf.w1
  have hW2 := wf.w2
  have lB : (rs.map V.ref).length = B.length := by rw [List.length_map, bx.len]
  refine ⟨_, rfl, _, rfl, a, _, rfl, bx.at_, by omega, by omega, true, rfl, ?_⟩
  refine iteF ?_
  -- for at, row in enumerate(boxes): all rows of one length
  refine ⟨_, rfl, a, _, rfl, SqT.of bx.at_, ?_⟩
  refine for_it walk_enumT (fun i σ H1 => ∃ v2 v3, σ = [some (V.ref p), some (V.ref a), v2, v3, none, none] ∧ Same H H1) ⟨none, none, rfl, Same.refl H⟩ (fun i σ H1 _ h => by obtain ⟨_, _, _, sm⟩ := h; exact SqT.of (sm _ _ bx.at_)) ?_ ?_
  · rintro i x σ H1 H2 hi ⟨v2, v3, rfl, sm⟩ ⟨Tu, x1, y1, rfl, nT, rfl, ex1, hy1⟩
    cases ex1
    obtain ⟨r, row, rfl, hri, hBi, hrow⟩ := bx.at_row hy1
    have hl : row.length = W := wf.rows row (List.mem_of_getElem? hBi)
    have sm2 : Same H (upd H1 Tu (.tup [.int i, .ref r])) := Same.put sm (Same.none sm nT)
    refine ⟨Tu, _, rfl, SqT.of upd_same, rfl, _, _, rfl, _, _, rfl, rfl, ?_⟩
    refine ⟨_, rfl, _, rfl, r, _, rfl, sm2 _ _ hrow, by rw [List.length_map]; omega, by rw [List.length_map]; omega, true, rfl, ?_⟩
    refine iteF ?_
    refine ⟨_, rfl, r, _, rfl, .inr (SqT.of (sm2 _ _ hrow)), _, rfl, a, _, 0, _, rfl, rfl, SqT.of (sm2 _ _ bx.at_), atI_nat e1, q0, _, rfl, .inr (SqT.of (sm2 _ _ hq0)), rfl, _, rfl, ?_⟩
    rw [List.length_map, List.length_map, hl, hw0, decide_eq_true rfl]
    exact ⟨_, _, rfl, sm2⟩
  rintro σ H1 ⟨v2, v3, rfl, sm1⟩
  -- every box is a form or open
  refine ⟨_, rfl, a, _, rfl, SqT.of (sm1 _ _ bx.at_), ?_⟩
  refine for_it walk_enumT (fun i σ H1 => ∃ v2 v3 v4 v5, σ = [some (V.ref p), some (V.ref a), v2, v3, v4, v5] ∧ Same H H1) ⟨_, _, _, _, rfl, sm1⟩ (fun i σ H1 _ h => by obtain ⟨_, _, _, _, _, sm⟩ := h; exact SqT.of (sm _ _ bx.at_)) ?_ ?_
  · rintro i x σ H1 H2 hi ⟨v2, v3, v4, v5, rfl, sm⟩ ⟨Tu, x1, y1, rfl, nT, rfl, ex1, hy1⟩
    cases ex1
    obtain ⟨r, row, rfl, hri, hBi, hrow⟩ := bx.at_row hy1
    have hrm := List.mem_of_getElem? hBi
    have sm2 : Same H (upd H1 Tu (.tup [.int i, .ref r])) := Same.put sm (Same.none sm nT)
    refine ⟨Tu, _, rfl, SqT.of upd_same, rfl, _, _, rfl, _, _, rfl, rfl, ?_⟩
    refine ⟨_, rfl, r, _, rfl, SqT.of (sm2 _ _ hrow), ?_⟩
    refine for_it walk_enumT (fun j σ H1 => ∃ v4 v5, σ = [some (V.ref p), some (V.ref a), some (V.int i), some (V.ref r), v4, v5] ∧ Same H H1) ⟨_, _, rfl, sm2⟩ (fun j σ H1 _ h => by obtain ⟨_, _, _, sm⟩ := h; exact SqT.of (sm _ _ hrow)) ?_ ?_
    · rintro j x σ H3 H4 hj ⟨v4, v5, rfl, sm3⟩ ⟨Tv, x2, y2, rfl, nTv, rfl, ex2, hy2⟩
      cases ex2
      obtain ⟨o, ho, rfl⟩ := map_at hy2
      have sm4 : Same H (upd H3 Tv (.tup [.int j, bv o])) := Same.put sm3 (Same.none sm3 nTv)
      refine ⟨Tv, _, rfl, SqT.of upd_same, rfl, _, _, rfl, _, _, rfl, rfl, ?_⟩
      refine ⟨_, rfl, _, rfl, o, rfl, fun u e => ?_, fun H5 sm5 => ⟨true, rfl, ?_⟩⟩
      · rw [e] at ho
        exact wf.forms row hrm u (List.mem_of_getElem? ho)
      · refine iteF ?_
        exact ⟨_, _, rfl, sm4.trans sm5⟩
    · rintro σ H3 ⟨v4, v5, rfl, sm3⟩
      exact ⟨_, _, _, _, rfl, sm3⟩
  -- self.keep(boxes)
  rintro σ H1 ⟨v2, v3, v4, v5, rfl, sm⟩
  refine ⟨_, rfl, p, dx, [], rfl, sm _ _ hp, rfl, _, rfl, _, _, rfl, p, a, dx, rs, B, W, rfl, rfl, sm _ _ hp, bx.same sm, wf, fun d H2 nd2 tab kp => ?_⟩
  exact k d H2 (Same.none sm nd2) tab fun b o e n => kp b o (sm b o e) n
end
end FtP
set_option Elab.async false
set_option linter.all false
set_option maxRecDepth 100000
set_option maxHeartbeats 4000000
namespace FtP
open PySem PySem.Spec PyProof.Rows L2 SX Ft FtT FtR C8
/-! ### dicts whose keys are numbers -/
section
variable {α : Type}
def kvN (g : α → V) (L : List (Nat × α)) : List (Key × V) := L.map fun e => (Sum.inl (e.1 : Int), g e.2)
theorem kvN_len (g : α → V) (L : List (Nat × α)) : (kvN g L).length = L.length := by unfold kvN; simp
theorem key_ne {i j : Nat} (h : i ≠ j) : ¬ ((Sum.inl (i : Int) : Key) = Sum.inl (j : Int)) := fun e => h (by have : (i : Int) = j := Sum.inl.inj e; omega)
theorem kvN_some {g : α → V} {L : List (Nat × α)} (hk : (L.map (·.1)).Nodup) {i : Nat} {x : α} (h : (i, x) ∈ L) : valV (kvN g L) (Sum.inl (i : Int)) = some (g x) := by
  induction L with
  | nil => simp at h
  | cons y L ih =>
    have hn := List.nodup_cons.mp (show (y.1 :: L.map (·.1)).Nodup from hk)
    rcases List.mem_cons.mp h with q | q
    · rw [← q]
      exact valV_pos rfl
    · have ne : y.1 ≠ i := fun z => hn.1 (by rw [z]; exact List.mem_map.mpr ⟨_, q, rfl⟩)
      exact (valV_neg (p := ((Sum.inl (y.1 : Int) : Key), g y.2)) (key_ne ne)).trans (ih hn.2 q)
theorem kvN_none {g : α → V} {L : List (Nat × α)} {i : Nat} (h : i ∉ L.map (·.1)) : valV (kvN g L) (Sum.inl (i : Int)) = none := by
  induction L with
  | nil => rfl
  | cons y L ih =>
    have ne : y.1 ≠ i := fun z => h (by rw [← z]; exact List.mem_cons_self)
    exact (valV_neg (p := ((Sum.inl (y.1 : Int) : Key), g y.2)) (key_ne ne)).trans (ih fun hm => h (List.mem_cons_of_mem _ hm))
theorem kvN_in {g : α → V} {L : List (Nat × α)} (hk : (L.map (·.1)).Nodup) {i : Nat} : (valV (kvN g L) (Sum.inl (i : Int))).isSome = decide (i ∈ L.map (·.1)) := by
  by_cases h : i ∈ L.map (·.1)
  · obtain ⟨⟨i', x⟩, hm, rfl⟩ := List.mem_map.mp h
    rw [decide_eq_true h, kvN_some hk hm] <;> rfl
  · rw [decide_eq_false h, kvN_none h] <;> rfl
theorem kvN_put {g : α → V} {L : List (Nat × α)} {i : Nat} (h : i ∉ L.map (·.1)) (x : α) : putK (kvN g L) (Sum.inl (i : Int)) (g x) = kvN g (L ++ [(i, x)]) := by
  rw [putK_new _ (kvN_none h)]
  unfold kvN
  rw [List.map_append] <;> rfl
theorem kvN_get {g : α → V} {L : List (Nat × α)} {n : Nat} {k : Key} {v : V} (h : (kvN g L)[n]? = some (k, v)) : ∃ i x, L[n]? = some (i, x) ∧ k = Sum.inl (i : Int) ∧ v = g x := by
  obtain ⟨⟨i, x⟩, h1, h2⟩ := map_at h
  exact ⟨i, x, h1, (Prod.mk.inj h2).1, (Prod.mk.inj h2).2⟩
end
/-- "row" and "column" -/
def kn : Bool → V
  | true => .str "row"
  | false => .str "column"
theorem kn_row (k : Bool) : decide (kn k = V.str "row") = k := by cases k <;> decide +kernel
theorem kn_col (k : Bool) : decide (kn k = V.str "column") = !k := by cases k <;> decide +kernel
/-- the box by which one has come, None for the first row -/
def bxv : Option Tri → V
  | none => .non
  | some t => .ref t.1
def tri (t : Tri) : V := .ref t.1
/-- the boxes' own tuples -/
def BxR (H : Hp) (R : Rs) : Prop := ∀ i q a b, (i, some (q, a, b)) ∈ R → H q = some (.tup [.int (a : Nat), .int (b : Nat)])
def BxC (H : Hp) (C : Cs) : Prop := ∀ j q a b, (j, (q, a, b)) ∈ C → H q = some (.tup [.int (a : Nat), .int (b : Nat)])
structure SpH (d : Addr) (H0 H : Hp) (ra ca wl : Addr) (ws : List Addr) (R : Rs) (C : Cs) (wt : List (Bool × Nat)) : Prop where
  sm : ∀ b o, H0 b = some o → b ≠ d → H b = some o
  hr : H ra = some (.dK (kvN bxv R))
  hc : H ca = some (.dK (kvN tri C))
  hw : H wl = some (.lst (ws.map V.ref))
  len : ws.length = wt.length
  wat : ∀ (n : Nat) (t : Addr) (k : Bool) (x : Nat), ws[n]? = some t → wt[n]? = some (k, x) → H t = some (.tup [kn k, .int (x : Nat)])
  br : BxR H R
  bc : BxC H C
  rc : ra ≠ ca
  n1 : H0 ra = none
  n2 : H0 ca = none
  n3 : H0 wl = none
section
variable {d ra ca wl : Addr} {H0 H : Hp} {ws : List Addr} {R : Rs} {C : Cs} {wt : List (Bool × Nat)}
theorem lst_ne {H : Hp} {a b : Addr} {xs : List V} {kvs : List (Key × V)} (h : H a = some (.lst xs)) (h' : H b = some (.dK kvs)) : a ≠ b := ne_of h h' (by intro z; cases z)
theorem tup_ne_dk {H : Hp} {a b : Addr} {xs : List V} {kvs : List (Key × V)} (h : H a = some (.tup xs)) (h' : H b = some (.dK kvs)) : a ≠ b := ne_of h h' (by intro z; cases z)
theorem tup_ne_lst {H : Hp} {a b : Addr} {xs ys : List V} (h : H a = some (.tup xs)) (h' : H b = some (.lst ys)) : a ≠ b := ne_of h h' (by intro z; cases z)
/-- a dict, a new tuple, the list behind it: the column j is come to -/
theorem SpH.addC (s : SpH d H0 H ra ca wl ws R C wt) {i j q t : Nat} (hq : H q = some (.tup [.int (i : Nat), .int (j : Nat)])) (hj : j ∉ C.map (·.1)) (nt : (upd H ca (.dK (putK (kvN tri C) (Sum.inl (j : Int)) (.ref q)))) t = none) :
    SpH d H0 (upd (upd (upd H ca (.dK (putK (kvN tri C) (Sum.inl (j : Int)) (.ref q)))) t (.tup [.str "column", .int (j : Nat)])) wl (.lst (ws.map V.ref ++ [.ref t]))) ra ca wl (ws ++ [t]) R (C ++ [(j, (q, i, j))]) (wt ++ [(false, j)]) := by
  have wc : wl ≠ ca := lst_ne s.hw s.hc
  have wr : wl ≠ ra := lst_ne s.hw s.hr
  have tc : t ≠ ca := fun z => by rw [z, upd_same] at nt; cases nt
  have nt' : H t = none := by rw [upd_ne tc] at nt; exact nt
  have keep : ∀ b xs, H b = some (.tup xs) → (upd (upd (upd H ca (.dK (putK (kvN tri C) (Sum.inl (j : Int)) (.ref q)))) t (.tup [.str "column", .int (j : Nat)])) wl (.lst (ws.map V.ref ++ [.ref t]))) b = some (.tup xs) := fun b xs e => by
    rw [upd_ne (tup_ne_lst e s.hw), upd_ne (ne_of_none e nt'), upd_ne (tup_ne_dk e s.hc)]
    exact e
  have ep : putK (kvN tri C) (Sum.inl (j : Int)) (.ref q) = kvN tri (C ++ [(j, (q, i, j))]) := kvN_put hj (q, i, j)
  have h0t : H0 t = none ∨ t = d := by
    by_cases e : t = d
    · exact .inr e
    · refine .inl ?_
      cases q : H0 t with
      | none => rfl
      | some o =>
        have := s.sm t o q e
        rw [nt'] at this; cases this
  refine ⟨fun b o e n => ?_, ?_, ?_, ?_, ?_, fun n t' k x h1 h2 => ?_, fun i' q' a b h => keep _ _ (s.br i' q' a b h), fun j' q' a b h => ?_, s.rc, s.n1, s.n2, s.n3⟩
  · have bt : b ≠ t := fun z => by
      rcases h0t with y | y
      · rw [z, y] at e; cases e
      · exact n (z.trans y)
    rw [upd_ne (ne_of_none e s.n3), upd_ne bt, upd_ne (ne_of_none e s.n2)]
    exact s.sm b o e n
  · rw [upd_ne wr.symm, upd_ne (ne_of_none s.hr nt'), upd_ne s.rc]
    exact s.hr
  · rw [upd_ne wc.symm, upd_ne tc.symm, upd_same, ep]
  · rw [upd_same, List.map_append] <;> rfl
  · rw [List.length_append, List.length_append, s.len] <;> rfl
  · by_cases hn : n < ws.length
    · rw [List.getElem?_append_left hn] at h1
      rw [List.getElem?_append_left (by rw [← s.len]; exact hn)] at h2
      exact keep _ _ (s.wat n t' k x h1 h2)
    · have hn' : n = ws.length := by
        have := (List.getElem?_eq_some_iff.mp h1).1
        rw [List.length_append] at this
        simp at this
        omega
      rw [hn', List.getElem?_append_right (Nat.le_refl _), Nat.sub_self] at h1
      rw [hn', s.len, List.getElem?_append_right (Nat.le_refl _), Nat.sub_self] at h2
      have e1 : t = t' := by simpa using h1
      have e2 : (false, j) = (k, x) := by simpa using h2
      cases e2
      rw [← e1, upd_ne (ne_of_none s.hw nt').symm, upd_same] <;> rfl
  · rcases List.mem_append.mp h with z | z
    · exact keep _ _ (s.bc j' q' a b z)
    · obtain ⟨rfl, rfl, rfl, rfl⟩ : j' = j ∧ q' = q ∧ a = i ∧ b = j := by simpa using z
      exact keep _ _ hq
theorem SpH.addR (s : SpH d H0 H ra ca wl ws R C wt) {i j q t : Nat} (hq : H q = some (.tup [.int (i : Nat), .int (j : Nat)])) (hi : i ∉ R.map (·.1)) (nt : (upd H ra (.dK (putK (kvN bxv R) (Sum.inl (i : Int)) (.ref q)))) t = none) :
    SpH d H0 (upd (upd (upd H ra (.dK (putK (kvN bxv R) (Sum.inl (i : Int)) (.ref q)))) t (.tup [.str "row", .int (i : Nat)])) wl (.lst (ws.map V.ref ++ [.ref t]))) ra ca wl (ws ++ [t]) (R ++ [(i, some (q, i, j))]) C (wt ++ [(true, i)]) := by
  have wc : wl ≠ ca := lst_ne s.hw s.hc
  have wr : wl ≠ ra := lst_ne s.hw s.hr
  have tr : t ≠ ra := fun z => by rw [z, upd_same] at nt; cases nt
  have nt' : H t = none := by rw [upd_ne tr] at nt; exact nt
  have keep : ∀ b xs, H b = some (.tup xs) → (upd (upd (upd H ra (.dK (putK (kvN bxv R) (Sum.inl (i : Int)) (.ref q)))) t (.tup [.str "row", .int (i : Nat)])) wl (.lst (ws.map V.ref ++ [.ref t]))) b = some (.tup xs) := fun b xs e => by
    rw [upd_ne (tup_ne_lst e s.hw), upd_ne (ne_of_none e nt'), upd_ne (tup_ne_dk e s.hr)]
    exact e
  have ep : putK (kvN bxv R) (Sum.inl (i : Int)) (.ref q) = kvN bxv (R ++ [(i, some (q, i, j))]) := kvN_put hi (some (q, i, j))
  have h0t : H0 t = none ∨ t = d := by
    by_cases e : t = d
    · exact .inr e
    · refine .inl ?_
      cases q : H0 t with
      | none => rfl
      | some o =>
        have := s.sm t o q e
        rw [nt'] at this; cases this
  refine ⟨fun b o e n => ?_, ?_, ?_, ?_, ?_, fun n t' k x h1 h2 => ?_, fun i' q' a b h => ?_, fun j' q' a b h => keep _ _ (s.bc j' q' a b h), s.rc, s.n1, s.n2, s.n3⟩
  · have bt : b ≠ t := fun z => by
      rcases h0t with y | y
      · rw [z, y] at e; cases e
      · exact n (z.trans y)
    rw [upd_ne (ne_of_none e s.n3), upd_ne bt, upd_ne (ne_of_none e s.n1)]
    exact s.sm b o e n
  · rw [upd_ne wr.symm, upd_ne tr.symm, upd_same, ep]
  · rw [upd_ne wc.symm, upd_ne (ne_of_none s.hc nt'), upd_ne s.rc.symm]
    exact s.hc
  · rw [upd_same, List.map_append] <;> rfl
  · rw [List.length_append, List.length_append, s.len] <;> rfl
  · by_cases hn : n < ws.length
    · rw [List.getElem?_append_left hn] at h1
      rw [List.getElem?_append_left (by rw [← s.len]; exact hn)] at h2
      exact keep _ _ (s.wat n t' k x h1 h2)
    · have hn' : n = ws.length := by
        have := (List.getElem?_eq_some_iff.mp h1).1
        rw [List.length_append] at this
        simp at this
        omega
      rw [hn', List.getElem?_append_right (Nat.le_refl _), Nat.sub_self] at h1
      rw [hn', s.len, List.getElem?_append_right (Nat.le_refl _), Nat.sub_self] at h2
      have e1 : t = t' := by simpa using h1
      have e2 : (true, i) = (k, x) := by simpa using h2
      cases e2
      rw [← e1, upd_ne (ne_of_none s.hw nt').symm, upd_same] <;> rfl
  · rcases List.mem_append.mp h with z | z
    · exact keep _ _ (s.br i' q' a b z)
    · obtain ⟨rfl, rfl, rfl, rfl⟩ : i' = i ∧ q' = q ∧ a = i ∧ b = j := by simpa using z
      exact keep _ _ hq
end
end FtP
set_option Elab.async false
set_option linter.all false
set_option maxRecDepth 100000
set_option maxHeartbeats 4000000
namespace FtP
open PySem PySem.Spec PyProof.Rows L2 SX Ft FtT FtR C8
/-- what is asked of a table that is handed in -/
def Tab (K : PySem.W.Frag) (H : Hp) (t d : Addr) (h w : Nat) (T : Told) : Prop := TabAt K H t d h w T ∧ Tk T h w
/-- of the boxes ahead of a place: what hangs on the one at hand has been come to -/
def Part (k : Bool) (x : Nat) (pre : Told) (R : Rs) (C : Cs) : Prop := ∀ e ∈ pre, (k = true → e.1.1 = x → e.1.2 ∈ C.map (·.1)) ∧ (k = false → e.1.2 = x → e.1.1 ∈ R.map (·.1))
theorem Part.clo {k : Bool} {x : Nat} {T : Told} {R : Rs} {C : Cs} (h : Part k x T R C) : Clo T R C (k, x) := by
  cases k with
  | true => exact fun j f m => (h _ m).1 rfl rfl
  | false => exact fun i f m => (h _ m).2 rfl rfl
theorem Part.mono {k : Bool} {x : Nat} {pre : Told} {R R' : Rs} {C C' : Cs} (h : Part k x pre R C) (hR : ∀ i, i ∈ R.map (·.1) → i ∈ R'.map (·.1)) (hC : ∀ j, j ∈ C.map (·.1) → j ∈ C'.map (·.1)) : Part k x pre R' C' :=
  fun e he => ⟨fun a b => hC _ ((h e he).1 a b), fun a b => hR _ ((h e he).2 a b)⟩
theorem Part.snoc {k : Bool} {x : Nat} {pre : Told} {R : Rs} {C : Cs} (h : Part k x pre R C) {e : (Nat × Nat) × List Nat} (he : (k = true → e.1.1 = x → e.1.2 ∈ C.map (·.1)) ∧ (k = false → e.1.2 = x → e.1.1 ∈ R.map (·.1))) : Part k x (pre ++ [e]) R C := fun e' h' => by
  rcases List.mem_append.mp h' with z | z
  · exact h e' z
  · rw [List.mem_singleton.mp z]
    exact he
/-- the state in the turn over the told boxes -/
structure St1 (d : Addr) (T : Told) (r : Nat) (H0 H : Hp) (ra ca wl : Addr) (dn : Nat) (k : Bool) (x : Nat) (pre : Told) : Prop where
  ex : ∃ ws R C wt, SpH d H0 H ra ca wl ws R C wt ∧ Bf T r R C wt ∧ (∀ (n : Nat) y, n < dn → wt[n]? = some y → Clo T R C y) ∧ wt[dn]? = some (k, x) ∧ Part k x pre R C
/-- .. behind the first test of a turn -/
structure St2 (d : Addr) (T : Told) (r : Nat) (H0 H : Hp) (ra ca wl : Addr) (dn : Nat) (k : Bool) (x : Nat) (pre : Told) (i j : Nat) : Prop where
  ex : ∃ ws R C wt, SpH d H0 H ra ca wl ws R C wt ∧ Bf T r R C wt ∧ (∀ (n : Nat) y, n < dn → wt[n]? = some y → Clo T R C y) ∧ wt[dn]? = some (k, x) ∧ Part k x pre R C ∧ (k = true → i = x → j ∈ C.map (·.1))
theorem SpH.atd {d ra ca wl : Addr} {H0 H : Hp} {ws : List Addr} {R : Rs} {C : Cs} {wt : List (Bool × Nat)} {o o' : HO} (s : SpH d H0 H ra ca wl ws R C wt) (hd : H d = some o) (h1 : ∀ xs, o ≠ .lst xs) (h2 : ∀ xs, o ≠ .dK xs) (h3 : ∀ xs, o ≠ .tup xs) : SpH d H0 (upd H d o') ra ca wl ws R C wt where
  sm := fun b u e n => by rw [upd_ne n]; exact s.sm b u e n
  hr := by rw [upd_ne (ne_of s.hr hd (h2 _).symm)]; exact s.hr
  hc := by rw [upd_ne (ne_of s.hc hd (h2 _).symm)]; exact s.hc
  hw := by rw [upd_ne (ne_of s.hw hd (h1 _).symm)]; exact s.hw
  len := s.len
  wat := fun n t k x a b => by
    have e := s.wat n t k x a b
    rw [upd_ne (ne_of e hd (h3 _).symm)]
    exact e
  br := fun i q a b h => by
    have e := s.br i q a b h
    rw [upd_ne (ne_of e hd (h3 _).symm)]
    exact e
  bc := fun j q a b h => by
    have e := s.bc j q a b h
    rw [upd_ne (ne_of e hd (h3 _).symm)]
    exact e
  rc := s.rc
  n1 := s.n1
  n2 := s.n2
  n3 := s.n3
/-- the state ahead of the test -/
structure Wst (t d : Addr) (T : Told) (r : Nat) (H0 : Hp) (ra ca wl : Addr) (dn : Nat) (σ : L2.St) (H : Hp) : Prop where
  ex : ∃ v6 v7 v8 ws R C wt, σ = [some (V.ref t), some (V.int (r : Nat)), some (V.ref ra), some (V.ref ca), some (V.ref wl), some (V.int (dn : Nat)), v6, v7, v8] ∧ SpH d H0 H ra ca wl ws R C wt ∧ H d = some (.dT (kvT T)) ∧ Bf T r R C wt ∧
    (∀ (n : Nat) y, n < dn → wt[n]? = some y → Clo T R C y) ∧ dn ≤ wt.length
def prSpread (K : PySem.W.Frag) : Pr2 := fun a b H Q _ => ∃ (t d : Addr) (h w : Nat) (T : Told) (r : Nat), a = .ref t ∧ b = .int (r : Nat) ∧ Tab K H t d h w T ∧ r < h ∧
  ∀ p ra ca R C H', Same H H' → H' p = some (.tup [.ref ra, .ref ca]) → H' ra = some (.dK (kvN bxv R)) → H' ca = some (.dK (kvN tri C)) → H ra = none → H ca = none → ra ≠ ca → BxR H' R → BxC H' C → Bfd T r R C → Q (.ref p) H'
section
variable {P : Program} {w : World} {K : PySem.W.Frag} {mg : Str → Option Value} {base : Heap}
theorem c_spread (T : Tx K mg) : Cal P w K mg base 1 "spread_from" (sp2 (prSpread K)) [] := by
  refine cal2 (N := ["table", "row", "rows", "columns", "waiting", "done", "kind", "here", "box"]) (p1 := "table") (p2 := "row") T.d_spread_from (by decide +kernel) (fun _ _ _ _ _ _ us hl => match us, hl with | [_, _], _ => rfl) fun f cdv A outer s H a1 a2 Q E nd hr h => ?_
  have hu := hu_of hr
  obtain ⟨t, d, hh, ww, TT, r, rfl, rfl, ⟨tab, tk⟩, hrh, k⟩ := h
  refine ⟨_, pss_cons (ps_set (i := 2) nd rfl (.inl rfl) (pe_disp (pps_cons (pv 1) pe_non pps_nil) (by rfl) (by rfl) (fun z => by cases z) (by decide)))
    (pss_cons (ps_set (i := 3) nd rfl (.inl rfl) pe_dnewK)
    (pss_cons (ps_set (i := 4) nd rfl (.inl rfl) (pe_lst (pa_cons (pe_tup (pa_cons pe_str (pa_cons (pv 1) pa_nil))) pa_nil)))
    (pss_cons (ps_set (i := 5) nd rfl (.inl rfl) pe_int)
    (pss_cons (ps_while PassesOwn.never (pt_cmpR op_lt (pv 5) (pe_callB call_len_seq (by rfl) T.m_len boot_len (pa_cons (pv 4) pa_nil)) (nomark _))
      (pss_cons (ps_asg (pe_ix ix_list (pv 4) (pv 5) (fun _ _ => rfl)) (pg_tup rfl (pgs_cons (pg_name (i := 6) nd rfl (.inl rfl)) (pgs_cons (pg_name (i := 7) nd rfl (.inl rfl)) pgs_nil))))
      (pss_cons (ps_aug (i := 5) nd rfl (.inl rfl) pe_int ip_add)
      (pss_one (ps_lock (ps_for PassesOwn.never rfl (pi_keys (pe_fld (pv 0) rfl)) (pg_name (i := 8) nd rfl (.inl rfl))
        (C8.pss_cut (ps_if (PW.pt (pw_and (pt_cmpR op_eq (pv 6) pe_str (nomark _)) (pw_and (pt_cmpR op_eq (pe_ix ix_tup (pv 8) pe_int (fun _ _ => rfl)) (pv 7) (nomark _)) (pw_and1 (pt_cmp (pc_dnotin hu (pe_ix ix_tup (pv 8) pe_int (fun _ _ => rfl)) (pv 3)))))))
          (pss_cons (ps_dput hu (pv 3) (pe_ix ix_tup (pv 8) pe_int (fun _ _ => rfl)) (pv 8) rfl)
            (pss_one (ps_expr (pe_bm F.plainAttrs_list F.slot_list_append F.type_list_append mt_append (pv 4) (pa_cons (pe_tup (pa_cons pe_str (pa_cons (pe_ix ix_tup (pv 8) pe_int (fun _ _ => rfl)) pa_nil))) pa_nil))))) pss_nil)
        (pss_one (ps_if (PW.pt (pw_and (pt_cmpR op_eq (pv 6) pe_str (nomark _)) (pw_and (pt_cmpR op_eq (pe_ix ix_tup (pv 8) pe_int (fun _ _ => rfl)) (pv 7) (nomark _)) (pw_and1 (pt_cmp (pc_dnotin hu (pe_ix ix_tup (pv 8) pe_int (fun _ _ => rfl)) (pv 2)))))))
          (pss_cons (ps_dput hu (pv 2) (pe_ix ix_tup (pv 8) pe_int (fun _ _ => rfl)) (pv 8) rfl)
            (pss_one (ps_expr (pe_bm F.plainAttrs_list F.slot_list_append F.type_list_append mt_append (pv 4) (pa_cons (pe_tup (pa_cons pe_str (pa_cons (pe_ix ix_tup (pv 8) pe_int (fun _ _ => rfl)) pa_nil))) pa_nil))))) pss_nil)))))))))
    (pss_one (ps_ret (pe_tup (pa_cons (pv 2) (pa_cons (pv 3) pa_nil))))))))), ?_⟩
  -- rows = {row: None}; columns = {}; waiting = [("row", row)]; done = 0
  intro ra nra
  refine ⟨_, rfl, upd_same, [(Sum.inl (r : Int), .non)], rfl, by show 1 ≤ 15; omega, ?_⟩
  intro ca nca
  have rc : ra ≠ ca := fun z => by rw [← z, upd_same] at nca; cases nca
  have nca' : H ca = none := by rw [upd_ne rc.symm, upd_ne rc.symm] at nca; exact nca
  refine ⟨_, rfl, by show 2 ≤ sizeLine; exact sz (by omega), fun t0 nt0 => ?_⟩
  refine ⟨by show 1 ≤ sizeLine; exact sz (by omega), fun wl nwl => ?_⟩
  obtain ⟨⟨⟨dx, fs, hto, _, _, hfd⟩, hd0⟩, _⟩ := id (show Tab K H t d hh ww TT from ⟨tab, tk⟩)
  have htd : t ≠ d := ne_of hto hd0 (by intro z; cases z)
  have e1 : upd (upd H ra (.dK [])) ra (.dK (mergeK [] [((Sum.inl (r : Int) : Key), V.non)])) = upd H ra (.dK (kvN bxv [(r, none)])) := upd_upd
  rw [e1] at nca nt0 nwl ⊢
  have wr : wl ≠ ra := fun z => by rw [z, upd_ne (show ra ≠ t0 from fun y => by rw [← y, upd_ne rc, upd_same] at nt0; cases nt0), upd_ne rc, upd_same] at nwl; cases nwl
  have wc : wl ≠ ca := fun z => by rw [z, upd_ne (show ca ≠ t0 from fun y => by rw [← y, upd_same] at nt0; cases nt0), upd_same] at nwl; cases nwl
  have tr : t0 ≠ ra := fun z => by rw [z, upd_ne rc, upd_same] at nt0; cases nt0
  have tc : t0 ≠ ca := fun z => by rw [z, upd_same] at nt0; cases nt0
  have wt0 : wl ≠ t0 := fun z => by rw [z, upd_same] at nwl; cases nwl
  have nt0' : H t0 = none := by rw [upd_ne tc, upd_ne tr] at nt0; exact nt0
  have nwl' : H wl = none := by rw [upd_ne wt0, upd_ne wc, upd_ne wr] at nwl; exact nwl
  have w0 : Wst t d TT r H ra ca wl 0 [some (V.ref t), some (V.int (r : Nat)), some (V.ref ra), some (V.ref ca), some (V.ref wl), some (V.int ((0 : Nat) : Int)), none, none, none]
      (upd (upd (upd (upd H ra (.dK (kvN bxv [(r, none)]))) ca (.dK [])) t0 (.tup [.str "row", .int (r : Nat)])) wl (.lst [.ref t0])) := by
    refine ⟨none, none, none, [t0], [(r, none)], [], [(true, r)], rfl, ⟨fun b o e n => ?_, ?_, ?_, upd_same, rfl, fun n t' k' x h1 h2 => ?_, fun i q a b h => by simp at h, fun j q a b h => by simp at h, rc, nra, nca', nwl'⟩, ?_, Bf.start TT r, fun n y h => absurd h (Nat.not_lt_zero _), Nat.zero_le _⟩
    · rw [upd_ne (ne_of_none e nwl'), upd_ne (ne_of_none e nt0'), upd_ne (ne_of_none e nca'), upd_ne (ne_of_none e nra)]
      exact e
    · rw [upd_ne wr.symm, upd_ne tr.symm, upd_ne rc, upd_same]
    · rw [upd_ne wc.symm, upd_ne tc.symm, upd_same] <;> rfl
    · match n, h1, h2 with
      | 0, h1, h2 =>
        have a1 : t0 = t' := by simpa using h1
        have a2 : (true, r) = (k', x) := by simpa using h2
        cases a2
        rw [← a1, upd_ne wt0.symm, upd_same] <;> rfl
      | n + 1, h1, _ => simp at h1
    · rw [upd_ne (ne_of_none hd0 nwl'), upd_ne (ne_of_none hd0 nt0'), upd_ne (ne_of_none hd0 nca'), upd_ne (ne_of_none hd0 nra)]
      exact hd0
  generalize upd (upd (upd (upd H ra (.dK (kvN bxv [(r, none)]))) ca (.dK [])) t0 (.tup [.str "row", .int (r : Nat)])) wl (.lst [.ref t0]) = H1 at w0
  refine ⟨fun m σ H1 => ∃ dn, m = 24 - dn ∧ Wst t d TT r H ra ca wl dn σ H1, ⟨24, 0, rfl, w0⟩, ?_⟩
  rintro m σ H1 ⟨dn, rfl, ⟨v6, v7, v8, ws, R, C, wt, rfl, sp, hd1, bf, clo, hdn⟩⟩
  have ls := bf.lens tk hrh
  have h12 := tk.h12
  have w12 := tk.w12
  have wl24 : wt.length ≤ 24 := by have := bf.len; omega
  refine ⟨_, rfl, _, rfl, wl, _, rfl, .inl (SqL.of sp.hw), _, _, rfl, rfl, _, rfl, ?_⟩
  refine ite2 (fun hlt => ?_) (fun hge => ?_)
  · have hlt' : dn < wt.length := by
      have := of_decide_eq_true hlt
      rw [List.length_map, sp.len] at this
      omega
    refine ⟨Wst t d TT r H ra ca wl (dn + 1), fun σ' H' h => ⟨24 - (dn + 1), by omega, dn + 1, rfl, h⟩, ?_⟩
    obtain ⟨⟨kd, x⟩, hx⟩ : ∃ y, wt[dn]? = some y := ⟨wt[dn], List.getElem?_eq_getElem hlt'⟩
    obtain ⟨tn, htn⟩ : ∃ y, ws[dn]? = some y := ⟨ws[dn]'(by rw [sp.len]; exact hlt'), List.getElem?_eq_getElem _⟩
    refine ⟨_, rfl, _, rfl, wl, _, (dn : Nat), _, rfl, rfl, SqL.of sp.hw, atI_nat (at_map V.ref htn), tn, _, rfl, SqT.of (sp.wat dn tn kd x htn hx), rfl, _, _, rfl, _, _, rfl, rfl, ?_⟩
    refine ⟨_, rfl, (dn : Nat), 1, rfl, rfl, ?_⟩
    refine ⟨d, .dT (kvT TT), hd1, trivial, fun od => ?_⟩
    have sp2 : SpH d H (upd H1 d (.frz od (.dT (kvT TT)))) ra ca wl ws R C wt := sp.atd hd1 (fun _ => by intro z; cases z) (fun _ => by intro z; cases z) (fun _ => by intro z; cases z)
    have hto1 : (upd H1 d (.frz od (.dT (kvT TT)))) t = some (.ins (cTab K) dx fs) := by rw [upd_ne htd]; exact sp.sm _ _ hto htd
    refine ⟨_, rfl, t, cTab K, dx, fs, _, rfl, hto1, T.cls, T.n_kept_told, hfd, d, od, rfl, .inr ⟨_, upd_same, ?_⟩⟩
    refine for_it walk_keysT (fun i σ H2 => ∃ v8, σ = [some (V.ref t), some (V.int (r : Nat)), some (V.ref ra), some (V.ref ca), some (V.ref wl), some (V.int ((dn : Nat) + 1)), some (kn kd), some (V.int (x : Nat)), v8] ∧ St1 d TT r H H2 ra ca wl dn kd x (TT.take i) ∧ H2 d = some (.frz od (.dT (kvT TT))))
      ⟨_, rfl, ⟨ws, R, C, wt, sp2, bf, clo, hx, fun e he => by simp at he⟩, upd_same⟩ (fun i σ H2 _ h => by obtain ⟨_, _, _, h⟩ := h; exact h) ?_ ?_
    · rintro i y σ H3 H2 hi ⟨v8, rfl, ⟨ws, R, C, wt, sp, bf, clo, hx, pt⟩, hf⟩ ⟨rfl, k1, v1, q, hkv, rfl, hq⟩
      obtain ⟨⟨i1, j1⟩, u, hT, rfl, rfl⟩ := kvT_get hkv
      have hq : H2 q = some (.tup [.int (i1 : Nat), .int (j1 : Nat)]) := hq
      have hm : ((i1, j1), u) ∈ TT := List.mem_of_getElem? hT
      have etk : TT.take (i + 1) = TT.take i ++ [((i1, j1), u)] := by rw [List.take_succ, hT] <;> rfl
      have qd : ∀ {Hx : Hp} {o}, Hx q = some (.tup [.int (i1 : Nat), .int (j1 : Nat)]) → Hx d = some (.frz od o) → q ≠ d := fun a b => ne_of a b (by intro z; cases z)
      refine ⟨fun σ' H' => σ' = [some (V.ref t), some (V.int (r : Nat)), some (V.ref ra), some (V.ref ca), some (V.ref wl), some (V.int ((dn : Nat) + 1)), some (kn kd), some (V.int (x : Nat)), some (V.ref q)] ∧ St2 d TT r H H' ra ca wl dn kd x (TT.take i) i1 j1 ∧ H' d = some (.frz od (.dT (kvT TT))) ∧ H' q = some (.tup [.int (i1 : Nat), .int (j1 : Nat)]), ?_, ?_⟩
      · -- kind == 'row' and box[0] == here and box[1] not in columns
        have stay : (kd = true → i1 = x → j1 ∈ C.map (·.1)) → St2 d TT r H H2 ra ca wl dn kd x (TT.take i) i1 j1 := fun h => ⟨ws, R, C, wt, sp, bf, clo, hx, pt, h⟩
        cases kd with
        | false =>
          refine ⟨_, rfl, rfl, _, rfl, ?_⟩
          rw [kn_row]
          exact iteF (iteF ⟨rfl, stay (fun h => Bool.noConfusion h), hf, hq⟩)
        | true =>
          refine ⟨_, rfl, rfl, _, rfl, ?_⟩
          rw [kn_row]
          refine iteT ?_
          refine ⟨_, rfl, q, _, 0, _, rfl, rfl, SqT.of hq, rfl, _, rfl, rfl, _, rfl, ?_⟩
          by_cases e1 : i1 = x
          · rw [decide_eq_true (by rw [e1])]
            refine iteT ?_
            refine ⟨_, rfl, q, _, 1, _, rfl, rfl, SqT.of hq, rfl, _, rfl, ca, _, rfl, DGet.k (k := Sum.inl (j1 : Int)) sp.hc, _, rfl, ?_⟩
            rw [kvN_in bf.ndC]
            by_cases e2 : j1 ∈ C.map (·.1)
            · rw [decide_eq_true e2]
              exact iteF ⟨rfl, stay (fun _ _ => e2), hf, hq⟩
            · rw [decide_eq_false e2]
              refine iteT ?_
              have hcl : (kvN tri C).length ≤ 100000 := by rw [kvN_len]; have := (bf.lens tk hrh).2; omega
              refine ⟨_, rfl, _, rfl, _, rfl, q, _, 1, _, rfl, rfl, SqT.of hq, rfl, ca, _, rfl, DPut.k (k := Sum.inl (j1 : Int)) sp.hc (szl hcl), ?_⟩
              have qc : q ≠ ca := tup_ne_dk hq sp.hc
              have wc : wl ≠ ca := lst_ne sp.hw sp.hc
              refine ⟨_, rfl, .inl ⟨rfl, _, SqL.of (by rw [upd_ne wc]; exact sp.hw)⟩, _, rfl, q, _, 1, _, rfl, rfl, SqT.of (by rw [upd_ne qc]; exact hq), rfl, by show 2 ≤ sizeLine; exact sz (by omega), fun tn nt => ?_⟩
              have hws : (ws.map V.ref).length ≤ 100000 := by rw [List.length_map, sp.len, bf.len]; have := bf.lens tk hrh; omega
              refine ⟨wl, _, _, rfl, rfl, by rw [upd_ne (ne_of_none (show (upd H2 ca _) wl = some _ by rw [upd_ne wc]; exact sp.hw) nt), upd_ne wc]; exact sp.hw, szl hws, ?_⟩
              have ir : i1 ∈ R.map (·.1) := by rw [e1]; exact (bf.memR x).mp (List.mem_of_getElem? hx)
              have sp' := sp.addC (i := i1) hq e2 nt
              have bf' := bf.addC (q := q) hm ir e2
              have cm : ∀ j, j ∈ C.map (·.1) → j ∈ (C ++ [(j1, (q, i1, j1))]).map (·.1) := fun j hj => by rw [List.map_append]; exact List.mem_append_left _ hj
              have hdn : dn < wt.length := (List.getElem?_eq_some_iff.mp hx).1
              have dca : d ≠ ca := ne_of hf sp.hc (by intro z; cases z)
              have dwl : d ≠ wl := ne_of hf sp.hw (by intro z; cases z)
              refine ⟨rfl, ⟨ws ++ [tn], R, _, _, sp', bf', fun n y hn hy => ?_, ?_, pt.mono (fun _ h => h) cm, fun _ _ => by rw [List.map_append]; exact List.mem_append_right _ (by simp)⟩, ?_, ?_⟩
              · rw [List.getElem?_append_left (by omega)] at hy
                exact (clo n y hn hy).mono (fun _ h => h) cm
              · rw [List.getElem?_append_left hdn]
                exact hx
              · rw [upd_ne dwl, upd_ne (ne_of_none (show (upd H2 ca _) d = some _ by rw [upd_ne dca]; exact hf) nt), upd_ne dca]
                exact hf
              · rw [upd_ne (tup_ne_lst hq sp.hw), upd_ne (ne_of_none (show (upd H2 ca _) q = some _ by rw [upd_ne qc]; exact hq) nt), upd_ne qc]
                exact hq
          · rw [decide_eq_false (by intro z; exact e1 (by have := V.int.inj z; omega))]
            exact iteF (iteF ⟨rfl, stay (fun _ h => absurd h e1), hf, hq⟩)
      · rintro σ' H3 ⟨rfl, ⟨ws, R, C, wt, sp, bf, clo, hx, pt, hcol⟩, hf, hq⟩
        have stay : (kd = false → j1 = x → i1 ∈ R.map (·.1)) → St1 d TT r H H3 ra ca wl dn kd x (TT.take (i + 1)) := fun h => ⟨ws, R, C, wt, sp, bf, clo, hx, by rw [etk]; exact pt.snoc ⟨hcol, h⟩⟩
        cases kd with
        | true =>
          refine ⟨_, rfl, rfl, _, rfl, ?_⟩
          rw [kn_col]
          exact iteF (iteF ⟨_, rfl, stay (fun h => Bool.noConfusion h), hf⟩)
        | false =>
          refine ⟨_, rfl, rfl, _, rfl, ?_⟩
          rw [kn_col]
          refine iteT ?_
          refine ⟨_, rfl, q, _, 1, _, rfl, rfl, SqT.of hq, rfl, _, rfl, rfl, _, rfl, ?_⟩
          by_cases e1 : j1 = x
          · rw [decide_eq_true (by rw [e1])]
            refine iteT ?_
            refine ⟨_, rfl, q, _, 0, _, rfl, rfl, SqT.of hq, rfl, _, rfl, ra, _, rfl, DGet.k (k := Sum.inl (i1 : Int)) sp.hr, _, rfl, ?_⟩
            rw [kvN_in bf.ndR]
            by_cases e2 : i1 ∈ R.map (·.1)
            · rw [decide_eq_true e2]
              exact iteF ⟨_, rfl, stay (fun _ _ => e2), hf⟩
            · rw [decide_eq_false e2]
              refine iteT ?_
              have hcl : (kvN bxv R).length ≤ 100000 := by rw [kvN_len]; have := (bf.lens tk hrh).1; omega
              refine ⟨_, rfl, _, rfl, _, rfl, q, _, 0, _, rfl, rfl, SqT.of hq, rfl, ra, _, rfl, DPut.k (k := Sum.inl (i1 : Int)) sp.hr (szl hcl), ?_⟩
              have qc : q ≠ ra := tup_ne_dk hq sp.hr
              have wc : wl ≠ ra := lst_ne sp.hw sp.hr
              refine ⟨_, rfl, .inl ⟨rfl, _, SqL.of (by rw [upd_ne wc]; exact sp.hw)⟩, _, rfl, q, _, 0, _, rfl, rfl, SqT.of (by rw [upd_ne qc]; exact hq), rfl, by show 2 ≤ sizeLine; exact sz (by omega), fun tn nt => ?_⟩
              have hws : (ws.map V.ref).length ≤ 100000 := by rw [List.length_map, sp.len, bf.len]; have := bf.lens tk hrh; omega
              refine ⟨wl, _, _, rfl, rfl, by rw [upd_ne (ne_of_none (show (upd H3 ra _) wl = some _ by rw [upd_ne wc]; exact sp.hw) nt), upd_ne wc]; exact sp.hw, szl hws, ?_⟩
              have ic : j1 ∈ C.map (·.1) := by rw [e1]; exact (bf.memC x).mp (List.mem_of_getElem? hx)
              have sp' := sp.addR (j := j1) hq e2 nt
              have bf' := bf.addR (q := q) hm ic e2
              have cm : ∀ j, j ∈ R.map (·.1) → j ∈ (R ++ [(i1, some (q, i1, j1))]).map (·.1) := fun j hj => by rw [List.map_append]; exact List.mem_append_left _ hj
              have hdn : dn < wt.length := (List.getElem?_eq_some_iff.mp hx).1
              have dca : d ≠ ra := ne_of hf sp.hr (by intro z; cases z)
              have dwl : d ≠ wl := ne_of hf sp.hw (by intro z; cases z)
              refine ⟨_, rfl, ⟨ws ++ [tn], _, C, _, sp', bf', fun n y hn hy => ?_, ?_, by rw [etk]; exact (pt.mono cm (fun _ h => h)).snoc ⟨hcol, fun _ _ => by rw [List.map_append]; exact List.mem_append_right _ (by simp)⟩⟩, ?_⟩
              · rw [List.getElem?_append_left (by omega)] at hy
                exact (clo n y hn hy).mono cm (fun _ h => h)
              · rw [List.getElem?_append_left hdn]
                exact hx
              · rw [upd_ne dwl, upd_ne (ne_of_none (show (upd H3 ra _) d = some _ by rw [upd_ne dca]; exact hf) nt), upd_ne dca]
                exact hf
          · rw [decide_eq_false (by intro z; exact e1 (by have := V.int.inj z; omega))]
            exact iteF (iteF ⟨_, rfl, stay (fun _ h => absurd h e1), hf⟩)
    · rintro σ H2 ⟨v8, rfl, ⟨ws, R, C, wt, sp, bf, clo, hx, pt⟩, hf⟩
      refine ⟨hf, ⟨_, _, _, ws, R, C, wt, rfl, sp.atd hf (fun _ => by intro z; cases z) (fun _ => by intro z; cases z) (fun _ => by intro z; cases z), upd_same, bf, fun n y hn hy => ?_, ?_⟩⟩
      · rw [kvT_len, List.take_length] at pt
        by_cases e : n = dn
        · rw [e, hx] at hy
          rw [← Option.some.inj hy]
          exact pt.clo
        · exact clo n y (by omega) hy
      · have := (List.getElem?_eq_some_iff.mp hx).1
        omega
  · have hge' : wt.length ≤ dn := by
      have h1 : ¬ (dn : Int) < ((ws.map V.ref).length : Int) := fun z => hge (decide_eq_true z)
      rw [List.length_map, sp.len] at h1
      omega
    refine ⟨_, rfl, _, rfl, by show 2 ≤ sizeLine; exact sz (by omega), fun p np => ?_⟩
    have bfd : Bfd TT r R C := bf.done tk hrh fun y hy => by
      obtain ⟨n, hn⟩ := List.getElem?_of_mem hy
      have h1 := (List.getElem?_eq_some_iff.mp hn).1
      exact clo n y (by omega) hn
    have sm : Same H H1 := fun b o e => by
      by_cases n : b = d
      · rw [n, hd0] at e
        rw [n, hd1]
        exact e
      · exact sp.sm b o e n
    refine k p ra ca R C _ (Same.put sm (Same.none sm np)) upd_same ?_ ?_ nra nca' rc (fun i q a b h => ?_) (fun j q a b h => ?_) bfd
    · rw [upd_ne (ne_of_none sp.hr np)]
      exact sp.hr
    · rw [upd_ne (ne_of_none sp.hc np)]
      exact sp.hc
    · have e := sp.br i q a b h
      rw [upd_ne (ne_of_none e np)]
      exact e
    · have e := sp.bc j q a b h
      rw [upd_ne (ne_of_none e np)]
      exact e
end
end FtP
set_option Elab.async false
set_option linter.all false
set_option maxRecDepth 100000
set_option maxHeartbeats 4000000
namespace FtP
open PySem PySem.Spec PyProof.Rows L2 SX Ft FtT FtR C8
def tx (u : List Nat) : V := .str (S u)
theorem items_at {α : Type} {g : α → V} {L : List (Nat × α)} {i : Nat} {x y : V} (h1 : (kvN g L)[i]?.map (fun kv => kV kv.1) = some x) (h2 : (kvN g L)[i]?.map Prod.snd = some y) : ∃ n a, L[i]? = some (n, a) ∧ x = .int (n : Nat) ∧ y = g a := by
  cases e : (kvN g L)[i]? with
  | none => rw [e] at h1; cases h1
  | some kv =>
    obtain ⟨k, v⟩ := kv
    obtain ⟨n, a, q, rfl, rfl⟩ := kvN_get e
    rw [e] at h1 h2
    exact ⟨n, a, q, (Option.some.inj h1).symm, (Option.some.inj h2).symm⟩
/-- the four dicts of levels_from -/
structure LvH (H0 H : Hp) (ra ca sa ea : Addr) (oR oC : HO) (R : Rs) (C : Cs) (S E : Dt) : Prop where
  sm : Same H0 H
  hr : H ra = some oR
  hc : H ca = some oC
  hs : H sa = some (.dK (kvN tx S))
  he : H ea = some (.dK (kvN tx E))
  br : BxR H R
  bc : BxC H C
  n1 : H0 ra = none
  n2 : H0 ca = none
  n3 : H0 sa = none
  n4 : H0 ea = none
  rc : ra ≠ ca
  rs : ra ≠ sa
  re : ra ≠ ea
  cs : ca ≠ sa
  ce : ca ≠ ea
  se : sa ≠ ea
section
variable {H0 H H' : Hp} {ra ca sa ea : Addr} {oR oC : HO} {R : Rs} {C : Cs} {S E : Dt}
theorem LvH.same (x : LvH H0 H ra ca sa ea oR oC R C S E) (s : Same H H') : LvH H0 H' ra ca sa ea oR oC R C S E where
  sm := x.sm.trans s
  hr := s _ _ x.hr
  hc := s _ _ x.hc
  hs := s _ _ x.hs
  he := s _ _ x.he
  br := fun i q a b h => s _ _ (x.br i q a b h)
  bc := fun j q a b h => s _ _ (x.bc j q a b h)
  n1 := x.n1
  n2 := x.n2
  n3 := x.n3
  n4 := x.n4
  rc := x.rc
  rs := x.rs
  re := x.re
  cs := x.cs
  ce := x.ce
  se := x.se
theorem LvH.atC (x : LvH H0 H ra ca sa ea oR oC R C S E) (h : ∀ xs, oC ≠ .tup xs) (o : HO) : LvH H0 (upd H ca o) ra ca sa ea oR o R C S E where
  sm := fun b u e => by rw [upd_ne (ne_of_none e x.n2)]; exact x.sm b u e
  hr := by rw [upd_ne x.rc]; exact x.hr
  hc := upd_same
  hs := by rw [upd_ne x.cs.symm]; exact x.hs
  he := by rw [upd_ne x.ce.symm]; exact x.he
  br := fun i q a b e => by rw [upd_ne (ne_of (x.br i q a b e) x.hc (h _).symm)]; exact x.br i q a b e
  bc := fun j q a b e => by rw [upd_ne (ne_of (x.bc j q a b e) x.hc (h _).symm)]; exact x.bc j q a b e
  n1 := x.n1
  n2 := x.n2
  n3 := x.n3
  n4 := x.n4
  rc := x.rc
  rs := x.rs
  re := x.re
  cs := x.cs
  ce := x.ce
  se := x.se
theorem LvH.atR (x : LvH H0 H ra ca sa ea oR oC R C S E) (h : ∀ xs, oR ≠ .tup xs) (o : HO) : LvH H0 (upd H ra o) ra ca sa ea o oC R C S E where
  sm := fun b u e => by rw [upd_ne (ne_of_none e x.n1)]; exact x.sm b u e
  hr := upd_same
  hc := by rw [upd_ne x.rc.symm]; exact x.hc
  hs := by rw [upd_ne x.rs.symm]; exact x.hs
  he := by rw [upd_ne x.re.symm]; exact x.he
  br := fun i q a b e => by rw [upd_ne (ne_of (x.br i q a b e) x.hr (h _).symm)]; exact x.br i q a b e
  bc := fun j q a b e => by rw [upd_ne (ne_of (x.bc j q a b e) x.hr (h _).symm)]; exact x.bc j q a b e
  n1 := x.n1
  n2 := x.n2
  n3 := x.n3
  n4 := x.n4
  rc := x.rc
  rs := x.rs
  re := x.re
  cs := x.cs
  ce := x.ce
  se := x.se
theorem LvH.atE (x : LvH H0 H ra ca sa ea oR oC R C S E) (E' : Dt) {kvs : List (Key × V)} (e : kvs = kvN tx E') : LvH H0 (upd H ea (.dK kvs)) ra ca sa ea oR oC R C S E' where
  sm := fun b u e => by rw [upd_ne (ne_of_none e x.n4)]; exact x.sm b u e
  hr := by rw [upd_ne x.re]; exact x.hr
  hc := by rw [upd_ne x.ce]; exact x.hc
  hs := by rw [upd_ne x.se]; exact x.hs
  he := by rw [upd_same, e]
  br := fun i q a b e => by rw [upd_ne (tup_ne_dk (x.br i q a b e) x.he)]; exact x.br i q a b e
  bc := fun j q a b e => by rw [upd_ne (tup_ne_dk (x.bc j q a b e) x.he)]; exact x.bc j q a b e
  n1 := x.n1
  n2 := x.n2
  n3 := x.n3
  n4 := x.n4
  rc := x.rc
  rs := x.rs
  re := x.re
  cs := x.cs
  ce := x.ce
  se := x.se
theorem LvH.atS (x : LvH H0 H ra ca sa ea oR oC R C S E) (S' : Dt) {kvs : List (Key × V)} (e : kvs = kvN tx S') : LvH H0 (upd H sa (.dK kvs)) ra ca sa ea oR oC R C S' E where
  sm := fun b u e => by rw [upd_ne (ne_of_none e x.n3)]; exact x.sm b u e
  hr := by rw [upd_ne x.rs]; exact x.hr
  hc := by rw [upd_ne x.cs]; exact x.hc
  hs := by rw [upd_same, e]
  he := by rw [upd_ne x.se.symm]; exact x.he
  br := fun i q a b e => by rw [upd_ne (tup_ne_dk (x.br i q a b e) x.hs)]; exact x.br i q a b e
  bc := fun j q a b e => by rw [upd_ne (tup_ne_dk (x.bc j q a b e) x.hs)]; exact x.bc j q a b e
  n1 := x.n1
  n2 := x.n2
  n3 := x.n3
  n4 := x.n4
  rc := x.rc
  rs := x.rs
  re := x.re
  cs := x.cs
  ce := x.ce
  se := x.se
end
def prLevels (K : PySem.W.Frag) : Pr2 := fun a b H Q _ => ∃ (t d : Addr) (h w : Nat) (T : Told) (r : Nat), a = .ref t ∧ b = .int (r : Nat) ∧ Tab K H t d h w T ∧ r < h ∧
  ∀ p sa ea S E H', Same H H' → H' p = some (.tup [.ref sa, .ref ea]) → H' sa = some (.dK (kvN tx S)) → H' ea = some (.dK (kvN tx E)) → Lv T r S E → Shut T S E → Q (.ref p) H'
theorem val_in {α : Type} {g : α → V} {L : List (Nat × α)} (hk : (L.map (·.1)).Nodup) {i : Nat} {o : Option V} (e : valV (kvN g L) (Sum.inl (i : Int)) = o) : o.isSome = decide (i ∈ L.map (·.1)) := by rw [← e]; exact kvN_in hk
section
variable {P : Program} {w : World} {K : PySem.W.Frag} {mg : Str → Option Value} {base : Heap}
theorem c_levels (T : Tx K mg) : Cal P w K mg base 3 "levels_from" (sp2 (prLevels K)) [] := by
  refine cal2 (N := ["table", "row", "rows", "columns", "stems", "endings", "column", "box", "other"]) (p1 := "table") (p2 := "row") T.d_levels_from (by decide +kernel) (fun _ _ _ _ _ _ us hl => match us, hl with | [_, _], _ => rfl) fun f cdv A outer s H a1 a2 Q E nd hr h => ?_
  have hu := hu_of hr
  obtain ⟨t, d, hh, ww, TT, r, rfl, rfl, tab, hrh, k⟩ := h
  refine ⟨_, pss_cons (ps_asg (pe_c (c_spread T) hr (by decide) (by rfl) (pa_cons (pv 0) (pa_cons (pv 1) pa_nil))) (pg_tup rfl (pgs_cons (pg_name (i := 2) nd rfl (.inl rfl)) (pgs_cons (pg_name (i := 3) nd rfl (.inl rfl)) pgs_nil))))
    (pss_cons (ps_set (i := 4) nd rfl (.inl rfl) (pe_disp (pps_cons (pv 1) pe_str pps_nil) (by rfl) (by rfl) (fun z => by cases z) (by decide)))
    (pss_cons (ps_set (i := 5) nd rfl (.inl rfl) pe_dnewK)
    (pss_cons (ps_while PassesOwn.never (pt_cmpR op_lt (pe_op op_add (pe_callB call_lenD (by rfl) T.m_len boot_len (pa_cons (pv 4) pa_nil)) (pe_callB call_lenD (by rfl) T.m_len boot_len (pa_cons (pv 5) pa_nil)))
        (pe_op op_add (pe_callB call_lenD (by rfl) T.m_len boot_len (pa_cons (pv 2) pa_nil)) (pe_callB call_lenD (by rfl) T.m_len boot_len (pa_cons (pv 3) pa_nil))) (nomark _))
      (C8.pss_cut (ps_lock (ps_for PassesOwn.never rfl (pi_items (pv 3)) (pg_tup rfl (pgs_cons (pg_name (i := 6) nd rfl (.inl rfl)) (pgs_cons (pg_name (i := 7) nd rfl (.inl rfl)) pgs_nil)))
        (pss_one (ps_if (PW.pt (pw_and (pt_cmp (pc_dnotin hu (pv 6) (pv 5))) (pw_and1 (pt_cmp (pc_din hu (pe_ix ix_tup (pv 7) pe_int (fun _ _ => rfl)) (pv 4))))))
          (pss_one (ps_dput hu (pv 5) (pv 6) (pe_c (c_product T) hr (by decide) (by rfl) (pa_cons (pe_lst (pa_cons (pe_c (c_inverse T) hr (by decide) (by rfl) (pa_cons (pe_dget hu (pv 4) (pe_ix ix_tup (pv 7) pe_int (fun _ _ => rfl)) (fun _ _ => rfl)) pa_nil))
            (pa_cons (pe_dget hu (pe_fld (pv 0) rfl) (pv 7) (fun _ _ => rfl)) pa_nil))) pa_nil)) rfl)) pss_nil))))
      (pss_one (ps_lock (ps_for PassesOwn.never rfl (pi_items (pv 2)) (pg_tup rfl (pgs_cons (pg_name (i := 8) nd rfl (.inl rfl)) (pgs_cons (pg_name (i := 7) nd rfl (.inl rfl)) pgs_nil)))
        (pss_one (ps_if (PW.pt (pw_and (pt_cmp (pc_dnotin hu (pv 8) (pv 4))) (pw_and1 (pt_cmp (pc_din hu (pe_ix ix_tup (pv 7) pe_int (fun _ _ => rfl)) (pv 5))))))
          (pss_one (ps_dput hu (pv 4) (pv 8) (pe_c (c_product T) hr (by decide) (by rfl) (pa_cons (pe_lst (pa_cons (pe_dget hu (pe_fld (pv 0) rfl) (pv 7) (fun _ _ => rfl)) (pa_cons (pe_c (c_inverse T) hr (by decide) (by rfl) (pa_cons (pe_dget hu (pv 5) (pe_ix ix_tup (pv 7) pe_int (fun _ _ => rfl)) (fun _ _ => rfl)) pa_nil))
            pa_nil))) pa_nil)) rfl)) pss_nil)))))))
    (pss_one (ps_ret (pe_tup (pa_cons (pv 4) (pa_cons (pv 5) pa_nil)))))))), ?_⟩
  -- rows, columns = spread_from(table, row)
  refine ⟨_, rfl, _, rfl, _, _, rfl, t, d, hh, ww, TT, r, rfl, rfl, tab, hrh, fun p ra ca R C H1 sm1 hp1 hra hca nra nca rc br bc bfd => ?_⟩
  refine ⟨p, _, rfl, SqT.of hp1, rfl, _, _, rfl, _, _, rfl, rfl, ?_⟩
  -- stems = {row: ""}; endings = {}
  intro sa nsa
  refine ⟨_, rfl, upd_same, [(Sum.inl (r : Int), .str (S []))], rfl, by show 1 ≤ 15; omega, ?_⟩
  intro ea nea
  have se : sa ≠ ea := fun z => by rw [← z, upd_same] at nea; cases nea
  have nea' : H1 ea = none := by rw [upd_ne se.symm, upd_ne se.symm] at nea; exact nea
  have e1 : upd (upd H1 sa (.dK [])) sa (.dK (mergeK [] [((Sum.inl (r : Int) : Key), V.str (S []))])) = upd H1 sa (.dK (kvN tx [(r, [])])) := upd_upd
  rw [e1] at nea ⊢
  obtain ⟨⟨dx, fs, hto, _, _, hfd⟩, hd0⟩ := tab.1
  have tk := tab.2
  have x0 : LvH H (upd (upd H1 sa (.dK (kvN tx [(r, [])]))) ea (.dK [])) ra ca sa ea (.dK (kvN bxv R)) (.dK (kvN tri C)) R C [(r, [])] [] := by
    have keep : ∀ b o, H1 b = some o → (upd (upd H1 sa (.dK (kvN tx [(r, [])]))) ea (.dK [])) b = some o := fun b o e => by
      rw [upd_ne (ne_of_none e nea'), upd_ne (ne_of_none e nsa)]
      exact e
    exact ⟨fun b o e => keep _ _ (sm1 b o e), keep _ _ hra, keep _ _ hca, by rw [upd_ne se, upd_same], by rw [upd_same] <;> rfl, fun i q a b h => keep _ _ (br i q a b h), fun j q a b h => keep _ _ (bc j q a b h),
      nra, nca, Same.none sm1 nsa, Same.none sm1 nea', rc, ne_of_none hra nsa, ne_of_none hra nea', ne_of_none hca nsa, ne_of_none hca nea', se⟩
  generalize upd (upd H1 sa (.dK (kvN tx [(r, [])]))) ea (.dK []) = H2 at x0
  have h12 := tk.h12
  have w12 := tk.w12
  -- while len(stems) + len(endings) < len(rows) + len(columns)
  refine ⟨fun m σ H2 => ∃ v6 v7 v8 S E, m = 24 - (S.length + E.length) ∧ σ = [some (V.ref t), some (V.int (r : Nat)), some (V.ref ra), some (V.ref ca), some (V.ref sa), some (V.ref ea), v6, v7, v8] ∧ LvH H H2 ra ca sa ea (.dK (kvN bxv R)) (.dK (kvN tri C)) R C S E ∧ Lv TT r S E,
    ⟨_, none, none, none, [(r, [])], [], rfl, rfl, x0, Lv.start TT r⟩, ?_⟩
  rintro m σ H2 ⟨v6, v7, v8, S, E, rfl, rfl, x, L⟩
  have ls := L.lens tk hrh
  refine ⟨_, rfl, sa, _, rfl, x.hs, _, rfl, ea, _, rfl, x.he, _, _, rfl, rfl, _, rfl, ra, _, rfl, x.hr, _, rfl, ca, _, rfl, x.hc, _, _, rfl, rfl, _, _, rfl, rfl, _, rfl, ?_⟩
  rw [kvN_len, kvN_len, kvN_len, kvN_len]
  refine ite2 (fun hlt => ?_) (fun hge => ?_)
  · have hlt' : S.length + E.length < R.length + C.length := by
      have := of_decide_eq_true hlt
      omega
    refine ⟨fun σ H2 => ∃ v6 v7 v8 S' E', S.length + E.length < S'.length + E'.length ∧ σ = [some (V.ref t), some (V.int (r : Nat)), some (V.ref ra), some (V.ref ca), some (V.ref sa), some (V.ref ea), v6, v7, v8] ∧ LvH H H2 ra ca sa ea (.dK (kvN bxv R)) (.dK (kvN tri C)) R C S' E' ∧ Lv TT r S' E',
      fun σ' H' h => by obtain ⟨v6, v7, v8, S', E', hl, rfl, x, L⟩ := h; exact ⟨24 - (S'.length + E'.length), by have := L.lens tk hrh; omega, v6, v7, v8, S', E', rfl, rfl, x, L⟩, ?_⟩
    refine ⟨fun σ H2 => ∃ v6 v7 v8 E', σ = [some (V.ref t), some (V.int (r : Nat)), some (V.ref ra), some (V.ref ca), some (V.ref sa), some (V.ref ea), v6, v7, v8] ∧ LvH H H2 ra ca sa ea (.dK (kvN bxv R)) (.dK (kvN tri C)) R C S E' ∧ Lv TT r S E' ∧ (∀ j ∈ E.map (·.1), j ∈ E'.map (·.1)) ∧ (∀ j q a c, (j, (q, a, c)) ∈ C → a ∈ S.map (·.1) → j ∈ E'.map (·.1)), ?_, ?_⟩
    · -- for column, box in columns.items()
      refine ⟨ca, .dK (kvN tri C), x.hc, trivial, fun od => ?_⟩
      refine ⟨_, rfl, ca, od, _, rfl, upd_same, ?_⟩
      refine for_it walk_items (fun n σ H2 => ∃ v6 v7 v8 E', σ = [some (V.ref t), some (V.int (r : Nat)), some (V.ref ra), some (V.ref ca), some (V.ref sa), some (V.ref ea), v6, v7, v8] ∧ LvH H H2 ra ca sa ea (.dK (kvN bxv R)) (.frz od (.dK (kvN tri C))) R C S E' ∧ Lv TT r S E' ∧ (∀ j ∈ E.map (·.1), j ∈ E'.map (·.1)) ∧ (∀ j q a c, (j, (q, a, c)) ∈ C.take n → a ∈ S.map (·.1) → j ∈ E'.map (·.1)))
        ⟨_, _, _, E, rfl, x.atC (fun _ => by intro z; cases z) _, L, fun _ h => h, fun _ _ _ _ h => by simp at h⟩ (fun i σ H _ h => by obtain ⟨_, _, _, _, _, x, _⟩ := h; exact x.hc) ?_ ?_
      · rintro n y σ H3 H4 hn ⟨v6, v7, v8, E', rfl, x, L, sub, pass⟩ ⟨Tu, x1, y1, rfl, nT, rfl, ex1, hy1⟩
        obtain ⟨j, ⟨q, a, c⟩, hC, rfl, rfl⟩ := items_at ex1 hy1
        have hm : (j, (q, a, c)) ∈ C := List.mem_of_getElem? hC
        obtain ⟨rfl, ⟨f, hf⟩, _⟩ := bfd.col _ _ _ _ hm
        refine ⟨Tu, _, rfl, SqT.of upd_same, rfl, _, _, rfl, _, _, rfl, rfl, ?_⟩
        have x : LvH H (upd H3 Tu (.tup [.int (c : Nat), tri (q, a, c)])) ra ca sa ea _ _ R C S E' := x.same (Same.put (Same.refl _) nT)
        generalize upd H3 Tu (.tup [.int (c : Nat), tri (q, a, c)]) = H5 at x
        have hq := x.bc _ _ _ _ hm
        have etk : C.take (n + 1) = C.take n ++ [(c, (q, a, c))] := by rw [List.take_succ, hC] <;> rfl
        have fin : (a ∈ S.map (·.1) → c ∈ E'.map (·.1)) → ∀ j' q' a' c', (j', (q', a', c')) ∈ C.take (n + 1) → a' ∈ S.map (·.1) → j' ∈ E'.map (·.1) := fun h j' q' a' c' m z => by
          rw [etk] at m
          rcases List.mem_append.mp m with y | y
          · exact pass _ _ _ _ y z
          · obtain ⟨rfl, rfl, rfl, rfl⟩ : j' = c ∧ q' = q ∧ a' = a ∧ c' = c := by simpa using y
            exact h z
        refine ⟨_, rfl, _, rfl, ea, _, rfl, DGet.k (k := Sum.inl (c : Int)) x.he, _, rfl, ?_⟩
        rw [kvN_in L.ndE]
        by_cases e1 : c ∈ E'.map (·.1)
        · rw [decide_eq_true e1]
          exact iteF (iteF ⟨_, _, _, E', rfl, x, L, sub, fin fun _ => e1⟩)
        · rw [decide_eq_false e1]
          refine iteT ?_
          refine ⟨_, rfl, q, _, 0, _, rfl, rfl, SqT.of hq, rfl, _, rfl, sa, _, rfl, DGet.k (k := Sum.inl (a : Int)) x.hs, _, rfl, ?_⟩
          rw [kvN_in L.ndS]
          by_cases e2 : a ∈ S.map (·.1)
          · rw [decide_eq_true e2]
            refine iteT ?_
            obtain ⟨⟨a', s⟩, hs, rfl⟩ := List.mem_map.mp e2
            have hs : (a', s) ∈ S := hs
            have small := L.small tk hrh
            have z1 := small.1 _ _ hs
            have fm := (tk.rng _ _ _ hf).2.2
            have z2 := fm.1
            refine ⟨_, rfl, _, rfl, q, _, 0, _, rfl, rfl, SqT.of hq, rfl, sa, tx s, rfl, by have := DGet.k (k := Sum.inl (a' : Int)) x.hs; rw [kvN_some L.ndS hs] at this; exact this, ?_⟩
            refine ⟨_, rfl, s, rfl, (L.strS _ _ hs).wd, by omega, fun H6 sm6 => ?_⟩
            have x := x.same sm6
            refine ⟨_, rfl, t, cTab K, dx, fs, _, rfl, x.sm _ _ hto, T.cls, T.n_kept_told, hfd, _, rfl, d, tx f, rfl, by have := DGet.t (k := kk (a', c)) (x.sm _ _ hd0) (x.bc _ _ _ _ hm); rw [kvT_some tk.keys hf] at this; exact this, ?_⟩
            refine ⟨by show 2 ≤ sizeLine; exact sz (by omega), fun l nl => ?_⟩
            refine ⟨_, rfl, l, inv s, f, rfl, SqL.of upd_same, (L.strS _ _ hs).wd.inv, (fm_str fm).wd, by rw [inv_len]; omega, fun H7 sm7 => ?_⟩
            have x : LvH H H7 ra ca sa ea _ _ R C S E' := x.same (fun b o e => sm7 _ _ (Same.put (Same.refl _) nl b o e))
            have hcl : (kvN tx E').length ≤ 100000 := by rw [kvN_len]; have := (L.lens tk hrh).2; omega
            refine ⟨_, rfl, _, rfl, ea, _, rfl, DPut.k (k := Sum.inl (c : Int)) x.he (szl hcl), ?_⟩
            have x' := x.atE (E' ++ [(c, nf (inv s ++ f))]) (kvN_put (g := tx) e1 _)
            have cm : ∀ j, j ∈ E'.map (·.1) → j ∈ (E' ++ [(c, nf (inv s ++ f))]).map (·.1) := fun j hj => by rw [List.map_append]; exact List.mem_append_left _ hj
            refine ⟨_, _, _, _, rfl, x', L.addE tk hs hf e1, fun j hj => cm j (sub j hj), fun j' q' a' c' m z => ?_⟩
            rw [etk] at m
            rcases List.mem_append.mp m with y | y
            · exact cm _ (pass _ _ _ _ y z)
            · obtain ⟨rfl, rfl, rfl, rfl⟩ : j' = c ∧ q' = q ∧ a' = _ ∧ c' = c := by simpa using y
              rw [List.map_append]
              exact List.mem_append_right _ (by simp)
          · rw [decide_eq_false e2]
            exact iteF ⟨_, _, _, E', rfl, x, L, sub, fin fun h => absurd h e2⟩
      · rintro σ H3 ⟨v6, v7, v8, E', rfl, x, L, sub, pass⟩
        rw [kvN_len, List.take_length] at pass
        exact ⟨x.hc, _, _, _, E', rfl, x.atC (fun _ => by intro z; cases z) _, L, sub, pass⟩
    · rintro σ H2 ⟨v6, v7, v8, E1, rfl, x, L1, sub1, pass1⟩
      -- for other, box in rows.items()
      refine ⟨ra, .dK (kvN bxv R), x.hr, trivial, fun od => ?_⟩
      refine ⟨_, rfl, ra, od, _, rfl, upd_same, ?_⟩
      refine for_it walk_items (fun n σ H2 => ∃ v6 v7 v8 S', σ = [some (V.ref t), some (V.int (r : Nat)), some (V.ref ra), some (V.ref ca), some (V.ref sa), some (V.ref ea), v6, v7, v8] ∧ LvH H H2 ra ca sa ea (.frz od (.dK (kvN bxv R))) (.dK (kvN tri C)) R C S' E1 ∧ Lv TT r S' E1 ∧ (∀ i ∈ S.map (·.1), i ∈ S'.map (·.1)) ∧ (∀ i q a c, (i, some (q, a, c)) ∈ R.take n → c ∈ E1.map (·.1) → i ∈ S'.map (·.1)))
        ⟨_, _, _, S, rfl, x.atR (fun _ => by intro z; cases z) _, L1, fun _ h => h, fun _ _ _ _ h => by simp at h⟩ (fun i σ H _ h => by obtain ⟨_, _, _, _, _, x, _⟩ := h; exact x.hr) ?_ ?_
      · rintro n y σ H3 H4 hn ⟨v6, v7, v8, S', rfl, x, L, sub, pass⟩ ⟨Tu, x1, y1, rfl, nT, rfl, ex1, hy1⟩
        obtain ⟨i, o, hR, rfl, rfl⟩ := items_at ex1 hy1
        have hm : (i, o) ∈ R := List.mem_of_getElem? hR
        refine ⟨Tu, _, rfl, SqT.of upd_same, rfl, _, _, rfl, _, _, rfl, rfl, ?_⟩
        have x : LvH H (upd H3 Tu (.tup [.int (i : Nat), bxv o])) ra ca sa ea _ _ R C S' E1 := x.same (Same.put (Same.refl _) nT)
        generalize upd H3 Tu (.tup [.int (i : Nat), bxv o]) = H5 at x
        have etk : R.take (n + 1) = R.take n ++ [(i, o)] := by rw [List.take_succ, hR] <;> rfl
        refine ⟨_, rfl, _, rfl, sa, _, rfl, DGet.k (k := Sum.inl (i : Int)) x.hs, _, rfl, ?_⟩
        rw [kvN_in L.ndS]
        by_cases e1 : i ∈ S'.map (·.1)
        · rw [decide_eq_true e1]
          refine iteF (iteF ⟨_, _, _, S', rfl, x, L, sub, fun i' q' a' c' m z => ?_⟩)
          rw [etk] at m
          rcases List.mem_append.mp m with y | y
          · exact pass _ _ _ _ y z
          · rw [show i' = i from (Prod.mk.inj (List.mem_singleton.mp y)).1]
            exact e1
        · rw [decide_eq_false e1]
          cases o with
          | none =>
            have : i = r := bfd.none_r i hm
            exact absurd (List.mem_map.mpr ⟨_, L.base, this.symm⟩) e1
          | some tr =>
            obtain ⟨q, a, c⟩ := tr
            obtain ⟨rfl, ⟨f, hf⟩, _⟩ := bfd.row _ _ _ _ hm
            have hq := x.br _ _ _ _ hm
            refine iteT ?_
            refine ⟨_, rfl, q, _, 1, _, rfl, rfl, SqT.of hq, rfl, _, rfl, ea, _, rfl, DGet.k (k := Sum.inl (c : Int)) x.he, _, rfl, ?_⟩
            rw [kvN_in L.ndE]
            by_cases e2 : c ∈ E1.map (·.1)
            · rw [decide_eq_true e2]
              refine iteT ?_
              obtain ⟨⟨c', e⟩, hs, rfl⟩ := List.mem_map.mp e2
              have hs : (c', e) ∈ E1 := hs
              have small := L.small tk hrh
              have z1 := small.2 _ _ hs
              have fm := (tk.rng _ _ _ hf).2.2
              have z2 := fm.1
              refine ⟨_, rfl, t, cTab K, dx, fs, _, rfl, x.sm _ _ hto, T.cls, T.n_kept_told, hfd, _, rfl, d, tx f, rfl, by have := DGet.t (k := kk (a, c')) (x.sm _ _ hd0) (x.br _ _ _ _ hm); rw [kvT_some tk.keys hf] at this; exact this, ?_⟩
              refine ⟨_, rfl, _, rfl, q, _, 1, _, rfl, rfl, SqT.of hq, rfl, ea, tx e, rfl, by have := DGet.k (k := Sum.inl (c' : Int)) x.he; rw [kvN_some L.ndE hs] at this; exact this, ?_⟩
              refine ⟨_, rfl, e, rfl, (L.strE _ _ hs).wd, by omega, fun H6 sm6 => ?_⟩
              have x := x.same sm6
              refine ⟨by show 2 ≤ sizeLine; exact sz (by omega), fun l nl => ?_⟩
              refine ⟨_, rfl, l, f, inv e, rfl, SqL.of upd_same, (fm_str fm).wd, (L.strE _ _ hs).wd.inv, by rw [inv_len]; omega, fun H7 sm7 => ?_⟩
              have x : LvH H H7 ra ca sa ea _ _ R C S' E1 := x.same (fun b o e => sm7 _ _ (Same.put (Same.refl _) nl b o e))
              have hcl : (kvN tx S').length ≤ 100000 := by rw [kvN_len]; have := (L.lens tk hrh).1; omega
              refine ⟨_, rfl, _, rfl, sa, _, rfl, DPut.k (k := Sum.inl (a : Int)) x.hs (szl hcl), ?_⟩
              have x' := x.atS (S' ++ [(a, nf (f ++ inv e))]) (kvN_put (g := tx) e1 _)
              have cm : ∀ j, j ∈ S'.map (·.1) → j ∈ (S' ++ [(a, nf (f ++ inv e))]).map (·.1) := fun j hj => by rw [List.map_append]; exact List.mem_append_left _ hj
              refine ⟨_, _, _, _, rfl, x', L.addS tk hs hf e1, fun j hj => cm j (sub j hj), fun i' q' a' c'' m z => ?_⟩
              rw [etk] at m
              rcases List.mem_append.mp m with y | y
              · exact cm _ (pass _ _ _ _ y z)
              · rw [show i' = a from (Prod.mk.inj (List.mem_singleton.mp y)).1, List.map_append]
                exact List.mem_append_right _ (by simp)
            · rw [decide_eq_false e2]
              refine iteF ⟨_, _, _, S', rfl, x, L, sub, fun i' q' a' c'' m z => ?_⟩
              rw [etk] at m
              rcases List.mem_append.mp m with y | y
              · exact pass _ _ _ _ y z
              · obtain ⟨rfl, rfl, rfl, rfl⟩ : i' = a ∧ q' = q ∧ a' = a ∧ c'' = c := by simpa using y
                exact absurd z e2
      · rintro σ H3 ⟨v6, v7, v8, S', rfl, x, L', sub, pass⟩
        rw [kvN_len, List.take_length] at pass
        exact ⟨x.hr, _, _, _, S', E1, L.more L' bfd sub sub1 pass1 pass hlt', rfl, x.atR (fun _ => by intro z; cases z) _, L'⟩
  · have hge' : R.length + C.length ≤ S.length + E.length := by
      have h1 : ¬ ((S.length : Int) + (E.length : Int) < (R.length : Int) + (C.length : Int)) := fun z => hge (decide_eq_true z)
      omega
    refine ⟨_, rfl, _, rfl, by show 2 ≤ sizeLine; exact sz (by omega), fun p np => ?_⟩
    have x' : LvH H (upd H2 p (.tup [.ref sa, .ref ea])) ra ca sa ea _ _ R C S E := x.same (Same.put (Same.refl _) np)
    exact k p sa ea S E _ x'.sm upd_same x'.hs x'.he L (L.full bfd hge')
end
end FtP
set_option Elab.async false
set_option linter.all false
set_option maxRecDepth 100000
set_option maxHeartbeats 4000000
namespace Ft
/-- what is left of a way that goes to the column j: at a row (true) or at a column -/
inductive Tl (T : Told) (j : Nat) : Bool → Nat → List (Nat × Nat) → List (List Nat) → Prop
  | done : Tl T j false j [] []
  | row {a c : Nat} {f : List Nat} {l : List (Nat × Nat)} {fs : List (List Nat)} : Tl T j false c l fs → ((a, c), f) ∈ T → Tl T j true a ((a, c) :: l) (f :: fs)
  | col {a c : Nat} {f : List Nat} {l : List (Nat × Nat)} {fs : List (List Nat)} : Tl T j true a l fs → ((a, c), f) ∈ T → Tl T j false c ((a, c) :: l) (f :: fs)
theorem Tl.way {T : Told} {j : Nat} : ∀ (n : Nat) {i : Nat} {l : List (Nat × Nat)} {fs : List (List Nat)}, l.length ≤ n → Tl T j true i l fs → Way T i l fs j
  | 0, _, _, _, hn, .row t m => by simp at hn
  | n + 1, _, _, _, hn, .row t m => by
    cases t with
    | done => exact .one m
    | col t' m' => exact .two m m' (Tl.way n (by simp at hn; omega) t')
end Ft
namespace FtP
open PySem PySem.Spec PyProof.Rows L2 SX Ft FtT FtR C8
def prPlace (K : PySem.W.Frag) : Pr3 := fun a b c H Q _ => ∃ (t d : Addr) (h w : Nat) (T : Told) (i j : Nat), a = .ref t ∧ b = .int (i : Nat) ∧ c = .int (j : Nat) ∧ Tab K H t d h w T ∧ i < h ∧ j < w ∧ Q .non H
section
variable {P : Program} {w : World} {K : PySem.W.Frag} {mg : Str → Option Value} {base : Heap}
theorem c_place (T : Tx K mg) : Cal P w K mg base 3 "check_place" (sp3 (prPlace K)) [] := by
  refine cal3 (N := ["table", "row", "column"]) (p1 := "table") (p2 := "row") (p3 := "column") T.d_check_place (by decide +kernel) (fun _ _ _ _ _ _ us hl => match us, hl with | [_, _, _], _ => rfl) fun f cdv A outer s H a1 a2 a3 Q E nd hr h => ?_
  obtain ⟨t, d, hh, ww, TT, i, j, rfl, rfl, rfl, tab, hi, hj, k⟩ := h
  obtain ⟨⟨dx, fs, hto, hfh, hfw, hfd⟩, hd0⟩ := tab.1
  refine ⟨_, pss_cons (ps_if (pt_not (pt_val (pe_c (c_is_within T) hr (by decide) (by rfl) (pa_cons (pv 1) (pa_cons pe_int (pa_cons (pe_op op_sub (pe_fld (pv 0) rfl) pe_int) pa_nil)))))) pss_never pss_nil)
    (pss_one (ps_if (pt_not (pt_val (pe_c (c_is_within T) hr (by decide) (by rfl) (pa_cons (pv 2) (pa_cons pe_int (pa_cons (pe_op op_sub (pe_fld (pv 0) rfl) pe_int) pa_nil)))))) pss_never pss_nil)), ?_⟩
  refine ⟨_, rfl, _, rfl, t, cTab K, dx, fs, _, rfl, hto, T.cls, T.n_height, hfh, _, _, rfl, rfl, _, _, _, rfl, _, _, _, rfl, rfl, rfl, by omega, by omega, true, rfl, ?_⟩
  refine iteF ?_
  refine ⟨_, rfl, _, rfl, t, cTab K, dx, fs, _, rfl, hto, T.cls, T.n_width, hfw, _, _, rfl, rfl, _, _, _, rfl, _, _, _, rfl, rfl, rfl, by omega, by omega, true, rfl, ?_⟩
  exact iteF k
def prBack : Pr4 := fun a b c e H Q _ => ∃ (ra ca : Addr) (T : Told) (r j : Nat) (R : Rs) (C : Cs), a = .ref ra ∧ b = .ref ca ∧ c = .str "column" ∧ e = .int (j : Nat) ∧ H ra = some (.dK (kvN bxv R)) ∧ H ca = some (.dK (kvN tri C)) ∧ BxR H R ∧ BxC H C ∧ Bfd T r R C ∧ j ∈ C.map (·.1) ∧
  ∀ l (ts : List Tri) fs H', Same H H' → H l = none → H' l = some (.lst (ts.map tri)) → (∀ q a b, (q, a, b) ∈ ts → H' q = some (.tup [.int (a : Nat), .int (b : Nat)])) → Tl T j true r (ts.map (·.2)).reverse fs → ts.length ≤ 30 → Q (.ref l) H'
theorem c_back (T : Tx K mg) : Cal P w K mg base 1 "boxes_back" (sp4 prBack) [] := by
  refine cal4 (N := ["rows", "columns", "kind", "here", "found", "box"]) (p1 := "rows") (p2 := "columns") (p3 := "kind") (p4 := "here") T.d_boxes_back (by decide +kernel) (fun _ _ _ _ _ _ us hl => match us, hl with | [_, _, _, _], _ => rfl) fun f cdv A outer s H a1 a2 a3 a4 Q E nd hr h => ?_
  have hu := hu_of hr
  obtain ⟨ra, ca, TT, r, j, R, C, rfl, rfl, rfl, rfl, hra, hca, br, bc, bfd, hj, k⟩ := h
  refine ⟨_, pss_cons (ps_set (i := 4) nd rfl (.inl rfl) (pe_lst pa_nil))
    (pss_cons (ps_set (i := 5) nd rfl (.inl rfl) (pe_ifExp (pt_cmpR op_eq (pv 2) pe_str (nomark _)) (pe_dget hu (pv 0) (pv 3) (fun _ _ => rfl)) (pe_dget hu (pv 1) (pv 3) (fun _ _ => rfl))))
    (pss_cons (ps_while PassesOwn.never (pt_cmpR op_notN (pv 5) pe_non (nomark _))
      (pss_cons (ps_expr (pe_bm F.plainAttrs_list F.slot_list_append F.type_list_append mt_append (pv 4) (pa_cons (pv 5) pa_nil)))
      (pss_cons (ps_set (i := 2) nd rfl (.inl rfl) (pe_ifExp (pt_cmpR op_eq (pv 2) pe_str (nomark _)) pe_str pe_str))
      (pss_one (ps_set (i := 5) nd rfl (.inl rfl) (pe_ifExp (pt_cmpR op_eq (pv 2) pe_str (nomark _)) (pe_dget hu (pv 0) (pe_ix ix_tup (pv 5) pe_int (fun _ _ => rfl)) (fun _ _ => rfl)) (pe_dget hu (pv 1) (pe_ix ix_tup (pv 5) pe_int (fun _ _ => rfl)) (fun _ _ => rfl))))))))
    (pss_one (ps_ret (pv 4))))), ?_⟩
  refine ⟨by show 0 ≤ sizeLine; omega, fun l nl => ?_⟩
  obtain ⟨rk, kR, kC, k1, k2⟩ := bfd.rk
  have hjm := hj
  obtain ⟨⟨j', q0, a0, b0⟩, hm0, rfl⟩ := List.mem_map.mp hj
  have hm0 : (j', (q0, a0, b0)) ∈ C := hm0
  have keep : ∀ {H'}, Same H H' → ∀ b o, H b = some o → H' b = some o := fun s b o e => s b o e
  have sm0 : Same H (upd H l (.lst [])) := Same.put (Same.refl _) nl
  refine ⟨_, rfl, rfl, _, rfl, ?_⟩
  refine iteF ?_
  refine ⟨_, rfl, _, rfl, ca, tri (q0, a0, b0), rfl, by have := DGet.k (k := Sum.inl (j' : Int)) (sm0 _ _ hca); rw [kvN_some bfd.ndC hm0] at this; exact this, ?_⟩
  have qc0 := bfd.col _ _ _ _ hm0
  obtain ⟨rfl, _, _⟩ := qc0
  have same : ∀ {H' : Hp}, Same H H' → ∀ o, Same H (upd H' l o) := fun s o b u e => by
    rw [upd_ne (ne_of_none e nl)]
    exact s b u e
  refine ⟨fun m σ H' => ∃ ts : List Tri, Same H H' ∧ H' l = some (.lst (ts.map tri)) ∧ (∀ q a b, (q, a, b) ∈ ts → H' q = some (.tup [.int (a : Nat), .int (b : Nat)])) ∧ ts.length + m ≤ 23 ∧
      ((∃ q a c fs, m = rk false c ∧ (c, (q, a, c)) ∈ C ∧ Tl TT b0 false c (ts.map (·.2)).reverse fs ∧ σ = [some (V.ref ra), some (V.ref ca), some (V.str "column"), some (V.int (b0 : Nat)), some (V.ref l), some (V.ref q)]) ∨
       (∃ a o fs, m = rk true a ∧ (a, o) ∈ R ∧ Tl TT b0 true a (ts.map (·.2)).reverse fs ∧ σ = [some (V.ref ra), some (V.ref ca), some (V.str "row"), some (V.int (b0 : Nat)), some (V.ref l), some (bxv o)])),
    ⟨rk false b0, [], sm0, upd_same, fun q a b h => by simp at h, by have := kC b0 hjm; simp; omega, .inl ⟨q0, a0, b0, [], rfl, hm0, .done, rfl⟩⟩, ?_⟩
  rintro m σ H' ⟨ts, sm, hl, hts, hm, ⟨q, a, c, fs, rfl, hC, tl, rfl⟩ | ⟨a, o, fs, rfl, hR, tl, rfl⟩⟩
  · -- at a column's box
    refine ⟨_, rfl, rfl, _, rfl, ?_⟩
    refine iteT ?_
    obtain ⟨_, ⟨f, hf⟩, ha⟩ := bfd.col _ _ _ _ hC
    obtain ⟨⟨a', o⟩, hR, rfl⟩ := List.mem_map.mp ha
    have hR : (a', o) ∈ R := hR
    have hq : H' q = some (.tup [.int (a' : Nat), .int (c : Nat)]) := sm _ _ (bc _ _ _ _ hC)
    have hk := k1 _ _ _ _ hC
    have hk : rk true a' < rk false c := hk
    refine ⟨fun σ' H'' => ∃ ts : List Tri, Same H H'' ∧ H'' l = some (.lst (ts.map tri)) ∧ (∀ q a b, (q, a, b) ∈ ts → H'' q = some (.tup [.int (a : Nat), .int (b : Nat)])) ∧ ts.length + rk true a' ≤ 23 ∧
      ∃ fs, Tl TT b0 true a' (ts.map (·.2)).reverse fs ∧ σ' = [some (V.ref ra), some (V.ref ca), some (V.str "row"), some (V.int (b0 : Nat)), some (V.ref l), some (bxv o)],
      fun σ' H'' h => by obtain ⟨ts, h1, h2, h3, h4, fs, h5, h6⟩ := h; exact ⟨rk true a', hk, ts, h1, h2, h3, h4, .inr ⟨a', o, fs, rfl, hR, h5, h6⟩⟩, ?_⟩
    refine ⟨_, rfl, .inl ⟨rfl, _, SqL.of hl⟩, _, rfl, l, _, _, rfl, rfl, hl, szl (by rw [List.length_map]; omega), ?_⟩
    refine ⟨_, rfl, rfl, _, rfl, iteF ?_⟩
    have ql : q ≠ l := tup_ne_lst hq hl
    refine ⟨_, rfl, rfl, _, rfl, iteT ?_⟩
    refine ⟨_, rfl, _, rfl, q, _, 0, _, rfl, rfl, SqT.of (by rw [upd_ne ql]; exact hq), rfl, ra, bxv o, rfl, by have := DGet.k (k := Sum.inl (a' : Int)) (same sm (.lst (ts.map tri ++ [V.ref q])) _ _ hra); rw [kvN_some bfd.ndR hR] at this; exact this, ?_⟩
    refine ⟨ts ++ [(q, a', c)], same sm _, by rw [upd_same, List.map_append] <;> rfl, fun q' a'' b'' h => ?_, by rw [List.length_append]; show _ + 1 + _ ≤ _; omega, f :: fs, ?_, rfl⟩
    · rcases List.mem_append.mp h with z | z
      · rw [upd_ne (tup_ne_lst (hts _ _ _ z) hl)]
        exact hts _ _ _ z
      · obtain ⟨rfl, rfl, rfl⟩ : q' = q ∧ a'' = a' ∧ b'' = c := by simpa using z
        rw [upd_ne ql]
        exact hq
    · rw [List.map_append, List.reverse_append]
      exact .row tl hf
  · cases o with
    | none =>
      refine ⟨_, rfl, rfl, _, rfl, ?_⟩
      refine iteF ?_
      have : a = r := bfd.none_r a hR
      rw [this] at tl
      exact ⟨_, rfl, k l ts fs H' sm nl hl hts tl (by omega)⟩
    | some tr =>
      obtain ⟨q, a', c⟩ := tr
      obtain ⟨rfl, ⟨f, hf⟩, hc⟩ := bfd.row _ _ _ _ hR
      obtain ⟨⟨c', q', a'', c''⟩, hC, rfl⟩ := List.mem_map.mp hc
      have hC : (c', (q', a'', c'')) ∈ C := hC
      obtain ⟨rfl, _, _⟩ := bfd.col _ _ _ _ hC
      have hq : H' q = some (.tup [.int (a' : Nat), .int (c'' : Nat)]) := sm _ _ (br _ _ _ _ hR)
      have hk := k2 _ _ _ _ hR
      have hk : rk false c'' < rk true a' := hk
      refine ⟨_, rfl, rfl, _, rfl, ?_⟩
      refine iteT ?_
      refine ⟨fun σ' H'' => ∃ ts : List Tri, Same H H'' ∧ H'' l = some (.lst (ts.map tri)) ∧ (∀ q a b, (q, a, b) ∈ ts → H'' q = some (.tup [.int (a : Nat), .int (b : Nat)])) ∧ ts.length + rk false c'' ≤ 23 ∧
        ∃ fs, Tl TT b0 false c'' (ts.map (·.2)).reverse fs ∧ σ' = [some (V.ref ra), some (V.ref ca), some (V.str "column"), some (V.int (b0 : Nat)), some (V.ref l), some (V.ref q')],
        fun σ' H'' h => by obtain ⟨ts, h1, h2, h3, h4, fs, h5, h6⟩ := h; exact ⟨rk false c'', hk, ts, h1, h2, h3, h4, .inl ⟨q', a'', c'', fs, rfl, hC, h5, h6⟩⟩, ?_⟩
      refine ⟨_, rfl, .inl ⟨rfl, _, SqL.of hl⟩, _, rfl, l, _, _, rfl, rfl, hl, szl (by rw [List.length_map]; omega), ?_⟩
      refine ⟨_, rfl, rfl, _, rfl, iteT ?_⟩
      have ql : q ≠ l := tup_ne_lst hq hl
      refine ⟨_, rfl, rfl, _, rfl, iteF ?_⟩
      refine ⟨_, rfl, _, rfl, q, _, 1, _, rfl, rfl, SqT.of (by rw [upd_ne ql]; exact hq), rfl, ca, tri (q', a'', c''), rfl, by have := DGet.k (k := Sum.inl (c'' : Int)) (same sm (.lst (ts.map tri ++ [V.ref q])) _ _ hca); rw [kvN_some bfd.ndC hC] at this; exact this, ?_⟩
      refine ⟨ts ++ [(q, a', c'')], same sm _, by rw [upd_same, List.map_append] <;> rfl, fun q1 a1 b1 h => ?_, by rw [List.length_append]; show _ + 1 + _ ≤ _; omega, f :: fs, ?_, rfl⟩
      · rcases List.mem_append.mp h with z | z
        · rw [upd_ne (tup_ne_lst (hts _ _ _ z) hl)]
          exact hts _ _ _ z
        · obtain ⟨rfl, rfl, rfl⟩ : q1 = q ∧ a1 = a' ∧ b1 = c'' := by simpa using z
          rw [upd_ne ql]
          exact hq
      · rw [List.map_append, List.reverse_append]
        exact .col tl hf
/-- a way: the boxes' own tuples, their numbers -/
def prWay (K : PySem.W.Frag) : Pr3 := fun a b c H Q _ => ∃ (t d : Addr) (h w : Nat) (T : Told) (i j : Nat), a = .ref t ∧ b = .int (i : Nat) ∧ c = .int (j : Nat) ∧ Tab K H t d h w T ∧ i < h ∧ j < w ∧ (∃ e, DC T i j e) ∧
  ∀ p (ts : List Tri) fs H', Same H H' → H' p = some (.tup (ts.map tri)) → (∀ q a b, (q, a, b) ∈ ts → H' q = some (.tup [.int (a : Nat), .int (b : Nat)])) → Way T i (ts.map (·.2)) fs j → ts.length ≤ 30 → Q (.ref p) H'
theorem c_in (T : Tx K mg) : Cal P w K mg base 2 "way_in" (sp3 (prWay K)) [] := by
  refine cal3 (N := ["table", "row", "column", "rows", "columns"]) (p1 := "table") (p2 := "row") (p3 := "column") T.d_way_in (by decide +kernel) (fun _ _ _ _ _ _ us hl => match us, hl with | [_, _, _], _ => rfl) fun f cdv A outer s H a1 a2 a3 Q E nd hr h => ?_
  have hu := hu_of hr
  obtain ⟨t, d, hh, ww, TT, i, j, rfl, rfl, rfl, tab, hi, hj, ⟨e, dc⟩, k⟩ := h
  refine ⟨_, pss_cons (ps_asg (pe_c (c_spread T) hr (by decide) (by rfl) (pa_cons (pv 0) (pa_cons (pv 1) pa_nil))) (pg_tup rfl (pgs_cons (pg_name (i := 3) nd rfl (.inl rfl)) (pgs_cons (pg_name (i := 4) nd rfl (.inl rfl)) pgs_nil))))
    (pss_cons (ps_if (pt_cmp (pc_dnotin hu (pv 2) (pv 4))) pss_never pss_nil)
    (pss_one (ps_ret (pe_callTy call_tuple_of (by rfl) T.m_tuple bo_tuple (pa_cons (pe_revL (pe_c (c_back T) hr (by decide) (by rfl) (pa_cons (pv 3) (pa_cons (pv 4) (pa_cons pe_str (pa_cons (pv 2) pa_nil)))))) pa_nil))))), ?_⟩
  refine ⟨_, rfl, _, rfl, _, _, rfl, t, d, hh, ww, TT, i, rfl, rfl, tab, hi, fun p ra ca R C H1 sm1 hp1 hra hca nra nca rc br bc bfd => ?_⟩
  refine ⟨p, _, rfl, SqT.of hp1, rfl, _, _, rfl, _, _, rfl, rfl, ?_⟩
  have hjC := dc_C bfd dc
  refine ⟨_, rfl, _, rfl, ca, _, rfl, DGet.k (k := Sum.inl (j : Int)) hca, _, rfl, ?_⟩
  rw [kvN_in bfd.ndC, decide_eq_true hjC]
  refine iteF ?_
  refine ⟨_, rfl, _, rfl, _, rfl, _, _, _, _, rfl, ra, ca, TT, i, j, R, C, rfl, rfl, rfl, rfl, hra, hca, br, bc, bfd, hjC, fun l ts fs H2 sm2 nl hl hts tl hlen => ?_⟩
  refine ⟨l, _, rfl, SqL.of hl, fun l2 nl2 => ?_⟩
  refine ⟨l2, _, rfl, .inl ⟨SqL.of upd_same, fun p2 np2 => ?_⟩⟩
  have sm3 : Same H2 (upd (upd H2 l2 (.lst (ts.map tri).reverse)) p2 (.tup (ts.map tri).reverse)) := Same.put (Same.put (Same.refl _) nl2) (Same.none (Same.put (Same.refl _) nl2) np2)
  refine k p2 ts.reverse fs _ (sm1.trans (sm2.trans sm3)) (by rw [upd_same, List.map_reverse]) (fun q a b h => sm3 _ _ (hts q a b (List.mem_reverse.mp h))) ?_ (by rw [List.length_reverse]; exact hlen)
  rw [List.map_reverse]
  exact Tl.way _ (Nat.le_refl _) tl
theorem c_way (T : Tx K mg) : Cal P w K mg base 4 "way_between" (sp3 (prWay K)) [] := by
  refine cal3 (N := ["table", "row", "column"]) (p1 := "table") (p2 := "row") (p3 := "column") T.d_way_between (by decide +kernel) (fun _ _ _ _ _ _ us hl => match us, hl with | [_, _, _], _ => rfl) fun f cdv A outer s H a1 a2 a3 Q E nd hr h => ?_
  obtain ⟨t, d, hh, ww, TT, i, j, rfl, rfl, rfl, tab, hi, hj, dc, k⟩ := h
  refine ⟨_, pss_cons (ps_expr (pe_c (c_place T) hr (by decide) (by rfl) (pa_cons (pv 0) (pa_cons (pv 1) (pa_cons (pv 2) pa_nil))))) (pss_one (ps_ret (pe_c (c_in T) hr (by decide) (by rfl) (pa_cons (pv 0) (pa_cons (pv 1) (pa_cons (pv 2) pa_nil)))))), ?_⟩
  refine ⟨_, rfl, _, rfl, _, rfl, _, _, _, rfl, t, d, hh, ww, TT, i, j, rfl, rfl, rfl, tab, hi, hj, ?_⟩
  exact ⟨_, rfl, _, rfl, _, rfl, _, _, _, rfl, t, d, hh, ww, TT, i, j, rfl, rfl, rfl, tab, hi, hj, dc, k⟩
end
end FtP
set_option Elab.async false
set_option linter.all false
set_option maxRecDepth 100000
set_option maxHeartbeats 4000000
namespace FtP
open PySem PySem.Spec PyProof.Rows L2 SX Ft FtT FtR C8
def prKept (K : PySem.W.Frag) : Pr3 := fun a b c H Q _ => ∃ (t d sa ea : Addr) (h w : Nat) (T : Told) (r : Nat) (S E : Dt), a = .ref t ∧ b = .ref sa ∧ c = .ref ea ∧ Tab K H t d h w T ∧ r < h ∧ H sa = some (.dK (kvN tx S)) ∧ H ea = some (.dK (kvN tx E)) ∧ Lv T r S E ∧ Shut T S E ∧
  ∀ b H', Same H H' → (b = true ↔ Quiet T (look S) (look E)) → Q (.bl b) H'
/-- a told box's item: its tuple, the box's tuple -/
def ItAt (H : Hp) (a : Addr) (e : (Nat × Nat) × List Nat) : Prop := ∃ q, H a = some (.tup [.ref q, tx e.2]) ∧ H q = some (.tup [.int (e.1.1 : Nat), .int (e.1.2 : Nat)])
theorem ItAt.same {H H' : Hp} {a : Addr} {e : (Nat × Nat) × List Nat} (h : ItAt H a e) (s : Same H H') : ItAt H' a e := by
  obtain ⟨q, h1, h2⟩ := h
  exact ⟨q, s _ _ h1, s _ _ h2⟩
theorem ItAt.put {H : Hp} {a b : Addr} {xs : List V} {o : HO} {e : (Nat × Nat) × List Nat} (h : ItAt H a e) (hb : H b = some (.lst xs)) : ItAt (upd H b o) a e := by
  obtain ⟨q, h1, h2⟩ := h
  exact ⟨q, by rw [upd_ne (tup_ne_lst h1 hb)]; exact h1, by rw [upd_ne (tup_ne_lst h2 hb)]; exact h2⟩
theorem dec_S (a b : List Nat) : decide (V.str (S a) = V.str (S b)) = decide (a = b) := by rw [dec_str, S_beq_eq]
theorem look_key {L : Dt} (hk : (L.map (·.1)).Nodup) {i : Nat} (h : i ∈ L.map (·.1)) : ∃ s, (i, s) ∈ L ∧ look L i = some s ∧ valV (kvN tx L) (Sum.inl (i : Int)) = some (tx s) := by
  obtain ⟨s, hs⟩ := Option.isSome_iff_exists.mp (look_is.mpr h)
  exact ⟨s, look_mem hs, hs, kvN_some hk (look_mem hs)⟩
theorem ix_tupK {X : Cx} {K : PySem.W.Frag} (h : X.K = K) : IxR X (rIxT K) := by
  rw [← h]
  exact ix_tup
theorem ix_listK {X : Cx} {K : PySem.W.Frag} (h : X.K = K) : IxR X (rIxL K) := by
  rw [← h]
  exact ix_list
section
variable {P : Program} {w : World} {K : PySem.W.Frag} {mg : Str → Option Value} {base : Heap}
theorem c_kept (T : Tx K mg) : Cal P w K mg base 3 "are_kept" (sp3 (prKept K)) [] := by
  refine cal3 (N := ["table", "stems", "endings", "told", "box", "form"]) (p1 := "table") (p2 := "stems") (p3 := "endings") T.d_are_kept (by decide +kernel) (fun _ _ _ _ _ _ us hl => match us, hl with | [_, _, _], _ => rfl) fun f cdv A outer s H a1 a2 a3 Q E nd hr h => ?_
  have hu := hu_of hr
  obtain ⟨t, d, sa, ea, hh, ww, TT, r, St, En, rfl, rfl, rfl, tab, hrh, hsa, hea, L, sh, k⟩ := h
  refine ⟨_, pss_cons (ps_lock (ps_setLc (i := 3) (own := [("box", 4), ("form", 5)]) (g := gTup K 2 (gCons (gName 4) (gCons (gName 5) gNil))) rfl nd rfl rfl (sw_true rfl rfl rfl (by decide +kernel)) (pi_itemsT (pe_fld (pv 0) rfl))
      (blkOk_by (own := [("box", 4), ("form", 5)]) (N := ["table", "stems", "endings", "told", "box", "form"]) (sc := C8.fnScope (top 30)) (by decide +kernel)) (fun _ _ _ _ _ => pg_tup rfl (pgs_cons (pg_name (i := 4) nd rfl (Or.inl rfl)) (pgs_cons (pg_name (i := 5) nd rfl (Or.inl rfl)) pgs_nil)))
      (fun _ _ _ _ _ => pts_one (pt_cmp (pc_din hu (pe_ix (ix_tupK (K := K) rfl) (pv 4) pe_int (fun _ _ => rfl)) (pv 1))))
      (fun _ _ _ _ _ => pe_tup (pa_cons (pv 4) (pa_cons (pv 5) pa_nil)))))
    (pss_one (ps_ret (pe_callB (cr_all rfl) (by rfl) T.m_all bo_all (pa_cons (pe_lc (own := [("box", 4), ("form", 5)]) (g := gTup K 2 (gCons (gName 4) (gCons (gName 5) gNil))) (tt := tYes) rfl nd (pi_list (pv 3))
      (blkOk_by (own := [("box", 4), ("form", 5)]) (N := ["table", "stems", "endings", "told", "box", "form"]) (sc := C8.fnScope (top 30)) (by decide +kernel)) (fun _ _ _ _ _ => pg_tup rfl (pgs_cons (pg_name (i := 4) nd rfl (Or.inl rfl)) (pgs_cons (pg_name (i := 5) nd rfl (Or.inl rfl)) pgs_nil)))
      (fun _ _ _ _ _ => pts_nil)
      (fun _ _ _ _ _ => pe_cmpR op_eq (pe_c (c_product T) hr (by decide) (by rfl) (pa_cons (pe_lst (pa_cons (pe_dget hu (pv 1) (pe_ix (ix_tupK (K := K) rfl) (pv 4) pe_int (fun _ _ => rfl)) (fun _ _ => rfl)) (pa_cons (pe_dget hu (pv 2) (pe_ix (ix_tupK (K := K) rfl) (pv 4) pe_int (fun _ _ => rfl)) (fun _ _ => rfl)) pa_nil))) pa_nil)) (pv 5) (nomark _))) pa_nil)))), ?_⟩
  obtain ⟨⟨dx, fs, hto, _, _, hfd⟩, hd0⟩ := tab.1
  have tk := tab.2
  have htd : t ≠ d := ne_of hto hd0 (by intro z; cases z)
  have hsd : sa ≠ d := ne_of hsa hd0 (by intro z; cases z)
  have hed : ea ≠ d := ne_of hea hd0 (by intro z; cases z)
  refine ⟨d, .dT (kvT TT), hd0, trivial, fun od => ?_⟩
  refine ⟨_, rfl, t, cTab K, dx, fs, _, rfl, by rw [upd_ne htd]; exact hto, T.cls, T.n_kept_told, hfd, d, od, _, rfl, upd_same, fun D nD => ?_⟩
  have Dd : D ≠ d := fun z => by rw [z, upd_same] at nD; cases nD
  have nD' : H D = none := by rw [upd_ne Dd] at nD; exact nD
  refine lc_acc walk_itemsT (by rw [kvT_len]; have := tk.len; omega) (fun n acc Hx => ∃ ts : List (Addr × ((Nat × Nat) × List Nat)), acc = ts.map (fun x => V.ref x.1) ∧ (∀ x ∈ ts, ItAt Hx x.1 x.2 ∧ x.2 ∈ TT ∧ x.2.1.1 ∈ St.map (·.1)) ∧ (∀ e ∈ TT.take n, e.1.1 ∈ St.map (·.1) → ∃ x ∈ ts, x.2 = e) ∧ (∀ b o, H b = some o → b ≠ d → Hx b = some o) ∧ Hx d = some (.frz od (.dT (kvT TT))))
    ⟨[], rfl, fun _ h => by simp at h, fun _ h => by simp at h, fun b o e n => by rw [upd_ne (ne_of_none e nD'), upd_ne n]; exact e, by rw [upd_ne Dd.symm, upd_same]⟩ (fun i acc Hx _ h => by obtain ⟨_, _, _, _, _, h⟩ := h; exact h) ?_ ?_
  · rintro i x acc H2 H3 Ky Kn hi hD ⟨ts, rfl, h1, h2, hk, hf⟩ ⟨Tu, k1, v1, q, hkv, rfl, nT, hq, rfl⟩ ky kn
    obtain ⟨⟨i1, j1⟩, u, hT, rfl, rfl⟩ := kvT_get hkv
    have hq : H2 q = some (.tup [.int (i1 : Nat), .int (j1 : Nat)]) := hq
    have hm : ((i1, j1), u) ∈ TT := List.mem_of_getElem? hT
    have etk : TT.take (i + 1) = TT.take i ++ [((i1, j1), u)] := by rw [List.take_succ, hT] <;> rfl
    refine ⟨Tu, _, rfl, SqT.of upd_same, rfl, _, _, rfl, _, _, rfl, rfl, rfl, ?_⟩
    have sm3 : Same H2 (upd H2 Tu (.tup [.ref q, .str (S u)])) := Same.put (Same.refl _) nT
    generalize upd H2 Tu (.tup [.ref q, .str (S u)]) = H3 at sm3
    refine ⟨_, rfl, q, _, 0, _, rfl, rfl, SqT.of (sm3 _ _ hq), rfl, _, rfl, sa, _, rfl, DGet.k (k := Sum.inl (i1 : Int)) (sm3 _ _ (hk _ _ hsa hsd)), _, rfl, ?_⟩
    rw [kvN_in L.ndS]
    by_cases e1 : i1 ∈ St.map (·.1)
    · rw [decide_eq_true e1]
      refine iteT ?_
      refine ⟨_, rfl, _, rfl, by show 2 ≤ sizeLine; exact sz (by omega), fun p np => ?_⟩
      have sm4 : Same H2 (upd H3 p (.tup [.ref q, .str (S u)])) := Same.put sm3 (Same.none sm3 np)
      have hp4 : (upd H3 p (.tup [.ref q, .str (S u)])) p = some (.tup [.ref q, .str (S u)]) := upd_same
      generalize upd H3 p (.tup [.ref q, .str (S u)]) = H4 at sm4 hp4
      have hD4 := sm4 _ _ hD
      refine ky _ _ hD4 ⟨ts ++ [(p, ((i1, j1), u))], by rw [List.map_append] <;> rfl, fun x hx => ?_, fun e he hi => ?_, fun b o e n => by rw [upd_ne (ne_of_none e nD')]; exact sm4 _ _ (hk b o e n), by rw [upd_ne Dd.symm]; exact sm4 _ _ hf⟩
      · rcases List.mem_append.mp hx with z | z
        · obtain ⟨y1, y2⟩ := h1 x z
          exact ⟨(y1.same sm4).put hD4, y2⟩
        · rw [List.mem_singleton.mp z]
          exact ⟨ItAt.put ⟨q, hp4, sm4 _ _ hq⟩ hD4, hm, e1⟩
      · rw [etk] at he
        rcases List.mem_append.mp he with z | z
        · obtain ⟨x, y1, y2⟩ := h2 e z hi
          exact ⟨x, List.mem_append_left _ y1, y2⟩
        · exact ⟨_, List.mem_append_right _ (List.mem_singleton.mpr rfl), (List.mem_singleton.mp z).symm⟩
    · rw [decide_eq_false e1]
      refine iteF (kn _ (sm3 _ _ hD) ⟨ts, rfl, fun x hx => ⟨(h1 x hx).1.same sm3, (h1 x hx).2⟩, fun e he hi => ?_, fun b o e n => sm3 _ _ (hk b o e n), sm3 _ _ hf⟩)
      rw [etk] at he
      rcases List.mem_append.mp he with z | z
      · exact h2 e z hi
      · rw [List.mem_singleton.mp z] at hi
        exact absurd hi e1
  · rintro acc H2 hD hlen ⟨ts, rfl, h1, h2, hk, hf⟩
    rw [kvT_len, List.take_length] at h2
    rw [kvT_len, List.length_map] at hlen
    have tl := tk.len
    refine ⟨hf, ?_⟩
    have sm2 : Same H (upd H2 d (.dT (kvT TT))) := fun b o e => by
      by_cases n : b = d
      · rw [n, hd0] at e
        rw [n, upd_same]
        exact e
      · rw [upd_ne n]
        exact hk b o e n
    have hD2 : (upd H2 d (.dT (kvT TT))) D = some (.lst (ts.map fun x => V.ref x.1)) := by rw [upd_ne Dd]; exact hD
    have h3 : ∀ x ∈ ts, ItAt (upd H2 d (.dT (kvT TT))) x.1 x.2 := fun x hx => by
      obtain ⟨q, y1, y2⟩ := (h1 x hx).1
      exact ⟨q, by rw [upd_ne (ne_of y1 hf (by intro z; cases z))]; exact y1, by rw [upd_ne (ne_of y2 hf (by intro z; cases z))]; exact y2⟩
    generalize upd H2 d (.dT (kvT TT)) = H5 at sm2 hD2 h3
    refine ⟨_, rfl, D, rfl, ⟨_, SqL.of hD2⟩, fun D2 nD2 => ?_⟩
    refine lc_acc (walk_list (xs := ts.map fun x => V.ref x.1)) (by rw [List.length_map]; omega) (fun n acc Hx => ∃ bs : List Bool, acc = bs.map V.bl ∧ Same H5 Hx ∧ (bs.all id = true ↔ ∀ x ∈ ts.take n, ∀ s e, look St x.2.1.1 = some s → look En x.2.1.2 = some e → nf (s ++ e) = x.2.2))
      ⟨[], rfl, Same.put (Same.refl _) nD2, by simp⟩ (fun i acc Hx _ h => by obtain ⟨_, _, sm, _⟩ := h; exact SqL.of (sm _ _ hD2)) ?_ ?_
    · rintro i x acc H6 H7 Ky Kn hi hD3 ⟨bs, rfl, sm, hb⟩ ⟨rfl, hx⟩ ky kn
      obtain ⟨⟨a, e⟩, ht, rfl⟩ := map_at hx
      have hm := List.mem_of_getElem? ht
      obtain ⟨⟨i1, j1⟩, u⟩ := e
      obtain ⟨q, y1, y2⟩ := (h3 _ hm).same sm
      obtain ⟨_, hT, hS⟩ := h1 _ hm
      have hT : ((i1, j1), u) ∈ TT := hT
      obtain ⟨s, hs, ls, vs⟩ := look_key L.ndS hS
      obtain ⟨e, he, le, ve⟩ := look_key L.ndE ((sh _ _ _ hT).mp hS)
      have small := L.small tk hrh
      have z1 := small.1 _ _ hs
      have z2 := small.2 _ _ he
      refine ⟨a, _, rfl, SqT.of y1, rfl, _, _, rfl, _, _, rfl, rfl, rfl, ?_⟩
      have sm8 := sm2.trans sm
      refine ⟨_, rfl, _, rfl, q, _, 0, _, rfl, rfl, SqT.of y2, rfl, sa, tx s, rfl, by have := DGet.k (k := Sum.inl (i1 : Int)) (sm8 _ _ hsa); rw [vs] at this; exact this, ?_⟩
      refine ⟨_, rfl, _, rfl, q, _, 1, _, rfl, rfl, SqT.of y2, rfl, ea, tx e, rfl, by have := DGet.k (k := Sum.inl (j1 : Int)) (sm8 _ _ hea); rw [ve] at this; exact this, ?_⟩
      refine ⟨by show 2 ≤ sizeLine; exact sz (by omega), fun l nl => ?_⟩
      refine ⟨_, rfl, l, s, e, rfl, SqL.of upd_same, (L.strS _ _ hs).wd, (L.strE _ _ he).wd, by omega, fun H8 sm9 => ?_⟩
      have sm10 : Same H7 H8 := fun b o e => sm9 _ _ (Same.put (Same.refl _) nl b o e)
      refine ⟨_, rfl, rfl, ?_⟩
      refine ky _ _ (sm10 _ _ hD3) ⟨bs ++ [decide (V.str (S (nf (s ++ e))) = V.str (S u))], by rw [List.map_append] <;> rfl, Same.put (sm.trans sm10) nD2, ?_⟩
      have etk : ts.take (i + 1) = ts.take i ++ [(a, ((i1, j1), u))] := by rw [List.take_succ, ht] <;> rfl
      rw [List.all_append, Bool.and_eq_true, hb, etk, dec_S]
      constructor
      · rintro ⟨y1, y2⟩ x hx
        rcases List.mem_append.mp hx with z | z
        · exact y1 x z
        · rw [List.mem_singleton.mp z]
          intro s' e' q1 q2
          have q1 : look St i1 = some s' := q1
          have q2 : look En j1 = some e' := q2
          rw [ls] at q1
          rw [le] at q2
          cases q1
          cases q2
          have : decide (nf (s ++ e) = u) = true := by simpa using y2
          exact of_decide_eq_true this
      · intro y
        refine ⟨fun x hx => y x (List.mem_append_left _ hx), ?_⟩
        have : nf (s ++ e) = u := y _ (List.mem_append_right _ (List.mem_singleton.mpr rfl)) s e ls le
        simp [this]
    · rintro acc H6 hD3 hlen2 ⟨bs, rfl, sm, hb⟩
      rw [List.length_map, List.take_length] at hb
      refine ⟨D2, _, rfl, SqL.of hD3, ?_⟩
      refine k _ _ (sm2.trans sm) ⟨fun y i j f s e m hs he => ?_, fun qt => hb.mpr fun x hx s e hs he => ?_⟩
      · obtain ⟨x, hx, ex⟩ := h2 _ m (look_is.mp (by show (look St i).isSome; rw [hs] <;> rfl))
        have := hb.mp y x hx s e (by rw [ex]; exact hs) (by rw [ex]; exact he)
        rw [ex] at this
        exact this
      · exact qt _ _ _ _ _ (h1 x hx).2.1 hs he
end
end FtP
set_option Elab.async false
set_option linter.all false
set_option maxRecDepth 100000
set_option maxHeartbeats 4000000
namespace FtP
open PySem PySem.Spec PyProof.Rows L2 SX Ft FtT FtR C8
/-- foretold: by any table of stems and endings that closes -/
def prFore (K : PySem.W.Frag) : Pr3 := fun a b c H Q Ex => ∃ (t d : Addr) (h w : Nat) (T : Told) (i j : Nat) (S E : Nat → Option (List Nat)), a = .ref t ∧ b = .int (i : Nat) ∧ c = .int (j : Nat) ∧ Tab K H t d h w T ∧ i < h ∧ j < w ∧ Lev T i S E ∧
  (E j = none → ∀ H', Same H H' → Q .non H') ∧ (∀ e, E j = some e → Quiet T S E → ∀ H', Same H H' → Q (.str (SX.S e)) H') ∧ (∀ e, E j = some e → ¬ Quiet T S E → ∀ H', Same H H' → Ex (.ref (cUnl K)) none H')
section
variable {P : Program} {w : World} {K : PySem.W.Frag} {mg : Str → Option Value} {base : Heap}
/-- as fn0, for a def that may raise -/
theorem fnX {x qual : Str} {st : Stmt} {f : Addr} {fd : FuncData} {N ps : List Str} {k : Nat} {sp : Sp} (F : C8.Fun K x qual st f fd) (S : FnScope N ps (C8.fnScope st)) (len : ∀ vs H Q E, sp vs H Q E → vs.length = ps.length)
    (hbody : ∀ (cdv : Value) (A : Around) (outer : List Env) (s : Shared) (H : Hp) (vs : List V) (Q : VK) (E : XK), Room k (A.deeper (envOfC qual (C8.fnScope st) s.heap.objs.size f cdv)) → sp vs H Q E →
      ∃ t, PSs (cxOf (L2.CX P w) P w K mg base N qual (C8.fnScope st) f cdv A outer s H E) (C8.fnBody st) t ∧ t { nx := fun _ H' => Q .non H', rt := Q } (start N vs) H) : FnOk P w K mg base (L2.CX P w) (k + 1) f fd ps sp := by
  obtain ⟨oc, od, dV, kV, doc, pm, an, cdv, ct, osl, rfl, lk, hcd⟩ := F.ex
  exact fn_of lk hcd S len fun A outer s H vs Q E hr hsp => hbody cdv A outer s H vs Q E hr hsp
/-- a def that may raise, by its name -/
structure CalX (P : Program) (w : World) (K : PySem.W.Frag) (mg : Str → Option Value) (base : Heap) (k : Nat) (x : Str) (sp : Sp) : Prop where
  ex : ∃ (f : Addr) (fd : FuncData) (ps : List Str), FnOk P w K mg base (L2.CX P w) k f fd ps sp ∧ mg x = some (.ref f) ∧ PySem.W.keepIn K (.ref f) = true ∧ Binds K fd ps []
theorem c_fore (T : Tx K mg) : CalX P w K mg base 4 "foretold" (sp3 (prFore K)) := by
  obtain ⟨f, fd, F, hd⟩ := T.d_foretold.ex
  refine ⟨f, fd, ["table", "row", "column"], fnX (N := ["table", "row", "column", "stems", "endings"]) F.fn (C8.fnScope_by (by decide +kernel)) (fun vs H Q E h => by obtain ⟨a, a2, a3, rfl, _⟩ := h; rfl) fun cdv A outer s H vs Q E hr h => ?_, F.mgf, F.kp, F.fn.binds hd (fun _ _ _ _ _ _ us hl => match us, hl with | [_, _, _], _ => rfl)⟩
  have nd : (["table", "row", "column", "stems", "endings"] : List Str).Nodup := by decide +kernel
  have hu := hu_of hr
  obtain ⟨_, _, _, rfl, t, d, hh, ww, TT, i, j, S0, E0, rfl, rfl, rfl, tab, hi, hj, L0, k1, k2, k3⟩ := h
  refine ⟨_, pss_cons (ps_expr (pe_c (c_place T) hr (by decide) (by rfl) (pa_cons (pv 0) (pa_cons (pv 1) (pa_cons (pv 2) pa_nil)))))
    (pss_cons (ps_asg (pe_c (c_levels T) hr (by decide) (by rfl) (pa_cons (pv 0) (pa_cons (pv 1) pa_nil))) (pg_tup rfl (pgs_cons (pg_name (i := 3) nd rfl (.inl rfl)) (pgs_cons (pg_name (i := 4) nd rfl (.inl rfl)) pgs_nil))))
    (pss_cons (ps_if (pt_cmp (pc_dnotin hu (pv 2) (pv 4))) (pss_one (ps_ret pe_non)) pss_nil)
    (pss_cons (ps_if (pt_not (pt_val (pe_c (c_kept T) hr (by decide) (by rfl) (pa_cons (pv 0) (pa_cons (pv 3) (pa_cons (pv 4) pa_nil))))))
      (pss_one (ps_raise rfl (takes_of rfl rfl rfl rfl) (pmk_own0 PySem.F.excBase_ValueError T.exc.1 T.g_Unlike T.exc.2.1 (raises_own T.exc.2.2.1 T.exc.2.2.2) rfl))) pss_nil)
    (pss_one (ps_ret (pe_dget hu (pv 4) (pv 2) (fun _ _ => rfl))))))), ?_⟩
  refine ⟨_, rfl, _, rfl, _, rfl, _, _, _, rfl, t, d, hh, ww, TT, i, j, rfl, rfl, rfl, tab, hi, hj, ?_⟩
  refine ⟨_, rfl, _, rfl, _, _, rfl, t, d, hh, ww, TT, i, rfl, rfl, tab, hi, fun p sa ea S E H' sm hp hsa hea L sh => ?_⟩
  refine ⟨p, _, rfl, SqT.of hp, rfl, _, _, rfl, _, _, rfl, rfl, ?_⟩
  have L' := L.lev sh
  refine ⟨_, rfl, _, rfl, ea, _, rfl, DGet.k (k := Sum.inl (j : Int)) hea, _, rfl, ?_⟩
  rw [kvN_in L.ndE]
  by_cases e1 : j ∈ E.map (·.1)
  · rw [decide_eq_true e1]
    refine iteF ?_
    obtain ⟨e, he, le, ve⟩ := look_key L.ndE e1
    obtain ⟨e', he'⟩ := Option.isSome_iff_exists.mp ((L'.some_iff L0 j).mp (by rw [le] <;> rfl))
    refine ⟨_, rfl, _, rfl, _, rfl, _, _, _, rfl, t, d, sa, ea, hh, ww, TT, i, S, E, rfl, rfl, rfl, ⟨tab.1.same sm, tab.2⟩, hi, hsa, hea, L, sh, fun b H2 sm2 hb => ⟨b, rfl, ?_⟩⟩
    cases b with
    | true =>
      have q := hb.mp rfl
      refine iteF ?_
      have q0 := L'.quiet L0 q
      have := L'.eqE L0 q he'
      rw [le] at this
      cases this
      exact ⟨_, rfl, _, rfl, ea, tx e, rfl, by have := DGet.k (k := Sum.inl (j : Int)) (sm2 _ _ hea); rw [ve] at this; exact this, k2 e he' q0 _ (sm.trans sm2)⟩
    | false =>
      refine iteT ?_
      exact k3 e' he' (fun q0 => Bool.noConfusion (hb.mpr (L0.quiet L' q0))) _ (sm.trans sm2)
  · rw [decide_eq_false e1]
    refine iteT ?_
    refine k1 ?_ _ sm
    cases e : E0 j with
    | none => rfl
    | some e' =>
      have := (L0.some_iff L' j).mp (by rw [e] <;> rfl)
      exact absurd (look_is.mp this) e1
/-- .. where no table of stems speaks against -/
def prFore0 (K : PySem.W.Frag) : Pr3 := fun a b c H Q _ => ∃ (t d : Addr) (h w : Nat) (T : Told) (i j : Nat) (S E : Nat → Option (List Nat)) (e : List Nat), a = .ref t ∧ b = .int (i : Nat) ∧ c = .int (j : Nat) ∧ Tab K H t d h w T ∧ i < h ∧ j < w ∧ Lev T i S E ∧
  E j = some e ∧ Quiet T S E ∧ ∀ H', Same H H' → Q (.str (SX.S e)) H'
theorem c_fore0 (T : Tx K mg) : Cal P w K mg base 4 "foretold" (sp3 (prFore0 K)) [] := by
  refine cal3 (N := ["table", "row", "column", "stems", "endings"]) (p1 := "table") (p2 := "row") (p3 := "column") T.d_foretold (by decide +kernel) (fun _ _ _ _ _ _ us hl => match us, hl with | [_, _, _], _ => rfl) fun f cdv A outer s H a1 a2 a3 Q E nd hr h => ?_
  have hu := hu_of hr
  obtain ⟨t, d, hh, ww, TT, i, j, S0, E0, e', rfl, rfl, rfl, tab, hi, hj, L0, he', q0, k⟩ := h
  refine ⟨_, pss_cons (ps_expr (pe_c (c_place T) hr (by decide) (by rfl) (pa_cons (pv 0) (pa_cons (pv 1) (pa_cons (pv 2) pa_nil)))))
    (pss_cons (ps_asg (pe_c (c_levels T) hr (by decide) (by rfl) (pa_cons (pv 0) (pa_cons (pv 1) pa_nil))) (pg_tup rfl (pgs_cons (pg_name (i := 3) nd rfl (.inl rfl)) (pgs_cons (pg_name (i := 4) nd rfl (.inl rfl)) pgs_nil))))
    (pss_cons (ps_if (pt_cmp (pc_dnotin hu (pv 2) (pv 4))) pss_never pss_nil)
    (pss_cons (ps_if (pt_not (pt_val (pe_c (c_kept T) hr (by decide) (by rfl) (pa_cons (pv 0) (pa_cons (pv 3) (pa_cons (pv 4) pa_nil)))))) pss_never pss_nil)
    (pss_one (ps_ret (pe_dget hu (pv 4) (pv 2) (fun _ _ => rfl))))))), ?_⟩
  refine ⟨_, rfl, _, rfl, _, rfl, _, _, _, rfl, t, d, hh, ww, TT, i, j, rfl, rfl, rfl, tab, hi, hj, ?_⟩
  refine ⟨_, rfl, _, rfl, _, _, rfl, t, d, hh, ww, TT, i, rfl, rfl, tab, hi, fun p sa ea S E H' sm hp hsa hea L sh => ?_⟩
  refine ⟨p, _, rfl, SqT.of hp, rfl, _, _, rfl, _, _, rfl, rfl, ?_⟩
  have L' := L.lev sh
  refine ⟨_, rfl, _, rfl, ea, _, rfl, DGet.k (k := Sum.inl (j : Int)) hea, _, rfl, ?_⟩
  rw [kvN_in L.ndE]
  have e1 : j ∈ E.map (·.1) := look_is.mp ((L0.some_iff L' j).mp (by rw [he'] <;> rfl))
  rw [decide_eq_true e1]
  refine iteF ?_
  obtain ⟨e, he, le, ve⟩ := look_key L.ndE e1
  have q := L0.quiet L' q0
  have := L0.eqE L' q0 le
  rw [he'] at this
  cases this
  refine ⟨_, rfl, _, rfl, _, rfl, _, _, _, rfl, t, d, sa, ea, hh, ww, TT, i, S, E, rfl, rfl, rfl, ⟨tab.1.same sm, tab.2⟩, hi, hsa, hea, L, sh, fun b H2 sm2 hb => ⟨b, rfl, ?_⟩⟩
  rw [hb.mpr q]
  refine iteF ?_
  exact ⟨_, rfl, _, rfl, ea, tx e', rfl, by have := DGet.k (k := Sum.inl (j : Int)) (sm2 _ _ hea); rw [ve] at this; exact this, k _ (sm.trans sm2)⟩
end
end FtP
set_option Elab.async false
set_option linter.all false
set_option maxRecDepth 100000
set_option maxHeartbeats 4000000
namespace FtP
open PySem PySem.Spec PyProof.Rows L2 SX Ft FtT FtR C8
theorem cut_int (ns : List Int) (lo hi : Option Int) : ∃ ns' : List Int, cutV (ns.map V.int) lo hi = ns'.map V.int ∧ ns'.length ≤ ns.length := by
  refine ⟨(ns.drop (HT.sIx (ns.map V.int).length 0 lo)).take (HT.sIx (ns.map V.int).length (ns.map V.int).length hi - HT.sIx (ns.map V.int).length 0 lo), ?_, ?_⟩
  · unfold cutV
    rw [List.map_take, List.map_drop]
  · rw [List.length_take, List.length_drop]
    omega
theorem SqL.same {K : PySem.W.Frag} {H H' : Hp} {a : Addr} {xs : List V} (h : SqL K H a xs) (s : Same H H') : SqL K H' a xs := by
  rcases h with (h | ⟨f, h⟩) | h
  · exact .inl (.inl (s _ _ h))
  · exact .inl (.inr ⟨f, s _ _ h⟩)
  · exact .inr h
def prPool (K : PySem.W.Frag) : Pr1 := fun a H Q _ => ∃ (s : Addr) (ns : List Int), a = .ref s ∧ SqL K H s (ns.map V.int) ∧ ns.length ≤ 63 ∧ ∀ p c H', Same H H' → Pool H' p c → Q (.ref p) H'
section
variable {P : Program} {w : World} {K : PySem.W.Frag} {mg : Str → Option Value} {base : Heap}
theorem c_pool (T : Tx K mg) : Cal P w K mg base 1 "_law_pool" (sp1 (prPool K)) [] := by
  refine cal1 (N := ["_law_script", "_law_seed", "_law_cell"]) (p1 := "_law_script") T.d_law_pool (by decide +kernel) (fun _ _ _ _ _ _ us hl => match us, hl with | [_], _ => rfl) fun f cdv A outer s H a1 Q E nd hr h => ?_
  obtain ⟨sc, ns, rfl, hs, hl, k⟩ := h
  refine ⟨_, pss_cons (ps_set (i := 1) nd rfl (.inl rfl) (pe_op op_add (pe_op op_add (pe_op op_mod (pe_callTy call_int1 (by rfl) T.m_int bo_int (pa_cons (pe_callB (cr_sum rfl) (by rfl) T.m_sum bo_sum (pa_cons (pe_slice sl_list (pv 0) po_none (po_some pe_int)) pa_nil)) pa_nil)) pe_int)
      (pe_callB call_len_seq (by rfl) T.m_len boot_len (pa_cons (pv 0) pa_nil))) pe_int))
    (pss_cons (ps_for PassesOwn.never rfl (pi_list (pe_slice sl_list (pv 0) po_none (po_some pe_int))) (pg_name (i := 2) nd rfl (.inl rfl))
      (pss_one (ps_set (i := 1) nd rfl (.inl rfl) (pe_op op_mod (pe_callTy call_int1 (by rfl) T.m_int bo_int (pa_cons (pe_op op_add (pe_op op_add (pe_op op_mul (pv 1) pe_int) (pe_op op_mod (pe_callTy call_int1 (by rfl) T.m_int bo_int (pa_cons (pv 2) pa_nil)) pe_int)) pe_int) pa_nil)) pe_int))))
    (pss_one (ps_ret (pe_lst (pa_cons (pv 1) (pa_cons pe_int (pa_cons (pe_lc (own := [("_law_cell", 2)]) (g := gName 2) rfl nd (pi_list (pe_slice sl_list (pv 0) po_none (po_some pe_int)))
      (blkOk_by (own := [("_law_cell", 2)]) (N := ["_law_script", "_law_seed", "_law_cell"]) (sc := C8.fnScope (top 33)) (by decide +kernel)) (fun _ _ _ _ _ => pg_name (i := 2) nd rfl (Or.inl rfl))
      (fun _ _ _ _ _ => pts_one (pt_cmpR op_ge (pe_callB call_abs (by rfl) T.m_abs bo_abs (pa_cons (pv 2) pa_nil)) (pe_op op_pow pe_int pe_int) (nomark _)))
      (fun _ _ _ _ _ => pe_callB call_abs (by rfl) T.m_abs bo_abs (pa_cons (pv 2) pa_nil))) pa_nil))))))), ?_⟩
  obtain ⟨n1, e1, l1⟩ := cut_int ns none (some 1)
  obtain ⟨n2, e2, l2⟩ := cut_int ns none (some 63)
  refine ⟨_, rfl, _, rfl, sc, _, rfl, hs, fun p1 np1 => ?_⟩
  have sm1 := Same.put (Same.refl H) np1 (o := .lst (cutV (ns.map V.int) none (some 1)))
  refine ⟨p1, n1, rfl, SqL.of (by rw [upd_same, e1]), .inl ⟨_, rfl, _, _, rfl, rfl, by show (0 : Int) < 1000003; decide, _, rfl, sc, _, rfl, .inl (SqL.same hs sm1), _, _, rfl, rfl, _, _, rfl, rfl, ?_⟩⟩
  refine ⟨_, rfl, _, rfl, sc, _, rfl, SqL.same hs sm1, fun p2 np2 => ?_⟩
  have sm2 := Same.put sm1 (Same.none sm1 np2) (o := .lst (cutV (ns.map V.int) none (some 63)))
  have h2 : (upd (upd H p1 (.lst (cutV (ns.map V.int) none (some 1)))) p2 (.lst (cutV (ns.map V.int) none (some 63)))) p2 = some (.lst (n2.map V.int)) := by rw [upd_same, e2]
  generalize upd (upd H p1 (.lst (cutV (ns.map V.int) none (some 1)))) p2 (.lst (cutV (ns.map V.int) none (some 63))) = H2 at sm2 h2
  refine ⟨p2, rfl, ⟨_, SqL.of h2⟩, ?_⟩
  refine for_it (walk_list (xs := n2.map V.int)) (fun i σ H1 => ∃ (z : Int) (v : Option V), σ = [some (V.ref sc), some (V.int z), v] ∧ H1 = H2) ⟨_, _, rfl, rfl⟩ (fun i σ H1 _ h => by obtain ⟨_, _, _, rfl⟩ := h; exact SqL.of h2) ?_ ?_
  · rintro i x σ H3 H4 hi ⟨z, v, rfl, rfl⟩ ⟨rfl, hx⟩
    obtain ⟨n, _, rfl⟩ := map_at hx
    exact ⟨_, rfl, _, _, rfl, rfl, .inr ⟨by decide, by decide⟩, _, rfl, .inl ⟨_, rfl, _, _, rfl, rfl, by show (0 : Int) < 2147483629; decide, _, _, rfl, rfl, _, _, rfl, rfl, .inl ⟨_, rfl, _, _, rfl, rfl, by show (0 : Int) < 2147483647; decide, _, _, rfl, rfl⟩⟩⟩
  · rintro σ H3 ⟨z, v, rfl, rfl⟩
    refine ⟨_, rfl, _, rfl, _, rfl, sc, _, rfl, SqL.same hs sm2, fun p3 np3 => ?_⟩
    have sm3 := Same.put sm2 (Same.none sm2 np3) (o := .lst (cutV (ns.map V.int) none (some 63)))
    have h3 : (upd H3 p3 (.lst (cutV (ns.map V.int) none (some 63)))) p3 = some (.lst (n2.map V.int)) := by rw [upd_same, e2]
    generalize upd H3 p3 (.lst (cutV (ns.map V.int) none (some 63))) = H4 at sm3 h3
    refine ⟨p3, rfl, ⟨_, SqL.of h3⟩, fun D nD => ?_⟩
    refine lc_acc (walk_list (xs := n2.map V.int)) (by rw [List.length_map]; omega) (fun n acc Hx => Same H4 Hx ∧ ∃ ms : List Int, acc = ms.map V.int) ⟨Same.put (Same.refl _) nD, [], rfl⟩ (fun i acc Hx _ h => SqL.of (h.1 _ _ h3)) ?_ ?_
    · rintro i x acc H5 H6 Ky Kn hi hD ⟨sm, ms, rfl⟩ ⟨rfl, hx⟩ ky kn
      obtain ⟨n, _, rfl⟩ := map_at hx
      refine ⟨rfl, ?_⟩
      refine ⟨_, rfl, _, rfl, _, _, rfl, rfl, ⟨by decide, by decide, by decide⟩, _, _, rfl, rfl, _, rfl, ?_⟩
      refine ite2 (fun _ => ?_) (fun _ => ?_)
      · exact ⟨_, rfl, _, rfl, ky _ _ hD ⟨Same.put sm nD, ms ++ [_], by rw [List.map_append] <;> rfl⟩⟩
      · exact kn _ hD ⟨sm, ms, rfl⟩
    · rintro acc H5 hD _ ⟨sm, ms, rfl⟩
      refine ⟨by show 3 ≤ sizeLine; exact sz (by omega), fun p np => ?_⟩
      exact k p D _ (Same.put (sm3.trans sm) (Same.none (sm3.trans sm) np)) ⟨_, _, ms, upd_same, by rw [upd_ne (ne_of_none hD np)]; exact hD⟩
theorem mod_nat (i : Int) {m : Nat} (h : 0 < m) : ∃ d : Nat, d < m ∧ i % (m : Int) = (d : Int) := by
  have h0 : (0 : Int) ≤ i % (m : Int) := Int.emod_nonneg _ (by omega)
  have h1 : i % (m : Int) < (m : Int) := Int.emod_lt_of_pos _ (by omega)
  exact ⟨(i % (m : Int)).toNat, by omega, by omega⟩
theorem seq0 {n : Nat} : seqIndex? 0 (n + 1) = some 0 := (ixN_seq (n := n + 1) (i := 0) (j := 0) (by unfold ixN; rw [if_pos (by decide), if_pos (by omega)] <;> rfl)).1
theorem Pool.kp {H : Hp} {p c : Addr} (o : HO) (b : Addr) (h : b = p ∨ b = c) : Kp p c H (upd H b o) := fun x u e n1 n2 => by
  have : x ≠ b := by
    rcases h with h | h
    · rw [h]; exact n1
    · rw [h]; exact n2
  rw [upd_ne this]
  exact e
def prDraw : Pr2 := fun a b H Q _ => ∃ (p c : Addr) (m : Nat), a = .ref p ∧ b = .int (m : Nat) ∧ 0 < m ∧ m < 1000000 ∧ Pool H p c ∧ ∀ (d : Nat) H', d < m → Pool H' p c → Kp p c H H' → Q (.int (d : Nat)) H'
theorem c_draw (T : Tx K mg) : Cal P w K mg base 1 "_law_draw" (sp2 prDraw) [] := by
  refine cal2 (N := ["_law_pool_here", "_law_many", "_law_cells", "_law_digit", "_law_mixed"]) (p1 := "_law_pool_here") (p2 := "_law_many") T.d_law_draw (by decide +kernel) (fun _ _ _ _ _ _ us hl => match us, hl with | [_, _], _ => rfl) fun f cdv A outer s H a1 a2 Q E nd hr h => ?_
  obtain ⟨p, c, m, rfl, rfl, hm, hM, pl, k⟩ := h
  have hpc := pl.ne
  obtain ⟨a, b, ns, hp, hc⟩ := pl
  refine ⟨_, pss_cons (ps_asg (pe_op op_add (pe_ix ix_list (pv 0) pe_int (fun _ _ => rfl)) pe_int) (pg_sub (pv 0) pe_int set_list))
    (pss_cons (ps_set (i := 2) nd rfl (.inl rfl) (pe_ix ix_list (pv 0) pe_int (fun _ _ => rfl)))
    (pss_cons (ps_if (pt_cmpR op_gt (pe_callB call_len_seq (by rfl) T.m_len boot_len (pa_cons (pv 2) pa_nil)) pe_int (nomark _))
      (pss_cons (ps_set (i := 3) nd rfl (.inl rfl) (pe_op op_mod (pe_callTy call_int1 (by rfl) T.m_int bo_int (pa_cons (pe_ix ix_list (pv 2) pe_int (fun _ _ => rfl)) pa_nil)) (pv 1)))
      (pss_cons (ps_asg (pe_op op_fdiv (pe_callTy call_int1 (by rfl) T.m_int bo_int (pa_cons (pe_ix ix_list (pv 2) pe_int (fun _ _ => rfl)) pa_nil)) (pv 1)) (pg_sub (pv 2) pe_int set_list))
      (pss_cons (ps_if (pt_cmpR op_eq (pe_ix ix_list (pv 2) pe_int (fun _ _ => rfl)) pe_int (nomark _)) (pss_one (ps_expr (pe_bm F.plainAttrs_list F.slot_list_pop F.type_list_pop mt_popAt (pv 2) (pa_cons pe_int pa_nil)))) pss_nil)
      (pss_one (ps_ret (pv 3)))))) pss_nil)
    (pss_cons (ps_set (i := 4) nd rfl (.inl rfl) (pe_op op_mod (pe_callTy call_int1 (by rfl) T.m_int bo_int (pa_cons (pe_op op_mul (pe_op op_add (pe_ix ix_list (pv 0) pe_int (fun _ _ => rfl)) (pe_op op_mul pe_int (pe_ix ix_list (pv 0) pe_int (fun _ _ => rfl)))) pe_int) pa_nil)) pe_int))
    (pss_cons (ps_set (i := 4) nd rfl (.inl rfl) (pe_op op_mod (pe_callTy call_int1 (by rfl) T.m_int bo_int (pa_cons (pe_op op_mul (pv 4) (pe_op op_add (pe_op op_fdiv (pv 4) pe_int) pe_int)) pa_nil)) pe_int))
    (pss_cons (ps_set (i := 4) nd rfl (.inl rfl) (pe_op op_mod (pe_callTy call_int1 (by rfl) T.m_int bo_int (pa_cons (pe_op op_mul (pv 4) (pe_op op_add (pe_op op_fdiv (pv 4) pe_int) pe_int)) pa_nil)) pe_int))
    (pss_one (ps_ret (pe_op op_mod (pe_callTy call_int1 (by rfl) T.m_int bo_int (pa_cons (pe_op op_fdiv (pv 4) pe_int) pa_nil)) (pv 1))))))))), ?_⟩
  have m0 : (0 : Int) < (m : Int) := by omega
  refine ⟨_, rfl, p, _, 1, _, rfl, rfl, SqL.of hp, rfl, _, _, rfl, rfl, _, rfl, p, _, 1, 1, rfl, rfl, hp, rfl, ?_⟩
  have hp1 : (upd H p (.lst ([V.int a, V.int b, V.ref c].set 1 (.int (b + 1))))) p = some (.lst [V.int a, V.int (b + 1), V.ref c]) := upd_same
  have hc1 : (upd H p (.lst ([V.int a, V.int b, V.ref c].set 1 (.int (b + 1))))) c = some (.lst (ns.map V.int)) := by rw [upd_ne hpc.symm]; exact hc
  have kp1 : Kp p c H (upd H p (.lst ([V.int a, V.int b, V.ref c].set 1 (.int (b + 1))))) := Pool.kp _ _ (.inl rfl)
  generalize upd H p (.lst ([V.int a, V.int b, V.ref c].set 1 (.int (b + 1)))) = H1 at hp1 hc1 kp1
  refine ⟨_, rfl, p, _, 2, _, rfl, rfl, SqL.of hp1, rfl, ?_⟩
  refine ⟨_, rfl, c, _, rfl, .inl (SqL.of hc1), _, _, rfl, rfl, _, rfl, ?_⟩
  cases ns with
  | nil =>
    refine iteF ?_
    refine ⟨_, rfl, p, _, 0, _, rfl, rfl, SqL.of hp1, rfl, _, rfl, p, _, 1, _, rfl, rfl, SqL.of hp1, rfl, _, _, rfl, rfl, .inl ⟨by decide, by decide⟩, _, _, rfl, rfl, _, _, rfl, rfl, .inr ⟨by decide, by decide⟩, .inl ⟨_, rfl, _, _, rfl, rfl, by show (0 : Int) < 2147483647; decide, ?_⟩⟩
    obtain ⟨x1, hx1, ex1⟩ := mod_nat ((a + 7919 * (b + 1)) * 48271) (m := 2147483647) (by decide)
    have ex1' : (a + 7919 * (b + 1)) * 48271 % 2147483647 = (x1 : Int) := ex1
    dsimp only
    rw [ex1']
    refine ⟨_, rfl, _, rfl, _, _, rfl, rfl, ⟨by decide, by decide⟩, _, _, rfl, rfl, _, _, rfl, rfl, .inl ⟨by omega, by omega⟩, .inl ⟨_, rfl, _, _, rfl, rfl, by show (0 : Int) < 2147483647; decide, ?_⟩⟩
    obtain ⟨x2, hx2, ex2⟩ := mod_nat ((x1 : Int) * ((x1 : Int) / 1009 + 69621)) (m := 2147483647) (by decide)
    have ex2' : (x1 : Int) * ((x1 : Int) / 1009 + 69621) % 2147483647 = (x2 : Int) := ex2
    dsimp only
    rw [ex2']
    refine ⟨_, rfl, _, rfl, _, _, rfl, rfl, ⟨by decide, by decide⟩, _, _, rfl, rfl, _, _, rfl, rfl, .inl ⟨by omega, by omega⟩, .inl ⟨_, rfl, _, _, rfl, rfl, by show (0 : Int) < 2147483399; decide, ?_⟩⟩
    refine ⟨_, rfl, _, _, rfl, rfl, ⟨by decide, by decide⟩, .inl ⟨_, rfl, _, rfl, _, _, rfl, rfl, m0, ?_⟩⟩
    obtain ⟨d, hd, ed⟩ := mod_nat ((x2 : Int) * ((x2 : Int) / 2003 + 40692) % 2147483399 / 16) hm
    dsimp only
    rw [ed]
    exact k d H1 hd ⟨_, _, [], hp1, hc1⟩ kp1
  | cons x r =>
    have e1 : decide ((0 : Int) < (((x :: r).map V.int).length : Int)) = true := decide_eq_true (by rw [List.length_map, List.length_cons]; omega)
    rw [e1]
    refine iteT ?_
    refine ⟨_, rfl, c, _, 0, _, rfl, rfl, SqL.of hc1, atI_nat (j := 0) rfl, .inl ⟨_, rfl, _, rfl, _, _, rfl, rfl, m0, ?_⟩⟩
    obtain ⟨d, hd, ed⟩ := mod_nat x hm
    dsimp only
    rw [ed]
    refine ⟨_, rfl, c, _, 0, _, rfl, rfl, SqL.of hc1, atI_nat (j := 0) rfl, .inl ⟨_, rfl, _, rfl, _, _, rfl, rfl, ⟨m0, by show (m : Int) < 1073741824; omega⟩, ?_⟩⟩
    refine ⟨_, rfl, c, _, 0, 0, rfl, rfl, hc1, by rw [List.length_map, List.length_cons]; unfold ixN; rw [if_pos (by decide), if_pos (by omega)] <;> rfl, ?_⟩
    have hc2 : (upd H1 c (.lst (((x :: r).map V.int).set 0 (.int (x / (m : Int)))))) c = some (.lst ((x / (m : Int) :: r).map V.int)) := upd_same
    have hp2 : (upd H1 c (.lst (((x :: r).map V.int).set 0 (.int (x / (m : Int)))))) p = some (.lst [V.int a, V.int (b + 1), V.ref c]) := by rw [upd_ne hpc]; exact hp1
    have kp2 : Kp p c H (upd H1 c (.lst (((x :: r).map V.int).set 0 (.int (x / (m : Int)))))) := kp1.trans (Pool.kp _ _ (.inr rfl))
    generalize upd H1 c (.lst (((x :: r).map V.int).set 0 (.int (x / (m : Int))))) = H2 at hp2 hc2 kp2
    refine ⟨_, rfl, c, _, 0, _, rfl, rfl, SqL.of hc2, atI_nat (j := 0) rfl, rfl, _, rfl, ?_⟩
    refine ite2 (fun _ => ?_) (fun _ => ?_)
    · refine ⟨_, rfl, .inl ⟨rfl, _, SqL.of hc2⟩, c, _, 0, 0, _, rfl, rfl, hc2, by decide, by decide, (by rw [List.length_map, List.length_cons]; exact seq0), rfl, ?_⟩
      refine ⟨_, rfl, k d _ hd ⟨_, _, r, by rw [upd_ne hpc]; exact hp2, upd_same⟩ (kp2.trans (Pool.kp _ _ (.inr rfl)))⟩
    · exact ⟨_, rfl, k d H2 hd ⟨_, _, _, hp2, hc2⟩ kp2⟩
end
end FtP
set_option Elab.async false
set_option linter.all false
set_option maxRecDepth 100000
set_option maxHeartbeats 4000000
namespace FtP
open PySem PySem.Spec PyProof.Rows L2 SX Ft FtT FtR C8
/-- all but the pool and a list is as it was -/
def Kd (p c D : Addr) (H H' : Hp) : Prop := ∀ b o, H b = some o → b ≠ p → b ≠ c → b ≠ D → H' b = some o
section
variable {J : It} {n : Nat} {G : Hp → Prop} {Y : Nat → Hp → V → Hp → Prop} {p c : Addr}
/-- a comprehension whose elements are drawn -/
theorem lc_drawn (w : Walk J n G Y) {j : Nat} {te : TE} {vs : List Nat} {σ : L2.St} {H1 : Hp} {D : Addr} {Qd : Hp → Prop} (hn : n ≤ 100000) (hw : ∀ x, wipe ((wipe σ vs).set j (some x)) vs = wipe σ vs)
    {α : Type} (F : Hp → V → α → Prop) (Pa : Nat → α → Prop) (stab : ∀ H H' v a, F H v a → Kd p c D H H' → F H' v a) (pl : Pool H1 p c) (nD : H1 D = none) (hG : ∀ H, Pool H p c → Kp p c H1 H → G H)
    (hs : ∀ i x acc H H' (Ky : V → Hp → Prop), i < n → Pool H p c → Kp p c H1 H → H D = some (.lst acc) → Y i H x H' →
      (∀ y a H4, Pool H4 p c → Kp p c H H4 → F H4 y a → Pa i a → Ky y H4) → te ((wipe σ vs).set j (some x)) H' Ky)
    (hd : ∀ (l : List (V × α)) H, l.length = n → H D = some (.lst (l.map (·.1))) → Pool H p c → Kp p c H1 H → (∀ e ∈ l, F H e.1 e.2) → (∀ i e, l[i]? = some e → Pa i e.2) → Qd H) :
    ∃ W : Nat → Nat → Hp → Prop, (∃ m, W 0 m (upd H1 D (.lst []))) ∧ ∀ i m H, W i m H →
      (J.stop i H ∧ Qd H) ∨ (J.go i H ∧ ∃ Nx : Hp → Prop, (∀ H', Nx H' → ∃ m', m' < m ∧ W (i + 1) m' H') ∧ ∀ x H', J.yld i H x H' → gName j x (wipe σ vs) H' fun σ2 H2 => wipe σ2 vs = wipe σ vs ∧ tYes σ2 H2 fun b H3 =>
        if b = true then te σ2 H3 fun y H4 => ∃ acc, H4 D = some (.lst acc) ∧ acc.length < sizeLine ∧ Nx (upd H4 D (.lst (acc ++ [y]))) else Nx H3) := by
  obtain ⟨n1, n2⟩ := pl.new nD
  refine lc_all w hn hw (fun i acc H => Pool H p c ∧ Kp p c H1 H ∧ ∃ l : List (V × α), acc = l.map (·.1) ∧ (∀ e ∈ l, F H e.1 e.2) ∧ ∀ i e, l[i]? = some e → Pa i e.2)
    ⟨pl.put n1 n2, Kp.put (Kp.refl _) nD, [], rfl, fun _ h => by simp at h, fun _ _ h => by simp at h⟩ (fun i acc H _ h => hG H h.1 h.2.1) ?_ ?_
  · rintro i x acc H H' Ky hi hlen hD ⟨plH, kp, l, rfl, hF, hP⟩ y ky
    refine hs i x _ H H' Ky hi plH kp hD y fun y a H4 pl4 kp4 hF4 hPa => ?_
    have hD4 := kp4 _ _ hD n1 n2
    refine ky y H4 hD4 ⟨pl4.put n1 n2, (kp.trans kp4).put nD, l ++ [(y, a)], by rw [List.map_append] <;> rfl, fun e he => ?_, fun k e he => ?_⟩
    · have kd : Kd p c D H4 (upd H4 D (.lst (l.map (·.1) ++ [y]))) := fun b o e _ _ n3 => by rw [upd_ne n3]; exact e
      rcases List.mem_append.mp he with z | z
      · exact stab _ _ _ _ (stab _ _ _ _ (hF e z) fun b o e n1 n2 _ => kp4 b o e n1 n2) kd
      · rw [List.mem_singleton.mp z]
        exact stab _ _ _ _ hF4 kd
    · by_cases hk : k < l.length
      · rw [List.getElem?_append_left hk] at he
        exact hP k e he
      · have hk' : k = l.length := by
          have := (List.getElem?_eq_some_iff.mp he).1
          rw [List.length_append] at this
          simp at this
          omega
        rw [hk', List.getElem?_append_right (Nat.le_refl _), Nat.sub_self] at he
        have e1 : (y, a) = e := by simpa using he
        rw [← e1, hk', show l.length = i by rw [← hlen, List.length_map]]
        exact hPa
  · rintro acc H hD hlen ⟨plH, kp, l, rfl, hF, hP⟩
    exact hd l H (by rw [← hlen, List.length_map]) hD plH kp hF hP
end
theorem pick_of {l : List Nat} {d : Nat} (h : d < l.length) : atI (S l).cps.toList (d : Int) = some l[d] := atI_nat (List.getElem?_eq_getElem h)
/-- letters that are drawn, joined -/
def Lt (Pc : Nat → Prop) : Hp → V → Nat → Prop := fun _ v ch => v = .str (S [ch]) ∧ Pc ch
theorem lt_map {Pc : Nat → Prop} {l : List (V × Nat)} {H : Hp} (h : ∀ e ∈ l, Lt Pc H e.1 e.2) : l.map (·.1) = ((l.map (·.2)).map fun c => S [c]).map V.str := by
  rw [List.map_map, List.map_map]
  exact List.map_congr_left fun e he => (h e he).1
theorem lt_all {Pc : Nat → Prop} {l : List (V × Nat)} {H : Hp} (h : ∀ e ∈ l, Lt Pc H e.1 e.2) : ∀ ch ∈ l.map (·.2), Pc ch := fun ch hc => by
  obtain ⟨e, he, rfl⟩ := List.mem_map.mp hc
  exact (h e he).2
theorem sum_one (l : List Nat) : ((l.map fun c => S [c]).map (·.length)).sum = l.length := by
  induction l with
  | nil => rfl
  | cons c r ih => rw [List.map_cons, List.map_cons, List.sum_cons, ih, List.length_cons]; show 1 + r.length = r.length + 1; omega
theorem pick_aab {d : Nat} (h : d < 3) : ∃ ch, atI (Str.ofString "aab").cps.toList (d : Int) = some ch ∧ Sm ch := by
  match d, h with
  | 0, _ => exact ⟨97, by decide +kernel, .inl rfl⟩
  | 1, _ => exact ⟨97, by decide +kernel, .inl rfl⟩
  | 2, _ => exact ⟨98, by decide +kernel, .inr rfl⟩
theorem pick_ab {d : Nat} (h : d < 2) : ∃ ch, atI (Str.ofString "ab").cps.toList (d : Int) = some ch ∧ Sm ch := by
  match d, h with
  | 0, _ => exact ⟨97, by decide +kernel, .inl rfl⟩
  | 1, _ => exact ⟨98, by decide +kernel, .inr rfl⟩
theorem pick_sg {d : Nat} (h : d < 6) : ∃ ch, atI (Str.ofString "aabbAB").cps.toList (d : Int) = some ch ∧ Sg ch := by
  match d, h with
  | 0, _ => exact ⟨97, by decide +kernel, .inl rfl⟩
  | 1, _ => exact ⟨97, by decide +kernel, .inl rfl⟩
  | 2, _ => exact ⟨98, by decide +kernel, .inr (.inl rfl)⟩
  | 3, _ => exact ⟨98, by decide +kernel, .inr (.inl rfl)⟩
  | 4, _ => exact ⟨65, by decide +kernel, .inr (.inr (.inl rfl))⟩
  | 5, _ => exact ⟨66, by decide +kernel, .inr (.inr (.inr rfl))⟩
/-- a form of so many letters -/
def prDForm : Pr2 := fun a b H Q _ => ∃ (p c : Addr) (m : Nat), a = .ref p ∧ b = .int (m : Nat) ∧ m < 100 ∧ Pool H p c ∧ ∀ (u : List Nat) H', Fm m u → Pool H' p c → Kp p c H H' → Q (tx u) H'
section
variable {P : Program} {w : World} {K : PySem.W.Frag} {mg : Str → Option Value} {base : Heap}
theorem c_form (T : Tx K mg) : Cal P w K mg base 2 "_law_form" (sp2 prDForm) [] := by
  refine cal2 (N := ["_law_pool_here", "_law_most", "_law_k"]) (p1 := "_law_pool_here") (p2 := "_law_most") T.d_law_form (by decide +kernel) (fun _ _ _ _ _ _ us hl => match us, hl with | [_, _], _ => rfl) fun f cdv A outer s H a1 a2 Q E nd hr h => ?_
  obtain ⟨p, c, m, rfl, rfl, hm, pl, k⟩ := h
  refine ⟨_, pss_one (ps_ret (pe_join pe_str (pe_lc (own := [("_law_k", 2)]) (g := gName 2) (tt := tYes) rfl nd (pi_range1 (by rfl) T.m_range (pa_cons (pe_c (c_draw T) hr (by decide) (by rfl) (pa_cons (pv 0) (pa_cons (pe_op op_add (pv 1) pe_int) pa_nil))) pa_nil))
      (blkOk_by (own := [("_law_k", 2)]) (N := ["_law_pool_here", "_law_most", "_law_k"]) (sc := C8.fnScope (top 35)) (by decide +kernel)) (fun _ _ _ _ _ => pg_name (i := 2) nd rfl (Or.inl rfl)) (fun _ _ _ _ _ => pts_nil)
      (fun _ _ _ _ _ => pe_ix ix_str pe_str (pe_c (c_draw T) hr (by decide) (by rfl) (pa_cons (pv 0) (pa_cons pe_int pa_nil))) (fun _ _ => rfl))))), ?_⟩
  refine ⟨⟨S [], rfl⟩, _, rfl, _, rfl, _, _, rfl, rfl, _, _, rfl, p, c, m + 1, rfl, rfl, by omega, by omega, pl, fun n H1 hn pl1 kp1 => ?_⟩
  refine ⟨n, rfl, by omega, by omega, fun D nD => ?_⟩
  refine lc_drawn (p := p) (c := c) (walk_range (lo := 0) (n := n)) (by omega) (fun _ => rfl) (Lt Sm) (fun _ _ => True) (fun _ _ _ _ h _ => h) pl1 nD (fun _ _ _ => trivial) ?_ ?_
  · rintro i x acc H2 H3 Ky hi pl2 kp2 hD ⟨rfl, rfl⟩ ky
    refine ⟨_, rfl, _, _, rfl, p, c, 3, rfl, rfl, by omega, by omega, pl2, fun d H4 hd pl4 kp4 => ?_⟩
    obtain ⟨ch, e, hs⟩ := pick_aab hd
    exact ⟨_, _, ch, rfl, rfl, by show 3 ≤ sizeLine; exact sz (by omega), e, ky _ ch H4 pl4 kp4 ⟨rfl, hs⟩ trivial⟩
  · rintro l H2 hlen hD pl2 kp2 hF _
    rw [lt_map hF] at hD
    refine ⟨S [], D, (l.map (·.2)).map fun c => S [c], rfl, rfl, .inl (SqL.of hD), ?_, ?_⟩
    · rw [sum_one]
      show _ + _ * 0 ≤ _
      rw [List.length_map]
      omega
    · rw [join1]
      exact k _ H2 ⟨by rw [List.length_map]; omega, lt_all hF⟩ pl2 (kp1.trans kp2)
def prSize : Pr2 := fun a b H Q _ => ∃ (p c : Addr) (m : Nat), a = .ref p ∧ b = .int (m : Nat) ∧ 0 < m ∧ m < 100 ∧ Pool H p c ∧ ∀ (n : Nat) H', 1 ≤ n → n ≤ m → Pool H' p c → Kp p c H H' → Q (.int (n : Nat)) H'
theorem c_size (T : Tx K mg) : Cal P w K mg base 2 "_law_size" (sp2 prSize) [] := by
  refine cal2 (N := ["_law_pool_here", "_law_most"]) (p1 := "_law_pool_here") (p2 := "_law_most") T.d_law_size (by decide +kernel) (fun _ _ _ _ _ _ us hl => match us, hl with | [_, _], _ => rfl) fun f cdv A outer s H a1 a2 Q E nd hr h => ?_
  obtain ⟨p, c, m, rfl, rfl, hm, hM, pl, k⟩ := h
  refine ⟨_, pss_one (ps_ret (pe_op op_add pe_int (pe_callB (call_max2 rfl) (by rfl) T.m_max bo_max (pa_cons (pe_c (c_draw T) hr (by decide) (by rfl) (pa_cons (pv 0) (pa_cons (pv 1) pa_nil))) (pa_cons (pe_c (c_draw T) hr (by decide) (by rfl) (pa_cons (pv 0) (pa_cons (pv 1) pa_nil))) pa_nil))))), ?_⟩
  refine ⟨_, rfl, _, rfl, _, _, rfl, p, c, m, rfl, rfl, hm, by omega, pl, fun a H1 ha pl1 kp1 => ?_⟩
  refine ⟨_, rfl, _, rfl, _, _, rfl, p, c, m, rfl, rfl, hm, by omega, pl1, fun b H2 hb pl2 kp2 => ?_⟩
  refine ⟨_, _, rfl, _, _, rfl, rfl, ?_⟩
  have e : (1 + (if (b : Int) > (a : Int) then (b : Int) else (a : Int))) = ((1 + max a b : Nat) : Int) := by
    split <;> omega
  show Q (.int (1 + (if (b : Int) > (a : Int) then (b : Int) else (a : Int)))) H2
  rw [e]
  exact k _ H2 (by omega) (by omega) pl2 (kp1.trans kp2)
def prSigned : Pr1 := fun a H Q _ => ∃ (p c : Addr), a = .ref p ∧ Pool H p c ∧ ∀ (u : List Nat) H', Wd u → u.length ≤ 4 → Pool H' p c → Kp p c H H' → Q (tx u) H'
theorem c_signed (T : Tx K mg) : Cal P w K mg base 2 "_law_signed" (sp1 prSigned) [] := by
  refine cal1 (N := ["_law_pool_here", "_law_k"]) (p1 := "_law_pool_here") T.d_law_signed (by decide +kernel) (fun _ _ _ _ _ _ us hl => match us, hl with | [_], _ => rfl) fun f cdv A outer s H a1 Q E nd hr h => ?_
  obtain ⟨p, c, rfl, pl, k⟩ := h
  refine ⟨_, pss_one (ps_ret (pe_join pe_str (pe_lc (own := [("_law_k", 1)]) (g := gName 1) (tt := tYes) rfl nd (pi_range1 (by rfl) T.m_range (pa_cons (pe_c (c_draw T) hr (by decide) (by rfl) (pa_cons (pv 0) (pa_cons pe_int pa_nil))) pa_nil))
      (blkOk_by (own := [("_law_k", 1)]) (N := ["_law_pool_here", "_law_k"]) (sc := C8.fnScope (top 41)) (by decide +kernel)) (fun _ _ _ _ _ => pg_name (i := 1) nd rfl (Or.inl rfl)) (fun _ _ _ _ _ => pts_nil)
      (fun _ _ _ _ _ => pe_ix ix_str pe_str (pe_c (c_draw T) hr (by decide) (by rfl) (pa_cons (pv 0) (pa_cons pe_int pa_nil))) (fun _ _ => rfl))))), ?_⟩
  refine ⟨⟨S [], rfl⟩, _, rfl, _, _, rfl, p, c, 4, rfl, rfl, by omega, by omega, pl, fun n H1 hn pl1 kp1 => ?_⟩
  refine ⟨n, rfl, by omega, by omega, fun D nD => ?_⟩
  refine lc_drawn (p := p) (c := c) (walk_range (lo := 0) (n := n)) (by omega) (fun _ => rfl) (Lt Sg) (fun _ _ => True) (fun _ _ _ _ h _ => h) pl1 nD (fun _ _ _ => trivial) ?_ ?_
  · rintro i x acc H2 H3 Ky hi pl2 kp2 hD ⟨rfl, rfl⟩ ky
    refine ⟨_, rfl, _, _, rfl, p, c, 6, rfl, rfl, by omega, by omega, pl2, fun d H4 hd pl4 kp4 => ?_⟩
    obtain ⟨ch, e, hs⟩ := pick_sg hd
    exact ⟨_, _, ch, rfl, rfl, by show 6 ≤ sizeLine; exact sz (by omega), e, ky _ ch H4 pl4 kp4 ⟨rfl, hs⟩ trivial⟩
  · rintro l H2 hlen hD pl2 kp2 hF _
    rw [lt_map hF] at hD
    refine ⟨S [], D, (l.map (·.2)).map fun c => S [c], rfl, rfl, .inl (SqL.of hD), ?_, ?_⟩
    · rw [sum_one]
      show _ + _ * 0 ≤ _
      rw [List.length_map]
      omega
    · rw [join1]
      exact k _ H2 (lt_all hF) (by rw [List.length_map]; omega) pl2 (kp1.trans kp2)
end
end FtP
set_option Elab.async false
set_option linter.all false
set_option maxRecDepth 100000
set_option maxHeartbeats 4000000
namespace FtP
open PySem PySem.Spec PyProof.Rows L2 SX Ft FtT FtR C8
/-! ### a comprehension in a comprehension: the outer one's scope -/
def exAt (b : List Stmt) (n : Nat) : Option Expr := match b[n]? with
  | some (.Return e _) => e
  | some (.Assign _ e _) => some e
  | _ => none
def lcSc : Option Expr → Scope
  | some (.ListComp _ _ s _) => s
  | some (.Call _ [.ListComp _ _ s _] _ _) => s
  | some (.Call _ [_, .ListComp _ _ s _] _ _) => s
  | _ => { kind := .function, names := [], isGenerator := false, isCoroutine := false }
theorem look_re {env : Env} : ∀ {names : List (Str × NameKind)} {x : Str}, names.lookup x = some .cell ∨ names.lookup x = some .free →
    (names.map fun (n, k) => if (k == NameKind.free && env.scope.kind == .function && env.kindOf n == some .cell) then (n, NameKind.cell) else (n, k)).lookup x = some .cell ∨
    (names.map fun (n, k) => if (k == NameKind.free && env.scope.kind == .function && env.kindOf n == some .cell) then (n, NameKind.cell) else (n, k)).lookup x = some .free
  | [], _, h => by simp at h
  | (n, k) :: r, x, h => by
    have ih := @look_re env r x
    rw [List.map_cons]
    show List.lookup x ((if (k == NameKind.free && env.scope.kind == .function && env.kindOf n == some .cell) = true then (n, NameKind.cell) else (n, k)) :: _) = _ ∨ List.lookup x ((if (k == NameKind.free && env.scope.kind == .function && env.kindOf n == some .cell) = true then (n, NameKind.cell) else (n, k)) :: _) = _
    cases hx : x == n with
    | true =>
      have h' : k = .cell ∨ k = .free := by
        rw [List.lookup_cons, hx] at h
        simpa using h
      split
      · left
        rw [List.lookup_cons, hx]
      · rw [List.lookup_cons, hx]
        rcases h' with rfl | rfl
        · exact .inl rfl
        · exact .inr rfl
    | false =>
      rw [List.lookup_cons, hx] at h
      have := ih h
      split
      · rw [List.lookup_cons, hx]
        exact this
      · rw [List.lookup_cons, hx]
        exact this
theorem blk_re {N : List Str} {sc scope : Scope} {env : Env} {own : List (Str × Nat)} (h : blkC N sc scope own = true) : BlkOk N (relabel sc env) scope own := by
  obtain ⟨h1, h2, h3, h4, h5⟩ := blkOk_by h
  exact ⟨h1, h2, h3, fun y hy e => look_re (h4 y hy e), h5⟩
theorem pi_listK {X : Cx} {tg l : Expr} {tl : TE} {K : PySem.W.Frag} (h : X.K = K) (hl : PE X l tl) : PI X tg l (iList K tl) := by
  rw [← h]
  exact pi_list hl
def rTupOf (K : PySem.W.Frag) : List V → Hp → VK → Prop := fun xs H Q => ∃ p ys, xs = [.ref p] ∧ ((SqL K H p ys ∧ ∀ l, H l = none → Q (.ref l) (upd H l (.tup ys))) ∨ (SqT K H p ys ∧ Q (.ref p) H))
theorem call_tupK {X : Cx} {K : PySem.W.Frag} (h : X.K = K) : CallR X (.type "tuple") (rTupOf K) := by
  rw [← h]
  exact call_tuple_of
/-- a list of lists of forms and holes -/
structure ListsAt (H : Hp) (a : Addr) (rs : List Addr) (B : Bx) : Prop where
  at_ : H a = some (.lst (rs.map V.ref))
  len : rs.length = B.length
  row : ∀ (i : Nat) (r : Addr) (row : List (Option (List Nat))), rs[i]? = some r → B[i]? = some row → H r = some (.lst (row.map bv))
structure ListsOk (p c : Addr) (H : Hp) (a : Addr) (rs : List Addr) (B : Bx) : Prop where
  ls : ListsAt H a rs B
  n1 : a ≠ p
  n2 : a ≠ c
  nr : ∀ r ∈ rs, r ≠ p ∧ r ≠ c
theorem ListsOk.kp {p c : Addr} {H H' : Hp} {a : Addr} {rs : List Addr} {B : Bx} (x : ListsOk p c H a rs B) (k : Kp p c H H') : ListsOk p c H' a rs B :=
  ⟨⟨k _ _ x.ls.at_ x.n1 x.n2, x.ls.len, fun i r row h1 h2 => k _ _ (x.ls.row i r row h1 h2) (x.nr r (List.mem_of_getElem? h1)).1 (x.nr r (List.mem_of_getElem? h1)).2⟩, x.n1, x.n2, x.nr⟩
theorem Pool.ne_tup {H : Hp} {p c q : Addr} {xs : List V} (h : Pool H p c) (e : H q = some (.tup xs)) : q ≠ p ∧ q ≠ c := by
  obtain ⟨a, b, ns, h1, h2⟩ := h
  exact ⟨tup_ne_lst e h1, tup_ne_lst e h2⟩
theorem BoxesAt.kp {p c : Addr} {H H' : Hp} {a : Addr} {rs : List Addr} {B : Bx} (x : BoxesAt H a rs B) (pl : Pool H p c) (k : Kp p c H H') : BoxesAt H' a rs B :=
  ⟨k _ _ x.at_ (pl.ne_tup x.at_).1 (pl.ne_tup x.at_).2, x.len, fun i r row h1 h2 => k _ _ (x.row i r row h1 h2) (pl.ne_tup (x.row i r row h1 h2)).1 (pl.ne_tup (x.row i r row h1 h2)).2⟩
/-- a box's text or hole -/
def Fb (n : Nat) : Hp → V → Option (List Nat) → Prop := fun _ v o => v = bv o ∧ ∀ u, o = some u → Fm n u
/-- a row as a tuple -/
def Fr (p c D : Addr) (n W : Nat) : Hp → V → List (Option (List Nat)) → Prop := fun H v row => ∃ q, v = .ref q ∧ H q = some (.tup (row.map bv)) ∧ q ≠ p ∧ q ≠ c ∧ q ≠ D ∧ row.length = W ∧ ∀ u, some u ∈ row → Fm n u
theorem fb_map {n : Nat} {l : List (V × Option (List Nat))} {H : Hp} (h : ∀ e ∈ l, Fb n H e.1 e.2) : l.map (·.1) = (l.map (·.2)).map bv := by
  rw [List.map_map]
  exact List.map_congr_left fun e he => (h e he).1
theorem fb_all {n : Nat} {l : List (V × Option (List Nat))} {H : Hp} (h : ∀ e ∈ l, Fb n H e.1 e.2) : ∀ u, some u ∈ l.map (·.2) → Fm n u := fun u hu => by
  obtain ⟨e, he, e2⟩ := List.mem_map.mp hu
  exact (h e he).2 u e2
/-- the rows' tuples, a tuple of them -/
theorem fr_boxes {p c D q0 : Addr} {n W : Nat} {H : Hp} {l : List (V × List (Option (List Nat)))} (h : ∀ e ∈ l, Fr p c D n W H e.1 e.2) (nq : H q0 = none) :
    ∃ rs, l.map (·.1) = rs.map V.ref ∧ BoxesAt (upd H q0 (.tup (l.map (·.1)))) q0 rs (l.map (·.2)) := by
  have key : ∃ rs : List Addr, l.map (·.1) = rs.map V.ref ∧ rs.length = l.length ∧ ∀ (i : Nat) (r : Addr) (row : List (Option (List Nat))), rs[i]? = some r → (l.map (·.2))[i]? = some row → H r = some (.tup (row.map bv)) := by
    clear nq
    induction l with
    | nil => exact ⟨[], rfl, rfl, fun i r row h _ => by simp at h⟩
    | cons e l ih =>
      obtain ⟨rs, e1, e2, e3⟩ := ih fun e he => h e (List.mem_cons_of_mem _ he)
      obtain ⟨q, f1, f2, _⟩ := h e List.mem_cons_self
      refine ⟨q :: rs, by rw [List.map_cons, e1, f1] <;> rfl, by rw [List.length_cons, e2] <;> rfl, fun i r row h1 h2 => ?_⟩
      cases i with
      | zero =>
        have a1 : q = r := by simpa using h1
        have a2 : e.2 = row := by simpa using h2
        rw [← a1, ← a2]
        exact f2
      | succ i => exact e3 i r row (by simpa using h1) (by simpa using h2)
  obtain ⟨rs, e1, e2, e3⟩ := key
  refine ⟨rs, e1, by rw [upd_same, e1], by rw [e2, List.length_map], fun i r row h1 h2 => ?_⟩
  have := e3 i r row h1 h2
  rw [upd_ne (ne_of_none this nq)]
  exact this
theorem fr_wf {p c D : Addr} {n W : Nat} {H : Hp} {l : List (V × List (Option (List Nat)))} (h : ∀ e ∈ l, Fr p c D n W H e.1 e.2) (h1 : 1 ≤ l.length) (h2 : l.length ≤ 12) (w1 : 1 ≤ W) (w2 : W ≤ 12) : Wf n (l.map (·.2)) W where
  h1 := by rw [List.length_map]; exact h1
  h2 := by rw [List.length_map]; exact h2
  w1 := w1
  w2 := w2
  rows := fun row hr => by
    obtain ⟨e, he, rfl⟩ := List.mem_map.mp hr
    obtain ⟨_, _, _, _, _, _, h, _⟩ := h e he
    exact h
  forms := fun row hr => by
    obtain ⟨e, he, rfl⟩ := List.mem_map.mp hr
    obtain ⟨_, _, _, _, _, _, _, h⟩ := h e he
    exact h
def prHoles : Pr2 := fun a b H Q _ => ∃ (p c l : Addr) (rs : List Addr) (B : Bx) (n W : Nat), a = .ref p ∧ b = .ref l ∧ Pool H p c ∧ ListsOk p c H l rs B ∧ Wf n B W ∧
  ∀ t rs' B' H', Pool H' p c → Kp p c H H' → BoxesAt H' t rs' B' → Wf n B' W → Q (.ref t) H'
section
variable {P : Program} {w : World} {K : PySem.W.Frag} {mg : Str → Option Value} {base : Heap}
theorem c_holes (T : Tx K mg) : Cal P w K mg base 2 "_law_holes" (sp2 prHoles) [] := by
  refine cal2 (N := ["_law_pool_here", "_law_boxes_here", "_law_chance", "_law_row", "_law_box"]) (p1 := "_law_pool_here") (p2 := "_law_boxes_here") T.d_law_holes (by decide +kernel) (fun _ _ _ _ _ _ us hl => match us, hl with | [_, _], _ => rfl) fun f cdv A outer s H a1 a2 Q E nd hr h => ?_
  obtain ⟨p, c, l, rs, B, n, W, rfl, rfl, pl, ls, wf, k⟩ := h
  refine ⟨_, pss_cons (ps_set (i := 2) nd rfl (.inr rfl) (pe_ix ix_list (pe_lst (pa_cons pe_int (pa_cons pe_int (pa_cons pe_int (pa_cons pe_int (pa_cons pe_int pa_nil)))))) (pe_c (c_draw T) hr (by decide) (by rfl) (pa_cons (pv 0) (pa_cons pe_int pa_nil))) (fun _ _ => rfl)))
    (pss_one (ps_ret (pe_callTy call_tuple_of (by rfl) T.m_tuple bo_tuple (pa_cons (pe_lc (own := [("_law_row", 3)]) (g := gName 3) (tt := tYes) rfl nd (pi_list (pv 1))
      (blkOk_by (own := [("_law_row", 3)]) (N := ["_law_pool_here", "_law_boxes_here", "_law_chance", "_law_row", "_law_box"]) (sc := C8.fnScope (top 36)) (by decide +kernel)) (fun _ _ _ _ _ => pg_name (i := 3) nd rfl (Or.inl rfl)) (fun _ _ _ _ _ => pts_nil)
      (fun _ _ _ _ _ => pe_callTy (call_tupK (K := K) rfl) (by rfl) T.m_tuple bo_tuple (pa_cons (pe_lc (own := [("_law_box", 4)]) (g := gName 4) (tt := tYes) rfl nd (pi_listK (K := K) rfl (pv 3))
        (blk_re (own := [("_law_box", 4)]) (N := ["_law_pool_here", "_law_boxes_here", "_law_chance", "_law_row", "_law_box"]) (sc := lcSc (exAt (C8.fnBody (top 36)) 1)) (by decide +kernel)) (fun _ _ _ _ _ => pg_name (i := 4) nd rfl (Or.inl rfl)) (fun _ _ _ _ _ => pts_nil)
        (fun _ _ _ _ _ => pe_ifExp (pt_cmpR op_lt (pe_c (c_draw T) hr (by decide) (by rfl) (pa_cons (pv 0) (pa_cons pe_int pa_nil))) (pv 2) (nomark _)) pe_non (pv 4))) pa_nil))) pa_nil)))), ?_⟩
  refine ⟨by show 5 ≤ sizeLine; exact sz (by omega), fun l0 nl0 => ?_⟩
  obtain ⟨m1, m2⟩ := pl.new nl0
  have pl0 : Pool (upd H l0 (.lst [.int 0, .int 1, .int 2, .int 3, .int 5])) p c := pl.put m1 m2
  have kp0 : Kp p c H (upd H l0 (.lst [.int 0, .int 1, .int 2, .int 3, .int 5])) := Kp.put (Kp.refl _) nl0
  have hl0 : (upd H l0 (.lst [.int 0, .int 1, .int 2, .int 3, .int 5])) l0 = some (.lst ([0, 1, 2, 3, 5].map V.int)) := upd_same
  generalize upd H l0 (.lst [.int 0, .int 1, .int 2, .int 3, .int 5]) = H0 at pl0 kp0 hl0
  refine ⟨_, rfl, _, _, rfl, p, c, 5, rfl, rfl, by omega, by omega, pl0, fun d H1 hd pl1 kp1 => ?_⟩
  obtain ⟨ch, hch⟩ : ∃ ch : Int, ([0, 1, 2, 3, 5] : List Int)[d]? = some ch := ⟨_, List.getElem?_eq_getElem (by show d < 5; omega)⟩
  refine ⟨l0, _, (d : Nat), _, rfl, rfl, SqL.of (kp1 _ _ hl0 m1 m2), atI_nat (at_map V.int hch), ?_⟩
  have ls1 := (ls.kp kp0).kp kp1
  refine ⟨_, rfl, l, rfl, ⟨_, SqL.of ls1.ls.at_⟩, fun D nD => ?_⟩
  have hB1 := wf.h1
  have hB2 := wf.h2
  have hW2 := wf.w2
  have lB := ls.ls.len
  refine lc_drawn (p := p) (c := c) (walk_list (xs := rs.map V.ref)) (by rw [List.length_map]; omega) (fun _ => rfl) (Fr p c D n W) (fun _ _ => True)
    (fun H H' v row h kd => by obtain ⟨q, e1, e2, e3, e4, e5, e6⟩ := h; exact ⟨q, e1, kd _ _ e2 e3 e4 e5, e3, e4, e5, e6⟩) pl1 nD (fun H' _ kp' => SqL.of (ls1.kp kp').ls.at_) ?_ ?_
  · rintro i x acc H2 H3 Ky hi pl2 kp2 hD ⟨rfl, hx⟩ ky
    obtain ⟨r, hri, rfl⟩ := map_at hx
    have hiB : i < B.length := by rw [← lB]; exact (List.getElem?_eq_some_iff.mp hri).1
    have hBi : B[i]? = some B[i] := List.getElem?_eq_getElem hiB
    have hrow := (ls1.kp kp2).ls.row i r _ hri hBi
    have hrm : B[i] ∈ B := List.getElem_mem hiB
    have hrl := wf.rows _ hrm
    have hne := ls.nr r (List.mem_of_getElem? hri)
    generalize B[i] = row at hrow hrm hrl
    refine ⟨_, rfl, r, rfl, ⟨_, SqL.of hrow⟩, fun D2 nD2 => ?_⟩
    refine lc_drawn (p := p) (c := c) (walk_list (xs := row.map bv)) (by rw [List.length_map]; omega) (fun _ => rfl) (Fb n) (fun _ _ => True) (fun _ _ _ _ h _ => h) pl2 nD2 (fun H' _ kp' => SqL.of (kp' _ _ hrow hne.1 hne.2)) ?_ ?_
    · rintro j y acc2 H4 H5 Ky2 hj pl4 kp4 hD2 ⟨rfl, hy⟩ ky2
      obtain ⟨o, ho, rfl⟩ := map_at hy
      refine ⟨_, rfl, _, _, rfl, p, c, 6, rfl, rfl, by omega, by omega, pl4, fun d H6 hd pl6 kp6 => ?_⟩
      refine ⟨_, rfl, _, _, rfl, rfl, _, rfl, ?_⟩
      refine ite2 (fun _ => ?_) (fun _ => ?_)
      · exact ky2 _ none H6 pl6 kp6 ⟨rfl, fun u e => by cases e⟩ trivial
      · exact ⟨_, rfl, ky2 _ o H6 pl6 kp6 ⟨rfl, fun u e => wf.forms row hrm u (by rw [← e]; exact List.mem_of_getElem? ho)⟩ trivial⟩
    · rintro l2 H4 hlen hD2 pl4 kp4 hF _
      have hD4 := kp4 _ _ hD (pl1.new nD).1 (pl1.new nD).2
      refine ⟨D2, _, rfl, .inl ⟨SqL.of hD2, fun q nq => ?_⟩⟩
      obtain ⟨q1, q2⟩ := pl4.new nq
      refine ky (.ref q) (l2.map (·.2)) _ (pl4.put q1 q2) (kp4.put (pl4.none kp4 nq)) ⟨q, rfl, by rw [upd_same, fb_map hF], q1, q2, (ne_of_none hD4 nq).symm, by rw [List.length_map, hlen, List.length_map]; exact hrl, fb_all hF⟩ trivial
  · rintro l3 H2 hlen hD pl2 kp2 hF _
    refine ⟨D, _, rfl, .inl ⟨SqL.of hD, fun q nq => ?_⟩⟩
    obtain ⟨rs', e1, bx⟩ := fr_boxes hF nq
    obtain ⟨q1, q2⟩ := pl2.new nq
    have kpa := (kp0.trans kp1).trans kp2
    rw [List.length_map] at hlen
    exact k q rs' _ _ (pl2.put q1 q2) (kpa.put (pl2.none kpa nq)) bx (fr_wf hF (by omega) (by omega) wf.w1 wf.w2)
end
end FtP
set_option Elab.async false
set_option linter.all false
set_option maxRecDepth 100000
set_option maxHeartbeats 4000000
namespace FtP
open PySem PySem.Spec PyProof.Rows L2 SX Ft FtT FtR C8
theorem low_eq {d c : Nat} (hd : Sg d) (hc : Sg c) (hn : d ≠ c) : decide (V.str (Txt.lower (S [d])) = V.str (Txt.lower (S [c]))) = decide (d = sw c) := by
  rcases hd with rfl | rfl | rfl | rfl <;> rcases hc with rfl | rfl | rfl | rfl <;> first | exact absurd rfl hn | decide +kernel
section
variable {P : Program} {w : World} {K : PySem.W.Frag} {mg : Str → Option Value} {base : Heap}
theorem c_struck (T : Tx K mg) : Cal P w K mg base 1 "_law_struck" (sp1 prStrike) [] := by
  refine cal1 (N := ["_law_row", "_law_left", "_law_sign"]) (p1 := "_law_row") T.d_law_struck (by decide +kernel) (fun _ _ _ _ _ _ us hl => match us, hl with | [_], _ => rfl) fun f cdv A outer s H a1 Q E nd hr h => ?_
  obtain ⟨w, rfl, hw, hl, k⟩ := h
  refine ⟨_, pss_cons (ps_set (i := 1) nd rfl (.inl rfl) (pe_lst pa_nil))
    (pss_cons (ps_for PassesOwn.never rfl (pi_str (pv 0)) (pg_name (i := 2) nd rfl (.inl rfl))
      (pss_one (ps_if (PW.pt (pw_and (pt_cmpR op_gt (pe_callB call_len_seq (by rfl) T.m_len boot_len (pa_cons (pv 1) pa_nil)) pe_int (nomark _))
          (pw_and (pt_cmpR op_ne (pe_ix ix_list (pv 1) (pe_un un_neg pe_int) (fun _ _ => rfl)) (pv 2) (nomark _))
          (pw_and1 (pt_cmpR op_eq (pe_m0 F.slot_str_lower F.type_str_lower mt_lower (pe_ix ix_list (pv 1) (pe_un un_neg pe_int) (fun _ _ => rfl))) (pe_m0 F.slot_str_lower F.type_str_lower mt_lower (pv 2)) (nomark _))))))
        (pss_one (ps_expr (pe_bm0 F.plainAttrs_list F.slot_list_pop F.type_list_pop mt_pop (pv 1))))
        (pss_one (ps_expr (pe_bm F.plainAttrs_list F.slot_list_append F.type_list_append mt_append (pv 1) (pa_cons (pv 2) pa_nil)))))))
    (pss_one (ps_ret (pe_join pe_str (pv 1))))), ?_⟩
  refine ⟨by show 0 ≤ sizeLine; omega, fun l nl => ?_⟩
  refine ⟨_, rfl, S w, rfl, for_it walk_str (fun i σ H1 => ∃ v, σ = [some (.str (S w)), some (.ref l), v] ∧ Same H H1 ∧ H1 l = some (.lst (sig (act (w.take i) [])))) ?_ (fun _ _ _ _ _ => trivial) ?_ ?_⟩
  · exact ⟨none, rfl, fun b o e => by rw [upd_ne (ne_of_none e nl)]; exact e, upd_same⟩
  · rintro i x σ H2 H1 hi ⟨v, rfl, sm, hl1⟩ ⟨rfl, c, hc, rfl⟩
    have hc' : w[i]? = some c := by simpa using hc
    have hsg : Sg c := hw c (List.mem_of_getElem? hc')
    have hi' : i < w.length := (List.getElem?_eq_some_iff.mp hc').1
    have etk : w.take (i + 1) = w.take i ++ [c] := by rw [List.take_succ, hc'] <;> rfl
    have eact : act (w.take (i + 1)) [] = push (act (w.take i) []) c := by rw [etk, act_snoc]
    have hle : (act (w.take i) []).length ≤ w.length := by
      have := act_len (w.take i) []
      rw [List.length_take] at this
      simp at this
      omega
    obtain ⟨st, est⟩ : ∃ st, st = act (w.take i) [] := ⟨_, rfl⟩
    rw [← est] at hl1 eact hle
    refine ⟨_, rfl, l, _, rfl, .inl (SqL.of hl1), _, _, rfl, rfl, _, rfl, ?_⟩
    have fin : ∀ st', push st c = st' → ∃ v, [some (V.str (S w)), some (V.ref l), some (V.str ⟨#[c]⟩)] = [some (V.str (S w)), some (V.ref l), v] ∧ Same H (upd H1 l (.lst (sig st'))) ∧ (upd H1 l (.lst (sig st'))) l = some (.lst (sig (act (w.take (i + 1)) []))) := fun st' e =>
      ⟨_, rfl, fun b o q => by rw [upd_ne (ne_of_none q nl)]; exact sm b o q, by rw [upd_same, eact, e]⟩
    cases st with
    | nil =>
      refine iteF (iteF ?_)
      refine ⟨_, rfl, .inl ⟨rfl, _, SqL.of hl1⟩, _, rfl, l, _, _, rfl, rfl, hl1, by show 0 < sizeLine; rw [sizeLine_eq]; omega, ?_⟩
      exact fin [c] rfl
    | cons d r =>
      have e1 : decide ((0 : Int) < ((sig (d :: r)).length : Int)) = true := by rw [sig_len]; exact decide_eq_true (by simp)
      rw [e1]
      refine iteT ?_
      have hds : Sg d := by
        have hr : Red (act (w.take i) []) := act_red (fun x hx => hw x (List.mem_of_mem_take hx)) red_nil
        rw [← est] at hr
        exact hr.head
      have hat : atI (sig (d :: r)) (-1) = some (V.str (S [d])) := by rw [sig_cons]; exact atI_last _ _
      refine ⟨_, rfl, 1, rfl, l, _, _, V.str (S [d]), rfl, rfl, SqL.of hl1, hat, _, rfl, rfl, _, rfl, ?_⟩
      rw [dec_S]
      by_cases e0 : [d] = [c]
      · have e0 : d = c := (List.cons.inj e0).1
        rw [decide_eq_true (by rw [e0])]
        refine iteF (iteF ?_)
        refine ⟨_, rfl, .inl ⟨rfl, _, SqL.of hl1⟩, _, rfl, l, _, _, rfl, rfl, hl1, by rw [sig_len, sizeLine_eq]; omega, ?_⟩
        have := fin (c :: d :: r) (by rw [push_cons, if_neg (fun z => sw_ne hsg (z.symm.trans e0))])
        rw [sig_cons c] at this
        exact this
      · rw [decide_eq_false e0]
        refine iteT ?_
        refine ⟨_, rfl, 1, rfl, l, _, _, V.str (S [d]), rfl, rfl, SqL.of hl1, hat, ⟨_, rfl⟩, S [d], rfl, rfl, by show 1 ≤ 5592405; omega, ?_⟩
        refine ⟨_, rfl, ⟨_, rfl⟩, S [c], rfl, rfl, by show 1 ≤ 5592405; omega, rfl, _, rfl, ?_⟩
        rw [low_eq hds hsg (fun z => e0 (by rw [z]))]
        by_cases e : d = sw c
        · rw [decide_eq_true e]
          refine iteT ?_
          refine ⟨_, rfl, .inl ⟨rfl, _, SqL.of hl1⟩, l, sig r ++ [V.str (S [d])], V.str (S [d]), rfl, rfl, by rw [hl1, sig_cons], by simp, ?_⟩
          rw [List.dropLast_concat]
          exact fin r (by rw [push_cons, if_pos e])
        · rw [decide_eq_false e]
          refine iteF ?_
          refine ⟨_, rfl, .inl ⟨rfl, _, SqL.of hl1⟩, _, rfl, l, _, _, rfl, rfl, hl1, by rw [sig_len, sizeLine_eq]; omega, ?_⟩
          have := fin (c :: d :: r) (by rw [push_cons, if_neg e])
          rw [sig_cons c] at this
          exact this
  · rintro σ H1 ⟨v, rfl, sm, hl1⟩
    have e0 : (S w).cps.size = w.length := by simp
    rw [e0, List.take_length] at hl1
    refine ⟨⟨S [], rfl⟩, _, rfl, S [], l, (nf w).map fun c => S [c], rfl, rfl, .inl ?_, ?_, ?_⟩
    · rw [List.map_map]
      exact SqL.of hl1
    · have h1 : ∀ l : List Nat, ((l.map fun c => S [c]).map (·.length)).sum = l.length := by
        intro l
        induction l with
        | nil => rfl
        | cons c r ih => rw [List.map_cons, List.map_cons, List.sum_cons, ih, List.length_cons]; show 1 + r.length = r.length + 1; omega
      have h2 := nf_len w
      rw [h1]
      show _ + _ * 0 ≤ _
      omega
    · rw [join1]
      exact k H1 sm
theorem low1 {c : Nat} (h : Sg c) : (Txt.lower (S [c]) = S [c] ∧ Txt.upper (S [c]) = S [sw c]) ∨ (Txt.lower (S [c]) = S [sw c] ∧ sw c ≠ c) := by
  rcases h with rfl | rfl | rfl | rfl
  · exact .inl ⟨by decide +kernel, by decide +kernel⟩
  · exact .inl ⟨by decide +kernel, by decide +kernel⟩
  · exact .inr ⟨by decide +kernel, by decide⟩
  · exact .inr ⟨by decide +kernel, by decide⟩
theorem c_undone (T : Tx K mg) : Cal P w K mg base 1 "_law_undone" (sp1 prInverse) [] := by
  refine cal1 (N := ["_law_row", "_law_sign"]) (p1 := "_law_row") T.d_law_undone (by decide +kernel) (fun _ _ _ _ _ _ us hl => match us, hl with | [_], _ => rfl) fun f cdv A outer s H a1 Q E nd hr h => ?_
  obtain ⟨w, rfl, hw, hl, k⟩ := h
  refine ⟨_, pss_one (ps_ret (pe_join pe_str (pe_lc (own := [("_law_sign", 1)]) (g := gName 1) (tt := tYes) rfl nd (pi_str (pe_revS (pv 0)))
      (blkOk_by (own := [("_law_sign", 1)]) (N := ["_law_row", "_law_sign"]) (sc := C8.fnScope (top 43)) (by decide +kernel)) (fun _ _ _ _ _ => pg_name (i := 1) nd rfl (Or.inl rfl)) (fun _ _ _ _ _ => pts_nil)
      (fun _ _ _ _ _ => pe_ifExp (pt_cmpR op_ne (pv 1) (pe_m0 F.slot_str_lower F.type_str_lower mt_lower (pv 1)) (nomark _)) (pe_m0 F.slot_str_lower F.type_str_lower mt_lower (pv 1)) (pe_m0 F.slot_str_upper F.type_str_upper mt_upper (pv 1)))))), ?_⟩
  refine ⟨⟨S [], rfl⟩, _, rfl, w, rfl, by omega, _, rfl, fun D nD => ?_⟩
  have e0 : (S w.reverse).cps.size = w.length := by simp
  refine lc_all walk_str (by rw [e0]; exact hl) (fun _ => rfl) (fun i acc H1 => Same H H1 ∧ acc = ((w.reverse.take i).map sw).map fun c => V.str (S [c])) ⟨Same.put (Same.refl H) nD, rfl⟩ (fun _ _ _ _ _ => trivial) ?_ ?_
  · rintro i x acc H2 H1 Ky hi hlen hD ⟨sm, rfl⟩ ⟨rfl, c, hc, rfl⟩ ky
    have hc' : w.reverse[i]? = some c := by simpa using hc
    have hsg : Sg c := hw.rev c (List.mem_of_getElem? hc')
    have etk : w.reverse.take (i + 1) = w.reverse.take i ++ [c] := by rw [List.take_succ, hc'] <;> rfl
    have fin : Ky (V.str (S [sw c])) H1 := ky _ H1 hD ⟨Same.put sm nD, by rw [etk, List.map_append, List.map_append] <;> rfl⟩
    refine ⟨_, rfl, _, rfl, ⟨_, rfl⟩, S [c], rfl, rfl, by show 1 ≤ 5592405; omega, rfl, _, rfl, ?_⟩
    rcases low1 hsg with ⟨e1, e2⟩ | ⟨e1, e2⟩
    · rw [e1, decide_eq_true rfl]
      refine iteF ?_
      refine ⟨_, rfl, ⟨_, rfl⟩, S [c], rfl, rfl, by show 1 ≤ 5592405; omega, ?_⟩
      rw [e2]
      exact fin
    · rw [e1]
      have e3 : decide (V.str (S [c]) = V.str (S [sw c])) = false := by rw [dec_S]; exact decide_eq_false fun z => e2 (List.cons.inj z).1.symm
      rw [show decide (V.str ⟨#[c]⟩ = V.str (S [sw c])) = false from e3]
      refine iteT ?_
      refine ⟨_, rfl, ⟨_, rfl⟩, S [c], rfl, rfl, by show 1 ≤ 5592405; omega, ?_⟩
      rw [e1]
      exact fin
  · rintro acc H1 hD hlen ⟨sm, rfl⟩
    rw [e0] at hD
    rw [List.take_of_length_le (by rw [List.length_reverse]; omega)] at hD
    have hD2 : H1 D = some (.lst (((inv w).map fun c => S [c]).map V.str)) := by
      rw [hD, show w.reverse.map sw = inv w by unfold inv; rw [List.map_reverse], List.map_map] <;> rfl
    refine ⟨S [], D, (inv w).map fun c => S [c], rfl, rfl, .inl (SqL.of hD2), ?_, ?_⟩
    · rw [sum_one]
      show _ + _ * 0 ≤ _
      rw [inv_len]
      omega
    · rw [join1]
      exact k H1 sm
end
end FtP
set_option Elab.async false
set_option linter.all false
set_option maxRecDepth 100000
set_option maxHeartbeats 4000000
namespace FtP
open PySem PySem.Spec PyProof.Rows L2 SX Ft FtT FtR C8
/-- texts of a kind -/
def Fq (Pq : List Nat → Prop) : Hp → V → List Nat → Prop := fun _ v u => v = tx u ∧ Pq u
theorem fq_map {Pq : List Nat → Prop} {l : List (V × List Nat)} {H : Hp} (h : ∀ e ∈ l, Fq Pq H e.1 e.2) : l.map (·.1) = (l.map (·.2)).map tx := by
  rw [List.map_map]
  exact List.map_congr_left fun e he => (h e he).1
theorem fq_all {Pq : List Nat → Prop} {l : List (V × List Nat)} {H : Hp} (h : ∀ e ∈ l, Fq Pq H e.1 e.2) : ∀ u ∈ l.map (·.2), Pq u := fun u hu => by
  obtain ⟨e, he, rfl⟩ := List.mem_map.mp hu
  exact (h e he).2
/-- a row as a list -/
def Fl (p c D : Addr) (n W : Nat) : Hp → V → List (Option (List Nat)) → Prop := fun H v row => ∃ q, v = .ref q ∧ H q = some (.lst (row.map bv)) ∧ q ≠ p ∧ q ≠ c ∧ q ≠ D ∧ row.length = W ∧ ∀ u, some u ∈ row → Fm n u
theorem fl_stab {p c D : Addr} {n W : Nat} (H H' : Hp) (v : V) (row : List (Option (List Nat))) (h : Fl p c D n W H v row) (kd : Kd p c D H H') : Fl p c D n W H' v row := by
  obtain ⟨q, e1, e2, e3, e4, e5, e6⟩ := h
  exact ⟨q, e1, kd _ _ e2 e3 e4 e5, e3, e4, e5, e6⟩
theorem fl_lists {p c D : Addr} {n W : Nat} {H : Hp} {l : List (V × List (Option (List Nat)))} (h : ∀ e ∈ l, Fl p c D n W H e.1 e.2) (hD : H D = some (.lst (l.map (·.1)))) (n1 : D ≠ p) (n2 : D ≠ c) :
    ∃ rs, l.map (·.1) = rs.map V.ref ∧ (∀ r ∈ rs, r ≠ D) ∧ ListsOk p c H D rs (l.map (·.2)) := by
  have key : ∃ rs : List Addr, l.map (·.1) = rs.map V.ref ∧ rs.length = l.length ∧ (∀ r ∈ rs, r ≠ p ∧ r ≠ c ∧ r ≠ D) ∧ ∀ (i : Nat) (r : Addr) (row : List (Option (List Nat))), rs[i]? = some r → (l.map (·.2))[i]? = some row → H r = some (.lst (row.map bv)) := by
    clear hD
    induction l with
    | nil => exact ⟨[], rfl, rfl, fun _ h => by simp at h, fun i r row h _ => by simp at h⟩
    | cons e l ih =>
      obtain ⟨rs, e1, e2, e4, e3⟩ := ih fun e he => h e (List.mem_cons_of_mem _ he)
      obtain ⟨q, f1, f2, f3, f4, f5, _⟩ := h e List.mem_cons_self
      refine ⟨q :: rs, by rw [List.map_cons, e1, f1] <;> rfl, by rw [List.length_cons, e2] <;> rfl, fun r hr => ?_, fun i r row h1 h2 => ?_⟩
      · rcases List.mem_cons.mp hr with z | z
        · rw [z]; exact ⟨f3, f4, f5⟩
        · exact e4 r z
      cases i with
      | zero =>
        have a1 : q = r := by simpa using h1
        have a2 : e.2 = row := by simpa using h2
        rw [← a1, ← a2]
        exact f2
      | succ i => exact e3 i r row (by simpa using h1) (by simpa using h2)
  obtain ⟨rs, e1, e2, e4, e3⟩ := key
  exact ⟨rs, e1, fun r hr => (e4 r hr).2.2, ⟨by rw [hD, e1], by rw [e2, List.length_map], e3⟩, n1, n2, fun r hr => ⟨(e4 r hr).1, (e4 r hr).2.1⟩⟩
theorem fl_wf {p c D : Addr} {n W : Nat} {H : Hp} {l : List (V × List (Option (List Nat)))} (h : ∀ e ∈ l, Fl p c D n W H e.1 e.2) (h1 : 1 ≤ l.length) (h2 : l.length ≤ 12) (w1 : 1 ≤ W) (w2 : W ≤ 12) : Wf n (l.map (·.2)) W where
  h1 := by rw [List.length_map]; exact h1
  h2 := by rw [List.length_map]; exact h2
  w1 := w1
  w2 := w2
  rows := fun row hr => by
    obtain ⟨e, he, rfl⟩ := List.mem_map.mp hr
    obtain ⟨_, _, _, _, _, _, h, _⟩ := h e he
    exact h
  forms := fun row hr => by
    obtain ⟨e, he, rfl⟩ := List.mem_map.mp hr
    obtain ⟨_, _, _, _, _, _, _, h⟩ := h e he
    exact h
theorem Fm.app {n m : Nat} {u v : List Nat} (h : Fm n u) (k : Fm m v) : Fm (n + m) (u ++ v) := ⟨by rw [List.length_append]; have := h.1; have := k.1; omega, fun c hc => by
  rcases List.mem_append.mp hc with z | z
  · exact h.2 c z
  · exact k.2 c z⟩
theorem Fm.mono {n m : Nat} {u : List Nat} (h : Fm n u) (k : n ≤ m) : Fm m u := ⟨Nat.le_trans h.1 k, h.2⟩
def prMade : Pr3 := fun a b e H Q _ => ∃ (p c : Addr) (m L : Nat), a = .ref p ∧ b = .int (m : Nat) ∧ e = .int (L : Nat) ∧ 0 < m ∧ m ≤ 12 ∧ L ≤ 12 ∧ Pool H p c ∧
  ∀ t rs' B' W H', Pool H' p c → Kp p c H H' → BoxesAt H' t rs' B' → Wf (L + L) B' W → Q (.ref t) H'
section
variable {P : Program} {w : World} {K : PySem.W.Frag} {mg : Str → Option Value} {base : Heap}
abbrev nMade : List Str := ["_law_pool_here", "_law_most", "_law_letters", "_law_stems", "_law_endings", "_law_k", "_law_ending", "_law_stem"]
theorem c_made (T : Tx K mg) : Cal P w K mg base 3 "_law_made" (sp3 prMade) [] := by
  refine cal3 (N := nMade) (p1 := "_law_pool_here") (p2 := "_law_most") (p3 := "_law_letters") T.d_law_made (by decide +kernel) (fun _ _ _ _ _ _ us hl => match us, hl with | [_, _, _], _ => rfl) fun f cdv A outer s H a1 a2 a3 Q E nd hr h => ?_
  obtain ⟨p, c, m, L, rfl, rfl, rfl, hm, hM, hL, pl, k⟩ := h
  refine ⟨_, pss_cons (ps_setLc (i := 3) (own := [("_law_k", 5)]) (g := gName 5) (tt := tYes) rfl nd rfl rfl (sw_true rfl rfl rfl (by decide +kernel)) (pi_range1 (by rfl) T.m_range (pa_cons (pe_c (c_size T) hr (by decide) (by rfl) (pa_cons (pv 0) (pa_cons (pv 1) pa_nil))) pa_nil))
      (blkOk_by (own := [("_law_k", 5)]) (N := nMade) (sc := C8.fnScope (top 38)) (by decide +kernel)) (fun _ _ _ _ _ => pg_name (i := 5) nd rfl (Or.inl rfl)) (fun _ _ _ _ _ => pts_nil)
      (fun _ _ _ _ _ => pe_c (c_form T) hr (by decide) (by rfl) (pa_cons (pv 0) (pa_cons (pv 2) pa_nil))))
    (pss_cons (ps_set (i := 4) nd rfl (.inr rfl) (pe_lc (own := [("_law_k", 5)]) (g := gName 5) (tt := tYes) rfl nd (pi_range1 (by rfl) T.m_range (pa_cons (pe_c (c_size T) hr (by decide) (by rfl) (pa_cons (pv 0) (pa_cons (pv 1) pa_nil))) pa_nil))
      (blkOk_by (own := [("_law_k", 5)]) (N := nMade) (sc := C8.fnScope (top 38)) (by decide +kernel)) (fun _ _ _ _ _ => pg_name (i := 5) nd rfl (Or.inl rfl)) (fun _ _ _ _ _ => pts_nil)
      (fun _ _ _ _ _ => pe_c (c_form T) hr (by decide) (by rfl) (pa_cons (pv 0) (pa_cons (pv 2) pa_nil)))))
    (pss_one (ps_ret (pe_c (c_holes T) hr (by decide) (by rfl) (pa_cons (pv 0) (pa_cons (pe_lc (own := [("_law_stem", 7)]) (g := gName 7) (tt := tYes) rfl nd (pi_list (pv 3))
      (blkOk_by (own := [("_law_stem", 7)]) (N := nMade) (sc := C8.fnScope (top 38)) (by decide +kernel)) (fun _ _ _ _ _ => pg_name (i := 7) nd rfl (Or.inr rfl)) (fun _ _ _ _ _ => pts_nil)
      (fun _ _ _ _ _ => pe_lc (own := [("_law_ending", 6)]) (g := gName 6) (tt := tYes) rfl nd (pi_listK (K := K) rfl (pv 4))
        (blk_re (own := [("_law_ending", 6)]) (N := nMade) (sc := lcSc (exAt (C8.fnBody (top 38)) 2)) (by decide +kernel)) (fun _ _ _ _ _ => pg_name (i := 6) nd rfl (Or.inl rfl)) (fun _ _ _ _ _ => pts_nil)
        (fun _ _ _ _ _ => pe_op op_add_str (pv 7) (pv 6)))) pa_nil)))))), ?_⟩
  -- stems
  refine ⟨_, rfl, _, rfl, _, _, rfl, p, c, m, rfl, rfl, hm, by omega, pl, fun n1 H1 a1 b1 pl1 kp1 => ?_⟩
  refine ⟨n1, rfl, by omega, by omega, fun D1 nD1 => ?_⟩
  refine lc_drawn (p := p) (c := c) (walk_range (lo := 0) (n := n1)) (by omega) (fun _ => rfl) (Fq (Fm L)) (fun _ _ => True) (fun _ _ _ _ h _ => h) pl1 nD1 (fun _ _ _ => trivial) ?_ ?_
  · rintro i x acc H2 H3 Ky hi pl2 kp2 hD ⟨rfl, rfl⟩ ky
    exact ⟨_, rfl, _, rfl, _, _, rfl, p, c, L, rfl, rfl, by omega, pl2, fun u H4 hu pl4 kp4 => ky _ u H4 pl4 kp4 ⟨rfl, hu⟩ trivial⟩
  rintro l1 H2 hlen1 hD1 pl2 kp2 hF1 _
  rw [fq_map hF1] at hD1
  have st1 := fq_all hF1
  have ln1 : (l1.map (·.2)).length = n1 := by rw [List.length_map, hlen1]
  generalize l1.map (·.2) = stems at hD1 st1 ln1
  -- endings
  refine ⟨_, rfl, _, rfl, _, _, rfl, p, c, m, rfl, rfl, hm, by omega, pl2, fun n2 H3 a2 b2 pl3 kp3 => ?_⟩
  refine ⟨n2, rfl, by omega, by omega, fun D2 nD2 => ?_⟩
  have D1p := pl1.new nD1
  have hD1 := kp3 _ _ hD1 D1p.1 D1p.2
  refine lc_drawn (p := p) (c := c) (walk_range (lo := 0) (n := n2)) (by omega) (fun _ => rfl) (Fq (Fm L)) (fun _ _ => True) (fun _ _ _ _ h _ => h) pl3 nD2 (fun _ _ _ => trivial) ?_ ?_
  · rintro i x acc H4 H5 Ky hi pl4 kp4 hD ⟨rfl, rfl⟩ ky
    exact ⟨_, rfl, _, rfl, _, _, rfl, p, c, L, rfl, rfl, by omega, pl4, fun u H4 hu pl4 kp4 => ky _ u H4 pl4 kp4 ⟨rfl, hu⟩ trivial⟩
  rintro l2 H4 hlen2 hD2 pl4 kp4 hF2 _
  rw [fq_map hF2] at hD2
  have st2 := fq_all hF2
  have ln2 : (l2.map (·.2)).length = n2 := by rw [List.length_map, hlen2]
  generalize l2.map (·.2) = ends at hD2 st2 ln2
  have D2p := pl3.new nD2
  have hD1 := kp4 _ _ hD1 D1p.1 D1p.2
  have kpa := ((kp1.trans kp2).trans kp3).trans kp4
  -- the boxes
  refine ⟨_, rfl, _, rfl, D1, rfl, ⟨_, SqL.of hD1⟩, fun D nD => ?_⟩
  refine lc_drawn (p := p) (c := c) (walk_list (xs := stems.map tx)) (by rw [List.length_map]; omega) (fun _ => rfl) (Fl p c D (L + L) n2) (fun _ _ => True) fl_stab pl4 nD (fun H' _ kp' => SqL.of (kp' _ _ hD1 D1p.1 D1p.2)) ?_ ?_
  · rintro i x acc H5 H6 Ky hi pl5 kp5 hD ⟨rfl, hx⟩ ky
    obtain ⟨s, hs, rfl⟩ := map_at hx
    have fs := st1 s (List.mem_of_getElem? hs)
    have hD2 := kp5 _ _ hD2 D2p.1 D2p.2
    refine ⟨_, rfl, D2, rfl, ⟨_, SqL.of hD2⟩, fun D3 nD3 => ?_⟩
    refine lc_drawn (p := p) (c := c) (walk_list (xs := ends.map tx)) (by rw [List.length_map]; omega) (fun _ => rfl) (Fb (L + L)) (fun _ _ => True) (fun _ _ _ _ h _ => h) pl5 nD3 (fun H' _ kp' => SqL.of (kp' _ _ hD2 D2p.1 D2p.2)) ?_ ?_
    · rintro j y acc2 H7 H8 Ky2 hj pl7 kp7 hD3 ⟨rfl, hy⟩ ky2
      obtain ⟨e, he, rfl⟩ := map_at hy
      have fe := st2 e (List.mem_of_getElem? he)
      have := fs.1
      have := fe.1
      refine ⟨_, rfl, _, rfl, S s, S e, rfl, rfl, by rw [S_len, S_len]; exact sz (by omega), ?_⟩
      rw [S_cat]
      exact ky2 _ (some (s ++ e)) _ pl7 (Kp.refl _) ⟨rfl, fun u q => by cases q; exact FtP.Fm.app fs fe⟩ trivial
    · rintro l3 H7 hlen hD3 pl7 kp7 hF _
      obtain ⟨q1, q2⟩ := pl5.new nD3
      refine ky (.ref D3) (l3.map (·.2)) _ pl7 kp7 ⟨D3, rfl, by rw [hD3, fb_map hF], q1, q2, (ne_of_none hD nD3).symm, by rw [List.length_map, hlen, List.length_map, ln2], fb_all hF⟩ trivial
  rintro l3 H5 hlen3 hD pl5 kp5 hF3 _
  obtain ⟨q1, q2⟩ := pl4.new nD
  obtain ⟨rs, _, _, ok⟩ := fl_lists hF3 hD q1 q2
  rw [List.length_map, ln1] at hlen3
  refine ⟨_, _, rfl, p, c, D, rs, _, L + L, n2, rfl, rfl, pl5, ok, fl_wf hF3 (by omega) (by omega) a2 (by omega), fun t rs' B' H' pl' kp' bx wf => k t rs' B' n2 H' pl' ((kpa.trans kp5).trans kp') bx wf⟩
end
end FtP
set_option Elab.async false
set_option linter.all false
set_option maxRecDepth 100000
set_option maxHeartbeats 4000000
namespace FtP
open PySem PySem.Spec PyProof.Rows L2 SX Ft FtT FtR C8
def lw (c : Nat) : Nat := if c < 97 then c + 32 else c
theorem lower_S {w : List Nat} (h : Wd w) : Txt.lower (S w) = S (w.map lw) := by
  unfold Txt.lower
  rw [placed_single (S w) _ lw fun i c hc => ?_]
  · exact TL.ext_tl (by show ((S w).cps.map lw).toList = _; rw [Array.toList_map] <;> rfl)
  · have hc' : (S w).cps[i]? = some c := by simpa using hc
    have hw : w[i]? = some c := by simpa using hc
    have hs : Sg c := h c (List.mem_of_getElem? hw)
    unfold Unicode.lowerAt
    rw [hc']
    have hne : (c == 0x3A3) = false := by
      rcases hs with rfl | rfl | rfl | rfl <;> rfl
    simp only [hne, Bool.false_and, Bool.false_eq_true, if_false]
    rcases hs with rfl | rfl | rfl | rfl <;> decide +kernel
theorem low_same {w : List Nat} (h : Wd w) (e : V.str (S w) = V.str (Txt.lower (S w))) : ∀ c ∈ w, Sm c := by
  rw [lower_S h] at e
  have e2 : w = w.map lw := by
    have := dec_S w (w.map lw)
    rw [decide_eq_true e] at this
    exact of_decide_eq_true this.symm
  intro c hc
  obtain ⟨i, hi⟩ := List.getElem?_of_mem hc
  have h2 : (w.map lw)[i]? = some c := by rw [← e2]; exact hi
  rw [List.getElem?_map, hi] at h2
  have h3 : lw c = c := Option.some.inj h2
  unfold lw at h3
  have h4 : 97 ≤ c := by
    by_cases z : c < 97
    · rw [if_pos z] at h3; omega
    · omega
  rcases h c hc with z | z | z | z
  · exact .inl z
  · exact .inr z
  · omega
  · omega
/-- a row of signed texts as a list -/
def Fw (p c D : Addr) (W : Nat) : Hp → V → List (List Nat) → Prop := fun H v row => ∃ q, v = .ref q ∧ H q = some (.lst (row.map tx)) ∧ q ≠ p ∧ q ≠ c ∧ q ≠ D ∧ row.length = W ∧ ∀ u ∈ row, Wd u ∧ u.length ≤ 8
theorem fw_stab {p c D : Addr} {W : Nat} (H H' : Hp) (v : V) (row : List (List Nat)) (h : Fw p c D W H v row) (kd : Kd p c D H H') : Fw p c D W H' v row := by
  obtain ⟨q, e1, e2, e3, e4, e5, e6⟩ := h
  exact ⟨q, e1, kd _ _ e2 e3 e4 e5, e3, e4, e5, e6⟩
def prOwing : Pr2 := fun a b H Q _ => ∃ (p c : Addr) (m : Nat), a = .ref p ∧ b = .int (m : Nat) ∧ 0 < m ∧ m ≤ 12 ∧ Pool H p c ∧
  ∀ t rs' B' W H', Pool H' p c → Kp p c H H' → BoxesAt H' t rs' B' → Wf 8 B' W → Q (.ref t) H'
section
variable {P : Program} {w : World} {K : PySem.W.Frag} {mg : Str → Option Value} {base : Heap}
abbrev nOwing : List Str := ["_law_pool_here", "_law_most", "_law_stems", "_law_endings", "_law_whole", "_law_k", "_law_ending", "_law_stem", "_law_form_here", "_law_row"]
theorem c_owing (T : Tx K mg) : Cal P w K mg base 3 "_law_owing" (sp2 prOwing) [] := by
  refine cal2 (N := nOwing) (p1 := "_law_pool_here") (p2 := "_law_most") T.d_law_owing (by decide +kernel) (fun _ _ _ _ _ _ us hl => match us, hl with | [_, _], _ => rfl) fun f cdv A outer s H a1 a2 Q E nd hr h => ?_
  obtain ⟨p, c, m, rfl, rfl, hm, hM, pl, k⟩ := h
  refine ⟨_, pss_cons (ps_setLc (i := 2) (own := [("_law_k", 5)]) (g := gName 5) (tt := tYes) rfl nd rfl rfl (sw_true rfl rfl rfl (by decide +kernel)) (pi_range1 (by rfl) T.m_range (pa_cons (pe_c (c_size T) hr (by decide) (by rfl) (pa_cons (pv 0) (pa_cons (pv 1) pa_nil))) pa_nil))
      (blkOk_by (own := [("_law_k", 5)]) (N := nOwing) (sc := C8.fnScope (top 40)) (by decide +kernel)) (fun _ _ _ _ _ => pg_name (i := 5) nd rfl (Or.inl rfl)) (fun _ _ _ _ _ => pts_nil)
      (fun _ _ _ _ _ => pe_c (c_signed T) hr (by decide) (by rfl) (pa_cons (pv 0) pa_nil)))
    (pss_cons (ps_set (i := 3) nd rfl (.inr rfl) (pe_lc (own := [("_law_k", 5)]) (g := gName 5) (tt := tYes) rfl nd (pi_range1 (by rfl) T.m_range (pa_cons (pe_c (c_size T) hr (by decide) (by rfl) (pa_cons (pv 0) (pa_cons (pv 1) pa_nil))) pa_nil))
      (blkOk_by (own := [("_law_k", 5)]) (N := nOwing) (sc := C8.fnScope (top 40)) (by decide +kernel)) (fun _ _ _ _ _ => pg_name (i := 5) nd rfl (Or.inl rfl)) (fun _ _ _ _ _ => pts_nil)
      (fun _ _ _ _ _ => pe_c (c_signed T) hr (by decide) (by rfl) (pa_cons (pv 0) pa_nil))))
    (pss_cons (ps_setLc (i := 4) (own := [("_law_stem", 7)]) (g := gName 7) (tt := tYes) rfl nd rfl rfl (sw_true rfl rfl rfl (by decide +kernel)) (pi_list (pv 2))
      (blkOk_by (own := [("_law_stem", 7)]) (N := nOwing) (sc := C8.fnScope (top 40)) (by decide +kernel)) (fun _ _ _ _ _ => pg_name (i := 7) nd rfl (Or.inr rfl)) (fun _ _ _ _ _ => pts_nil)
      (fun _ _ _ _ _ => pe_lc (own := [("_law_ending", 6)]) (g := gName 6) (tt := tYes) rfl nd (pi_listK (K := K) rfl (pv 3))
        (blk_re (own := [("_law_ending", 6)]) (N := nOwing) (sc := lcSc (exAt (C8.fnBody (top 40)) 2)) (by decide +kernel)) (fun _ _ _ _ _ => pg_name (i := 6) nd rfl (Or.inl rfl)) (fun _ _ _ _ _ => pts_nil)
        (fun _ _ _ _ _ => pe_c (c_struck T) hr (by decide) (by rfl) (pa_cons (pe_op op_add_str (pv 7) (pv 6)) pa_nil))))
    (pss_one (ps_ret (pe_c (c_holes T) hr (by decide) (by rfl) (pa_cons (pv 0) (pa_cons (pe_lc (own := [("_law_row", 9)]) (g := gName 9) (tt := tYes) rfl nd (pi_list (pv 4))
      (blkOk_by (own := [("_law_row", 9)]) (N := nOwing) (sc := C8.fnScope (top 40)) (by decide +kernel)) (fun _ _ _ _ _ => pg_name (i := 9) nd rfl (Or.inl rfl)) (fun _ _ _ _ _ => pts_nil)
      (fun _ _ _ _ _ => pe_lc (own := [("_law_form_here", 8)]) (g := gName 8) (tt := tYes) rfl nd (pi_listK (K := K) rfl (pv 9))
        (blk_re (own := [("_law_form_here", 8)]) (N := nOwing) (sc := lcSc (exAt (C8.fnBody (top 40)) 3)) (by decide +kernel)) (fun _ _ _ _ _ => pg_name (i := 8) nd rfl (Or.inl rfl)) (fun _ _ _ _ _ => pts_nil)
        (fun _ _ _ _ _ => pe_ifExp (pt_cmpR op_ne (pv 8) (pe_m0 F.slot_str_lower F.type_str_lower mt_lower (pv 8)) (nomark _)) pe_non (pv 8)))) pa_nil))))))), ?_⟩
  -- stems
  refine ⟨_, rfl, _, rfl, _, _, rfl, p, c, m, rfl, rfl, hm, by omega, pl, fun n1 H1 a1 b1 pl1 kp1 => ?_⟩
  refine ⟨n1, rfl, by omega, by omega, fun D1 nD1 => ?_⟩
  refine lc_drawn (p := p) (c := c) (walk_range (lo := 0) (n := n1)) (by omega) (fun _ => rfl) (Fq fun u => Wd u ∧ u.length ≤ 4) (fun _ _ => True) (fun _ _ _ _ h _ => h) pl1 nD1 (fun _ _ _ => trivial) ?_ ?_
  · rintro i x acc H2 H3 Ky hi pl2 kp2 hD ⟨rfl, rfl⟩ ky
    exact ⟨_, rfl, _, rfl, p, c, rfl, pl2, fun u H4 hu hl pl4 kp4 => ky _ u H4 pl4 kp4 ⟨rfl, hu, hl⟩ trivial⟩
  rintro l1 H2 hlen1 hD1 pl2 kp2 hF1 _
  rw [fq_map hF1] at hD1
  have st1 := fq_all hF1
  have ln1 : (l1.map (·.2)).length = n1 := by rw [List.length_map, hlen1]
  generalize l1.map (·.2) = stems at hD1 st1 ln1
  -- endings
  refine ⟨_, rfl, _, rfl, _, _, rfl, p, c, m, rfl, rfl, hm, by omega, pl2, fun n2 H3 a2 b2 pl3 kp3 => ?_⟩
  refine ⟨n2, rfl, by omega, by omega, fun D2 nD2 => ?_⟩
  have D1p := pl1.new nD1
  have hD1 := kp3 _ _ hD1 D1p.1 D1p.2
  refine lc_drawn (p := p) (c := c) (walk_range (lo := 0) (n := n2)) (by omega) (fun _ => rfl) (Fq fun u => Wd u ∧ u.length ≤ 4) (fun _ _ => True) (fun _ _ _ _ h _ => h) pl3 nD2 (fun _ _ _ => trivial) ?_ ?_
  · rintro i x acc H4 H5 Ky hi pl4 kp4 hD ⟨rfl, rfl⟩ ky
    exact ⟨_, rfl, _, rfl, p, c, rfl, pl4, fun u H4 hu hl pl4 kp4 => ky _ u H4 pl4 kp4 ⟨rfl, hu, hl⟩ trivial⟩
  rintro l2 H4 hlen2 hD2 pl4 kp4 hF2 _
  rw [fq_map hF2] at hD2
  have st2 := fq_all hF2
  have ln2 : (l2.map (·.2)).length = n2 := by rw [List.length_map, hlen2]
  generalize l2.map (·.2) = ends at hD2 st2 ln2
  have D2p := pl3.new nD2
  have hD1 := kp4 _ _ hD1 D1p.1 D1p.2
  have kpa := ((kp1.trans kp2).trans kp3).trans kp4
  -- whole
  refine ⟨_, rfl, D1, rfl, ⟨_, SqL.of hD1⟩, fun D nD => ?_⟩
  refine lc_drawn (p := p) (c := c) (walk_list (xs := stems.map tx)) (by rw [List.length_map]; omega) (fun _ => rfl) (Fw p c D n2) (fun _ _ => True) fw_stab pl4 nD (fun H' _ kp' => SqL.of (kp' _ _ hD1 D1p.1 D1p.2)) ?_ ?_
  · rintro i x acc H5 H6 Ky hi pl5 kp5 hD ⟨rfl, hx⟩ ky
    obtain ⟨s, hs, rfl⟩ := map_at hx
    have fs := st1 s (List.mem_of_getElem? hs)
    have hD2 := kp5 _ _ hD2 D2p.1 D2p.2
    refine ⟨_, rfl, D2, rfl, ⟨_, SqL.of hD2⟩, fun D3 nD3 => ?_⟩
    refine lc_drawn (p := p) (c := c) (walk_list (xs := ends.map tx)) (by rw [List.length_map]; omega) (fun _ => rfl) (Fq fun u => Wd u ∧ u.length ≤ 8) (fun _ _ => True) (fun _ _ _ _ h _ => h) pl5 nD3 (fun H' _ kp' => SqL.of (kp' _ _ hD2 D2p.1 D2p.2)) ?_ ?_
    · rintro j y acc2 H7 H8 Ky2 hj pl7 kp7 hD3 ⟨rfl, hy⟩ ky2
      obtain ⟨e, he, rfl⟩ := map_at hy
      have fe := st2 e (List.mem_of_getElem? he)
      have z1 := fs.2
      have z2 := fe.2
      have z3 := nf_len (s ++ e)
      rw [List.length_append] at z3
      refine ⟨_, rfl, _, rfl, S s, S e, rfl, rfl, by rw [S_len, S_len]; exact sz (by omega), ?_⟩
      rw [S_cat]
      exact ⟨_, rfl, s ++ e, rfl, fs.1.app fe.1, by rw [List.length_append]; omega, fun H9 sm => ky2 _ (nf (s ++ e)) _ (pl7.same sm) (Kp.of sm) ⟨rfl, nf_wd (fs.1.app fe.1), by omega⟩ trivial⟩
    · rintro l3 H7 hlen hD3 pl7 kp7 hF _
      obtain ⟨q1, q2⟩ := pl5.new nD3
      refine ky (.ref D3) (l3.map (·.2)) _ pl7 kp7 ⟨D3, rfl, by rw [hD3, fq_map hF], q1, q2, (ne_of_none hD nD3).symm, by rw [List.length_map, hlen, List.length_map, ln2], fq_all hF⟩ trivial
  rintro l3 H5 hlen3 hD pl5 kp5 hF3 _
  obtain ⟨q1, q2⟩ := pl4.new nD
  rw [List.length_map, ln1] at hlen3
  -- the boxes
  refine ⟨_, rfl, _, rfl, D, rfl, ⟨_, SqL.of hD⟩, fun D4 nD4 => ?_⟩
  refine lc_drawn (p := p) (c := c) (walk_list (xs := l3.map (·.1))) (by rw [List.length_map]; omega) (fun _ => rfl) (Fl p c D4 8 n2) (fun _ _ => True) fl_stab pl5 nD4 (fun H' _ kp' => SqL.of (kp' _ _ hD q1 q2)) ?_ ?_
  · rintro i x acc H6 H7 Ky hi pl6 kp6 hD4 ⟨rfl, hx⟩ ky
    obtain ⟨e, he, rfl⟩ := map_at hx
    obtain ⟨q, e1, e2, e3, e4, e5, e6, e7⟩ := hF3 e (List.mem_of_getElem? he)
    have hq := kp6 _ _ e2 e3 e4
    refine ⟨_, rfl, q, e1, ⟨_, SqL.of hq⟩, fun D3 nD3 => ?_⟩
    refine lc_drawn (p := p) (c := c) (walk_list (xs := e.2.map tx)) (by rw [List.length_map]; omega) (fun _ => rfl) (Fb 8) (fun _ _ => True) (fun _ _ _ _ h _ => h) pl6 nD3 (fun H' _ kp' => SqL.of (kp' _ _ hq e3 e4)) ?_ ?_
    · rintro j y acc2 H8 H9 Ky2 hj pl7 kp7 hD3 ⟨rfl, hy⟩ ky2
      obtain ⟨u, hu, rfl⟩ := map_at hy
      obtain ⟨f1, f2⟩ := e7 u (List.mem_of_getElem? hu)
      refine ⟨_, rfl, _, rfl, ⟨_, rfl⟩, S u, rfl, rfl, by rw [S_len]; omega, rfl, _, rfl, ?_⟩
      by_cases z : V.str (S u) = V.str (Txt.lower (S u))
      · rw [show decide (tx u = V.str (Txt.lower (S u))) = true from decide_eq_true z]
        refine iteF ?_
        exact ⟨_, rfl, ky2 _ (some u) _ pl7 (Kp.refl _) ⟨rfl, fun v q => by cases q; exact ⟨f2, low_same f1 z⟩⟩ trivial⟩
      · rw [show decide (tx u = V.str (Txt.lower (S u))) = false from decide_eq_false z]
        refine iteT ?_
        exact ky2 _ none _ pl7 (Kp.refl _) ⟨rfl, fun v q => by cases q⟩ trivial
    · rintro l5 H8 hlen hD3 pl7 kp7 hF _
      obtain ⟨y1, y2⟩ := pl6.new nD3
      refine ky (.ref D3) (l5.map (·.2)) _ pl7 kp7 ⟨D3, rfl, by rw [hD3, fb_map hF], y1, y2, (ne_of_none hD4 nD3).symm, by rw [List.length_map, hlen, List.length_map, e6], fb_all hF⟩ trivial
  rintro l4 H6 hlen4 hD4 pl6 kp6 hF4 _
  obtain ⟨y1, y2⟩ := pl5.new nD4
  obtain ⟨rs, _, _, ok⟩ := fl_lists hF4 hD4 y1 y2
  rw [List.length_map] at hlen4
  exact ⟨_, _, rfl, p, c, D4, rs, _, 8, n2, rfl, rfl, pl6, ok, fl_wf hF4 (by omega) (by omega) a2 (by omega), fun t rs' B' H' pl' kp' bx wf => k t rs' B' n2 H' pl' (((kpa.trans kp5).trans kp6).trans kp') bx wf⟩
end
end FtP
set_option Elab.async false
set_option linter.all false
set_option maxRecDepth 100000
set_option maxHeartbeats 4000000
namespace FtP
open PySem PySem.Spec PyProof.Rows L2 SX Ft FtT FtR C8
/-- a row as a list, new since H0 -/
def Fn (H0 : Hp) (p c D : Addr) (n W : Nat) : Hp → V → List (Option (List Nat)) → Prop := fun H v row => ∃ q, H0 q = none ∧ v = .ref q ∧ H q = some (.lst (row.map bv)) ∧ q ≠ p ∧ q ≠ c ∧ q ≠ D ∧ row.length = W ∧ ∀ u, some u ∈ row → Fm n u
theorem fn_stab {p c D : Addr} {H0 : Hp} {n W : Nat} (H H' : Hp) (v : V) (row : List (Option (List Nat))) (h : Fn H0 p c D n W H v row) (kd : Kd p c D H H') : Fn H0 p c D n W H' v row := by
  obtain ⟨q, e0, e1, e2, e3, e4, e5, e6⟩ := h
  exact ⟨q, e0, e1, kd _ _ e2 e3 e4 e5, e3, e4, e5, e6⟩
/-- a list of lists, each a row of forms and holes -/
structure RowsOk (p c : Addr) (H0 H : Hp) (a : Addr) (rs : List Addr) (n W : Nat) : Prop where
  at_ : H a = some (.lst (rs.map V.ref))
  n1 : a ≠ p
  n2 : a ≠ c
  row : ∀ r ∈ rs, H0 r = none ∧ r ≠ p ∧ r ≠ c ∧ r ≠ a ∧ ∃ row : List (Option (List Nat)), H r = some (.lst (row.map bv)) ∧ row.length = W ∧ ∀ u, some u ∈ row → Fm n u
section
variable {p c : Addr} {H0 H H' : Hp} {a : Addr} {rs : List Addr} {n W : Nat}
theorem RowsOk.kp (x : RowsOk p c H0 H a rs n W) (k : Kp p c H H') : RowsOk p c H0 H' a rs n W :=
  ⟨k _ _ x.at_ x.n1 x.n2, x.n1, x.n2, fun r hr => by
    obtain ⟨h0, h1, h2, h3, row, h4, h5⟩ := x.row r hr
    exact ⟨h0, h1, h2, h3, row, k _ _ h4 h1 h2, h5⟩⟩
theorem RowsOk.put (x : RowsOk p c H0 H a rs n W) {q : Addr} {o : HO} (h : H q = none) : RowsOk p c H0 (upd H q o) a rs n W := x.kp (Kp.put (Kp.refl _) h)
theorem RowsOk.set (x : RowsOk p c H0 H a rs n W) {r : Addr} (hr : r ∈ rs) {row : List (Option (List Nat))} (h : row.length = W) (f : ∀ u, some u ∈ row → Fm n u) : RowsOk p c H0 (upd H r (.lst (row.map bv))) a rs n W := by
  obtain ⟨_, _, _, h3, _⟩ := x.row r hr
  refine ⟨by rw [upd_ne h3.symm]; exact x.at_, x.n1, x.n2, fun r' hr' => ?_⟩
  obtain ⟨g0, g1, g2, g3, row', g4, g5⟩ := x.row r' hr'
  by_cases e : r' = r
  · exact ⟨g0, g1, g2, g3, row, by rw [e, upd_same], h, f⟩
  · exact ⟨g0, g1, g2, g3, row', by rw [upd_ne e]; exact g4, g5⟩
theorem fl_rows {D : Addr} {l : List (V × List (Option (List Nat)))} (h : ∀ e ∈ l, Fn H0 p c D n W H e.1 e.2) (hD : H D = some (.lst (l.map (·.1)))) (n1 : D ≠ p) (n2 : D ≠ c) : ∃ rs, rs.length = l.length ∧ RowsOk p c H0 H D rs n W := by
  have key : ∃ rs : List Addr, l.map (·.1) = rs.map V.ref ∧ rs.length = l.length ∧ ∀ r ∈ rs, H0 r = none ∧ r ≠ p ∧ r ≠ c ∧ r ≠ D ∧ ∃ row : List (Option (List Nat)), H r = some (.lst (row.map bv)) ∧ row.length = W ∧ ∀ u, some u ∈ row → Fm n u := by
    clear hD
    induction l with
    | nil => exact ⟨[], rfl, rfl, fun _ h => by simp at h⟩
    | cons e l ih =>
      obtain ⟨rs, e1, e2, e3⟩ := ih fun e he => h e (List.mem_cons_of_mem _ he)
      obtain ⟨q, f0, f1, f2, f3, f4, f5, f6, f7⟩ := h e List.mem_cons_self
      refine ⟨q :: rs, by rw [List.map_cons, e1, f1] <;> rfl, by rw [List.length_cons, e2] <;> rfl, fun r hr => ?_⟩
      rcases List.mem_cons.mp hr with z | z
      · rw [z]; exact ⟨f0, f3, f4, f5, _, f2, f6, f7⟩
      · exact e3 r z
  obtain ⟨rs, e1, e2, e3⟩ := key
  exact ⟨rs, e2, by rw [hD, e1], n1, n2, e3⟩
/-- tuple([tuple(row) for row in rows]) -/
theorem rows_tup {K : PySem.W.Frag} {j : Nat} {vs : List Nat} {σ : L2.St} {D : Addr} {Q : VK} (x : RowsOk p c H0 H a rs n W) (h1 : 1 ≤ rs.length) (h2 : rs.length ≤ 12) (w1 : 1 ≤ W) (w2 : W ≤ 12) (pl : Pool H p c) (nD : H D = none)
    (hw : ∀ x, wipe ((wipe σ vs).set j (some x)) vs = wipe σ vs) (hj : ∀ x, ((wipe σ vs).set j (some x))[j]? = some (some x))
    (k : ∀ t rs' B' H', Pool H' p c → Kp p c H H' → BoxesAt H' t rs' B' → Wf n B' W → Q (.ref t) H') :
    ∃ W' : Nat → Nat → Hp → Prop, (∃ m, W' 0 m (upd H D (.lst []))) ∧ ∀ i m H, W' i m H →
      ((Itl K a).stop i H ∧ rTupOf K [V.ref D] H Q) ∨ ((Itl K a).go i H ∧ ∃ Nx : Hp → Prop, (∀ H', Nx H' → ∃ m', m' < m ∧ W' (i + 1) m' H') ∧ ∀ x H', (Itl K a).yld i H x H' → gName j x (wipe σ vs) H' fun σ2 H2 => wipe σ2 vs = wipe σ vs ∧ tYes σ2 H2 fun b H3 =>
        if b = true then (tCB (rTupOf K) (tCons (tVar j) tNil)) σ2 H3 fun y H4 => ∃ acc, H4 D = some (.lst acc) ∧ acc.length < sizeLine ∧ Nx (upd H4 D (.lst (acc ++ [y]))) else Nx H3) := by
  refine lc_drawn (Qd := fun H => rTupOf K [V.ref D] H Q) (p := p) (c := c) (walk_list (xs := rs.map V.ref)) (by rw [List.length_map]; omega) hw (Fr p c D n W) (fun _ _ => True)
    (fun H H' v row h kd => by obtain ⟨q, e1, e2, e3, e4, e5, e6⟩ := h; exact ⟨q, e1, kd _ _ e2 e3 e4 e5, e3, e4, e5, e6⟩) pl nD (fun H' _ kp' => SqL.of (x.kp kp').at_) ?_ ?_
  · rintro i y acc H2 H3 Ky hi pl2 kp2 hD ⟨rfl, hx⟩ ky
    obtain ⟨r, hri, rfl⟩ := map_at hx
    obtain ⟨_, g1, g2, g3, row, g4, g5, g6⟩ := (x.kp kp2).row r (List.mem_of_getElem? hri)
    refine ⟨_, hj _, r, _, rfl, .inl ⟨SqL.of g4, fun q nq => ?_⟩⟩
    obtain ⟨q1, q2⟩ := pl2.new nq
    exact ky (.ref q) row _ (pl2.put q1 q2) ((Kp.refl _).put nq) ⟨q, rfl, upd_same, q1, q2, (ne_of_none hD nq).symm, g5, g6⟩ trivial
  · rintro l3 H2 hlen hD pl2 kp2 hF _
    refine ⟨D, _, rfl, .inl ⟨SqL.of hD, fun q nq => ?_⟩⟩
    obtain ⟨rs', e1, bx⟩ := fr_boxes hF nq
    obtain ⟨q1, q2⟩ := pl2.new nq
    rw [List.length_map] at hlen
    exact k q rs' _ _ (pl2.put q1 q2) (kp2.put (pl2.none kp2 nq)) bx (fr_wf hF (by omega) (by omega) w1 w2)
end
theorem RowsOk.mono {p c : Addr} {H0 H : Hp} {a : Addr} {rs : List Addr} {n m W : Nat} (x : RowsOk p c H0 H a rs n W) (h : n ≤ m) : RowsOk p c H0 H a rs m W :=
  ⟨x.at_, x.n1, x.n2, fun r hr => by
    obtain ⟨h0, h1, h2, h3, row, h4, h5, h6⟩ := x.row r hr
    exact ⟨h0, h1, h2, h3, row, h4, h5, fun u hu => FtP.Fm.mono (h6 u hu) h⟩⟩
theorem or_empty {K : PySem.W.Frag} {σ : L2.St} {H : Hp} {Q : VK} {o : Option (List Nat)} (ho : ∀ u, o = some u → u.length ≤ 100000) (h : ∀ u, (o = some u ∨ u = []) → Q (.str (S u)) H) :
    ∃ k, TruV K (bv o) H k ∧ if k = true then Q (bv o) H else (tC (V.str (Str.ofString ""))) σ H Q := by
  cases o with
  | none => exact ⟨false, rfl, iteF (h [] (.inr rfl))⟩
  | some u =>
    cases u with
    | nil => exact ⟨false, ⟨by show 0 ≤ sizeLine; exact sz (by omega), rfl⟩, iteF (h [] (.inr rfl))⟩
    | cons x r => exact ⟨true, ⟨by show (S (x :: r)).length ≤ sizeLine; rw [S_len]; exact sz (ho _ rfl), by rw [S_len, List.length_cons]; exact (bne_iff_ne.mpr (by omega)).symm⟩, iteT (h _ (.inl rfl))⟩
theorem ixN_nat {n d : Nat} (h : d < n) : ixN n (d : Int) = some d := by
  unfold ixN
  rw [if_pos (by omega), if_pos (by omega)] <;> rfl
theorem wf_row {n : Nat} {row : List (Option (List Nat))} {v : List Nat} (h : ∀ u, some u ∈ row → Fm n u) (hv : Fm n v) (d : Nat) : ∀ u, some u ∈ row.set d (some v) → Fm n u := fun u hu => by
  rcases List.mem_or_eq_of_mem_set hu with z | z
  · exact h u z
  · rw [Option.some.inj z]
    exact hv
def rListOf (K : PySem.W.Frag) : List V → Hp → VK → Prop := fun xs H Q => ∃ p ys, xs = [.ref p] ∧ (SqL K H p ys ∨ SqT K H p ys) ∧ ∀ l, H l = none → Q (.ref l) (upd H l (.lst ys))
theorem call_listK {X : Cx} {K : PySem.W.Frag} (h : X.K = K) : CallR X (.type "list") (rListOf K) := by
  rw [← h]
  exact call_list_of
def prBoxes : Pr2 := fun a b H Q _ => ∃ (p c : Addr) (m : Nat), a = .ref p ∧ b = .int (m : Nat) ∧ 0 < m ∧ m ≤ 12 ∧ Pool H p c ∧
  ∀ t rs' B' W H', Pool H' p c → Kp p c H H' → BoxesAt H' t rs' B' → Wf 30 B' W → Q (.ref t) H'
section
variable {P : Program} {w : World} {K : PySem.W.Frag} {mg : Str → Option Value} {base : Heap}
abbrev nBoxes : List Str := ["_law_pool_here", "_law_most", "_law_kind", "_law_boxes_here", "_law_row", "_law_spot", "_law_height", "_law_width", "_law_column"]
theorem c_boxes (T : Tx K mg) : Cal P w K mg base 4 "_law_boxes" (sp2 prBoxes) [] := by
  refine cal2 (N := nBoxes) (p1 := "_law_pool_here") (p2 := "_law_most") T.d_law_boxes (by decide +kernel) (fun _ _ _ _ _ _ us hl => match us, hl with | [_, _], _ => rfl) fun f cdv A outer s H a1 a2 Q E nd hr h => ?_
  obtain ⟨p, c, m, rfl, rfl, hm, hM, pl, k⟩ := h
  refine ⟨_, pss_cons (ps_set (i := 2) nd rfl (.inl rfl) (pe_c (c_draw T) hr (by decide) (by rfl) (pa_cons (pv 0) (pa_cons pe_int pa_nil))))
    (pss_cons (ps_if (pt_cmpR op_lt (pv 2) pe_int (nomark _)) (pss_one (ps_ret (pe_c (c_made T) hr (by decide) (by rfl) (pa_cons (pv 0) (pa_cons (pv 1) (pa_cons (pe_ix ix_list (pe_lst (pa_cons pe_int (pa_cons pe_int pa_nil))) (pe_c (c_draw T) hr (by decide) (by rfl) (pa_cons (pv 0) (pa_cons pe_int pa_nil))) (fun _ _ => rfl)) pa_nil)))))) pss_nil)
    (pss_cons (ps_if (pt_cmpR op_lt (pv 2) pe_int (nomark _))
      (pss_cons (ps_setLc (i := 3) (own := [("_law_row", 4)]) (g := gName 4) (tt := tYes) rfl nd rfl rfl (sw_true rfl rfl rfl (by decide +kernel)) (pi_tup (pe_c (c_made T) hr (by decide) (by rfl) (pa_cons (pv 0) (pa_cons (pv 1) (pa_cons pe_int pa_nil)))))
        (blkOk_by (own := [("_law_row", 4)]) (N := nBoxes) (sc := C8.fnScope (top 39)) (by decide +kernel)) (fun _ _ _ _ _ => pg_name (i := 4) nd rfl (Or.inl rfl)) (fun _ _ _ _ _ => pts_nil)
        (fun _ _ _ _ _ => pe_callTy (call_listK (K := K) rfl) (by rfl) T.m_list bo_list (pa_cons (pv 4) pa_nil)))
      (pss_cons (ps_set (i := 4) nd rfl (.inl rfl) (pe_ix ix_list (pv 3) (pe_c (c_draw T) hr (by decide) (by rfl) (pa_cons (pv 0) (pa_cons (pe_callB call_len_seq (by rfl) T.m_len boot_len (pa_cons (pv 3) pa_nil)) pa_nil))) (fun _ _ => rfl)))
      (pss_cons (ps_set (i := 5) nd rfl (.inl rfl) (pe_c (c_draw T) hr (by decide) (by rfl) (pa_cons (pv 0) (pa_cons (pe_callB call_len_seq (by rfl) T.m_len boot_len (pa_cons (pv 4) pa_nil)) pa_nil))))
      (pss_cons (ps_asg (pe_ix ix_list (pe_lst (pa_cons (pe_c (c_form T) hr (by decide) (by rfl) (pa_cons (pv 0) (pa_cons pe_int pa_nil))) (pa_cons (pe_op op_add_str (pe_orT (pe_ix ix_list (pv 4) (pv 5) (fun _ _ => rfl)) (pe_one pe_str)) pe_str) pa_nil)))
          (pe_c (c_draw T) hr (by decide) (by rfl) (pa_cons (pv 0) (pa_cons pe_int pa_nil))) (fun _ _ => rfl)) (pg_sub (pv 4) (pv 5) set_list))
      (pss_one (ps_ret (pe_callTy call_tuple_of (by rfl) T.m_tuple bo_tuple (pa_cons (pe_lc (own := [("_law_row", 4)]) (g := gName 4) (tt := tYes) rfl nd (pi_list (pv 3))
        (blkOk_by (own := [("_law_row", 4)]) (N := nBoxes) (sc := C8.fnScope (top 39)) (by decide +kernel)) (fun _ _ _ _ _ => pg_name (i := 4) nd rfl (Or.inl rfl)) (fun _ _ _ _ _ => pts_nil)
        (fun _ _ _ _ _ => pe_callTy (call_tupK (K := K) rfl) (by rfl) T.m_tuple bo_tuple (pa_cons (pv 4) pa_nil))) pa_nil)))))))) pss_nil)
    (pss_cons (ps_if (pt_cmpR op_lt (pv 2) pe_int (nomark _)) (pss_one (ps_ret (pe_c (c_owing T) hr (by decide) (by rfl) (pa_cons (pv 0) (pa_cons (pv 1) pa_nil))))) pss_nil)
    (pss_cons (ps_asg (pe_tup (pa_cons (pe_c (c_size T) hr (by decide) (by rfl) (pa_cons (pv 0) (pa_cons (pv 1) pa_nil))) (pa_cons (pe_c (c_size T) hr (by decide) (by rfl) (pa_cons (pv 0) (pa_cons (pv 1) pa_nil))) pa_nil)))
      (pg_tup rfl (pgs_cons (pg_name (i := 6) nd rfl (.inl rfl)) (pgs_cons (pg_name (i := 7) nd rfl (.inr rfl)) pgs_nil))))
    (pss_one (ps_ret (pe_c (c_holes T) hr (by decide) (by rfl) (pa_cons (pv 0) (pa_cons (pe_lc (own := [("_law_row", 4)]) (g := gName 4) (tt := tYes) rfl nd (pi_range1 (by rfl) T.m_range (pa_cons (pv 6) pa_nil))
      (blkOk_by (own := [("_law_row", 4)]) (N := nBoxes) (sc := C8.fnScope (top 39)) (by decide +kernel)) (fun _ _ _ _ _ => pg_name (i := 4) nd rfl (Or.inl rfl)) (fun _ _ _ _ _ => pts_nil)
      (fun _ _ _ _ _ => pe_lc (own := [("_law_column", 8)]) (g := gName 8) (tt := tYes) rfl nd (pi_range1 (by rfl) T.m_range (pa_cons (pv 7) pa_nil))
        (blk_re (own := [("_law_column", 8)]) (N := nBoxes) (sc := lcSc (exAt (C8.fnBody (top 39)) 5)) (by decide +kernel)) (fun _ _ _ _ _ => pg_name (i := 8) nd rfl (Or.inl rfl)) (fun _ _ _ _ _ => pts_nil)
        (fun _ _ _ _ _ => pe_c (c_form T) hr (by decide) (by rfl) (pa_cons (pv 0) (pa_cons pe_int pa_nil))))) pa_nil))))))))), ?_⟩
  refine ⟨_, rfl, _, _, rfl, p, c, 8, rfl, rfl, by omega, by omega, pl, fun kd H1 hkd pl1 kp1 => ?_⟩
  refine ⟨_, rfl, _, _, rfl, rfl, _, rfl, ?_⟩
  refine ite2 (fun _ => ?_) (fun _ => ?_)
  · refine ⟨_, rfl, _, rfl, by show 2 ≤ sizeLine; exact sz (by omega), fun l0 nl0 => ?_⟩
    obtain ⟨m1, m2⟩ := pl1.new nl0
    have pl0 : Pool (upd H1 l0 (.lst [.int 2, .int 4])) p c := pl1.put m1 m2
    have kp0 : Kp p c H1 (upd H1 l0 (.lst [.int 2, .int 4])) := Kp.put (Kp.refl _) nl0
    have hl0 : (upd H1 l0 (.lst [.int 2, .int 4])) l0 = some (.lst (([2, 4] : List Nat).map fun (n : Nat) => V.int n)) := upd_same
    generalize upd H1 l0 (.lst [.int 2, .int 4]) = H2 at pl0 kp0 hl0
    refine ⟨_, rfl, _, _, rfl, p, c, 2, rfl, rfl, by omega, by omega, pl0, fun d H3 hd pl3 kp3 => ?_⟩
    obtain ⟨L, hL⟩ : ∃ L : Nat, ([2, 4] : List Nat)[d]? = some L := ⟨_, List.getElem?_eq_getElem (by show d < 2; omega)⟩
    have hL4 : L ≤ 4 := by
      have := List.mem_of_getElem? hL
      simp at this
      omega
    refine ⟨l0, _, (d : Nat), _, rfl, rfl, SqL.of (kp3 _ _ hl0 m1 m2), atI_nat (at_map (fun (n : Nat) => V.int n) hL), ?_⟩
    exact ⟨_, _, _, rfl, p, c, m, L, rfl, rfl, rfl, hm, hM, by omega, pl3, fun t rs' B' W H' pl' kp' bx wf => k t rs' B' W H' pl' (((kp1.trans kp0).trans kp3).trans kp') bx (wf.mono (by omega))⟩
  refine ⟨_, rfl, _, _, rfl, rfl, _, rfl, ?_⟩
  refine ite2 (fun _ => ?_) (fun _ => ?_)
  · refine ⟨_, rfl, _, rfl, _, _, _, rfl, p, c, m, 3, rfl, rfl, rfl, hm, hM, by omega, pl1, fun t rs B W H2 pl2 kp2 bx wf => ?_⟩
    refine ⟨t, rfl, ⟨_, SqT.of bx.at_⟩, fun D nD => ?_⟩
    have hB1 := wf.h1
    have hB2 := wf.h2
    have hW1 := wf.w1
    have hW2 := wf.w2
    have lB := bx.len
    refine lc_drawn (p := p) (c := c) (walk_tup (xs := rs.map V.ref)) (by rw [List.length_map]; omega) (fun _ => rfl) (Fn H p c D 6 W) (fun _ _ => True) fn_stab pl2 nD (fun H' _ kp' => SqT.of (bx.kp pl2 kp').at_) ?_ ?_
    · rintro i x acc H3 H4 Ky hi pl3 kp3 hD ⟨rfl, hx⟩ ky
      obtain ⟨r, row, rfl, hri, hBi, hrow⟩ := (bx.kp pl2 kp3).at_row hx
      have hrm := List.mem_of_getElem? hBi
      refine ⟨_, rfl, r, _, rfl, .inr (SqT.of hrow), fun q nq => ?_⟩
      obtain ⟨q1, q2⟩ := pl3.new nq
      exact ky (.ref q) row _ (pl3.put q1 q2) ((Kp.refl _).put nq) ⟨q, pl3.none ((kp1.trans kp2).trans kp3) nq, rfl, upd_same, q1, q2, (ne_of_none hD nq).symm, wf.rows row hrm, fun u hu => wf.forms row hrm u hu⟩ trivial
    rintro l1 H3 hlen hD pl3 kp3 hF _
    obtain ⟨y1, y2⟩ := pl2.new nD
    obtain ⟨rs2, lr, ro⟩ := fl_rows hF hD y1 y2
    rw [hlen, List.length_map, lB] at lr
    -- row = boxes_here[..]
    refine ⟨_, rfl, _, rfl, _, rfl, D, _, rfl, .inl (SqL.of ro.at_), _, _, rfl, p, c, _, rfl, rfl, by rw [List.length_map]; omega, by rw [List.length_map]; omega, pl3, fun d1 H4 hd1 pl4 kp4 => ?_⟩
    rw [List.length_map] at hd1
    have ro := ro.kp kp4
    obtain ⟨r, hr⟩ : ∃ r, rs2[d1]? = some r := ⟨_, List.getElem?_eq_getElem hd1⟩
    have hrm := List.mem_of_getElem? hr
    refine ⟨D, _, (d1 : Nat), _, rfl, rfl, SqL.of ro.at_, atI_nat (at_map V.ref hr), ?_⟩
    obtain ⟨g0, g1, g2, g3, row, g4, g5, g6⟩ := ro.row r hrm
    -- spot
    refine ⟨_, rfl, _, rfl, r, _, rfl, .inl (SqL.of g4), _, _, rfl, p, c, _, rfl, rfl, by rw [List.length_map]; omega, by rw [List.length_map]; omega, pl4, fun d2 H5 hd2 pl5 kp5 => ?_⟩
    rw [List.length_map] at hd2
    have ro := ro.kp kp5
    have g4 := kp5 _ _ g4 g1 g2
    obtain ⟨o, ho⟩ : ∃ o, row[d2]? = some o := ⟨_, List.getElem?_eq_getElem hd2⟩
    -- the new text
    refine ⟨_, rfl, _, _, rfl, p, c, 3, rfl, rfl, by omega, pl5, fun u H6 hu pl6 kp6 => ?_⟩
    have ro := ro.kp kp6
    have g4 := kp6 _ _ g4 g1 g2
    have ho6 : ∀ u, o = some u → Fm 6 u := fun u e => g6 u (by rw [← e]; exact List.mem_of_getElem? ho)
    refine ⟨_, rfl, _, rfl, r, _, (d2 : Nat), _, rfl, rfl, SqL.of g4, atI_nat (at_map bv ho), ?_⟩
    refine or_empty (fun u e => by have := (ho6 u e).1; omega) fun v hv => ?_
    have fv : Fm 7 (v ++ [97]) := by
      have f6 : Fm 6 v := by
        rcases hv with z | z
        · exact ho6 v z
        · rw [z]; exact ⟨Nat.zero_le _, fun _ h => by simp at h⟩
      exact FtP.Fm.app (m := 1) f6 ⟨Nat.le_refl _, fun c hc => .inl (List.mem_singleton.mp hc)⟩
    have hvl := fv.1
    rw [List.length_append] at hvl
    refine ⟨S v, S [97], rfl, rfl, by rw [S_len, S_len]; exact sz (by simp at hvl ⊢; omega), ?_⟩
    rw [S_cat]
    generalize v ++ [97] = v at fv
    refine ⟨by show 2 ≤ sizeLine; exact sz (by omega), fun l2 nl2 => ?_⟩
    obtain ⟨m1, m2⟩ := pl6.new nl2
    have ro := ro.put nl2 (o := .lst [tx u, tx v])
    have g4 : (upd H6 l2 (.lst [tx u, tx v])) r = some (.lst (row.map bv)) := by rw [upd_ne (ne_of_none g4 nl2)]; exact g4
    have pl7 : Pool (upd H6 l2 (.lst [tx u, tx v])) p c := pl6.put m1 m2
    have kp7 : Kp p c H6 (upd H6 l2 (.lst [tx u, tx v])) := Kp.put (Kp.refl _) nl2
    have hl2 : (upd H6 l2 (.lst [tx u, tx v])) l2 = some (.lst ([u, v].map tx)) := upd_same
    refine ⟨_, rfl, _, _, rfl, p, c, 2, rfl, rfl, by omega, by omega, pl7, fun d3 H8 hd3 pl8 kp8 => ?_⟩
    have ro := ro.kp kp8
    have g4 := kp8 _ _ g4 g1 g2
    obtain ⟨z, hz, fz⟩ : ∃ z, ([u, v] : List (List Nat))[d3]? = some z ∧ Fm 7 z := by
      match d3, hd3 with
      | 0, _ => exact ⟨u, rfl, FtP.Fm.mono hu (by omega)⟩
      | 1, _ => exact ⟨v, rfl, fv⟩
    refine ⟨l2, _, (d3 : Nat), _, rfl, rfl, SqL.of (kp8 _ _ hl2 m1 m2), atI_nat (at_map tx hz), ?_⟩
    refine ⟨_, rfl, _, rfl, r, _, (d2 : Nat), d2, rfl, rfl, g4, ixN_nat (by rw [List.length_map]; exact hd2), ?_⟩
    have ro9 := (ro.mono (m := 7) (by omega)).set hrm (row := row.set d2 (some z)) (by rw [List.length_set]; exact g5) (wf_row (fun u hu => FtP.Fm.mono (g6 u hu) (by omega)) fz d2)
    rw [List.map_set] at ro9
    have pl9 : Pool (upd H8 r (.lst ((row.map bv).set d2 (bv (some z))))) p c := pl8.put g1 g2
    have kpb := ((((((kp1.trans kp2).trans kp3).trans kp4).trans kp5).trans kp6).trans kp7).trans kp8
    have kp9 : Kp p c H (upd H8 r (.lst ((row.map bv).set d2 (bv (some z))))) := fun b ob e n1 n2 => by
      have hb : b ≠ r := ne_of_none e g0
      rw [upd_ne hb]
      exact kpb b ob e n1 n2
    refine ⟨_, rfl, D, rfl, ⟨_, SqL.of ro9.at_⟩, fun D2 nD2 => ?_⟩
    exact rows_tup ro9 (by omega) (by omega) hW1 hW2 pl9 nD2 (fun _ => rfl) (fun _ => rfl) fun t' rs' B' H' pl' kp' bx' wf' => k t' rs' B' W H' pl' (kp9.trans kp') bx' (wf'.mono (by omega))
  refine ⟨_, rfl, _, _, rfl, rfl, _, rfl, ?_⟩
  refine ite2 (fun _ => ?_) (fun _ => ?_)
  · exact ⟨_, rfl, _, rfl, _, _, rfl, p, c, m, rfl, rfl, hm, hM, pl1, fun t rs' B' W H' pl' kp' bx wf => k t rs' B' W H' pl' (kp1.trans kp') bx (wf.mono (by omega))⟩
  -- height, width
  refine ⟨_, rfl, _, rfl, _, _, rfl, p, c, m, rfl, rfl, hm, by omega, pl1, fun hh H2 a1 b1 pl2 kp2 => ?_⟩
  refine ⟨_, rfl, _, rfl, _, _, rfl, p, c, m, rfl, rfl, hm, by omega, pl2, fun wd H3 a2 b2 pl3 kp3 => ?_⟩
  refine ⟨by show 2 ≤ sizeLine; exact sz (by omega), fun tq ntq => ?_⟩
  refine ⟨tq, _, rfl, SqT.of upd_same, rfl, _, _, rfl, _, _, rfl, rfl, ?_⟩
  obtain ⟨m1, m2⟩ := pl3.new ntq
  have pl4 : Pool (upd H3 tq (.tup [.int (hh : Nat), .int (wd : Nat)])) p c := pl3.put m1 m2
  have kp4 : Kp p c H3 (upd H3 tq (.tup [.int (hh : Nat), .int (wd : Nat)])) := Kp.put (Kp.refl _) ntq
  have kpa := ((kp1.trans kp2).trans kp3).trans kp4
  refine ⟨_, rfl, _, rfl, hh, rfl, by omega, by omega, fun D nD => ?_⟩
  refine lc_drawn (p := p) (c := c) (walk_range (lo := 0) (n := hh)) (by omega) (fun _ => rfl) (Fl p c D 2 wd) (fun _ _ => True) fl_stab pl4 nD (fun _ _ _ => trivial) ?_ ?_
  · rintro i x acc H5 H6 Ky hi pl5 kp5 hD ⟨rfl, rfl⟩ ky
    refine ⟨_, rfl, wd, rfl, by omega, by omega, fun D3 nD3 => ?_⟩
    refine lc_drawn (p := p) (c := c) (walk_range (lo := 0) (n := wd)) (by omega) (fun _ => rfl) (Fb 2) (fun _ _ => True) (fun _ _ _ _ h _ => h) pl5 nD3 (fun _ _ _ => trivial) ?_ ?_
    · rintro j y acc2 H7 H8 Ky2 hj pl7 kp7 hD3 ⟨rfl, rfl⟩ ky2
      exact ⟨_, rfl, _, _, rfl, p, c, 2, rfl, rfl, by omega, pl7, fun u H8 hu pl8 kp8 => ky2 _ (some u) _ pl8 kp8 ⟨rfl, fun v q => by cases q; exact hu⟩ trivial⟩
    · rintro l3 H7 hlen hD3 pl7 kp7 hF _
      obtain ⟨q1, q2⟩ := pl5.new nD3
      exact ky (.ref D3) (l3.map (·.2)) _ pl7 kp7 ⟨D3, rfl, by rw [hD3, fb_map hF], q1, q2, (ne_of_none hD nD3).symm, by rw [List.length_map, hlen], fb_all hF⟩ trivial
  rintro l3 H5 hlen3 hD pl5 kp5 hF3 _
  obtain ⟨q1, q2⟩ := pl4.new nD
  obtain ⟨rs, _, _, ok⟩ := fl_lists hF3 hD q1 q2
  exact ⟨_, _, rfl, p, c, D, rs, _, 2, wd, rfl, rfl, pl5, ok, fl_wf hF3 (by omega) (by omega) a2 (by omega), fun t rs' B' H' pl' kp' bx wf => k t rs' B' wd H' pl' ((kpa.trans kp5).trans kp') bx (wf.mono (by omega))⟩
end
end FtP
set_option Elab.async false
set_option linter.all false
set_option maxRecDepth 100000
set_option maxHeartbeats 4000000
namespace FtP
open PySem PySem.Spec PyProof.Rows L2 SX Ft FtT FtR C8
def prLong : Pr1 := fun a H Q _ => ∃ (p c : Addr), a = .ref p ∧ Pool H p c ∧ ∀ t rs' B' W H', Pool H' p c → Kp p c H H' → BoxesAt H' t rs' B' → Wf 30 B' W → Q (.ref t) H'
theorem fm_ab : Fm 30 [97, 98] := ⟨by decide, fun c hc => by
  rcases List.mem_cons.mp hc with z | z
  · exact .inl z
  · exact .inr (List.mem_singleton.mp z)⟩
section
variable {P : Program} {w : World} {K : PySem.W.Frag} {mg : Str → Option Value} {base : Heap}
abbrev nLong : List Str := ["_law_pool_here", "_law_stem", "_law_ending", "_law_rows", "_law_k", "_law_row"]
theorem c_long (T : Tx K mg) : Cal P w K mg base 2 "_law_long" (sp1 prLong) [] := by
  refine cal1 (N := nLong) (p1 := "_law_pool_here") T.d_law_long (by decide +kernel) (fun _ _ _ _ _ _ us hl => match us, hl with | [_], _ => rfl) fun f cdv A outer s H a1 Q E nd hr h => ?_
  obtain ⟨p, c, rfl, pl, k⟩ := h
  refine ⟨_, pss_cons (ps_set (i := 1) nd rfl (.inl rfl) (pe_join pe_str (pe_lc (own := [("_law_k", 4)]) (g := gName 4) (tt := tYes) rfl nd (pi_range1 (by rfl) T.m_range (pa_cons (pe_op op_add pe_int (pe_c (c_draw T) hr (by decide) (by rfl) (pa_cons (pv 0) (pa_cons pe_int pa_nil)))) pa_nil))
      (blkOk_by (own := [("_law_k", 4)]) (N := nLong) (sc := C8.fnScope (top 52)) (by decide +kernel)) (fun _ _ _ _ _ => pg_name (i := 4) nd rfl (Or.inl rfl)) (fun _ _ _ _ _ => pts_nil)
      (fun _ _ _ _ _ => pe_ix ix_str pe_str (pe_c (c_draw T) hr (by decide) (by rfl) (pa_cons (pv 0) (pa_cons pe_int pa_nil))) (fun _ _ => rfl)))))
    (pss_cons (ps_set (i := 2) nd rfl (.inl rfl) (pe_join pe_str (pe_lc (own := [("_law_k", 4)]) (g := gName 4) (tt := tYes) rfl nd (pi_range1 (by rfl) T.m_range (pa_cons (pe_op op_add pe_int (pe_c (c_draw T) hr (by decide) (by rfl) (pa_cons (pv 0) (pa_cons pe_int pa_nil)))) pa_nil))
      (blkOk_by (own := [("_law_k", 4)]) (N := nLong) (sc := C8.fnScope (top 52)) (by decide +kernel)) (fun _ _ _ _ _ => pg_name (i := 4) nd rfl (Or.inl rfl)) (fun _ _ _ _ _ => pts_nil)
      (fun _ _ _ _ _ => pe_ix ix_str pe_str (pe_c (c_draw T) hr (by decide) (by rfl) (pa_cons (pv 0) (pa_cons pe_int pa_nil))) (fun _ _ => rfl)))))
    (pss_cons (ps_set (i := 3) nd rfl (.inl rfl) (pe_lst (pa_cons (pe_lst (pa_cons pe_str (pa_cons (pe_op op_add_str pe_str (pv 2)) pa_nil))) (pa_cons (pe_lst (pa_cons (pe_op op_add_str (pv 1) pe_str) (pa_cons pe_non pa_nil))) pa_nil))))
    (pss_cons (ps_if (pt_cmpR op_eq (pe_c (c_draw T) hr (by decide) (by rfl) (pa_cons (pv 0) (pa_cons pe_int pa_nil))) pe_int (nomark _)) (pss_one (ps_set (i := 3) nd rfl (.inl rfl) (pe_revL (pv 3)))) pss_nil)
    (pss_one (ps_ret (pe_callTy call_tuple_of (by rfl) T.m_tuple bo_tuple (pa_cons (pe_lc (own := [("_law_row", 5)]) (g := gName 5) (tt := tYes) rfl nd (pi_list (pv 3))
        (blkOk_by (own := [("_law_row", 5)]) (N := nLong) (sc := C8.fnScope (top 52)) (by decide +kernel)) (fun _ _ _ _ _ => pg_name (i := 5) nd rfl (Or.inl rfl)) (fun _ _ _ _ _ => pts_nil)
        (fun _ _ _ _ _ => pe_callTy (call_tupK (K := K) rfl) (by rfl) T.m_tuple bo_tuple (pa_cons (pv 5) pa_nil))) pa_nil))))))), ?_⟩
  -- stem
  refine ⟨⟨S [], rfl⟩, _, rfl, _, _, rfl, p, c, 18, rfl, rfl, by omega, by omega, pl, fun n1 H1 hn1 pl1 kp1 => ?_⟩
  refine ⟨_, _, rfl, rfl, _, rfl, by omega, by omega, fun D1 nD1 => ?_⟩
  refine lc_drawn (p := p) (c := c) (walk_range (lo := 0) (n := (12 + (n1 : Int)).toNat)) (by omega) (fun _ => rfl) (Lt Sm) (fun _ _ => True) (fun _ _ _ _ h _ => h) pl1 nD1 (fun _ _ _ => trivial) ?_ ?_
  · rintro i x acc H2 H3 Ky hi pl2 kp2 hD ⟨rfl, rfl⟩ ky
    refine ⟨_, rfl, _, _, rfl, p, c, 2, rfl, rfl, by omega, by omega, pl2, fun d H4 hd pl4 kp4 => ?_⟩
    obtain ⟨ch, e, hs⟩ := pick_ab hd
    exact ⟨_, _, ch, rfl, rfl, by show 2 ≤ sizeLine; exact sz (by omega), e, ky _ ch H4 pl4 kp4 ⟨rfl, hs⟩ trivial⟩
  rintro l1 H2 hlen1 hD1 pl2 kp2 hF1 _
  rw [lt_map hF1] at hD1
  have f1 : Fm 29 (l1.map (·.2)) := ⟨by rw [List.length_map]; omega, lt_all hF1⟩
  refine ⟨S [], D1, (l1.map (·.2)).map fun c => S [c], rfl, rfl, .inl (SqL.of hD1), by rw [sum_one]; show _ + _ * 0 ≤ _; rw [List.length_map]; omega, ?_⟩
  rw [join1]
  generalize l1.map (·.2) = stem at f1
  -- ending
  refine ⟨⟨S [], rfl⟩, _, rfl, _, _, rfl, p, c, 18, rfl, rfl, by omega, by omega, pl2, fun n2 H3 hn2 pl3 kp3 => ?_⟩
  refine ⟨_, _, rfl, rfl, _, rfl, by omega, by omega, fun D2 nD2 => ?_⟩
  refine lc_drawn (p := p) (c := c) (walk_range (lo := 0) (n := (12 + (n2 : Int)).toNat)) (by omega) (fun _ => rfl) (Lt Sm) (fun _ _ => True) (fun _ _ _ _ h _ => h) pl3 nD2 (fun _ _ _ => trivial) ?_ ?_
  · rintro i x acc H5 H6 Ky hi pl2 kp2 hD ⟨rfl, rfl⟩ ky
    refine ⟨_, rfl, _, _, rfl, p, c, 2, rfl, rfl, by omega, by omega, pl2, fun d H4 hd pl4 kp4 => ?_⟩
    obtain ⟨ch, e, hs⟩ := pick_ab hd
    exact ⟨_, _, ch, rfl, rfl, by show 2 ≤ sizeLine; exact sz (by omega), e, ky _ ch H4 pl4 kp4 ⟨rfl, hs⟩ trivial⟩
  rintro l2 H4 hlen2 hD2 pl4 kp4 hF2 _
  rw [lt_map hF2] at hD2
  have f2 : Fm 29 (l2.map (·.2)) := ⟨by rw [List.length_map]; omega, lt_all hF2⟩
  refine ⟨S [], D2, (l2.map (·.2)).map fun c => S [c], rfl, rfl, .inl (SqL.of hD2), by rw [sum_one]; show _ + _ * 0 ≤ _; rw [List.length_map]; omega, ?_⟩
  rw [join1]
  generalize l2.map (·.2) = ending at f2
  have kpa := ((kp1.trans kp2).trans kp3).trans kp4
  have z1 := f1.1
  have z2 := f2.1
  have g1 : Fm 30 (97 :: ending) := ⟨by rw [List.length_cons]; omega, fun ch hc => by
    rcases List.mem_cons.mp hc with z | z
    · exact .inl z
    · exact f2.2 ch z⟩
  have g2 : Fm 30 (stem ++ [98]) := FtP.Fm.app (m := 1) f1 ⟨Nat.le_refl _, fun c hc => .inr (List.mem_singleton.mp hc)⟩
  -- rows
  refine ⟨_, rfl, S [97], S ending, rfl, rfl, by rw [S_len, S_len]; exact sz (by simp; omega), ?_⟩
  rw [S_cat]
  refine ⟨by show 2 ≤ sizeLine; exact sz (by omega), fun r1 nr1 => ?_⟩
  refine ⟨_, rfl, S stem, S [98], rfl, rfl, by rw [S_len, S_len]; exact sz (by simp; omega), ?_⟩
  rw [S_cat]
  refine ⟨by show 2 ≤ sizeLine; exact sz (by omega), fun r2 nr2 => ?_⟩
  refine ⟨by show 2 ≤ sizeLine; exact sz (by omega), fun a na => ?_⟩
  have hr1 : (upd H4 r1 (.lst [.str (Str.ofString "ab"), .str (S ([97] ++ ending))])) r1 = some (.lst (([some [97, 98], some (97 :: ending)] : List (Option (List Nat))).map bv)) := upd_same
  obtain ⟨p1, p2⟩ := pl4.new nr1
  have pl5 : Pool (upd H4 r1 (.lst [.str (Str.ofString "ab"), .str (S ([97] ++ ending))])) p c := pl4.put p1 p2
  have kp5 : Kp p c H (upd H4 r1 (.lst [.str (Str.ofString "ab"), .str (S ([97] ++ ending))])) := kpa.put (pl4.none kpa nr1)
  have h01 : H r1 = none := pl4.none kpa nr1
  generalize upd H4 r1 (.lst [.str (Str.ofString "ab"), .str (S ([97] ++ ending))]) = H5 at hr1 pl5 kp5 nr2 na
  have hr2 : (upd H5 r2 (.lst [.str (S (stem ++ [98])), .non])) r2 = some (.lst (([some (stem ++ [98]), none] : List (Option (List Nat))).map bv)) := upd_same
  obtain ⟨q1, q2⟩ := pl5.new nr2
  have h02 : H r2 = none := pl5.none kp5 nr2
  have hr1 : (upd H5 r2 (.lst [.str (S (stem ++ [98])), .non])) r1 = some (.lst (([some [97, 98], some (97 :: ending)] : List (Option (List Nat))).map bv)) := by rw [upd_ne (ne_of_none hr1 nr2)]; exact hr1
  have pl6 : Pool (upd H5 r2 (.lst [.str (S (stem ++ [98])), .non])) p c := pl5.put q1 q2
  have kp6 : Kp p c H (upd H5 r2 (.lst [.str (S (stem ++ [98])), .non])) := kp5.put h02
  generalize upd H5 r2 (.lst [.str (S (stem ++ [98])), .non]) = H6 at hr1 hr2 pl6 kp6 na
  obtain ⟨a1, a2⟩ := pl6.new na
  have h0a : H a = none := pl6.none kp6 na
  have rows : ∀ {Hx : Hp} {x : Addr} (rs : List Addr), (∀ b o, H6 b = some o → Hx b = some o) → H6 x = none → Hx x = some (.lst (rs.map V.ref)) → x ≠ p → x ≠ c → (∀ r ∈ rs, r = r1 ∨ r = r2) → RowsOk p c H Hx x rs 30 2 := by
    intro Hx x rs kp nx hx x1 x2 hrs
    refine ⟨hx, x1, x2, fun r hr => ?_⟩
    rcases hrs r hr with rfl | rfl
    · exact ⟨h01, p1, p2, ne_of_none hr1 nx, _, kp _ _ hr1, rfl, fun u hu => by
        rcases List.mem_cons.mp hu with z | z
        · cases z; exact fm_ab
        · cases List.mem_singleton.mp z; exact g1⟩
    · exact ⟨h02, q1, q2, ne_of_none hr2 nx, _, kp _ _ hr2, rfl, fun u hu => by
        rcases List.mem_cons.mp hu with z | z
        · cases z; exact g2
        · cases List.mem_singleton.mp z⟩
  have keep7 : ∀ b o, H6 b = some o → (upd H6 a (.lst [.ref r1, .ref r2])) b = some o := fun b o e => by rw [upd_ne (ne_of_none e na)]; exact e
  have pl7 : Pool (upd H6 a (.lst [.ref r1, .ref r2])) p c := pl6.put a1 a2
  have kp7 : Kp p c H (upd H6 a (.lst [.ref r1, .ref r2])) := kp6.put h0a
  have ha : (upd H6 a (.lst [.ref r1, .ref r2])) a = some (.lst ([r1, r2].map V.ref)) := upd_same
  generalize upd H6 a (.lst [.ref r1, .ref r2]) = H7 at keep7 pl7 kp7 ha
  refine ⟨_, rfl, _, _, rfl, p, c, 2, rfl, rfl, by omega, by omega, pl7, fun d H8 hd pl8 kp8 => ?_⟩
  have ok7 : RowsOk p c H H7 a [r1, r2] 30 2 := rows [r1, r2] keep7 na ha a1 a2 fun r hr => by simpa using hr
  have ok8 := ok7.kp kp8
  have kp9 := kp7.trans kp8
  refine ⟨rfl, _, rfl, ?_⟩
  refine ite2 (fun _ => ?_) (fun _ => ?_)
  · refine ⟨_, rfl, a, _, rfl, SqL.of ok8.at_, fun a' na' => ?_⟩
    obtain ⟨b1, b2⟩ := pl8.new na'
    have ok9 : RowsOk p c H (upd H8 a' (.lst ([r1, r2].map V.ref).reverse)) a' [r2, r1] 30 2 := by
      refine ⟨upd_same, b1, b2, fun r hr => ?_⟩
      obtain ⟨g0, g1, g2, g3, row, g4, g5⟩ := ok8.row r (by simp at hr ⊢; exact hr.symm)
      exact ⟨g0, g1, g2, ne_of_none g4 na', row, by rw [upd_ne (ne_of_none g4 na')]; exact g4, g5⟩
    have pl9 : Pool (upd H8 a' (.lst ([r1, r2].map V.ref).reverse)) p c := pl8.put b1 b2
    have kp10 : Kp p c H (upd H8 a' (.lst ([r1, r2].map V.ref).reverse)) := kp9.put (pl8.none kp9 na')
    refine ⟨_, rfl, a', rfl, ⟨_, SqL.of ok9.at_⟩, fun D nD => ?_⟩
    exact rows_tup ok9 (by show 1 ≤ 2; omega) (by show 2 ≤ 12; omega) (by decide) (by decide) pl9 nD (fun _ => rfl) (fun _ => rfl) fun t' rs' B' H' pl' kp' bx' wf' => k t' rs' B' 2 H' pl' (kp10.trans kp') bx' wf'
  · refine ⟨_, rfl, a, rfl, ⟨_, SqL.of ok8.at_⟩, fun D nD => ?_⟩
    exact rows_tup ok8 (by show 1 ≤ 2; omega) (by show 2 ≤ 12; omega) (by decide) (by decide) pl8 nD (fun _ => rfl) (fun _ => rfl) fun t' rs' B' H' pl' kp' bx' wf' => k t' rs' B' 2 H' pl' (kp9.trans kp') bx' wf'
end
end FtP
set_option Elab.async false
set_option linter.all false
set_option maxRecDepth 100000
set_option maxHeartbeats 4000000
namespace FtP
open PySem PySem.Spec PyProof.Rows L2 SX Ft FtT FtR C8
def nv (n : Nat) : V := .int (n : Nat)
theorem map_erase {α β : Type} (f : α → β) : ∀ (l : List α) (d : Nat), (l.map f).eraseIdx d = (l.eraseIdx d).map f
  | [], d => by simp
  | x :: l, 0 => rfl
  | x :: l, d + 1 => by
    show f x :: (l.map f).eraseIdx d = f x :: (l.eraseIdx d).map f
    rw [map_erase f l d]
theorem mem_erase_of {α : Type} : ∀ {l : List α} {d : Nat} {x : α}, x ∈ l.eraseIdx d → x ∈ l
  | [], d, x, h => by simp at h
  | y :: l, 0, x, h => List.mem_cons_of_mem _ h
  | y :: l, d + 1, x, h => by
    rcases List.mem_cons.mp (show x ∈ y :: l.eraseIdx d from h) with z | z
    · rw [z]; exact List.mem_cons_self
    · exact List.mem_cons_of_mem _ (mem_erase_of z)
theorem len_erase {α : Type} : ∀ {l : List α} {d : Nat}, d < l.length → (l.eraseIdx d).length + 1 = l.length
  | [], d, h => by simp at h
  | y :: l, 0, h => rfl
  | y :: l, d + 1, h => by
    show (l.eraseIdx d).length + 1 + 1 = l.length + 1
    rw [len_erase (l := l) (d := d) (by simpa using h)]
theorem rep_flat (x : V) : ∀ n : Nat, (List.replicate n [x]).flatten = List.replicate n x
  | 0 => rfl
  | n + 1 => by rw [List.replicate_succ, List.flatten_cons, rep_flat x n] <;> rfl
theorem rg_nv (n : Nat) : rgV 0 (n : Int) = (List.range n).map nv := by
  unfold rgV
  rw [show ((n : Int) - 0).toNat = n by omega]
  exact List.map_congr_left fun i _ => by show V.int (0 + (i : Nat)) = V.int (i : Nat); rw [Int.zero_add]
/-- the lists of stairs -/
structure Sx (p c : Addr) (H0 H : Hp) (La Lb : Addr) (n : Nat) (na nb : List Nat) : Prop where
  pl : Pool H p c
  kp : Kp p c H0 H
  ha : H La = some (.lst (na.map nv))
  hb : H Lb = some (.lst (nb.map nv))
  la : na.length = n
  lb : nb.length = n
  ra : ∀ x ∈ na, x < n
  rb : ∀ x ∈ nb, x < n
  a1 : La ≠ p
  a2 : La ≠ c
  b1 : Lb ≠ p
  b2 : Lb ≠ c
  ab : La ≠ Lb
  fa : H0 La = none
  fb : H0 Lb = none
section
variable {p c : Addr} {H0 H H' : Hp} {La Lb : Addr} {n : Nat} {na nb : List Nat}
theorem Sx.step (x : Sx p c H0 H La Lb n na nb) (pl : Pool H' p c) (k : Kp p c H H') : Sx p c H0 H' La Lb n na nb :=
  ⟨pl, x.kp.trans k, k _ _ x.ha x.a1 x.a2, k _ _ x.hb x.b1 x.b2, x.la, x.lb, x.ra, x.rb, x.a1, x.a2, x.b1, x.b2, x.ab, x.fa, x.fb⟩
theorem Sx.new (x : Sx p c H0 H La Lb n na nb) {q : Addr} {o : HO} (h : H q = none) : Sx p c H0 (upd H q o) La Lb n na nb := x.step (x.pl.put (x.pl.new h).1 (x.pl.new h).2) (Kp.put (Kp.refl _) h)
theorem Sx.setA (x : Sx p c H0 H La Lb n na nb) (na' : List Nat) (l : na'.length = n) (r : ∀ x ∈ na', x < n) : Sx p c H0 (upd H La (.lst (na'.map nv))) La Lb n na' nb :=
  ⟨x.pl.put x.a1 x.a2, fun b o e n1 n2 => by rw [upd_ne (ne_of_none e x.fa)]; exact x.kp b o e n1 n2, upd_same, by rw [upd_ne x.ab.symm]; exact x.hb, l, x.lb, r, x.rb, x.a1, x.a2, x.b1, x.b2, x.ab, x.fa, x.fb⟩
theorem Sx.setB (x : Sx p c H0 H La Lb n na nb) (nb' : List Nat) (l : nb'.length = n) (r : ∀ x ∈ nb', x < n) : Sx p c H0 (upd H Lb (.lst (nb'.map nv))) La Lb n na nb' :=
  ⟨x.pl.put x.b1 x.b2, fun b o e n1 n2 => by rw [upd_ne (ne_of_none e x.fb)]; exact x.kp b o e n1 n2, by rw [upd_ne x.ab]; exact x.ha, upd_same, x.la, l, x.ra, r, x.a1, x.a2, x.b1, x.b2, x.ab, x.fa, x.fb⟩
/-- another list changes -/
theorem Sx.other (x : Sx p c H0 H La Lb n na nb) {q : Addr} {o : HO} (q1 : q ≠ p) (q2 : q ≠ c) (f : H0 q = none) (qa : q ≠ La) (qb : q ≠ Lb) : Sx p c H0 (upd H q o) La Lb n na nb :=
  ⟨x.pl.put q1 q2, fun b u e n1 n2 => by rw [upd_ne (ne_of_none e f)]; exact x.kp b u e n1 n2, by rw [upd_ne qa.symm]; exact x.ha, by rw [upd_ne qb.symm]; exact x.hb, x.la, x.lb, x.ra, x.rb, x.a1, x.a2, x.b1, x.b2, x.ab, x.fa, x.fb⟩
end
theorem turned_len {n d : Nat} {l : List Nat} {y : Nat} (h : d < l.length) (hn : l.length = n) : (l.eraseIdx d ++ [y]).length = n := by
  rw [List.length_append, ← hn]
  exact len_erase h
theorem turned_mem {n d : Nat} {l : List Nat} {y : Nat} (hl : ∀ x ∈ l, x < n) (hy : l[d]? = some y) : ∀ x ∈ l.eraseIdx d ++ [y], x < n := fun x hx => by
  rcases List.mem_append.mp hx with z | z
  · exact hl x (mem_erase_of z)
  · rw [List.mem_singleton.mp z]
    exact hl y (List.mem_of_getElem? hy)
def prStairs : Pr2 := fun a b H Q _ => ∃ (p c : Addr) (mk : Bool), a = .ref p ∧ b = .bl mk ∧ Pool H p c ∧ ∀ t rs' B' W H', Pool H' p c → Kp p c H H' → BoxesAt H' t rs' B' → Wf 30 B' W → Q (.ref t) H'
section
variable {P : Program} {w : World} {K : PySem.W.Frag} {mg : Str → Option Value} {base : Heap}
abbrev nStairs : List Str := ["_law_pool_here", "_law_made_here", "_law_size_here", "_law_stems", "_law_endings", "_law_rows", "_law_columns", "_law_boxes_here", "_law_at", "_law_k", "_law_row"]
theorem c_stairs (T : Tx K mg) : Cal P w K mg base 3 "_law_stairs" (sp2 prStairs) [] := by
  refine cal2 (N := nStairs) (p1 := "_law_pool_here") (p2 := "_law_made_here") T.d_law_stairs (by decide +kernel) (fun _ _ _ _ _ _ us hl => match us, hl with | [_, _], _ => rfl) fun f cdv A outer s H a1 a2 Q E nd hr h => ?_
  obtain ⟨p, c, mk, rfl, rfl, pl, k⟩ := h
  refine ⟨_, pss_cons (ps_set (i := 2) nd rfl (.inr rfl) (pe_op op_add pe_int (pe_c (c_draw T) hr (by decide) (by rfl) (pa_cons (pv 0) (pa_cons pe_int pa_nil)))))
    (pss_cons (ps_setLc (i := 3) (own := [("_law_k", 9)]) (g := gName 9) (tt := tYes) rfl nd rfl rfl (sw_true rfl rfl rfl (by decide +kernel)) (pi_range1 (by rfl) T.m_range (pa_cons (pv 2) pa_nil))
      (blkOk_by (own := [("_law_k", 9)]) (N := nStairs) (sc := C8.fnScope (top 49)) (by decide +kernel)) (fun _ _ _ _ _ => pg_name (i := 9) nd rfl (Or.inl rfl)) (fun _ _ _ _ _ => pts_nil)
      (fun _ _ _ _ _ => pe_c (c_form T) hr (by decide) (by rfl) (pa_cons (pv 0) (pa_cons pe_int pa_nil))))
    (pss_cons (ps_setLc (i := 4) (own := [("_law_k", 9)]) (g := gName 9) (tt := tYes) rfl nd rfl rfl (sw_true rfl rfl rfl (by decide +kernel)) (pi_range1 (by rfl) T.m_range (pa_cons (pv 2) pa_nil))
      (blkOk_by (own := [("_law_k", 9)]) (N := nStairs) (sc := C8.fnScope (top 49)) (by decide +kernel)) (fun _ _ _ _ _ => pg_name (i := 9) nd rfl (Or.inl rfl)) (fun _ _ _ _ _ => pts_nil)
      (fun _ _ _ _ _ => pe_c (c_form T) hr (by decide) (by rfl) (pa_cons (pv 0) (pa_cons pe_int pa_nil))))
    (pss_cons (ps_set (i := 5) nd rfl (.inl rfl) (pe_listRg rfl (by rfl) T.m_list (prg_1 (by rfl) T.m_range (pv 2))))
    (pss_cons (ps_set (i := 6) nd rfl (.inl rfl) (pe_listRg rfl (by rfl) T.m_list (prg_1 (by rfl) T.m_range (pv 2))))
    (pss_cons (ps_for PassesOwn.never rfl (pi_range1 (by rfl) T.m_range (pa_cons (pv 2) pa_nil)) (pg_name (i := 9) nd rfl (.inl rfl))
      (pss_cons (ps_expr (pe_bm F.plainAttrs_list F.slot_list_append F.type_list_append mt_append (pv 5) (pa_cons (pe_bm F.plainAttrs_list F.slot_list_pop F.type_list_pop mt_popAt (pv 5) (pa_cons (pe_c (c_draw T) hr (by decide) (by rfl) (pa_cons (pv 0) (pa_cons (pe_op op_sub (pv 2) (pv 9)) pa_nil))) pa_nil)) pa_nil)))
      (pss_one (ps_expr (pe_bm F.plainAttrs_list F.slot_list_append F.type_list_append mt_append (pv 6) (pa_cons (pe_bm F.plainAttrs_list F.slot_list_pop F.type_list_pop mt_popAt (pv 6) (pa_cons (pe_c (c_draw T) hr (by decide) (by rfl) (pa_cons (pv 0) (pa_cons (pe_op op_sub (pv 2) (pv 9)) pa_nil))) pa_nil)) pa_nil))))))
    (pss_cons (ps_setLc (i := 7) (own := [("_law_k", 9)]) (g := gName 9) (tt := tYes) rfl nd rfl rfl (sw_true rfl rfl rfl (by decide +kernel)) (pi_range1 (by rfl) T.m_range (pa_cons (pv 2) pa_nil))
      (blkOk_by (own := [("_law_k", 9)]) (N := nStairs) (sc := C8.fnScope (top 49)) (by decide +kernel)) (fun _ _ _ _ _ => pg_name (i := 9) nd rfl (Or.inl rfl)) (fun _ _ _ _ _ => pts_nil)
      (fun _ _ _ _ _ => pe_op op_rep (pe_lst (pa_cons pe_non pa_nil)) (pv 2)))
    (pss_cons (ps_for PassesOwn.never rfl (pi_range1 (by rfl) T.m_range (pa_cons (pv 2) pa_nil)) (pg_name (i := 9) nd rfl (.inl rfl))
      (pss_one (ps_for PassesOwn.never rfl (pi_list (pe_lst (pa_cons (pv 9) (pa_cons (pe_op op_add (pv 9) pe_int) pa_nil)))) (pg_name (i := 8) nd rfl (.inl rfl))
        (pss_one (ps_if (pt_cmpR op_lt (pv 8) (pv 2) (nomark _))
          (pss_one (ps_asg (pe_ifExp (pt_val (pv 1)) (pe_op op_add_str (pe_ix ix_list (pv 3) (pv 8) (fun _ _ => rfl)) (pe_ix ix_list (pv 4) (pv 9) (fun _ _ => rfl))) (pe_c (c_form T) hr (by decide) (by rfl) (pa_cons (pv 0) (pa_cons pe_int pa_nil))))
            (pg_sub (pe_ix ix_list (pv 7) (pe_ix ix_list (pv 5) (pv 8) (fun _ _ => rfl)) (fun _ _ => rfl)) (pe_ix ix_list (pv 6) (pv 9) (fun _ _ => rfl)) set_list))) pss_nil)))))
    (pss_one (ps_ret (pe_callTy call_tuple_of (by rfl) T.m_tuple bo_tuple (pa_cons (pe_lc (own := [("_law_row", 10)]) (g := gName 10) (tt := tYes) rfl nd (pi_list (pv 7))
        (blkOk_by (own := [("_law_row", 10)]) (N := nStairs) (sc := C8.fnScope (top 49)) (by decide +kernel)) (fun _ _ _ _ _ => pg_name (i := 10) nd rfl (Or.inl rfl)) (fun _ _ _ _ _ => pts_nil)
        (fun _ _ _ _ _ => pe_callTy (call_tupK (K := K) rfl) (by rfl) T.m_tuple bo_tuple (pa_cons (pv 10) pa_nil))) pa_nil))))))))))), ?_⟩
  -- the size
  refine ⟨_, rfl, _, _, rfl, p, c, 5, rfl, rfl, by omega, by omega, pl, fun n0 H1 hn0 pl1 kp1 => ?_⟩
  refine ⟨_, _, rfl, rfl, ?_⟩
  obtain ⟨n, hn, hn8, hn12⟩ : ∃ n : Nat, (8 : Int) + (n0 : Int) = (n : Int) ∧ 8 ≤ n ∧ n ≤ 12 := ⟨8 + n0, by omega, by omega, by omega⟩
  dsimp only
  rw [hn]
  -- stems
  refine ⟨_, rfl, (n : Nat), rfl, by omega, by omega, fun D1 nD1 => ?_⟩
  refine lc_drawn (p := p) (c := c) (walk_range (lo := 0) (n := (n : Int).toNat)) (by omega) (fun _ => rfl) (Fq (Fm 2)) (fun _ _ => True) (fun _ _ _ _ h _ => h) pl1 nD1 (fun _ _ _ => trivial) ?_ ?_
  · rintro i x acc H2 H3 Ky hi pl2 kp2 hD ⟨rfl, rfl⟩ ky
    exact ⟨_, rfl, _, _, rfl, p, c, 2, rfl, rfl, by omega, pl2, fun u H4 hu pl4 kp4 => ky _ u H4 pl4 kp4 ⟨rfl, hu⟩ trivial⟩
  rintro l1 H2 hlen1 hD1 pl2 kp2 hF1 _
  rw [fq_map hF1] at hD1
  have st1 := fq_all hF1
  have ln1 : (l1.map (·.2)).length = n := by rw [List.length_map, hlen1]; omega
  generalize l1.map (·.2) = stems at hD1 st1 ln1
  have D1p := pl1.new nD1
  -- endings
  refine ⟨_, rfl, (n : Nat), rfl, by omega, by omega, fun D2 nD2 => ?_⟩
  refine lc_drawn (p := p) (c := c) (walk_range (lo := 0) (n := (n : Int).toNat)) (by omega) (fun _ => rfl) (Fq (Fm 2)) (fun _ _ => True) (fun _ _ _ _ h _ => h) pl2 nD2 (fun _ _ _ => trivial) ?_ ?_
  · rintro i x acc H3 H4 Ky hi pl2 kp2 hD ⟨rfl, rfl⟩ ky
    exact ⟨_, rfl, _, _, rfl, p, c, 2, rfl, rfl, by omega, pl2, fun u H4 hu pl4 kp4 => ky _ u H4 pl4 kp4 ⟨rfl, hu⟩ trivial⟩
  rintro l2 H3 hlen2 hD2 pl3 kp3 hF2 _
  rw [fq_map hF2] at hD2
  have st2 := fq_all hF2
  have ln2 : (l2.map (·.2)).length = n := by rw [List.length_map, hlen2]; omega
  generalize l2.map (·.2) = ends at hD2 st2 ln2
  have D2p := pl2.new nD2
  have hD1 := kp3 _ _ hD1 D1p.1 D1p.2
  have kpa := (kp1.trans kp2).trans kp3
  -- rows, columns
  refine ⟨_, rfl, (n : Nat), rfl, RgOk.of_le (by omega) (by omega) (by omega) (by omega), fun La nLa => ?_⟩
  rw [rg_nv]
  refine ⟨_, rfl, (n : Nat), rfl, RgOk.of_le (by omega) (by omega) (by omega) (by omega), fun Lb nLb => ?_⟩
  rw [rg_nv]
  have La0 := pl3.none kpa nLa
  obtain ⟨a1, a2⟩ := pl3.new nLa
  have pl4 : Pool (upd H3 La (.lst ((List.range n).map nv))) p c := pl3.put a1 a2
  have kp4 : Kp p c H (upd H3 La (.lst ((List.range n).map nv))) := kpa.put La0
  have hA4 : (upd H3 La (.lst ((List.range n).map nv))) La = some (.lst ((List.range n).map nv)) := upd_same
  have aD1 : La ≠ D1 := (ne_of_none hD1 nLa).symm
  have aD2 : La ≠ D2 := (ne_of_none hD2 nLa).symm
  have hD1 : (upd H3 La (.lst ((List.range n).map nv))) D1 = some (.lst (stems.map tx)) := by rw [upd_ne aD1.symm]; exact hD1
  have hD2 : (upd H3 La (.lst ((List.range n).map nv))) D2 = some (.lst (ends.map tx)) := by rw [upd_ne aD2.symm]; exact hD2
  generalize upd H3 La (.lst ((List.range n).map nv)) = H4 at pl4 kp4 hA4 hD1 hD2 nLb
  have Lb0 := pl4.none kp4 nLb
  obtain ⟨b1, b2⟩ := pl4.new nLb
  have bD1 : Lb ≠ D1 := (ne_of_none hD1 nLb).symm
  have bD2 : Lb ≠ D2 := (ne_of_none hD2 nLb).symm
  have hD1 : (upd H4 Lb (.lst ((List.range n).map nv))) D1 = some (.lst (stems.map tx)) := by rw [upd_ne bD1.symm]; exact hD1
  have hD2 : (upd H4 Lb (.lst ((List.range n).map nv))) D2 = some (.lst (ends.map tx)) := by rw [upd_ne bD2.symm]; exact hD2
  have x5 : Sx p c H (upd H4 Lb (.lst ((List.range n).map nv))) La Lb n (List.range n) (List.range n) :=
    ⟨pl4.put b1 b2, kp4.put Lb0, by rw [upd_ne (ne_of_none hA4 nLb)]; exact hA4, upd_same, List.length_range, List.length_range, fun x hx => List.mem_range.mp hx, fun x hx => List.mem_range.mp hx, a1, a2, b1, b2, ne_of_none hA4 nLb, La0, Lb0⟩
  generalize upd H4 Lb (.lst ((List.range n).map nv)) = H5 at x5 hD1 hD2
  -- they are mixed
  refine ⟨_, rfl, (n : Nat), rfl, by omega, by omega, ?_⟩
  refine for_it (walk_range (lo := 0) (n := (n : Int).toNat)) (fun i σ Hx => ∃ v9 na nb, σ = [some (V.ref p), some (V.bl mk), some (V.int (n : Nat)), some (V.ref D1), some (V.ref D2), some (V.ref La), some (V.ref Lb), none, none, v9, none] ∧ Sx p c H Hx La Lb n na nb ∧ Hx D1 = some (.lst (stems.map tx)) ∧ Hx D2 = some (.lst (ends.map tx)))
    ⟨_, _, _, rfl, x5, hD1, hD2⟩ (fun _ _ _ _ _ => trivial) ?_ ?_
  · rintro i y σ H6 H7 hi ⟨v9, na, nb, rfl, x, h1, h2⟩ ⟨rfl, rfl⟩
    have hi' : i < n := by omega
    refine ⟨_, rfl, .inl ⟨rfl, _, SqL.of x.ha⟩, _, rfl, .inl ⟨rfl, _, SqL.of x.ha⟩, _, rfl, _, rfl, _, rfl, _, _, rfl, rfl, _, _, rfl, p, c, n - i, rfl, by show V.int _ = V.int _; congr 1; omega, by omega, by omega, x.pl, fun d H8 hd pl8 kp8 => ?_⟩
    have x := x.step pl8 kp8
    have h1 := kp8 _ _ h1 D1p.1 D1p.2
    have h2 := kp8 _ _ h2 D2p.1 D2p.2
    have hdl : d < na.length := by rw [x.la]; omega
    obtain ⟨y, hy⟩ : ∃ y, na[d]? = some y := ⟨_, List.getElem?_eq_getElem hdl⟩
    refine ⟨La, _, (d : Nat), d, _, rfl, rfl, x.ha, by omega, by omega, (ixN_seq (ixN_nat (by rw [List.length_map]; exact hdl))).1, at_map nv hy, ?_⟩
    rw [map_erase]
    have le := len_erase hdl
    refine ⟨La, _, _, rfl, rfl, upd_same, szl (by rw [List.length_map]; have := x.la; omega), ?_⟩
    rw [upd_upd, show (na.eraseIdx d).map nv ++ [nv y] = (na.eraseIdx d ++ [y]).map nv by rw [List.map_append] <;> rfl]
    have x := x.setA _ (turned_len (y := y) hdl x.la) (turned_mem x.ra hy)
    have h1 : (upd H8 La (.lst ((na.eraseIdx d ++ [y]).map nv))) D1 = some (.lst (stems.map tx)) := by rw [upd_ne aD1.symm]; exact h1
    have h2 : (upd H8 La (.lst ((na.eraseIdx d ++ [y]).map nv))) D2 = some (.lst (ends.map tx)) := by rw [upd_ne aD2.symm]; exact h2
    generalize upd H8 La (.lst ((na.eraseIdx d ++ [y]).map nv)) = H9 at x h1 h2
    -- columns
    refine ⟨_, rfl, .inl ⟨rfl, _, SqL.of x.hb⟩, _, rfl, .inl ⟨rfl, _, SqL.of x.hb⟩, _, rfl, _, rfl, _, rfl, _, _, rfl, rfl, _, _, rfl, p, c, n - i, rfl, by show V.int _ = V.int _; congr 1; omega, by omega, by omega, x.pl, fun d2 H10 hd2 pl10 kp10 => ?_⟩
    have x := x.step pl10 kp10
    have h1 := kp10 _ _ h1 D1p.1 D1p.2
    have h2 := kp10 _ _ h2 D2p.1 D2p.2
    have hdl2 : d2 < nb.length := by rw [x.lb]; omega
    obtain ⟨y2, hy2⟩ : ∃ y, nb[d2]? = some y := ⟨_, List.getElem?_eq_getElem hdl2⟩
    refine ⟨Lb, _, (d2 : Nat), d2, _, rfl, rfl, x.hb, by omega, by omega, (ixN_seq (ixN_nat (by rw [List.length_map]; exact hdl2))).1, at_map nv hy2, ?_⟩
    rw [map_erase]
    have le2 := len_erase hdl2
    refine ⟨Lb, _, _, rfl, rfl, upd_same, szl (by rw [List.length_map]; have := x.lb; omega), ?_⟩
    rw [upd_upd, show (nb.eraseIdx d2).map nv ++ [nv y2] = (nb.eraseIdx d2 ++ [y2]).map nv by rw [List.map_append] <;> rfl]
    have x := x.setB _ (turned_len (y := y2) hdl2 x.lb) (turned_mem x.rb hy2)
    exact ⟨_, _, _, rfl, x, by rw [upd_ne bD1.symm]; exact h1, by rw [upd_ne bD2.symm]; exact h2⟩
  rintro σ H6 ⟨v9, na, nb, rfl, x6, hD1, hD2⟩
  -- the empty boxes
  refine ⟨_, rfl, (n : Nat), rfl, by omega, by omega, fun D nD => ?_⟩
  have Dp := x6.pl.new nD
  have D0 := x6.pl.none x6.kp nD
  refine lc_drawn (p := p) (c := c) (walk_range (lo := 0) (n := (n : Int).toNat)) (by omega) (fun _ => rfl) (fun Hx v row => Fn H p c D 30 n Hx v row ∧ v ≠ .ref La ∧ v ≠ .ref Lb ∧ v ≠ .ref D1 ∧ v ≠ .ref D2) (fun _ _ => True) (fun H H' v row h kd => ⟨fn_stab _ _ _ _ h.1 kd, h.2⟩) x6.pl nD (fun _ _ _ => trivial) ?_ ?_
  · rintro i y acc HH H7 Ky hi pl7 kp7 hD ⟨rfl, rfl⟩ ky
    refine ⟨by show 1 ≤ sizeLine; exact sz (by omega), fun l0 nl0 => ?_⟩
    refine ⟨_, rfl, l0, (n : Nat), _, rfl, rfl, upd_same, by omega, by omega, by show 1 * _ ≤ _; exact sz (by omega), fun q nq => ?_⟩
    rw [rep_flat, show ((n : Nat) : Int).toNat = n by omega]
    have x7 := x6.step pl7 kp7
    have x8 : Sx p c H (upd H7 l0 (.lst [V.non])) La Lb n na nb := x7.new nl0
    have k8 : Kp p c H7 (upd H7 l0 (.lst [V.non])) := Kp.put (Kp.refl _) nl0
    have hD8 : (upd H7 l0 (.lst [V.non])) D = some (.lst acc) := k8 _ _ hD Dp.1 Dp.2
    have h18 := k8 _ _ (kp7 _ _ hD1 D1p.1 D1p.2) D1p.1 D1p.2
    have h28 := k8 _ _ (kp7 _ _ hD2 D2p.1 D2p.2) D2p.1 D2p.2
    have q0 := x8.pl.none x8.kp nq
    obtain ⟨q1, q2⟩ := x8.pl.new nq
    have ne : ∀ {b : Addr} {o : HO}, (upd H7 l0 (.lst [V.non])) b = some o → V.ref q ≠ V.ref b := fun e z => ne_of_none e nq (V.ref.inj z).symm
    refine ky (.ref q) (List.replicate n none) _ (x8.pl.put q1 q2) (k8.trans (Kp.put (Kp.refl _) nq)) ⟨⟨q, q0, rfl, ?_, q1, q2, (ne_of_none hD8 nq).symm, List.length_replicate, fun u hu => by cases List.eq_of_mem_replicate hu⟩, ne x8.ha, ne x8.hb, ne h18, ne h28⟩ trivial
    rw [upd_same, List.map_replicate] <;> rfl
  rintro l3 H7 hlen3 hD pl7 kp7 hF _
  obtain ⟨rs, lr, ro⟩ := fl_rows (fun e he => (hF e he).1) hD Dp.1 Dp.2
  have hrs : ∀ r ∈ rs, r ≠ La ∧ r ≠ Lb ∧ r ≠ D1 ∧ r ≠ D2 := by
    have e1 : l3.map (·.1) = rs.map V.ref := HO.lst.inj (Option.some.inj (hD.symm.trans ro.at_))
    intro r hr
    have : V.ref r ∈ l3.map (·.1) := by rw [e1]; exact List.mem_map.mpr ⟨r, hr, rfl⟩
    obtain ⟨e, he, e2⟩ := List.mem_map.mp this
    obtain ⟨_, z1, z2, z3, z4⟩ := hF e he
    rw [e2] at z1 z2 z3 z4
    exact ⟨fun z => z1 (by rw [z]), fun z => z2 (by rw [z]), fun z => z3 (by rw [z]), fun z => z4 (by rw [z])⟩
  have x7 := x6.step pl7 kp7
  have hD1 := kp7 _ _ hD1 D1p.1 D1p.2
  have hD2 := kp7 _ _ hD2 D2p.1 D2p.2
  rw [hlen3] at lr
  -- the stairs
  refine ⟨_, rfl, (n : Nat), rfl, by omega, by omega, ?_⟩
  refine for_it (walk_range (lo := 0) (n := (n : Int).toNat)) (fun i σ Hx => ∃ v8 v9, σ = [some (V.ref p), some (V.bl mk), some (V.int (n : Nat)), some (V.ref D1), some (V.ref D2), some (V.ref La), some (V.ref Lb), some (V.ref D), v8, v9, none] ∧ Sx p c H Hx La Lb n na nb ∧ Hx D1 = some (.lst (stems.map tx)) ∧ Hx D2 = some (.lst (ends.map tx)) ∧ RowsOk p c H Hx D rs 30 n)
    ⟨_, _, rfl, x7, hD1, hD2, ro⟩ (fun _ _ _ _ _ => trivial) ?_ ?_
  · rintro i y σ H8 H9 hi ⟨v8, v9, rfl, x, h1, h2, ro⟩ ⟨rfl, hy⟩
    have hi' : i < n := by omega
    have hy : y = .int (i : Nat) := by rw [hy]; show V.int (0 + (i : Nat)) = _; rw [Int.zero_add]
    subst hy
    refine ⟨_, rfl, _, rfl, _, _, rfl, rfl, by show 2 ≤ sizeLine; exact sz (by omega), fun lx nlx => ?_⟩
    have hlx : (upd H9 lx (.lst [V.int (i : Nat), V.int ((i : Nat) + 1)])) lx = some (.lst ([i, i + 1].map nv)) := by rw [upd_same] <;> rfl
    have lp := x.pl.new nlx
    have x := x.new nlx (o := .lst [V.int (i : Nat), V.int ((i : Nat) + 1)])
    have h1 : (upd H9 lx (.lst [V.int (i : Nat), V.int ((i : Nat) + 1)])) D1 = _ := (upd_ne (ne_of_none h1 nlx)).trans h1
    have h2 : (upd H9 lx (.lst [V.int (i : Nat), V.int ((i : Nat) + 1)])) D2 = _ := (upd_ne (ne_of_none h2 nlx)).trans h2
    have rx : ∀ r ∈ rs, r ≠ lx := fun r hr => by
      obtain ⟨_, _, _, _, row, g4, _⟩ := ro.row r hr
      exact ne_of_none g4 nlx
    have ro := ro.put nlx (o := .lst [V.int (i : Nat), V.int ((i : Nat) + 1)])
    refine ⟨lx, rfl, ⟨_, SqL.of hlx⟩, ?_⟩
    refine for_it (walk_list (xs := [i, i + 1].map nv)) (fun j σ Hx => ∃ v8, σ = [some (V.ref p), some (V.bl mk), some (V.int (n : Nat)), some (V.ref D1), some (V.ref D2), some (V.ref La), some (V.ref Lb), some (V.ref D), v8, some (V.int (i : Nat)), none] ∧ Sx p c H Hx La Lb n na nb ∧ Hx D1 = some (.lst (stems.map tx)) ∧ Hx D2 = some (.lst (ends.map tx)) ∧ RowsOk p c H Hx D rs 30 n ∧ Hx lx = some (.lst ([i, i + 1].map nv)))
      ⟨_, rfl, x, h1, h2, ro, hlx⟩ (fun j σ Hx _ h => by obtain ⟨_, _, _, _, _, _, h⟩ := h; exact SqL.of h) ?_ ?_
    · rintro j y σ H10 H11 hj ⟨v8, rfl, x, h1, h2, ro, hlx⟩ ⟨rfl, hy⟩
      obtain ⟨at_, hat, rfl⟩ := map_at hy
      refine ⟨_, rfl, _, rfl, _, _, rfl, rfl, _, rfl, ?_⟩
      refine ite2 (fun hlt => ?_) (fun _ => ?_)
      · have hlt' : at_ < n := by have := of_decide_eq_true hlt; omega
        obtain ⟨ya, hA⟩ : ∃ ya, na[at_]? = some ya := ⟨_, List.getElem?_eq_getElem (by rw [x.la]; exact hlt')⟩
        obtain ⟨yb, hB⟩ : ∃ yb, nb[i]? = some yb := ⟨_, List.getElem?_eq_getElem (by rw [x.lb]; exact hi')⟩
        have hya := x.ra ya (List.mem_of_getElem? hA)
        have hyb := x.rb yb (List.mem_of_getElem? hB)
        obtain ⟨r, hr⟩ : ∃ r, rs[ya]? = some r := ⟨_, List.getElem?_eq_getElem (by omega)⟩
        have hrm := List.mem_of_getElem? hr
        obtain ⟨s, hs⟩ : ∃ s, stems[at_]? = some s := ⟨_, List.getElem?_eq_getElem (by omega)⟩
        obtain ⟨e, he⟩ : ∃ e, ends[i]? = some e := ⟨_, List.getElem?_eq_getElem (by omega)⟩
        have fs := st1 s (List.mem_of_getElem? hs)
        have fe := st2 e (List.mem_of_getElem? he)
        have z1 := fs.1
        have z2 := fe.1
        refine ⟨_, rfl, mk, rfl, ?_⟩
        refine ite2 (fun _ => ?_) (fun _ => ?_)
        · refine ⟨_, rfl, _, rfl, D1, _, (at_ : Nat), _, rfl, rfl, SqL.of h1, atI_nat (at_map tx hs), _, rfl, _, rfl, D2, _, (i : Nat), _, rfl, rfl, SqL.of h2, atI_nat (at_map tx he), S s, S e, rfl, rfl, by rw [S_len, S_len]; exact sz (by omega), ?_⟩
          rw [S_cat]
          have fv : Fm 30 (s ++ e) := FtP.Fm.mono (FtP.Fm.app fs fe) (by omega)
          obtain ⟨g0, g1, g2, g3, row, g4, g5, g6⟩ := ro.row r hrm
          refine ⟨_, rfl, _, rfl, _, rfl, La, _, (at_ : Nat), _, rfl, rfl, SqL.of x.ha, atI_nat (at_map nv hA), D, _, (ya : Nat), _, rfl, rfl, SqL.of ro.at_, atI_nat (at_map V.ref hr), ?_⟩
          refine ⟨_, rfl, _, rfl, Lb, _, (i : Nat), _, rfl, rfl, SqL.of x.hb, atI_nat (at_map nv hB), ?_⟩
          refine ⟨r, _, (yb : Nat), yb, rfl, rfl, g4, ixN_nat (by rw [List.length_map]; omega), ?_⟩
          have ro9 := ro.set hrm (row := row.set yb (some (s ++ e))) (by rw [List.length_set]; exact g5) (wf_row g6 fv yb)
          rw [List.map_set] at ro9
          refine ⟨_, rfl, x.other g1 g2 g0 (hrs r hrm).1 (hrs r hrm).2.1, ?_, ?_, ro9, ?_⟩
          · rw [upd_ne (hrs r hrm).2.2.1.symm]; exact h1
          · rw [upd_ne (hrs r hrm).2.2.2.symm]; exact h2
          · rw [upd_ne (rx r hrm).symm]; exact hlx
        · refine ⟨_, rfl, _, _, rfl, p, c, 3, rfl, rfl, by omega, x.pl, fun u H12 hu pl12 kp12 => ?_⟩
          have lxk := kp12 _ _ hlx lp.1 lp.2
          have hlx := lxk
          have x := x.step pl12 kp12
          have h1 := kp12 _ _ h1 D1p.1 D1p.2
          have h2 := kp12 _ _ h2 D2p.1 D2p.2
          have ro := ro.kp kp12
          have fv : Fm 30 u := FtP.Fm.mono hu (by omega)
          obtain ⟨g0, g1, g2, g3, row, g4, g5, g6⟩ := ro.row r hrm
          refine ⟨_, rfl, _, rfl, _, rfl, La, _, (at_ : Nat), _, rfl, rfl, SqL.of x.ha, atI_nat (at_map nv hA), D, _, (ya : Nat), _, rfl, rfl, SqL.of ro.at_, atI_nat (at_map V.ref hr), ?_⟩
          refine ⟨_, rfl, _, rfl, Lb, _, (i : Nat), _, rfl, rfl, SqL.of x.hb, atI_nat (at_map nv hB), ?_⟩
          refine ⟨r, _, (yb : Nat), yb, rfl, rfl, g4, ixN_nat (by rw [List.length_map]; omega), ?_⟩
          have ro9 := ro.set hrm (row := row.set yb (some u)) (by rw [List.length_set]; exact g5) (wf_row g6 fv yb)
          rw [List.map_set] at ro9
          refine ⟨_, rfl, x.other g1 g2 g0 (hrs r hrm).1 (hrs r hrm).2.1, ?_, ?_, ro9, ?_⟩
          · rw [upd_ne (hrs r hrm).2.2.1.symm]; exact h1
          · rw [upd_ne (hrs r hrm).2.2.2.symm]; exact h2
          · rw [upd_ne (rx r hrm).symm]; exact hlx
      · exact ⟨_, rfl, x, h1, h2, ro, hlx⟩
    · rintro σ H10 ⟨v8, rfl, x, h1, h2, ro, _⟩
      exact ⟨_, _, rfl, x, h1, h2, ro⟩
  · rintro σ H8 ⟨v8, v9, rfl, x, h1, h2, ro⟩
    refine ⟨_, rfl, D, rfl, ⟨_, SqL.of ro.at_⟩, fun Dz nDz => ?_⟩
    exact rows_tup ro (by omega) (by omega) (by omega) (by omega) x.pl nDz (fun _ => rfl) (fun _ => rfl) fun t' rs' B' H' pl' kp' bx' wf' => k t' rs' B' n H' pl' (x.kp.trans kp') bx' wf'
end
end FtP
set_option Elab.async false
set_option linter.all false
set_option maxRecDepth 100000
set_option maxHeartbeats 4000000
namespace Ft
/-- by turns a form, a form undone -/
def alt : Bool → List (List Nat) → List Nat
  | _, [] => []
  | b, f :: r => (if b = true then f else inv f) ++ alt (!b) r
theorem alt_tell : ∀ fs : List (List Nat), alt true fs = tell fs
  | [] => rfl
  | [f] => List.append_nil f
  | f :: g :: fs => by
    show f ++ (inv g ++ alt true fs) = f ++ (inv g ++ tell fs)
    rw [alt_tell fs]
theorem alt_snoc (f : List Nat) : ∀ (l : List (List Nat)) (b : Bool), alt b (l ++ [f]) = alt b l ++ (if (b == (l.length % 2 == 0)) = true then f else inv f)
  | [], b => by cases b <;> simp [alt]
  | x :: l, b => by
    show (if b = true then x else inv x) ++ alt (!b) (l ++ [f]) = ((if b = true then x else inv x) ++ alt (!b) l) ++ _
    rw [alt_snoc f l (!b), List.append_assoc]
    congr 2
    have : ((!b) == (l.length % 2 == 0)) = (b == ((x :: l).length % 2 == 0)) := by
      rw [List.length_cons]
      have h : (l.length % 2 = 0 ∧ (l.length + 1) % 2 = 1) ∨ (l.length % 2 = 1 ∧ (l.length + 1) % 2 = 0) := by omega
      rcases h with ⟨h1, h2⟩ | ⟨h1, h2⟩ <;> rw [h1, h2] <;> cases b <;> rfl
    rw [this]
theorem alt_take {fs : List (List Nat)} {n : Nat} {f : List Nat} (h : fs[n]? = some f) : alt true (fs.take (n + 1)) = alt true (fs.take n) ++ (if n % 2 = 0 then f else inv f) := by
  rw [List.take_succ, h]
  show alt true (fs.take n ++ [f]) = _
  rw [alt_snoc, List.length_take, show min n fs.length = n by have := (List.getElem?_eq_some_iff.mp h).1; omega]
  by_cases e : n % 2 = 0
  · rw [if_pos e, if_pos (by rw [e] <;> rfl)]
  · rw [if_neg e, if_neg (by have h1 : n % 2 = 1 := by omega
                             rw [h1]; decide)]
theorem Way.at_ {T : Told} : ∀ {i : Nat} {bs : List (Nat × Nat)} {fs : List (List Nat)} {j : Nat}, Way T i bs fs j → bs.length = fs.length ∧ ∀ (n : Nat) (b : Nat × Nat), bs[n]? = some b → ∃ f, fs[n]? = some f ∧ (b, f) ∈ T
  | _, _, _, _, .one m => ⟨rfl, fun n b h => by
    cases n with
    | zero => cases (Option.some.inj h); exact ⟨_, rfl, m⟩
    | succ n => simp at h⟩
  | _, _, _, _, .two m m' w => by
    obtain ⟨h1, h2⟩ := Way.at_ w
    refine ⟨by rw [List.length_cons, List.length_cons, List.length_cons, List.length_cons, h1], fun n b h => ?_⟩
    match n, h with
    | 0, h => cases (Option.some.inj h); exact ⟨_, rfl, m⟩
    | 1, h => cases (Option.some.inj h); exact ⟨_, rfl, m'⟩
    | n + 2, h => exact h2 n b h
theorem Way.snoc {T : Told} {a j : Nat} {f g : List Nat} : ∀ {i : Nat} {bs : List (Nat × Nat)} {fs : List (List Nat)} {c : Nat}, Way T i bs fs c → ((a, c), f) ∈ T → ((a, j), g) ∈ T → Way T i (bs ++ [(a, c), (a, j)]) (fs ++ [f, g]) j
  | _, _, _, _, .one m, m1, m2 => .two m m1 (.one m2)
  | _, _, _, _, .two m m' w, m1, m2 => .two m m' (Way.snoc w m1 m2)
theorem alt_wd : ∀ (fs : List (List Nat)) (b : Bool), (∀ f ∈ fs, Wd f) → Wd (alt b fs)
  | [], _, _ => Wd.nil
  | f :: fs, b, h => by
    refine Wd.app ?_ (alt_wd fs _ fun g hg => h g (List.mem_cons_of_mem _ hg))
    cases b with
    | true => exact h f List.mem_cons_self
    | false => exact (h f List.mem_cons_self).inv
end Ft
namespace FtP
open PySem PySem.Spec PyProof.Rows L2 SX Ft FtT FtR C8
def prTold : Pr1 := fun a H Q _ => ∃ (b : Addr) (rs : List Addr) (B : Bx) (W : Nat), a = .ref b ∧ BoxesAt H b rs B ∧ Wf 30 B W ∧ ∀ d H', Same H H' → H d = none → H' d = some (.dT (kvT (told B))) → Q (.ref d) H'
def prTells : Pr2 := fun a b H Q _ => ∃ (bx wy : Addr) (rs : List Addr) (B : Bx) (W i j : Nat) (ts : List Tri) (fs : List (List Nat)), a = .ref bx ∧ b = .ref wy ∧ BoxesAt H bx rs B ∧ Wf 30 B W ∧ H wy = some (.tup (ts.map tri)) ∧
  (∀ q a b, (q, a, b) ∈ ts → H q = some (.tup [.int (a : Nat), .int (b : Nat)])) ∧ Way (told B) i (ts.map (·.2)) fs j ∧ ts.length ≤ 30 ∧ ∀ H', Same H H' → Q (tx (nf (tell fs))) H'
section
variable {P : Program} {w : World} {K : PySem.W.Frag} {mg : Str → Option Value} {base : Heap}
theorem c_told (T : Tx K mg) : Cal P w K mg base 1 "_law_told" (sp1 prTold) [] := by
  refine cal1 (N := ["_law_boxes_here", "_law_found", "_law_row", "_law_column"]) (p1 := "_law_boxes_here") T.d_law_told (by decide +kernel) (fun _ _ _ _ _ _ us hl => match us, hl with | [_], _ => rfl) fun f cdv A outer s H a1 Q E nd hr h => ?_
  have hu := hu_of hr
  obtain ⟨a, rs, B, W, rfl, bx, wf, k⟩ := h
  refine ⟨_, pss_cons (ps_set (i := 1) nd rfl (.inl rfl) pe_dnewT)
    (pss_cons (ps_for PassesOwn.never rfl (pi_range1 (by rfl) T.m_range (pa_cons (pe_callB call_len_seq (by rfl) T.m_len boot_len (pa_cons (pv 0) pa_nil)) pa_nil)) (pg_name (i := 2) nd rfl (.inl rfl))
      (pss_one (ps_for PassesOwn.never rfl (pi_range1 (by rfl) T.m_range (pa_cons (pe_callB call_len_seq (by rfl) T.m_len boot_len (pa_cons (pe_ix ix_tup (pv 0) pe_int (fun _ _ => rfl)) pa_nil)) pa_nil)) (pg_name (i := 3) nd rfl (.inl rfl))
        (pss_one (ps_if (pt_cmpR op_notN (pe_ix ix_tup (pe_ix ix_tup (pv 0) (pv 2) (fun _ _ => rfl)) (pv 3) (fun _ _ => rfl)) pe_non (nomark _))
          (pss_one (ps_dput hu (pv 1) (pe_tup (pa_cons (pv 2) (pa_cons (pv 3) pa_nil))) (pe_ix ix_tup (pe_ix ix_tup (pv 0) (pv 2) (fun _ _ => rfl)) (pv 3) (fun _ _ => rfl)) rfl)) pss_nil)))))
    (pss_one (ps_ret (pv 1)))), ?_⟩
  obtain ⟨r0, hr0⟩ : ∃ r, B[0]? = some r := ⟨B[0]'(by have := wf.h1; omega), List.getElem?_eq_getElem _⟩
  have hw0 : r0.length = W := wf.rows r0 (List.mem_of_getElem? hr0)
  have hB2 := wf.h2
  have hW2 := wf.w2
  have lB : (rs.map V.ref).length = B.length := by rw [List.length_map, bx.len]
  intro d nd0
  have sm0 : Same H (upd H d (.dT [])) := Same.put (Same.refl _) nd0
  refine ⟨_, rfl, a, _, rfl, .inr (SqT.of (sm0 _ _ bx.at_)), _, rfl, by omega, by omega, ?_⟩
  have en : (((rs.map V.ref).length : Int)).toNat = B.length := by omega
  refine for_it (walk_range (lo := 0) (n := ((rs.map V.ref).length : Int).toNat)) (fun i σ H1 => ∃ v2 v3, σ = [some (V.ref a), some (V.ref d), v2, v3] ∧ Same H H1 ∧ H1 d = some (.dT (kvT (toldRows 0 (B.take i)))))
    ⟨_, _, rfl, sm0, by rw [upd_same] <;> rfl⟩ (fun _ _ _ _ _ => trivial) ?_ ?_
  · rintro i x σ H2 H1 hi ⟨v2, v3, rfl, sm, hd⟩ ⟨rfl, hx⟩
    have hx : x = .int (i : Nat) := by rw [hx]; show V.int (0 + (i : Nat)) = _; rw [Int.zero_add]
    subst hx
    obtain ⟨row, hBi⟩ : ∃ row, B[i]? = some row := ⟨_, List.getElem?_eq_getElem (by omega)⟩
    have hrm := List.mem_of_getElem? hBi
    have hrl := wf.rows row hrm
    obtain ⟨q0, e0, e1, hq0⟩ := (bx.same sm).get hr0
    refine ⟨_, rfl, a, _, 0, _, rfl, rfl, SqT.of (sm _ _ bx.at_), atI_nat e1, q0, _, rfl, .inr (SqT.of hq0), _, rfl, by rw [List.length_map, hw0]; omega, by rw [List.length_map, hw0]; omega, ?_⟩
    refine for_it (walk_range (lo := 0) (n := ((r0.map bv).length : Int).toNat)) (fun j σ H1 => ∃ v3, σ = [some (V.ref a), some (V.ref d), some (V.int (i : Nat)), v3] ∧ Same H H1 ∧ H1 d = some (.dT (kvT (toldRows 0 (B.take i) ++ toldRow i 0 (row.take j)))))
      ⟨_, rfl, sm, by rw [hd, List.take_zero]; show _ = some (HO.dT (kvT (toldRows 0 (B.take i) ++ []))); rw [List.append_nil]⟩ (fun _ _ _ _ _ => trivial) ?_ ?_
    · rintro j x σ H3 H4 hj ⟨v3, rfl, sm, hd⟩ ⟨rfl, hx⟩
      have hx : x = .int (j : Nat) := by rw [hx]; show V.int (0 + (j : Nat)) = _; rw [Int.zero_add]
      subst hx
      rw [List.length_map, hw0] at hj
      obtain ⟨o, ho⟩ : ∃ o, row[j]? = some o := ⟨_, List.getElem?_eq_getElem (by omega)⟩
      obtain ⟨q, f0, f1, hq⟩ := (bx.same sm).get hBi
      have etk : toldRow i 0 (row.take (j + 1)) = toldRow i 0 (row.take j) ++ add1 i j o := toldRow_take ho
      refine ⟨_, rfl, _, rfl, a, _, (i : Nat), _, rfl, rfl, SqT.of (sm _ _ bx.at_), atI_nat f1, _, rfl, q, _, (j : Nat), _, rfl, rfl, SqT.of hq, atI_nat (at_map bv ho), rfl, _, rfl, ?_⟩
      cases o with
      | none =>
        refine iteF ?_
        exact ⟨_, rfl, sm, by rw [hd, etk]; show _ = some (HO.dT (kvT (toldRows 0 (B.take i) ++ (toldRow i 0 (row.take j) ++ [])))); rw [List.append_nil]⟩
      | some u =>
        refine iteT ?_
        refine ⟨_, rfl, _, rfl, a, _, (i : Nat), _, rfl, rfl, SqT.of (sm _ _ bx.at_), atI_nat f1, _, rfl, q, _, (j : Nat), _, rfl, rfl, SqT.of hq, atI_nat (at_map bv ho), _, rfl, _, rfl, _, rfl, by show 2 ≤ sizeLine; exact sz (by omega), fun Tk nTk => ?_⟩
        have fresh : ∀ v, ((i, j), v) ∉ toldRows 0 (B.take i) ++ toldRow i 0 (row.take j) := told_fresh
        have hlen : (kvT (toldRows 0 (B.take i) ++ toldRow i 0 (row.take j))).length ≤ 100000 := by
          rw [kvT_len]
          have := told_part wf (i := i) (j := j) hrm
          omega
        refine ⟨d, _, rfl, DPut.t (k := kk (i, j)) (by rw [upd_ne (ne_of_none hd nTk)]; exact hd) upd_same (szl hlen), ?_⟩
        refine ⟨_, rfl, fun b o e => ?_, ?_⟩
        · rw [upd_ne (ne_of_none e nd0), upd_ne (ne_of_none (sm _ _ e) nTk)]
          exact sm _ _ e
        · rw [upd_same, etk]
          show some (HO.dT (putK _ (kk (i, j)) (V.str (S u)))) = _
          rw [kvT_put fresh, List.append_assoc] <;> rfl
    · rintro σ H3 ⟨v3, rfl, sm, hd⟩
      refine ⟨_, _, rfl, sm, ?_⟩
      rw [show ((r0.map bv).length : Int).toNat = row.length by rw [List.length_map, hw0, hrl]; omega, List.take_length, ← toldRows_take hBi] at hd
      exact hd
  · rintro σ H1 ⟨v2, v3, rfl, sm, hd⟩
    rw [en, List.take_length] at hd
    exact ⟨_, rfl, k d H1 sm nd0 hd⟩
theorem told_row {B : Bx} {W : Nat} {n i j : Nat} {u : List Nat} (wf : Wf n B W) (m : ((i, j), u) ∈ told B) : ∃ row, B[i]? = some row ∧ row[j]? = some (some u) := mem_told.mp m
theorem c_tells (T : Tx K mg) : Cal P w K mg base 2 "_law_tells" (sp2 prTells) [] := by
  refine cal2 (N := ["_law_boxes_here", "_law_way", "_law_found", "_law_at", "_law_form_here"]) (p1 := "_law_boxes_here") (p2 := "_law_way") T.d_law_tells (by decide +kernel) (fun _ _ _ _ _ _ us hl => match us, hl with | [_, _], _ => rfl) fun f cdv A outer s H a1 a2 Q E nd hr h => ?_
  obtain ⟨a, wy, rs, B, W, i0, j0, ts, fs, rfl, rfl, bx, wf, hwy, hts, way, hl, k⟩ := h
  refine ⟨_, pss_cons (ps_set (i := 2) nd rfl (.inl rfl) pe_str)
    (pss_cons (ps_for PassesOwn.never rfl (pi_range1 (by rfl) T.m_range (pa_cons (pe_callB call_len_seq (by rfl) T.m_len boot_len (pa_cons (pv 1) pa_nil)) pa_nil)) (pg_name (i := 3) nd rfl (.inl rfl))
      (pss_cons (ps_set (i := 4) nd rfl (.inl rfl) (pe_ix ix_tup (pe_ix ix_tup (pv 0) (pe_ix ix_tup (pe_ix ix_tup (pv 1) (pv 3) (fun _ _ => rfl)) pe_int (fun _ _ => rfl)) (fun _ _ => rfl)) (pe_ix ix_tup (pe_ix ix_tup (pv 1) (pv 3) (fun _ _ => rfl)) pe_int (fun _ _ => rfl)) (fun _ _ => rfl)))
      (pss_one (ps_set (i := 2) nd rfl (.inl rfl) (pe_op op_add_str (pv 2) (pe_ifExp (pt_cmpR op_eq (pe_op op_mod (pe_callTy call_int1 (by rfl) T.m_int bo_int (pa_cons (pv 3) pa_nil)) pe_int) pe_int (nomark _)) (pv 4) (pe_c (c_undone T) hr (by decide) (by rfl) (pa_cons (pv 4) pa_nil))))))))
    (pss_one (ps_ret (pe_c (c_struck T) hr (by decide) (by rfl) (pa_cons (pv 2) pa_nil))))), ?_⟩
  obtain ⟨w1, w2⟩ := way.at_
  rw [List.length_map] at w1
  have ffm : ∀ f ∈ fs, Fm 30 f := fun f hf => by
    obtain ⟨n, hn⟩ := List.getElem?_of_mem hf
    have hlt := (List.getElem?_eq_some_iff.mp hn).1
    obtain ⟨f', h1, h2⟩ := w2 n _ (List.getElem?_eq_getElem (by rw [List.length_map]; omega))
    rw [hn] at h1
    rw [Option.some.inj h1]
    exact (wf.told h2).2.2
  have al : ∀ n, (alt true (fs.take n)).length ≤ 30 * n := by
    intro n
    induction n with
    | zero => exact Nat.le_refl _
    | succ n ih =>
      cases e : fs[n]? with
      | none => rw [List.take_succ, e]; show (alt true (fs.take n ++ [])).length ≤ _; rw [List.append_nil]; omega
      | some f =>
        have := (ffm f (List.mem_of_getElem? e)).1
        rw [alt_take e, List.length_append]
        split
        · omega
        · rw [inv_len]; omega
  refine ⟨_, rfl, wy, _, rfl, .inr (SqT.of hwy), _, rfl, by rw [List.length_map]; omega, by rw [List.length_map]; omega, ?_⟩
  refine for_it (walk_range (lo := 0) (n := ((ts.map tri).length : Int).toNat)) (fun n σ H1 => ∃ v3 v4, σ = [some (V.ref a), some (V.ref wy), some (tx (alt true (fs.take n))), v3, v4] ∧ Same H H1)
    ⟨_, _, rfl, Same.refl _⟩ (fun _ _ _ _ _ => trivial) ?_ ?_
  · rintro n x σ H2 H1 hn ⟨v3, v4, rfl, sm⟩ ⟨rfl, hx⟩
    have hx : x = .int (n : Nat) := by rw [hx]; show V.int (0 + (n : Nat)) = _; rw [Int.zero_add]
    subst hx
    rw [List.length_map] at hn
    obtain ⟨⟨q, b1, b2⟩, ht⟩ : ∃ t, ts[n]? = some t := ⟨_, List.getElem?_eq_getElem (by omega)⟩
    have hq := sm _ _ (hts q b1 b2 (List.mem_of_getElem? ht))
    obtain ⟨f, hf, hm⟩ := w2 n (b1, b2) (at_map (·.2) ht)
    obtain ⟨row, hB, hrow⟩ := mem_told.mp hm
    obtain ⟨qr, f0, f1, hqr⟩ := (bx.same sm).get hB
    have fm := ffm f (List.mem_of_getElem? hf)
    have z1 := fm.1
    have z2 := al n
    have hwy1 := sm _ _ hwy
    refine ⟨_, rfl, _, rfl, _, rfl, wy, _, (n : Nat), _, rfl, rfl, SqT.of hwy1, atI_nat (at_map tri ht), q, _, 0, _, rfl, rfl, SqT.of hq, rfl, a, _, (b1 : Nat), _, rfl, rfl, SqT.of (sm _ _ bx.at_), atI_nat f1, ?_⟩
    refine ⟨_, rfl, _, rfl, wy, _, (n : Nat), _, rfl, rfl, SqT.of hwy1, atI_nat (at_map tri ht), q, _, 1, _, rfl, rfl, SqT.of hq, rfl, qr, _, (b2 : Nat), _, rfl, rfl, SqT.of hqr, atI_nat (at_map bv hrow), ?_⟩
    refine ⟨_, rfl, _, rfl, .inl ⟨_, rfl, _, _, rfl, rfl, by show (0 : Int) < 2; decide, rfl, _, rfl, ?_⟩⟩
    by_cases ev : n % 2 = 0
    · rw [show decide (V.int ((n : Nat) % 2 : Int) = V.int 0) = true from decide_eq_true (by congr 1; omega)]
      refine iteT ?_
      refine ⟨_, rfl, S _, S f, rfl, rfl, by rw [S_len, S_len]; exact sz (by omega), ?_⟩
      rw [S_cat]
      exact ⟨_, _, by rw [alt_take hf, if_pos ev] <;> rfl, sm⟩
    · rw [show decide (V.int ((n : Nat) % 2 : Int) = V.int 0) = false from decide_eq_false (fun z => by have := V.int.inj z; omega)]
      refine iteF ?_
      refine ⟨_, rfl, _, rfl, f, rfl, (form_str fm.2).wd, by omega, fun H3 sm3 => ?_⟩
      refine ⟨S _, S (inv f), rfl, rfl, by rw [S_len, S_len, inv_len]; exact sz (by omega), ?_⟩
      rw [S_cat]
      exact ⟨_, _, by rw [alt_take hf, if_neg ev] <;> rfl, sm.trans sm3⟩
  · rintro σ H1 ⟨v3, v4, rfl, sm⟩
    have e : alt true (fs.take ((ts.map tri).length : Int).toNat) = tell fs := by
      rw [List.take_of_length_le (by rw [List.length_map]; omega), alt_tell]
    have hw : Wd (tell fs) := by rw [← alt_tell]; exact alt_wd fs true fun f hf => (form_str (ffm f hf).2).wd
    have z := al fs.length
    rw [List.take_length, alt_tell] at z
    rw [e]
    exact ⟨_, rfl, _, rfl, tell fs, rfl, hw, by omega, fun H2 sm2 => k H2 (sm.trans sm2)⟩
end
end FtP
set_option Elab.async false
set_option linter.all false
set_option maxRecDepth 100000
set_option maxHeartbeats 4000000
namespace Ft
/-- a turn over the told boxes: closed, grown, or not yet grown and closed so far -/
def Gr (T : Told) (t : Nat) (S E : Dt) (n : Nat) : Prop := Shut T S E ∨ t + 2 ≤ S.length + E.length ∨ (t + 1 ≤ S.length + E.length ∧ ∀ e ∈ T.take n, (e.1.1 ∈ S.map (·.1) ↔ e.1.2 ∈ E.map (·.1)))
theorem Gr.start {T : Told} {t : Nat} {S E : Dt} (h : Shut T S E ∨ t + 1 ≤ S.length + E.length) : Gr T t S E 0 := by
  rcases h with h | h
  · exact .inl h
  · exact .inr (.inr ⟨h, fun e he => by simp at he⟩)
theorem Gr.done {T : Told} {t : Nat} {S E : Dt} (h : Gr T t S E T.length) : Shut T S E ∨ t + 1 + 1 ≤ S.length + E.length := by
  rcases h with h | h | ⟨_, h⟩
  · exact .inl h
  · exact .inr h
  · exact .inl fun i j f m => h ((i, j), f) (by rw [List.take_length]; exact m)
theorem Gr.grow {T : Told} {t n i j : Nat} {f : List Nat} {S E S' E' : Dt} (h : Gr T t S E n) (m : ((i, j), f) ∈ T) (hn : ¬ (i ∈ S.map (·.1) ↔ j ∈ E.map (·.1))) (hl : S'.length + E'.length = S.length + E.length + 1) (n' : Nat) : Gr T t S' E' n' := by
  rcases h with h | h | ⟨h, _⟩
  · exact absurd (h i j f m) hn
  · exact .inr (.inl (by omega))
  · exact .inr (.inl (by omega))
theorem Gr.keep {T : Told} {t n i j : Nat} {f : List Nat} {S E : Dt} (h : Gr T t S E n) (hT : T[n]? = some ((i, j), f)) (hi : i ∈ S.map (·.1) ↔ j ∈ E.map (·.1)) : Gr T t S E (n + 1) := by
  rcases h with h | h | ⟨h, k⟩
  · exact .inl h
  · exact .inr (.inl h)
  · refine .inr (.inr ⟨h, fun e he => ?_⟩)
    rw [List.take_succ, hT] at he
    rcases List.mem_append.mp he with z | z
    · exact k e z
    · rw [show e = ((i, j), f) by simpa using z]
      exact hi
end Ft
namespace FtP
open PySem PySem.Spec PyProof.Rows L2 SX Ft FtT FtR C8
/-- the three dicts of _law_levels -/
structure LL (H0 H : Hp) (sa ea d : Addr) (oD : HO) (S E : Dt) : Prop where
  sm : Same H0 H
  hs : H sa = some (.dK (kvN tx S))
  he : H ea = some (.dK (kvN tx E))
  hd : H d = some oD
  n1 : H0 sa = none
  n2 : H0 ea = none
  n3 : H0 d = none
  se : sa ≠ ea
  sd : sa ≠ d
  ed : ea ≠ d
section
variable {H0 H H' : Hp} {sa ea d : Addr} {oD : HO} {S E : Dt}
theorem LL.same (x : LL H0 H sa ea d oD S E) (s : Same H H') : LL H0 H' sa ea d oD S E := ⟨x.sm.trans s, s _ _ x.hs, s _ _ x.he, s _ _ x.hd, x.n1, x.n2, x.n3, x.se, x.sd, x.ed⟩
theorem LL.atD (x : LL H0 H sa ea d oD S E) (o : HO) : LL H0 (upd H d o) sa ea d o S E :=
  ⟨fun b u e => by rw [upd_ne (ne_of_none e x.n3)]; exact x.sm b u e, by rw [upd_ne x.sd]; exact x.hs, by rw [upd_ne x.ed]; exact x.he, upd_same, x.n1, x.n2, x.n3, x.se, x.sd, x.ed⟩
theorem LL.atS (x : LL H0 H sa ea d oD S E) (S' : Dt) {kvs : List (Key × V)} (e : kvs = kvN tx S') : LL H0 (upd H sa (.dK kvs)) sa ea d oD S' E :=
  ⟨fun b u e => by rw [upd_ne (ne_of_none e x.n1)]; exact x.sm b u e, by rw [upd_same, e], by rw [upd_ne x.se.symm]; exact x.he, by rw [upd_ne x.sd.symm]; exact x.hd, x.n1, x.n2, x.n3, x.se, x.sd, x.ed⟩
theorem LL.atE (x : LL H0 H sa ea d oD S E) (E' : Dt) {kvs : List (Key × V)} (e : kvs = kvN tx E') : LL H0 (upd H ea (.dK kvs)) sa ea d oD S E' :=
  ⟨fun b u e => by rw [upd_ne (ne_of_none e x.n2)]; exact x.sm b u e, by rw [upd_ne x.se]; exact x.hs, by rw [upd_same, e], by rw [upd_ne x.ed.symm]; exact x.hd, x.n1, x.n2, x.n3, x.se, x.sd, x.ed⟩
end
def prLLevels : Pr2 := fun a b H Q _ => ∃ (bx : Addr) (rs : List Addr) (B : Bx) (W r : Nat), a = .ref bx ∧ b = .int (r : Nat) ∧ BoxesAt H bx rs B ∧ Wf 30 B W ∧ r < B.length ∧
  ∀ p sa ea S E H', Same H H' → H' p = some (.tup [.ref sa, .ref ea]) → H' sa = some (.dK (kvN tx S)) → H' ea = some (.dK (kvN tx E)) → Lv (told B) r S E → Shut (told B) S E → Q (.ref p) H'
theorem fget {H : Hp} {a b : Addr} {kvs : List (List Key × V)} {k : List Key} {od : Obj} (e : H a = some (.frz od (.dT kvs))) (eb : H b = some (.tup (k.map kV))) : DGet H a (.ref b) (valV kvs k) := .inr ⟨kvs, k, b, .inr ⟨od, e⟩, rfl, eb, rfl⟩
section
variable {P : Program} {w : World} {K : PySem.W.Frag} {mg : Str → Option Value} {base : Heap}
abbrev nLev : List Str := ["_law_boxes_here", "_law_row", "_law_stems", "_law_endings", "_law_told_here", "_law_turn", "_law_one", "_law_other"]
theorem c_llevels (T : Tx K mg) : Cal P w K mg base 2 "_law_levels" (sp2 prLLevels) [] := by
  refine cal2 (N := nLev) (p1 := "_law_boxes_here") (p2 := "_law_row") T.d_law_levels (by decide +kernel) (fun _ _ _ _ _ _ us hl => match us, hl with | [_, _], _ => rfl) fun f cdv A outer s H a1 a2 Q E nd hr h => ?_
  have hu := hu_of hr
  obtain ⟨a, rs, B, W, r, rfl, rfl, bx, wf, hrB, k⟩ := h
  refine ⟨_, pss_cons (ps_set (i := 2) nd rfl (.inl rfl) (pe_disp (pps_cons (pv 1) pe_str pps_nil) (by rfl) (by rfl) (fun z => by cases z) (by decide)))
    (pss_cons (ps_set (i := 3) nd rfl (.inl rfl) pe_dnewK)
    (pss_cons (ps_set (i := 4) nd rfl (.inl rfl) (pe_c (c_told T) hr (by decide) (by rfl) (pa_cons (pv 0) pa_nil)))
    (pss_cons (ps_for PassesOwn.never rfl (pi_range1 (by rfl) T.m_range (pa_cons (pe_op op_add (pe_callB call_len_seq (by rfl) T.m_len boot_len (pa_cons (pv 0) pa_nil)) (pe_callB call_len_seq (by rfl) T.m_len boot_len (pa_cons (pe_ix ix_tup (pv 0) pe_int (fun _ _ => rfl)) pa_nil))) pa_nil)) (pg_name (i := 5) nd rfl (.inl rfl))
      (pss_one (ps_lock (ps_for PassesOwn.never rfl (pi_keys (pv 4)) (pg_tup rfl (pgs_cons (pg_name (i := 6) nd rfl (.inl rfl)) (pgs_cons (pg_name (i := 7) nd rfl (.inl rfl)) pgs_nil)))
        (C8.pss_cut (ps_if (PW.pt (pw_and (pt_cmp (pc_din hu (pv 6) (pv 2))) (pw_and1 (pt_cmp (pc_dnotin hu (pv 7) (pv 3))))))
          (pss_one (ps_dput hu (pv 3) (pv 7) (pe_c (c_struck T) hr (by decide) (by rfl) (pa_cons (pe_op op_add_str (pe_c (c_undone T) hr (by decide) (by rfl) (pa_cons (pe_dget hu (pv 2) (pv 6) (fun _ _ => rfl)) pa_nil)) (pe_dget hu (pv 4) (pe_tup (pa_cons (pv 6) (pa_cons (pv 7) pa_nil))) (fun _ _ => rfl))) pa_nil)) rfl)) pss_nil)
        (pss_one (ps_if (PW.pt (pw_and (pt_cmp (pc_din hu (pv 7) (pv 3))) (pw_and1 (pt_cmp (pc_dnotin hu (pv 6) (pv 2))))))
          (pss_one (ps_dput hu (pv 2) (pv 6) (pe_c (c_struck T) hr (by decide) (by rfl) (pa_cons (pe_op op_add_str (pe_dget hu (pv 4) (pe_tup (pa_cons (pv 6) (pa_cons (pv 7) pa_nil))) (fun _ _ => rfl)) (pe_c (c_undone T) hr (by decide) (by rfl) (pa_cons (pe_dget hu (pv 3) (pv 7) (fun _ _ => rfl)) pa_nil))) pa_nil)) rfl)) pss_nil)))))))
    (pss_one (ps_ret (pe_tup (pa_cons (pv 2) (pa_cons (pv 3) pa_nil)))))))), ?_⟩
  intro sa nsa
  refine ⟨_, rfl, upd_same, [(Sum.inl (r : Int), .str (S []))], rfl, by show 1 ≤ 15; omega, ?_⟩
  intro ea nea
  have se : sa ≠ ea := fun z => by rw [← z, upd_same] at nea; cases nea
  have nea' : H ea = none := by rw [upd_ne se.symm, upd_ne se.symm] at nea; exact nea
  have e1 : upd (upd H sa (.dK [])) sa (.dK (mergeK [] [((Sum.inl (r : Int) : Key), V.str (S []))])) = upd H sa (.dK (kvN tx [(r, [])])) := upd_upd
  rw [e1] at nea ⊢
  have smA : Same H (upd (upd H sa (.dK (kvN tx [(r, [])]))) ea (.dK [])) := Same.put (Same.put (Same.refl _) nsa) nea'
  have hsA : (upd (upd H sa (.dK (kvN tx [(r, [])]))) ea (.dK [])) sa = some (.dK (kvN tx [(r, [])])) := by rw [upd_ne se, upd_same]
  have heA : (upd (upd H sa (.dK (kvN tx [(r, [])]))) ea (.dK [])) ea = some (.dK (kvN tx [])) := by rw [upd_same] <;> rfl
  generalize upd (upd H sa (.dK (kvN tx [(r, [])]))) ea (.dK []) = H1 at smA hsA heA
  refine ⟨_, rfl, _, rfl, a, rs, B, W, rfl, bx.same smA, wf, fun d H2 sm2 nd2 hd2 => ?_⟩
  have x2 : LL H H2 sa ea d (.dT (kvT (told B))) [(r, [])] [] := ⟨smA.trans sm2, sm2 _ _ hsA, sm2 _ _ heA, hd2, nsa, nea', Same.none smA nd2, se, ne_of_none hsA nd2, ne_of_none heA nd2⟩
  have tk := wf.tk
  have hB1 := wf.h1
  have hB2 := wf.h2
  have hW2 := wf.w2
  obtain ⟨r0, hr0⟩ : ∃ r, B[0]? = some r := ⟨B[0]'(by omega), List.getElem?_eq_getElem _⟩
  have hw0 : r0.length = W := wf.rows r0 (List.mem_of_getElem? hr0)
  obtain ⟨q0, e0, e1, hq0⟩ := (bx.same x2.sm).get hr0
  have lB : (rs.map V.ref).length = B.length := by rw [List.length_map, bx.len]
  have lW : (r0.map bv).length = W := by rw [List.length_map, hw0]
  refine ⟨_, rfl, a, _, rfl, .inr (SqT.of (x2.sm _ _ bx.at_)), _, rfl, a, _, 0, _, rfl, rfl, SqT.of (x2.sm _ _ bx.at_), atI_nat e1, q0, _, rfl, .inr (SqT.of hq0), _, _, rfl, rfl, _, rfl, by omega, by omega, ?_⟩
  refine for_it (walk_range (lo := 0) (n := (((rs.map V.ref).length : Int) + ((r0.map bv).length : Int)).toNat)) (fun t σ Hx => ∃ v5 v6 v7 S E, σ = [some (V.ref a), some (V.int (r : Nat)), some (V.ref sa), some (V.ref ea), some (V.ref d), v5, v6, v7] ∧ LL H Hx sa ea d (.dT (kvT (told B))) S E ∧ Lv (told B) r S E ∧ (Shut (told B) S E ∨ t + 1 ≤ S.length + E.length))
    ⟨_, _, _, _, _, rfl, x2, Lv.start _ _, .inr (Nat.le_refl _)⟩ (fun _ _ _ _ _ => trivial) ?_ ?_
  · rintro t x σ H3 H4 ht ⟨v5, v6, v7, St, En, rfl, x, L, g⟩ ⟨rfl, rfl⟩
    refine ⟨d, .dT (kvT (told B)), x.hd, trivial, fun od => ?_⟩
    refine ⟨_, rfl, d, od, rfl, .inr ⟨_, upd_same, ?_⟩⟩
    refine for_it walk_keysT (fun n σ Hx => ∃ v6 v7 S E, σ = [some (V.ref a), some (V.int (r : Nat)), some (V.ref sa), some (V.ref ea), some (V.ref d), some (V.int (0 + (t : Nat))), v6, v7] ∧ LL H Hx sa ea d (.frz od (.dT (kvT (told B)))) S E ∧ Lv (told B) r S E ∧ Gr (told B) t S E n)
      ⟨_, _, _, _, rfl, x.atD _, L, Gr.start g⟩ (fun i σ Hx _ h => by obtain ⟨_, _, _, _, _, h, _⟩ := h; exact h.hd) ?_ ?_
    · rintro n y σ H5 H6 hn ⟨v6, v7, St, En, rfl, x, L, g⟩ ⟨rfl, k1, v1, q, hkv, rfl, hq⟩
      obtain ⟨⟨i1, j1⟩, u, hT, rfl, rfl⟩ := kvT_get hkv
      have hq : H6 q = some (.tup [.int (i1 : Nat), .int (j1 : Nat)]) := hq
      have hm : ((i1, j1), u) ∈ told B := List.mem_of_getElem? hT
      have fm := (tk.rng _ _ _ hm).2.2
      have z2 := fm.1
      refine ⟨q, _, rfl, SqT.of hq, rfl, _, _, rfl, _, _, rfl, rfl, ?_⟩
      refine ⟨fun σ' Hx => σ' = [some (V.ref a), some (V.int (r : Nat)), some (V.ref sa), some (V.ref ea), some (V.ref d), some (V.int (0 + (t : Nat))), some (V.int (i1 : Nat)), some (V.int (j1 : Nat))] ∧ ∃ S E, LL H Hx sa ea d (.frz od (.dT (kvT (told B)))) S E ∧ Lv (told B) r S E ∧ Gr (told B) t S E n ∧ (i1 ∈ S.map (·.1) → j1 ∈ E.map (·.1)), ?_, ?_⟩
      · refine ⟨_, rfl, _, rfl, sa, _, rfl, DGet.k (k := Sum.inl (i1 : Int)) x.hs, _, rfl, ?_⟩
        rw [kvN_in L.ndS]
        by_cases e1 : i1 ∈ St.map (·.1)
        · rw [decide_eq_true e1]
          refine iteT ?_
          refine ⟨_, rfl, _, rfl, ea, _, rfl, DGet.k (k := Sum.inl (j1 : Int)) x.he, _, rfl, ?_⟩
          rw [kvN_in L.ndE]
          by_cases e2 : j1 ∈ En.map (·.1)
          · rw [decide_eq_true e2]
            exact iteF ⟨rfl, St, En, x, L, g, fun _ => e2⟩
          · rw [decide_eq_false e2]
            refine iteT ?_
            obtain ⟨s, hs, ls, vs⟩ := look_key L.ndS e1
            have z1 := (L.small tk hrB).1 _ _ hs
            refine ⟨_, rfl, _, rfl, sa, tx s, rfl, by have := DGet.k (k := Sum.inl (i1 : Int)) x.hs; rw [vs] at this; exact this, ?_⟩
            refine ⟨_, rfl, s, rfl, (L.strS _ _ hs).wd, by omega, fun H7 sm7 => ?_⟩
            have x := x.same sm7
            refine ⟨_, rfl, _, rfl, _, rfl, by show 2 ≤ sizeLine; exact sz (by omega), fun tq ntq => ?_⟩
            have x := x.same (Same.put (Same.refl _) ntq (o := .tup [.int (i1 : Nat), .int (j1 : Nat)]))
            refine ⟨d, tx u, rfl, by have := fget (k := kk (i1, j1)) x.hd upd_same; rw [kvT_some tk.keys hm] at this; exact this, ?_⟩
            refine ⟨S _, S u, rfl, rfl, by rw [S_len, S_len, inv_len]; exact sz (by omega), ?_⟩
            rw [S_cat]
            refine ⟨_, rfl, inv s ++ u, rfl, (L.strS _ _ hs).wd.inv.app (fm_str fm).wd, by rw [List.length_append, inv_len]; omega, fun H8 sm8 => ?_⟩
            have x := x.same sm8
            have hcl : (kvN tx En).length ≤ 100000 := by rw [kvN_len]; have := (L.lens tk hrB).2; omega
            refine ⟨_, rfl, _, rfl, ea, _, rfl, DPut.k (k := Sum.inl (j1 : Int)) x.he (szl hcl), ?_⟩
            have x' := x.atE (En ++ [(j1, nf (inv s ++ u))]) (kvN_put (g := tx) e2 _)
            exact ⟨rfl, _, _, x', L.addE tk hs hm e2, g.grow hm (fun z => e2 (z.mp e1)) (by rw [List.length_append]; show _ + (_ + 1) = _; omega) n, fun _ => by rw [List.map_append]; exact List.mem_append_right _ (by simp)⟩
        · rw [decide_eq_false e1]
          exact iteF (iteF ⟨rfl, St, En, x, L, g, fun z => absurd z e1⟩)
      · rintro σ' Hx ⟨rfl, St, En, x, L, g, h1⟩
        refine ⟨_, rfl, _, rfl, ea, _, rfl, DGet.k (k := Sum.inl (j1 : Int)) x.he, _, rfl, ?_⟩
        rw [kvN_in L.ndE]
        by_cases e2 : j1 ∈ En.map (·.1)
        · rw [decide_eq_true e2]
          refine iteT ?_
          refine ⟨_, rfl, _, rfl, sa, _, rfl, DGet.k (k := Sum.inl (i1 : Int)) x.hs, _, rfl, ?_⟩
          rw [kvN_in L.ndS]
          by_cases e1 : i1 ∈ St.map (·.1)
          · rw [decide_eq_true e1]
            exact iteF ⟨_, _, St, En, rfl, x, L, g.keep hT ⟨fun _ => e2, fun _ => e1⟩⟩
          · rw [decide_eq_false e1]
            refine iteT ?_
            obtain ⟨e, he, le, ve⟩ := look_key L.ndE e2
            have z1 := (L.small tk hrB).2 _ _ he
            refine ⟨_, rfl, _, rfl, _, rfl, by show 2 ≤ sizeLine; exact sz (by omega), fun tq ntq => ?_⟩
            have x := x.same (Same.put (Same.refl _) ntq (o := .tup [.int (i1 : Nat), .int (j1 : Nat)]))
            refine ⟨d, tx u, rfl, by have := fget (k := kk (i1, j1)) x.hd upd_same; rw [kvT_some tk.keys hm] at this; exact this, ?_⟩
            refine ⟨_, rfl, _, rfl, ea, tx e, rfl, by have := DGet.k (k := Sum.inl (j1 : Int)) x.he; rw [ve] at this; exact this, ?_⟩
            refine ⟨_, rfl, e, rfl, (L.strE _ _ he).wd, by omega, fun H7 sm7 => ?_⟩
            have x := x.same sm7
            refine ⟨S u, S _, rfl, rfl, by rw [S_len, S_len, inv_len]; exact sz (by omega), ?_⟩
            rw [S_cat]
            refine ⟨_, rfl, u ++ inv e, rfl, (fm_str fm).wd.app (L.strE _ _ he).wd.inv, by rw [List.length_append, inv_len]; omega, fun H8 sm8 => ?_⟩
            have x := x.same sm8
            have hcl : (kvN tx St).length ≤ 100000 := by rw [kvN_len]; have := (L.lens tk hrB).1; omega
            refine ⟨_, rfl, _, rfl, sa, _, rfl, DPut.k (k := Sum.inl (i1 : Int)) x.hs (szl hcl), ?_⟩
            have x' := x.atS (St ++ [(i1, nf (u ++ inv e))]) (kvN_put (g := tx) e1 _)
            exact ⟨_, _, _, _, rfl, x', L.addS tk he hm e1, g.grow hm (fun z => e1 (z.mpr e2)) (by rw [List.length_append]; show _ + 1 + _ = _; omega) (n + 1)⟩
        · rw [decide_eq_false e2]
          exact iteF (iteF ⟨_, _, St, En, rfl, x, L, g.keep hT ⟨h1, fun z => absurd z e2⟩⟩)
    · rintro σ Hx ⟨v6, v7, St, En, rfl, x, L, g⟩
      rw [kvT_len] at g
      exact ⟨x.hd, _, _, _, St, En, rfl, x.atD _, L, g.done⟩
  · rintro σ Hx ⟨v5, v6, v7, St, En, rfl, x, L, g⟩
    have ls := L.lens tk hrB
    have sh : Shut (told B) St En := by
      rcases g with g | g
      · exact g
      · omega
    refine ⟨_, rfl, _, rfl, by show 2 ≤ sizeLine; exact sz (by omega), fun p np => ?_⟩
    have x' := x.same (Same.put (Same.refl _) np (o := .tup [.ref sa, .ref ea]))
    exact k p sa ea St En _ x'.sm upd_same x'.hs x'.he L sh
end
end FtP
set_option Elab.async false
set_option linter.all false
set_option maxRecDepth 100000
set_option maxHeartbeats 4000000
namespace FtP
open PySem PySem.Spec PyProof.Rows L2 SX Ft FtT FtR C8
def prQuiet : Pr3 := fun a b e H Q _ => ∃ (bx sa ea : Addr) (rs : List Addr) (B : Bx) (W r : Nat) (S E : Dt), a = .ref bx ∧ b = .ref sa ∧ e = .ref ea ∧ BoxesAt H bx rs B ∧ Wf 30 B W ∧ r < B.length ∧ H sa = some (.dK (kvN tx S)) ∧ H ea = some (.dK (kvN tx E)) ∧ Lv (told B) r S E ∧ Shut (told B) S E ∧
  ∀ b H', Same H H' → (b = true ↔ Quiet (told B) (look S) (look E)) → Q (.bl b) H'
section
variable {P : Program} {w : World} {K : PySem.W.Frag} {mg : Str → Option Value} {base : Heap}
abbrev nQuiet : List Str := ["_law_boxes_here", "_law_stems", "_law_endings", "_law_told_here", "_law_box"]
theorem c_quiet (T : Tx K mg) : Cal P w K mg base 2 "_law_quiet" (sp3 prQuiet) [] := by
  refine cal3 (N := nQuiet) (p1 := "_law_boxes_here") (p2 := "_law_stems") (p3 := "_law_endings") T.d_law_quiet (by decide +kernel) (fun _ _ _ _ _ _ us hl => match us, hl with | [_, _, _], _ => rfl) fun f cdv A outer s H a1 a2 a3 Q E nd hr h => ?_
  have hu := hu_of hr
  obtain ⟨a, sa, ea, rs, B, W, r, St, En, rfl, rfl, rfl, bx, wf, hrB, hsa, hea, L, sh, k⟩ := h
  refine ⟨_, pss_cons (ps_set (i := 3) nd rfl (.inr rfl) (pe_c (c_told T) hr (by decide) (by rfl) (pa_cons (pv 0) pa_nil)))
    (pss_one (ps_lock (ps_ret (pe_callB (cr_all rfl) (by rfl) T.m_all bo_all (pa_cons (pe_lc (own := [("_law_box", 4)]) (g := gName 4) rfl nd (pi_keys (pv 3))
      (blkOk_by (own := [("_law_box", 4)]) (N := nQuiet) (sc := C8.fnScope (top 47)) (by decide +kernel)) (fun _ _ _ _ _ => pg_name (i := 4) nd rfl (Or.inl rfl))
      (fun _ _ _ _ _ => pts_one (pt_cmp (pc_din hu (pe_ix (ix_tupK (K := K) rfl) (pv 4) pe_int (fun _ _ => rfl)) (pv 1))))
      (fun _ _ _ _ _ => pe_cmpR op_eq (pe_c (c_struck T) hr (by decide) (by rfl) (pa_cons (pe_op op_add_str (pe_dget hu (pv 1) (pe_ix (ix_tupK (K := K) rfl) (pv 4) pe_int (fun _ _ => rfl)) (fun _ _ => rfl)) (pe_dget hu (pv 2) (pe_ix (ix_tupK (K := K) rfl) (pv 4) pe_int (fun _ _ => rfl)) (fun _ _ => rfl))) pa_nil)) (pe_dget hu (pv 3) (pv 4) (fun _ _ => rfl)) (nomark _))) pa_nil))))), ?_⟩
  have tk := wf.tk
  refine ⟨_, rfl, _, rfl, a, rs, B, W, rfl, bx, wf, fun d H2 sm2 nd2 hd2 => ?_⟩
  refine ⟨d, .dT (kvT (told B)), hd2, trivial, fun od => ?_⟩
  refine ⟨_, rfl, d, od, rfl, .inr ⟨_, upd_same, fun D nD => ?_⟩⟩
  have sm3 : Same H (upd H2 d (.frz od (.dT (kvT (told B))))) := fun b o e => by rw [upd_ne (ne_of_none e nd2)]; exact sm2 _ _ e
  have hd3 : (upd H2 d (.frz od (.dT (kvT (told B))))) d = some (.frz od (.dT (kvT (told B)))) := upd_same
  generalize upd H2 d (.frz od (.dT (kvT (told B)))) = H3 at sm3 hd3 nD
  have wl := wf.len
  refine lc_acc walk_keysT (by rw [kvT_len]; omega) (fun n acc Hx => ∃ bs : List Bool, acc = bs.map V.bl ∧ Same H3 Hx ∧ (bs.all id = true ↔ ∀ e ∈ (told B).take n, ∀ s e', look St e.1.1 = some s → look En e.1.2 = some e' → nf (s ++ e') = e.2))
    ⟨[], rfl, Same.put (Same.refl _) nD, by simp⟩ (fun i acc Hx _ h => by obtain ⟨_, _, sm, _⟩ := h; exact sm _ _ hd3) ?_ ?_
  · rintro n x acc H4 H5 Ky Kn hi hD ⟨bs, rfl, sm, hb⟩ ⟨rfl, k1, v1, q, hkv, rfl, hq⟩ ky kn
    obtain ⟨⟨i1, j1⟩, u, hT, rfl, rfl⟩ := kvT_get hkv
    have hq : H5 q = some (.tup [.int (i1 : Nat), .int (j1 : Nat)]) := hq
    have hm : ((i1, j1), u) ∈ told B := List.mem_of_getElem? hT
    have etk : (told B).take (n + 1) = (told B).take n ++ [((i1, j1), u)] := by rw [List.take_succ, hT] <;> rfl
    have smx := sm3.trans sm
    refine ⟨rfl, ?_⟩
    refine ⟨_, rfl, q, _, 0, _, rfl, rfl, SqT.of hq, rfl, _, rfl, sa, _, rfl, DGet.k (k := Sum.inl (i1 : Int)) (smx _ _ hsa), _, rfl, ?_⟩
    rw [kvN_in L.ndS]
    by_cases e1 : i1 ∈ St.map (·.1)
    · rw [decide_eq_true e1]
      refine iteT ?_
      obtain ⟨s, hs, ls, vs⟩ := look_key L.ndS e1
      obtain ⟨e, he, le, ve⟩ := look_key L.ndE ((sh _ _ _ hm).mp e1)
      have small := L.small tk hrB
      have z1 := small.1 _ _ hs
      have z2 := small.2 _ _ he
      refine ⟨_, rfl, _, rfl, q, _, 0, _, rfl, rfl, SqT.of hq, rfl, sa, tx s, rfl, by have := DGet.k (k := Sum.inl (i1 : Int)) (smx _ _ hsa); rw [vs] at this; exact this, ?_⟩
      refine ⟨_, rfl, _, rfl, q, _, 1, _, rfl, rfl, SqT.of hq, rfl, ea, tx e, rfl, by have := DGet.k (k := Sum.inl (j1 : Int)) (smx _ _ hea); rw [ve] at this; exact this, ?_⟩
      refine ⟨S s, S e, rfl, rfl, by rw [S_len, S_len]; exact sz (by omega), ?_⟩
      rw [S_cat]
      refine ⟨_, rfl, s ++ e, rfl, (L.strS _ _ hs).wd.app (L.strE _ _ he).wd, by rw [List.length_append]; omega, fun H6 sm6 => ?_⟩
      refine ⟨_, rfl, _, rfl, d, tx u, rfl, by have := fget (k := kk (i1, j1)) (sm6 _ _ (sm _ _ hd3)) (sm6 _ _ hq); rw [kvT_some tk.keys hm] at this; exact this, rfl, ?_⟩
      refine ky _ _ (sm6 _ _ hD) ⟨bs ++ [decide (V.str (S (nf (s ++ e))) = tx u)], by rw [List.map_append] <;> rfl, Same.put (sm.trans sm6) nD, ?_⟩
      rw [List.all_append, Bool.and_eq_true, hb, etk, show decide (V.str (S (nf (s ++ e))) = tx u) = decide (nf (s ++ e) = u) from dec_S _ _]
      constructor
      · rintro ⟨y1, y2⟩ x hx
        rcases List.mem_append.mp hx with z | z
        · exact y1 x z
        · rw [List.mem_singleton.mp z]
          intro s' e' q1 q2
          have q1 : look St i1 = some s' := q1
          have q2 : look En j1 = some e' := q2
          rw [ls] at q1
          rw [le] at q2
          cases q1
          cases q2
          have : decide (nf (s ++ e) = u) = true := by simpa using y2
          exact of_decide_eq_true this
      · intro y
        refine ⟨fun x hx => y x (List.mem_append_left _ hx), ?_⟩
        have : nf (s ++ e) = u := y _ (List.mem_append_right _ (List.mem_singleton.mpr rfl)) s e ls le
        simp [this]
    · rw [decide_eq_false e1]
      refine iteF (kn _ hD ⟨bs, rfl, sm, ?_⟩)
      rw [hb, etk]
      constructor
      · intro y x hx
        rcases List.mem_append.mp hx with z | z
        · exact y x z
        · rw [List.mem_singleton.mp z]
          intro s' e' q1 q2
          exact absurd (look_is.mp (by show (look St i1).isSome; rw [show look St i1 = some s' from q1] <;> rfl)) e1
      · exact fun y x hx => y x (List.mem_append_left _ hx)
  · rintro acc H4 hD _ ⟨bs, rfl, sm, hb⟩
    rw [kvT_len, List.take_length] at hb
    refine ⟨D, _, rfl, SqL.of hD, sm _ _ hd3, ?_⟩
    refine k _ _ (fun b o e => ?_) ⟨fun y i j f s e m hs he => hb.mp y _ m s e hs he, fun qt => hb.mpr fun x hx s e hs he => qt _ _ _ _ _ hx hs he⟩
    rw [upd_ne (ne_of_none e nd2)]
    exact sm _ _ (sm3 _ _ e)
end
end FtP
set_option Elab.async false
set_option linter.all false
set_option maxRecDepth 100000
set_option maxHeartbeats 4000000
namespace Ft
/-- what the next box of a walk must share -/
def Nxt (r : Nat) (ts : List Tri) (a b : Nat) : Prop := (ts = [] → a = r) ∧ ∀ q a' b', ts.getLast? = some (q, a', b') → if ts.length % 2 = 1 then b = b' else a = a'
/-- a walk of told boxes from the row r -/
def Wk (T : Told) (r : Nat) (ts : List Tri) : Prop :=
  ts = [] ∨ (ts.length % 2 = 1 ∧ ∃ fs q a b, ts.getLast? = some (q, a, b) ∧ Way T r (ts.map (·.2)) fs b) ∨
    (ts.length % 2 = 0 ∧ ∃ bs fs q a c f, ts = bs ++ [(q, a, c)] ∧ Way T r (bs.map (·.2)) fs c ∧ ((a, c), f) ∈ T)
theorem Wk.step {T : Told} {r q a b : Nat} {f : List Nat} {ts : List Tri} (h : Wk T r ts) (n : Nxt r ts a b) (m : ((a, b), f) ∈ T) : Wk T r (ts ++ [(q, a, b)]) := by
  rcases h with h | ⟨h1, fs, q', a', b', h2, h3⟩ | ⟨h1, bs, fs, q', a', c, g, h2, h3, h4⟩
  · have e := n.1 h
    rw [h, ← e]
    exact .inr (.inl ⟨rfl, _, q, a, b, rfl, .one m⟩)
  · have e := n.2 _ _ _ h2
    rw [if_pos h1] at e
    subst e
    exact .inr (.inr ⟨by rw [List.length_append]; show (_ + 1) % 2 = 0; omega, ts, fs, q, a, b, f, rfl, h3, m⟩)
  · have e := n.2 q' a' c (by rw [h2, List.getLast?_append] <;> rfl)
    rw [if_neg (by omega)] at e
    subst e
    refine .inr (.inl ⟨by rw [List.length_append]; show (_ + 1) % 2 = 1; omega, fs ++ [g, f], q, a, b, by rw [List.getLast?_append] <;> rfl, ?_⟩)
    rw [h2, List.map_append, List.map_append, List.append_assoc]
    exact h3.snoc h4 m
end Ft
namespace FtP
open PySem PySem.Spec PyProof.Rows L2 SX Ft FtT FtR C8
def rNeDK (K : PySem.W.Frag) : R2 := rNeD K
theorem op_neDK {X : Cx} {K : PySem.W.Frag} (h : X.K = K) (hu : X.A.units + 64 < cLine) : OpR X (compareOp .NotEq) (rNeD K) := by
  rw [← h]
  exact op_neD hu
/-- boxes of a walk, their own tuples -/
def TrAt (H : Hp) (ts : List Tri) : Prop := ∀ q a b, (q, a, b) ∈ ts → H q = some (.tup [.int (a : Nat), .int (b : Nat)])
/-- the lists and the dict of _law_walk -/
structure Wl (p c : Addr) (H0 H : Hp) (d F : Addr) (oD : HO) (ts : List Tri) : Prop where
  pl : Pool H p c
  kp : Kp p c H0 H
  hd : H d = some oD
  hF : H F = some (.lst (ts.map tri))
  ht : TrAt H ts
  d1 : d ≠ p
  d2 : d ≠ c
  f1 : F ≠ p
  f2 : F ≠ c
  dF : d ≠ F
  nd : H0 d = none
  nF : H0 F = none
section
variable {p c : Addr} {H0 H H' : Hp} {d F : Addr} {oD : HO} {ts : List Tri}
theorem TrAt.same (h : TrAt H ts) (s : Same H H') : TrAt H' ts := fun q a b m => s _ _ (h q a b m)
theorem TrAt.kp (h : TrAt H ts) (pl : Pool H p c) (k : Kp p c H H') : TrAt H' ts := fun q a b m => k _ _ (h q a b m) (pl.ne_tup (h q a b m)).1 (pl.ne_tup (h q a b m)).2
theorem Wl.step (x : Wl p c H0 H d F oD ts) (pl : Pool H' p c) (k : Kp p c H H') : Wl p c H0 H' d F oD ts :=
  ⟨pl, x.kp.trans k, k _ _ x.hd x.d1 x.d2, k _ _ x.hF x.f1 x.f2, x.ht.kp x.pl k, x.d1, x.d2, x.f1, x.f2, x.dF, x.nd, x.nF⟩
theorem Wl.same (x : Wl p c H0 H d F oD ts) (s : Same H H') : Wl p c H0 H' d F oD ts := x.step (x.pl.same s) (Kp.of s)
theorem Wl.atD (x : Wl p c H0 H d F oD ts) (h : ∀ xs, oD ≠ .tup xs) (o : HO) : Wl p c H0 (upd H d o) d F o ts :=
  ⟨x.pl.put x.d1 x.d2, fun b u e n1 n2 => by rw [upd_ne (ne_of_none e x.nd)]; exact x.kp b u e n1 n2, upd_same, by rw [upd_ne x.dF.symm]; exact x.hF,
    fun q a b m => by rw [upd_ne (ne_of (x.ht q a b m) x.hd (h _).symm)]; exact x.ht q a b m, x.d1, x.d2, x.f1, x.f2, x.dF, x.nd, x.nF⟩
theorem Wl.atF (x : Wl p c H0 H d F oD ts) (t : Tri) (hq : H t.1 = some (.tup [.int (t.2.1 : Nat), .int (t.2.2 : Nat)])) : Wl p c H0 (upd H F (.lst ((ts ++ [t]).map tri))) d F oD (ts ++ [t]) :=
  ⟨x.pl.put x.f1 x.f2, fun b u e n1 n2 => by rw [upd_ne (ne_of_none e x.nF)]; exact x.kp b u e n1 n2, by rw [upd_ne x.dF]; exact x.hd, upd_same,
    fun q a b m => by
      rcases List.mem_append.mp m with z | z
      · rw [upd_ne (tup_ne_lst (x.ht q a b z) x.hF)]; exact x.ht q a b z
      · rw [← List.mem_singleton.mp z] at hq
        rw [upd_ne (tup_ne_lst hq x.hF)]; exact hq, x.d1, x.d2, x.f1, x.f2, x.dF, x.nd, x.nF⟩
end
/-- the boxes that may come next -/
structure Go (T : Told) (r : Nat) (ts : List Tri) (H : Hp) (g : Addr) (gs : List Tri) : Prop where
  hg : H g = some (.lst (gs.map tri))
  ht : TrAt H gs
  hn : ∀ q a b, (q, a, b) ∈ gs → (∃ f, ((a, b), f) ∈ T) ∧ Nxt r ts a b
  len : gs.length ≤ 144
/-- [box for box in told_here if ..] -/
theorem lc_going {T : Told} {d D : Addr} {od : Obj} {H3 : Hp} {tt : TT} {vs : List Nat} {σ : L2.St} {j : Nat} {Qd : Hp → Prop} (wl : T.length ≤ 144) (hd3 : H3 d = some (.frz od (.dT (kvT T)))) (nD : H3 D = none)
    (hw : ∀ x, wipe ((wipe σ vs).set j (some x)) vs = wipe σ vs) (hj : ∀ x, ((wipe σ vs).set j (some x))[j]? = some (some x)) (C : Nat → Nat → Prop)
    (ht : ∀ q a b H' (Kt : Bool → Hp → Prop), Same H3 H' → H' q = some (.tup [.int (a : Nat), .int (b : Nat)]) → (∀ bo : Bool, (bo = true → C a b) → Kt bo H') → tt ((wipe σ vs).set j (some (.ref q))) H' Kt)
    (hd : ∀ (gs : List Tri) H', H' D = some (.lst (gs.map tri)) → Same H3 H' → TrAt H' gs → (∀ q a b, (q, a, b) ∈ gs → (∃ f, ((a, b), f) ∈ T) ∧ C a b) → gs.length ≤ 144 → Qd H') :
    ∃ W : Nat → Nat → Hp → Prop, (∃ m, W 0 m (upd H3 D (.lst []))) ∧ ∀ i m H, W i m H →
      ((Itkt d od (kvT T)).stop i H ∧ Qd H) ∨ ((Itkt d od (kvT T)).go i H ∧ ∃ Nx : Hp → Prop, (∀ H', Nx H' → ∃ m', m' < m ∧ W (i + 1) m' H') ∧ ∀ x H', (Itkt d od (kvT T)).yld i H x H' → gName j x (wipe σ vs) H' fun σ2 H2 => wipe σ2 vs = wipe σ vs ∧ tt σ2 H2 fun b H3 =>
        if b = true then (tVar j) σ2 H3 fun y H4 => ∃ acc, H4 D = some (.lst acc) ∧ acc.length < sizeLine ∧ Nx (upd H4 D (.lst (acc ++ [y]))) else Nx H3) := by
  refine lc_acc walk_keysT (by rw [kvT_len]; omega) (fun n acc Hx => ∃ gs : List Tri, acc = gs.map tri ∧ Same H3 Hx ∧ TrAt Hx gs ∧ ∀ q a b, (q, a, b) ∈ gs → (∃ f, ((a, b), f) ∈ T) ∧ C a b)
    ⟨[], rfl, Same.put (Same.refl _) nD, fun _ _ _ h => by simp at h, fun _ _ _ h => by simp at h⟩ (fun i acc Hx _ h => by obtain ⟨_, _, sm, _⟩ := h; exact sm _ _ hd3) ?_ ?_
  · rintro n x acc H4 H5 Ky Kn hi hD ⟨gs, rfl, sm, tr, hC⟩ ⟨rfl, k1, v1, q, hkv, rfl, hq⟩ ky kn
    obtain ⟨⟨i1, j1⟩, u, hT, rfl, rfl⟩ := kvT_get hkv
    have hq : H5 q = some (.tup [.int (i1 : Nat), .int (j1 : Nat)]) := hq
    have hm : ((i1, j1), u) ∈ T := List.mem_of_getElem? hT
    refine ⟨hw _, ht q i1 j1 H5 _ sm hq fun bo hbo => ?_⟩
    cases bo with
    | true =>
      refine iteT ⟨_, hj _, ky _ _ hD ⟨gs ++ [(q, i1, j1)], by rw [List.map_append] <;> rfl, Same.put sm nD, fun q' a b m => ?_, fun q' a b m => ?_⟩⟩
      · rcases List.mem_append.mp m with z | z
        · rw [upd_ne (tup_ne_lst (tr q' a b z) hD)]
          exact tr q' a b z
        · obtain ⟨rfl, rfl, rfl⟩ : q' = q ∧ a = i1 ∧ b = j1 := by simpa using z
          rw [upd_ne (tup_ne_lst hq hD)]
          exact hq
      · rcases List.mem_append.mp m with z | z
        · exact hC q' a b z
        · obtain ⟨rfl, rfl, rfl⟩ : q' = q ∧ a = i1 ∧ b = j1 := by simpa using z
          exact ⟨⟨u, hm⟩, hbo rfl⟩
    | false => exact iteF (kn _ hD ⟨gs, rfl, sm, tr, hC⟩)
  · rintro acc H4 hD hl ⟨gs, rfl, sm, tr, hC⟩
    rw [List.length_map, kvT_len] at hl
    exact hd gs H4 hD sm tr hC (by omega)
def pk (ix a b : Nat) : Nat := if ix = 1 then b else a
theorem pk_at {ix a b : Nat} (h : ix ≤ 1) : atI [V.int (a : Nat), V.int (b : Nat)] (ix : Nat) = some (nv (pk ix a b)) := by
  refine atI_nat ?_
  match ix, h with
  | 0, _ => rfl
  | 1, _ => rfl
theorem dec_nv (a b : Nat) : decide (nv a = nv b) = decide (a = b) := by
  by_cases e : a = b
  · rw [decide_eq_true e, decide_eq_true (by rw [e])]
  · rw [decide_eq_false e, decide_eq_false (fun z => e (by have := V.int.inj z; omega))]
def prWalk : Pr4 := fun a b e m H Q _ => ∃ (p c bx : Addr) (rs : List Addr) (B : Bx) (W r n : Nat), a = .ref p ∧ b = .ref bx ∧ e = .int (r : Nat) ∧ m = .int (n : Nat) ∧ n ≤ 20 ∧ Pool H p c ∧ BoxesAt H bx rs B ∧ Wf 30 B W ∧
  ∀ wy ts H', Pool H' p c → Kp p c H H' → H' wy = some (.tup (ts.map tri)) → TrAt H' ts → ts.length ≤ n → Wk (told B) r ts → Q (.ref wy) H'
section
variable {P : Program} {w : World} {K : PySem.W.Frag} {mg : Str → Option Value} {base : Heap}
abbrev nWalk : List Str := ["_law_pool_here", "_law_boxes_here", "_law_row", "_law_many", "_law_told_here", "_law_found", "_law_going", "_law_turn", "_law_same", "_law_box"]
theorem c_walk (T : Tx K mg) : Cal P w K mg base 2 "_law_walk" (sp4 prWalk) [] := by
  refine cal4 (N := nWalk) (p1 := "_law_pool_here") (p2 := "_law_boxes_here") (p3 := "_law_row") (p4 := "_law_many") T.d_law_walk (by decide +kernel) (fun _ _ _ _ _ _ us hl => match us, hl with | [_, _, _, _], _ => rfl) fun f cdv A outer s H a1 a2 a3 a4 Q E nd hr h => ?_
  have hu := hu_of hr
  obtain ⟨p, c, a, rs, B, W, r, m, rfl, rfl, rfl, rfl, hm, pl, bx, wf, k⟩ := h
  refine ⟨_, pss_cons (ps_set (i := 4) nd rfl (.inl rfl) (pe_c (c_told T) hr (by decide) (by rfl) (pa_cons (pv 1) pa_nil)))
    (pss_cons (ps_set (i := 5) nd rfl (.inr rfl) (pe_lst pa_nil))
    (pss_cons (ps_lock (ps_setLc (i := 6) (own := [("_law_box", 9)]) (g := gName 9) rfl nd rfl rfl (sw_true rfl rfl rfl (by decide +kernel)) (pi_keys (pv 4))
      (blkOk_by (own := [("_law_box", 9)]) (N := nWalk) (sc := C8.fnScope (top 48)) (by decide +kernel)) (fun _ _ _ _ _ => pg_name (i := 9) nd rfl (Or.inl rfl))
      (fun _ _ _ _ _ => pts_one (pt_cmpR op_eq (pe_ix (ix_tupK (K := K) rfl) (pv 9) pe_int (fun _ _ => rfl)) (pv 2) (nomark _)))
      (fun _ _ _ _ _ => pv 9)))
    (C8.pss_cut (ps_for PassesOwn.never rfl (pi_range1 (by rfl) T.m_range (pa_cons (pv 3) pa_nil)) (pg_name (i := 7) nd rfl (.inl rfl))
      (pss_cons (ps_if (pt_cmpR op_eq (pe_callB call_len_seq (by rfl) T.m_len boot_len (pa_cons (pv 6) pa_nil)) pe_int (nomark _)) (pss_one ps_break) pss_nil)
      (pss_cons (ps_expr (pe_bm F.plainAttrs_list F.slot_list_append F.type_list_append mt_append (pv 5) (pa_cons (pe_ix ix_list (pv 6) (pe_c (c_draw T) hr (by decide) (by rfl) (pa_cons (pv 0) (pa_cons (pe_callB call_len_seq (by rfl) T.m_len boot_len (pa_cons (pv 6) pa_nil)) pa_nil))) (fun _ _ => rfl)) pa_nil)))
      (pss_cons (ps_set (i := 8) nd rfl (.inr rfl) (pe_op op_sub pe_int (pe_op op_mod (pe_callTy call_int1 (by rfl) T.m_int bo_int (pa_cons (pv 7) pa_nil)) pe_int)))
      (pss_one (ps_lock (ps_setLc (i := 6) (own := [("_law_box", 9)]) (g := gName 9) rfl nd rfl rfl (sw_true rfl rfl rfl (by decide +kernel)) (pi_keys (pv 4))
        (blkOk_by (own := [("_law_box", 9)]) (N := nWalk) (sc := C8.fnScope (top 48)) (by decide +kernel)) (fun _ _ _ _ _ => pg_name (i := 9) nd rfl (Or.inl rfl))
        (fun _ _ _ _ _ => pts_one (PW.pt (pw_and (pt_cmpR op_eq (pe_ix (ix_tupK (K := K) rfl) (pv 9) (pv 8) (fun _ _ => rfl)) (pe_ix (ix_tupK (K := K) rfl) (pe_ix (ix_listK (K := K) rfl) (pv 5) (pe_un un_neg pe_int) (fun _ _ => rfl)) (pv 8) (fun _ _ => rfl)) (nomark _))
          (pw_and1 (pt_cmpR (op_neDK (K := K) rfl hr.units) (pv 9) (pe_ix (ix_listK (K := K) rfl) (pv 5) (pe_un un_neg pe_int) (fun _ _ => rfl)) (nomark _))))))
        (fun _ _ _ _ _ => pv 9))))))))
    (pss_one (ps_ret (pe_callTy call_tuple_of (by rfl) T.m_tuple bo_tuple (pa_cons (pv 5) pa_nil))))))), ?_⟩
  have wl := wf.len
  refine ⟨_, rfl, _, rfl, a, rs, B, W, rfl, bx, wf, fun d H1 sm1 nd1 hd1 => ?_⟩
  have pl1 := pl.same sm1
  refine ⟨by show 0 ≤ sizeLine; exact sz (by omega), fun F nF => ?_⟩
  obtain ⟨f1, f2⟩ := pl1.new nF
  have d12 : d ≠ p ∧ d ≠ c := pl.new nd1
  have x2 : Wl p c H (upd H1 F (.lst [])) d F (.dT (kvT (told B))) [] :=
    ⟨pl1.put f1 f2, (Kp.of sm1).put (Same.none sm1 nF), by rw [upd_ne (ne_of_none hd1 nF)]; exact hd1, upd_same, fun _ _ _ h => by simp at h, d12.1, d12.2, f1, f2, ne_of_none hd1 nF, nd1, Same.none sm1 nF⟩
  generalize upd H1 F (.lst []) = H2 at x2
  -- going
  refine ⟨d, .dT (kvT (told B)), x2.hd, trivial, fun od => ?_⟩
  refine ⟨_, rfl, d, od, rfl, .inr ⟨_, upd_same, fun D nD => ?_⟩⟩
  have x3 := x2.atD (fun _ => by intro z; cases z) (.frz od (.dT (kvT (told B))))
  generalize upd H2 d (.frz od (.dT (kvT (told B)))) = H3 at x3 nD
  refine lc_going wl x3.hd nD (fun _ => rfl) (fun _ => rfl) (Nxt r []) (fun q a1 b1 H' Kt sm hq kt => ?_) fun gs H4 hD sm tr hC hl => ?_
  · refine ⟨_, rfl, q, _, 0, _, rfl, rfl, SqT.of hq, rfl, _, rfl, rfl, _, rfl, kt _ fun h => ?_⟩
    rw [show decide (V.int (a1 : Nat) = V.int (r : Nat)) = decide (a1 = r) from dec_nv a1 r] at h
    exact ⟨fun _ => of_decide_eq_true h, fun _ _ _ h => by simp at h⟩
  have x4 := x3.same sm
  refine ⟨x4.hd, ?_⟩
  have Dp := x3.pl.new nD
  have x5 := x4.atD (fun _ => by intro z; cases z) (.dT (kvT (told B)))
  have Dd : D ≠ d := ne_of hD x4.hd (by intro z; cases z)
  have DF : D ≠ F := (ne_of_none x3.hF nD).symm
  have go5 : Go (told B) r [] (upd H4 d (.dT (kvT (told B)))) D gs := ⟨by rw [upd_ne Dd]; exact hD, fun q a b m => by rw [upd_ne (ne_of (tr q a b m) x4.hd (by intro z; cases z))]; exact tr q a b m, hC, hl⟩
  generalize upd H4 d (.dT (kvT (told B))) = H5 at x5 go5
  refine ⟨fun σ Hx => ∃ ts v6 v7 v8, σ = [some (V.ref p), some (V.ref a), some (V.int (r : Nat)), some (V.int (m : Nat)), some (V.ref d), some (V.ref F), v6, v7, v8, none] ∧ Wl p c H Hx d F (.dT (kvT (told B))) ts ∧ ts.length ≤ m ∧ Wk (told B) r ts, ?_, ?_⟩
  · refine ⟨_, rfl, (m : Nat), rfl, by omega, by omega, ?_⟩
    refine for_it (walk_range (lo := 0) (n := (m : Int).toNat)) (fun n σ Hx => ∃ g gs ts v7 v8, σ = [some (V.ref p), some (V.ref a), some (V.int (r : Nat)), some (V.int (m : Nat)), some (V.ref d), some (V.ref F), some (V.ref g), v7, v8, none] ∧ Wl p c H Hx d F (.dT (kvT (told B))) ts ∧ ts.length = n ∧ Wk (told B) r ts ∧ Go (told B) r ts Hx g gs ∧ g ≠ p ∧ g ≠ c ∧ g ≠ F)
      ⟨D, gs, [], _, _, rfl, x5, rfl, .inl rfl, go5, Dp.1, Dp.2, DF⟩ (fun _ _ _ _ _ => trivial) ?_ ?_
    · rintro n y σ H6 H7 hn ⟨g, gs, ts, v7, v8, rfl, x, hl, wk, go, g1, g2, g3⟩ ⟨rfl, rfl⟩
      have hgl := go.len
      refine ⟨_, rfl, g, _, rfl, .inl (SqL.of go.hg), rfl, _, rfl, ?_⟩
      by_cases hz : gs = []
      · rw [show decide (V.int ((gs.map tri).length : Int) = V.int 0) = true by rw [hz]; exact decide_eq_true rfl]
        exact iteT ⟨ts, _, _, _, rfl, x, by omega, wk⟩
      rw [show decide (V.int ((gs.map tri).length : Int) = V.int 0) = false from decide_eq_false (fun z => hz (by have := V.int.inj z; rw [List.length_map] at this; exact List.eq_nil_of_length_eq_zero (by omega)))]
      refine iteF ?_
      have hgs : 0 < gs.length := List.length_pos_iff.mpr hz
      refine ⟨_, rfl, .inl ⟨rfl, _, SqL.of x.hF⟩, _, rfl, _, rfl, _, rfl, g, _, rfl, .inl (SqL.of go.hg), _, _, rfl, p, c, _, rfl, rfl, by rw [List.length_map]; exact hgs, by rw [List.length_map]; omega, x.pl, fun dd H8 hdd pl8 kp8 => ?_⟩
      rw [List.length_map] at hdd
      have x8 := x.step pl8 kp8
      have hg8 := kp8 _ _ go.hg g1 g2
      have tr8 := go.ht.kp x.pl kp8
      obtain ⟨t, ht⟩ : ∃ t, gs[dd]? = some t := ⟨_, List.getElem?_eq_getElem hdd⟩
      have htm := List.mem_of_getElem? ht
      obtain ⟨q, a', b'⟩ := t
      obtain ⟨⟨f, hf⟩, nx⟩ := go.hn q a' b' htm
      have hq := tr8 q a' b' htm
      refine ⟨g, _, (dd : Nat), _, rfl, rfl, SqL.of hg8, atI_nat (at_map tri ht), F, _, _, rfl, rfl, x8.hF, szl (by rw [List.length_map]; omega), ?_⟩
      have x9 : Wl p c H (upd H8 F (.lst (ts.map tri ++ [tri (q, a', b')]))) d F (.dT (kvT (told B))) (ts ++ [(q, a', b')]) := by
        have := x8.atF (q, a', b') hq
        rw [List.map_append] at this
        exact this
      have wk9 := wk.step (q := q) nx hf
      have hl9 : (ts ++ [(q, a', b')]).length = n + 1 := by rw [List.length_append, hl] <;> rfl
      refine ⟨_, rfl, .inl ⟨_, rfl, _, _, rfl, rfl, by show (0 : Int) < 2; decide, _, _, rfl, rfl, ?_⟩⟩
      obtain ⟨ix, hix, hcase⟩ : ∃ ix : Nat, (1 - (0 + (n : Int)) % 2 : Int) = (ix : Int) ∧ ((ix = 1 ∧ n % 2 = 0) ∨ (ix = 0 ∧ n % 2 = 1)) := by
        have : n % 2 = 0 ∨ n % 2 = 1 := by omega
        rcases this with e | e
        · exact ⟨1, by omega, .inl ⟨rfl, e⟩⟩
        · exact ⟨0, by omega, .inr ⟨rfl, e⟩⟩
      have hix1 : ix ≤ 1 := by omega
      dsimp only
      rw [hix]
      -- the next going
      refine ⟨d, .dT (kvT (told B)), x9.hd, trivial, fun od => ?_⟩
      refine ⟨_, rfl, d, od, rfl, .inr ⟨_, upd_same, fun D nD => ?_⟩⟩
      have x10 := x9.atD (fun _ => by intro z; cases z) (.frz od (.dT (kvT (told B))))
      generalize upd (upd H8 F (.lst (ts.map tri ++ [tri (q, a', b')]))) d (.frz od (.dT (kvT (told B)))) = H10 at x10 nD
      have hq10 := x10.ht q a' b' (List.mem_append_right _ (List.mem_singleton.mpr rfl))
      have hF10 : H10 F = some (.lst (ts.map tri ++ [V.ref q])) := by
        have := x10.hF
        rw [List.map_append] at this
        exact this
      refine lc_going wl x10.hd nD (fun _ => rfl) (fun _ => rfl) (Nxt r (ts ++ [(q, a', b')])) (fun q2 a1 b1 H' Kt sm hq2 kt => ?_) fun gs' H11 hD sm tr hC hl' => ?_
      · refine ⟨_, rfl, _, rfl, q2, _, (ix : Nat), _, rfl, rfl, SqT.of hq2, pk_at hix1, ?_⟩
        refine ⟨_, rfl, 1, rfl, F, _, _, V.ref q, rfl, rfl, SqL.of (sm _ _ hF10), atI_last _ _, _, rfl, q, _, (ix : Nat), _, rfl, rfl, SqT.of (sm _ _ hq10), pk_at hix1, rfl, _, rfl, ?_⟩
        rw [dec_nv]
        by_cases e : pk ix a1 b1 = pk ix a' b'
        · rw [decide_eq_true e]
          refine iteT ?_
          refine ⟨_, rfl, _, rfl, 1, rfl, F, _, _, V.ref q, rfl, rfl, SqL.of (sm _ _ hF10), atI_last _ _, .tuple [.int a1, .int b1], .tuple [.int a', .int b'], .tup (SqT.of hq2) (.cons (.int _) (.cons (.int _) .nil)), .tup (SqT.of (sm _ _ hq10)) (.cons (.int _) (.cons (.int _) .nil)), rfl, rfl, _, rfl, ?_⟩
          refine kt _ fun _ => ⟨fun z => by simp at z, fun q3 a3 b3 z => ?_⟩
          rw [List.getLast?_append] at z
          obtain ⟨rfl, rfl, rfl⟩ : q = q3 ∧ a' = a3 ∧ b' = b3 := by simpa using z
          rw [hl9]
          rcases hcase with ⟨h1, h2⟩ | ⟨h1, h2⟩
          · rw [if_pos (by omega)]
            rw [h1] at e
            exact e
          · rw [if_neg (by omega)]
            rw [h1] at e
            exact e
        · rw [decide_eq_false e]
          exact iteF (kt false fun h => Bool.noConfusion h)
      · have x11 := x10.same sm
        refine ⟨x11.hd, ?_⟩
        have Dp := x10.pl.new nD
        have x12 := x11.atD (fun _ => by intro z; cases z) (.dT (kvT (told B)))
        have Dd : D ≠ d := ne_of hD x11.hd (by intro z; cases z)
        have DF : D ≠ F := (ne_of_none x10.hF nD).symm
        exact ⟨D, gs', _, _, _, rfl, x12, hl9, wk9, ⟨by rw [upd_ne Dd]; exact hD, fun q a b m => by rw [upd_ne (ne_of (tr q a b m) x11.hd (by intro z; cases z))]; exact tr q a b m, hC, hl'⟩, Dp.1, Dp.2, DF⟩
    · rintro σ H6 ⟨g, gs, ts, v7, v8, rfl, x, hl, wk, _⟩
      exact ⟨ts, _, _, _, rfl, x, by omega, wk⟩
  · rintro σ H6 ⟨ts, v6, v7, v8, rfl, x, hl, wk⟩
    refine ⟨_, rfl, F, _, rfl, .inl ⟨SqL.of x.hF, fun q nq => ?_⟩⟩
    have x7 := x.step (x.pl.put (x.pl.new nq).1 (x.pl.new nq).2) (Kp.put (Kp.refl _) nq (o := .tup (ts.map tri)))
    exact k q ts _ x7.pl x7.kp upd_same x7.ht hl wk
end
end FtP
set_option Elab.async false
set_option linter.all false
set_option maxRecDepth 100000
set_option maxHeartbeats 4000000
namespace FtP
open PySem PySem.Spec PyProof.Rows L2 SX Ft FtT FtR C8
/-- what is to be said of a column -/
def Due (T : Told) (S E : Nat → Option (List Nat)) (j : Nat) (n : Str) (v : V) : Prop :=
  (E j = none → n = "told" ∧ v = .non) ∧ (∀ e, E j = some e → Quiet T S E → n = "told" ∧ v = tx e) ∧ ∀ e, E j = some e → ¬ Quiet T S E → n = "unlike" ∧ v = .non
def prSaid (K : PySem.W.Frag) : Pr3 := fun a b c H Q _ => ∃ (t d : Addr) (h w : Nat) (T : Told) (i j : Nat) (S E : Nat → Option (List Nat)), a = .ref t ∧ b = .int (i : Nat) ∧ c = .int (j : Nat) ∧ Tab K H t d h w T ∧ i < h ∧ j < w ∧ Lev T i S E ∧
  ∀ q n v H', Same H H' → H' q = some (.tup [.str n, v]) → Due T S E j n v → Q (.ref q) H'
section
variable {P : Program} {w : World} {K : PySem.W.Frag} {mg : Str → Option Value} {base : Heap}
abbrev nSaid : List Str := ["_law_table", "_law_row", "_law_column", "_law_told_here"]
theorem c_said (T : Tx K mg) : Cal P w K mg base 5 "_law_said" (sp3 (prSaid K)) [] := by
  refine cal3 (N := nSaid) (p1 := "_law_table") (p2 := "_law_row") (p3 := "_law_column") T.d_law_said (by decide +kernel) (fun _ _ _ _ _ _ us hl => match us, hl with | [_, _, _], _ => rfl) fun f cdv A outer s H a1 a2 a3 Q E nd hr h => ?_
  obtain ⟨t, d, hh, ww, TT, i, j, S0, E0, rfl, rfl, rfl, tab, hi, hj, L0, k⟩ := h
  obtain ⟨ff, fd, ps, FF, mgf, kpf, bf⟩ := (c_fore (P := P) (w := w) (base := base) T).ex
  refine ⟨_, pss_cons (ps_set (i := 3) nd rfl (.inl rfl) (pe_tup (pa_cons pe_str (pa_cons pe_non pa_nil))))
    (pss_cons (ps_try_many rfl rfl takes0
      (fun W pn xe tk _ => pss_one (ps_set (i := 3) nd rfl (.inl rfl) (pe_tup (pa_cons pe_str (pa_cons (pe_callS FF hr (by rfl) mgf kpf bf (fun σ => passAt tk σ) (pa_cons (pv 0) (pa_cons (pv 1) (pa_cons (pv 2) pa_nil)))) pa_nil)))))
      (.cons ⟨rfl, by decide, .inl T.g_Unlike⟩ (fun a oe cls d pn _ _ => pss_one (ps_set (i := 3) nd rfl (.inl rfl) (pe_tup (pa_cons pe_str (pa_cons pe_non pa_nil)))))
      (.cons ⟨rfl, by decide, .inl T.g_Error⟩ (fun a oe cls d pn _ _ => pss_one (ps_set (i := 3) nd rfl (.inl rfl) (pe_tup (pa_cons pe_str (pa_cons pe_non pa_nil))))) .nil)))
    (pss_one (ps_ret (pv 3)))), ?_⟩
  refine ⟨by show 2 ≤ sizeLine; exact sz (by omega), fun q0 nq0 => ?_⟩
  have sm1 : Same H (upd H q0 (.tup [.str "told", .non])) := Same.put (Same.refl _) nq0
  generalize upd H q0 (.tup [.str "told", .non]) = H1 at sm1
  refine ⟨_, rfl, _, rfl, _, rfl, _, _, _, rfl, t, d, hh, ww, TT, i, j, S0, E0, rfl, rfl, rfl, ⟨tab.1.same sm1, tab.2⟩, hi, hj, L0, fun h0 H2 sm2 => ?_, fun e he hq H2 sm2 => ?_, fun e he hq H2 sm2 => ?_⟩
  · refine ⟨by show 2 ≤ sizeLine; exact sz (by omega), fun q nq => ?_⟩
    exact ⟨_, rfl, k q _ _ _ (Same.put (sm1.trans sm2) (Same.none (sm1.trans sm2) nq)) upd_same ⟨fun _ => ⟨rfl, rfl⟩, fun e he => (by rw [h0] at he; cases he), fun e he => (by rw [h0] at he; cases he)⟩⟩
  · refine ⟨by show 2 ≤ sizeLine; exact sz (by omega), fun q nq => ?_⟩
    exact ⟨_, rfl, k q _ _ _ (Same.put (sm1.trans sm2) (Same.none (sm1.trans sm2) nq)) upd_same ⟨fun h0 => (by rw [he] at h0; cases h0), fun e' he' _ => ⟨rfl, by rw [he] at he'; cases he'; rfl⟩, fun _ _ hn => absurd hq hn⟩⟩
  · refine ⟨true, T.exm, fun _ a na => ?_, fun z => Bool.noConfusion z⟩
    refine ⟨by show 2 ≤ sizeLine; exact sz (by omega), fun q nq => ?_⟩
    exact ⟨_, rfl, k q _ _ _ (Same.put (sm1.trans sm2) (Same.none (sm1.trans sm2) nq)) upd_same ⟨fun h0 => (by rw [he] at h0; cases h0), fun _ _ hy => absurd hy hq, fun _ _ _ => ⟨rfl, rfl⟩⟩⟩
end
end FtP
set_option Elab.async false
set_option linter.all false
set_option maxRecDepth 100000
set_option maxHeartbeats 4000000
namespace FtP
open PySem PySem.Spec PyProof.Rows L2 SX Ft FtT FtR C8
open Classical in
theorem Due.cases {T : Told} {S E : Nat → Option (List Nat)} {j : Nat} {n : Str} {v : V} (h : Due T S E j n v) :
    (E j = none ∧ n = "told" ∧ v = .non) ∨ (∃ e, E j = some e ∧ Quiet T S E ∧ n = "told" ∧ v = tx e) ∨ ∃ e, E j = some e ∧ ¬ Quiet T S E ∧ n = "unlike" ∧ v = .non := by
  cases e : E j with
  | none => exact .inl ⟨rfl, h.1 e⟩
  | some u =>
    by_cases q : Quiet T S E
    · exact .inr (.inl ⟨u, rfl, q, h.2.1 u e q⟩)
    · exact .inr (.inr ⟨u, rfl, q, h.2.2 u e q⟩)
theorem strOk_S {w : List Nat} (h : ∀ c ∈ w, c < 1114112) : PyData.strOk (SX.S w) = true := by
  unfold PyData.strOk
  rw [← Array.all_toList]
  rw [List.all_eq_true]
  intro c hc
  exact decide_eq_true (h c (by simpa using hc))
theorem lay2 {n : Str} {d : PyData} (hn : PyData.strOk n = true) (hd : d.canLay0 = true) : (PyData.tuple [.str n, d]).canLay0 = true := by
  simp [PyData.canLay0, PyData.canLayAll0, hn, hd]
theorem shaped2 {n : Str} {d : PyData} (hn : PyData.strOk n = true) (hd : d.canLay0 = true) (hz : d.depth ≤ 1) : SeqAt.shaped (PyData.tuple [.str n, d]) = true := by
  unfold SeqAt.shaped
  rw [lay2 hn hd, Bool.true_and]
  refine decide_eq_true ?_
  simp [PyData.depth, PyData.depthAll]
  omega
/-- two things that are to be said are alike -/
theorem due_alike {K : PySem.W.Frag} {T : Told} {S E : Nat → Option (List Nat)} {j : Nat} {n m : Str} {u v : V} {H : Hp} {a b : Addr} (hw : ∀ e, E j = some e → Wd e) (h : Due T S E j n u) (k : Due T S E j m v) (ha : H a = some (.tup [.str n, u])) (hb : H b = some (.tup [.str m, v])) :
    ∃ d e, Dp K H (.ref a) d ∧ Dp K H (.ref b) e ∧ SeqAt.shaped d = true ∧ SeqAt.shaped e = true ∧ PyData.eqv d e = true := by
  have s1 : PyData.strOk "told" = true := by decide +kernel
  have s2 : PyData.strOk "unlike" = true := by decide +kernel
  have c0 : (PyData.none).canLay0 = true := by simp [PyData.canLay0]
  have d0 : (PyData.none).depth ≤ 1 := by simp [PyData.depth]
  rcases h.cases with ⟨h0, rfl, rfl⟩ | ⟨e, h0, hq, rfl, rfl⟩ | ⟨e, h0, hq, rfl, rfl⟩
  · obtain ⟨rfl, rfl⟩ := k.1 h0
    exact ⟨_, _, .tup (SqT.of ha) (.cons (.str _) (.cons .non .nil)), .tup (SqT.of hb) (.cons (.str _) (.cons .non .nil)), shaped2 s1 c0 d0, shaped2 s1 c0 d0, SeqAt.eqv_refl _ (lay2 s1 c0)⟩
  · obtain ⟨rfl, rfl⟩ := k.2.1 e h0 hq
    have we := hw e h0
    have c1 : (PyData.str (SX.S e)).canLay0 = true := by
      have := strOk_S (w := e) fun c hc => by
        rcases we c hc with z | z | z | z <;> omega
      simp [PyData.canLay0, this]
    have d1 : (PyData.str (SX.S e)).depth ≤ 1 := by simp [PyData.depth]
    exact ⟨_, _, .tup (SqT.of ha) (.cons (.str _) (.cons (.str _) .nil)), .tup (SqT.of hb) (.cons (.str _) (.cons (.str _) .nil)), shaped2 s1 c1 d1, shaped2 s1 c1 d1, SeqAt.eqv_refl _ (lay2 s1 c1)⟩
  · obtain ⟨rfl, rfl⟩ := k.2.2 e h0 hq
    exact ⟨_, _, .tup (SqT.of ha) (.cons (.str _) (.cons .non .nil)), .tup (SqT.of hb) (.cons (.str _) (.cons .non .nil)), shaped2 s2 c0 d0, shaped2 s2 c0 d0, SeqAt.eqv_refl _ (lay2 s2 c0)⟩
theorem TabAt.kp {K : PySem.W.Frag} {p c t d : Addr} {h w : Nat} {T : Told} {H H' : Hp} (x : TabAt K H t d h w T) (pl : Pool H p c) (k : Kp p c H H') : TabAt K H' t d h w T := by
  obtain ⟨⟨dx, fs, h1, h2⟩, h3⟩ := x
  obtain ⟨a, b, ns, p1, p2⟩ := pl
  exact ⟨⟨dx, fs, k _ _ h1 (ne_of h1 p1 (by intro z; cases z)) (ne_of h1 p2 (by intro z; cases z)), h2⟩, k _ _ h3 (ne_of h3 p1 (by intro z; cases z)) (ne_of h3 p2 (by intro z; cases z))⟩
theorem dk_kp {p c a : Addr} {kvs : List (Key × V)} {H H' : Hp} (h : H a = some (.dK kvs)) (pl : Pool H p c) (k : Kp p c H H') : H' a = some (.dK kvs) := by
  obtain ⟨x, b, ns, p1, p2⟩ := pl
  exact k _ _ h (ne_of h p1 (by intro z; cases z)) (ne_of h p2 (by intro z; cases z))
def prRight (K : PySem.W.Frag) : Pr4 := fun a b e m H Q _ => ∃ (p c bx t d : Addr) (rs : List Addr) (B : Bx) (W r : Nat), a = .ref p ∧ b = .ref bx ∧ e = .ref t ∧ m = .int (r : Nat) ∧ Pool H p c ∧ BoxesAt H bx rs B ∧ Wf 30 B W ∧ TabAt K H t d B.length W (told B) ∧ r < B.length ∧
  ∀ H', Pool H' p c → Kp p c H H' → Q (.bl true) H'
section
variable {P : Program} {w : World} {K : PySem.W.Frag} {mg : Str → Option Value} {base : Heap}
abbrev nRight : List Str := ["_law_pool_here", "_law_boxes_here", "_law_table", "_law_row", "_law_stems", "_law_endings", "_law_quiet_here", "_law_column", "_law_due", "_law_turn", "_law_way"]
theorem c_right (T : Tx K mg) : Cal P w K mg base 6 "_law_row_right" (sp4 (prRight K)) [] := by
  refine cal4 (N := nRight) (p1 := "_law_pool_here") (p2 := "_law_boxes_here") (p3 := "_law_table") (p4 := "_law_row") T.d_law_row_right (by decide +kernel) (fun _ _ _ _ _ _ us hl => match us, hl with | [_, _, _, _], _ => rfl) fun f cdv A outer s H a1 a2 a3 a4 Q E nd hr h => ?_
  have hu := hu_of hr
  obtain ⟨p, c, bx, t, d, rs, B, W, r, rfl, rfl, rfl, rfl, pl, box, wf, tab, hrB, k⟩ := h
  refine ⟨_, pss_cons (ps_asg (pe_c (c_llevels T) hr (by decide) (by rfl) (pa_cons (pv 1) (pa_cons (pv 3) pa_nil))) (pg_tup rfl (pgs_cons (pg_name (i := 4) nd rfl (.inl rfl)) (pgs_cons (pg_name (i := 5) nd rfl (.inl rfl)) pgs_nil))))
    (pss_cons (ps_set (i := 6) nd rfl (.inl rfl) (pe_c (c_quiet T) hr (by decide) (by rfl) (pa_cons (pv 1) (pa_cons (pv 4) (pa_cons (pv 5) pa_nil)))))
    (pss_cons (ps_for PassesOwn.never rfl (pi_range1 (by rfl) T.m_range (pa_cons (pe_callB call_len_seq (by rfl) T.m_len boot_len (pa_cons (pe_ix ix_tup (pv 1) pe_int (fun _ _ => rfl)) pa_nil)) pa_nil)) (pg_name (i := 7) nd rfl (.inl rfl))
      (pss_cons (ps_set (i := 8) nd rfl (.inl rfl) (pe_tup (pa_cons pe_str (pa_cons pe_non pa_nil))))
      (C8.pss_cut (ps_if (pt_cmp (pc_din hu (pv 7) (pv 5))) (pss_one (ps_set (i := 8) nd rfl (.inl rfl) (pe_ifExp (pt_val (pv 6)) (pe_tup (pa_cons pe_str (pa_cons (pe_dget hu (pv 5) (pv 7) (fun _ _ => rfl)) pa_nil))) (pe_tup (pa_cons pe_str (pa_cons pe_non pa_nil)))))) pss_nil)
      (pss_cons (ps_if (pt_cmpR (op_neD hr.units) (pe_c (c_said T) hr (by decide) (by rfl) (pa_cons (pv 2) (pa_cons (pv 3) (pa_cons (pv 7) pa_nil)))) (pv 8) (nomark _)) (pss_one (ps_ret pe_bl)) pss_nil)
      (pss_one (ps_if (PW.pt (pw_and (pt_cmp (pc_din hu (pv 7) (pv 5))) (pw_and (pt_val (pv 6)) (pw_and1 (pt_cmpR op_ne (pe_c (c_tells T) hr (by decide) (by rfl) (pa_cons (pv 1) (pa_cons (pe_c (c_way T) hr (by decide) (by rfl) (pa_cons (pv 2) (pa_cons (pv 3) (pa_cons (pv 7) pa_nil)))) pa_nil)))
        (pe_dget hu (pv 5) (pv 7) (fun _ _ => rfl)) (nomark _)))))) (pss_one (ps_ret pe_bl)) pss_nil))))))
    (pss_cons (ps_for PassesOwn.never rfl (pi_range1 (by rfl) T.m_range (pa_cons pe_int pa_nil)) (pg_name (i := 9) nd rfl (.inl rfl))
      (pss_cons (ps_set (i := 10) nd rfl (.inl rfl) (pe_c (c_walk T) hr (by decide) (by rfl) (pa_cons (pv 0) (pa_cons (pv 1) (pa_cons (pv 3) (pa_cons (pe_op op_add pe_int (pe_op op_mul pe_int (pe_c (c_draw T) hr (by decide) (by rfl) (pa_cons (pv 0) (pa_cons pe_int pa_nil))))) pa_nil))))))
      (pss_one (ps_if (PW.pt (pw_and (pt_val (pv 6)) (pw_and (pt_cmpR op_eq (pe_op op_mod (pe_callTy call_int1 (by rfl) T.m_int bo_int (pa_cons (pe_callB call_len_seq (by rfl) T.m_len boot_len (pa_cons (pv 10) pa_nil)) pa_nil)) pe_int) pe_int (nomark _))
        (pw_and1 (pt_cmpR op_ne (pe_c (c_tells T) hr (by decide) (by rfl) (pa_cons (pv 1) (pa_cons (pv 10) pa_nil))) (pe_c (c_fore0 T) hr (by decide) (by rfl) (pa_cons (pv 2) (pa_cons (pv 3) (pa_cons (pe_ix ix_tup (pe_ix ix_tup (pv 10) (pe_un un_neg pe_int) (fun _ _ => rfl)) pe_int (fun _ _ => rfl)) pa_nil)))) (nomark _)))))) (pss_one (ps_ret pe_bl)) pss_nil))))
    (pss_one (ps_ret pe_bl))))), ?_⟩
  have tk := wf.tk
  have hB1 := wf.h1
  have hW2 := wf.w2
  obtain ⟨r0, hr0⟩ : ∃ r, B[0]? = some r := ⟨B[0]'(by omega), List.getElem?_eq_getElem _⟩
  have hw0 : r0.length = W := wf.rows r0 (List.mem_of_getElem? hr0)
  -- stems, endings
  refine ⟨_, rfl, _, rfl, _, _, rfl, bx, rs, B, W, r, rfl, rfl, box, wf, hrB, fun pq sa ea S E H1 sm1 hpq hsa hea L sh => ?_⟩
  refine ⟨pq, _, rfl, SqT.of hpq, rfl, _, _, rfl, _, _, rfl, rfl, ?_⟩
  have L' := L.lev sh
  -- quiet
  refine ⟨_, rfl, _, rfl, _, rfl, _, _, _, rfl, bx, sa, ea, rs, B, W, r, S, E, rfl, rfl, rfl, box.same sm1, wf, hrB, hsa, hea, L, sh, fun qb H2 sm2 hqb => ?_⟩
  have smA := sm1.trans sm2
  obtain ⟨q0, e0, e1, hq0⟩ := (box.same smA).get hr0
  -- the columns
  refine ⟨_, rfl, bx, _, 0, _, rfl, rfl, SqT.of (smA _ _ box.at_), atI_nat e1, q0, _, rfl, .inr (SqT.of hq0), _, rfl, by rw [List.length_map]; omega, by rw [List.length_map]; omega, ?_⟩
  refine for_it (walk_range (lo := 0) (n := ((r0.map bv).length : Int).toNat)) (fun j σ Hx => ∃ v7 v8, σ = [some (V.ref p), some (V.ref bx), some (V.ref t), some (V.int (r : Nat)), some (V.ref sa), some (V.ref ea), some (V.bl qb), v7, v8, none, none] ∧ Same H2 Hx)
    ⟨_, _, rfl, Same.refl _⟩ (fun _ _ _ _ _ => trivial) ?_ ?_
  · rintro j y σ H3 H4 hj ⟨v7, v8, rfl, sm⟩ ⟨rfl, hy⟩
    have hy : y = .int (j : Nat) := by rw [hy]; show V.int (0 + (j : Nat)) = _; rw [Int.zero_add]
    subst hy
    have hj' : j < W := by rw [List.length_map, hw0] at hj; omega
    refine ⟨by show 2 ≤ sizeLine; exact sz (by omega), fun q1 nq1 => ?_⟩
    have sm5 : Same H2 (upd H4 q1 (.tup [.str "told", .non])) := Same.put sm (Same.none sm nq1)
    have hq1 : (upd H4 q1 (.tup [.str "told", .non])) q1 = some (.tup [.str "told", .non]) := upd_same
    generalize upd H4 q1 (.tup [.str "told", .non]) = H5 at sm5 hq1
    refine ⟨fun σ Hx => ∃ q8 n8 v8, σ = [some (V.ref p), some (V.ref bx), some (V.ref t), some (V.int (r : Nat)), some (V.ref sa), some (V.ref ea), some (V.bl qb), some (V.int (j : Nat)), some (V.ref q8), none, none] ∧ Same H2 Hx ∧ Hx q8 = some (.tup [.str n8, v8]) ∧ Due (told B) (look S) (look E) j n8 v8, ?_, ?_⟩
    · refine ⟨_, rfl, _, rfl, ea, _, rfl, DGet.k (k := Sum.inl (j : Int)) (sm5 _ _ (sm2 _ _ hea)), _, rfl, ?_⟩
      rw [kvN_in L.ndE]
      by_cases e2 : j ∈ E.map (·.1)
      · rw [decide_eq_true e2]
        refine iteT ?_
        obtain ⟨e, he, le, ve⟩ := look_key L.ndE e2
        refine ⟨_, rfl, qb, rfl, ?_⟩
        cases qb with
        | true =>
          have hq := hqb.mp rfl
          refine iteT ?_
          refine ⟨_, rfl, _, rfl, ea, tx e, rfl, by have := DGet.k (k := Sum.inl (j : Int)) (sm5 _ _ (sm2 _ _ hea)); rw [ve] at this; exact this, by show 2 ≤ sizeLine; exact sz (by omega), fun q nq => ?_⟩
          exact ⟨q, _, _, rfl, Same.put sm5 (Same.none sm5 nq), upd_same, fun h0 => (by rw [le] at h0; cases h0), fun e' he' _ => ⟨rfl, by rw [le] at he'; cases he'; rfl⟩, fun _ _ hn => absurd hq hn⟩
        | false =>
          have hq : ¬ Quiet (told B) (look S) (look E) := fun z => Bool.noConfusion (hqb.mpr z)
          refine iteF ?_
          refine ⟨by show 2 ≤ sizeLine; exact sz (by omega), fun q nq => ?_⟩
          exact ⟨q, _, _, rfl, Same.put sm5 (Same.none sm5 nq), upd_same, fun h0 => (by rw [le] at h0; cases h0), fun _ _ hy => absurd hy hq, fun _ _ _ => ⟨rfl, rfl⟩⟩
      · rw [decide_eq_false e2]
        have hn : look E j = none := by
          cases z : look E j with
          | none => rfl
          | some u => exact absurd (look_is.mp (by rw [z] <;> rfl)) e2
        exact iteF ⟨q1, _, _, rfl, sm5, hq1, fun _ => ⟨rfl, rfl⟩, fun e he => (by rw [hn] at he; cases he), fun e he => (by rw [hn] at he; cases he)⟩
    · rintro σ H6 ⟨q8, n8, v8, rfl, sm6, hq8, due8⟩
      have smB := smA.trans sm6
      refine ⟨_, rfl, _, rfl, _, rfl, _, _, _, rfl, t, d, B.length, W, told B, r, j, look S, look E, rfl, rfl, rfl, ⟨tab.same smB, tk⟩, hrB, hj', L', fun q9 n9 v9 H9 sm9 hq9 due9 => ?_⟩
      obtain ⟨d1, d2, p1, p2, p3, p4, p5⟩ := due_alike (K := K) (fun e he => (L'.strE _ _ he).wd) due9 due8 hq9 (sm9 _ _ hq8)
      refine ⟨_, rfl, d1, d2, p1, p2, p3, p4, _, rfl, ?_⟩
      rw [p5]
      refine iteF ?_
      have smC := sm6.trans sm9
      refine ⟨_, rfl, _, rfl, ea, _, rfl, DGet.k (k := Sum.inl (j : Int)) (smC _ _ (sm2 _ _ hea)), _, rfl, ?_⟩
      rw [kvN_in L.ndE]
      by_cases e2 : j ∈ E.map (·.1)
      · rw [decide_eq_true e2]
        refine iteT ?_
        obtain ⟨e, he, le, ve⟩ := look_key L.ndE e2
        refine ⟨_, rfl, qb, rfl, ?_⟩
        cases qb with
        | true =>
          have hq := hqb.mp rfl
          refine iteT ?_
          have smD := smA.trans smC
          refine ⟨_, rfl, _, rfl, _, rfl, _, rfl, _, _, _, rfl, t, d, B.length, W, told B, r, j, rfl, rfl, rfl, ⟨tab.same smD, tk⟩, hrB, hj', ⟨e, L.dcE _ _ he⟩, fun wy ts fs H10 sm10 hwy hts way hl => ?_⟩
          refine ⟨_, _, rfl, bx, wy, rs, B, W, r, j, ts, fs, rfl, rfl, box.same (smD.trans sm10), wf, hwy, hts, way, hl, fun H11 sm11 => ?_⟩
          have wn := way_nf L' hq way
          rw [le] at wn
          have wn := Option.some.inj wn
          refine ⟨_, rfl, _, rfl, ea, tx e, rfl, by have := DGet.k (k := Sum.inl (j : Int)) (sm11 _ _ (sm10 _ _ (smC _ _ (sm2 _ _ hea)))); rw [ve] at this; exact this, rfl, _, rfl, ?_⟩
          rw [← wn, decide_eq_true rfl]
          exact iteF ⟨_, _, rfl, (smC.trans sm10).trans sm11⟩
        | false => exact iteF (iteF ⟨_, _, rfl, smC⟩)
      · rw [decide_eq_false e2]
        exact iteF (iteF ⟨_, _, rfl, smC⟩)
  rintro σ H3 ⟨v7, v8, rfl, sm3⟩
  have smE := smA.trans sm3
  have pl3 := pl.same smE
  have kp3 : Kp p c H H3 := Kp.of smE
  have hea3 := sm3 _ _ (sm2 _ _ hea)
  -- the walks
  refine ⟨3, rfl, by decide, by decide, ?_⟩
  refine for_it (walk_range (lo := 0) (n := (3 : Int).toNat)) (fun i σ Hx => ∃ v7 v8 v9 v10, σ = [some (V.ref p), some (V.ref bx), some (V.ref t), some (V.int (r : Nat)), some (V.ref sa), some (V.ref ea), some (V.bl qb), v7, v8, v9, v10] ∧ Pool Hx p c ∧ Kp p c H Hx)
    ⟨_, _, _, _, rfl, pl3, kp3⟩ (fun _ _ _ _ _ => trivial) ?_ ?_
  · rintro i y σ H5 H6 hi ⟨v7, v8, v9, v10, rfl, pl6, kp6⟩ ⟨rfl, rfl⟩
    refine ⟨_, rfl, _, rfl, _, rfl, _, rfl, _, _, rfl, p, c, 6, rfl, rfl, by omega, by omega, pl6, fun dd H7 hdd pl7 kp7 => ?_⟩
    refine ⟨_, _, rfl, rfl, .inl ⟨by decide, by decide⟩, _, _, rfl, rfl, _, _, _, _, rfl, p, c, bx, rs, B, W, r, 1 + 2 * dd, rfl, rfl, rfl, rfl, by omega, pl7, box.kp pl (kp6.trans kp7), wf, fun wy ts H8 pl8 kp8 hwy tr hl wk => ?_⟩
    have kpB := (kp6.trans kp7).trans kp8
    refine ⟨_, rfl, qb, rfl, ?_⟩
    cases qb with
    | false => exact iteF (iteF ⟨_, _, _, _, rfl, pl8, kpB⟩)
    | true =>
      have hq := hqb.mp rfl
      refine iteT ?_
      refine ⟨_, rfl, wy, _, rfl, .inr (SqT.of hwy), .inl ⟨_, rfl, _, _, rfl, rfl, by show (0 : Int) < 2; decide, rfl, _, rfl, ?_⟩⟩
      rw [List.length_map]
      by_cases od : ts.length % 2 = 1
      · rw [show decide (V.int ((ts.length : Int) % 2) = V.int 1) = true from decide_eq_true (by congr 1; omega)]
        refine iteT ?_
        rcases wk with z | ⟨_, fs, q, a', b', gl, way⟩ | ⟨z, _⟩
        · rw [z] at od; exact absurd od (by decide)
        · refine ⟨_, rfl, _, rfl, _, _, rfl, bx, wy, rs, B, W, r, b', ts, fs, rfl, rfl, box.kp pl kpB, wf, hwy, tr, way, by omega, fun H9 sm9 => ?_⟩
          have wn := way_nf L' hq way
          have hbW : b' < W := L.rngE tk b' (look_is.mp (by rw [wn] <;> rfl))
          obtain ⟨ys, hys⟩ := List.getLast?_eq_some_iff.mp gl
          have hat : atI (ts.map tri) (-1) = some (tri (q, a', b')) := by rw [hys, List.map_append]; exact atI_last _ _
          have hqm : H9 q = some (.tup [.int (a' : Nat), .int (b' : Nat)]) := sm9 _ _ (tr q a' b' (by rw [hys]; exact List.mem_append_right _ (List.mem_singleton.mpr rfl)))
          refine ⟨_, rfl, _, rfl, _, rfl, 1, rfl, wy, _, _, _, rfl, rfl, SqT.of (sm9 _ _ hwy), hat, q, _, 1, _, rfl, rfl, SqT.of hqm, rfl, ?_⟩
          refine ⟨_, _, _, rfl, t, d, B.length, W, told B, r, b', look S, look E, nf (tell fs), rfl, rfl, rfl, ⟨(tab.kp pl kpB).same sm9, tk⟩, hrB, hbW, L', wn, hq, fun H10 sm10 => ?_⟩
          refine ⟨rfl, _, rfl, ?_⟩
          rw [show decide (tx (nf (tell fs)) = V.str (SX.S (nf (tell fs)))) = true from decide_eq_true rfl]
          have sm11 := sm9.trans sm10
          exact iteF ⟨_, _, _, _, rfl, pl8.same sm11, kpB.trans (Kp.of sm11)⟩
        · omega
      · rw [show decide (V.int ((ts.length : Int) % 2) = V.int 1) = false from decide_eq_false (fun z => od (by have := V.int.inj z; omega))]
        exact iteF (iteF ⟨_, _, _, _, rfl, pl8, kpB⟩)
  · rintro σ H5 ⟨v7, v8, v9, v10, rfl, pl5, kp5⟩
    exact k H5 pl5 kp5
end
end FtP
set_option Elab.async false
set_option linter.all false
set_option maxRecDepth 100000
set_option maxHeartbeats 4000000
namespace FtP
open PySem PySem.Spec PyProof.Rows L2 SX Ft FtT FtR C8
def prLaw (K : PySem.W.Frag) : Pr1 := fun a H Q _ => ∃ (s : Addr) (ns : List Int), a = .ref s ∧ SqL K H s (ns.map V.int) ∧ ns.length ≤ 63 ∧ ∀ H', Q (.bl true) H'
section
variable {P : Program} {w : World} {K : PySem.W.Frag} {mg : Str → Option Value} {base : Heap}
abbrev nLaw : List Str := ["_law_script", "_law_pool_here", "_law_turn", "_law_boxes_here", "_law_kind", "_law_table", "_law_row"]
theorem law_body (T : Tx K mg) (f : Addr) (cdv : Value) (A : Around) (outer : List Env) (s : Shared) (H : Hp) (a1 : V) (Q : VK) (E : XK) (nd : nLaw.Nodup) (hr : Room 6 (A.deeper (envOfC "law" (C8.fnScope (top 53)) s.heap.objs.size f cdv))) (h : prLaw K a1 H Q E) :
    ∃ t, PSs (cxOf L2.CX0 P w K mg base nLaw "law" (C8.fnScope (top 53)) f cdv A outer s H E).nox (C8.fnBody (top 53)) t ∧ t { nx := fun _ H' => Q .non H', rt := Q } (start nLaw [a1]) H := by
  obtain ⟨sc, ns, rfl, hs, hl, k⟩ := h
  refine ⟨_, pss_cons (ps_set (i := 1) nd rfl (.inl rfl) (pe_c (c_pool T) hr (by decide) (by rfl) (pa_cons (pv 0) pa_nil)))
    (pss_cons (ps_for PassesOwn.never rfl (pi_range1 (by rfl) T.m_range (pa_cons pe_int pa_nil)) (pg_name (i := 2) nd rfl (.inl rfl))
      (pss_cons (ps_set (i := 3) nd rfl (.inl rfl) (pe_c (c_boxes T) hr (by decide) (by rfl) (pa_cons (pv 1) (pa_cons pe_int pa_nil))))
      (pss_cons (ps_set (i := 4) nd rfl (.inl rfl) (pe_c (c_draw T) hr (by decide) (by rfl) (pa_cons (pv 1) (pa_cons pe_int pa_nil))))
      (C8.pss_cut (ps_if (pt_cmpR op_lt (pv 4) pe_int (nomark _)) (pss_one (ps_set (i := 3) nd rfl (.inl rfl) (pe_c (c_long T) hr (by decide) (by rfl) (pa_cons (pv 1) pa_nil)))) pss_nil)
      (C8.pss_cut (ps_if (pt_cmpR op_eq (pv 4) pe_int (nomark _)) (pss_one (ps_set (i := 3) nd rfl (.inl rfl) (pe_c (c_stairs T) hr (by decide) (by rfl) (pa_cons (pv 1) (pa_cons (pe_cmpR op_eq (pe_c (c_draw T) hr (by decide) (by rfl) (pa_cons (pv 1) (pa_cons pe_int pa_nil))) pe_int (nomark _)) pa_nil))))) pss_nil)
      (pss_cons (ps_set (i := 5) nd rfl (.inl rfl) (pe_mk (c_init T) hr (by decide) (by rfl) (pa_cons (pv 3) pa_nil)))
      (pss_one (ps_for PassesOwn.never rfl (pi_range1 (by rfl) T.m_range (pa_cons (pe_callB (call_min2 rfl) (by rfl) T.m_min bo_min (pa_cons pe_int (pa_cons (pe_callB call_len_seq (by rfl) T.m_len boot_len (pa_cons (pv 3) pa_nil)) pa_nil))) pa_nil)) (pg_name (i := 6) nd rfl (.inl rfl))
        (pss_one (ps_if (pt_not (pt_val (pe_c (c_right T) hr (by decide) (by rfl) (pa_cons (pv 1) (pa_cons (pv 3) (pa_cons (pv 5) (pa_cons (pv 6) pa_nil))))))) (pss_one (ps_ret pe_bl)) pss_nil))))))))))
    (pss_one (ps_ret pe_bl))), ?_⟩
  refine ⟨_, rfl, _, rfl, sc, ns, rfl, hs, hl, fun p c H1 sm1 pl1 => ?_⟩
  refine ⟨2, rfl, by decide, by decide, ?_⟩
  refine for_it (walk_range (lo := 0) (n := (2 : Int).toNat)) (fun i σ Hx => ∃ v2 v3 v4 v5 v6, σ = [some (V.ref sc), some (V.ref p), v2, v3, v4, v5, v6] ∧ Pool Hx p c)
    ⟨_, _, _, _, _, rfl, pl1⟩ (fun _ _ _ _ _ => trivial) ?_ ?_
  · rintro i y σ H2 H3 hi ⟨v2, v3, v4, v5, v6, rfl, pl⟩ ⟨rfl, rfl⟩
    refine ⟨_, rfl, _, _, rfl, p, c, 4, rfl, rfl, by omega, by omega, pl, fun bx rs B W H4 pl4 kp4 box wf => ?_⟩
    refine ⟨_, rfl, _, _, rfl, p, c, 24, rfl, rfl, by omega, by omega, pl4, fun kd H5 hkd pl5 kp5 => ?_⟩
    have box5 := box.kp pl4 kp5
    refine ⟨fun σ Hx => ∃ bx rs B W v2 v5 v6, σ = [some (V.ref sc), some (V.ref p), v2, some (V.ref bx), some (V.int (kd : Nat)), v5, v6] ∧ Pool Hx p c ∧ BoxesAt Hx bx rs B ∧ Wf 30 B W, ?_, ?_⟩
    · refine ⟨_, rfl, _, _, rfl, rfl, _, rfl, ?_⟩
      refine ite2 (fun _ => ?_) (fun _ => ?_)
      · exact ⟨_, rfl, _, rfl, p, c, rfl, pl5, fun t rs' B' W' H' pl' kp' bx' wf' => ⟨t, rs', B', W', _, _, _, rfl, pl', bx', wf'⟩⟩
      · exact ⟨bx, rs, B, W, _, _, _, rfl, pl5, box5, wf⟩
    rintro σ H6 ⟨bx, rs, B, W, v2, v5, v6, rfl, pl6, box6, wf6⟩
    refine ⟨fun σ Hx => ∃ bx rs B W v2 v5 v6, σ = [some (V.ref sc), some (V.ref p), v2, some (V.ref bx), some (V.int (kd : Nat)), v5, v6] ∧ Pool Hx p c ∧ BoxesAt Hx bx rs B ∧ Wf 30 B W, ?_, ?_⟩
    · refine ⟨_, rfl, rfl, _, rfl, ?_⟩
      refine ite2 (fun _ => ?_) (fun _ => ?_)
      · refine ⟨_, rfl, _, rfl, _, _, rfl, p, c, 2, rfl, rfl, by omega, by omega, pl6, fun dd H7 hdd pl7 kp7 => ?_⟩
        exact ⟨rfl, _, _, rfl, p, c, _, rfl, rfl, pl7, fun t rs' B' W' H' pl' kp' bx' wf' => ⟨t, rs', B', W', _, _, _, rfl, pl', bx', wf'⟩⟩
      · exact ⟨bx, rs, B, W, _, _, _, rfl, pl6, box6, wf6⟩
    rintro σ H8 ⟨bx, rs, B, W, v2, v5, v6, rfl, pl8, box8, wf8⟩
    -- the table
    refine ⟨_, rfl, fun x dx nx ndx nex => ?_⟩
    have pn := pl8.new nx
    have pd := pl8.new ndx
    have keep : ∀ b o, H8 b = some o → (upd (upd H8 dx (.own x)) x (.ins (cTab K) dx [])) b = some o := fun b o e => by
      rw [upd_ne (ne_of_none e nx), upd_ne (ne_of_none e ndx)]
      exact e
    have pl9 : Pool (upd (upd H8 dx (.own x)) x (.ins (cTab K) dx [])) p c := pl8.same keep
    have box9 := box8.same keep
    have hx9 : (upd (upd H8 dx (.own x)) x (.ins (cTab K) dx [])) x = some (.ins (cTab K) dx []) := upd_same
    refine ⟨_, _, rfl, x, bx, dx, rs, B, W, rfl, rfl, hx9, box9, wf8, fun d H10 nd10 tab kp => ⟨rfl, ?_⟩⟩
    have pl10 : Pool H10 p c := by
      obtain ⟨a, b, ms, p1, p2⟩ := pl9
      exact ⟨a, b, ms, kp _ _ p1 (ne_of hx9 p1 (by intro z; cases z)).symm, kp _ _ p2 (ne_of hx9 p2 (by intro z; cases z)).symm⟩
    have tne : ∀ {q : Addr} {xs : List V}, (upd (upd H8 dx (.own x)) x (.ins (cTab K) dx [])) q = some (.tup xs) → q ≠ x := fun e => (ne_of hx9 e (by intro z; cases z)).symm
    have box10 : BoxesAt H10 bx rs B := ⟨kp _ _ box9.at_ (tne box9.at_), box9.len, fun i r row h1 h2 => kp _ _ (box9.row i r row h1 h2) (tne (box9.row i r row h1 h2))⟩
    -- the rows
    have lB : (rs.map V.ref).length = B.length := by rw [List.length_map, box10.len]
    have hB2 := wf8.h2
    obtain ⟨m0, hm0, hm1, hm2⟩ : ∃ m0 : Int, (if ((rs.map V.ref).length : Int) < 4 then ((rs.map V.ref).length : Int) else 4) = m0 ∧ 0 ≤ m0 ∧ m0 ≤ B.length := by
      refine ⟨_, rfl, ?_, ?_⟩
      · split <;> omega
      · split <;> omega
    refine ⟨_, rfl, bx, _, rfl, .inr (SqT.of box10.at_), _, _, rfl, m0, by rw [← hm0], by omega, by omega, ?_⟩
    refine for_it (walk_range (lo := 0) (n := m0.toNat)) (fun i σ Hx => ∃ v2 v6, σ = [some (V.ref sc), some (V.ref p), v2, some (V.ref bx), some (V.int (kd : Nat)), some (V.ref x), v6] ∧ Pool Hx p c ∧ BoxesAt Hx bx rs B ∧ TabAt K Hx x d B.length W (told B))
      ⟨_, _, rfl, pl10, box10, tab⟩ (fun _ _ _ _ _ => trivial) ?_ ?_
    · rintro j y σ H11 H12 hj ⟨v2, v6, rfl, plx, boxx, tabx⟩ ⟨rfl, hy⟩
      have hy : y = .int (j : Nat) := by rw [hy]; show V.int (0 + (j : Nat)) = _; rw [Int.zero_add]
      subst hy
      refine ⟨_, rfl, _, rfl, _, rfl, _, rfl, _, _, _, _, rfl, p, c, bx, x, d, rs, B, W, j, rfl, rfl, rfl, rfl, plx, boxx, wf8, tabx, by omega, fun H' pl' kp' => ⟨true, rfl, ?_⟩⟩
      exact iteF ⟨_, _, rfl, pl', boxx.kp plx kp', tabx.kp plx kp'⟩
    · rintro σ H11 ⟨v2, v6, rfl, plx, _, _⟩
      exact ⟨_, _, _, _, _, rfl, plx⟩
  · rintro σ H2 ⟨v2, v3, v4, v5, v6, rfl, pl⟩
    exact k H2
theorem law_fn (T : Tx K mg) : ∃ fd : FuncData, mg "law" = some (.ref (He.ga K "law")) ∧ (∀ (s : Shared) (v : Value), BindsTo s fd ⟨[v], []⟩ [("_law_script", v)]) ∧ ∀ base : Heap, FnOk P w K mg base L2.CX0 7 (He.ga K "law") fd ["_law_script"] (sp1 (prLaw K)) := by
  obtain ⟨fd, F⟩ := T.c.def_ 38 (d := dd "law" 53) (by rfl)
  have F2 : FunD K "law" "law" (C8.fnArgs (top 53)) (C8.fnBody (top 53)) (C8.fnScope (top 53)) [] [] (He.ga K "law") fd := F
  obtain ⟨h1, h2⟩ := fun_of F2
  have S : C8.scC nLaw ["_law_script"] (C8.fnScope (top 53)) = true := by decide +kernel
  have b := FunD.bindsA (ps := ["_law_script"]) F2 fun _ _ _ _ _ _ us hl => match us, hl with | [_], _ => rfl
  refine ⟨fd, T.glo_ 38 (by rfl), fun s v => b s [v] rfl, fun base => ?_⟩
  exact C8.fn0 (N := nLaw) h1 (C8.fnScope_by S) (fun vs H Q E h => by obtain ⟨a, rfl, _⟩ := h; rfl) fun cdv A outer s H vs Q E hr h => by
    obtain ⟨a, rfl, h⟩ := h
    exact law_body T (He.ga K "law") cdv A outer s H a Q E (C8.fnScope_by S).nd hr h
end
end FtP
set_option Elab.async false
set_option linter.all false
set_option maxRecDepth 100000
set_option maxHeartbeats 0
open PySem PySem.W PySem.Calls PyProof.Rows
theorem PySem.Challenge.cw_foretoldforms_k17_whole_foretold_by_all_holds : PySem.Challenge.rw_foretoldforms_k17_whole_foretold_by_all.Holds := by
  w_on; o_law
  refine HandSHeadRun.head_any (r := OpenLaw.row PySem.Challenge.rw_foretoldforms_k17_whole_foretold_by_all) (q := view (OpenLaw.row PySem.Challenge.rw_foretoldforms_k17_whole_foretold_by_all).prog [53]) (H := FtT.hk) (ob := FtT.ob) (M := 4000) (loose := FtT.loose) (d := HandSHeadRun.topDef (OpenLaw.row PySem.Challenge.rw_foretoldforms_k17_whole_foretold_by_all).prog 53) (kwd := []) FtT.ob_eq
    (by kernel_rfl) (fun s => by kernel_rfl) FtT.run (by kernel_rfl) (by kernel_rfl) (by kernel_rfl) (by rfl) (by first | assumption | decide +kernel) (by decide +kernel) ⟨rfl, rfl, rfl, rfl, rfl, by decide +kernel⟩ ?hw ?hc
  case hw => w_witness2
  case hc =>
    refine L2.walk_ofE (l := PySem.Challenge.rw_foretoldforms_k17_whole_foretold_by_all) (n := 63) (k := 7) (x := "_law_script") (CX := L2.CX0) rfl (by decide) (by kernel_rfl) ⟨rfl, by decide, by decide⟩ ?F (fun _ _ _ _ z => z)
    intro w mg fa h Y G hmg0
    obtain ⟨K, KX, c⟩ := Y
    have hmg : mg ("law" : PySem.Str) = some (.ref fa) := by
      have e : (HandSHeadRun.topDef (OpenLaw.row PySem.Challenge.rw_foretoldforms_k17_whole_foretold_by_all).prog 53).name = ("law" : PySem.Str) := by kernel_rfl
      rw [← e]
      exact hmg0
    have T : FtT.Tx K mg := ⟨⟨h, KX, G⟩, c⟩
    obtain ⟨fd, hg, hb, hF⟩ := FtP.law_fn (P := (PySem.Challenge.rw_foretoldforms_k17_whole_foretold_by_all).prog) (w := w) T
    have e := hmg.symm.trans hg
    cases e
    exact ⟨K, fd, FtT.sp1 (FtP.prLaw K), KX, hb, fun H a ns hl _ hS => ⟨_, rfl, a, ns, rfl, hS, hl, fun _ => rfl⟩, fun base _ _ => hF base⟩
