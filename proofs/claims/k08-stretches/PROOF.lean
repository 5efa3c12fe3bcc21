import PyProof.Rows.All
import Wide.All
import OpenK.AllK
import Wide.FinOn
import HandS.ForMost
import HandS.ForExc
import HandS.Wide
import HandS.Style
import HandS.TupAny
import HandS.CallSlots
import PyProof.StrOps2
import PyProof.StrBlock2
import HandS.IsInst
import PyProof.ListStr
import HandS.Zip
import HandS.Rev
import HandS.Text
import HandS.Codes
import PySem.Challenge.RW_busyspan_k08_whole_no_stretch_is_worse
set_option Elab.async false
set_option linter.all false
set_option maxRecDepth 100000
set_option maxHeartbeats 4000000
/-! An own functional layer over HandS: data, store, worlds, readings that are given by functions. -/
namespace F
open PySem PySem.Spec PyProof.Rows L2

/-- data: pure values; ref i is the i-th cell of the store -/
inductive D where
  | non | bl (b : Bool) | int (i : Int) | str (s : List Nat)
  | tup (ds : List D) | lst (ds : List D) | rol (ds : List D) | obj (c : Nat) (ds : List D)
  | ref (i : Nat)
  | rng (i j c : Int) | ty (n : String) | cl (c : Nat)

/-- what may change -/
inductive Cell where
  | dead
  | lst (ds : List D)
  | ins (c : Nat) (ds : List D)

abbrev Sto := List Cell
def Cell.live : Cell → Bool
  | .dead => false
  | _ => true

/-- the classes of the text: where they stand, their attributes in the order of their first store -/
structure CT where
  K : PySem.W.Frag
  cls : Nat → Addr
  fld : Nat → List Str

/-- ρ: where the cells stand; hid: lists that a comprehension fills just now -/
structure Wd where
  ρ : List Addr
  st : Sto
  H : Hp
  hid : List Addr
def Wd.live (w : Wd) (a : Addr) : Prop := a ∈ w.hid ∨ ∃ (i : Nat) (c : Cell), w.st[i]? = some c ∧ c.live = true ∧ w.ρ[i]? = some a

def KLst (K : PySem.W.Frag) (a : Addr) (xs : List V) : Prop := ∃ (o : Obj) (its : Array Value) (n : Nat), K.lookup a = some o ∧ o.cls = .type "list" ∧ o.dict = none ∧ o.data = .seq its n ∧ its.size ≤ sizeLine ∧ Vals xs its.toList
def KTup (K : PySem.W.Frag) (a : Addr) (xs : List V) : Prop := ∃ (o : Obj) (its : Array Value) (n : Nat), K.lookup a = some o ∧ o.cls = .type "tuple" ∧ o.data = .seq its n ∧ its.size ≤ sizeLine ∧ Vals xs its.toList
def SqLn (G : CT) (w : Wd) (a : Addr) (xs : List V) : Prop := (Rd w.H a (.lst xs) ∧ ¬ w.live a) ∨ KLst G.K a xs
def SqTn (G : CT) (w : Wd) (a : Addr) (xs : List V) : Prop := (Rd w.H a (.tup xs) ∧ ¬ w.live a) ∨ KTup G.K a xs
theorem SqLn.sq {G : CT} {w : Wd} {a : Addr} {xs : List V} (h : SqLn G w a xs) : SqL G.K w.H a xs := by
  rcases h with h | h
  · exact .inl h.1
  · exact .inr h
theorem SqTn.sq {G : CT} {w : Wd} {a : Addr} {xs : List V} (h : SqTn G w a xs) : SqT G.K w.H a xs := by
  rcases h with h | h
  · exact .inl h.1
  · exact .inr h

/-- a range object -/
def rngO (a : Addr) (i j c : Int) : HO := .ext fun h => ∃ t u v, h.get? a = some { cls := .type "range", data := .fields #[.int i t, .int j u, .int c v] }
mutual
/-- the datum d is the value x -/
def Rl (G : CT) (w : Wd) : D → V → Prop
  | .non, x => x = .non
  | .bl b, x => x = .bl b
  | .int i, x => x = .int i
  | .str s, x => x = .str ⟨s.toArray⟩
  | .tup ds, x => ∃ (a : Addr) (xs : List V), x = .ref a ∧ SqTn G w a xs ∧ Rls G w ds xs
  | .lst ds, x => ∃ (a : Addr) (xs : List V), x = .ref a ∧ (w.H a = some (.lst xs) ∧ ¬ w.live a) ∧ Rls G w ds xs
  | .rol ds, x => ∃ (a : Addr) (xs : List V), x = .ref a ∧ SqLn G w a xs ∧ Rls G w ds xs
  | .obj c ds, x => ∃ (a dx : Addr) (fs : List (Str × V)), x = .ref a ∧ w.H a = some (.ins (G.cls c) dx fs) ∧ ¬ w.live a ∧ fs.map (·.1) = G.fld c ∧ Rls G w ds (fs.map (·.2))
  | .ref i, x => ∃ a : Addr, w.ρ[i]? = some a ∧ x = .ref a
  | .rng i j c, x => ∃ a : Addr, x = .ref a ∧ w.H a = some (rngO a i j c) ∧ ¬ w.live a
  | .ty n, x => x = .ty n
  | .cl c, x => x = .ref (G.cls c)
def Rls (G : CT) (w : Wd) : List D → List V → Prop
  | [], xs => xs = []
  | d :: ds, xs => ∃ (x : V) (r : List V), xs = x :: r ∧ Rl G w d x ∧ Rls G w ds r
end

/-- the world goes on: what isn't live stays -/
structure Lw (w w' : Wd) : Prop where
  pre : ∀ (i : Nat) (a : Addr), w.ρ[i]? = some a → w'.ρ[i]? = some a
  ext : ∀ (a : Addr) (o : HO), w.H a = some o → ¬ w.live a → w'.H a = some o ∧ ¬ w'.live a
theorem Lw.refl (w : Wd) : Lw w w := ⟨fun _ _ h => h, fun _ _ h n => ⟨h, n⟩⟩
theorem Lw.trans {a b c : Wd} (h : Lw a b) (k : Lw b c) : Lw a c := ⟨fun i x e => k.pre i x (h.pre i x e), fun x o e n => k.ext x o (h.ext x o e n).1 (h.ext x o e n).2⟩
/-- .. and the hidden lists stay, too -/
structure Le (w w' : Wd) : Prop extends Lw w w' where
  hid : w'.hid = w.hid
  hide : ∀ a ∈ w.hid, w'.H a = w.H a
theorem Le.refl (w : Wd) : Le w w := ⟨Lw.refl w, rfl, fun _ _ => rfl⟩
theorem Le.trans {a b c : Wd} (h : Le a b) (k : Le b c) : Le a c := ⟨h.toLw.trans k.toLw, k.hid.trans h.hid, fun x m => (k.hide x (by rw [h.hid]; exact m)).trans (h.hide x m)⟩
theorem Lw.rd {w w' : Wd} (l : Lw w w') {a : Addr} {u : HO} (h : Rd w.H a u ∧ ¬ w.live a) : Rd w'.H a u ∧ ¬ w'.live a := by
  obtain ⟨h | ⟨o, h⟩, n⟩ := h
  · exact ⟨.inl (l.ext _ _ h n).1, (l.ext _ _ h n).2⟩
  · exact ⟨.inr ⟨o, (l.ext _ _ h n).1⟩, (l.ext _ _ h n).2⟩
theorem SqLn.monoW {G : CT} {w w' : Wd} (l : Lw w w') {a : Addr} {xs : List V} (h : SqLn G w a xs) : SqLn G w' a xs := by
  rcases h with h | h
  · exact .inl (l.rd h)
  · exact .inr h
theorem SqTn.monoW {G : CT} {w w' : Wd} (l : Lw w w') {a : Addr} {xs : List V} (h : SqTn G w a xs) : SqTn G w' a xs := by
  rcases h with h | h
  · exact .inl (l.rd h)
  · exact .inr h
mutual
theorem Rl.monoW {G : CT} {w w' : Wd} (l : Lw w w') : ∀ {d : D} {x : V}, Rl G w d x → Rl G w' d x
  | .non, _, h => h
  | .bl _, _, h => h
  | .int _, _, h => h
  | .str _, _, h => h
  | .tup ds, x, h => by
    obtain ⟨a, xs, e, s, r⟩ := h
    exact ⟨a, xs, e, s.monoW l, Rls.monoW l r⟩
  | .lst ds, x, h => by
    obtain ⟨a, xs, e, s, r⟩ := h
    exact ⟨a, xs, e, l.ext _ _ s.1 s.2, Rls.monoW l r⟩
  | .rol ds, x, h => by
    obtain ⟨a, xs, e, s, r⟩ := h
    exact ⟨a, xs, e, s.monoW l, Rls.monoW l r⟩
  | .obj c ds, x, h => by
    obtain ⟨a, dx, fs, e, s, n, k, r⟩ := h
    exact ⟨a, dx, fs, e, (l.ext _ _ s n).1, (l.ext _ _ s n).2, k, Rls.monoW l r⟩
  | .ref i, x, h => by
    obtain ⟨a, e, r⟩ := h
    exact ⟨a, l.pre _ _ e, r⟩
  | .rng _ _ _, x, h => by
    obtain ⟨a, e, s, n⟩ := h
    exact ⟨a, e, (l.ext _ _ s n).1, (l.ext _ _ s n).2⟩
  | .ty _, _, h => h
  | .cl _, _, h => h
theorem Rls.monoW {G : CT} {w w' : Wd} (l : Lw w w') : ∀ {ds : List D} {xs : List V}, Rls G w ds xs → Rls G w' ds xs
  | [], _, h => h
  | d :: ds, xs, h => by
    obtain ⟨x, r, e, h1, h2⟩ := h
    exact ⟨x, r, e, Rl.monoW l h1, Rls.monoW l h2⟩
end
theorem SqLn.mono {G : CT} {w w' : Wd} (l : Le w w') {a : Addr} {xs : List V} (h : SqLn G w a xs) : SqLn G w' a xs := h.monoW l.toLw
theorem SqTn.mono {G : CT} {w w' : Wd} (l : Le w w') {a : Addr} {xs : List V} (h : SqTn G w a xs) : SqTn G w' a xs := h.monoW l.toLw
theorem Rl.mono {G : CT} {w w' : Wd} (l : Le w w') {d : D} {x : V} (h : Rl G w d x) : Rl G w' d x := Rl.monoW l.toLw h
theorem Rls.mono {G : CT} {w w' : Wd} (l : Le w w') {ds : List D} {xs : List V} (h : Rls G w ds xs) : Rls G w' ds xs := Rls.monoW l.toLw h

theorem Rls.length {G : CT} {w : Wd} : ∀ {ds : List D} {xs : List V}, Rls G w ds xs → xs.length = ds.length
  | [], _, h => by rw [show _ = ([] : List V) from h]; rfl
  | d :: ds, xs, h => by
    obtain ⟨x, r, e, _, h2⟩ := h
    rw [e, List.length_cons, List.length_cons, Rls.length h2]
theorem Rls.get {G : CT} {w : Wd} : ∀ {ds : List D} {xs : List V} {i : Nat} {d : D}, Rls G w ds xs → ds[i]? = some d → ∃ x, xs[i]? = some x ∧ Rl G w d x
  | [], _, _, _, _, e => by simp at e
  | d :: ds, xs, i, y, h, e => by
    obtain ⟨x, r, e1, h1, h2⟩ := h
    subst e1
    cases i with
    | zero =>
      have q : d = y := by simpa using e
      subst q
      exact ⟨x, rfl, h1⟩
    | succ i => exact Rls.get (i := i) h2 (by simpa using e)
theorem Rls.get' {G : CT} {w : Wd} : ∀ {ds : List D} {xs : List V} {i : Nat} {x : V}, Rls G w ds xs → xs[i]? = some x → ∃ d, ds[i]? = some d ∧ Rl G w d x
  | [], xs, i, x, h, e => by
    have q : xs = [] := h
    subst q
    simp at e
  | d :: ds, xs, i, y, h, e => by
    obtain ⟨x, r, e1, h1, h2⟩ := h
    subst e1
    cases i with
    | zero =>
      have q : x = y := by simpa using e
      subst q
      exact ⟨d, rfl, h1⟩
    | succ i => exact Rls.get' (i := i) h2 (by simpa using e)
theorem Rls.append {G : CT} {w : Wd} : ∀ {ds es : List D} {xs ys : List V}, Rls G w ds xs → Rls G w es ys → Rls G w (ds ++ es) (xs ++ ys)
  | [], es, xs, ys, h, k => by
    have q : xs = [] := h
    subst q
    exact k
  | d :: ds, es, xs, ys, h, k => by
    obtain ⟨x, r, e1, h1, h2⟩ := h
    subst e1
    exact ⟨x, r ++ ys, rfl, h1, Rls.append h2 k⟩
theorem Rls.nil {G : CT} {w : Wd} : Rls G w [] [] := rfl
theorem Rls.cons {G : CT} {w : Wd} {d : D} {x : V} {ds : List D} {xs : List V} (h : Rl G w d x) (k : Rls G w ds xs) : Rls G w (d :: ds) (x :: xs) := ⟨x, xs, rfl, h, k⟩
theorem Rls.one {G : CT} {w : Wd} {d : D} {x : V} (h : Rl G w d x) : Rls G w [d] [x] := .cons h .nil
theorem Rls.take {G : CT} {w : Wd} : ∀ {ds : List D} {xs : List V} (n : Nat), Rls G w ds xs → Rls G w (ds.take n) (xs.take n)
  | _, _, 0, _ => rfl
  | [], xs, n + 1, h => by
    have q : xs = [] := h
    subst q
    rfl
  | d :: ds, xs, n + 1, h => by
    obtain ⟨x, r, e1, h1, h2⟩ := h
    subst e1
    exact ⟨x, r.take n, rfl, h1, Rls.take n h2⟩
theorem Rls.drop {G : CT} {w : Wd} : ∀ {ds : List D} {xs : List V} (n : Nat), Rls G w ds xs → Rls G w (ds.drop n) (xs.drop n)
  | _, _, 0, h => h
  | [], xs, n + 1, h => by
    have q : xs = [] := h
    subst q
    rfl
  | d :: ds, xs, n + 1, h => by
    obtain ⟨x, r, e1, h1, h2⟩ := h
    subst e1
    exact Rls.drop n h2
theorem Rls.set {G : CT} {w : Wd} : ∀ {ds : List D} {xs : List V} {d : D} {x : V} (n : Nat), Rls G w ds xs → Rl G w d x → Rls G w (ds.set n d) (xs.set n x)
  | [], xs, d, x, n, h, _ => by
    have q : xs = [] := h
    subst q
    rfl
  | d :: ds, xs, e, y, 0, h, k => by
    obtain ⟨x, r, e1, h1, h2⟩ := h
    subst e1
    exact ⟨y, r, rfl, k, h2⟩
  | d :: ds, xs, e, y, n + 1, h, k => by
    obtain ⟨x, r, e1, h1, h2⟩ := h
    subst e1
    exact ⟨x, r.set n y, rfl, h1, Rls.set n h2 k⟩

/-! ### the world is kept -/
def CellR (G : CT) (w : Wd) : Cell → Addr → Prop
  | .dead, a => ∃ o, w.H a = some o
  | .lst ds, a => ∃ xs, w.H a = some (.lst xs) ∧ Rls G w ds xs
  | .ins c ds, a => ∃ dx fs, w.H a = some (.ins (G.cls c) dx fs) ∧ fs.map (·.1) = (G.fld c).take ds.length ∧ Rls G w ds (fs.map (·.2))
structure Ok (G : CT) (w : Wd) : Prop where
  len : w.ρ.length = w.st.length
  nd : w.ρ.Nodup
  cell : ∀ (i : Nat) (c : Cell) (a : Addr), w.st[i]? = some c → w.ρ[i]? = some a → CellR G w c a
  hid : ∀ a ∈ w.hid, (∃ o, w.H a = some o) ∧ a ∉ w.ρ
theorem CellR.exs {G : CT} {w : Wd} {c : Cell} {a : Addr} (h : CellR G w c a) : ∃ o, w.H a = some o := by
  cases c with
  | dead => exact h
  | lst ds => obtain ⟨xs, e, _⟩ := h; exact ⟨_, e⟩
  | ins c ds => obtain ⟨dx, fs, e, _⟩ := h; exact ⟨_, e⟩
theorem Ok.at {G : CT} {w : Wd} (k : Ok G w) {i : Nat} {c : Cell} (h : w.st[i]? = some c) : ∃ a, w.ρ[i]? = some a ∧ CellR G w c a := by
  have hi : i < w.ρ.length := by rw [k.len]; exact (List.getElem?_eq_some_iff.mp h).1
  exact ⟨w.ρ[i], List.getElem?_eq_getElem hi, k.cell i c _ h (List.getElem?_eq_getElem hi)⟩
theorem Ok.mem {G : CT} {w : Wd} (k : Ok G w) {a : Addr} (h : a ∈ w.ρ) : ∃ o, w.H a = some o := by
  obtain ⟨i, hi, e⟩ := List.getElem_of_mem h
  have hs : i < w.st.length := by rw [← k.len]; exact hi
  exact CellR.exs (k.cell i w.st[i] a (List.getElem?_eq_getElem hs) (by rw [List.getElem?_eq_getElem hi, e]))
theorem Ok.new {G : CT} {w : Wd} (k : Ok G w) {a : Addr} (h : w.H a = none) : a ∉ w.ρ := fun m => by
  obtain ⟨o, e⟩ := k.mem m
  rw [h] at e
  cases e
theorem Ok.new_hid {G : CT} {w : Wd} (k : Ok G w) {a : Addr} (h : w.H a = none) : a ∉ w.hid := fun m => by
  obtain ⟨⟨o, e⟩, _⟩ := k.hid a m
  rw [h] at e
  cases e
theorem Ok.nlive {G : CT} {w : Wd} (k : Ok G w) {a : Addr} (h : w.H a = none) : ¬ w.live a := fun l => by
  rcases l with l | ⟨i, c, _, _, e⟩
  · exact k.new_hid h l
  · exact k.new h (List.mem_of_getElem? e)

/-- the heap grows by fresh objects that the store does not hold -/
theorem le_grow {G : CT} {w : Wd} {H' : Hp} (k : Ok G w) (h : ∀ a o, w.H a = some o → H' a = some o) : Le w ⟨w.ρ, w.st, H', w.hid⟩ := by
  refine ⟨⟨fun _ _ e => e, fun a o e n => ⟨h a o e, n⟩⟩, rfl, fun a m => ?_⟩
  obtain ⟨⟨o, e⟩, _⟩ := k.hid a m
  show H' a = w.H a
  rw [h a o e, e]
theorem CellR.growW {G : CT} {w w' : Wd} {c : Cell} {a : Addr} (l : Lw w w') (e : ∀ o, w.H a = some o → w'.H a = some o) (h : CellR G w c a) : CellR G w' c a := by
  cases c with
  | dead => obtain ⟨o, q⟩ := h; exact ⟨o, e o q⟩
  | lst ds => obtain ⟨xs, q, r⟩ := h; exact ⟨xs, e _ q, r.monoW l⟩
  | ins c ds => obtain ⟨dx, fs, q, k, r⟩ := h; exact ⟨dx, fs, e _ q, k, r.monoW l⟩
theorem CellR.grow {G : CT} {w w' : Wd} {c : Cell} {a : Addr} (l : Le w w') (e : ∀ o, w.H a = some o → w'.H a = some o) (h : CellR G w c a) : CellR G w' c a := CellR.growW l.toLw e h
theorem ok_grow {G : CT} {w : Wd} {H' : Hp} (k : Ok G w) (h : ∀ a o, w.H a = some o → H' a = some o) : Ok G ⟨w.ρ, w.st, H', w.hid⟩ :=
  ⟨k.len, k.nd, fun i c a e1 e2 => CellR.grow (le_grow k h) (fun o q => h a o q) (k.cell i c a e1 e2), fun a m => let ⟨⟨o, e⟩, n⟩ := k.hid a m; ⟨⟨o, h a o e⟩, n⟩⟩
theorem keeps_upd {H : Hp} {p : Addr} {o : HO} (n : H p = none) : ∀ a u, H a = some u → upd H p o a = some u := fun a u e => by
  rw [upd_ne (ne_of_none e n)]
  exact e
theorem nlive_new {G : CT} {w : Wd} (k : Ok G w) {a : Addr} (h : w.H a = none) : ¬ w.live a := k.nlive h

/-- a new cell -/
theorem getElem?_snoc {α : Type} {l : List α} {x y : α} {i : Nat} (h : (l ++ [x])[i]? = some y) : (l[i]? = some y) ∨ (i = l.length ∧ y = x) := by
  by_cases hi : i < l.length
  · rw [List.getElem?_append_left hi] at h
    exact .inl h
  · rw [List.getElem?_append_right (by omega)] at h
    have : i - l.length = 0 := by
      by_cases q : i - l.length = 0
      · exact q
      · rw [List.getElem?_eq_none (by simp; omega)] at h
        cases h
    rw [this] at h
    exact .inr ⟨by omega, by simpa using h.symm⟩
theorem live_snoc {w : Wd} {H' : Hp} {p a : Addr} {c : Cell} (hl : w.ρ.length = w.st.length) (h : Wd.live ⟨w.ρ ++ [p], w.st ++ [c], H', w.hid⟩ a) : w.live a ∨ a = p := by
  rcases h with h | ⟨i, d, e1, e2, e3⟩
  · exact .inl (.inl h)
  rcases getElem?_snoc e1 with e1 | ⟨e1, _⟩
  · rcases getElem?_snoc e3 with e3 | ⟨e3, q⟩
    · exact .inl (.inr ⟨i, d, e1, e2, e3⟩)
    · exact .inr q
  · rcases getElem?_snoc e3 with e3 | ⟨e3, q⟩
    · have := (List.getElem?_eq_some_iff.mp e3).1
      omega
    · exact .inr q
theorem le_new {G : CT} {w : Wd} (k : Ok G w) {p : Addr} {H' : Hp} (n : w.H p = none) {c : Cell} (h : ∀ a o, w.H a = some o → H' a = some o) : Le w ⟨w.ρ ++ [p], w.st ++ [c], H', w.hid⟩ := by
  refine ⟨⟨fun i a e => ?_, fun a o e l => ⟨h a o e, fun l' => ?_⟩⟩, rfl, fun a m => (le_grow k h).hide a m⟩
  · show (w.ρ ++ [p])[i]? = some a
    rw [List.getElem?_append_left (List.getElem?_eq_some_iff.mp e).1]
    exact e
  · rcases live_snoc k.len l' with q | q
    · exact l q
    · rw [q, n] at e
      cases e
theorem ok_new {G : CT} {w : Wd} (k : Ok G w) {p : Addr} {H' : Hp} (n : w.H p = none) {c : Cell} (h : ∀ a o, w.H a = some o → H' a = some o) (hc : CellR G ⟨w.ρ ++ [p], w.st ++ [c], H', w.hid⟩ c p) : Ok G ⟨w.ρ ++ [p], w.st ++ [c], H', w.hid⟩ := by
  refine ⟨by simp [k.len], ?_, fun i d a e1 e2 => ?_, fun a m => ?_⟩
  · show (w.ρ ++ [p]).Nodup
    rw [List.nodup_append]
    refine ⟨k.nd, by simp, fun a ha b hb => ?_⟩
    have : b = p := by simpa using hb
    subst this
    intro z
    subst z
    exact k.new n ha
  · rcases getElem?_snoc e1 with q1 | ⟨q1, q2⟩
    · rcases getElem?_snoc e2 with q3 | ⟨q3, q4⟩
      · exact CellR.grow (le_new k n h) (fun o q => h a o q) (k.cell i d a q1 q3)
      · have := (List.getElem?_eq_some_iff.mp q1).1
        have := k.len
        omega
    · rcases getElem?_snoc e2 with q3 | ⟨q3, q4⟩
      · have := (List.getElem?_eq_some_iff.mp q3).1
        have := k.len
        omega
      · subst q2
        subst q4
        exact hc
  · obtain ⟨⟨o, e⟩, q⟩ := k.hid a m
    refine ⟨⟨o, h a o e⟩, fun z => ?_⟩
    have z' : a ∈ w.ρ ++ [p] := z
    rcases List.mem_append.mp z' with z1 | z1
    · exact q z1
    · have e2 : a = p := by simpa using z1
      rw [e2, n] at e
      cases e

/-- a live cell changes -/
theorem live_set {w : Wd} {H' : Hp} {i : Nat} {c c' : Cell} (hi : w.st[i]? = some c) (hc : c.live = true) {b : Addr} (h : Wd.live ⟨w.ρ, w.st.set i c', H', w.hid⟩ b) : w.live b := by
  rcases h with h | ⟨j, d, e1, e2, e3⟩
  · exact .inl h
  refine .inr ?_
  by_cases hj : j = i
  · subst hj
    exact ⟨j, c, hi, hc, e3⟩
  · rw [show (w.st.set i c')[j]? = w.st[j]? from List.getElem?_set_ne (Ne.symm hj)] at e1
    exact ⟨j, d, e1, e2, e3⟩
theorem le_set {G : CT} {w : Wd} (k : Ok G w) {i : Nat} {c c' : Cell} {a : Addr} {o : HO} (hi : w.st[i]? = some c) (hc : c.live = true) (ha : w.ρ[i]? = some a) : Le w ⟨w.ρ, w.st.set i c', upd w.H a o, w.hid⟩ := by
  refine ⟨⟨fun _ _ e => e, fun b u e n => ⟨?_, fun l => n (live_set hi hc l)⟩⟩, rfl, fun b m => ?_⟩
  · show upd w.H a o b = some u
    rw [upd_ne (fun q => n (.inr ⟨i, c, hi, hc, by rw [q]; exact ha⟩))]
    exact e
  · show upd w.H a o b = w.H b
    rw [upd_ne]
    intro z
    subst z
    exact (k.hid b m).2 (List.mem_of_getElem? ha)
theorem ok_set {G : CT} {w : Wd} (k : Ok G w) {i : Nat} {c c' : Cell} {a : Addr} {o : HO} (hi : w.st[i]? = some c) (hc : c.live = true) (ha : w.ρ[i]? = some a)
    (hn : CellR G ⟨w.ρ, w.st.set i c', upd w.H a o, w.hid⟩ c' a) : Ok G ⟨w.ρ, w.st.set i c', upd w.H a o, w.hid⟩ := by
  refine ⟨by simp [k.len], k.nd, fun j d b e1 e2 => ?_, fun b m => ⟨?_, (k.hid b m).2⟩⟩
  rotate_left
  · obtain ⟨⟨u, e⟩, q⟩ := k.hid b m
    exact ⟨u, by rw [← e]; exact (le_set (c' := c') (o := o) k hi hc ha).hide b m⟩
  have hlt : i < w.st.length := (List.getElem?_eq_some_iff.mp hi).1
  by_cases hj : j = i
  · subst hj
    have e : (w.st.set j c')[j]? = some c' := List.getElem?_set_self hlt
    rw [e] at e1
    cases e1
    have e2' : w.ρ[j]? = some b := e2
    rw [ha] at e2'
    cases e2'
    exact hn
  · have e1' : w.st[j]? = some d := by
      have q : (w.st.set i c')[j]? = some d := e1
      rw [List.getElem?_set_ne (Ne.symm hj)] at q
      exact q
    refine CellR.grow (le_set k hi hc ha) (fun u q => ?_) (k.cell j d b e1' e2)
    show upd w.H a o b = some u
    have nb : b ≠ a := fun z => hj (nd_ix k.nd (show w.ρ[j]? = some a by rw [← z]; exact e2) ha)
    rw [upd_ne nb]
    exact q

/-- a live cell is let go: its object is pure from then on -/
theorem le_free {w : Wd} {i : Nat} {c : Cell} (hi : w.st[i]? = some c) (hc : c.live = true) : Le w ⟨w.ρ, w.st.set i .dead, w.H, w.hid⟩ :=
  ⟨⟨fun _ _ e => e, fun b u e n => ⟨e, fun l => n (live_set hi hc l)⟩⟩, rfl, fun _ _ => rfl⟩
theorem ok_free {G : CT} {w : Wd} (k : Ok G w) {i : Nat} {c : Cell} (hi : w.st[i]? = some c) (hc : c.live = true) : Ok G ⟨w.ρ, w.st.set i .dead, w.H, w.hid⟩ := by
  refine ⟨by simp [k.len], k.nd, fun j d b e1 e2 => ?_, k.hid⟩
  have hlt : i < w.st.length := (List.getElem?_eq_some_iff.mp hi).1
  by_cases hj : j = i
  · subst hj
    have e : (w.st.set j .dead)[j]? = some .dead := List.getElem?_set_self hlt
    rw [e] at e1
    cases e1
    exact CellR.exs (w := w) (c := c) (k.cell j c b hi e2)
  · have e1' : w.st[j]? = some d := by
      have q : (w.st.set i .dead)[j]? = some d := e1
      rw [List.getElem?_set_ne (Ne.symm hj)] at q
      exact q
    exact CellR.grow (le_free hi hc) (fun u q => q) (k.cell j d b e1' e2)
theorem free_nlive {G : CT} {w : Wd} (k : Ok G w) {i : Nat} {a : Addr} (ha : w.ρ[i]? = some a) : ¬ Wd.live ⟨w.ρ, w.st.set i .dead, w.H, w.hid⟩ a := fun h => by
  rcases h with h | ⟨j, d, e1, e2, e3⟩
  · exact (k.hid a h).2 (List.mem_of_getElem? ha)
  have hn := k.nd
  have hj : j = i := nd_ix hn e3 ha
  subst hj
  have q : (w.st.set j Cell.dead)[j]? = some d := e1
  rcases Nat.lt_or_ge j w.st.length with h | h
  · rw [List.getElem?_set_self h] at q
    cases q
    cases e2
  · rw [List.getElem?_eq_none (by simpa using h)] at q
    cases q
end F
/-! Results, and readings that are given by functions. -/
namespace F
open PySem PySem.Spec PyProof.Rows L2

inductive Res (α : Type) where
  | ok (a : α) (s : Sto)
  | ex (c : Nat) (ds : List D) (s : Sto)
  | bad
def Res.bind {α β : Type} (r : Res α) (f : α → Sto → Res β) : Res β :=
  match r with
  | .ok a s => f a s
  | .ex c ds s => .ex c ds s
  | .bad => .bad
theorem bind_ok {α β : Type} (a : α) (s : Sto) (f : α → Sto → Res β) : (Res.ok a s).bind f = f a s := rfl
theorem bind_ex {α β : Type} (c : Nat) (ds : List D) (s : Sto) (f : α → Sto → Res β) : (Res.ex c ds s : Res α).bind f = .ex c ds s := rfl
theorem bind_bad {α β : Type} (f : α → Sto → Res β) : (Res.bad : Res α).bind f = .bad := rfl

abbrev Env := List (Option D)
structure EnvR (G : CT) (w : Wd) (env : Env) (σ : L2.St) : Prop where
  len : σ.length = env.length
  at_ : ∀ (i : Nat) (d : D), env[i]? = some (some d) → ∃ x, σ[i]? = some (some x) ∧ Rl G w d x
theorem EnvR.monoW {G : CT} {w w' : Wd} {env : Env} {σ : L2.St} (l : Lw w w') (h : EnvR G w env σ) : EnvR G w' env σ :=
  ⟨h.len, fun i d e => let ⟨x, e1, r⟩ := h.at_ i d e; ⟨x, e1, r.monoW l⟩⟩
theorem EnvR.mono {G : CT} {w w' : Wd} {env : Env} {σ : L2.St} (l : Le w w') (h : EnvR G w env σ) : EnvR G w' env σ :=
  ⟨h.len, fun i d e => let ⟨x, e1, r⟩ := h.at_ i d e; ⟨x, e1, r.mono l⟩⟩
theorem EnvR.set {G : CT} {w : Wd} {env : Env} {σ : L2.St} (h : EnvR G w env σ) (i : Nat) {d : D} {x : V} (r : Rl G w d x) : EnvR G w (env.set i (some d)) (σ.set i (some x)) := by
  refine ⟨by simp [h.len], fun j e q => ?_⟩
  by_cases hj : j = i
  · subst hj
    by_cases hl : j < env.length
    · rw [List.getElem?_set_self hl] at q
      cases q
      exact ⟨x, List.getElem?_set_self (by rw [h.len]; exact hl), r⟩
    · rw [List.getElem?_eq_none (by simpa using hl)] at q
      cases q
  · rw [List.getElem?_set_ne (Ne.symm hj)] at q
    obtain ⟨y, e1, r1⟩ := h.at_ j e q
    exact ⟨y, by rw [List.getElem?_set_ne (Ne.symm hj)]; exact e1, r1⟩
theorem EnvR.unset {G : CT} {w : Wd} {env : Env} {σ : L2.St} (h : EnvR G w env σ) (i : Nat) : EnvR G w (env.set i none) (σ.set i none) := by
  refine ⟨by simp [h.len], fun j e q => ?_⟩
  by_cases hj : j = i
  · subst hj
    by_cases hl : j < env.length
    · rw [List.getElem?_set_self hl] at q
      cases q
    · rw [List.getElem?_eq_none (by simpa using hl)] at q
      cases q
  · rw [List.getElem?_set_ne (Ne.symm hj)] at q
    obtain ⟨y, e1, r1⟩ := h.at_ j e q
    exact ⟨y, by rw [List.getElem?_set_ne (Ne.symm hj)]; exact e1, r1⟩

/-- an exception of the class c with the fields ds; dd its own dict -/
def XR (G : CT) (w : Wd) (c : Nat) (ds : List D) (dd : Option Addr) : Prop :=
  ds = [] ∨ ∃ (d : Addr) (fs : List (Str × V)), dd = some d ∧ w.H d = some (.xd fs) ∧ ¬ w.live d ∧ ∀ (k : Nat) (x : D), ds[k]? = some x → ∃ n v, (G.fld c)[k]? = some n ∧ fs.lookup n = some v ∧ Rl G w x v
theorem XR.mono {G : CT} {w w' : Wd} (l : Le w w') {c : Nat} {ds : List D} {dd : Option Addr} (h : XR G w c ds dd) : XR G w' c ds dd := by
  rcases h with h | ⟨d, fs, e, q, n, k⟩
  · exact .inl h
  · exact .inr ⟨d, fs, e, (l.ext _ _ q n).1, (l.ext _ _ q n).2, fun i x h => let ⟨m, v, a, b, r⟩ := k i x h; ⟨m, v, a, b, r.mono l⟩⟩

section
variable {α β α' β' : Type}
/-- what is wanted of a result: R relates what the function gives and what the code gives -/
def Post (G : CT) (W : WX) (R : Wd → α → β → Prop) (σ : L2.St) (w : Wd) (r : Res α) (Q : β → Hp → Prop) : Prop :=
  match r with
  | .ok a s => ∀ (w' : Wd) (b : β), w'.st = s → Ok G w' → Le w w' → R w' a b → Q b w'.H
  | .ex c ds s => ∀ (w' : Wd) (dd : Option Addr), w'.st = s → Ok G w' → Le w w' → XR G w' c ds dd → W (.ref (G.cls c)) dd σ w'.H
  | .bad => False
theorem Post.mono {G : CT} {W : WX} {R : Wd → α → β → Prop} {σ : L2.St} {w w1 : Wd} (l : Le w w1) {r : Res α} {Q : β → Hp → Prop} (h : Post G W R σ w r Q) : Post G W R σ w1 r Q := by
  cases r with
  | ok a s => exact fun w' b e k l' q => h w' b e k (l.trans l') q
  | ex c ds s => exact fun w' dd e k l' q => h w' dd e k (l.trans l') q
  | bad => exact h
theorem Post.bind {G : CT} {W : WX} {R : Wd → α → β → Prop} {R' : Wd → α' → β' → Prop} {σ : L2.St} {w : Wd} {r : Res α} {f : α → Sto → Res α'} {Q : β → Hp → Prop} {Q' : β' → Hp → Prop}
    (h : Post G W R' σ w (r.bind f) Q') (k : ∀ (w' : Wd) (a : α) (b : β), Ok G w' → Le w w' → R w' a b → Post G W R' σ w' (f a w'.st) Q' → Q b w'.H) : Post G W R σ w r Q := by
  cases r with
  | ok a s => exact fun w' b e o l q => k w' a b o l q (by subst e; exact Post.mono l h)
  | ex c ds s => exact h
  | bad => exact h
theorem Post.ok {G : CT} {W : WX} {R : Wd → α → β → Prop} {σ : L2.St} {w : Wd} {a : α} {Q : β → Hp → Prop} (h : Post G W R σ w (.ok a w.st) Q) (o : Ok G w) {b : β} (r : R w a b) : Q b w.H := h w b rfl o (Le.refl w) r

/-- the reading of the function m -/
def RI (G : CT) (W : WX) (R : Wd → α → β → Prop) (m : Env → Sto → Res α) : L2.St → Hp → (β → Hp → Prop) → Prop := fun σ H Q =>
  ∃ (w : Wd) (env : Env), w.H = H ∧ Ok G w ∧ EnvR G w env σ ∧ Post G W R σ w (m env w.st) Q
end

abbrev Ev := Env → Sto → Res D
abbrev Tv := Env → Sto → Res Bool
abbrev Av := Env → Sto → Res (List D)
abbrev EI (G : CT) (W : WX) (m : Ev) : TE := RI G W (Rl G) m
abbrev TsI (G : CT) (W : WX) (m : Tv) : TT := RI G W (fun _ a b => a = b) m
abbrev AI (G : CT) (W : WX) (m : Av) : TA := RI G W (Rls G) m

/-! ### statements -/
inductive Out where
  | nx (env : Env) (s : Sto)
  | rt (d : D) (s : Sto)
  | bk (env : Env) (s : Sto)
  | ct (env : Env) (s : Sto)
  | ex (c : Nat) (ds : List D) (env : Env) (s : Sto)
  | bad
abbrev Sv := Env → Sto → Out
def PostS (G : CT) (W : WX) (w : Wd) (o : Out) (E : Ends) : Prop :=
  match o with
  | .nx env s => ∀ (w' : Wd) (σ : L2.St), w'.st = s → Ok G w' → Le w w' → EnvR G w' env σ → E.nx σ w'.H
  | .rt d s => ∀ (w' : Wd) (x : V), w'.st = s → Ok G w' → Le w w' → Rl G w' d x → E.rt x w'.H
  | .bk env s => ∀ (w' : Wd) (σ : L2.St), w'.st = s → Ok G w' → Le w w' → EnvR G w' env σ → E.bk σ w'.H
  | .ct env s => ∀ (w' : Wd) (σ : L2.St), w'.st = s → Ok G w' → Le w w' → EnvR G w' env σ → E.ct σ w'.H
  | .ex c ds env s => ∀ (w' : Wd) (σ : L2.St) (dd : Option Addr), w'.st = s → Ok G w' → Le w w' → EnvR G w' env σ → XR G w' c ds dd → W (.ref (G.cls c)) dd σ w'.H
  | .bad => False
theorem PostS.mono {G : CT} {W : WX} {w w1 : Wd} (l : Le w w1) {o : Out} {E : Ends} (h : PostS G W w o E) : PostS G W w1 o E := by
  cases o with
  | nx env s => exact fun w' b e k l' q => h w' b e k (l.trans l') q
  | rt d s => exact fun w' b e k l' q => h w' b e k (l.trans l') q
  | bk env s => exact fun w' b e k l' q => h w' b e k (l.trans l') q
  | ct env s => exact fun w' b e k l' q => h w' b e k (l.trans l') q
  | ex c ds env s => exact fun w' σ dd e k l' q => h w' σ dd e k (l.trans l') q
  | bad => exact h
def SI (G : CT) (W : WX) (m : Sv) : TS := fun E σ H => ∃ (w : Wd) (env : Env), w.H = H ∧ Ok G w ∧ EnvR G w env σ ∧ PostS G W w (m env w.st) E

/-- a statement's start: an expression, then the rest -/
def Res.andS {α : Type} (r : Res α) (env : Env) (f : α → Sto → Out) : Out :=
  match r with
  | .ok a s => f a s
  | .ex c ds s => .ex c ds env s
  | .bad => .bad
theorem PostS.bind {α β : Type} {G : CT} {W : WX} {R : Wd → α → β → Prop} {σ : L2.St} {w : Wd} {r : Res α} {env : Env} {f : α → Sto → Out} {Q : β → Hp → Prop} {E : Ends} (er : EnvR G w env σ)
    (h : PostS G W w (r.andS env f) E) (k : ∀ (w' : Wd) (a : α) (b : β), Ok G w' → Le w w' → R w' a b → PostS G W w' (f a w'.st) E → Q b w'.H) : Post G W R σ w r Q := by
  cases r with
  | ok a s => exact fun w' b e o l q => k w' a b o l q (by subst e; exact PostS.mono l h)
  | ex c ds s => exact fun w' dd e o l q => h w' σ dd e o l (er.mono l) q
  | bad => exact h
theorem PostS.toNx {G : CT} {W : WX} {w : Wd} {env : Env} {σ : L2.St} {E : Ends} (h : PostS G W w (.nx env w.st) E) (o : Ok G w) (r : EnvR G w env σ) : E.nx σ w.H := h w σ rfl o (Le.refl w) r

end F
namespace L2
open PySem PySem.Spec PyProof.Rows
/-! ### consequence -/
section
variable {X : Cx}
theorem PE.imp {e : Expr} {t t' : TE} (h : PE X e t) (k : ∀ σ H Q, t' σ H Q → t σ H Q) : PE X e t' := ⟨fun pins s σ H Q I q => h.run pins s σ H Q I (k σ H Q q)⟩
theorem PT.imp {e : Expr} {t t' : TT} (h : PT X e t) (k : ∀ σ H Q, t' σ H Q → t σ H Q) : PT X e t' := ⟨fun pins s σ H Q I q => h.run pins s σ H Q I (k σ H Q q)⟩
theorem PW.imp {e : Expr} {t t' : TT} (h : PW X e t) (k : ∀ σ H Q, t' σ H Q → t σ H Q) : PW X e t' := ⟨fun wh pins s σ H Q I q => h.run wh pins s σ H Q I (k σ H Q q)⟩
theorem PA.imp {es : List Expr} {t t' : TA} (h : PA X es t) (k : ∀ σ H Q, t' σ H Q → t σ H Q) : PA X es t' := ⟨fun pos pins s σ H Q I q => h.run pos pins s σ H Q I (k σ H Q q)⟩
theorem PS.imp {st : Stmt} {t t' : TS} (h : PS X st t) (k : ∀ D σ H, t' D σ H → t D σ H) : PS X st t' := ⟨fun pins s σ H D I q => h.run pins s σ H D I (k D σ H q)⟩
theorem PSs.imp {st : List Stmt} {t t' : TS} (h : PSs X st t) (k : ∀ D σ H, t' D σ H → t D σ H) : PSs X st t' := ⟨fun pins s σ H D I q => h.run pins s σ H D I (k D σ H q)⟩
theorem PE.or {e : Expr} {t t' : TE} (h : PE X e t) (h' : PE X e t') : PE X e (fun σ H Q => t σ H Q ∨ t' σ H Q) := ⟨fun pins s σ H Q I q => q.elim (h.run pins s σ H Q I) (h'.run pins s σ H Q I)⟩
theorem PI.or {tg it : Expr} {t t' : TI} (h : PI X tg it t) (h' : PI X tg it t') : PI X tg it (fun σ H Q => t σ H Q ∨ t' σ H Q) := ⟨fun pins s σ H Q I q => q.elim (h.run pins s σ H Q I) (h'.run pins s σ H Q I)⟩
theorem PI.imp {tg it : Expr} {t t' : TI} (h : PI X tg it t) (k : ∀ σ H Q, t' σ H Q → t σ H Q) : PI X tg it t' := ⟨fun pins s σ H Q I q => h.run pins s σ H Q I (k σ H Q q)⟩
end
end L2
/-! Expressions as functions. -/
namespace F
open PySem PySem.Spec PyProof.Rows L2

/-- what a body's context gives -/
structure Lay (X : Cx) (G : CT) (W : WX) : Prop where
  K : X.K = G.K
  tk : Takes X W
abbrev W0 : WX := fun _ _ _ _ => False
theorem Lay.none {X : Cx} {G : CT} (h : X.K = G.K) : Lay X G W0 := ⟨h, takes0⟩

section
variable {G : CT} {W : WX}
/-! ### lists and texts behind data -/
def asL (d : D) (st : Sto) : Option (List D) :=
  match d with
  | .lst ds => some ds
  | .rol ds => some ds
  | .ref i => match st[i]? with
    | some (.lst ds) => some ds
    | _ => none
  | _ => none
theorem asL_sq {w : Wd} (o : Ok G w) {d : D} {ds : List D} {x : V} (h : asL d w.st = some ds) (r : Rl G w d x) : ∃ a xs, x = .ref a ∧ SqL G.K w.H a xs ∧ Rls G w ds xs := by
  cases d with
  | lst es =>
    have e : es = ds := by simpa [asL] using h
    subst e
    obtain ⟨a, xs, e, s, q⟩ := r
    exact ⟨a, xs, e, SqL.of s.1, q⟩
  | rol es =>
    have e : es = ds := by simpa [asL] using h
    subst e
    obtain ⟨a, xs, e, s, q⟩ := r
    exact ⟨a, xs, e, s.sq, q⟩
  | ref i =>
    obtain ⟨a, e, q⟩ := r
    unfold asL at h
    cases hs : w.st[i]? with
    | none => simp [hs] at h
    | some c =>
      cases c with
      | dead => simp [hs] at h
      | ins c ds => simp [hs] at h
      | lst es =>
        simp [hs] at h
        subst h
        obtain ⟨xs, e1, e2⟩ := o.cell i _ a hs e
        exact ⟨a, xs, q, SqL.of e1, e2⟩
  | _ => simp [asL] at h
/-- a list that stands in the heap by itself -/
def asH (d : D) (st : Sto) : Option (List D) :=
  match d with
  | .lst ds => some ds
  | .ref i => match st[i]? with
    | some (.lst ds) => some ds
    | _ => none
  | _ => none
theorem asH_sq {w : Wd} (o : Ok G w) {d : D} {ds : List D} {x : V} (h : asH d w.st = some ds) (r : Rl G w d x) : ∃ a xs, x = .ref a ∧ w.H a = some (.lst xs) ∧ Rls G w ds xs := by
  cases d with
  | lst es =>
    have e : es = ds := by simpa [asH] using h
    subst e
    obtain ⟨a, xs, e, s, q⟩ := r
    exact ⟨a, xs, e, s.1, q⟩
  | ref i =>
    obtain ⟨a, e, q⟩ := r
    unfold asH at h
    cases hs : w.st[i]? with
    | none => simp [hs] at h
    | some c =>
      cases c with
      | dead => simp [hs] at h
      | ins c ds => simp [hs] at h
      | lst es =>
        simp [hs] at h
        subst h
        obtain ⟨xs, e1, e2⟩ := o.cell i _ a hs e
        exact ⟨a, xs, q, e1, e2⟩
  | _ => simp [asH] at h

/-- a new pure list, a new tuple -/
theorem new_lst {w : Wd} (o : Ok G w) {p : Addr} (n : w.H p = none) {ds : List D} {xs : List V} (r : Rls G w ds xs) :
    ∃ w', w'.H = upd w.H p (.lst xs) ∧ w'.st = w.st ∧ Ok G w' ∧ Le w w' ∧ Rl G w' (.lst ds) (.ref p) := by
  have l : Le w ⟨w.ρ, w.st, upd w.H p (.lst xs), w.hid⟩ := le_grow o (keeps_upd n)
  exact ⟨⟨w.ρ, w.st, upd w.H p (.lst xs), w.hid⟩, rfl, rfl, ok_grow o (keeps_upd n), l, p, xs, rfl, ⟨upd_same, o.nlive n⟩, r.mono l⟩
theorem new_tup {w : Wd} (o : Ok G w) {p : Addr} (n : w.H p = none) {ds : List D} {xs : List V} (r : Rls G w ds xs) :
    ∃ w', w'.H = upd w.H p (.tup xs) ∧ w'.st = w.st ∧ Ok G w' ∧ Le w w' ∧ Rl G w' (.tup ds) (.ref p) := by
  have l : Le w ⟨w.ρ, w.st, upd w.H p (.tup xs), w.hid⟩ := le_grow o (keeps_upd n)
  exact ⟨⟨w.ρ, w.st, upd w.H p (.tup xs), w.hid⟩, rfl, rfl, ok_grow o (keeps_upd n), l, p, xs, rfl, .inl ⟨.inl upd_same, o.nlive n⟩, r.mono l⟩
theorem Post.new_lst {σ : L2.St} {w : Wd} {ds : List D} {xs : List V} {Q : VK} (h : Post G W (Rl G) σ w (.ok (.lst ds) w.st) Q) (o : Ok G w) (r : Rls G w ds xs) {p : Addr} (n : w.H p = none) : Q (.ref p) (upd w.H p (.lst xs)) := by
  obtain ⟨w', e1, e2, o', l, q⟩ := F.new_lst o n r
  rw [← e1]
  exact h w' _ e2 o' l q
theorem Post.new_tup {σ : L2.St} {w : Wd} {ds : List D} {xs : List V} {Q : VK} (h : Post G W (Rl G) σ w (.ok (.tup ds) w.st) Q) (o : Ok G w) (r : Rls G w ds xs) {p : Addr} (n : w.H p = none) : Q (.ref p) (upd w.H p (.tup xs)) := by
  obtain ⟨w', e1, e2, o', l, q⟩ := F.new_tup o n r
  rw [← e1]
  exact h w' _ e2 o' l q
/-- a new mutable list -/
theorem Post.new_cell {σ : L2.St} {w : Wd} {ds : List D} {xs : List V} {Q : VK} (h : Post G W (Rl G) σ w (.ok (.ref w.st.length) (w.st ++ [.lst ds])) Q) (o : Ok G w) (r : Rls G w ds xs) {p : Addr} (n : w.H p = none) : Q (.ref p) (upd w.H p (.lst xs)) := by
  have l : Le w ⟨w.ρ ++ [p], w.st ++ [.lst ds], upd w.H p (.lst xs), w.hid⟩ := le_new o n (keeps_upd n)
  refine h ⟨w.ρ ++ [p], w.st ++ [.lst ds], upd w.H p (.lst xs), w.hid⟩ (.ref p) rfl (ok_new (c := .lst ds) o n (keeps_upd n) ⟨xs, upd_same, r.mono l⟩) l ⟨p, ?_, rfl⟩
  show (w.ρ ++ [p])[w.st.length]? = some p
  rw [← o.len, List.getElem?_append_right (Nat.le_refl _)]
  simp
end

/-! ### names, constants -/
def eVar (i : Nat) : Ev := fun env st => match env[i]? with
  | some (some d) => .ok d st
  | _ => .bad
def eC (d : D) : Ev := fun _ st => .ok d st
section
variable {X : Cx} {G : CT} {W : WX} {pos : Pos}
theorem qv (i : Nat) {x : Str} (hN : X.N[i]? = some x := by rfl) (hv : Vis X.env.scope x := by first | exact Or.inl rfl | exact Or.inr (Or.inl rfl) | exact Or.inr (Or.inr rfl)) (hd : (x == ("__debug__" : Str)) = false := by decide)
    (hcd : (x == ("__classdict__" : Str)) = false := by decide) : PE X (.Name x pos) (EI G W (eVar i)) := (pe_var hN hv hd hcd).imp fun σ H Q ⟨w, env, e, o, er, p⟩ => by
  unfold eVar at p
  split at p
  · rename_i d hd
    obtain ⟨x, e1, r⟩ := er.at_ i d hd
    exact ⟨x, e1, by subst e; exact p.ok o r⟩
  · exact p.elim
/-- a value that every world relates -/
theorem q_const {e : Expr} {v : V} {d : D} (h : PE X e (tC v)) (hr : ∀ w, Rl G w d v) : PE X e (EI G W (eC d)) := h.imp fun σ H Q ⟨w, env, e, o, er, p⟩ => by
  subst e
  exact p.ok o (hr w)
theorem q_int {i : Int} {j} : PE X (.Constant (.int i) j pos) (EI G W (eC (.int i))) := q_const pe_int fun _ => rfl
theorem q_bl {b : Bool} {j} : PE X (.Constant (.bool b) j pos) (EI G W (eC (.bl b))) := q_const pe_bl fun _ => rfl
theorem q_non {j} : PE X (.Constant .none j pos) (EI G W (eC .non)) := q_const pe_non fun _ => rfl
theorem q_str {x : Str} {j} (s : List Nat) (h : x = ⟨s.toArray⟩) : PE X (.Constant (.str x) j pos) (EI G W (eC (.str s))) := q_const pe_str fun _ => by rw [h]; rfl
theorem q_gint {x : Str} {i : Int} (hg : Gl X x) (hm : ∃ t, X.mg x = some (.int i t)) (hd : (x == ("__debug__" : Str)) = false := by decide) : PE X (.Name x pos) (EI G W (eC (.int i))) := by
  obtain ⟨t, hm⟩ := hm
  exact q_const (pe_glob (v := .int i) hg hm ⟨t, rfl⟩ hd) fun _ => rfl
end

/-! ### two-place operations -/
def OpF (G : CT) (f : D → D → Sto → Res D) (r : R2) : Prop := ∀ (W : WX) (σ : L2.St) (w : Wd) (x y : V) (dx dy : D) (Q : VK), Ok G w → Rl G w dx x → Rl G w dy y → Post G W (Rl G) σ w (f dx dy w.st) Q → r x y w.H Q
def eBin (f : D → D → Sto → Res D) (a b : Ev) : Ev := fun env st => (a env st).bind fun x s => (b env s).bind fun y s' => f x y s'
def tOf (m : Ev) : Tv := fun env st => (m env st).bind fun d s => match d with
  | .bl b => .ok b s
  | _ => .bad
section
variable {X : Cx} {G : CT} {W : WX} {pos : Pos} {a b : Expr} {ma mb : Ev} {f : D → D → Sto → Res D} {r : R2}
theorem bin_of (hf : OpF G f r) : ∀ σ H Q, EI G W (eBin f ma mb) σ H Q → tOp r (EI G W ma) (EI G W mb) σ H Q := fun σ H Q ⟨w, env, e, o, er, p⟩ =>
  ⟨w, env, e, o, er, p.bind fun w1 da x o1 l1 r1 p1 => ⟨w1, env, rfl, o1, er.mono l1, p1.bind fun w2 db y o2 l2 r2 p2 => hf W σ w2 x y da db Q o2 (r1.mono l2) r2 p2⟩⟩
theorem q_bin {op : Operator} (ho : OpR X (binaryOp op) r) (hf : OpF G f r) (ha : PE X a (EI G W ma)) (hb : PE X b (EI G W mb)) : PE X (.BinOp a op b pos) (EI G W (eBin f ma mb)) := (pe_op ho ha hb).imp (bin_of hf)
theorem q_cmp {op : CmpOp} (ho : OpR X (compareOp op) r) (hf : OpF G f r) (ha : PE X a (EI G W ma)) (hb : PE X b (EI G W mb)) (hm : behindInMarks op b = false) : PE X (.Compare a [op] [b] pos) (EI G W (eBin f ma mb)) := (pe_cmpR ho ha hb hm).imp (bin_of hf)
theorem test_of {m : Ev} : ∀ σ H Q, TsI G W (tOf m) σ H Q → tTest (EI G W m) σ H Q := fun σ H Q ⟨w, env, e, o, er, p⟩ =>
  ⟨w, env, e, o, er, p.bind fun w1 d x o1 l1 r1 p1 => by
    cases d with
    | bl b => exact ⟨b, r1, p1.ok o1 rfl⟩
    | _ => exact p1.elim⟩
theorem qt_cmp {op : CmpOp} (ho : OpR X (compareOp op) r) (hf : OpF G f r) (ha : PE X a (EI G W ma)) (hb : PE X b (EI G W mb)) (hm : behindInMarks op b = false) : PT X (.Compare a [op] [b] pos) (TsI G W (tOf (eBin f ma mb))) :=
  (pt_cmpR ho ha hb hm).imp fun σ H Q h => by
    obtain ⟨w, env, e, o, er, p⟩ := test_of σ H Q h
    exact bin_of hf σ H _ ⟨w, env, e, o, er, p⟩
/-- an expression of truth values as a test -/
theorem qt_val {e : Expr} {m : Ev} (h : PE X e (EI G W m)) (he : ∀ whole, isTrue e X.env whole = (do let v ← whole; standAt e.pos; holding [v] (truthy v)) := by intro _; rfl) : PT X e (TsI G W (tOf m)) := (pt_val h he).imp test_of
end

/-! ### whole numbers -/
def fI (g : Int → Int → Res D) : D → D → Sto → Res D := fun x y _ => match x, y with
  | .int i, .int j => g i j
  | _, _ => .bad
def fArith (g : Int → Int → Int) : D → D → Sto → Res D := fun x y st => match x, y with
  | .int i, .int j => .ok (.int (g i j)) st
  | _, _ => .bad
def fCmpI (g : Int → Int → Bool) : D → D → Sto → Res D := fun x y st => match x, y with
  | .int i, .int j => .ok (.bl (g i j)) st
  | _, _ => .bad
/-- with a condition -/
def fArithC (c : Int → Int → Bool) (g : Int → Int → Int) : D → D → Sto → Res D := fun x y st => match x, y with
  | .int i, .int j => if c i j = true then .ok (.int (g i j)) st else .bad
  | _, _ => .bad
section
variable {G : CT}
theorem of_arith {g : Int → Int → Int} : OpF G (fArith g) (rI0 fun i j => .int (g i j)) := fun W σ w x y dx dy Q o rx ry p => by
  unfold fArith at p
  split at p
  · exact ⟨_, _, rx, ry, p.ok o rfl⟩
  · exact p.elim
theorem of_cmpI {g : Int → Int → Bool} : OpF G (fCmpI g) (rI0 fun i j => .bl (g i j)) := fun W σ w x y dx dy Q o rx ry p => by
  unfold fCmpI at p
  split at p
  · exact ⟨_, _, rx, ry, p.ok o rfl⟩
  · exact p.elim
theorem of_arithC {C : Int → Int → Prop} {c : Int → Int → Bool} {g : Int → Int → Int} (hc : ∀ i j, c i j = true → C i j) : OpF G (fArithC c g) (rI C fun i j => .int (g i j)) := fun W σ w x y dx dy Q o rx ry p => by
  unfold fArithC at p
  split at p
  · split at p
    · rename_i h
      exact ⟨_, _, rx, ry, hc _ _ h, p.ok o rfl⟩
    · exact p.elim
  · exact p.elim
theorem OpF.or {f : D → D → Sto → Res D} {r r' : R2} (h : ∀ (W : WX) (σ : L2.St) (w : Wd) (x y : V) (dx dy : D) (Q : VK), Ok G w → Rl G w dx x → Rl G w dy y → Post G W (Rl G) σ w (f dx dy w.st) Q → r x y w.H Q ∨ r' x y w.H Q) : OpF G f (fun x y H Q => r x y H Q ∨ r' x y H Q) := h
end
/-- bounds that the rules ask -/
def bMul (i j : Int) : Bool := decide (i.natAbs.log2 + j.natAbs.log2 < 1000000)
def bDiv (_ j : Int) : Bool := decide (0 < j) && decide (j.natAbs.log2 < 9000)
def bMod (_ j : Int) : Bool := decide (0 < j)
def bPow (i j : Int) : Bool := decide (0 ≤ j) && decide (j ≤ 1000000) && decide (i.natAbs < 2 ^ 64)
def fSub := fArith fun i j => i - j
def fDiv := fArithC bDiv fun i j => i / j
def fMod := fArithC bMod fun i j => i % j
def fPow := fArithC bPow fun i j => i ^ j.toNat
section
variable {X : Cx} {G : CT} {W : WX} {pos : Pos} {a b : Expr} {ma mb : Ev}
theorem q_sub (ha : PE X a (EI G W ma)) (hb : PE X b (EI G W mb)) : PE X (.BinOp a .Sub b pos) (EI G W (eBin fSub ma mb)) := q_bin op_sub of_arith ha hb
theorem q_div (ha : PE X a (EI G W ma)) (hb : PE X b (EI G W mb)) : PE X (.BinOp a .FloorDiv b pos) (EI G W (eBin fDiv ma mb)) := q_bin op_fdivW (of_arithC fun i j h => by
  unfold bDiv at h
  rw [Bool.and_eq_true] at h
  exact ⟨of_decide_eq_true h.1, of_decide_eq_true h.2⟩) ha hb
theorem q_mod (ha : PE X a (EI G W ma)) (hb : PE X b (EI G W mb)) : PE X (.BinOp a .Mod b pos) (EI G W (eBin fMod ma mb)) := q_bin op_mod (of_arithC fun i j h => of_decide_eq_true h) ha hb
theorem q_pow (ha : PE X a (EI G W ma)) (hb : PE X b (EI G W mb)) : PE X (.BinOp a .Pow b pos) (EI G W (eBin fPow ma mb)) := q_bin op_pow (of_arithC fun i j h => by
  unfold bPow at h
  rw [Bool.and_eq_true, Bool.and_eq_true] at h
  exact ⟨of_decide_eq_true h.1.1, of_decide_eq_true h.1.2, of_decide_eq_true h.2⟩) ha hb
def fLt := fCmpI fun i j => decide (i < j)
def fLe := fCmpI fun i j => decide (i ≤ j)
def fGt := fCmpI fun i j => decide (j < i)
def fGe := fCmpI fun i j => decide (j ≤ i)
theorem q_lt (ha : PE X a (EI G W ma)) (hb : PE X b (EI G W mb)) : PE X (.Compare a [.Lt] [b] pos) (EI G W (eBin fLt ma mb)) := q_cmp op_lt of_cmpI ha hb (nomark _)
theorem q_le (ha : PE X a (EI G W ma)) (hb : PE X b (EI G W mb)) : PE X (.Compare a [.LtE] [b] pos) (EI G W (eBin fLe ma mb)) := q_cmp op_le of_cmpI ha hb (nomark _)
theorem q_gt (ha : PE X a (EI G W ma)) (hb : PE X b (EI G W mb)) : PE X (.Compare a [.Gt] [b] pos) (EI G W (eBin fGt ma mb)) := q_cmp op_gt of_cmpI ha hb (nomark _)
theorem q_ge (ha : PE X a (EI G W ma)) (hb : PE X b (EI G W mb)) : PE X (.Compare a [.GtE] [b] pos) (EI G W (eBin fGe ma mb)) := q_cmp op_ge of_cmpI ha hb (nomark _)
theorem qt_lt (ha : PE X a (EI G W ma)) (hb : PE X b (EI G W mb)) : PT X (.Compare a [.Lt] [b] pos) (TsI G W (tOf (eBin fLt ma mb))) := qt_cmp op_lt of_cmpI ha hb (nomark _)
theorem qt_le (ha : PE X a (EI G W ma)) (hb : PE X b (EI G W mb)) : PT X (.Compare a [.LtE] [b] pos) (TsI G W (tOf (eBin fLe ma mb))) := qt_cmp op_le of_cmpI ha hb (nomark _)
theorem qt_gt (ha : PE X a (EI G W ma)) (hb : PE X b (EI G W mb)) : PT X (.Compare a [.Gt] [b] pos) (TsI G W (tOf (eBin fGt ma mb))) := qt_cmp op_gt of_cmpI ha hb (nomark _)
theorem qt_ge (ha : PE X a (EI G W ma)) (hb : PE X b (EI G W mb)) : PT X (.Compare a [.GtE] [b] pos) (TsI G W (tOf (eBin fGe ma mb))) := qt_cmp op_ge of_cmpI ha hb (nomark _)
end
end F
/-! Expressions as functions, further: + * on anything, ==, tests, subscripts, displays, calls of built-ins. -/
namespace F
open PySem PySem.Spec PyProof.Rows L2

theorem str_app (a b : List Nat) : (⟨a.toArray⟩ : Str) ++ ⟨b.toArray⟩ = ⟨(a ++ b).toArray⟩ := by
  show Str.append _ _ = _
  unfold Str.append
  simp
theorem str_len (a : List Nat) : (⟨a.toArray⟩ : Str).length = a.length := by
  unfold Str.length
  simp
/-- a list made: pure, or a cell -/
def mkL (m : Bool) (ds : List D) (st : Sto) : Res D := if m = true then .ok (.ref st.length) (st ++ [.lst ds]) else .ok (.lst ds) st
section
variable {G : CT} {W : WX}
theorem Post.mk {m : Bool} {σ : L2.St} {w : Wd} {ds : List D} {xs : List V} {Q : VK} (h : Post G W (Rl G) σ w (mkL m ds w.st) Q) (o : Ok G w) (r : Rls G w ds xs) {p : Addr} (n : w.H p = none) : Q (.ref p) (upd w.H p (.lst xs)) := by
  unfold mkL at h
  split at h
  · exact h.new_cell o r n
  · exact h.new_lst o r n
end

/-! ### + -/
def fAdd (m : Bool) : D → D → Sto → Res D := fun x y st => match x, y with
  | .int i, .int j => .ok (.int (i + j)) st
  | .str a, .str b => if a.length + b.length ≤ sizeLine then .ok (.str (a ++ b)) st else .bad
  | .tup a, .tup b => if a.length + b.length ≤ sizeLine then .ok (.tup (a ++ b)) st else .bad
  | x, y => match asH x st, asH y st with
    | some a, some b => if a.length + b.length ≤ sizeLine then mkL m (a ++ b) st else .bad
    | _, _ => .bad
/-! ### text * int, list * int -/
def rMulS : R2 := fun x y H Q => ∃ (a : List Nat) (i : Int), x = .str ⟨a.toArray⟩ ∧ y = .int i ∧ i < 2 ^ 31 ∧ -(2 ^ 31) < i ∧ a.length * i.toNat ≤ sizeLine ∧ Q (.str ⟨(List.replicate i.toNat a).flatten.toArray⟩) H
theorem mulOk_of {x : Str} {n : Int} (h0 : -(2 ^ 31) < n) (h : n < 2 ^ 31) (hx : x.length ≤ sizeLine) (hl : x.length * n.toNat ≤ sizeLine) : MulOk x n := by
  refine ⟨?_, fun h1 h2 => ?_, fun h1 h2 => ?_⟩
  · simp only [Bool.or_eq_false_iff, decide_eq_false_iff_not]
    omega
  · rw [sizeLine_eq] at hx
    have e : (16777216 : Int) ≤ (2 ^ 63 - 1) / n := by
      rw [Int.le_ediv_iff_mul_le (by omega)]
      omega
    omega
  · unfold PySem.Builtin.Str.tooLong
    exact decide_eq_false (by omega)
theorem foldl_app (a : List Nat) : ∀ (n : Nat) (acc : Array Nat), (List.replicate n a.toArray).foldl (· ++ ·) acc = (acc.toList ++ (List.replicate n a).flatten).toArray
  | 0, acc => by simp
  | n + 1, acc => by
    rw [List.replicate_succ, List.foldl_cons, foldl_app a n, List.replicate_succ, List.flatten_cons]
    simp
theorem mul_txt (a : List Nat) (i : Int) : Txt.mul ⟨a.toArray⟩ i = ⟨(List.replicate i.toNat a).flatten.toArray⟩ := by
  unfold Txt.mul
  by_cases h : i < 1
  · rw [if_pos h]
    have e : i.toNat = 0 := by omega
    rw [e]
    rfl
  · rw [if_neg h]
    by_cases h2 : (i == 1 || (⟨a.toArray⟩ : Str).length == 0) = true
    · rw [if_pos h2]
      rw [Bool.or_eq_true] at h2
      rcases h2 with h2 | h2
      · have e : i = 1 := by simpa using h2
        subst e
        simp
      · rw [str_len] at h2
        have e : a.length = 0 := by simpa using h2
        have e2 : a = [] := List.length_eq_zero_iff.mp e
        subst e2
        simp
    · rw [if_neg h2, foldl_app]
      simp
section
variable {X : Cx} {G : CT} {W : WX} {pos : Pos} {a b c : Expr} {ma mb mc : Ev}
theorem op_mulS (hX : X.K = G.K) : OpR X (binaryOp .Mult) rMulS := by
  intro pins s σ H x y v u Q I rx ry h
  obtain ⟨a, i, rfl, rfl, h1, h2, h3, q⟩ := h
  obtain ⟨t, rfl⟩ := rx
  obtain ⟨t', rfl⟩ := ry
  by_cases hz : i < 1
  · have e : i.toNat = 0 := by omega
    rw [e] at q
    refine SB.mul (x := ⟨a.toArray⟩) (n := i) ⟨?_, fun h => absurd hz h, fun h => absurd hz h⟩ fun t' k => ⟨.str (Txt.mul ⟨a.toArray⟩ i), H, I.tok _, ⟨t', rfl⟩, ?_⟩
    · simp only [Bool.or_eq_false_iff, decide_eq_false_iff_not]
      omega
    · rw [mul_txt, e]
      exact q
  · have hn : 1 ≤ i.toNat := by omega
    have hl : a.length ≤ sizeLine := Nat.le_trans (Nat.le_mul_of_pos_right _ hn) h3
    refine SB.mul (x := ⟨a.toArray⟩) (n := i) (mulOk_of h2 h1 (by rw [str_len]; exact hl) (by rw [str_len]; exact h3)) fun t' k => ⟨.str (Txt.mul ⟨a.toArray⟩ i), H, I.tok _, ⟨t', rfl⟩, ?_⟩
    rw [mul_txt]
    exact q
def rAnyAdd (K : PySem.W.Frag) : R2 := fun x y H Q => (∃ i j, x = .int i ∧ y = .int j ∧ Q (.int (i + j)) H) ∨ (∃ i j, x = .str i ∧ y = .str j ∧ i.length + j.length ≤ sizeLine ∧ Q (.str (i ++ j)) H) ∨ rCat x y H Q ∨ rCatA K x y H Q
theorem op_anyAdd : OpR X (binaryOp .Add) (rAnyAdd X.K) := op_add.or (op_add_str.or (op_cat.or op_catA))
theorem of_anyAdd (m : Bool) : OpF G (fAdd m) (rAnyAdd G.K) := fun W σ w x y dx dy Q o rx ry p => by
  unfold fAdd at p
  split at p
  · exact .inl ⟨_, _, rx, ry, p.ok o rfl⟩
  · split at p
    · rename_i a b h
      refine .inr (.inl ⟨_, _, rx, ry, by rw [str_len, str_len]; exact h, ?_⟩)
      rw [str_app]
      exact p.ok o rfl
    · exact p.elim
  · split at p
    · rename_i a b h
      obtain ⟨pa, xs, rfl, sa, qa⟩ := rx
      obtain ⟨pb, ys, rfl, sb, qb⟩ := ry
      refine .inr (.inr (.inr ⟨pa, pb, xs, ys, rfl, rfl, sa.sq, sb.sq, by rw [qa.length, qb.length]; exact h, fun hx => ?_, fun _ hy => ?_, fun _ _ p' n => ?_⟩))
      · subst hx
        have ha : a = [] := List.length_eq_zero_iff.mp qa.length.symm
        subst ha
        exact p.ok o ⟨pb, ys, rfl, sb, qb⟩
      · subst hy
        have hb : b = [] := List.length_eq_zero_iff.mp qb.length.symm
        subst hb
        rw [List.append_nil] at p
        exact p.ok o ⟨pa, xs, rfl, sa, qa⟩
      · exact p.new_tup o (qa.append qb) n
    · exact p.elim
  · split at p
    · split at p
      · rename_i a b h1 h2 h
        obtain ⟨pa, xs, rfl, sa, qa⟩ := asH_sq o h1 rx
        obtain ⟨pb, ys, rfl, sb, qb⟩ := asH_sq o h2 ry
        exact .inr (.inr (.inl ⟨pa, pb, xs, ys, rfl, rfl, sa, sb, by rw [qa.length, qb.length]; exact h, fun p' n => p.mk o (qa.append qb) n⟩))
      · exact p.elim
    · exact p.elim
theorem q_add (m : Bool) (L : Lay X G W) (ha : PE X a (EI G W ma)) (hb : PE X b (EI G W mb)) : PE X (.BinOp a .Add b pos) (EI G W (eBin (fAdd m) ma mb)) := q_bin op_anyAdd (by rw [L.K]; exact of_anyAdd m) ha hb

noncomputable def fMul (m : Bool) : D → D → Sto → Res D := fun x y st => match x, y with
  | .int i, .int j => if bMul i j = true then .ok (.int (i * j)) st else .bad
  | .str a, .int i => @ite _ (i < 2 ^ 31 ∧ -(2 ^ 31) < i ∧ a.length * i.toNat ≤ sizeLine) (Classical.propDecidable _) (.ok (.str (List.replicate i.toNat a).flatten) st) .bad
  | x, .int i => match asH x st with
    | some a => @ite _ (i < 2 ^ 31 ∧ -(2 ^ 31) < i ∧ a.length * i.toNat ≤ sizeLine) (Classical.propDecidable _) (mkL m (List.replicate i.toNat a).flatten st) .bad
    | _ => .bad
  | _, _ => .bad
end
end F
/-! Products, ==, tests, subscripts, slices, displays, arguments. -/
namespace F
open PySem PySem.Spec PyProof.Rows L2

section
variable {G : CT} {w : Wd}
theorem Rls.rep {ds : List D} {xs : List V} (h : Rls G w ds xs) : ∀ n : Nat, Rls G w (List.replicate n ds).flatten (List.replicate n xs).flatten
  | 0 => rfl
  | n + 1 => by
    rw [List.replicate_succ, List.flatten_cons, List.replicate_succ, List.flatten_cons]
    exact h.append (Rls.rep h n)
end
section
variable {X : Cx} {G : CT} {W : WX} {pos : Pos} {a b c : Expr} {ma mb mc : Ev}
def rAnyMul : R2 := fun x y H Q => (∃ i j, x = .int i ∧ y = .int j ∧ CMulW i j ∧ Q (.int (i * j)) H) ∨ rMulS x y H Q ∨ rRep x y H Q
theorem op_anyMul (hX : X.K = G.K) : OpR X (binaryOp .Mult) rAnyMul := op_mulW.or ((op_mulS hX).or op_rep)
theorem of_anyMul (m : Bool) : OpF G (fMul m) rAnyMul := fun W σ w x y dx dy Q o rx ry p => by
  unfold fMul at p
  split at p
  · split at p
    · rename_i h
      exact .inl ⟨_, _, rx, ry, (by unfold bMul at h; unfold CMulW; exact of_decide_eq_true h), p.ok o rfl⟩
    · exact p.elim
  · split at p
    · rename_i h
      exact .inr (.inl ⟨_, _, rx, ry, h.1, h.2.1, h.2.2, p.ok o rfl⟩)
    · exact p.elim
  · split at p
    · rename_i a h1
      split at p
      · rename_i h
        obtain ⟨pa, xs, rfl, sa, qa⟩ := asH_sq o h1 rx
        exact .inr (.inr ⟨pa, _, xs, rfl, ry, sa, by omega, by omega, by rw [qa.length]; exact h.2.2, fun p' n => p.mk o (qa.rep _) n⟩)
      · exact p.elim
    · exact p.elim
  · exact p.elim
theorem q_mul (m : Bool) (L : Lay X G W) (ha : PE X a (EI G W ma)) (hb : PE X b (EI G W mb)) : PE X (.BinOp a .Mult b pos) (EI G W (eBin (fMul m) ma mb)) := q_bin (op_anyMul L.K) (of_anyMul m) ha hb
end

/-! ### == -/
def mapO {α β : Type} (f : α → Option β) : List α → Option (List β)
  | [] => some []
  | a :: r => match f a, mapO f r with
    | some b, some s => some (b :: s)
    | _, _ => none
def toPy (st : Sto) : Nat → D → Option PyData
  | _, .non => some .none
  | _, .bl b => some (.bool b)
  | _, .int i => some (.int i)
  | _, .str s => some (.str ⟨s.toArray⟩)
  | n + 1, .tup ds => (mapO (toPy st n) ds).map .tuple
  | n + 1, .lst ds => (mapO (toPy st n) ds).map .list
  | n + 1, .rol ds => (mapO (toPy st n) ds).map .list
  | n + 1, .ref i => match st[i]? with
    | some (.lst ds) => (mapO (toPy st n) ds).map .list
    | _ => none
  | _, _ => none
theorem dpAll_of {G : CT} {w : Wd} {f : D → Option PyData} (h : ∀ d p x, f d = some p → Rl G w d x → Dp G.K w.H x p) : ∀ {ds : List D} {ps : List PyData} {xs : List V}, mapO f ds = some ps → Rls G w ds xs → DpAll G.K w.H xs ps
  | [], ps, xs, e, r => by
    have q : xs = [] := r
    subst q
    cases e
    exact .nil
  | d :: ds, ps, xs, e, r => by
    obtain ⟨x, r', rfl, h1, h2⟩ := r
    unfold mapO at e
    split at e
    · rename_i b s e1 e2
      cases e
      exact .cons (h d b x e1 h1) (dpAll_of h e2 h2)
    · cases e
theorem dp_of {G : CT} {w : Wd} (o : Ok G w) : ∀ (n : Nat) (d : D) (p : PyData) (x : V), toPy w.st n d = some p → Rl G w d x → Dp G.K w.H x p := by
  intro n
  induction n with
  | zero =>
    intro d p x e r
    cases d <;> simp [toPy] at e <;> subst e
    · rw [show x = .non from r]; exact .non
    · rw [show x = _ from r]; exact .bl _
    · rw [show x = _ from r]; exact .int _
    · rw [show x = _ from r]; exact .str _
  | succ n ih =>
    intro d p x e r
    cases d with
    | non => simp [toPy] at e; subst e; rw [show x = .non from r]; exact .non
    | bl b => simp [toPy] at e; subst e; rw [show x = _ from r]; exact .bl _
    | int i => simp [toPy] at e; subst e; rw [show x = _ from r]; exact .int _
    | str s => simp [toPy] at e; subst e; rw [show x = _ from r]; exact .str _
    | obj c ds => simp [toPy] at e
    | rng i j c => simp [toPy] at e
    | ty n => simp [toPy] at e
    | cl c => simp [toPy] at e
    | tup ds =>
      unfold toPy at e
      cases q : mapO (toPy w.st n) ds with
      | none => rw [q] at e; cases e
      | some ps =>
        rw [q] at e
        cases e
        obtain ⟨a, xs, rfl, s, rs⟩ := r
        exact .tup s.sq (dpAll_of ih q rs)
    | lst ds =>
      unfold toPy at e
      cases q : mapO (toPy w.st n) ds with
      | none => rw [q] at e; cases e
      | some ps =>
        rw [q] at e
        cases e
        obtain ⟨a, xs, rfl, s, rs⟩ := r
        exact .lst (SqL.of s.1) (dpAll_of ih q rs)
    | rol ds =>
      unfold toPy at e
      cases q : mapO (toPy w.st n) ds with
      | none => rw [q] at e; cases e
      | some ps =>
        rw [q] at e
        cases e
        obtain ⟨a, xs, rfl, s, rs⟩ := r
        exact .lst s.sq (dpAll_of ih q rs)
    | ref i =>
      unfold toPy at e
      split at e
      · rename_i ds hs
        cases q : mapO (toPy w.st n) ds with
        | none => rw [q] at e; cases e
        | some ps =>
          rw [q] at e
          cases e
          obtain ⟨a, e1, rfl⟩ := r
          obtain ⟨xs, s, rs⟩ := o.cell i _ a hs e1
          exact .lst (SqL.of s) (dpAll_of ih q rs)
      · cases e

/-- == of what isn't an object of an own class -/
def pyEq (st : Sto) (x y : D) : Option Bool := match x, y with
  | .str a, .str b => some (decide (a = b))
  | .int i, .int j => some (decide (i = j))
  | .bl i, .bl j => some (decide (i = j))
  | x, y => match toPy st 8 x, toPy st 8 y with
    | some d, some e => if SeqAt.shaped d = true ∧ SeqAt.shaped e = true then some (PyData.eqv d e) else none
    | _, _ => none
def fEq : D → D → Sto → Res D := fun x y st => match pyEq st x y with
  | some b => .ok (.bl b) st
  | none => .bad
def fNe : D → D → Sto → Res D := fun x y st => match pyEq st x y with
  | some b => .ok (.bl (!b)) st
  | none => .bad
theorem str_inj {a b : List Nat} : (V.str ⟨a.toArray⟩ = V.str ⟨b.toArray⟩) ↔ a = b := by
  constructor
  · intro h
    have e : (⟨a.toArray⟩ : Str) = ⟨b.toArray⟩ := V.str.inj h
    have e2 : a.toArray = b.toArray := congrArg Str.cps e
    simpa using e2
  · intro h
    rw [h]
section
variable {X : Cx} {G : CT} {W : WX} {pos : Pos} {a b c : Expr} {ma mb mc : Ev}
theorem pyEq_of {w : Wd} (o : Ok G w) {x y : V} {dx dy : D} {k : Bool} (rx : Rl G w dx x) (ry : Rl G w dy y) (h : pyEq w.st dx dy = some k) :
    (scal x y = true ∧ decide (x = y) = k) ∨ ∃ d e, Dp G.K w.H x d ∧ Dp G.K w.H y e ∧ SeqAt.shaped d = true ∧ SeqAt.shaped e = true ∧ PyData.eqv d e = k := by
  unfold pyEq at h
  split at h
  · cases h
    rw [show x = _ from rx, show y = _ from ry]
    exact .inl ⟨rfl, by simp only [str_inj]⟩
  · cases h
    rw [show x = _ from rx, show y = _ from ry]
    exact .inl ⟨rfl, by simp⟩
  · cases h
    rw [show x = _ from rx, show y = _ from ry]
    exact .inl ⟨rfl, by simp⟩
  · split at h
    · rename_i d e h1 h2
      split at h
      · rename_i hs
        cases h
        exact .inr ⟨d, e, dp_of o _ _ _ _ h1 rx, dp_of o _ _ _ _ h2 ry, hs.1, hs.2, rfl⟩
      · cases h
    · cases h
theorem of_eq : OpF G fEq (fun x y H Q => rEq x y H Q ∨ rEqD G.K x y H Q) := fun W σ w x y dx dy Q o rx ry p => by
  unfold fEq at p
  split at p
  · rename_i k h
    rcases pyEq_of o rx ry h with ⟨h1, h2⟩ | ⟨d, e, h1, h2, h3, h4, h5⟩
    · exact .inl ⟨h1, by rw [h2]; exact p.ok o rfl⟩
    · exact .inr ⟨d, e, h1, h2, h3, h4, by rw [h5]; exact p.ok o rfl⟩
  · exact p.elim
theorem of_ne : OpF G fNe (fun x y H Q => rNe x y H Q ∨ rNeD G.K x y H Q) := fun W σ w x y dx dy Q o rx ry p => by
  unfold fNe at p
  split at p
  · rename_i k h
    rcases pyEq_of o rx ry h with ⟨h1, h2⟩ | ⟨d, e, h1, h2, h3, h4, h5⟩
    · exact .inl ⟨h1, by rw [h2]; exact p.ok o rfl⟩
    · exact .inr ⟨d, e, h1, h2, h3, h4, by rw [h5]; exact p.ok o rfl⟩
  · exact p.elim
theorem q_eq (L : Lay X G W) (hu : X.A.units + 64 < cLine) (ha : PE X a (EI G W ma)) (hb : PE X b (EI G W mb)) : PE X (.Compare a [.Eq] [b] pos) (EI G W (eBin fEq ma mb)) := q_cmp (op_eq.or (op_eqD hu)) (by rw [L.K]; exact of_eq) ha hb (nomark _)
theorem q_ne (L : Lay X G W) (hu : X.A.units + 64 < cLine) (ha : PE X a (EI G W ma)) (hb : PE X b (EI G W mb)) : PE X (.Compare a [.NotEq] [b] pos) (EI G W (eBin fNe ma mb)) := q_cmp (op_ne.or (op_neD hu)) (by rw [L.K]; exact of_ne) ha hb (nomark _)
theorem qt_eq (L : Lay X G W) (hu : X.A.units + 64 < cLine) (ha : PE X a (EI G W ma)) (hb : PE X b (EI G W mb)) : PT X (.Compare a [.Eq] [b] pos) (TsI G W (tOf (eBin fEq ma mb))) := qt_cmp (op_eq.or (op_eqD hu)) (by rw [L.K]; exact of_eq) ha hb (nomark _)
theorem qt_ne (L : Lay X G W) (hu : X.A.units + 64 < cLine) (ha : PE X a (EI G W ma)) (hb : PE X b (EI G W mb)) : PT X (.Compare a [.NotEq] [b] pos) (TsI G W (tOf (eBin fNe ma mb))) := qt_cmp (op_ne.or (op_neD hu)) (by rw [L.K]; exact of_ne) ha hb (nomark _)

/-! ### is -/
def isNon : D → Bool
  | .non => true
  | _ => false
theorem isNon_of {w : Wd} {d : D} {x : V} (r : Rl G w d x) : decide (x = .non) = isNon d := by
  cases d with
  | non => rw [show x = .non from r]; rfl
  | bl b => rw [show x = _ from r]; rfl
  | int b => rw [show x = _ from r]; rfl
  | str b => rw [show x = _ from r]; rfl
  | tup ds => obtain ⟨a, xs, rfl, _⟩ := r; rfl
  | lst ds => obtain ⟨a, xs, rfl, _⟩ := r; rfl
  | rol ds => obtain ⟨a, xs, rfl, _⟩ := r; rfl
  | obj c ds => obtain ⟨a, dx, fs, rfl, _⟩ := r; rfl
  | ref i => obtain ⟨a, _, rfl⟩ := r; rfl
  | rng i j c => obtain ⟨a, rfl, _⟩ := r; rfl
  | ty n => rw [show x = _ from r]; rfl
  | cl c => rw [show x = _ from r]; rfl
def fIs : D → D → Sto → Res D := fun x y st => match y with
  | .non => .ok (.bl (isNon x)) st
  | .bl b => match x with
    | .bl c => .ok (.bl (decide (c = b))) st
    | _ => .bad
  | _ => .bad
def fIsNot : D → D → Sto → Res D := fun x y st => match y with
  | .non => .ok (.bl (!isNon x)) st
  | .bl b => match x with
    | .bl c => .ok (.bl (!decide (c = b))) st
    | _ => .bad
  | _ => .bad
theorem of_is : OpF G fIs (fun x y H Q => (y = .non ∧ Q (.bl (decide (x = .non))) H) ∨ rIsB x y H Q) := fun W σ w x y dx dy Q o rx ry p => by
  unfold fIs at p
  split at p
  · exact .inl ⟨ry, by rw [isNon_of rx]; exact p.ok o rfl⟩
  · split at p
    · exact .inr ⟨_, _, rx, ry, p.ok o rfl⟩
    · exact p.elim
  · exact p.elim
theorem of_isNot : OpF G fIsNot (fun x y H Q => (y = .non ∧ Q (.bl (!decide (x = .non))) H) ∨ rNotB x y H Q) := fun W σ w x y dx dy Q o rx ry p => by
  unfold fIsNot at p
  split at p
  · exact .inl ⟨ry, by rw [isNon_of rx]; exact p.ok o rfl⟩
  · split at p
    · exact .inr ⟨_, _, rx, ry, p.ok o rfl⟩
    · exact p.elim
  · exact p.elim
theorem q_is (ha : PE X a (EI G W ma)) (hb : PE X b (EI G W mb)) : PE X (.Compare a [.Is] [b] pos) (EI G W (eBin fIs ma mb)) := q_cmp (op_isN.or op_isBl) of_is ha hb (nomark _)
theorem q_isNot (ha : PE X a (EI G W ma)) (hb : PE X b (EI G W mb)) : PE X (.Compare a [.IsNot] [b] pos) (EI G W (eBin fIsNot ma mb)) := q_cmp (op_notN.or op_notBl) of_isNot ha hb (nomark _)
theorem qt_is (ha : PE X a (EI G W ma)) (hb : PE X b (EI G W mb)) : PT X (.Compare a [.Is] [b] pos) (TsI G W (tOf (eBin fIs ma mb))) := qt_cmp (op_isN.or op_isBl) of_is ha hb (nomark _)
theorem qt_isNot (ha : PE X a (EI G W ma)) (hb : PE X b (EI G W mb)) : PT X (.Compare a [.IsNot] [b] pos) (TsI G W (tOf (eBin fIsNot ma mb))) := qt_cmp (op_notN.or op_notBl) of_isNot ha hb (nomark _)

/-! ### in -/
def flatD : D → Bool
  | .non => true
  | .bl _ => true
  | .int _ => true
  | .str _ => true
  | _ => false
def eqF : D → D → Bool
  | .non, .non => true
  | .bl a, .bl b => a == b
  | .bl a, .int b => (if a then 1 else 0) == b
  | .int a, .bl b => a == (if b then 1 else 0)
  | .int a, .int b => a == b
  | .str a, .str b => a == b
  | _, _ => false
def inD (x : D) (ds : List D) : Bool := ds.any fun y => eqF y x
theorem flat_of {w : Wd} {d : D} {x : V} (r : Rl G w d x) (h : flatD d = true) : flatV x = true := by
  cases d with
  | non => rw [show x = .non from r]; rfl
  | bl b => rw [show x = _ from r]; rfl
  | int b => rw [show x = _ from r]; rfl
  | str b => rw [show x = _ from r]; rfl
  | _ => exact absurd h Bool.false_ne_true
theorem str_beq (a b : List Nat) : ((⟨a.toArray⟩ : Str) == ⟨b.toArray⟩) = (a == b) := by
  by_cases e : a = b
  · subst e
    simp
  · have h1 : (a == b) = false := beq_eq_false_iff_ne.mpr e
    have h2 : ((⟨a.toArray⟩ : Str) == ⟨b.toArray⟩) = false := beq_eq_false_iff_ne.mpr fun q => e (str_inj.mp (by rw [q]))
    rw [h1, h2]
theorem eqF_of {w : Wd} {d e : D} {x y : V} (r : Rl G w d x) (q : Rl G w e y) (h : flatD d = true) (k : flatD e = true) : eqV x y = eqF d e := by
  cases d <;> first | exact absurd h Bool.false_ne_true | skip
  all_goals (cases e <;> first | exact absurd k Bool.false_ne_true | skip)
  all_goals (rw [show x = _ from r, show y = _ from q])
  all_goals first | rfl | skip
  all_goals (rename_i a b; unfold eqV eqF; by_cases e : a = b <;> first | (simp [e]; done) | exact str_beq a b)
theorem inD_of {w : Wd} {d : D} {x : V} (r : Rl G w d x) (h : flatD d = true) : ∀ {ds : List D} {xs : List V}, Rls G w ds xs → ds.all flatD = true → inV x xs = inD d ds ∧ xs.all flatV = true
  | [], xs, q, _ => by
    have e : xs = [] := q
    subst e
    exact ⟨rfl, rfl⟩
  | e :: ds, xs, q, k => by
    obtain ⟨y, ys, rfl, h1, h2⟩ := q
    rw [List.all_cons, Bool.and_eq_true] at k
    obtain ⟨i1, i2⟩ := inD_of r h h2 k.2
    constructor
    · unfold inV inD at *
      rw [List.any_cons, List.any_cons, eqF_of h1 r k.1 h, i1]
    · rw [List.all_cons, flat_of h1 k.1, i2]
      rfl
def fIn (neg : Bool) : D → D → Sto → Res D := fun x y st => match x, y with
  | .str [c], .str s => .ok (.bl (if neg = true then !decide (c ∈ s) else decide (c ∈ s))) st
  | x, .tup ds => if flatD x = true ∧ ds.all flatD = true then .ok (.bl (if neg = true then !inD x ds else inD x ds)) st else .bad
  | x, y => match asL y st with
    | some ds => if flatD x = true ∧ ds.all flatD = true then .ok (.bl (if neg = true then !inD x ds else inD x ds)) st else .bad
    | none => .bad
def rSign (neg : Bool) : R2 := fun x y H Q => ∃ (c : Nat) (z : Str), x = .str ⟨#[c]⟩ ∧ y = .str z ∧ Q (.bl (if neg = true then !decide (c ∈ z.cps.toList) else decide (c ∈ z.cps.toList))) H
theorem of_in (neg : Bool) : OpF G (fIn neg) (fun x y H Q => rSign neg x y H Q ∨ rIn G.K neg x y H Q) := fun W σ w x y dx dy Q o rx ry p => by
  unfold fIn at p
  split at p
  · exact .inl ⟨_, _, rx, ry, p.ok o rfl⟩
  · split at p
    · rename_i h
      obtain ⟨a, xs, rfl, s, q⟩ := ry
      obtain ⟨i1, i2⟩ := inD_of rx h.1 q h.2
      exact .inr ⟨a, xs, rfl, .inr s.sq, flat_of rx h.1, i2, by rw [i1]; exact p.ok o rfl⟩
    · exact p.elim
  · split at p
    · rename_i ds hl
      split at p
      · rename_i h
        obtain ⟨a, xs, rfl, s, q⟩ := asL_sq o hl ry
        obtain ⟨i1, i2⟩ := inD_of rx h.1 q h.2
        exact .inr ⟨a, xs, rfl, .inl s, flat_of rx h.1, i2, by rw [i1]; exact p.ok o rfl⟩
      · exact p.elim
    · exact p.elim
theorem op_signF : OpR X (compareOp .In) (rSign false) := op_in_sign
theorem op_signT : OpR X (compareOp .NotIn) (rSign true) := op_notIn_sign
theorem q_in (L : Lay X G W) (ha : PE X a (EI G W ma)) (hb : PE X b (EI G W mb)) (hm : behindInMarks .In b = false := by rfl) : PE X (.Compare a [.In] [b] pos) (EI G W (eBin (fIn false) ma mb)) := q_cmp (op_signF.or op_in_seq) (by rw [L.K]; exact of_in false) ha hb hm
theorem q_notIn (L : Lay X G W) (ha : PE X a (EI G W ma)) (hb : PE X b (EI G W mb)) (hm : behindInMarks .NotIn b = false := by rfl) : PE X (.Compare a [.NotIn] [b] pos) (EI G W (eBin (fIn true) ma mb)) := q_cmp (op_signT.or op_notIn_seq) (by rw [L.K]; exact of_in true) ha hb hm
theorem qt_in (L : Lay X G W) (ha : PE X a (EI G W ma)) (hb : PE X b (EI G W mb)) (hm : behindInMarks .In b = false := by rfl) : PT X (.Compare a [.In] [b] pos) (TsI G W (tOf (eBin (fIn false) ma mb))) := qt_cmp (op_signF.or op_in_seq) (by rw [L.K]; exact of_in false) ha hb hm
theorem qt_notIn (L : Lay X G W) (ha : PE X a (EI G W ma)) (hb : PE X b (EI G W mb)) (hm : behindInMarks .NotIn b = false := by rfl) : PT X (.Compare a [.NotIn] [b] pos) (TsI G W (tOf (eBin (fIn true) ma mb))) := qt_cmp (op_signT.or op_notIn_seq) (by rw [L.K]; exact of_in true) ha hb hm
end
end F
/-! and, or, not, a if t else b, chains; subscripts, slices, displays, arguments. -/
namespace F
open PySem PySem.Spec PyProof.Rows L2

def tAndF (a b : Tv) : Tv := fun env st => (a env st).bind fun k s => if k = true then b env s else .ok false s
def tOrF (a b : Tv) : Tv := fun env st => (a env st).bind fun k s => if k = true then .ok true s else b env s
def tNotF (a : Tv) : Tv := fun env st => (a env st).bind fun k s => .ok (!k) s
/-- truth of any value -/
def truD (d : D) (st : Sto) : Option Bool := match d with
  | .non => some false
  | .bl b => some b
  | .int i => some (i != 0)
  | .str s => if s.length ≤ sizeLine then some (!s.isEmpty) else none
  | .tup ds => some (!ds.isEmpty)
  | d => match asL d st with
    | some ds => some (!ds.isEmpty)
    | none => none
def tTru (m : Ev) : Tv := fun env st => (m env st).bind fun d s => match truD d s with
  | some b => .ok b s
  | none => .bad
def eAndF (a b : Ev) : Ev := fun env st => (a env st).bind fun x s => match x with
  | .bl k => if k = true then b env s else .ok (.bl false) s
  | _ => .bad
def eOrF (a b : Ev) : Ev := fun env st => (a env st).bind fun x s => match x with
  | .bl k => if k = true then .ok (.bl true) s else b env s
  | _ => .bad
def eNotF (a : Ev) : Ev := fun env st => (a env st).bind fun x s => match x with
  | .bl k => .ok (.bl (!k)) s
  | _ => .bad
/-- not of a test, as a value -/
def eNotT (a : Tv) : Ev := fun env st => (a env st).bind fun k s => .ok (.bl (!k)) s
def eIf (t : Tv) (a b : Ev) : Ev := fun env st => (t env st).bind fun k s => if k = true then a env s else b env s
section
variable {X : Cx} {G : CT} {W : WX} {pos : Pos} {a b c : Expr} {ma mb mc : Ev} {ta tb : Tv} {rest : List Expr}
theorem w_and1 (h : PT X a (TsI G W ta)) : PW X (.BoolOp .And [a] pos) (TsI G W ta) := pw_and1 h
theorem w_or1 (h : PT X a (TsI G W ta)) : PW X (.BoolOp .Or [a] pos) (TsI G W ta) := pw_or1 h
theorem w_and (h : PT X a (TsI G W ta)) (k : PW X (.BoolOp .And (b :: rest) pos) (TsI G W tb)) : PW X (.BoolOp .And (a :: b :: rest) pos) (TsI G W (tAndF ta tb)) := (pw_and h k).imp fun σ H Q ⟨w, env, e, o, er, p⟩ =>
  ⟨w, env, e, o, er, p.bind fun w1 k b o1 l1 r1 p1 => by
    have r1' : k = b := r1
    subst r1'
    cases k with
    | true => exact ⟨w1, env, rfl, o1, er.mono l1, p1⟩
    | false => exact p1.ok o1 rfl⟩
theorem w_or (h : PT X a (TsI G W ta)) (k : PW X (.BoolOp .Or (b :: rest) pos) (TsI G W tb)) : PW X (.BoolOp .Or (a :: b :: rest) pos) (TsI G W (tOrF ta tb)) := (pw_or h k).imp fun σ H Q ⟨w, env, e, o, er, p⟩ =>
  ⟨w, env, e, o, er, p.bind fun w1 k b o1 l1 r1 p1 => by
    have r1' : k = b := r1
    subst r1'
    cases k with
    | true => exact p1.ok o1 rfl
    | false => exact ⟨w1, env, rfl, o1, er.mono l1, p1⟩⟩
theorem qt_not (h : PT X a (TsI G W ta)) : PT X (.UnaryOp .Not a pos) (TsI G W (tNotF ta)) := (pt_not h).imp fun σ H Q ⟨w, env, e, o, er, p⟩ =>
  ⟨w, env, e, o, er, p.bind fun w1 k b o1 l1 r1 p1 => by
    have r1' : k = b := r1
    subst r1'
    exact p1.ok o1 rfl⟩
theorem truD_of {w : Wd} (o : Ok G w) {d : D} {x : V} {k : Bool} (h : truD d w.st = some k) (r : Rl G w d x) : TruV G.K x w.H k := by
  cases d with
  | non => rw [show x = .non from r]; cases h; rfl
  | bl b => rw [show x = _ from r]; cases h; rfl
  | int i => rw [show x = _ from r]; cases h; rfl
  | str s =>
    rw [show x = _ from r]
    have h' : (if s.length ≤ sizeLine then some (!s.isEmpty) else none) = some k := h
    split at h'
    · rename_i hl
      cases h'
      refine ⟨by rw [str_len]; exact hl, ?_⟩
      rw [str_len]
      cases s with
      | nil => rfl
      | cons n l => simp; omega
    · cases h'
  | tup ds =>
    obtain ⟨a, xs, rfl, s, q⟩ := r
    cases h
    refine .inr (.inl ⟨xs, s.sq, ?_⟩)
    have e := q.length
    cases ds <;> cases xs <;> simp at e ⊢
  | obj c ds =>
    have h' : (none : Option Bool) = some k := h
    cases h'
  | rng i j c =>
    have h' : (none : Option Bool) = some k := h
    cases h'
  | ty n =>
    have h' : (none : Option Bool) = some k := h
    cases h'
  | cl c =>
    have h' : (none : Option Bool) = some k := h
    cases h'
  | lst ds =>
    have h' : some (!ds.isEmpty) = some k := h
    cases h'
    obtain ⟨a, xs, rfl, s, q⟩ := r
    refine .inl ⟨xs, SqL.of s.1, ?_⟩
    have e := q.length
    cases ds <;> cases xs <;> simp at e ⊢
  | rol ds =>
    have h' : some (!ds.isEmpty) = some k := h
    cases h'
    obtain ⟨a, xs, rfl, s, q⟩ := r
    refine .inl ⟨xs, s.sq, ?_⟩
    have e := q.length
    cases ds <;> cases xs <;> simp at e ⊢
  | ref i =>
    unfold truD at h
    dsimp only at h
    split at h
    · rename_i ds hl
      cases h
      obtain ⟨a, xs, rfl, s, q⟩ := asL_sq o hl r
      refine .inl ⟨xs, s, ?_⟩
      have e := q.length
      cases ds <;> cases xs <;> simp at e ⊢
    · cases h
theorem qt_tru (L : Lay X G W) (h : PE X a (EI G W ma)) (he : ∀ whole, isTrue a X.env whole = (do let v ← whole; standAt a.pos; holding [v] (truthy v)) := by intro _; rfl) : PT X a (TsI G W (tTru ma)) := (pt_truth h he).imp fun σ H Q ⟨w, env, e, o, er, p⟩ =>
  ⟨w, env, e, o, er, p.bind fun w1 d x o1 l1 r1 p1 => by
    split at p1
    · rename_i b hb
      exact ⟨b, by rw [L.K]; exact truD_of o1 hb r1, p1.ok o1 rfl⟩
    · exact p1.elim⟩
theorem q_one {op} (h : PE X a (EI G W ma)) : PE X (.BoolOp op [a] pos) (EI G W ma) := pe_one h
theorem q_and (ha : PE X a (EI G W ma)) (hb : PE X (.BoolOp .And (b :: rest) pos) (EI G W mb)) : PE X (.BoolOp .And (a :: b :: rest) pos) (EI G W (eAndF ma mb)) := (pe_and ha hb).imp fun σ H Q ⟨w, env, e, o, er, p⟩ =>
  ⟨w, env, e, o, er, p.bind fun w1 d x o1 l1 r1 p1 => by
    split at p1
    · rename_i k
      refine ⟨k, r1, ?_⟩
      cases k with
      | true => exact ⟨w1, env, rfl, o1, er.mono l1, p1⟩
      | false => exact p1.ok o1 rfl
    · exact p1.elim⟩
theorem q_or (ha : PE X a (EI G W ma)) (hb : PE X (.BoolOp .Or (b :: rest) pos) (EI G W mb)) : PE X (.BoolOp .Or (a :: b :: rest) pos) (EI G W (eOrF ma mb)) := (pe_or ha hb).imp fun σ H Q ⟨w, env, e, o, er, p⟩ =>
  ⟨w, env, e, o, er, p.bind fun w1 d x o1 l1 r1 p1 => by
    split at p1
    · rename_i k
      refine ⟨k, r1, ?_⟩
      cases k with
      | true => exact p1.ok o1 rfl
      | false => exact ⟨w1, env, rfl, o1, er.mono l1, p1⟩
    · exact p1.elim⟩
theorem q_not (ha : PE X a (EI G W ma)) : PE X (.UnaryOp .Not a pos) (EI G W (eNotF ma)) := (pe_not ha).imp fun σ H Q ⟨w, env, e, o, er, p⟩ =>
  ⟨w, env, e, o, er, p.bind fun w1 d x o1 l1 r1 p1 => by
    split at p1
    · rename_i k
      exact ⟨k, r1, p1.ok o1 rfl⟩
    · exact p1.elim⟩
theorem q_ifExp (ht : PT X c (TsI G W ta)) (ha : PE X a (EI G W ma)) (hb : PE X b (EI G W mb)) : PE X (.IfExp c a b pos) (EI G W (eIf ta ma mb)) := (pe_ifExp ht ha hb).imp fun σ H Q ⟨w, env, e, o, er, p⟩ =>
  ⟨w, env, e, o, er, p.bind fun w1 k b o1 l1 r1 p1 => by
    have r1' : k = b := r1
    subst r1'
    cases k with
    | true => exact ⟨w1, env, rfl, o1, er.mono l1, p1⟩
    | false => exact ⟨w1, env, rfl, o1, er.mono l1, p1⟩⟩
end

/-! ### chains of comparisons -/
/-- the rest of a chain behind the value x -/
def eChain (f g : D → D → Sto → Res D) (a b c : Ev) : Ev := fun env st => (a env st).bind fun x s => (b env s).bind fun y s1 => (f x y s1).bind fun k s2 => match k with
  | .bl k => if k = true then (c env s2).bind fun z s3 => g y z s3 else .ok (.bl false) s2
  | _ => .bad
section
variable {X : Cx} {G : CT} {W : WX} {pos : Pos} {a b c : Expr} {ma mb mc : Ev} {f g : D → D → Sto → Res D} {r r' : R2}
/-- an operation by values whose answer is used further -/
def OpC (G : CT) (f : D → D → Sto → Res D) (r : R2) : Prop := OpF G f r
theorem chain_of (hf : OpF G f r) (hg : OpF G g r') : ∀ σ H Q, EI G W (eChain f g ma mb mc) σ H Q → tChain r r' (EI G W ma) (EI G W mb) (EI G W mc) σ H Q := fun σ H Q ⟨w, env, e, o, er, p⟩ =>
  ⟨w, env, e, o, er, p.bind fun w1 da x o1 l1 r1 p1 => ⟨w1, env, rfl, o1, er.mono l1, p1.bind fun w2 db y o2 l2 r2 p2 => by
    refine hf W σ w2 x y da db _ o2 (r1.mono l2) r2 (p2.bind fun w3 dk z o3 l3 r3 p3 => ?_)
    split at p3
    · rename_i k
      refine ⟨k, r3, ?_⟩
      cases k with
      | true => exact ⟨w3, env, rfl, o3, (er.mono l1).mono (l2.trans l3), p3.bind fun w4 dc z' o4 l4 r4 p4 => hg W σ w4 y z' db dc Q o4 (r2.mono (l3.trans l4)) r4 p4⟩
      | false => exact p3.ok o3 rfl
    · exact p3.elim⟩⟩
theorem q_chain {op op' : CmpOp} {p p' : Int → Int → Bool} (ho : OpR X (compareOp op) (rI0 fun i j => .bl (p i j))) (ho' : OpR X (compareOp op') (rI0 fun i j => .bl (p' i j))) (ha : PE X a (EI G W ma)) (hb : PE X b (EI G W mb)) (hc : PE X c (EI G W mc))
    (hm : lastMarks [op, op'] [b, c] = false := by with_unfolding_all rfl) : PE X (.Compare a [op, op'] [b, c] pos) (EI G W (eChain (fCmpI p) (fCmpI p') ma mb mc)) := (pe_chain ho ho' ha hb hc hm).imp (chain_of of_cmpI of_cmpI)
theorem qt_chain {op op' : CmpOp} {p p' : Int → Int → Bool} (ho : OpR X (compareOp op) (rI0 fun i j => .bl (p i j))) (ho' : OpR X (compareOp op') (rI0 fun i j => .bl (p' i j))) (ha : PE X a (EI G W ma)) (hb : PE X b (EI G W mb)) (hc : PE X c (EI G W mc))
    (hm : lastMarks [op, op'] [b, c] = false := by with_unfolding_all rfl) : PT X (.Compare a [op, op'] [b, c] pos) (TsI G W (tOf (eChain (fCmpI p) (fCmpI p') ma mb mc))) := (pt_chain ho ho' ha hb hc hm).imp fun σ H Q h => by
  obtain ⟨w, env, e, o, er, p⟩ := test_of σ H Q h
  exact chain_of of_cmpI of_cmpI σ H _ ⟨w, env, e, o, er, p⟩
/-- a < b < c < d -/
def eChain3 (f g h : D → D → Sto → Res D) (a b c d : Ev) : Ev := fun env st => (a env st).bind fun x s => (b env s).bind fun y s1 => (f x y s1).bind fun k s2 => match k with
  | .bl k => if k = true then (c env s2).bind fun z s3 => (g y z s3).bind fun k' s4 => match k' with
    | .bl k' => if k' = true then (d env s4).bind fun u s5 => h z u s5 else .ok (.bl false) s4
    | _ => .bad else .ok (.bl false) s2
  | _ => .bad
def tChain3 (r r' r'' : R2) (ta tb tc td : TE) : TE := fun σ H Q => ta σ H fun x H1 => tb σ H1 fun y H2 => r x y H2 fun z H3 => ∃ k, z = .bl k ∧
  (if k = true then tc σ H3 fun v H4 => r' y v H4 fun z' H5 => ∃ k', z' = .bl k' ∧ (if k' = true then td σ H5 fun u H6 => r'' v u H6 Q else Q (.bl false) H5) else Q (.bl false) H3)
theorem pe_chain3 {d : Expr} {ta tb tc td : TE} {r'' : R2} {op op' op'' : CmpOp} (ho : OpR X (compareOp op) r) (ho' : OpR X (compareOp op') r') (ho'' : OpR X (compareOp op'') r'') (ha : PE X a ta) (hb : PE X b tb) (hc : PE X c tc) (hd : PE X d td)
    (hm : lastMarks [op, op', op''] [b, c, d] = false := by with_unfolding_all rfl) : PE X (.Compare a [op, op', op''] [b, c, d] pos) (tChain3 r r' r'' ta tb tc td) := by
  refine ⟨fun pins s σ H Q I h => ?_⟩
  refine Compare_chain (thn (ha.run pins s σ H _ I h) fun v s1 ⟨x, H1, I1, r1, q1⟩ => chain_link (thn (hb.run pins s1 σ H1 _ I1 q1) fun u s2 ⟨y, H2, I2, r2, q2⟩ =>
    thn (ho pins s2 σ H2 x y v u _ I2 r1 r2 q2) fun d0 s3 ⟨z, H3, I3, r3, k, e, q3⟩ => ?_)) hm
  subst e
  cases r3
  refine wpAny_truthy_bool ?_
  cases k with
  | false => exact ite_ff ⟨.bl false, H3, I3, rfl, q3⟩
  | true =>
    refine ite_tt (chain_link (thn (hc.run pins s3 σ H3 _ I3 q3) fun u' s4 ⟨y', H4, I4, r4, q4⟩ => thn (ho' pins s4 σ H4 y y' u u' _ I4 r2 r4 q4) fun d1 s5 ⟨z', H5, I5, r5, k', e', q5⟩ => ?_))
    subst e'
    cases r5
    refine wpAny_truthy_bool ?_
    cases k' with
    | false => exact ite_ff ⟨.bl false, H5, I5, rfl, q5⟩
    | true => exact ite_tt (chain_last (thn (hd.run pins s5 σ H5 _ I5 q5) fun w' s6 ⟨z2, H6, I6, r6, q6⟩ => ho'' pins s6 σ H6 y' z2 u' w' Q I6 r4 r6 q6))
theorem pt_chain3 {d : Expr} {ta tb tc td : TE} {r'' : R2} {op op' op'' : CmpOp} (ho : OpR X (compareOp op) r) (ho' : OpR X (compareOp op') r') (ho'' : OpR X (compareOp op'') r'') (ha : PE X a ta) (hb : PE X b tb) (hc : PE X c tc) (hd : PE X d td)
    (hm : lastMarks [op, op', op''] [b, c, d] = false := by with_unfolding_all rfl) : PT X (.Compare a [op, op', op''] [b, c, d] pos) (tTest (tChain3 r r' r'' ta tb tc td)) := by
  refine ⟨fun pins s σ H Q I h => ?_⟩
  refine isTrue_chain (thn (ha.run pins s σ H _ I h) fun v s1 ⟨x, H1, I1, r1, q1⟩ => test_link (thn (hb.run pins s1 σ H1 _ I1 q1) fun u s2 ⟨y, H2, I2, r2, q2⟩ =>
    thn (ho pins s2 σ H2 x y v u _ I2 r1 r2 q2) fun d0 s3 ⟨z, H3, I3, r3, k, e, q3⟩ => ?_)) hm
  subst e
  cases r3
  refine wpAny_truthy_bool ?_
  cases k with
  | false =>
    obtain ⟨k', e', q'⟩ := q3
    cases e'
    exact ite_ff ⟨H3, I3, q'⟩
  | true =>
    refine ite_tt (test_link (thn (hc.run pins s3 σ H3 _ I3 q3) fun u' s4 ⟨y', H4, I4, r4, q4⟩ => thn (ho' pins s4 σ H4 y y' u u' _ I4 r2 r4 q4) fun d1 s5 ⟨z', H5, I5, r5, k', e', q5⟩ => ?_))
    subst e'
    cases r5
    refine wpAny_truthy_bool ?_
    cases k' with
    | false =>
      obtain ⟨k2, e2, q2'⟩ := q5
      cases e2
      exact ite_ff ⟨H5, I5, q2'⟩
    | true =>
      refine ite_tt (test_last (thn (hd.run pins s5 σ H5 _ I5 q5) fun w' s6 ⟨z2, H6, I6, r6, q6⟩ => thn (ho'' pins s6 σ H6 y' z2 u' w' _ I6 r4 r6 q6) fun d' s7 ⟨z3, H7, I7, r7, k3, e3, q7⟩ => ?_))
      subst e3
      cases r7
      exact wpAny_truthy_bool ⟨H7, I7, q7⟩
variable {md : Ev}
theorem chain3_of {p p' p'' : Int → Int → Bool} : ∀ σ H Q, EI G W (eChain3 (fCmpI p) (fCmpI p') (fCmpI p'') ma mb mc md) σ H Q →
    tChain3 (rI0 fun i j => .bl (p i j)) (rI0 fun i j => .bl (p' i j)) (rI0 fun i j => .bl (p'' i j)) (EI G W ma) (EI G W mb) (EI G W mc) (EI G W md) σ H Q := fun σ H Q ⟨w, env, e, o, er, p⟩ =>
  ⟨w, env, e, o, er, p.bind fun w1 da x o1 l1 r1 p1 => ⟨w1, env, rfl, o1, er.mono l1, p1.bind fun w2 db y o2 l2 r2 p2 => by
    refine of_cmpI W σ w2 x y da db _ o2 (r1.mono l2) r2 (p2.bind fun w3 dk z o3 l3 r3 p3 => ?_)
    split at p3
    · rename_i k
      refine ⟨k, r3, ?_⟩
      cases k with
      | true =>
        refine ⟨w3, env, rfl, o3, (er.mono l1).mono (l2.trans l3), p3.bind fun w4 dc z' o4 l4 r4 p4 => ?_⟩
        refine of_cmpI W σ w4 y z' db dc _ o4 (r2.mono (l3.trans l4)) r4 (p4.bind fun w5 dk' z2 o5 l5 r5 p5 => ?_)
        split at p5
        · rename_i k'
          refine ⟨k', r5, ?_⟩
          cases k' with
          | true => exact ⟨w5, env, rfl, o5, (er.mono l1).mono (l2.trans (l3.trans (l4.trans l5))), p5.bind fun w6 dd u o6 l6 r6 p6 => of_cmpI W σ w6 z' u dc dd Q o6 (r4.mono (l5.trans l6)) r6 p6⟩
          | false => exact p5.ok o5 rfl
        · exact p5.elim
      | false => exact p3.ok o3 rfl
    · exact p3.elim⟩⟩
theorem q_chain3 {d : Expr} {op op' op'' : CmpOp} {p p' p'' : Int → Int → Bool} (ho : OpR X (compareOp op) (rI0 fun i j => .bl (p i j))) (ho' : OpR X (compareOp op') (rI0 fun i j => .bl (p' i j))) (ho'' : OpR X (compareOp op'') (rI0 fun i j => .bl (p'' i j)))
    (ha : PE X a (EI G W ma)) (hb : PE X b (EI G W mb)) (hc : PE X c (EI G W mc)) (hd : PE X d (EI G W md))
    (hm : lastMarks [op, op', op''] [b, c, d] = false := by with_unfolding_all rfl) : PE X (.Compare a [op, op', op''] [b, c, d] pos) (EI G W (eChain3 (fCmpI p) (fCmpI p') (fCmpI p'') ma mb mc md)) := (pe_chain3 ho ho' ho'' ha hb hc hd hm).imp chain3_of
theorem qt_chain3 {d : Expr} {op op' op'' : CmpOp} {p p' p'' : Int → Int → Bool} (ho : OpR X (compareOp op) (rI0 fun i j => .bl (p i j))) (ho' : OpR X (compareOp op') (rI0 fun i j => .bl (p' i j))) (ho'' : OpR X (compareOp op'') (rI0 fun i j => .bl (p'' i j)))
    (ha : PE X a (EI G W ma)) (hb : PE X b (EI G W mb)) (hc : PE X c (EI G W mc)) (hd : PE X d (EI G W md))
    (hm : lastMarks [op, op', op''] [b, c, d] = false := by with_unfolding_all rfl) : PT X (.Compare a [op, op', op''] [b, c, d] pos) (TsI G W (tOf (eChain3 (fCmpI p) (fCmpI p') (fCmpI p'') ma mb mc md))) := (pt_chain3 ho ho' ho'' ha hb hc hd hm).imp fun σ H Q h => by
  obtain ⟨w, env, e, o, er, p⟩ := test_of σ H Q h
  exact chain3_of σ H _ ⟨w, env, e, o, er, p⟩
end

/-! ### subscripts, slices -/
def fIx : D → D → Sto → Res D := fun x y st => match x, y with
  | .tup ds, .int i => match atI ds i with
    | some d => .ok d st
    | none => .bad
  | .str s, .int i => if s.length ≤ sizeLine then match atI s i with
    | some c => .ok (.str [c]) st
    | none => .bad else .bad
  | x, .int i => match asL x st with
    | some ds => match atI ds i with
      | some d => .ok d st
      | none => .bad
    | none => .bad
  | _, _ => .bad
theorem ixN_lt {n : Nat} {i : Int} {j : Nat} (h : ixN n i = some j) : j < n ∨ n = 0 := by
  unfold ixN at h
  split at h
  · split at h
    · cases h; left; omega
    · cases h
  · split at h
    · cases h; omega
    · cases h
theorem atI_rls {G : CT} {w : Wd} {ds : List D} {xs : List V} {i : Int} {d : D} (r : Rls G w ds xs) (h : atI ds i = some d) : ∃ x, atI xs i = some x ∧ Rl G w d x := by
  unfold atI at *
  rw [r.length]
  cases e : ixN ds.length i with
  | none => rw [e] at h; cases h
  | some j =>
    rw [e] at h
    exact r.get (show ds[j]? = some d from h)
def cutD {α : Type} (xs : List α) (lo hi : Option Int) : List α := (xs.drop (HT.sIx xs.length 0 lo)).take (HT.sIx xs.length xs.length hi - HT.sIx xs.length 0 lo)
theorem cut_rls {G : CT} {w : Wd} {ds : List D} {xs : List V} (r : Rls G w ds xs) (lo hi : Option Int) : Rls G w (cutD ds lo hi) (cutV xs lo hi) := by
  unfold cutD cutV
  rw [r.length]
  exact (r.drop _).take _
def fSl (m : Bool) (x : D) (lo hi : Option Int) (st : Sto) : Res D := match x with
  | .str s => if s.length ≤ sizeLine then .ok (.str (cutD s lo hi)) st else .bad
  | .tup ds => .ok (.tup (cutD ds lo hi)) st
  | x => match asL x st with
    | some ds => mkL m (cutD ds lo hi) st
    | none => .bad
abbrev Ov := Env → Sto → Res (Option Int)
abbrev OI (G : CT) (W : WX) (m : Ov) : TO := RI G W (fun _ a b => a = b) m
def oNone : Ov := fun _ st => .ok none st
def oSome (m : Ev) : Ov := fun env st => (m env st).bind fun d s => match d with
  | .int i => .ok (some i) s
  | _ => .bad
def eSl (b : Bool) (m : Ev) (lo hi : Ov) : Ev := fun env st => (m env st).bind fun x s => (lo env s).bind fun l s1 => (hi env s1).bind fun u s2 => fSl b x l u s2
section
variable {X : Cx} {G : CT} {W : WX} {pos p2 : Pos} {a b c : Expr} {ma mb mc : Ev} {lo hi : Option Expr} {ol oh : Ov}
theorem of_ix : OpF G fIx (rIx G.K) := fun W σ w x y dx dy Q o rx ry p => by
  unfold fIx at p
  split at p
  · split at p
    · rename_i ds i _ d h
      obtain ⟨a, xs, rfl, s, q⟩ := rx
      obtain ⟨v, e, r⟩ := atI_rls q h
      exact .inr (.inl ⟨a, xs, i, v, rfl, ry, s.sq, e, p.ok o r⟩)
    · exact p.elim
  · split at p
    · split at p
      · rename_i s i hl _ c h
        exact .inr (.inr ⟨_, i, c, rx, ry, by rw [str_len]; exact hl, h, p.ok o rfl⟩)
      · exact p.elim
    · exact p.elim
  · split at p
    · split at p
      · rename_i ds hl _ d h
        obtain ⟨a, xs, rfl, s, q⟩ := asL_sq o hl rx
        obtain ⟨v, e, r⟩ := atI_rls q h
        exact .inl ⟨a, xs, _, v, rfl, ry, s, e, p.ok o r⟩
      · exact p.elim
    · exact p.elim
  · exact p.elim
theorem q_ix (L : Lay X G W) (ha : PE X a (EI G W ma)) (hb : PE X b (EI G W mb)) (hs : PlainIx b := by exact fun _ _ => rfl) : PE X (.Subscript a b pos) (EI G W (eBin fIx ma mb)) := (pe_ix (ix_seq (X := X)) ha hb hs).imp (by rw [L.K]; exact bin_of of_ix)
theorem o_none : PO X none (OI G W oNone) := ⟨fun pins s σ H Q I ⟨w, env, e, o, er, p⟩ => po_none.run pins s σ H Q I (by subst e; exact p.ok o rfl)⟩
theorem o_some (h : PE X a (EI G W ma)) : PO X (some a) (OI G W (oSome ma)) := ⟨fun pins s σ H Q I ⟨w, env, e, o, er, p⟩ => (po_some h).run pins s σ H Q I ⟨w, env, e, o, er, p.bind fun w1 d x o1 l1 r1 p1 => by
  split at p1
  · exact ⟨_, r1, p1.ok o1 rfl⟩
  · exact p1.elim⟩⟩
theorem sl_any : SlR X (fun x lo hi H Q => rSlS x lo hi H Q ∨ rSlA X.K x lo hi H Q ∨ rSlL X.K x lo hi H Q) := sl_str.or (sl_tupA.or sl_list)
theorem cut_all {α : Type} {xs : List α} {lo hi : Option Int} (h : HT.sIx xs.length 0 lo = 0 ∧ HT.sIx xs.length xs.length hi = xs.length) : cutD xs lo hi = xs := by
  unfold cutD
  rw [h.1, h.2]
  simp
theorem q_sl (m : Bool) (L : Lay X G W) (ha : PE X a (EI G W ma)) (hl : PO X lo (OI G W ol)) (hh : PO X hi (OI G W oh)) : PE X (.Subscript a (.Slice lo hi none p2) pos) (EI G W (eSl m ma ol oh)) := (pe_slice sl_any ha hl hh).imp fun σ H Q ⟨w, env, e, o, er, p⟩ =>
  ⟨w, env, e, o, er, p.bind fun w1 dx x o1 l1 r1 p1 => ⟨w1, env, rfl, o1, er.mono l1, p1.bind fun w2 l l' o2 l2 r2 p2 => ⟨w2, env, rfl, o2, (er.mono l1).mono l2, p2.bind fun w3 u u' o3 l3 r3 p3 => by
    have e1 : l = l' := r2
    have e2 : u = u' := r3
    subst e1
    subst e2
    have rx := r1.mono (l2.trans l3)
    unfold fSl at p3
    split at p3
    · split at p3
      · rename_i s h
        refine .inl ⟨_, rx, by rw [str_len]; exact h, ?_⟩
        have e : cutS ⟨s.toArray⟩ l u = ⟨(cutD s l u).toArray⟩ := by
          unfold cutS cutD
          rw [str_len]
        rw [e]
        exact p3.ok o3 rfl
      · exact p3.elim
    · rename_i ds
      obtain ⟨a, xs, rfl, s, q⟩ := rx
      refine .inr (.inl ⟨a, xs, rfl, by rw [L.K]; exact s.sq, fun h => ?_, fun h p' n => ?_⟩)
      · rw [q.length] at h
        rw [cut_all h] at p3
        exact p3.ok o3 ⟨a, xs, rfl, s, q⟩
      · exact p3.new_tup o3 (cut_rls q _ _) n
    · split at p3
      · rename_i ds h
        obtain ⟨a, xs, rfl, s, q⟩ := asL_sq o3 h rx
        exact .inr (.inr ⟨a, xs, rfl, by rw [L.K]; exact s, fun p' n => p3.mk o3 (cut_rls q _ _) n⟩)
      · exact p3.elim⟩⟩⟩
end

/-! ### arguments, displays -/
def aNil : Av := fun _ st => .ok [] st
def aCons (m : Ev) (r : Av) : Av := fun env st => (m env st).bind fun d s => (r env s).bind fun ds s1 => .ok (d :: ds) s1
def eTup (m : Av) : Ev := fun env st => (m env st).bind fun ds s => if ds.length ≤ sizeLine then .ok (.tup ds) s else .bad
def eLst (b : Bool) (m : Av) : Ev := fun env st => (m env st).bind fun ds s => if ds.length ≤ sizeLine then mkL b ds s else .bad
section
variable {X : Cx} {G : CT} {W : WX} {pos : Pos} {a : Expr} {es : List Expr} {ma : Ev} {mr : Av}
theorem a_nil : PA X [] (AI G W aNil) := pa_nil.imp fun σ H Q ⟨w, env, e, o, er, p⟩ => by
  subst e
  exact p.ok o Rls.nil
theorem a_cons (ha : PE X a (EI G W ma)) (hr : PA X es (AI G W mr)) (hs : starEach (a :: es) X.env = (false, eval a X.env) :: starEach es X.env := by rfl) : PA X (a :: es) (AI G W (aCons ma mr)) := (pa_cons ha hr hs).imp fun σ H Q ⟨w, env, e, o, er, p⟩ =>
  ⟨w, env, e, o, er, p.bind fun w1 d x o1 l1 r1 p1 => ⟨w1, env, rfl, o1, er.mono l1, p1.bind fun w2 ds xs o2 l2 r2 p2 => p2.ok o2 (.cons (r1.mono l2) r2)⟩⟩
theorem q_tup {k} (h : PA X es (AI G W mr)) : PE X (.Tuple es k pos) (EI G W (eTup mr)) := (pe_tup h).imp fun σ H Q ⟨w, env, e, o, er, p⟩ =>
  ⟨w, env, e, o, er, p.bind fun w1 ds xs o1 l1 r1 p1 => by
    split at p1
    · rename_i h
      exact ⟨by rw [r1.length]; exact h, fun p' n => p1.new_tup o1 r1 n⟩
    · exact p1.elim⟩
theorem q_lst (b : Bool) (h : PA X es (AI G W mr)) : PE X (.List es pos) (EI G W (eLst b mr)) := (pe_lst h).imp fun σ H Q ⟨w, env, e, o, er, p⟩ =>
  ⟨w, env, e, o, er, p.bind fun w1 ds xs o1 l1 r1 p1 => by
    split at p1
    · rename_i h
      exact ⟨by rw [r1.length]; exact h, fun p' n => p1.mk o1 r1 n⟩
    · exact p1.elim⟩
end
end F
/-! Calls: built-ins by values, own defs, methods, instances made. -/
namespace F
open PySem PySem.Spec PyProof.Rows L2

abbrev Fn := List D → Sto → Res D
def CallF (G : CT) (f : Fn) (r : List V → Hp → VK → Prop) : Prop := ∀ (W : WX) (σ : L2.St) (w : Wd) (xs : List V) (ds : List D) (Q : VK), Ok G w → Rls G w ds xs → Post G W (Rl G) σ w (f ds w.st) Q → r xs w.H Q
def eCall (f : Fn) (a : Av) : Ev := fun env st => (a env st).bind fun ds s => f ds s
section
variable {X : Cx} {G : CT} {W : WX} {pos p : Pos} {e : Expr} {es : List Expr} {ma : Av} {f : Fn} {r : List V → Hp → VK → Prop} {x : Str}
theorem call_of (hf : CallF G f r) : ∀ σ H Q, EI G W (eCall f ma) σ H Q → tCB r (AI G W ma) σ H Q := fun σ H Q ⟨w, env, e, o, er, p⟩ =>
  ⟨w, env, e, o, er, p.bind fun w1 ds xs o1 l1 r1 p1 => hf W σ w1 xs ds Q o1 r1 p1⟩
theorem q_callB {id : String} (hc : CallR X (.builtin id) r) (hf : CallF G f r) (hg : Gl X x) (hm : X.mg x = none) (hv : bootBuiltins x = some (.builtin id)) (ha : PA X (e :: es) (AI G W ma)) (hn : x ≠ "__name__" := by decide) (hdb : (x == ("__debug__" : Str)) = false := by decide)
    (he : starEach (e :: es) X.env = (false, eval e X.env) :: starEach es X.env := by rfl) (hpl : (backTo pos (starEach es X.env)).any (·.1) = false := by rfl) : PE X (.Call (.Name x p) (e :: es) [] pos) (EI G W (eCall f ma)) :=
  (pe_callB hc hg hm hv ha hn hdb he hpl).imp (call_of hf)
theorem q_callTy {T : String} (hc : CallR X (.type T) r) (hf : CallF G f r) (hg : Gl X x) (hm : X.mg x = none) (hv : bootBuiltins x = some (.type T)) (ha : PA X (e :: es) (AI G W ma)) (hn : x ≠ "__name__" := by decide) (hdb : (x == ("__debug__" : Str)) = false := by decide)
    (he : starEach (e :: es) X.env = (false, eval e X.env) :: starEach es X.env := by rfl) (hpl : (backTo pos (starEach es X.env)).any (·.1) = false := by rfl) : PE X (.Call (.Name x p) (e :: es) [] pos) (EI G W (eCall f ma)) :=
  (pe_callTy hc hg hm hv ha hn hdb he hpl).imp (call_of hf)
theorem CallR.or {u : Value} {r r' : List V → Hp → VK → Prop} (h : CallR X u r) (h' : CallR X u r') : CallR X u (fun vs H Q => r vs H Q ∨ r' vs H Q) := fun pins s σ H vs us Q I rr q => q.elim (h pins s σ H vs us Q I rr) (h' pins s σ H vs us Q I rr)
end

section
variable {G : CT} {w : Wd}
theorem Rls.one' {d : D} {xs : List V} (h : Rls G w [d] xs) : ∃ x, xs = [x] ∧ Rl G w d x := by
  obtain ⟨x, r, rfl, h1, h2⟩ := h
  have e : r = [] := h2
  subst e
  exact ⟨x, rfl, h1⟩
theorem Rls.two' {d e : D} {xs : List V} (h : Rls G w [d, e] xs) : ∃ x y, xs = [x, y] ∧ Rl G w d x ∧ Rl G w e y := by
  obtain ⟨x, r, rfl, h1, h2⟩ := h
  obtain ⟨y, rfl, h3⟩ := h2.one'
  exact ⟨x, y, rfl, h1, h3⟩
end

/-! ### built-ins -/
def lenD (d : D) (st : Sto) : Option Nat := match d with
  | .str s => if s.length ≤ sizeLine then some s.length else none
  | .tup ds => some ds.length
  | d => (asL d st).map List.length
def fLen : Fn := fun ds st => match ds with
  | [d] => match lenD d st with
    | some n => .ok (.int (n : Int)) st
    | none => .bad
  | _ => .bad
def fAbs : Fn := fun ds st => match ds with
  | [.int i] => .ok (.int (if i < 0 then -i else i)) st
  | _ => .bad
def asInts : List D → Option (List Int)
  | [] => some []
  | .int i :: r => (asInts r).map (i :: ·)
  | _ => none
def asBools : List D → Option (List Bool)
  | [] => some []
  | .bl i :: r => (asBools r).map (i :: ·)
  | _ => none
def maxL : List Int → Int
  | [] => 0
  | [a] => a
  | a :: r => if maxL r > a then maxL r else a
def minL : List Int → Int
  | [] => 0
  | [a] => a
  | a :: r => if minL r < a then minL r else a
def fMax : Fn := fun ds st => match ds with
  | [.int i, .int j] => .ok (.int (if j > i then j else i)) st
  | [d] => match (asL d st).bind asInts with
    | some ns => if ns ≠ [] then .ok (.int (maxL ns)) st else .bad
    | none => .bad
  | _ => .bad
def fMin : Fn := fun ds st => match ds with
  | [.int i, .int j] => .ok (.int (if j < i then j else i)) st
  | [d] => match (asL d st).bind asInts with
    | some ns => if ns ≠ [] then .ok (.int (minL ns)) st else .bad
    | none => .bad
  | _ => .bad
def fSum : Fn := fun ds st => match ds with
  | [d] => match (asL d st).bind asInts with
    | some ns => .ok (.int ns.sum) st
    | none => .bad
  | _ => .bad
def fAny : Fn := fun ds st => match ds with
  | [d] => match (asL d st).bind asBools with
    | some ns => .ok (.bl (ns.any id)) st
    | none => .bad
  | _ => .bad
def fAll : Fn := fun ds st => match ds with
  | [d] => match (asL d st).bind asBools with
    | some ns => .ok (.bl (ns.all id)) st
    | none => .bad
  | _ => .bad
def fInt : Fn := fun ds st => match ds with
  | [.int i] => .ok (.int i) st
  | [.bl k] => .ok (.int (if k then 1 else 0)) st
  | _ => .bad
def fList (m : Bool) : Fn := fun ds st => match ds with
  | [.tup es] => mkL m es st
  | [.str s] => mkL m (s.map fun c => .str [c]) st
  | [d] => match asL d st with
    | some es => mkL m es st
    | none => .bad
  | _ => .bad
def fTuple : Fn := fun ds st => match ds with
  | [.tup es] => .ok (.tup es) st
  | [d] => match asL d st with
    | some es => .ok (.tup es) st
    | none => .bad
  | _ => .bad
noncomputable def fDivmod : Fn := fun ds st => match ds with
  | [.int i, .int j] => @ite _ (0 < j ∧ j < 1073741824) (Classical.propDecidable _) (.ok (.tup [.int (i / j), .int (i % j)]) st) .bad
  | _ => .bad
/-- str of an int or a text -/
def strI (i : Int) : List Nat := (toString i : String).toList.map Char.toNat

theorem maxL_ge : ∀ {ns : List Int} {x : Int}, x ∈ ns → x ≤ maxL ns
  | [a], x, h => by
    have e : x = a := by simpa using h
    rw [e]; exact Int.le_refl _
  | a :: b :: r, x, h => by
    have ih := fun y (hy : y ∈ b :: r) => maxL_ge (ns := b :: r) (x := y) hy
    show x ≤ if maxL (b :: r) > a then maxL (b :: r) else a
    rcases List.mem_cons.mp h with e | e
    · subst e; split <;> omega
    · have := ih x e; split <;> omega
theorem maxL_mem : ∀ {ns : List Int}, ns ≠ [] → maxL ns ∈ ns
  | [a], _ => by simp [maxL]
  | a :: b :: r, _ => by
    have ih := maxL_mem (ns := b :: r) (by simp)
    show (if maxL (b :: r) > a then maxL (b :: r) else a) ∈ a :: b :: r
    split
    · exact List.mem_cons_of_mem _ ih
    · exact List.mem_cons_self
theorem minL_le : ∀ {ns : List Int} {x : Int}, x ∈ ns → minL ns ≤ x
  | [a], x, h => by
    have e : x = a := by simpa using h
    rw [e]; exact Int.le_refl _
  | a :: b :: r, x, h => by
    have ih := fun y (hy : y ∈ b :: r) => minL_le (ns := b :: r) (x := y) hy
    show (if minL (b :: r) < a then minL (b :: r) else a) ≤ x
    rcases List.mem_cons.mp h with e | e
    · subst e; split <;> omega
    · have := ih x e; split <;> omega
theorem minL_mem : ∀ {ns : List Int}, ns ≠ [] → minL ns ∈ ns
  | [a], _ => by simp [minL]
  | a :: b :: r, _ => by
    have ih := minL_mem (ns := b :: r) (by simp)
    show (if minL (b :: r) < a then minL (b :: r) else a) ∈ a :: b :: r
    split
    · exact List.mem_cons_of_mem _ ih
    · exact List.mem_cons_self
section
variable {G : CT} {w : Wd}
theorem asInts_of : ∀ {ds : List D} {ns : List Int} {xs : List V}, asInts ds = some ns → Rls G w ds xs → xs = ns.map V.int
  | [], ns, xs, h, r => by
    cases h
    exact r
  | d :: ds, ns, xs, h, r => by
    obtain ⟨x, ys, rfl, h1, h2⟩ := r
    cases d with
    | int i =>
      cases e : asInts ds with
      | none =>
        have q : (asInts ds).map (i :: ·) = some ns := h
        rw [e] at q
        cases q
      | some ms =>
        have q : (asInts ds).map (i :: ·) = some ns := h
        rw [e] at q
        cases q
        rw [asInts_of e h2, show x = _ from h1]
        rfl
    | _ => cases h
theorem asBools_of : ∀ {ds : List D} {ns : List Bool} {xs : List V}, asBools ds = some ns → Rls G w ds xs → xs = ns.map V.bl
  | [], ns, xs, h, r => by
    cases h
    exact r
  | d :: ds, ns, xs, h, r => by
    obtain ⟨x, ys, rfl, h1, h2⟩ := r
    cases d with
    | bl i =>
      cases e : asBools ds with
      | none =>
        have q : (asBools ds).map (i :: ·) = some ns := h
        rw [e] at q
        cases q
      | some ms =>
        have q : (asBools ds).map (i :: ·) = some ns := h
        rw [e] at q
        cases q
        rw [asBools_of e h2, show x = _ from h1]
        rfl
    | _ => cases h
theorem asLI_of (o : Ok G w) {d : D} {ns : List Int} {x : V} (h : (asL d w.st).bind asInts = some ns) (r : Rl G w d x) : ∃ a, x = .ref a ∧ SqL G.K w.H a (ns.map V.int) := by
  cases e : asL d w.st with
  | none => rw [e] at h; cases h
  | some ds =>
    rw [e] at h
    obtain ⟨a, xs, rfl, s, q⟩ := asL_sq o e r
    rw [asInts_of h q] at s
    exact ⟨a, rfl, s⟩
theorem asLB_of (o : Ok G w) {d : D} {ns : List Bool} {x : V} (h : (asL d w.st).bind asBools = some ns) (r : Rl G w d x) : ∃ a, x = .ref a ∧ SqL G.K w.H a (ns.map V.bl) := by
  cases e : asL d w.st with
  | none => rw [e] at h; cases h
  | some ds =>
    rw [e] at h
    obtain ⟨a, xs, rfl, s, q⟩ := asL_sq o e r
    rw [asBools_of h q] at s
    exact ⟨a, rfl, s⟩
end
section
variable {G : CT}
theorem cf_len : CallF G fLen (fun xs H Q => ∃ x n, xs = [x] ∧ LenV G.K x H n ∧ Q (.int n) H) := fun W σ w xs ds Q o rs p => by
  unfold fLen at p
  split at p
  · split at p
    · rename_i d _ n h
      obtain ⟨x, rfl, r⟩ := rs.one'
      refine ⟨x, n, rfl, ?_, p.ok o rfl⟩
      unfold lenD at h
      split at h
      · split at h
        · cases h
          rw [show x = _ from r]
          exact ⟨by rw [str_len]; assumption, by rw [str_len]⟩
        · cases h
      · cases h
        obtain ⟨a, ys, rfl, s, q⟩ := r
        exact .inr ⟨ys, s.sq, q.length.symm⟩
      · cases e : asL d w.st with
        | none => rw [e] at h; cases h
        | some es =>
          rw [e] at h
          cases h
          obtain ⟨a, ys, rfl, s, q⟩ := asL_sq o e r
          exact .inl ⟨ys, s, q.length.symm⟩
    · exact p.elim
  · exact p.elim
theorem cf_abs : CallF G fAbs (fun xs H Q => ∃ i, xs = [.int i] ∧ Q (.int (if i < 0 then -i else i)) H) := fun W σ w xs ds Q o rs p => by
  unfold fAbs at p
  split at p
  · obtain ⟨x, rfl, r⟩ := rs.one'
    rw [show x = _ from r]
    exact ⟨_, rfl, p.ok o rfl⟩
  · exact p.elim
def rMaxA (K : PySem.W.Frag) : List V → Hp → VK → Prop := fun xs H Q => (∃ i j, xs = [.int i, .int j] ∧ Q (.int (if j > i then j else i)) H) ∨ rMax K xs H Q
def rMinA (K : PySem.W.Frag) : List V → Hp → VK → Prop := fun xs H Q => (∃ i j, xs = [.int i, .int j] ∧ Q (.int (if j < i then j else i)) H) ∨ rMin K xs H Q
theorem cf_max : CallF G fMax (rMaxA G.K) := fun W σ w xs ds Q o rs p => by
  unfold fMax at p
  split at p
  · obtain ⟨x, y, rfl, r1, r2⟩ := rs.two'
    rw [show x = _ from r1, show y = _ from r2]
    exact .inl ⟨_, _, rfl, p.ok o rfl⟩
  · split at p
    · split at p
      · rename_i ns h hn
        obtain ⟨x, rfl, r⟩ := rs.one'
        obtain ⟨a, rfl, s⟩ := asLI_of o h r
        refine .inr ⟨a, ns, rfl, s, List.length_pos_iff.mpr hn, fun m hm hle => ?_⟩
        have e : m = maxL ns := Int.le_antisymm (maxL_ge hm) (hle _ (maxL_mem hn))
        rw [e]
        exact p.ok o rfl
      · exact p.elim
    · exact p.elim
  · exact p.elim
theorem cf_min : CallF G fMin (rMinA G.K) := fun W σ w xs ds Q o rs p => by
  unfold fMin at p
  split at p
  · obtain ⟨x, y, rfl, r1, r2⟩ := rs.two'
    rw [show x = _ from r1, show y = _ from r2]
    exact .inl ⟨_, _, rfl, p.ok o rfl⟩
  · split at p
    · split at p
      · rename_i ns h hn
        obtain ⟨x, rfl, r⟩ := rs.one'
        obtain ⟨a, rfl, s⟩ := asLI_of o h r
        refine .inr ⟨a, ns, rfl, s, List.length_pos_iff.mpr hn, fun m hm hle => ?_⟩
        have e : m = minL ns := Int.le_antisymm (hle _ (minL_mem hn)) (minL_le hm)
        rw [e]
        exact p.ok o rfl
      · exact p.elim
    · exact p.elim
  · exact p.elim
theorem cf_sum : CallF G fSum (rSum G.K) := fun W σ w xs ds Q o rs p => by
  unfold fSum at p
  split at p
  · split at p
    · rename_i ns h
      obtain ⟨x, rfl, r⟩ := rs.one'
      obtain ⟨a, rfl, s⟩ := asLI_of o h r
      exact ⟨a, ns, rfl, s, p.ok o rfl⟩
    · exact p.elim
  · exact p.elim
theorem cf_any : CallF G fAny (rAny G.K) := fun W σ w xs ds Q o rs p => by
  unfold fAny at p
  split at p
  · split at p
    · rename_i ns h
      obtain ⟨x, rfl, r⟩ := rs.one'
      obtain ⟨a, rfl, s⟩ := asLB_of o h r
      exact ⟨a, ns, rfl, s, p.ok o rfl⟩
    · exact p.elim
  · exact p.elim
theorem cf_all : CallF G fAll (rAll G.K) := fun W σ w xs ds Q o rs p => by
  unfold fAll at p
  split at p
  · split at p
    · rename_i ns h
      obtain ⟨x, rfl, r⟩ := rs.one'
      obtain ⟨a, rfl, s⟩ := asLB_of o h r
      exact ⟨a, ns, rfl, s, p.ok o rfl⟩
    · exact p.elim
  · exact p.elim
theorem cf_int : CallF G fInt (fun xs H Q => (∃ i, xs = [.int i] ∧ Q (.int i) H) ∨ ∃ k, xs = [.bl k] ∧ Q (.int (if k then 1 else 0)) H) := fun W σ w xs ds Q o rs p => by
  unfold fInt at p
  split at p
  · obtain ⟨x, rfl, r⟩ := rs.one'
    rw [show x = _ from r]
    exact .inl ⟨_, rfl, p.ok o rfl⟩
  · obtain ⟨x, rfl, r⟩ := rs.one'
    rw [show x = _ from r]
    exact .inr ⟨_, rfl, p.ok o rfl⟩
  · exact p.elim
theorem cf_tuple : CallF G fTuple (fun xs H Q => ∃ p ys, xs = [.ref p] ∧ ((SqL G.K H p ys ∧ ∀ l, H l = none → Q (.ref l) (upd H l (.tup ys))) ∨ (SqT G.K H p ys ∧ Q (.ref p) H))) := fun W σ w xs ds Q o rs p => by
  unfold fTuple at p
  split at p
  · obtain ⟨x, rfl, r⟩ := rs.one'
    obtain ⟨a, ys, rfl, s, q⟩ := id r
    exact ⟨a, ys, rfl, .inr ⟨s.sq, p.ok o r⟩⟩
  · split at p
    · rename_i es h
      obtain ⟨x, rfl, r⟩ := rs.one'
      obtain ⟨a, ys, rfl, s, q⟩ := asL_sq o h r
      exact ⟨a, ys, rfl, .inl ⟨s, fun l n => p.new_tup o q n⟩⟩
    · exact p.elim
  · exact p.elim
theorem cf_divmod : CallF G fDivmod (fun xs H Q => ∃ i j, xs = [.int i, .int j] ∧ CDiv i j ∧ ∀ p, H p = none → Q (.ref p) (upd H p (.tup [.int (i / j), .int (i % j)]))) := fun W σ w xs ds Q o rs p => by
  unfold fDivmod at p
  split at p
  · split at p
    · rename_i h
      obtain ⟨x, y, rfl, r1, r2⟩ := rs.two'
      rw [show x = _ from r1, show y = _ from r2]
      exact ⟨_, _, rfl, h, fun l n => p.new_tup o (.cons rfl (.cons rfl .nil)) n⟩
    · exact p.elim
  · exact p.elim
end
end F
/-! Own defs, methods, attributes, instances made. -/
namespace F
open PySem PySem.Spec PyProof.Rows L2

/-- the promise of a def: it does what m does -/
def spI (G : CT) (m : Fn) : Sp := fun vs H Q E => ∃ (w : Wd) (ds : List D), w.H = H ∧ Ok G w ∧ Rls G w ds vs ∧ Post G (fun c d _ H' => E c d H') (Rl G) [] w (m ds w.st) Q
theorem spI_len {G : CT} {m : Fn} {ps : List Str} (h : ∀ ds st, m ds st ≠ .bad → ds.length = ps.length) : ∀ vs H Q E, spI G m vs H Q E → vs.length = ps.length := fun vs H Q E ⟨w, ds, _, _, r, p⟩ => by
  rw [r.length]
  exact h ds w.st fun z => by
    rw [z] at p
    exact p

/-- f(..): dd the defaults -/
def eFn (m : Fn) (dd : List D) (a : Av) : Ev := fun env st => (a env st).bind fun ds s => m (ds ++ dd) s
/-- the class of an instance -/
def clsOf (d : D) (st : Sto) : Option Nat := match d with
  | .obj c _ => some c
  | .ref i => match st[i]? with
    | some (.ins c _) => some c
    | _ => none
  | _ => none
/-- o.m(..), the method by the class -/
def eMeth (tb : Nat → Option Fn) (dd : List D) (o : Ev) (a : Av) : Ev := fun env st => (o env st).bind fun x s => match clsOf x s with
  | some c => match tb c with
    | some m => (a env s).bind fun ds s1 => m (x :: (ds ++ dd)) s1
    | none => .bad
  | none => .bad
def fldsOf (d : D) (st : Sto) : Option (Nat × List D) := match d with
  | .obj c ds => some (c, ds)
  | .ref i => match st[i]? with
    | some (.ins c ds) => some (c, ds)
    | _ => none
  | _ => none
/-- o.f: the place of f by the class -/
def eFld (ix : Nat → Option Nat) (o : Ev) : Ev := fun env st => (o env st).bind fun x s => match fldsOf x s with
  | some (c, ds) => match ix c with
    | some k => match ds[k]? with
      | some d => .ok d s
      | none => .bad
    | none => .bad
  | none => .bad
/-- the instance at the cell i is let go -/
def letGo (c n i : Nat) (s : Sto) : Res D := match s[i]? with
  | some (.ins c' es) => if c' = c ∧ es.length = n then .ok (.obj c es) (s.set i .dead) else .bad
  | _ => .bad
/-- C(..): n its attributes; let go behind __init__ (fr) -/
def eNew (c n : Nat) (fr : Bool) (m : Fn) (dd : List D) (a : Av) : Ev := fun env st => (a env st).bind fun ds s =>
  (m (.ref s.length :: (ds ++ dd)) (s ++ [.ins c []])).bind fun r s1 => match r with
    | .non => if fr = true then letGo c n s.length s1 else .ok (.ref s.length) s1
    | _ => .bad
/-- C() without __init__ -/
def eNew0 (c : Nat) : Ev := fun _ st => .ok (.obj c []) st

section
variable {G : CT} {w : Wd}
theorem clsOf_at (o : Ok G w) {d : D} {x : V} {c : Nat} (h : clsOf d w.st = some c) (r : Rl G w d x) : ∃ a dx fs, x = .ref a ∧ w.H a = some (.ins (G.cls c) dx fs) ∧ ∃ n, fs.map (·.1) = (G.fld c).take n := by
  cases d with
  | obj c' ds =>
    cases h
    obtain ⟨a, dx, fs, e1, e2, _, e3, _⟩ := r
    exact ⟨a, dx, fs, e1, e2, (G.fld c).length, by rw [List.take_length]; exact e3⟩
  | ref i =>
    obtain ⟨a, e, q⟩ := r
    unfold clsOf at h
    dsimp only at h
    split at h
    · rename_i c' ds hs
      cases h
      obtain ⟨dx, fs, e1, e2, _⟩ := o.cell i _ a hs e
      exact ⟨a, dx, fs, q, e1, _, e2⟩
    · cases h
  | _ => cases h
theorem fldsOf_at (o : Ok G w) {d : D} {x : V} {c : Nat} {ds : List D} (h : fldsOf d w.st = some (c, ds)) (r : Rl G w d x) : ∃ a dx fs, x = .ref a ∧ w.H a = some (.ins (G.cls c) dx fs) ∧ fs.map (·.1) = (G.fld c).take ds.length ∧ Rls G w ds (fs.map (·.2)) := by
  cases d with
  | obj c' es =>
    cases h
    obtain ⟨a, dx, fs, e1, e2, _, e3, e4⟩ := r
    refine ⟨a, dx, fs, e1, e2, ?_, e4⟩
    have l1 := e4.length
    have l2 := congrArg List.length e3
    rw [List.length_map] at l1 l2
    rw [← l1, l2, List.take_length]
    exact e3
  | ref i =>
    obtain ⟨a, e, q⟩ := r
    unfold fldsOf at h
    dsimp only at h
    split at h
    · rename_i c' es hs
      cases h
      obtain ⟨dx, fs, e1, e2, e3⟩ := o.cell i _ a hs e
      exact ⟨a, dx, fs, q, e1, e2, e3⟩
    · cases h
  | _ => cases h
theorem lookup_no {n : Str} : ∀ {fs : List (Str × V)}, n ∉ fs.map (·.1) → fs.lookup n = none
  | [], _ => rfl
  | (f, v) :: fs, h => by
    rw [List.map_cons, List.mem_cons, not_or] at h
    have e : (n == f) = false := beq_eq_false_iff_ne.mpr h.1
    rw [List.lookup_cons, e]
    exact lookup_no h.2
theorem lookup_at {n : Str} {v : V} : ∀ {fs : List (Str × V)} {k : Nat}, (fs.map (·.1)).Nodup → (fs.map (·.1))[k]? = some n → (fs.map (·.2))[k]? = some v → fs.lookup n = some v
  | [], k, _, h, _ => by simp at h
  | (f, u) :: fs, 0, _, h, q => by
    have e : f = n := by simpa using h
    have e2 : u = v := by simpa using q
    subst e
    subst e2
    simp [List.lookup_cons]
  | (f, u) :: fs, k + 1, nd, h, q => by
    rw [List.map_cons, List.nodup_cons] at nd
    have h' : (fs.map (·.1))[k]? = some n := by simpa using h
    have q' : (fs.map (·.2))[k]? = some v := by simpa using q
    have ne : ¬ n = f := fun e => nd.1 (e ▸ List.mem_of_getElem? h')
    have e : (n == f) = false := beq_eq_false_iff_ne.mpr ne
    rw [List.lookup_cons, e]
    exact lookup_at nd.2 h' q'
end

/-- what a class of the text must have for its attribute f, at place k -/
structure FldF (G : CT) (c : Nat) (f : Str) (k : Nat) : Prop where
  cl : Cls G.K (G.cls c)
  no : NoAttr G.K (G.cls c) f
  at_ : (G.fld c)[k]? = some f
  nd : (G.fld c).Nodup
/-- .. for its method m -/
structure MetF (P : Program) (w : World) (G : CT) (mg : Str → Option Value) (base : Heap) (k : Nat) (name : Str) (dd : List D) (c : Nat) (m : Fn) : Prop where
  cl : Cls G.K (G.cls c)
  no : name ∉ G.fld c
  ex : ∃ (f : Addr) (fd : FuncData) (ps : List Str) (dvs : List V) (ds : List Value), Meth G.K (G.cls c) name f ∧ FnOk P w G.K mg base (L2.CX P w) k f fd ps (spI G m) ∧ Binds G.K fd ps ds ∧ Vals dvs ds ∧ ∀ w', Rls G w' dd dvs

section
variable {X : Cx} {G : CT} {W : WX} {pos p apos : Pos} {e ob : Expr} {es : List Expr} {ma : Av} {mo : Ev} {m : Fn} {x name : Str} {n k c : Nat} {f : Addr} {fd : FuncData} {ps : List Str} {dvs : List V} {vds : List Value} {dd : List D}
/-- the callee runs -/
theorem run_I {pins : List (Addr × Obj)} {σ : L2.St} {H : Hp} {s : Shared} {Q : VK} {us : List Value} {vs : List V} (L : Lay X G W) (Fo : FnOk X.prog X.w X.K X.mg X.base (L2.CX X.prog X.w) k f fd ps (spI G m)) (hr : Room k X.A) (hb : Binds X.K fd ps vds) (hd : Vals dvs vds)
    (I : Inv X pins σ H s) (r : Vals vs us) (h : spI G m (vs ++ dvs) H Q (WE W σ)) : wpAny (model X.prog X.w) X.A (call (.ref f) us) (EP X pins σ Q) X.xe s := run_fnSD (E := WE W) Fo hr hb hd (passAt L.tk σ) I r h
theorem spI_of {σ : L2.St} {w : Wd} {ds : List D} {vs : List V} {Q : VK} (h : Post G W (Rl G) σ w (m ds w.st) Q) (o : Ok G w) (r : Rls G w ds vs) : spI G m vs w.H Q (WE W σ) := by
  refine ⟨w, ds, rfl, o, r, ?_⟩
  cases e : m ds w.st with
  | ok a s => rw [e] at h; exact h
  | ex c es s => rw [e] at h; exact h
  | bad => rw [e] at h; exact h
theorem q_call (L : Lay X G W) (Fo : FnOk X.prog X.w X.K X.mg X.base (L2.CX X.prog X.w) k f fd ps (spI G m)) (hr : Room k X.A) (hg : Gl X x) (hm : X.mg x = some (.ref f)) (hk : PySem.W.keepIn X.K (.ref f) = true) (hb : Binds X.K fd ps vds) (hd : Vals dvs vds) (hdd : ∀ w, Rls G w dd dvs)
    (ha : PA X (e :: es) (AI G W ma)) (hdb : (x == ("__debug__" : Str)) = false := by decide)
    (he : starEach (e :: es) X.env = (false, eval e X.env) :: starEach es X.env := by rfl) (hpl : (backTo pos (starEach es X.env)).any (·.1) = false := by rfl) : PE X (.Call (.Name x p) (e :: es) [] pos) (EI G W (eFn m dd ma)) :=
  (pe_callSD (E := WE W) Fo hr hg hm hk hb hd (fun σ => passAt L.tk σ) ha hdb he hpl).imp fun σ H Q ⟨w, env, e1, o, er, pp⟩ => by
    exact ⟨w, env, e1, o, er, pp.bind fun w1 ds vs o1 l1 r1 p1 => spI_of p1 o1 (r1.append (hdd w1))⟩
theorem q_call0 (L : Lay X G W) (Fo : FnOk X.prog X.w X.K X.mg X.base (L2.CX X.prog X.w) k f fd ps (spI G m)) (hr : Room k X.A) (hg : Gl X x) (hm : X.mg x = some (.ref f)) (hk : PySem.W.keepIn X.K (.ref f) = true) (hb : Binds X.K fd ps vds) (hd : Vals dvs vds) (hdd : ∀ w, Rls G w dd dvs)
    (hdb : (x == ("__debug__" : Str)) = false := by decide) : PE X (.Call (.Name x p) [] [] pos) (EI G W (eFn m dd aNil)) := by
  refine ⟨fun pins s σ H Q I ⟨w, env, e1, o, er, pp⟩ => ?_⟩
  refine wpAny_Call_Name_kw (ld_glob I hg hm ?_ hdb)
  subst e1
  exact PySem.W.callWith_K0 I.kIn hk (run_I L Fo hr hb hd I (us := []) (vs := []) .nil (spI_of pp o (hdd w)))
/-- o.m(e, ..) -/
theorem q_meth {tb : Nat → Option Fn} (L : Lay X G W) (ho : PE X ob (EI G W mo)) (ht : ∀ c m, tb c = some m → MetF X.prog X.w G X.mg X.base k name dd c m) (hr : Room k X.A)
    (ha : PA X (e :: es) (AI G W ma)) {pl : Sem Bool}
    (hst : starEach (e :: es) X.env = (false, eval e X.env) :: starEach es X.env := by rfl) (hpl : (backTo pos (starEach es X.env)).any (·.1) = false := by rfl)
    (hev : eval (.Call (.Attribute ob name apos) (e :: es) [] pos) X.env = (do
      let ov ← eval ob X.env; standAt apos.atName; let (f, first) ← holding [ov] (getMethod ov name pl); callWith pos f first (backTo pos (starEach (e :: es) X.env)) (backToKw pos (keywordEach [] X.env))) := by rfl) :
    PE X (.Call (.Attribute ob name apos) (e :: es) [] pos) (EI G W (eMeth tb dd mo ma)) := by
  have hK := L.K
  refine ⟨fun pins s σ H Q I ⟨w, env, e1, o, er, pp⟩ => ?_⟩
  have pp' : Post G W (Rl G) σ w ((mo env w.st).bind fun x s => match clsOf x s with
    | some c => match tb c with
      | some m => (ma env s).bind fun ds s1 => m (x :: (ds ++ dd)) s1
      | none => .bad
    | none => .bad) Q := pp
  refine PySem.W.methodCall_KW (pl := pl) (thn (ho.run pins s σ H (fun v H1 => ∃ w1 dx, w1.H = H1 ∧ Ok G w1 ∧ EnvR G w1 env σ ∧ Rl G w1 dx v ∧ Post G W (Rl G) σ w1 (match clsOf dx w1.st with
    | some c => match tb c with
      | some m => (ma env w1.st).bind fun ds s1 => m (dx :: (ds ++ dd)) s1
      | none => .bad
    | none => .bad) Q) I ⟨w, env, e1, o, er, pp'.bind fun w1 dx v o1 l1 r1 p1 => ⟨w1, dx, rfl, o1, er.mono l1, r1, p1⟩⟩) fun u s1 ⟨v, H1, I1, ru, w1, dx, e2, o1, er1, r1, p1⟩ => ?_) hev
  subst e2
  split at p1
  · rename_i c hc
    split at p1
    · rename_i m hm
      have M := ht c m hm
      obtain ⟨fa, fd', ps', dvs', vds', hmt, Fo, hb, hd, hdd⟩ := M.ex
      obtain ⟨a, dx', fs, rfl, ea, n0, hfs⟩ := clsOf_at o1 hc r1
      obtain rfl : u = Value.ref a := ru
      rw [← hK] at hmt Fo hb
      refine getmeth_ok I1 ea (by rw [hK]; exact M.cl) hmt (lookup_no (by rw [hfs]; exact fun h => M.no (List.mem_of_mem_take h))) ?_
      refine PySem.W.callWith_K (first := [.ref a]) (h₀ := X.base) I1.ok.mod.kin hmt.kp (thn (ha.run pos pins s1 σ w1.H (fun vs H2 => ∃ w2 ds, w2.H = H2 ∧ Ok G w2 ∧ Le w1 w2 ∧ Rls G w2 ds vs ∧ Post G W (Rl G) σ w2 (m (dx :: (ds ++ dd)) w2.st) Q) I1
        ⟨w1, env, rfl, o1, er1, p1.bind fun w2 ds vs o2 l2 r2 p2 => ⟨w2, ds, rfl, o2, l2, r2, p2⟩⟩) fun us s2 ⟨vs, H2, I2, rv, w2, ds, e3, o2, l2, r2, p2⟩ => ⟨I2.kIn, ?_⟩) hst hpl
      subst e3
      exact run_I L Fo hr hb hd I2 (us := .ref a :: us) (vs := .ref a :: vs) (.cons rfl rv) (spI_of p2 o2 (.cons (r1.mono l2) (r2.append (hdd w2))))
    · exact p1.elim
  · exact p1.elim
/-- o.m() -/
theorem q_meth0 {tb : Nat → Option Fn} (L : Lay X G W) (ho : PE X ob (EI G W mo)) (ht : ∀ c m, tb c = some m → MetF X.prog X.w G X.mg X.base k name dd c m) (hr : Room k X.A) {pl : Sem Bool}
    (hev : eval (.Call (.Attribute ob name apos) [] [] pos) X.env = (do
      let ov ← eval ob X.env; standAt apos.atName; let (f, first) ← holding [ov] (getMethod ov name pl); callWith pos f first (backTo pos (starEach [] X.env)) (backToKw pos (keywordEach [] X.env))) := by rfl) :
    PE X (.Call (.Attribute ob name apos) [] [] pos) (EI G W (eMeth tb dd mo aNil)) := by
  have hK := L.K
  refine ⟨fun pins s σ H Q I ⟨w, env, e1, o, er, pp⟩ => ?_⟩
  have pp' : Post G W (Rl G) σ w ((mo env w.st).bind fun x s => match clsOf x s with
    | some c => match tb c with
      | some m => m (x :: dd) s
      | none => .bad
    | none => .bad) Q := pp
  refine PySem.W.methodCall_KW (pl := pl) (thn (ho.run pins s σ H (fun v H1 => ∃ w1 dx, w1.H = H1 ∧ Ok G w1 ∧ EnvR G w1 env σ ∧ Rl G w1 dx v ∧ Post G W (Rl G) σ w1 (match clsOf dx w1.st with
    | some c => match tb c with
      | some m => m (dx :: dd) w1.st
      | none => .bad
    | none => .bad) Q) I ⟨w, env, e1, o, er, pp'.bind fun w1 dx v o1 l1 r1 p1 => ⟨w1, dx, rfl, o1, er.mono l1, r1, p1⟩⟩) fun u s1 ⟨v, H1, I1, ru, w1, dx, e2, o1, er1, r1, p1⟩ => ?_) hev
  subst e2
  split at p1
  · rename_i c hc
    split at p1
    · rename_i m hm
      have M := ht c m hm
      obtain ⟨fa, fd', ps', dvs', vds', hmt, Fo, hb, hd, hdd⟩ := M.ex
      obtain ⟨a, dx', fs, rfl, ea, n0, hfs⟩ := clsOf_at o1 hc r1
      obtain rfl : u = Value.ref a := ru
      rw [← hK] at hmt Fo hb
      refine getmeth_ok I1 ea (by rw [hK]; exact M.cl) hmt (lookup_no (by rw [hfs]; exact fun h => M.no (List.mem_of_mem_take h))) ?_
      exact PySem.W.callWith_K0 (first := [.ref a]) I1.kIn hmt.kp (run_I L Fo hr hb hd I1 (us := [.ref a]) (vs := [.ref a]) (.cons rfl .nil) (spI_of p1 o1 (.cons r1 (hdd w1))))
    · exact p1.elim
  · exact p1.elim
/-- o.f -/
theorem q_fld {ix : Nat → Option Nat} (L : Lay X G W) (ho : PE X ob (EI G W mo)) (hx : ∀ c k, ix c = some k → FldF G c name k) (hb : attributeBase ob name X.env (eval ob X.env) = eval ob X.env := by rfl) : PE X (.Attribute ob name pos) (EI G W (eFld ix mo)) := (pe_fld ho hb).imp fun σ H Q ⟨w, env, e1, o, er, pp⟩ =>
  ⟨w, env, e1, o, er, pp.bind fun w1 d v o1 l1 r1 p1 => by
    split at p1
    · rename_i c ds hc
      split at p1
      · rename_i k hk
        split at p1
        · rename_i y hy
          obtain ⟨a, dx, fs, rfl, ea, h1, h2⟩ := fldsOf_at o1 hc r1
          have Fx := hx c k hk
          obtain ⟨u, e2, r2⟩ := h2.get hy
          have hl : k < ds.length := (List.getElem?_eq_some_iff.mp hy).1
          refine ⟨a, G.cls c, dx, fs, u, rfl, ea, by rw [L.K]; exact Fx.cl, by rw [L.K]; exact Fx.no, lookup_at ?_ ?_ e2, p1.ok o1 r2⟩
          · rw [h1]
            exact Fx.nd.sublist (List.take_sublist _ _)
          · rw [h1, List.getElem?_take_of_lt hl]
            exact Fx.at_
        · exact p1.elim
      · exact p1.elim
    · exact p1.elim⟩
/-- C(e, ..) -/
theorem new_cell_ins {w : Wd} (o : Ok G w) {a dx : Addr} (n1 : w.H a = none) (n2 : w.H dx = none) (ne : dx ≠ a) : ∃ w', w'.H = upd (upd w.H dx (.own a)) a (.ins (G.cls c) dx []) ∧ w'.st = w.st ++ [.ins c []] ∧ Ok G w' ∧ Le w w' ∧ w'.ρ = w.ρ ++ [a] := by
  have k : ∀ b u, w.H b = some u → upd (upd w.H dx (.own a)) a (.ins (G.cls c) dx []) b = some u := fun b u e => by
    rw [upd_ne (ne_of_none e n1), upd_ne (ne_of_none e n2)]
    exact e
  exact ⟨⟨w.ρ ++ [a], w.st ++ [.ins c []], upd (upd w.H dx (.own a)) a (.ins (G.cls c) dx []), w.hid⟩, rfl, rfl, ok_new (c := .ins c []) o n1 k ⟨dx, [], upd_same, rfl, rfl⟩, le_new o n1 k, rfl⟩
theorem run_newI {pins : List (Addr × Obj)} {σ : L2.St} {s : Shared} {Q : VK} {us : List Value} {vs : List V} {w : Wd} {ds : List D} {fr : Bool} (L : Lay X G W) (M : Mk X.K (G.cls c) f) (Fo : FnOk X.prog X.w X.K X.mg X.base (L2.CX X.prog X.w) k f fd ps (spI G m)) (hr : Room (k + 1) X.A) (hb : Binds X.K fd ps vds) (hd : Vals dvs vds) (hdd : ∀ w, Rls G w dd dvs) (hn : n = (G.fld c).length)
    (I : Inv X pins σ w.H s) (r : Vals vs us) (o : Ok G w) (rs : Rls G w ds vs) (h : Post G W (Rl G) σ w ((m (.ref w.st.length :: (ds ++ dd)) (w.st ++ [.ins c []])).bind fun r s1 => match r with
      | .non => if fr = true then letGo c n w.st.length s1 else .ok (.ref w.st.length) s1
      | _ => .bad) Q) : wpAny (model X.prog X.w) X.A (call (.ref (G.cls c)) us) (EP X pins σ Q) X.xe s := by
  obtain ⟨w1, e1, e2, o1, l1, e3⟩ := new_cell_ins (c := c) o (a := s.heap.objs.size + 1) (dx := s.heap.objs.size) (I.hok.fresh (Nat.le_succ _)) (I.hok.fresh (Nat.le_refl _)) (Nat.ne_of_lt (Nat.lt_succ_self _))
  have I2 := Inv.made (C := G.cls c) I
  rw [← e1] at I2
  have hat : w1.ρ[w.st.length]? = some (s.heap.objs.size + 1) := by
    rw [e3, ← o.len, List.getElem?_append_right (Nat.le_refl _)]
    simp
  have ra : Rl G w1 (.ref w.st.length) (.ref (s.heap.objs.size + 1)) := ⟨_, hat, rfl⟩
  have rall : Rls G w1 (.ref w.st.length :: (ds ++ dd)) (.ref (s.heap.objs.size + 1) :: (vs ++ dvs)) := .cons ra ((rs.mono l1).append (hdd w1))
  have h1 : Post G W (Rl G) σ w1 (m (.ref w.st.length :: (ds ++ dd)) w1.st) (fun v H2 => v = .non ∧ Q (.ref (s.heap.objs.size + 1)) H2) := by
    rw [← e2] at h
    refine (Post.mono l1 h).bind fun w2 d v o2 l2 r2 p2 => ?_
    split at p2
    · refine ⟨r2, ?_⟩
      have hat2 : w2.ρ[w.st.length]? = some (s.heap.objs.size + 1) := l2.pre _ _ hat
      split at p2
      · unfold letGo at p2
        split at p2
        · split at p2
          · rename_i c' es hs hc
            obtain ⟨rfl, hl⟩ := hc
            obtain ⟨dx, fs, q1, q2, q3⟩ := o2.cell _ _ _ hs hat2
            have lf := le_free (w := w2) hs rfl
            refine p2 ⟨w2.ρ, w2.st.set w.st.length .dead, w2.H, w2.hid⟩ (.ref (s.heap.objs.size + 1)) rfl (ok_free o2 hs rfl) lf ⟨_, dx, fs, rfl, q1, free_nlive o2 hat2, ?_, q3.mono lf⟩
            rw [q2, hl, hn, List.take_length]
          · exact p2.elim
        · exact p2.elim
      · exact p2.ok o2 ⟨_, hat2, rfl⟩
    · exact p2.elim
  have sp : spI G m (.ref (s.heap.objs.size + 1) :: (vs ++ dvs)) w1.H (fun v H2 => v = .non ∧ Q (.ref (s.heap.objs.size + 1)) H2) (WE W σ) := spI_of h1 o1 rall
  have r2 : Vals (V.ref (s.heap.objs.size + 1) :: (vs ++ dvs)) (Value.ref (s.heap.objs.size + 1) :: (us ++ vds)) := .cons rfl (r.append hd)
  have hl : (Value.ref (s.heap.objs.size + 1) :: us ++ vds).length = ps.length := by
    have q1 := r2.length
    rw [Fo.len _ _ _ _ sp] at q1
    exact q1.symm
  refine wpAny_call (make_map (f := f) I.kIn M.makes M.init (beq_iff_eq.mp M.fn) (codeAny_mono (Fo.run _ X.stack _ _ ⟨Value.ref (s.heap.objs.size + 1) :: us, []⟩ (Value.ref (s.heap.objs.size + 1) :: (us ++ vds)) _ _ (WE W σ) (hr.make (G.cls c) us [])
    (I2.env0.make (G.cls c) us []) (hb _ (Value.ref (s.heap.objs.size + 1) :: us) I2.kIn hl) r2 sp) fun r s' hq => ?_))
  cases r with
  | error e => exact passAt L.tk σ pins _ _ e s' I2 hq
  | ok fl =>
    cases fl with
    | ret u =>
      obtain ⟨v, H', I3, rv, ev, q3⟩ := I2.after hq
      subst ev
      exact ⟨rv, ⟨V.ref (s.heap.objs.size + 1), H', I3, rfl, q3⟩⟩
    | next => exact hq.elim
    | brk => exact hq.elim
    | cont => exact hq.elim
theorem q_new {fr : Bool} (L : Lay X G W) (M : Mk X.K (G.cls c) f) (Fo : FnOk X.prog X.w X.K X.mg X.base (L2.CX X.prog X.w) k f fd ps (spI G m)) (hr : Room (k + 1) X.A) (hg : Gl X x) (hm : X.mg x = some (.ref (G.cls c))) (hb : Binds X.K fd ps vds) (hd : Vals dvs vds) (hdd : ∀ w, Rls G w dd dvs) (hn : n = (G.fld c).length)
    (ha : PA X (e :: es) (AI G W ma)) (hdb : (x == ("__debug__" : Str)) = false := by decide) (he : starEach (e :: es) X.env = (false, eval e X.env) :: starEach es X.env := by rfl) (hpl : (backTo pos (starEach es X.env)).any (·.1) = false := by rfl) :
    PE X (.Call (.Name x p) (e :: es) [] pos) (EI G W (eNew c n fr m dd ma)) := by
  refine ⟨fun pins s σ H Q I ⟨w, env, e1, o, er, pp⟩ => ?_⟩
  refine wpAny_Call_Name_kw (ld_glob I hg hm ?_ hdb)
  refine PySem.W.callWith_K (h₀ := X.base) I.ok.mod.kin M.kp (thn (ha.run pos pins s σ H (fun vs H1 => ∃ w1 ds, w1.H = H1 ∧ Ok G w1 ∧ Rls G w1 ds vs ∧ Post G W (Rl G) σ w1 ((m (.ref w1.st.length :: (ds ++ dd)) (w1.st ++ [.ins c []])).bind fun r s1 => match r with
      | .non => if fr = true then letGo c n w1.st.length s1 else .ok (.ref w1.st.length) s1
      | _ => .bad) Q) I ⟨w, env, e1, o, er, Post.bind pp fun w1 ds vs o1 l1 r1 p1 => ⟨w1, ds, rfl, o1, r1, p1⟩⟩) fun us s1 ⟨vs, H1, I1, r, w1, ds, e2, o1, r1, p1⟩ => ⟨I1.kIn, ?_⟩) he hpl
  subst e2
  exact run_newI L M Fo hr hb hd hdd hn I1 r o1 r1 p1
/-- C(), no __init__ but object's -/
structure Mk0 (K : PySem.W.Frag) (C : Addr) : Prop where
  makes : PySem.W.makesIn K C = true
  init : PySem.W.findIn K (.ref C) "__init__" = some (some (.builtin "object.__init__"))
  kp : PySem.W.keepIn K (.ref C) = true
theorem q_new0 (L : Lay X G W) (M : Mk0 X.K (G.cls c)) (hg : Gl X x) (hm : X.mg x = some (.ref (G.cls c))) (hf : G.fld c = []) (hdb : (x == ("__debug__" : Str)) = false := by decide) : PE X (.Call (.Name x p) [] [] pos) (EI G W (eNew0 c)) := by
  refine ⟨fun pins s σ H Q I ⟨w, env, e1, o, er, pp⟩ => ?_⟩
  refine wpAny_Call_Name_kw (ld_glob I hg hm ?_ hdb)
  subst e1
  refine PySem.W.callWith_K0 I.kIn M.kp ?_
  have I2 := Inv.made (C := G.cls c) I
  have n1 : w.H (s.heap.objs.size + 1) = none := I.hok.fresh (Nat.le_succ _)
  have n2 : w.H s.heap.objs.size = none := I.hok.fresh (Nat.le_refl _)
  have kk : ∀ b u, w.H b = some u → upd (upd w.H s.heap.objs.size (.own (s.heap.objs.size + 1))) (s.heap.objs.size + 1) (.ins (G.cls c) s.heap.objs.size []) b = some u := fun b u e => by
    rw [upd_ne (ne_of_none e n1), upd_ne (ne_of_none e n2)]
    exact e
  have q : Q (.ref (s.heap.objs.size + 1)) (upd (upd w.H s.heap.objs.size (.own (s.heap.objs.size + 1))) (s.heap.objs.size + 1) (.ins (G.cls c) s.heap.objs.size [])) :=
    pp ⟨w.ρ, w.st, _, w.hid⟩ _ rfl (ok_grow o kk) (le_grow o kk) ⟨_, _, [], rfl, upd_same, o.nlive n1, by rw [hf]; rfl, rfl⟩
  have Y := PySem.W.makes_of (M := model X.prog X.w) I.kIn M.makes
  refine wpAny_call (make_map0 I.kIn M.makes M.init (fun self => PySem.W.Looks.of_pure (PySem.W.oi_bind self)) ?_)
  obtain ⟨hh, g, d, t, os⟩ := s
  have hx : ((hh.push PySem.W.emptyDict).push (PySem.W.instObj (G.cls c) hh.objs.size)).get? (hh.objs.size + 1) = some (PySem.W.instObj (G.cls c) hh.objs.size) := by
    have z := Heap.get?_push_size (hh.push PySem.W.emptyDict) (o := PySem.W.instObj (G.cls c) hh.objs.size) rfl
    rwa [Heap.size_push] at z
  have t1 : PySem.W.Looks (model X.prog X.w) ((hh.push PySem.W.emptyDict).push (PySem.W.instObj (G.cls c) hh.objs.size)) (typeOf (.ref (hh.objs.size + 1))) (.ref (G.cls c)) := (PySem.W.Looks.ld hx).andThen .now
  have t2 : PySem.W.Looks (model X.prog X.w) ((hh.push PySem.W.emptyDict).push (PySem.W.instObj (G.cls c) hh.objs.size)) (isInstance (.ref (hh.objs.size + 1)) (.type "object")) true := t1.andThen (Y.top.keeps fun b o e => Heap.get?_push_of_some _ (Heap.get?_push_of_some _ e))
  refine codeAny_call_builtin PySem.W.oi_plain PySem.W.entry_oi (@PySem.W.check_slot (model X.prog X.w) _ _ ⟨(hh.push PySem.W.emptyDict).push (PySem.W.instObj (G.cls c) hh.objs.size), g, d, t, os⟩ "object.__init__" "object" "__init__" (.ref (hh.objs.size + 1)) [] [] _ PySem.W.oi_kind PySem.W.oi_split t2 (PySem.W.oi_args (.ref (hh.objs.size + 1))) ?_)
  rw [PySem.W.oi_run]
  exact wpAny_pure (And.intro rfl ⟨.ref (hh.objs.size + 1), _, I2, rfl, q⟩)
end
end F
/-! Methods of built-in types. -/
namespace F
open PySem PySem.Spec PyProof.Rows L2

def MtF (G : CT) (f : D → Fn) (r : V → List V → Hp → VK → Prop) : Prop := ∀ (W : WX) (σ : L2.St) (w : Wd) (x : V) (dx : D) (xs : List V) (ds : List D) (Q : VK), Ok G w → Rl G w dx x → Rls G w ds xs → Post G W (Rl G) σ w (f dx ds w.st) Q → r x xs w.H Q
def isStr (d : D) (_ : Sto) : Bool := match d with
  | .str _ => true
  | _ => false
def isLst (d : D) (st : Sto) : Bool := (asL d st).isSome
def TyF (G : CT) (T : String) (ty : D → Sto → Bool) : Prop := ∀ (w : Wd) (d : D) (x : V), Ok G w → Rl G w d x → ty d w.st = true → tyV G.K T x w.H
theorem ty_str {G : CT} : TyF G "str" isStr := fun w d x o r h => by
  cases d with
  | str s => rw [show x = _ from r]; rfl
  | _ => cases h
theorem ty_lst {G : CT} : TyF G "list" isLst := fun w d x o r h => by
  unfold isLst at h
  cases e : asL d w.st with
  | none => rw [e] at h; cases h
  | some ds =>
    obtain ⟨a, xs, rfl, s, q⟩ := asL_sq o e r
    exact .inl ⟨rfl, xs, s⟩
def eBM (ty : D → Sto → Bool) (f : D → Fn) (o : Ev) (a : Av) : Ev := fun env st => (o env st).bind fun x s => if ty x s = true then (a env s).bind fun ds s1 => f x ds s1 else .bad
section
variable {X : Cx} {G : CT} {W : WX} {cpos apos : Pos} {e ob : Expr} {es : List Expr} {ma : Av} {mo : Ev} {name : Str} {T id : String} {r : V → List V → Hp → VK → Prop} {f : D → Fn} {ty : D → Sto → Bool}
theorem q_bm (L : Lay X G W) (pa : PlainAttrs T) (slot : Slot T name id) (hty : typeOf (.builtin id) = pure (.type "method_descriptor")) (hm : MtR X id r) (hT : TyF G T ty) (hf : MtF G f r) (ho : PE X ob (EI G W mo)) (ha : PA X (e :: es) (AI G W ma))
    (hbase : attributeBase ob name X.env (eval ob X.env) = eval ob X.env := by rfl)
    (hfew : ((backTo cpos (starEach (e :: es) X.env)).all (fun x => !x.1) && (backToKw cpos (keywordEach [] X.env)).all (fun x => x.1.isSome) && decide ((e :: es).length + ([] : List Keyword).length + (if ([] : List Keyword).isEmpty then 0 else 1) < 30)) = true := by rfl)
    (hline : (apos.endLine == cpos.line) = true := by rfl) (hs : starEach (e :: es) X.env = (false, eval e X.env) :: starEach es X.env := by rfl) (hplain : (backTo cpos (starEach es X.env)).any (·.1) = false := by rfl) :
    PE X (.Call (.Attribute ob name apos) (e :: es) [] cpos) (EI G W (eBM ty f mo ma)) := (pe_bm pa slot hty hm ho ha hbase hfew hline hs hplain).imp fun σ H Q ⟨w, env, e1, o, er, pp⟩ =>
  ⟨w, env, e1, o, er, pp.bind fun w1 d x o1 l1 r1 p1 => by
    split at p1
    · rename_i ht
      exact ⟨by rw [L.K]; exact hT w1 d x o1 r1 ht, w1, env, rfl, o1, er.mono l1, p1.bind fun w2 ds xs o2 l2 r2 p2 => hf W σ w2 x d xs ds Q o2 (r1.mono l2) r2 p2⟩
    · exact p1.elim⟩
theorem q_bm0 (L : Lay X G W) (pa : PlainAttrs T) (slot : Slot T name id) (hty : typeOf (.builtin id) = pure (.type "method_descriptor")) (hm : MtR X id r) (hT : TyF G T ty) (hf : MtF G f r) (ho : PE X ob (EI G W mo))
    (hbase : attributeBase ob name X.env (eval ob X.env) = eval ob X.env := by rfl) (hline : (apos.endLine == cpos.line) = true := by rfl) :
    PE X (.Call (.Attribute ob name apos) [] [] cpos) (EI G W (eBM ty f mo aNil)) := (pe_bm0 pa slot hty hm ho hbase hline).imp fun σ H Q ⟨w, env, e1, o, er, pp⟩ =>
  ⟨w, env, e1, o, er, pp.bind fun w1 d x o1 l1 r1 p1 => by
    split at p1
    · rename_i ht
      exact ⟨by rw [L.K]; exact hT w1 d x o1 r1 ht, hf W σ w1 x d [] [] Q o1 r1 rfl p1⟩
    · exact p1.elim⟩
end

/-! ### lists that change -/
def cellL (d : D) (st : Sto) : Option (Nat × List D) := match d with
  | .ref i => match st[i]? with
    | some (.lst ds) => some (i, ds)
    | _ => none
  | _ => none
section
variable {G : CT} {W : WX} {w : Wd}
theorem cellL_at (o : Ok G w) {d : D} {x : V} {i : Nat} {ds : List D} (h : cellL d w.st = some (i, ds)) (r : Rl G w d x) : ∃ a xs, x = .ref a ∧ w.st[i]? = some (.lst ds) ∧ w.ρ[i]? = some a ∧ w.H a = some (.lst xs) ∧ Rls G w ds xs := by
  unfold cellL at h
  split at h
  · split at h
    · rename_i hs
      cases h
      obtain ⟨a, e, q⟩ := r
      obtain ⟨xs, e1, e2⟩ := o.cell i _ a hs e
      exact ⟨a, xs, q, hs, e, e1, e2⟩
    · cases h
  · cases h
/-- the list at the cell i becomes es -/
theorem set_lst (o : Ok G w) {i : Nat} {ds es : List D} {a : Addr} {ys : List V} (hs : w.st[i]? = some (.lst ds)) (ha : w.ρ[i]? = some a) (r : Rls G w es ys) :
    ∃ w', w'.H = upd w.H a (.lst ys) ∧ w'.st = w.st.set i (.lst es) ∧ Ok G w' ∧ Le w w' :=
  have l : Le w ⟨w.ρ, w.st.set i (.lst es), upd w.H a (.lst ys), w.hid⟩ := le_set o hs rfl ha
  ⟨⟨w.ρ, w.st.set i (.lst es), upd w.H a (.lst ys), w.hid⟩, rfl, rfl, ok_set (c' := .lst es) o hs rfl ha ⟨ys, upd_same, r.mono l⟩, l⟩
theorem Post.set_lst {σ : L2.St} {d : D} {v : V} {Q : VK} {i : Nat} {ds es : List D} {a : Addr} {ys : List V} (h : Post G W (Rl G) σ w (.ok d (w.st.set i (.lst es))) Q) (o : Ok G w) (hs : w.st[i]? = some (.lst ds)) (ha : w.ρ[i]? = some a) (r : Rls G w es ys) (q : Rl G w d v) : Q v (upd w.H a (.lst ys)) := by
  obtain ⟨w', e1, e2, o', l⟩ := F.set_lst o hs ha r
  rw [← e1]
  exact h w' v e2 o' l (q.mono l)
end
def fAppend : D → Fn := fun x ds st => match cellL x st, ds with
  | some (i, es), [d] => if es.length < sizeLine then .ok .non (st.set i (.lst (es ++ [d]))) else .bad
  | _, _ => .bad
def fPop : D → Fn := fun x ds st => match cellL x st, ds with
  | some (i, es), [] => match es[es.length - 1]? with
    | some d => .ok d (st.set i (.lst es.dropLast))
    | none => .bad
  | _, _ => .bad
def fPopAt : D → Fn := fun x ds st => match cellL x st, ds with
  | some (i, es), [.int k] => if 0 ≤ k ∧ k < 2 ^ 31 then match es[k.toNat]? with
    | some d => .ok d (st.set i (.lst (es.eraseIdx k.toNat)))
    | none => .bad else .bad
  | _, _ => .bad
def fExtend : D → Fn := fun x ds st => match cellL x st, ds with
  | some (i, es), [d] => match asH d st with
    | some fs => if es.length + fs.length ≤ sizeLine then .ok .non (st.set i (.lst (es ++ fs))) else .bad
    | none => .bad
  | _, _ => .bad
def fReverse : D → Fn := fun x ds st => match cellL x st, ds with
  | some (i, es), [] => .ok .non (st.set i (.lst es.reverse))
  | _, _ => .bad
def fCountS : D → Fn := fun x ds st => match x, ds with
  | .str a, [.str b] => .ok (.int (Txt.count ⟨a.toArray⟩ ⟨b.toArray⟩)) st
  | _, _ => .bad
def asStrs : List D → Option (List (List Nat))
  | [] => some []
  | .str s :: r => (asStrs r).map (s :: ·)
  | _ => none
def fJoin : D → Fn := fun x ds st => match x, ds with
  | .str a, [d] => match (match d with | .tup es => some es | d => asL d st).bind asStrs with
    | some ys => if (ys.map List.length).sum + ys.length * a.length ≤ 16777216 then .ok (.str (Txt.join ⟨a.toArray⟩ (ys.map fun y => ⟨y.toArray⟩)).cps.toList) st else .bad
    | none => .bad
  | _, _ => .bad
def fSplit (m : Bool) : D → Fn := fun x ds st => match x, ds with
  | .str a, [.str b] => if (b.length == 0) = false ∧ a.length + 2 ≤ sizeLine then mkL m ((Txt.split ⟨a.toArray⟩ ⟨b.toArray⟩).map fun y => .str y.cps.toList) st else .bad
  | _, _ => .bad
def fStartswith : D → Fn := fun x ds st => match x, ds with
  | .str a, [.str b] => .ok (.bl (Txt.startswith ⟨a.toArray⟩ ⟨b.toArray⟩)) st
  | _, _ => .bad
theorem str_eta (x : Str) : (⟨x.cps.toList.toArray⟩ : Str) = x := by simp
section
variable {G : CT}
theorem Rls.rev {w : Wd} : ∀ {ds : List D} {xs : List V}, Rls G w ds xs → Rls G w ds.reverse xs.reverse
  | [], xs, h => by
    have e : xs = [] := h
    subst e
    rfl
  | d :: ds, xs, h => by
    obtain ⟨x, r, rfl, h1, h2⟩ := h
    rw [List.reverse_cons, List.reverse_cons]
    exact (Rls.rev h2).append (.one h1)
theorem Rls.erase {w : Wd} : ∀ {ds : List D} {xs : List V} (k : Nat), Rls G w ds xs → Rls G w (ds.eraseIdx k) (xs.eraseIdx k)
  | [], xs, k, h => by
    have e : xs = [] := h
    subst e
    rfl
  | d :: ds, xs, 0, h => by
    obtain ⟨x, r, rfl, h1, h2⟩ := h
    exact h2
  | d :: ds, xs, k + 1, h => by
    obtain ⟨x, r, rfl, h1, h2⟩ := h
    exact .cons h1 (Rls.erase k h2)
theorem Rls.dropLast {w : Wd} {ds : List D} {xs : List V} (h : Rls G w ds xs) : Rls G w ds.dropLast xs.dropLast := by
  rw [List.dropLast_eq_take, List.dropLast_eq_take, h.length]
  exact h.take _
theorem asStrs_of {w : Wd} : ∀ {ds : List D} {ns : List (List Nat)} {xs : List V}, asStrs ds = some ns → Rls G w ds xs → xs = (ns.map fun y => (⟨y.toArray⟩ : Str)).map V.str
  | [], ns, xs, h, r => by
    cases h
    exact r
  | d :: ds, ns, xs, h, r => by
    obtain ⟨x, ys, rfl, h1, h2⟩ := r
    cases d with
    | str i =>
      cases e : asStrs ds with
      | none =>
        have q : (asStrs ds).map (i :: ·) = some ns := h
        rw [e] at q
        cases q
      | some ms =>
        have q : (asStrs ds).map (i :: ·) = some ns := h
        rw [e] at q
        cases q
        rw [asStrs_of e h2, show x = _ from h1]
        rfl
    | _ => cases h
theorem mf_append : MtF G fAppend rAppend := fun W σ w x dx xs ds Q o rx rs p => by
  unfold fAppend at p
  split at p
  · split at p
    · rename_i i es d hc hl
      obtain ⟨a, ys, rfl, h1, h2, h3, h4⟩ := cellL_at o hc rx
      obtain ⟨y, rfl, ry⟩ := rs.one'
      exact ⟨a, ys, y, rfl, rfl, h3, by rw [h4.length]; exact hl, p.set_lst o h1 h2 (h4.append (.one ry)) rfl⟩
    · exact p.elim
  · exact p.elim
theorem mf_pop : MtF G fPop rPop := fun W σ w x dx xs ds Q o rx rs p => by
  unfold fPop at p
  split at p
  · split at p
    · rename_i i es hc _ d hd
      obtain ⟨a, ys, rfl, h1, h2, h3, h4⟩ := cellL_at o hc rx
      obtain ⟨y, e, ry⟩ := h4.get hd
      exact ⟨a, ys, y, rfl, rs, h3, by rw [h4.length]; exact e, p.set_lst o h1 h2 h4.dropLast ry⟩
    · exact p.elim
  · exact p.elim
theorem mf_popAt : MtF G fPopAt rPopAt := fun W σ w x dx xs ds Q o rx rs p => by
  unfold fPopAt at p
  split at p
  · split at p
    · split at p
      · rename_i i es k hc hk _ d hd
        obtain ⟨a, ys, rfl, h1, h2, h3, h4⟩ := cellL_at o hc rx
        obtain ⟨y, e, ry⟩ := h4.get hd
        obtain ⟨z, rfl, rz⟩ := rs.one'
        have hl : k.toNat < es.length := (List.getElem?_eq_some_iff.mp hd).1
        refine ⟨a, ys, k, k.toNat, y, rfl, by rw [show z = _ from rz], h3, by omega, by omega, ?_, e, p.set_lst o h1 h2 (h4.erase _) ry⟩
        unfold seqIndex?
        rw [h4.length]
        have a1 : ¬ k < 0 := by omega
        have a2 : ¬ (k < 0 ∨ k ≥ (es.length : Int)) := by omega
        simp [a1]
        omega
      · exact p.elim
    · exact p.elim
  · exact p.elim
theorem mf_extend : MtF G fExtend rExtend := fun W σ w x dx xs ds Q o rx rs p => by
  unfold fExtend at p
  split at p
  · split at p
    · split at p
      · rename_i i es d hc _ fs hd hl
        obtain ⟨a, ys, rfl, h1, h2, h3, h4⟩ := cellL_at o hc rx
        obtain ⟨z, rfl, rz⟩ := rs.one'
        obtain ⟨b, zs, rfl, k1, k2⟩ := asH_sq o hd rz
        exact ⟨a, b, ys, zs, rfl, rfl, h3, k1, by rw [h4.length, k2.length]; exact hl, p.set_lst o h1 h2 (h4.append k2) rfl⟩
      · exact p.elim
    · exact p.elim
  · exact p.elim
theorem mf_reverse : MtF G fReverse rReverse := fun W σ w x dx xs ds Q o rx rs p => by
  unfold fReverse at p
  split at p
  · rename_i i es hc
    obtain ⟨a, ys, rfl, h1, h2, h3, h4⟩ := cellL_at o hc rx
    exact ⟨a, ys, rfl, rs, h3, p.set_lst o h1 h2 h4.rev rfl⟩
  · exact p.elim
theorem mf_countS : MtF G fCountS (fun x xs H Q => ∃ a b, x = .str a ∧ xs = [.str b] ∧ Q (.int (Txt.count a b)) H) := fun W σ w x dx xs ds Q o rx rs p => by
  unfold fCountS at p
  split at p
  · obtain ⟨z, rfl, rz⟩ := rs.one'
    exact ⟨_, _, rx, by rw [show z = _ from rz], p.ok o rfl⟩
  · exact p.elim
theorem mf_startswith : MtF G fStartswith (fun x xs H Q => ∃ a b, x = .str a ∧ xs = [.str b] ∧ Q (.bl (Txt.startswith a b)) H) := fun W σ w x dx xs ds Q o rx rs p => by
  unfold fStartswith at p
  split at p
  · obtain ⟨z, rfl, rz⟩ := rs.one'
    exact ⟨_, _, rx, by rw [show z = _ from rz], p.ok o rfl⟩
  · exact p.elim
theorem mf_split (m : Bool) : MtF G (fSplit m) (fun x xs H Q => ∃ a b, x = .str a ∧ xs = [.str b] ∧ (b.length == 0) = false ∧ a.length + 2 ≤ sizeLine ∧ rNewStrs (Txt.split a b) H Q) := fun W σ w x dx xs ds Q o rx rs p => by
  unfold fSplit at p
  split at p
  · split at p
    · rename_i h
      obtain ⟨z, rfl, rz⟩ := rs.one'
      refine ⟨_, _, rx, by rw [show z = _ from rz], by rw [str_len]; exact h.1, by rw [str_len]; exact h.2, fun l n => p.mk o ?_ n⟩
      generalize Txt.split _ _ = ys
      induction ys with
      | nil => rfl
      | cons y ys ih => exact .cons (by show V.str y = V.str _; rw [str_eta]) ih
    · exact p.elim
  · exact p.elim
theorem mf_join : MtF G fJoin (fun x xs H Q => ∃ a p, ∃ ys : List Str, x = .str a ∧ xs = [.ref p] ∧ (SqL G.K H p (ys.map V.str) ∨ SqT G.K H p (ys.map V.str)) ∧ (ys.map (·.length)).sum + ys.length * a.length ≤ 16777216 ∧ Q (.str (Txt.join a ys)) H) := fun W σ w x dx xs ds Q o rx rs p => by
  unfold fJoin at p
  split at p
  · split at p
    · split at p
      · rename_i a d _ ys hy h
        obtain ⟨z, rfl, rz⟩ := rs.one'
        have key : ∃ p, z = .ref p ∧ (SqL G.K w.H p ((ys.map fun y => (⟨y.toArray⟩ : Str)).map V.str) ∨ SqT G.K w.H p ((ys.map fun y => (⟨y.toArray⟩ : Str)).map V.str)) := by
          cases d with
          | tup es =>
            obtain ⟨q, zs, rfl, s, k⟩ := rz
            rw [asStrs_of hy k] at s
            exact ⟨q, rfl, .inr s.sq⟩
          | lst es =>
            obtain ⟨q, zs, rfl, s, k⟩ := asL_sq o (show asL (.lst es) w.st = some es from rfl) rz
            rw [asStrs_of hy k] at s
            exact ⟨q, rfl, .inl s⟩
          | rol es =>
            obtain ⟨q, zs, rfl, s, k⟩ := asL_sq o (show asL (.rol es) w.st = some es from rfl) rz
            rw [asStrs_of hy k] at s
            exact ⟨q, rfl, .inl s⟩
          | ref i =>
            cases e : asL (.ref i) w.st with
            | none => simp only [e] at hy; cases hy
            | some es =>
              simp only [e] at hy
              obtain ⟨q, zs, rfl, s, k⟩ := asL_sq o e rz
              rw [asStrs_of hy k] at s
              exact ⟨q, rfl, .inl s⟩
          | _ => cases hy
        obtain ⟨q, rfl, s⟩ := key
        refine ⟨_, q, _, rx, rfl, s, ?_, ?_⟩
        · rw [List.map_map, List.length_map, str_len]
          have e : ((fun x : Str => x.length) ∘ fun y : List Nat => (⟨y.toArray⟩ : Str)) = List.length := by
            funext y
            exact str_len y
          rw [e]
          exact h
        · exact p.ok o (by show _ = V.str _; rw [str_eta])
      · exact p.elim
    · exact p.elim
  · exact p.elim
end
end F
/-! Statements as functions: names, targets, if, for, while. -/
namespace F
open PySem PySem.Spec PyProof.Rows L2

def sNx : Sv := fun env st => .nx env st
def Out.andThen (o : Out) (f : Env → Sto → Out) : Out := match o with
  | .nx env s => f env s
  | .rt d s => .rt d s
  | .bk env s => .bk env s
  | .ct env s => .ct env s
  | .ex c ds env s => .ex c ds env s
  | .bad => .bad
def sSeq (a b : Sv) : Sv := fun env st => (a env st).andThen b
def sSet (i : Nat) (m : Ev) : Sv := fun env st => (m env st).andS env fun d s => .nx (env.set i (some d)) s
def sDrop (m : Ev) : Sv := fun env st => (m env st).andS env fun _ s => .nx env s
def sRet (m : Ev) : Sv := fun env st => (m env st).andS env fun d s => .rt d s
def sRetN : Sv := fun _ st => .rt .non st
def sIf (t : Tv) (a b : Sv) : Sv := fun env st => (t env st).andS env fun k s => if k = true then a env s else b env s
def sBk : Sv := fun env st => .bk env st
def sCt : Sv := fun env st => .ct env st
def sBad : Sv := fun _ _ => .bad
section
variable {X : Cx} {G : CT} {W : WX} {pos : Pos} {e c : Expr} {me : Ev} {tc : Tv} {st : Stmt} {rest sa sb : List Stmt} {ma mb : Sv}
theorem z_nil : PSs X [] (SI G W sNx) := pss_nil.imp fun D σ H ⟨w, env, e, o, er, p⟩ => by subst e; exact p.toNx o er
theorem z_pass : PS X (.Pass pos) (SI G W sNx) := ps_pass.imp fun D σ H ⟨w, env, e, o, er, p⟩ => by subst e; exact p.toNx o er
theorem z_doc {x j p'} : PS X (.Expr (.Constant (.str x) j pos) p') (SI G W sNx) := ps_doc.imp fun D σ H ⟨w, env, e, o, er, p⟩ => by subst e; exact p.toNx o er
theorem seq_of : ∀ D σ H, SI G W (sSeq ma mb) D σ H → SI G W ma { D with nx := SI G W mb D } σ H := fun D σ H ⟨w, env, e, o, er, p⟩ => by
  refine ⟨w, env, e, o, er, ?_⟩
  unfold sSeq at p
  cases q : ma env w.st with
  | nx env' s =>
    rw [q] at p
    intro w' σ' e' o' l' r'
    exact ⟨w', env', rfl, o', r', by subst e'; exact PostS.mono l' p⟩
  | rt d s => rw [q] at p; exact p
  | bk env' s => rw [q] at p; exact p
  | ct env' s => rw [q] at p; exact p
  | ex c ds env' s => rw [q] at p; exact p
  | bad => rw [q] at p; exact p
theorem z_cons (h1 : PS X st (SI G W ma)) (h2 : PSs X rest (SI G W mb)) : PSs X (st :: rest) (SI G W (sSeq ma mb)) := (pss_cons h1 h2).imp seq_of
theorem z_one (h1 : PS X st (SI G W ma)) : PSs X [st] (SI G W ma) := pss_one h1
theorem z_set {i : Nat} {x : Str} {pos' : Pos} (hN : X.N.Nodup) (hi : X.N[i]? = some x) (hx : Loc X.env.scope x) (he : PE X e (EI G W me)) (hs : swapsWith e (some (.Name x pos')) pos.line X.env = pure false := by rfl) (hf : X.fn x = true ∨ X.env.scope.names.lookup x = some .local := by first | exact .inl rfl | exact .inr rfl | assumption) :
    PS X (.Assign [.Name x pos'] e pos) (SI G W (sSet i me)) := (ps_set hN hi hx he hs hf).imp fun D σ H ⟨w, env, e1, o, er, p⟩ =>
  ⟨w, env, e1, o, er, PostS.bind er p fun w1 d v o1 l1 r1 p1 => p1.toNx o1 ((er.mono l1).set i r1)⟩
theorem z_drop (he : PE X e (EI G W me)) (hs : swapsWith e none pos.line X.env = pure false := by rfl) : PS X (.Expr e pos) (SI G W (sDrop me)) := (ps_expr he hs).imp fun D σ H ⟨w, env, e1, o, er, p⟩ =>
  ⟨w, env, e1, o, er, PostS.bind er p fun w1 d v o1 l1 r1 p1 => p1.toNx o1 (er.mono l1)⟩
theorem z_ret (he : PE X e (EI G W me)) : PS X (.Return (some e) pos) (SI G W (sRet me)) := (ps_ret he).imp fun D σ H ⟨w, env, e1, o, er, p⟩ =>
  ⟨w, env, e1, o, er, PostS.bind er p fun w1 d v o1 l1 r1 p1 => p1 w1 v rfl o1 (Le.refl _) r1⟩
theorem z_retN : PS X (.Return none pos) (SI G W sRetN) := ps_retN.imp fun D σ H ⟨w, env, e1, o, er, p⟩ => by
  subst e1
  exact p w .non rfl o (Le.refl _) rfl
theorem z_if (hc : PT X c (TsI G W tc)) (ha : PSs X sa (SI G W ma)) (hb : PSs X sb (SI G W mb)) : PS X (.If c sa sb pos) (SI G W (sIf tc ma mb)) := (ps_if hc ha hb).imp fun D σ H ⟨w, env, e1, o, er, p⟩ =>
  ⟨w, env, e1, o, er, PostS.bind er p fun w1 k b o1 l1 r1 p1 => by
    have r1' : k = b := r1
    subst r1'
    cases k with
    | true => exact ⟨w1, env, rfl, o1, er.mono l1, p1⟩
    | false => exact ⟨w1, env, rfl, o1, er.mono l1, p1⟩⟩
theorem z_break : PS X (.Break pos) (SI G W sBk) := ps_break.imp fun D σ H ⟨w, env, e1, o, er, p⟩ => by
  subst e1
  exact p w σ rfl o (Le.refl _) er
theorem z_continue : PS X (.Continue pos) (SI G W sCt) := ps_continue.imp fun D σ H ⟨w, env, e1, o, er, p⟩ => by
  subst e1
  exact p w σ rfl o (Le.refl _) er
theorem z_bad : PS X st (SI G W sBad) := ps_never.imp fun D σ H ⟨w, env, e1, o, er, p⟩ => p
theorem zs_bad : PSs X rest (SI G W sBad) := pss_never.imp fun D σ H ⟨w, env, e1, o, er, p⟩ => p
end

/-! ### targets -/
abbrev Tg := D → Env → Option Env
abbrev Tgs := List D → Env → Option Env
def gI (G : CT) (t : Tg) : TG := fun v σ H Q => ∃ (w : Wd) (env : Env) (d : D), w.H = H ∧ Ok G w ∧ EnvR G w env σ ∧ Rl G w d v ∧ ∃ env', t d env = some env' ∧ ∀ σ', EnvR G w env' σ' → Q σ' H
def gsI (G : CT) (t : Tgs) : TGs := fun vs σ H Q => ∃ (w : Wd) (env : Env) (ds : List D), w.H = H ∧ Ok G w ∧ EnvR G w env σ ∧ Rls G w ds vs ∧ ∃ env', t ds env = some env' ∧ ∀ σ', EnvR G w env' σ' → Q σ' H
def gN (i : Nat) : Tg := fun d env => some (env.set i (some d))
def gT (n : Nat) (t : Tgs) : Tg := fun d env => match d with
  | .tup ds => if ds.length = n then t ds env else none
  | _ => none
def gNil : Tgs := fun ds env => match ds with
  | [] => some env
  | _ => none
def gCons (t : Tg) (u : Tgs) : Tgs := fun ds env => match ds with
  | d :: r => (t d env).bind (u r)
  | [] => none
section
variable {X : Cx} {G : CT} {W : WX} {pos : Pos} {tg e : Expr} {es : List Expr} {t : Tg} {u : Tgs} {me : Ev}
theorem PG.imp {t t' : TG} (h : PG X tg t) (k : ∀ v σ H Q, t' v σ H Q → t v σ H Q) : PG X tg t' := ⟨fun pins s σ H v u Q I r q => h.run pins s σ H v u Q I r (k v σ H Q q)⟩
theorem PGs.imp {t t' : TGs} (h : PGs X es t) (k : ∀ v σ H Q, t' v σ H Q → t v σ H Q) : PGs X es t' := ⟨fun pins s σ H v u Q I r q => h.run pins s σ H v u Q I r (k v σ H Q q)⟩
theorem g_name {i : Nat} {x : Str} (hN : X.N.Nodup) (hi : X.N[i]? = some x) (hx : Loc X.env.scope x) (hf : X.fn x = true ∨ X.env.scope.names.lookup x = some .local := by first | exact .inl rfl | exact .inr rfl | assumption) : PG X (.Name x pos) (gI G (gN i)) :=
  PG.imp (pg_name hN hi hx hf) fun v σ H Q ⟨w, env, d, e, o, er, r, env', q, k⟩ => by
    cases q
    exact k _ (er.set i r)
theorem g_nil : PGs X [] (gsI G gNil) := PGs.imp pgs_nil fun vs σ H Q ⟨w, env, ds, e, o, er, r, env', q, k⟩ => by
  cases ds with
  | nil =>
    cases q
    exact ⟨r, k σ er⟩
  | cons d ds => cases q
theorem g_cons (h1 : PG X e (gI G t)) (h2 : PGs X es (gsI G u)) (hs : (assignEach (e :: es) X.env).map (·.2) = assign e X.env :: (assignEach es X.env).map (·.2) := by rfl) : PGs X (e :: es) (gsI G (gCons t u)) := PGs.imp (pgs_cons h1 h2 hs) fun vs σ H Q ⟨w, env, ds, e, o, er, r, env', q, k⟩ => by
  cases ds with
  | nil => cases q
  | cons d ds =>
    obtain ⟨x, xs, rfl, r1, r2⟩ := r
    unfold gCons at q
    dsimp only at q
    cases q1 : t d env with
    | none => rw [q1] at q; cases q
    | some env1 =>
      rw [q1] at q
      exact ⟨x, xs, rfl, w, env, d, e, o, er, r1, env1, q1, fun σ1 er1 => ⟨w, env1, ds, e, o, er1, r2, env', q, k⟩⟩
theorem g_tup {k n : Nat} (hK : X.K = G.K) (hc : X.calm = true) (h : PGs X es (gsI G u)) (hn : (assignEach es X.env).length = n := by rfl) (hst : (assignEach es X.env).findIdx? (·.1) = none := by rfl) : PG X (.Tuple es k pos) (gI G (gT n u)) :=
  PG.imp (pg_tup hc h hn hst) fun v σ H Q ⟨w, env, d, e, o, er, r, env', q, kk⟩ => by
    unfold gT at q
    split at q
    · split at q
      · rename_i ds hl
        obtain ⟨a, xs, rfl, s, rs⟩ := r
        subst e
        exact ⟨a, xs, rfl, by rw [hK]; exact s.sq, by rw [rs.length]; exact hl, w, env, ds, rfl, o, er, rs, env', q, kk⟩
      · cases q
    · cases q
def sAsg (t : Tg) (m : Ev) : Sv := fun env st => (m env st).andS env fun d s => match t d env with
  | some env' => .nx env' s
  | none => .bad
theorem z_asg (he : PE X e (EI G W me)) (hg : PG X tg (gI G t)) (hs : swapsWithSole [tg] e pos.line X.env = pure false := by rfl) (hw : swappedStores [tg] e X.env = pure none := by rfl) (h1 : (assignEach [tg] X.env).map (·.2) = [assign tg X.env] := by rfl) : PS X (.Assign [tg] e pos) (SI G W (sAsg t me)) := (ps_asg he hg hs hw h1).imp fun D σ H ⟨w, env, e1, o, er, p⟩ =>
  ⟨w, env, e1, o, er, PostS.bind er p fun w1 d v o1 l1 r1 p1 => by
    split at p1
    · rename_i env' q
      exact ⟨w1, env, d, rfl, o1, er.mono l1, r1, env', q, fun σ' er' => p1.toNx o1 er'⟩
    · exact p1.elim⟩
/-- o[i] = v, a list's item -/
def sSetIx (o i m : Ev) : Sv := fun env st => (m env st).andS env fun d s => (o env s).andS env fun x s1 => (i env s1).andS env fun k s2 => match cellL x s2, k with
  | some (j, es), .int k => match ixN es.length k with
    | some n => .nx env (s2.set j (.lst (es.set n d)))
    | none => .bad
  | _, _ => .bad
variable {ob ix : Expr} {mo mi : Ev}
theorem z_setIx {sp : Pos} (he : PE X e (EI G W me)) (ho : PE X ob (EI G W mo)) (hi : PE X ix (EI G W mi)) (hs : swapsWithSole [.Subscript ob ix sp] e pos.line X.env = pure false := by rfl) (hw : swappedStores [.Subscript ob ix sp] e X.env = pure none := by rfl)
    (hg : PG X (.Subscript ob ix sp) (gSub (EI G W mo) (EI G W mi) rSetL)) : PS X (.Assign [.Subscript ob ix sp] e pos) (SI G W (sSetIx mo mi me)) := (ps_asg he hg hs hw).imp fun D σ H ⟨w, env, e1, o, er, p⟩ =>
  ⟨w, env, e1, o, er, PostS.bind er p fun w1 d v o1 l1 r1 p1 => ⟨w1, env, rfl, o1, er.mono l1, PostS.bind (er.mono l1) p1 fun w2 x y o2 l2 r2 p2 => ⟨w2, env, rfl, o2, (er.mono l1).mono l2, PostS.bind ((er.mono l1).mono l2) p2 fun w3 k z o3 l3 r3 p3 => by
    split at p3
    · split at p3
      · rename_i j es k hc _ n hn
        obtain ⟨a, xs, rfl, h1, h2, h3, h4⟩ := cellL_at o3 hc (r2.mono l3)
        refine ⟨a, xs, k, n, rfl, r3, h3, by rw [h4.length]; exact hn, ?_⟩
        obtain ⟨w', e1', e2', o', l'⟩ := set_lst (es := es.set n d) o3 h1 h2 (h4.set n (r1.mono (l2.trans l3)))
        rw [← e1']
        exact p3 w' σ e2' o' l' (er.mono (l1.trans (l2.trans (l3.trans l'))))
      · exact p3.elim
    · exact p3.elim⟩⟩⟩
/-- name op= e -/
def sAug (f : D → D → Sto → Res D) (i : Nat) (m : Ev) : Sv := fun env st => match env[i]? with
  | some (some x) => (m env st).andS env fun y s => (f x y s).andS env fun z s1 => .nx (env.set i (some z)) s1
  | _ => .bad
theorem z_aug {op : Operator} {f : D → D → Sto → Res D} {r : R2} {i : Nat} {x : Str} {pos' : Pos} (ho : OpR X (inplaceOp op) r) (hf : OpF G f r) (hN : X.N.Nodup) (hi : X.N[i]? = some x) (hx : Loc X.env.scope x) (he : PE X e (EI G W me))
    (hfn : X.fn x = true ∨ X.env.scope.names.lookup x = some .local := by first | exact .inl rfl | exact .inr rfl | assumption) : PS X (.AugAssign (.Name x pos') op e pos) (SI G W (sAug f i me)) :=
  (ps_aug (ti := r) hN hi hx he (fun pins s σ H x y v u Q I rx ry h => ho pins s σ H x y v u Q I rx ry h) hfn).imp fun D σ H ⟨w, env, e1, o, er, p⟩ => by
    unfold sAug at p
    split at p
    · rename_i d hd
      obtain ⟨v, e2, r0⟩ := er.at_ i d hd
      exact ⟨v, e2, w, env, e1, o, er, PostS.bind er p fun w1 y u o1 l1 r1 p1 => hf W σ w1 v u d y _ o1 (r0.mono l1) r1 (PostS.bind (er.mono l1) p1 fun w2 z v' o2 l2 r2 p2 => p2.toNx o2 (((er.mono l1).mono l2).set i r2))⟩
    · exact p.elim
end

/-! ### self.f = e -/
def setFld (k : Nat) (d : D) (x : D) (st : Sto) : Option Sto := match x with
  | .ref i => match st[i]? with
    | some (.ins c ds) => if k = ds.length then some (st.set i (.ins c (ds ++ [d]))) else if k < ds.length then some (st.set i (.ins c (ds.set k d))) else none
    | _ => none
  | _ => none
def sFldF (ixf : Nat → Option Nat) (o m : Ev) : Sv := fun env st => (m env st).andS env fun d s => (o env s).andS env fun x s1 => match clsOf x s1 with
  | some c => match ixf c with
    | some k => match setFld k d x s1 with
      | some s2 => .nx env s2
      | none => .bad
    | none => .bad
  | none => .bad
section
variable {G : CT}
theorem putF_new {f : Str} {v : V} : ∀ {fs : List (Str × V)}, f ∉ fs.map (·.1) → putF f v fs = fs ++ [(f, v)]
  | [], _ => rfl
  | (g, x) :: r, h => by
    rw [List.map_cons, List.mem_cons, not_or] at h
    show (if g = f then (g, v) :: r else (g, x) :: putF f v r) = _
    rw [if_neg (Ne.symm h.1), putF_new h.2]
    rfl
theorem putF_old {f : Str} {v : V} : ∀ {fs : List (Str × V)} {k : Nat}, (fs.map (·.1)).Nodup → (fs.map (·.1))[k]? = some f → (putF f v fs).map (·.1) = fs.map (·.1) ∧ (putF f v fs).map (·.2) = (fs.map (·.2)).set k v
  | [], k, _, h => by simp at h
  | (g, x) :: r, 0, _, h => by
    have e : g = f := by simpa using h
    subst e
    show (if g = g then (g, v) :: r else (g, x) :: putF g v r).map _ = _ ∧ (if g = g then (g, v) :: r else (g, x) :: putF g v r).map _ = _
    rw [if_pos rfl]
    exact ⟨rfl, rfl⟩
  | (g, x) :: r, k + 1, nd, h => by
    rw [List.map_cons, List.nodup_cons] at nd
    have h' : (r.map (·.1))[k]? = some f := by simpa using h
    have ne : ¬ g = f := fun e => nd.1 (by rw [show (g, x).1 = f from e]; exact List.mem_of_getElem? h')
    obtain ⟨h1, h2⟩ := putF_old (v := v) nd.2 h'
    show (if g = f then (g, v) :: r else (g, x) :: putF f v r).map _ = _ ∧ (if g = f then (g, v) :: r else (g, x) :: putF f v r).map _ = _
    rw [if_neg ne]
    constructor
    · rw [List.map_cons, List.map_cons, h1]
    · rw [List.map_cons, List.map_cons, h2]
      rfl
theorem take_succ_get {α : Type} {l : List α} {n : Nat} {x : α} (h : l[n]? = some x) : l.take (n + 1) = l.take n ++ [x] := by
  rw [List.take_succ, h]
  rfl
theorem setFld_ok {w : Wd} (o : Ok G w) {x : D} {v y : V} {d : D} {c k : Nat} {s2 : Sto} {f : Str} (hc : clsOf x w.st = some c) (F : FldF G c f k) (hlen : (G.fld c).length ≤ 900) (hs : setFld k d x w.st = some s2) (rx : Rl G w x v) (ry : Rl G w d y) :
    ∃ a dx fs, v = .ref a ∧ w.H a = some (.ins (G.cls c) dx fs) ∧ fs.length < 1000 ∧ ∃ w', w'.H = upd w.H a (.ins (G.cls c) dx (putF f y fs)) ∧ w'.st = s2 ∧ Ok G w' ∧ Le w w' := by
  unfold setFld at hs
  split at hs
  · rename_i i
    split at hs
    · rename_i c' ds hst
      have ec : c' = c := by
        have q : (match w.st[i]? with | some (.ins c _) => some c | _ => none) = some c := hc
        rw [hst] at q
        exact Option.some.inj q
      subst ec
      obtain ⟨a, e, q⟩ := rx
      obtain ⟨dx, fs, h1, h2, h3⟩ := o.cell i _ a hst e
      have hl : fs.length = ds.length := by
        have z := h3.length
        rw [List.length_map] at z
        exact z
      have hk : k < (G.fld c').length := (List.getElem?_eq_some_iff.mp F.at_).1
      have nd : (fs.map (·.1)).Nodup := by rw [h2]; exact F.nd.sublist (List.take_sublist _ _)
      have hle : ds.length ≤ (G.fld c').length := by
        have z := congrArg List.length h2
        rw [List.length_map, List.length_take] at z
        omega
      split at hs
      · rename_i hk1
        cases hs
        have nf : f ∉ fs.map (·.1) := by
          rw [h2]
          intro z
          obtain ⟨j, hj, ej⟩ := List.getElem_of_mem z
          have hj2 : j < k := by
            rw [List.length_take] at hj
            omega
          have e3 : (G.fld c')[j]? = some f := by
            rw [← List.getElem?_take_of_lt (show j < ds.length by omega), List.getElem?_eq_getElem hj, ej]
          have := nd_ix F.nd e3 F.at_
          omega
        have l : Le w ⟨w.ρ, w.st.set i (.ins c' (ds ++ [d])), upd w.H a (.ins (G.cls c') dx (putF f y fs)), w.hid⟩ := le_set o hst rfl e
        refine ⟨a, dx, fs, q, h1, by omega, _, rfl, rfl, ok_set (c' := .ins c' (ds ++ [d])) o hst rfl e ⟨dx, putF f y fs, upd_same, ?_, ?_⟩, l⟩
        · rw [putF_new nf, List.map_append, h2, List.length_append, List.length_singleton, ← hk1, take_succ_get F.at_]
          rfl
        · have z := (h3.append (.one ry)).mono l
          rw [show (putF f y fs).map (·.2) = fs.map (·.2) ++ [y] by rw [putF_new nf, List.map_append]; rfl]
          exact z
      · split at hs
        · rename_i hk1 hk2
          cases hs
          have at1 : (fs.map (·.1))[k]? = some f := by
            rw [h2, List.getElem?_take_of_lt hk2]
            exact F.at_
          obtain ⟨p1, p2⟩ := putF_old (v := y) nd at1
          have l : Le w ⟨w.ρ, w.st.set i (.ins c' (ds.set k d)), upd w.H a (.ins (G.cls c') dx (putF f y fs)), w.hid⟩ := le_set o hst rfl e
          refine ⟨a, dx, fs, q, h1, by omega, _, rfl, rfl, ok_set (c' := .ins c' (ds.set k d)) o hst rfl e ⟨dx, putF f y fs, upd_same, ?_, ?_⟩, l⟩
          · rw [p1, h2, List.length_set]
          · rw [p2]
            exact (h3.set k ry).mono l
        · cases hs
    · cases hs
  · cases hs
variable {X : Cx} {W : WX} {pos : Pos} {e ob : Expr} {me mo : Ev} {name : Str}
theorem z_fld {ixf : Nat → Option Nat} {pos' : Pos} (L : Lay X G W) (ho : PE X ob (EI G W mo)) (he : PE X e (EI G W me)) (hx : ∀ c k, ixf c = some k → FldF G c name k ∧ (G.fld c).length ≤ 900) (hs : swapsWith e (some (.Attribute ob name pos')) pos.line X.env = pure false := by rfl) : PS X (.Assign [.Attribute ob name pos'] e pos) (SI G W (sFldF ixf mo me)) :=
  (ps_fld ho he hs).imp fun D σ H ⟨w, env, e1, o, er, p⟩ => ⟨w, env, e1, o, er, PostS.bind er p fun w1 d y o1 l1 r1 p1 => ⟨w1, env, rfl, o1, er.mono l1, PostS.bind (er.mono l1) p1 fun w2 x v o2 l2 r2 p2 => by
    split at p2
    · rename_i c hc
      split at p2
      · rename_i k hk
        split at p2
        · rename_i s2 hs2
          obtain ⟨F, hl⟩ := hx c k hk
          obtain ⟨a, dx, fs, rfl, h1, h2, w', q1, q2, o', l'⟩ := setFld_ok o2 hc F hl hs2 r2 (r1.mono l2)
          refine ⟨a, G.cls c, dx, fs, rfl, h1, by rw [L.K]; exact F.cl, by rw [L.K]; exact F.no, h2, ?_⟩
          rw [← q1]
          exact p2 w' σ q2 o' l' (er.mono (l1.trans (l2.trans l')))
        · exact p2.elim
      · exact p2.elim
    · exact p2.elim⟩⟩
end
end F
/-! for, while, comprehensions as functions. -/
namespace F
open PySem PySem.Spec PyProof.Rows L2

/-- the iterator J serves the items ds, from the world w₀ on -/
def Serves (G : CT) (w₀ : Wd) (ds : List D) (J : It) : Prop := ∀ w : Wd, Ok G w → Lw w₀ w →
  (∀ (i : Nat) (d : D), ds[i]? = some d → J.go i w.H ∧ ∀ x H', J.yld i w.H x H' → ∃ w', w'.H = H' ∧ w'.st = w.st ∧ Ok G w' ∧ Le w w' ∧ Rl G w' d x) ∧ J.stop ds.length w.H
abbrev Wv := Env → Sto → Res (List D)
abbrev WI (G : CT) (W : WX) (m : Wv) : TI := RI G W (Serves G) m
/-- a live list: its items are looked up turn by turn -/
def Serves1 (G : CT) (w₀ : Wd) (d : D) (J : It) : Prop := ∀ w : Wd, Ok G w → Lw w₀ w → ∀ ds, asL d w.st = some ds →
  (∀ (i : Nat) (d : D), ds[i]? = some d → J.go i w.H ∧ ∀ x H', J.yld i w.H x H' → ∃ w', w'.H = H' ∧ w'.st = w.st ∧ Ok G w' ∧ Le w w' ∧ Rl G w' d x) ∧ ∀ i, ds.length ≤ i → J.stop i w.H
abbrev WI1 (G : CT) (W : WX) (m : Ev) : TI := RI G W (Serves1 G) m

def loop (t : Tg) (body : Sv) : List D → Env → Sto → Out
  | [], env, st => .nx env st
  | d :: ds, env, st => match t d env with
    | none => .bad
    | some env1 => match body env1 st with
      | .nx e s => loop t body ds e s
      | .ct e s => loop t body ds e s
      | .bk e s => .nx e s
      | .rt d s => .rt d s
      | .ex c es e s => .ex c es e s
      | .bad => .bad
def sFor (wi : Wv) (t : Tg) (body : Sv) : Sv := fun env st => (wi env st).andS env fun ds s => loop t body ds env s
/-- over a list that the body may change; n: turns at most -/
def loopC (l : D) (t : Tg) (body : Sv) : Nat → Nat → Env → Sto → Out
  | 0, i, env, st => match asL l st with
    | some ds => if ds.length ≤ i then .nx env st else .bad
    | none => .bad
  | n + 1, i, env, st => match asL l st with
    | none => .bad
    | some ds => match ds[i]? with
      | none => .nx env st
      | some d => match t d env with
        | none => .bad
        | some env1 => match body env1 st with
          | .nx e s => loopC l t body n (i + 1) e s
          | .ct e s => loopC l t body n (i + 1) e s
          | .bk e s => .nx e s
          | .rt d s => .rt d s
          | .ex c es e s => .ex c es e s
          | .bad => .bad
def sForC (n : Nat) (m : Ev) (t : Tg) (body : Sv) : Sv := fun env st => (m env st).andS env fun d s => loopC d t body n 0 env s
def whileF (t : Tv) (body : Sv) : Nat → Env → Sto → Out
  | 0, _, _ => .bad
  | n + 1, env, st => (t env st).andS env fun k s => if k = true then match body env s with
    | .nx e s => whileF t body n e s
    | .ct e s => whileF t body n e s
    | .bk e s => .nx e s
    | .rt d s => .rt d s
    | .ex c es e s => .ex c es e s
    | .bad => .bad else .nx env s
def sWhile (n : Nat) (t : Tv) (body : Sv) : Sv := fun env st => whileF t body n env st
section
variable {X : Cx} {G : CT} {W : WX} {pos : Pos} {tg it c : Expr} {sb : List Stmt} {wi : Wv} {t : Tg} {body : Sv} {tc : Tv} {m : Ev}
theorem body_of {D : Ends} {w : Wd} {o : Out} {f : Env → Sto → Out} {N : L2.St → Hp → Prop}
    (h : PostS G W w (match o with | .nx e s => f e s | .ct e s => f e s | .bk e s => .nx e s | .rt d s => .rt d s | .ex c es e s => .ex c es e s | .bad => .bad) D)
    (k : ∀ (w' : Wd) (e : Env) (σ : L2.St), Ok G w' → Le w w' → EnvR G w' e σ → PostS G W w' (f e w'.st) D → N σ w'.H) : PostS G W w o { D with nx := N, ct := N, bk := D.nx } := by
  cases o with
  | nx e s => exact fun w' σ e' o' l' r' => k w' e σ o' l' r' (by subst e'; exact PostS.mono l' h)
  | ct e s => exact fun w' σ e' o' l' r' => k w' e σ o' l' r' (by subst e'; exact PostS.mono l' h)
  | bk e s => exact h
  | rt d s => exact h
  | ex c es e s => exact h
  | bad => exact h
theorem z_for (hp : PassesOwn (model X.prog X.w) X.A X.env X.xe) (hc : X.calm = true) (hi : PI X tg it (WI G W wi)) (hg : PG X tg (gI G t)) (hb : PSs X sb (SI G W body)) (hs : ∀ x, foldedSetIterable it X.env x = pure x := by intro _; rfl) :
    PS X (.For tg it sb [] pos) (SI G W (sFor wi t body)) := (ps_for hp hc hi hg hb hs).imp fun D σ H ⟨w, env, e1, o, er, p⟩ =>
  ⟨w, env, e1, o, er, PostS.bind er p fun w0 ds J o0 l0 sv p0 => by
    refine ⟨fun i n σ H => n = ds.length - i ∧ i ≤ ds.length ∧ ∃ w env, w.H = H ∧ Ok G w ∧ Le w0 w ∧ EnvR G w env σ ∧ PostS G W w (loop t body (ds.drop i) env w.st) D, ⟨_, rfl, Nat.zero_le _, w0, env, rfl, o0, Le.refl _, er.mono l0, p0⟩, ?_⟩
    rintro i n σ1 H1 ⟨rfl, hi, w1, env1, rfl, o1, l1, er1, p1⟩
    obtain ⟨s1, s2⟩ := sv w1 o1 l1.toLw
    by_cases hlt : i < ds.length
    · obtain ⟨g1, g2⟩ := s1 i ds[i] (List.getElem?_eq_getElem hlt)
      refine .inr ⟨g1, fun σ' H' => (ds.length - (i + 1)) = ds.length - (i + 1) ∧ i + 1 ≤ ds.length ∧ ∃ w env, w.H = H' ∧ Ok G w ∧ Le w0 w ∧ EnvR G w env σ' ∧ PostS G W w (loop t body (ds.drop (i + 1)) env w.st) D, fun σ' H' q => ⟨_, by omega, q⟩, fun x H' y => ?_⟩
      obtain ⟨w2, rfl, e2, o2, l2, r2⟩ := g2 x H' y
      rw [List.drop_eq_getElem_cons hlt] at p1
      unfold loop at p1
      split at p1
      · exact p1.elim
      · rename_i env2 ht
        refine ⟨w2, env1, ds[i], rfl, o2, er1.mono l2, r2, env2, ht, fun σ2 er2 => ⟨w2, env2, rfl, o2, er2, ?_⟩⟩
        have p2 := PostS.mono l2 p1
        rw [← e2] at p2
        exact body_of (f := fun e s => loop t body (ds.drop (i + 1)) e s) p2 fun w3 e3 σ3 o3 l3 r3 p3 => ⟨rfl, hlt, w3, e3, rfl, o3, l1.trans (l2.trans l3), r3, p3⟩
    · have e : i = ds.length := by omega
      subst e
      rw [List.drop_length] at p1
      exact .inl ⟨s2, p1.toNx o1 er1⟩⟩
theorem z_forC (n : Nat) (hp : PassesOwn (model X.prog X.w) X.A X.env X.xe) (hc : X.calm = true) (hi : PI X tg it (WI1 G W m)) (hg : PG X tg (gI G t)) (hb : PSs X sb (SI G W body)) (hs : ∀ x, foldedSetIterable it X.env x = pure x := by intro _; rfl) :
    PS X (.For tg it sb [] pos) (SI G W (sForC n m t body)) := (ps_for hp hc hi hg hb hs).imp fun D σ H ⟨w, env, e1, o, er, p⟩ =>
  ⟨w, env, e1, o, er, PostS.bind er p fun w0 d J o0 l0 sv p0 => by
    refine ⟨fun i n σ H => ∃ w env, w.H = H ∧ Ok G w ∧ Le w0 w ∧ EnvR G w env σ ∧ PostS G W w (loopC d t body n i env w.st) D, ⟨_, w0, env, rfl, o0, Le.refl _, er.mono l0, p0⟩, ?_⟩
    rintro i n σ1 H1 ⟨w1, env1, rfl, o1, l1, er1, p1⟩
    cases n with
    | zero =>
      unfold loopC at p1
      split at p1
      · split at p1
        · rename_i ds hd hl
          exact .inl ⟨(sv w1 o1 l1.toLw ds hd).2 i hl, p1.toNx o1 er1⟩
        · exact p1.elim
      · exact p1.elim
    | succ n =>
      unfold loopC at p1
      split at p1
      · exact p1.elim
      · rename_i ds hd
        obtain ⟨s1, s2⟩ := sv w1 o1 l1.toLw ds hd
        split at p1
        · rename_i hn
          exact .inl ⟨s2 i (List.getElem?_eq_none_iff.mp hn), p1.toNx o1 er1⟩
        · rename_i y hy
          obtain ⟨g1, g2⟩ := s1 i y hy
          split at p1
          · exact p1.elim
          · rename_i env2 ht
            refine .inr ⟨g1, fun σ' H' => ∃ w env, w.H = H' ∧ Ok G w ∧ Le w0 w ∧ EnvR G w env σ' ∧ PostS G W w (loopC d t body n (i + 1) env w.st) D, fun σ' H' q => ⟨n, Nat.lt_succ_self _, q⟩, fun x H' yy => ?_⟩
            obtain ⟨w2, rfl, e2, o2, l2, r2⟩ := g2 x H' yy
            refine ⟨w2, env1, y, rfl, o2, er1.mono l2, r2, env2, ht, fun σ2 er2 => ⟨w2, env2, rfl, o2, er2, ?_⟩⟩
            have p2 := PostS.mono l2 p1
            rw [← e2] at p2
            exact body_of (f := fun e s => loopC d t body n (i + 1) e s) p2 fun w3 e3 σ3 o3 l3 r3 p3 => ⟨w3, e3, rfl, o3, l1.trans (l2.trans l3), r3, p3⟩⟩
theorem z_while (n : Nat) (hp : PassesOwn (model X.prog X.w) X.A X.env X.xe) (hc : PT X c (TsI G W tc)) (hb : PSs X sb (SI G W body)) : PS X (.While c sb [] pos) (SI G W (sWhile n tc body)) := (ps_while hp hc hb).imp fun D σ H ⟨w, env, e1, o, er, p⟩ => by
  refine ⟨fun n σ H => ∃ w env, w.H = H ∧ Ok G w ∧ EnvR G w env σ ∧ PostS G W w (whileF tc body n env w.st) D, ⟨n, w, env, e1, o, er, p⟩, ?_⟩
  rintro n σ1 H1 ⟨w1, env1, rfl, o1, er1, p1⟩
  cases n with
  | zero => exact p1.elim
  | succ n =>
    refine ⟨w1, env1, rfl, o1, er1, PostS.bind er1 p1 fun w2 k b o2 l2 r2 p2 => ?_⟩
    have r2' : k = b := r2
    subst r2'
    cases k with
    | true =>
      refine ⟨fun σ' H' => ∃ w env, w.H = H' ∧ Ok G w ∧ EnvR G w env σ' ∧ PostS G W w (whileF tc body n env w.st) D, fun σ' H' q => ⟨n, Nat.lt_succ_self _, q⟩, w2, env1, rfl, o2, er1.mono l2, ?_⟩
      exact body_of (f := fun e s => whileF tc body n e s) p2 fun w3 e3 σ3 o3 l3 r3 p3 => ⟨w3, e3, rfl, o3, r3, p3⟩
    | false => exact p2.toNx o2 (er1.mono l2)

/-! ### what is walked -/
/-- the items of a pure list, a tuple, a text -/
def itemsD (d : D) : Option (List D) := match d with
  | .lst ds => some ds
  | .rol ds => some ds
  | .tup ds => some ds
  | .str s => some (s.map fun c => .str [c])
  | _ => none
def wAny (m : Ev) : Wv := fun env st => (m env st).bind fun d s => match itemsD d with
  | some ds => .ok ds s
  | none => .bad
theorem serves_list {w0 : Wd} {a : Addr} {xs : List V} {ds : List D} (h : SqLn G w0 a xs) (r : Rls G w0 ds xs) : Serves G w0 ds (Itl G.K a) := fun w o l => by
  have s := (h.monoW l).sq
  have q := r.monoW l
  refine ⟨fun i d e => ?_, xs, s, by rw [q.length]; exact Nat.le_refl _⟩
  obtain ⟨x, ex, rx⟩ := q.get e
  refine ⟨⟨xs, x, s, ex⟩, fun y H' hy => ?_⟩
  obtain ⟨rfl, hy⟩ := hy
  have e2 := hy xs s
  rw [ex] at e2
  cases e2
  exact ⟨w, rfl, rfl, o, Le.refl _, rx⟩
theorem serves_tup {w0 : Wd} {a : Addr} {xs : List V} {ds : List D} (h : SqTn G w0 a xs) (r : Rls G w0 ds xs) : Serves G w0 ds (Itt G.K a) := fun w o l => by
  have s := (h.monoW l).sq
  have q := r.monoW l
  refine ⟨fun i d e => ?_, xs, s, by rw [q.length]; exact Nat.le_refl _⟩
  obtain ⟨x, ex, rx⟩ := q.get e
  refine ⟨⟨xs, x, s, ex⟩, fun y H' hy => ?_⟩
  obtain ⟨rfl, hy⟩ := hy
  have e2 := hy xs s
  rw [ex] at e2
  cases e2
  exact ⟨w, rfl, rfl, o, Le.refl _, rx⟩
theorem serves_str {w0 : Wd} {s : List Nat} : Serves G w0 (s.map fun c => .str [c]) (Its ⟨s.toArray⟩) := fun w o l => by
  refine ⟨fun i d e => ?_, by show (s.toArray.size : Nat) ≤ _; simp⟩
  rw [List.getElem?_map] at e
  cases q : s[i]? with
  | none => rw [q] at e; cases e
  | some c =>
    rw [q] at e
    cases e
    have hl := (List.getElem?_eq_some_iff.mp q).1
    refine ⟨by show i < s.toArray.size; simpa using hl, fun y H' hy => ?_⟩
    obtain ⟨rfl, c', e1, rfl⟩ := hy
    have e2 : s[i]? = some c' := by simpa using e1
    rw [q] at e2
    cases e2
    exact ⟨w, rfl, rfl, o, Le.refl _, rfl⟩
theorem w_any (L : Lay X G W) (h : PE X it (EI G W m)) : PI X tg it (WI G W (wAny m)) := ((pi_list h).or ((pi_tup h).or (pi_str h))).imp fun σ H Q ⟨w, env, e1, o, er, p⟩ => by
  cases q : m env w.st with
  | bad =>
    unfold wAny at p
    rw [q] at p
    exact p.elim
  | ex c es s =>
    refine .inl ⟨w, env, e1, o, er, ?_⟩
    unfold wAny at p
    rw [q] at p ⊢
    exact p
  | ok d s =>
    unfold wAny at p
    rw [q] at p
    have p' : Post G W (Serves G) σ w (match itemsD d with | some ds => .ok ds s | none => .bad) Q := p
    cases d with
    | lst ds =>
      refine .inl ⟨w, env, e1, o, er, ?_⟩
      rw [q]
      refine fun w' v e' o' l' r' => ?_
      obtain ⟨a, xs, rfl, sq, rs⟩ := r'
      exact ⟨a, rfl, ⟨xs, SqL.of sq.1⟩, by rw [L.K]; exact p' w' _ e' o' l' (serves_list (.inl ⟨.inl sq.1, sq.2⟩) rs)⟩
    | rol ds =>
      refine .inl ⟨w, env, e1, o, er, ?_⟩
      rw [q]
      refine fun w' v e' o' l' r' => ?_
      obtain ⟨a, xs, rfl, sq, rs⟩ := r'
      exact ⟨a, rfl, ⟨xs, by rw [L.K]; exact sq.sq⟩, by rw [L.K]; exact p' w' _ e' o' l' (serves_list sq rs)⟩
    | tup ds =>
      refine .inr (.inl ⟨w, env, e1, o, er, ?_⟩)
      rw [q]
      refine fun w' v e' o' l' r' => ?_
      obtain ⟨a, xs, rfl, sq, rs⟩ := r'
      exact ⟨a, rfl, ⟨xs, by rw [L.K]; exact sq.sq⟩, by rw [L.K]; exact p' w' _ e' o' l' (serves_tup sq rs)⟩
    | str z =>
      refine .inr (.inr ⟨w, env, e1, o, er, ?_⟩)
      rw [q]
      exact fun w' v e' o' l' r' => ⟨_, r', p' w' _ e' o' l' serves_str⟩
    | _ => exact p'.elim
theorem w_cell (L : Lay X G W) (h : PE X it (EI G W m)) (hl : ∀ env st d s, m env st = .ok d s → (asL d s).isSome = true ∨ True) : PI X tg it (WI1 G W fun env st => (m env st).bind fun d s => if (asL d s).isSome = true then .ok d s else .bad) := (pi_list h).imp fun σ H Q ⟨w, env, e1, o, er, p⟩ =>
  ⟨w, env, e1, o, er, p.bind fun w1 d x o1 l1 r1 p1 => by
    split at p1
    · rename_i hs
      cases e : asL d w1.st with
      | none => rw [e] at hs; cases hs
      | some ds0 =>
        obtain ⟨a, xs, rfl, s, q⟩ := asL_sq o1 e r1
        refine ⟨a, rfl, ⟨xs, by rw [L.K]; exact s⟩, ?_⟩
        rw [L.K]
        refine p1.ok o1 (b := Itl G.K a) fun w2 o2 l2 ds hd => ?_
        obtain ⟨b, ys, eb, s2, q2⟩ := asL_sq o2 hd (r1.monoW l2)
        cases eb
        refine ⟨fun i y ey => ?_, fun i hi => ⟨ys, s2, by rw [q2.length]; exact hi⟩⟩
        obtain ⟨x, ex, rx⟩ := q2.get ey
        refine ⟨⟨ys, x, s2, ex⟩, fun y' H' hy => ?_⟩
        obtain ⟨rfl, hy⟩ := hy
        have e2 := hy ys s2
        rw [ex] at e2
        cases e2
        exact ⟨w2, rfl, rfl, o2, Le.refl _, rx⟩
    · exact p1.elim⟩
end
/-! ### ranges -/
def rangeL (lo hi : Int) : List D := (List.range (hi - lo).toNat).map fun i => .int (lo + (i : Nat))
noncomputable def wRange1 (a : Av) : Wv := fun env st => (a env st).bind fun ds s => match ds with
  | [.int j] => @ite _ (-(2 ^ 62) ≤ j ∧ j < 2 ^ 62) (Classical.propDecidable _) (.ok (rangeL 0 j) s) .bad
  | _ => .bad
noncomputable def wRange2 (a : Av) : Wv := fun env st => (a env st).bind fun ds s => match ds with
  | [.int i, .int j] => @ite _ (-(2 ^ 62) ≤ i ∧ i < 2 ^ 62 ∧ -(2 ^ 62) ≤ j ∧ j < 2 ^ 62) (Classical.propDecidable _) (.ok (rangeL i j) s) .bad
  | _ => .bad
/-- a range by steps: the number of its items, the items -/
def rangeN (i j c : Int) : Nat := (Builtin.Range.rangeSize i j c).toNat
def rangeC (i j c : Int) : List D := (List.range (rangeN i j c)).map fun k => .int (i + (k : Nat) * c)
noncomputable def wRange3 (a : Av) : Wv := fun env st => (a env st).bind fun ds s => match ds with
  | [.int i, .int j, .int c] => @ite _ (c ≠ 0 ∧ c.natAbs < 1073741824 ∧ Builtin.Range.small i j c = true ∧ Builtin.Range.rangeSize i j c = (rangeN i j c : Int)) (Classical.propDecidable _) (.ok (rangeC i j c) s) .bad
  | _ => .bad
section
variable {X : Cx} {G : CT} {W : WX} {pos p : Pos} {tg a b : Expr} {ma : Av}
theorem serves_range {w0 : Wd} {lo : Int} {n : Nat} : Serves G w0 ((List.range n).map fun i => .int (lo + (i : Nat))) (Itr lo n) := fun w o l => by
  refine ⟨fun i d e => ?_, by show n ≤ _; simp⟩
  rw [List.getElem?_map] at e
  cases q : (List.range n)[i]? with
  | none => rw [q] at e; cases e
  | some c =>
    rw [q] at e
    cases e
    have hl := (List.getElem?_eq_some_iff.mp q).1
    have ec : i = c := by
      rw [List.getElem?_range (by simpa using hl)] at q
      exact Option.some.inj q
    subst ec
    refine ⟨by show i < n; simpa using hl, fun y H' hy => ?_⟩
    obtain ⟨rfl, rfl⟩ := hy
    exact ⟨w, rfl, rfl, o, Le.refl _, rfl⟩
theorem w_range1 (hg : Gl X "range") (hm : X.mg "range" = none) (ha : PA X [a] (AI G W ma)) (hs : starEach [a] X.env = [(false, eval a X.env)] := by rfl) : PI X tg (.Call (.Name "range" p) [a] [] pos) (WI G W (wRange1 ma)) := (pi_range1 hg hm ha hs).imp fun σ H Q ⟨w, env, e1, o, er, pp⟩ =>
  ⟨w, env, e1, o, er, pp.bind fun w1 ds xs o1 l1 r1 p1 => by
    split at p1
    · split at p1
      · rename_i j h
        obtain ⟨x, rfl, rx⟩ := r1.one'
        refine ⟨j, by rw [show x = _ from rx], h.1, h.2, ?_⟩
        have e : (j - 0).toNat = j.toNat := by omega
        unfold rangeL at p1
        rw [e] at p1
        exact p1.ok o1 serves_range
      · exact p1.elim
    · exact p1.elim⟩
theorem w_range2 (hg : Gl X "range") (hm : X.mg "range" = none) (ha : PA X [a, b] (AI G W ma)) (hs : starEach [a, b] X.env = [(false, eval a X.env), (false, eval b X.env)] := by rfl) (hs2 : starEach [b] X.env = [(false, eval b X.env)] := by rfl) : PI X tg (.Call (.Name "range" p) [a, b] [] pos) (WI G W (wRange2 ma)) := (pi_range2 hg hm ha hs hs2).imp fun σ H Q ⟨w, env, e1, o, er, pp⟩ =>
  ⟨w, env, e1, o, er, pp.bind fun w1 ds xs o1 l1 r1 p1 => by
    split at p1
    · split at p1
      · rename_i i j h
        obtain ⟨x, y, rfl, rx, ry⟩ := r1.two'
        exact ⟨i, j, by rw [show x = _ from rx, show y = _ from ry], h, p1.ok o1 serves_range⟩
      · exact p1.elim
    · exact p1.elim⟩
theorem serves_rangeC {w0 : Wd} {lo c : Int} {n : Nat} : Serves G w0 ((List.range n).map fun i => .int (lo + (i : Nat) * c)) (Itc lo c n) := fun w o l => by
  refine ⟨fun i d e => ?_, by show n ≤ _; simp⟩
  rw [List.getElem?_map] at e
  cases q : (List.range n)[i]? with
  | none => rw [q] at e; cases e
  | some c =>
    rw [q] at e
    cases e
    have hl := (List.getElem?_eq_some_iff.mp q).1
    have ec : i = c := by
      rw [List.getElem?_range (by simpa using hl)] at q
      exact Option.some.inj q
    subst ec
    refine ⟨by show i < n; simpa using hl, fun y H' hy => ?_⟩
    obtain ⟨rfl, rfl⟩ := hy
    exact ⟨w, rfl, rfl, o, Le.refl _, rfl⟩
theorem Rls.three' {w : Wd} {d e f : D} {xs : List V} (h : Rls G w [d, e, f] xs) : ∃ x y z, xs = [x, y, z] ∧ Rl G w d x ∧ Rl G w e y ∧ Rl G w f z := by
  obtain ⟨x, r, rfl, h1, h2⟩ := h
  obtain ⟨y, z, rfl, h3, h4⟩ := h2.two'
  exact ⟨x, y, z, rfl, h1, h3, h4⟩
theorem w_range3 {c : Expr} (hg : Gl X "range") (hm : X.mg "range" = none) (ha : PA X [a, b, c] (AI G W ma)) (hs : starEach [a, b, c] X.env = (false, eval a X.env) :: starEach [b, c] X.env := by rfl) (hpl : (backTo pos (starEach [b, c] X.env)).any (·.1) = false := by rfl) : PI X tg (.Call (.Name "range" p) [a, b, c] [] pos) (WI G W (wRange3 ma)) := (pi_range3 hg hm ha hs hpl).imp fun σ H Q ⟨w, env, e1, o, er, pp⟩ =>
  ⟨w, env, e1, o, er, pp.bind fun w1 ds xs o1 l1 r1 p1 => by
    split at p1
    · split at p1
      · rename_i i j c h
        obtain ⟨x, y, z, rfl, rx, ry, rz⟩ := Rls.three' r1
        exact ⟨i, j, c, rangeN i j c, by rw [show x = _ from rx, show y = _ from ry, show z = _ from rz], ⟨h.1, h.2.1, h.2.2.1, h.2.2.2⟩, p1.ok o1 serves_rangeC⟩
      · exact p1.elim
    · exact p1.elim⟩
end
end F
/-! List comprehensions as functions. -/
namespace F
open PySem PySem.Spec PyProof.Rows L2

def Res.cut {α : Type} (r : Res α) : Res α := match r with
  | .ok a s => .ok a s
  | .ex _ _ _ => .bad
  | .bad => .bad
theorem cut_ok {α : Type} (a : α) (s : Sto) : (Res.ok a s).cut = .ok a s := rfl
theorem Post.bindC {α β α' β' : Type} {G : CT} {W W2 : WX} {R : Wd → α → β → Prop} {R' : Wd → α' → β' → Prop} {σ σ2 : L2.St} {w0 w : Wd} {r : Res α} {f : α → Sto → Res α'} {Q : β → Hp → Prop} {Q' : β' → Hp → Prop}
    (h : Post G W R' σ w0 (r.cut.bind f) Q') (k : ∀ (w' : Wd) (a : α) (b : β), Ok G w' → Le w w' → R w' a b → Post G W R' σ w0 (f a w'.st) Q' → Q b w'.H) : Post G W2 R σ2 w r Q := by
  cases r with
  | ok a s => exact fun w' b e o l q => k w' a b o l q (by subst e; exact h)
  | ex c ds s => exact h.elim
  | bad => exact h.elim

/-! ### wiped names -/
def wipeE (env : Env) : List Nat → Env
  | [] => env
  | v :: vs => (wipeE env vs).set v none
theorem wipeE_of {G : CT} {w : Wd} {env : Env} {σ : L2.St} (h : EnvR G w env σ) : ∀ vs : List Nat, EnvR G w (wipeE env vs) (wipe σ vs)
  | [] => h
  | v :: vs => (wipeE_of h vs).unset v
theorem wipe_in {σ : L2.St} {i : Nat} : ∀ {vs : List Nat}, i ∈ vs → (wipe σ vs)[i]? = if i < σ.length then some none else none
  | v :: vs, h => by
    unfold wipe
    by_cases e : v = i
    · subst e
      by_cases hl : v < σ.length
      · rw [if_pos hl, List.getElem?_set_self (by rw [wipe_length]; exact hl)]
      · rw [if_neg hl, List.getElem?_eq_none (by rw [List.length_set, wipe_length]; omega)]
    · rw [List.getElem?_set_ne e]
      exact wipe_in ((List.mem_cons.mp h).resolve_left (Ne.symm e))
theorem wipe_set {σ : L2.St} {i : Nat} {x : Option V} {vs : List Nat} (h : i ∈ vs) : wipe (σ.set i x) vs = wipe σ vs := by
  apply List.ext_getElem?
  intro j
  by_cases hj : j ∈ vs
  · rw [wipe_in hj, wipe_in hj, List.length_set]
  · rw [wipe_out hj, wipe_out hj, List.getElem?_set_ne (fun e : i = j => hj (e ▸ h))]

/-! ### targets of a comprehension -/
def gW (G : CT) (vs : List Nat) (t : Tg) : TG := fun v σ H Q => ∃ (w : Wd) (env : Env) (d : D), w.H = H ∧ Ok G w ∧ EnvR G w env σ ∧ Rl G w d v ∧ ∃ env', t d env = some env' ∧ ∀ σ', EnvR G w env' σ' → wipe σ' vs = wipe σ vs → Q σ' H
def gsW (G : CT) (vs : List Nat) (t : Tgs) : TGs := fun xs σ H Q => ∃ (w : Wd) (env : Env) (ds : List D), w.H = H ∧ Ok G w ∧ EnvR G w env σ ∧ Rls G w ds xs ∧ ∃ env', t ds env = some env' ∧ ∀ σ', EnvR G w env' σ' → wipe σ' vs = wipe σ vs → Q σ' H
section
variable {X : Cx} {G : CT} {W : WX} {pos : Pos} {tg e : Expr} {es : List Expr} {t : Tg} {u : Tgs} {vs : List Nat}
theorem h_name {i : Nat} {x : Str} (hN : X.N.Nodup) (hi : X.N[i]? = some x) (hx : Loc X.env.scope x) (hv : i ∈ vs := by decide) (hf : X.fn x = true ∨ X.env.scope.names.lookup x = some .local := by first | exact .inl rfl | exact .inr rfl | assumption) : PG X (.Name x pos) (gW G vs (gN i)) :=
  PG.imp (pg_name hN hi hx hf) fun v σ H Q ⟨w, env, d, e, o, er, r, env', q, k⟩ => by
    cases q
    exact k _ (er.set i r) (wipe_set hv)
theorem h_nil : PGs X [] (gsW G vs gNil) := PGs.imp pgs_nil fun xs σ H Q ⟨w, env, ds, e, o, er, r, env', q, k⟩ => by
  cases ds with
  | nil =>
    cases q
    exact ⟨r, k σ er rfl⟩
  | cons d ds => cases q
theorem h_cons (h1 : PG X e (gW G vs t)) (h2 : PGs X es (gsW G vs u)) (hs : (assignEach (e :: es) X.env).map (·.2) = assign e X.env :: (assignEach es X.env).map (·.2) := by rfl) : PGs X (e :: es) (gsW G vs (gCons t u)) := PGs.imp (pgs_cons h1 h2 hs) fun xs σ H Q ⟨w, env, ds, e, o, er, r, env', q, k⟩ => by
  cases ds with
  | nil => cases q
  | cons d ds =>
    obtain ⟨x, xs, rfl, r1, r2⟩ := r
    unfold gCons at q
    dsimp only at q
    cases q1 : t d env with
    | none => rw [q1] at q; cases q
    | some env1 =>
      rw [q1] at q
      exact ⟨x, xs, rfl, w, env, d, e, o, er, r1, env1, q1, fun σ1 er1 k1 => ⟨w, env1, ds, e, o, er1, r2, env', q, fun σ' er' k2 => k σ' er' (k2.trans k1)⟩⟩
theorem h_tup {k n : Nat} (hK : X.K = G.K) (hc : X.calm = true) (h : PGs X es (gsW G vs u)) (hn : (assignEach es X.env).length = n := by rfl) (hst : (assignEach es X.env).findIdx? (·.1) = none := by rfl) : PG X (.Tuple es k pos) (gW G vs (gT n u)) :=
  PG.imp (pg_tup hc h hn hst) fun v σ H Q ⟨w, env, d, e, o, er, r, env', q, kk⟩ => by
    unfold gT at q
    split at q
    · split at q
      · rename_i ds hl
        obtain ⟨a, xs, rfl, s, rs⟩ := r
        subst e
        exact ⟨a, xs, rfl, by rw [hK]; exact s.sq, by rw [rs.length]; exact hl, w, env, ds, rfl, o, er, rs, env', q, kk⟩
      · cases q
    · cases q
end

/-! ### the hidden list -/
section
variable {G : CT}
/-- hidden from here on -/
theorem hide_new {w : Wd} (o : Ok G w) {p : Addr} {H' : Hp} (n : w.H p = none) (k : ∀ a u, w.H a = some u → H' a = some u) (hp : ∃ u, H' p = some u) : Ok G ⟨w.ρ, w.st, H', p :: w.hid⟩ ∧ Lw w ⟨w.ρ, w.st, H', p :: w.hid⟩ := by
  have l : Lw w ⟨w.ρ, w.st, H', p :: w.hid⟩ := ⟨fun _ _ e => e, fun a u e nl => ⟨k a u e, fun z => by
    rcases z with z | z
    · rcases List.mem_cons.mp z with z | z
      · subst z
        rw [n] at e
        cases e
      · exact nl (.inl z)
    · exact nl (.inr z)⟩⟩
  refine ⟨⟨o.len, o.nd, fun i c a e1 e2 => CellR.growW l (fun u q => k a u q) (o.cell i c a e1 e2), fun a m => ?_⟩, l⟩
  rcases List.mem_cons.mp m with z | z
  · subst z
    exact ⟨hp, o.new n⟩
  · obtain ⟨⟨u, e⟩, q⟩ := o.hid a z
    exact ⟨⟨u, k a u e⟩, q⟩
/-- a hidden list changes -/
theorem hid_set {w : Wd} (o : Ok G w) {p : Addr} {u : HO} (m : p ∈ w.hid) : Ok G ⟨w.ρ, w.st, upd w.H p u, w.hid⟩ ∧ Lw w ⟨w.ρ, w.st, upd w.H p u, w.hid⟩ := by
  have l : Lw w ⟨w.ρ, w.st, upd w.H p u, w.hid⟩ := ⟨fun _ _ e => e, fun a v e nl => ⟨by
    show upd w.H p u a = some v
    rw [upd_ne (fun z : a = p => nl (.inl (by rw [z]; exact m)))]
    exact e, fun z => nl z⟩⟩
  refine ⟨⟨o.len, o.nd, fun i c a e1 e2 => CellR.growW l (fun v q => ?_) (o.cell i c a e1 e2), fun a z => ?_⟩, l⟩
  · show upd w.H p u a = some v
    rw [upd_ne (fun z => (o.hid p m).2 (by rw [← z]; exact List.mem_of_getElem? e2))]
    exact q
  · obtain ⟨⟨v, e⟩, q⟩ := o.hid a z
    by_cases h : a = p
    · subst h
      exact ⟨⟨u, upd_same⟩, q⟩
    · exact ⟨⟨v, by show upd w.H p u a = some v; rw [upd_ne h]; exact e⟩, q⟩
/-- let out: a pure list -/
theorem hid_out {w : Wd} (o : Ok G w) {p : Addr} {hs : List Addr} (e : w.hid = p :: hs) (n : p ∉ hs) : Ok G ⟨w.ρ, w.st, w.H, hs⟩ ∧ Lw w ⟨w.ρ, w.st, w.H, hs⟩ ∧ ¬ Wd.live ⟨w.ρ, w.st, w.H, hs⟩ p := by
  have l : Lw w ⟨w.ρ, w.st, w.H, hs⟩ := ⟨fun _ _ q => q, fun a u q nl => ⟨q, fun z => by
    rcases z with z | z
    · exact nl (.inl (by rw [e]; exact List.mem_cons_of_mem _ z))
    · exact nl (.inr z)⟩⟩
  refine ⟨⟨o.len, o.nd, fun i c a e1 e2 => CellR.growW l (fun u q => q) (o.cell i c a e1 e2), fun a m => o.hid a (by rw [e]; exact List.mem_cons_of_mem _ m)⟩, l, fun z => ?_⟩
  rcases z with z | ⟨i, c, _, _, z⟩
  · exact n z
  · exact (o.hid p (by rw [e]; exact List.mem_cons_self)).2 (List.mem_of_getElem? z)
/-- let out: a cell -/
theorem hid_cell {w : Wd} (o : Ok G w) {p : Addr} {hs : List Addr} (e : w.hid = p :: hs) (n : p ∉ hs) {ds : List D} {xs : List V} (hp : w.H p = some (.lst xs)) (r : Rls G w ds xs) :
    Ok G ⟨w.ρ ++ [p], w.st ++ [.lst ds], w.H, hs⟩ ∧ Lw w ⟨w.ρ ++ [p], w.st ++ [.lst ds], w.H, hs⟩ := by
  have np : p ∉ w.ρ := (o.hid p (by rw [e]; exact List.mem_cons_self)).2
  have l : Lw w ⟨w.ρ ++ [p], w.st ++ [.lst ds], w.H, hs⟩ := by
    refine ⟨fun i a q => ?_, fun a u q nl => ⟨q, fun z => ?_⟩⟩
    · show (w.ρ ++ [p])[i]? = some a
      rw [List.getElem?_append_left (List.getElem?_eq_some_iff.mp q).1]
      exact q
    · rcases live_snoc (w := ⟨w.ρ, w.st, w.H, hs⟩) o.len z with z | z
      · rcases z with z | z
        · exact nl (.inl (by rw [e]; exact List.mem_cons_of_mem _ z))
        · exact nl (.inr z)
      · exact nl (.inl (by rw [e, z]; exact List.mem_cons_self))
  refine ⟨⟨by simp [o.len], ?_, fun i d a e1 e2 => ?_, fun a m => ?_⟩, l⟩
  · show (w.ρ ++ [p]).Nodup
    rw [List.nodup_append]
    refine ⟨o.nd, by simp, fun a ha b hb => ?_⟩
    have : b = p := by simpa using hb
    subst this
    intro z
    subst z
    exact np ha
  · rcases getElem?_snoc e1 with q1 | ⟨q1, q2⟩
    · rcases getElem?_snoc e2 with q3 | ⟨q3, q4⟩
      · exact CellR.growW l (fun u q => q) (o.cell i d a q1 q3)
      · have := (List.getElem?_eq_some_iff.mp q1).1
        have := o.len
        omega
    · rcases getElem?_snoc e2 with q3 | ⟨q3, q4⟩
      · have := (List.getElem?_eq_some_iff.mp q3).1
        have := o.len
        omega
      · subst q2
        subst q4
        exact ⟨xs, hp, r.monoW l⟩
  · obtain ⟨q, q2⟩ := o.hid a (by rw [e]; exact List.mem_cons_of_mem _ m)
    refine ⟨q, fun z => ?_⟩
    have z' : a ∈ w.ρ ++ [p] := z
    rcases List.mem_append.mp z' with z1 | z1
    · exact q2 z1
    · have e2 : a = p := by simpa using z1
      exact n (e2 ▸ m)
end

/-! ### the comprehension -/
def tYesF : Tv := fun _ st => .ok true st
def compF (t : Tg) (tt : Tv) (te : Ev) (env : Env) : List D → Sto → Res (List D)
  | [], st => .ok [] st
  | d :: ds, st => match t d env with
    | none => .bad
    | some e => (tt e st).cut.bind fun b s => if b = true then (te e s).cut.bind fun y s1 => (compF t tt te env ds s1).bind fun r s2 => .ok (y :: r) s2 else compF t tt te env ds s
def eLc (m : Bool) (wi : Wv) (t : Tg) (tt : Tv) (te : Ev) (vs : List Nat) : Ev := fun env st => (wi env st).bind fun ds s => if ds.length ≤ sizeLine then (compF t tt te (wipeE env vs) ds s).bind fun r s1 => mkL m r s1 else .bad
theorem bind_bind {α β γ : Type} (r : Res α) (f : α → Sto → Res β) (g : β → Sto → Res γ) : (r.bind f).bind g = r.bind fun a s => (f a s).bind g := by cases r <;> rfl
theorem cut_bind {α β : Type} (r : Res α) (f : α → Sto → Res β) : (r.bind f).cut = r.cut.bind fun a s => (f a s).cut := by cases r <;> rfl
section
variable {X : Cx} {G : CT} {W : WX}
theorem PTs.imp {ifs : List Expr} {t t' : TT} (h : PTs X ifs t) (k : ∀ σ H Q, t' σ H Q → t σ H Q) : PTs X ifs t' := ⟨fun pins s σ H Q I q => h.run pins s σ H Q I (k σ H Q q)⟩
theorem ts_nil : PTs X [] (TsI G W tYesF) := PTs.imp pts_nil fun σ H Q ⟨w, env, e, o, er, p⟩ => by
  subst e
  exact p.ok (a := true) o rfl
theorem ts_one {c : Expr} {tc : Tv} (h : PT X c (TsI G W tc)) : PTs X [c] (TsI G W tc) := pts_one h
theorem lc_main {t : Tg} {tt : Tv} {te : Ev} {vs : List Nat} {m : Bool} {σ : L2.St} {w0 : Wd} {env : Env} {ds : List D} {J : It} {Q : VK} (o0 : Ok G w0) (er0 : EnvR G w0 env σ) (sv : Serves G w0 ds J) (hz : ds.length ≤ sizeLine) (p0 : Post G W (Rl G) σ w0 ((compF t tt te (wipeE env vs) ds w0.st).bind fun r s => mkL m r s) Q) : tLc (fun _ H R => R J H) (gW G vs t) (TsI G W0 tt) (EI G W0 te) vs σ w0.H Q := by
  intro DD hD
  refine ⟨fun i n H => n = ds.length - i ∧ i ≤ ds.length ∧ ∃ (w : Wd) (acc : List D) (xs : List V), w.H = H ∧ Ok G w ∧ Lw w0 w ∧ w.hid = DD :: w0.hid ∧ (∀ a ∈ w0.hid, w.H a = w0.H a) ∧ H DD = some (.lst xs) ∧ Rls G w acc xs ∧ acc.length ≤ i ∧ Post G W (Rl G) σ w0 ((compF t tt te (wipeE env vs) (ds.drop i) w.st).bind fun r s => mkL m (acc ++ r) s) Q, ⟨_, rfl, Nat.zero_le _, ?_⟩, ?_⟩
  · obtain ⟨o1, l1⟩ := hide_new o0 (H' := upd w0.H DD (.lst [])) hD (keeps_upd hD) ⟨_, upd_same⟩
    refine ⟨⟨w0.ρ, w0.st, upd w0.H DD (.lst []), DD :: w0.hid⟩, [], [], rfl, o1, l1, rfl, fun a z => ?_, upd_same, rfl, Nat.le_refl _, p0⟩
    show upd w0.H DD (.lst []) a = _
    rw [upd_ne (fun e : a = DD => o0.new_hid hD (e ▸ z))]
  rintro i n H1 ⟨rfl, hi, w1, acc, xs, rfl, o1, l1, hh, hs, hx, ra, hal, p1⟩
  obtain ⟨s1, s2⟩ := sv w1 o1 l1
  have nD : DD ∉ w0.hid := o0.new_hid hD
  by_cases hlt : i < ds.length
  · obtain ⟨g1, g2⟩ := s1 i ds[i] (List.getElem?_eq_getElem hlt)
    refine .inr ⟨g1, fun H' => (ds.length - (i + 1)) = ds.length - (i + 1) ∧ i + 1 ≤ ds.length ∧ ∃ (w : Wd) (acc : List D) (xs : List V), w.H = H' ∧ Ok G w ∧ Lw w0 w ∧ w.hid = DD :: w0.hid ∧ (∀ a ∈ w0.hid, w.H a = w0.H a) ∧ H' DD = some (.lst xs) ∧ Rls G w acc xs ∧ acc.length ≤ i + 1 ∧ Post G W (Rl G) σ w0 ((compF t tt te (wipeE env vs) (ds.drop (i + 1)) w.st).bind fun r s => mkL m (acc ++ r) s) Q, fun H' q => ⟨_, by omega, q⟩, fun x H' y => ?_⟩
    obtain ⟨w2, rfl, e2, o2, l2, r2⟩ := g2 x H' y
    rw [List.drop_eq_getElem_cons hlt] at p1
    unfold compF at p1
    split at p1
    · exact p1.elim
    rename_i env2 ht
    have keepH : ∀ {w' : Wd}, Le w1 w' → w'.hid = DD :: w0.hid ∧ (∀ a ∈ w0.hid, w'.H a = w0.H a) ∧ w'.H DD = some (.lst xs) := fun {w'} l => ⟨l.hid.trans hh, fun a z => (l.hide a (by rw [hh]; exact List.mem_cons_of_mem _ z)).trans (hs a z), (l.hide DD (by rw [hh]; exact List.mem_cons_self)).trans hx⟩
    refine ⟨w2, wipeE env vs, ds[i], rfl, o2, wipeE_of (er0.monoW (l1.trans l2.toLw)) vs, r2, env2, ht, fun σ2 er2 hw => ⟨hw.trans ?_, w2, env2, rfl, o2, er2, ?_⟩⟩
    · apply List.ext_getElem?
      intro j
      by_cases hj : j ∈ vs
      · rw [wipe_in hj, wipe_in hj, wipe_length]
      · rw [wipe_out hj]
    rw [bind_bind] at p1
    rw [← e2] at p1
    refine Post.bindC p1 fun w3 b b' o3 l3 r3 p3 => ?_
    have r3' : b = b' := r3
    subst r3'
    cases b with
    | false =>
      obtain ⟨k1, k2, k3⟩ := keepH (l2.trans l3)
      exact ⟨rfl, hlt, w3, acc, xs, rfl, o3, l1.trans (l2.trans l3).toLw, k1, k2, k3, ra.mono (l2.trans l3), Nat.le_succ_of_le hal, p3⟩
    | true =>
      have p3' : Post G W (Rl G) σ w0 (((te env2 w3.st).cut.bind fun y s1 => (compF t tt te (wipeE env vs) (ds.drop (i + 1)) s1).bind fun r s2 => .ok (y :: r) s2).bind fun r s => mkL m (acc ++ r) s) Q := p3
      rw [bind_bind] at p3'
      refine ⟨w3, env2, rfl, o3, er2.mono l3, Post.bindC p3' fun w4 d v o4 l4 r4 p4 => ?_⟩
      obtain ⟨k1, k2, k3⟩ := keepH (l2.trans (l3.trans l4))
      have ra4 := ra.mono (l2.trans (l3.trans l4))
      have mD : DD ∈ w4.hid := by rw [k1]; exact List.mem_cons_self
      obtain ⟨o5, l5⟩ := hid_set o4 (u := .lst (xs ++ [v])) mD
      refine ⟨xs, k3, ?_, rfl, hlt, ⟨w4.ρ, w4.st, upd w4.H DD (.lst (xs ++ [v])), w4.hid⟩, acc ++ [d], xs ++ [v], rfl, o5, (l1.trans (l2.trans (l3.trans l4)).toLw).trans l5, k1, fun a z => ?_, upd_same, (ra4.monoW l5).append (.one (r4.monoW l5)), by simp; omega, ?_⟩
      · rw [ra.length]
        omega
      · show upd w4.H DD _ a = _
        rw [upd_ne (fun e : a = DD => nD (e ▸ z))]
        exact k2 a z
      · rw [bind_bind] at p4
        have e5 : (fun (r : List D) (s : Sto) => mkL m ((acc ++ [d]) ++ r) s) = fun r s => mkL m (acc ++ d :: r) s := by
          funext r s
          rw [List.append_assoc]
          rfl
        rw [e5]
        exact p4
  · have e : i = ds.length := by omega
    subst e
    rw [List.drop_length] at p1
    refine .inl ⟨s2, ?_⟩
    have p2 : Post G W (Rl G) σ w0 (mkL m (acc ++ []) w1.st) Q := p1
    rw [List.append_nil] at p2
    unfold mkL at p2
    split at p2
    · obtain ⟨o5, l5⟩ := hid_cell o1 hh nD hx ra
      refine p2 ⟨w1.ρ ++ [DD], w1.st ++ [.lst acc], w1.H, w0.hid⟩ (.ref DD) rfl o5 ⟨l1.trans l5, rfl, hs⟩ ⟨DD, ?_, rfl⟩
      show (w1.ρ ++ [DD])[w1.st.length]? = some DD
      rw [← o1.len, List.getElem?_append_right (Nat.le_refl _)]
      simp
    · obtain ⟨o5, l5, n5⟩ := hid_out o1 hh nD
      exact p2 ⟨w1.ρ, w1.st, w1.H, w0.hid⟩ (.ref DD) rfl o5 ⟨l1.trans l5, rfl, hs⟩ ⟨DD, xs, rfl, ⟨hx, n5⟩, ra.monoW l5⟩
theorem lc_of {wi : Wv} {t : Tg} {tt : Tv} {te : Ev} {vs : List Nat} {m : Bool} : ∀ σ H Q, EI G W (eLc m wi t tt te vs) σ H Q → tLc (WI G W wi) (gW G vs t) (TsI G W0 tt) (EI G W0 te) vs σ H Q := fun σ H Q ⟨w, env, e1, o, er, p⟩ =>
  ⟨w, env, e1, o, er, Post.bind p fun w0 ds J o0 l0 sv p0 => by
    split at p0
    · rename_i hz
      exact lc_main o0 (er.mono l0) sv hz p0
    · exact p0.elim⟩
variable {pos spos py : Pos} {elt tg iter : Expr} {ifs : List Expr} {scope : Scope} {wi : Wv} {t : Tg} {tt : Tv} {te : Ev}
theorem q_lc (m : Bool) (own : List (Str × Nat)) {vs : List Nat} (hv : own.map (·.2) = vs) (hc : X.calm = true) (hN : X.N.Nodup) (hi : PI X tg iter (WI G W wi)) (ok : BlkOk X.N X.env.scope scope own)
    (hg : ∀ (s : Shared) (H : Hp) (C : Addr) (cl : List (Str × Addr)) (fp : List Addr), PG (X.blk s H scope (compEnvC scope cl C X.env) fp) tg (gW G vs t)) (ht : ∀ (s : Shared) (H : Hp) (C : Addr) (cl : List (Str × Addr)) (fp : List Addr), PTs (X.blk s H scope (compEnvC scope cl C X.env) fp) ifs (TsI G W0 tt))
    (he : ∀ (s : Shared) (H : Hp) (C : Addr) (cl : List (Str × Addr)) (fp : List Addr), PE (X.blk s H scope (compEnvC scope cl C X.env) fp) elt (EI G W0 te)) (hs : ∀ x, foldedSetIterable iter X.env x = pure x := by intro _; rfl) :
    PE X (.ListComp elt [⟨tg, iter, ifs, 0⟩] scope pos) (EI G W (eLc m wi t tt te vs)) := by
  subst hv
  exact (pe_lc hc hN hi ok hg ht he hs).imp lc_of
theorem z_setLc (m : Bool) (own : List (Str × Nat)) {vs : List Nat} (hv : own.map (·.2) = vs) {i : Nat} {y : Str} (hc : X.calm = true) (hN : X.N.Nodup) (hy : X.N[i]? = some y) (hyl : X.env.scope.names.lookup y = some .local)
    (hsw : swapsWith (.ListComp elt [⟨tg, iter, ifs, 0⟩] scope pos) (some (.Name y py)) spos.line X.env = pure true) (hi : PI X tg iter (WI G W wi)) (ok : BlkOk X.N X.env.scope scope own)
    (hg : ∀ (s : Shared) (H : Hp) (C : Addr) (cl : List (Str × Addr)) (fp : List Addr), PG (X.blk s H scope (compEnvC scope cl C X.env) fp) tg (gW G vs t)) (ht : ∀ (s : Shared) (H : Hp) (C : Addr) (cl : List (Str × Addr)) (fp : List Addr), PTs (X.blk s H scope (compEnvC scope cl C X.env) fp) ifs (TsI G W0 tt))
    (he : ∀ (s : Shared) (H : Hp) (C : Addr) (cl : List (Str × Addr)) (fp : List Addr), PE (X.blk s H scope (compEnvC scope cl C X.env) fp) elt (EI G W0 te)) (hs : ∀ x, foldedSetIterable iter X.env x = pure x := by intro _; rfl) :
    PS X (.Assign [.Name y py] (.ListComp elt [⟨tg, iter, ifs, 0⟩] scope pos) spos) (SI G W (sSet i (eLc m wi t tt te vs))) := by
  subst hv
  exact (ps_setLc hc hN hy hyl hsw hi ok hg ht he hs).imp fun E σ H ⟨w, env, e1, o, er, p⟩ =>
  lc_of σ H _ ⟨w, env, e1, o, er, PostS.bind er p fun w1 d v o1 l1 r1 p1 => p1.toNx o1 ((er.mono l1).set i r1)⟩
end
end F
/-! Ranges as values, isinstance, list(text), reversed, zip, enumerate. -/
namespace F
open PySem PySem.Spec PyProof.Rows L2

section
variable {X : Cx} {G : CT} {W : WX} {pos p : Pos} {x : Str}
theorem q_ty {n : String} (hg : Gl X x) (hm : X.mg x = none) (hv : bootBuiltins x = some (.type n)) (hn : x ≠ "__name__" := by decide) (hd : (x == ("__debug__" : Str)) = false := by decide) : PE X (.Name x pos) (EI G W (eC (.ty n))) := q_const (pe_bltn (v := .ty n) hg hm hv rfl hn hd) fun _ => rfl
theorem q_cl {c : Nat} (hg : Gl X x) (hm : X.mg x = some (.ref (G.cls c))) (hd : (x == ("__debug__" : Str)) = false := by decide) : PE X (.Name x pos) (EI G W (eC (.cl c))) := q_const (pe_glob (v := .ref (G.cls c)) hg hm rfl hd) fun _ => rfl
end

/-! ### range(..) as a value -/
noncomputable def fRange : Fn := fun ds st => match ds with
  | [.int i, .int j, .int c] => @ite _ (c ≠ 0 ∧ c.natAbs < 1073741824) (Classical.propDecidable _) (.ok (.rng i j c) st) .bad
  | [.int i, .int j] => .ok (.rng i j 1) st
  | _ => .bad
noncomputable def wRngV (m : Ev) : Wv := fun env st => (m env st).bind fun d s => match d with
  | .rng i j c => @ite _ (Builtin.Range.small i j c = true ∧ Builtin.Range.rangeSize i j c = (rangeN i j c : Int)) (Classical.propDecidable _) (.ok (rangeC i j c) s) .bad
  | _ => .bad
section
variable {X : Cx} {G : CT} {W : WX} {pos p : Pos} {tg e : Expr} {m : Ev}
theorem cr_rangeV : CallR X (.type "range") (fun vs H Q => ∃ i j c, (vs = [V.int i, V.int j, V.int c] ∧ c ≠ 0 ∧ c.natAbs < 1073741824 ∨ vs = [V.int i, V.int j] ∧ c = 1) ∧ ∀ p, H p = none → Q (.ref p) (upd H p (rngO p i j c))) := by
  intro pins s σ H vs us Q I r h
  obtain ⟨i, j, c, h, q⟩ := h
  have fin : ∀ (t u v : Tok) (tk : Nat), EP X pins σ Q (.ref s.heap.objs.size) { s with heap := s.heap.push { cls := .type "range", data := .fields #[.int i t, .int j u, .int c v] }, toks := tk } := fun t u v tk =>
    ⟨.ref s.heap.objs.size, upd H s.heap.objs.size (rngO s.heap.objs.size i j c), I.laid (t' := tk) (fun b o e => Heap.get?_push_of_some _ e) (Nat.le_refl _)
      ⟨⟨t, u, v, Heap.get?_push_size _ rfl⟩, ⟨_, Heap.get?_push_size _ rfl⟩, fun h1 h2 ⟨t, u, v, e⟩ k => ⟨t, u, v, k _ e⟩⟩, rfl, q _ (I.hok.fresh (Nat.le_refl _))⟩
  rcases h with ⟨rfl, hc, hs⟩ | ⟨rfl, rfl⟩
  · cases r with
    | cons r rr =>
      cases rr with
      | cons r' rr =>
        cases rr with
        | cons r'' rr =>
          cases rr
          obtain ⟨t, rfl⟩ := r
          obtain ⟨t', rfl⟩ := r'
          obtain ⟨t'', rfl⟩ := r''
          exact call_range_3 hc (fin _ _ _ _) (.inl (PyProof.noPylong_small hs))
  · obtain ⟨u1, u2, rfl, ri, rj⟩ := vals2 r
    obtain ⟨t, rfl⟩ := ri
    obtain ⟨u, rfl⟩ := rj
    exact call_range_2 (fin _ _ _ _)
theorem Post.new_rng {σ : L2.St} {w : Wd} {i j c : Int} {Q : VK} (h : Post G W (Rl G) σ w (.ok (.rng i j c) w.st) Q) (o : Ok G w) {p : Addr} (n : w.H p = none) : Q (.ref p) (upd w.H p (rngO p i j c)) :=
  h ⟨w.ρ, w.st, upd w.H p (rngO p i j c), w.hid⟩ (.ref p) rfl (ok_grow o (keeps_upd n)) (le_grow o (keeps_upd n)) ⟨p, rfl, upd_same, o.nlive n⟩
theorem cf_rangeV : CallF G fRange (fun vs H Q => ∃ i j c, (vs = [V.int i, V.int j, V.int c] ∧ c ≠ 0 ∧ c.natAbs < 1073741824 ∨ vs = [V.int i, V.int j] ∧ c = 1) ∧ ∀ p, H p = none → Q (.ref p) (upd H p (rngO p i j c))) := fun W σ w xs ds Q o rs h => by
  unfold fRange at h
  split at h
  · split at h
    · rename_i i j c hc
      obtain ⟨x, y, z, rfl, rx, ry, rz⟩ := Rls.three' rs
      exact ⟨i, j, c, .inl ⟨by rw [show x = _ from rx, show y = _ from ry, show z = _ from rz], hc⟩, fun p n => h.new_rng o n⟩
    · exact h.elim
  · rename_i i j
    obtain ⟨x, y, rfl, rx, ry⟩ := rs.two'
    exact ⟨i, j, 1, .inr ⟨by rw [show x = _ from rx, show y = _ from ry], rfl⟩, fun p n => h.new_rng o n⟩
  · exact h.elim
theorem pi_rngV {te : TE} (he : PE X e te) : PI X tg e (fun σ H R => te σ H fun v H1 => ∃ a i j c n, v = .ref a ∧ H1 a = some (rngO a i j c) ∧ Builtin.Range.small i j c = true ∧ Builtin.Range.rangeSize i j c = ((n : Nat) : Int) ∧ R (Itc i c n) H1) := by
  refine ⟨fun pins s σ H R I h => ?_⟩
  refine thn (he.run pins s σ H _ I h) fun u s1 ⟨v, H1, I1, r1, a, i, j, c, n, e1, ha, h1, h2, q⟩ => ?_
  subst e1
  obtain rfl : u = Value.ref a := r1
  obtain ⟨⟨t, t', t'', hr⟩, _⟩ := (show ObjOk X.prog X.w H1 s1.heap a (rngO a i j c) from I1.hok a _ ha)
  refine wpAny_pyIter_range hr h1 ?_
  refine pi_one (tk := s1.toks) I1 _ (turn_rangeC _ i c n) ?_ q
  have e1 : i + ((0 : Nat) : Int) * c = i := by simp
  have e2 : (n : Int) - ((0 : Nat) : Int) = Builtin.Range.rangeSize i j c := by rw [h2]; simp
  show IsRangeIter _ _ (i + ((0 : Nat) : Int) * c) ((n : Int) - ((0 : Nat) : Int)) c
  rw [e1, e2]
  exact Heap.get?_push_size _ rfl
theorem w_rngV (h : PE X e (EI G W m)) : PI X tg e (WI G W (wRngV m)) := (pi_rngV h).imp fun σ H Q ⟨w, env, e1, o, er, p⟩ =>
  ⟨w, env, e1, o, er, p.bind fun w1 d x o1 l1 r1 p1 => by
    split at p1
    · split at p1
      · rename_i i j c hc
        obtain ⟨a, rfl, ha, n⟩ := r1
        exact ⟨a, i, j, c, _, rfl, ha, hc.1, hc.2, p1.ok o1 serves_rangeC⟩
      · exact p1.elim
    · exact p1.elim⟩
end

/-! ### reversed -/
def wRev (m : Ev) : Wv := fun env st => (m env st).bind fun d s => match d with
  | .lst ds => .ok ds.reverse s
  | .rol ds => .ok ds.reverse s
  | .tup ds => .ok ds.reverse s
  | _ => .bad
section
variable {X : Cx} {G : CT} {W : WX} {pos p : Pos} {tg e : Expr} {m : Ev}
theorem rev_get {α : Type} {l : List α} {i : Nat} {d : α} (h : l.reverse[i]? = some d) : i < l.length ∧ l[l.length - 1 - i]? = some d := by
  have hl := (List.getElem?_eq_some_iff.mp h).1
  rw [List.length_reverse] at hl
  rw [List.getElem?_reverse hl] at h
  exact ⟨hl, h⟩
theorem serves_rev {w0 : Wd} {a : Addr} {xs : List V} {ds : List D} (h : SqLn G w0 a xs) (r : Rls G w0 ds xs) : Serves G w0 ds.reverse (Itv G.K a xs.length) := fun w o l => by
  have s := (h.monoW l).sq
  have q := r.monoW l
  have hn := r.length
  refine ⟨fun i d e => ?_, by show xs.length ≤ _; rw [List.length_reverse]; omega⟩
  obtain ⟨hl, e⟩ := rev_get e
  obtain ⟨x, ex, rx⟩ := q.get e
  rw [← hn] at ex
  refine ⟨⟨by omega, xs, x, s, ex⟩, fun y H' hy => ?_⟩
  obtain ⟨rfl, hy⟩ := hy
  have e2 := hy xs s
  rw [ex] at e2
  cases e2
  exact ⟨w, rfl, rfl, o, Le.refl _, rx⟩
theorem serves_revT {w0 : Wd} {a : Addr} {xs : List V} {ds : List D} (h : SqTn G w0 a xs) (r : Rls G w0 ds xs) : Serves G w0 ds.reverse (RT.ItvT G.K a xs.length) := fun w o l => by
  have s := (h.monoW l).sq
  have q := r.monoW l
  have hn := r.length
  refine ⟨fun i d e => ?_, by show xs.length ≤ _; rw [List.length_reverse]; omega⟩
  obtain ⟨hl, e⟩ := rev_get e
  obtain ⟨x, ex, rx⟩ := q.get e
  rw [← hn] at ex
  refine ⟨⟨by omega, xs, x, s, ex⟩, fun y H' hy => ?_⟩
  obtain ⟨rfl, hy⟩ := hy
  have e2 := hy xs s
  rw [ex] at e2
  cases e2
  exact ⟨w, rfl, rfl, o, Le.refl _, rx⟩
theorem w_rev (L : Lay X G W) (hg : Gl X "reversed") (hm : X.mg "reversed" = none) (he : PE X e (EI G W m)) (hs : starEach [e] X.env = (false, eval e X.env) :: starEach [] X.env := by rfl) : PI X tg (.Call (.Name "reversed" p) [e] [] pos) (WI G W (wRev m)) := (RT.pi_revA hg hm he hs).imp fun σ H Q ⟨w, env, e1, o, er, p⟩ =>
  ⟨w, env, e1, o, er, p.bind fun w1 d x o1 l1 r1 p1 => by
    rw [L.K]
    cases d with
    | lst ds =>
      obtain ⟨a, xs, rfl, sq, rs⟩ := r1
      exact ⟨a, xs, rfl, .inl ⟨SqL.of sq.1, Post.ok p1 o1 (serves_rev (.inl ⟨.inl sq.1, sq.2⟩) rs)⟩⟩
    | rol ds =>
      obtain ⟨a, xs, rfl, sq, rs⟩ := r1
      exact ⟨a, xs, rfl, .inl ⟨sq.sq, Post.ok p1 o1 (serves_rev sq rs)⟩⟩
    | tup ds =>
      obtain ⟨a, xs, rfl, sq, rs⟩ := r1
      exact ⟨a, xs, rfl, .inr ⟨sq.sq, Post.ok p1 o1 (serves_revT sq rs)⟩⟩
    | _ => exact p1.elim⟩
end

/-! ### zip, enumerate -/
def asPure (d : D) : Option (List D) := match d with
  | .lst ds => some ds
  | .rol ds => some ds
  | _ => none
def wZip (a : Av) : Wv := fun env st => (a env st).bind fun ds s => match ds with
  | [.tup es, .tup fs] => .ok (List.zipWith (fun x y => .tup [x, y]) es fs) s
  | [x, y] => match asPure x, asPure y with
    | some es, some fs => .ok (List.zipWith (fun x y => .tup [x, y]) es fs) s
    | _, _ => .bad
  | _ => .bad
def enumL (i : Nat) : List D → List D
  | [] => []
  | d :: ds => .tup [.int (i : Nat), d] :: enumL (i + 1) ds
def wEnum (a : Av) : Wv := fun env st => (a env st).bind fun ds s => match ds with
  | [x] => match asPure x with
    | some es => .ok (enumL 0 es) s
    | none => .bad
  | _ => .bad
section
variable {X : Cx} {G : CT} {W : WX} {pos p tpos : Pos} {e e2 : Expr} {elts : List Expr} {kk : Nat} {ma : Av}
theorem asPure_of {w : Wd} {d : D} {ds : List D} {x : V} (h : asPure d = some ds) (r : Rl G w d x) : ∃ a xs, x = .ref a ∧ SqLn G w a xs ∧ Rls G w ds xs := by
  cases d with
  | lst es =>
    cases h
    obtain ⟨a, xs, rfl, sq, rs⟩ := r
    exact ⟨a, xs, rfl, .inl ⟨.inl sq.1, sq.2⟩, rs⟩
  | rol es =>
    cases h
    obtain ⟨a, xs, rfl, sq, rs⟩ := r
    exact ⟨a, xs, rfl, sq, rs⟩
  | _ => cases h
theorem new_pair {w : Wd} (o : Ok G w) {T : Addr} (n : w.H T = none) {d1 d2 : D} {x y : V} (r1 : Rl G w d1 x) (r2 : Rl G w d2 y) : ∃ w', w'.H = upd w.H T (.tup [x, y]) ∧ w'.st = w.st ∧ Ok G w' ∧ Le w w' ∧ Rl G w' (.tup [d1, d2]) (.ref T) :=
  have l := le_grow o (keeps_upd (o := .tup [x, y]) n)
  ⟨⟨w.ρ, w.st, upd w.H T (.tup [x, y]), w.hid⟩, rfl, rfl, ok_grow o (keeps_upd n), l, T, [x, y], rfl, .inl ⟨.inl upd_same, o.nlive n⟩, .cons (r1.mono l) (.one (r2.mono l))⟩
theorem serves_zip {w0 : Wd} {a b : Addr} {xs ys : List V} {ds es : List D} (h : SqLn G w0 a xs) (k : SqLn G w0 b ys) (r : Rls G w0 ds xs) (q : Rls G w0 es ys) : Serves G w0 (List.zipWith (fun x y => .tup [x, y]) ds es) (Itz G.K a b) := fun w o l => by
  have s1 := (h.monoW l).sq
  have s2 := (k.monoW l).sq
  have r1 := r.monoW l
  have r2 := q.monoW l
  refine ⟨fun i d e => ?_, xs, ys, s1, s2, ?_⟩
  · rw [List.getElem?_zipWith] at e
    split at e
    · rename_i d1 d2 e1 e2
      cases e
      obtain ⟨x, ex, rx⟩ := r1.get e1
      obtain ⟨y, ey, ry⟩ := r2.get e2
      refine ⟨⟨xs, ys, x, y, s1, s2, ex, ey⟩, fun v H' hy => ?_⟩
      obtain ⟨T, x', y', rfl, n, rfl, h1, h2⟩ := hy
      have z1 := h1 xs s1
      have z2 := h2 ys s2
      rw [ex] at z1
      rw [ey] at z2
      cases z1
      cases z2
      exact new_pair o n rx ry
    · cases e
  · rw [r1.length, r2.length, List.length_zipWith]
    omega
theorem serves_zipT {w0 : Wd} {a b : Addr} {xs ys : List V} {ds es : List D} (h : SqTn G w0 a xs) (k : SqTn G w0 b ys) (r : Rls G w0 ds xs) (q : Rls G w0 es ys) : Serves G w0 (List.zipWith (fun x y => .tup [x, y]) ds es) (RZ.ItzT G.K a b) := fun w o l => by
  have s1 := (h.monoW l).sq
  have s2 := (k.monoW l).sq
  have r1 := r.monoW l
  have r2 := q.monoW l
  refine ⟨fun i d e => ?_, xs, ys, s1, s2, ?_⟩
  · rw [List.getElem?_zipWith] at e
    split at e
    · rename_i d1 d2 e1 e2
      cases e
      obtain ⟨x, ex, rx⟩ := r1.get e1
      obtain ⟨y, ey, ry⟩ := r2.get e2
      refine ⟨⟨xs, ys, x, y, s1, s2, ex, ey⟩, fun v H' hy => ?_⟩
      obtain ⟨T, x', y', rfl, n, rfl, h1, h2⟩ := hy
      have z1 := h1 xs s1
      have z2 := h2 ys s2
      rw [ex] at z1
      rw [ey] at z2
      cases z1
      cases z2
      exact new_pair o n rx ry
    · cases e
  · rw [r1.length, r2.length, List.length_zipWith]
    omega
theorem w_zip (L : Lay X G W) (hg : Gl X "zip") (hm : X.mg "zip" = none) (ha : PA X [e, e2] (AI G W ma)) (hs : starEach [e, e2] X.env = (false, eval e X.env) :: starEach [e2] X.env := by rfl) (hpl : (backTo pos (starEach [e2] X.env)).any (·.1) = false := by rfl) :
    PI X (.Tuple elts kk tpos) (.Call (.Name "zip" p) [e, e2] [] pos) (WI G W (wZip ma)) := (RZ.pi_zipA hg hm ha hs hpl).imp fun σ H Q ⟨w, env, e1, o, er, p⟩ =>
  ⟨w, env, e1, o, er, p.bind fun w1 ds vs o1 l1 r1 p1 => by
    rw [L.K]
    split at p1
    · obtain ⟨x, y, rfl, rx, ry⟩ := r1.two'
      obtain ⟨a, xs, rfl, sq, rs⟩ := rx
      obtain ⟨b, ys, rfl, sq2, rs2⟩ := ry
      exact ⟨a, b, xs, ys, rfl, .inr ⟨sq.sq, sq2.sq, p1.ok o1 (serves_zipT sq sq2 rs rs2)⟩⟩
    · split at p1
      · rename_i es fs h1 h2
        obtain ⟨x, y, rfl, rx, ry⟩ := r1.two'
        obtain ⟨a, xs, rfl, sq, rs⟩ := asPure_of h1 rx
        obtain ⟨b, ys, rfl, sq2, rs2⟩ := asPure_of h2 ry
        exact ⟨a, b, xs, ys, rfl, .inl ⟨sq.sq, sq2.sq, p1.ok o1 (serves_zip sq sq2 rs rs2)⟩⟩
      · exact p1.elim
    · exact p1.elim⟩
theorem enumL_get : ∀ {ds : List D} {k i : Nat} {d : D}, (enumL k ds)[i]? = some d → ∃ y, ds[i]? = some y ∧ d = .tup [.int ((k + i : Nat) : Int), y]
  | [], _, _, _, h => by simp [enumL] at h
  | d :: ds, k, 0, e, h => by
    have q : D.tup [.int (k : Nat), d] = e := by simpa [enumL] using h
    exact ⟨d, rfl, q.symm⟩
  | d :: ds, k, i + 1, e, h => by
    have q : (enumL (k + 1) ds)[i]? = some e := by simpa [enumL] using h
    obtain ⟨y, h1, h2⟩ := enumL_get q
    refine ⟨y, by simpa using h1, ?_⟩
    rw [h2, show k + 1 + i = k + (i + 1) by omega]
theorem enumL_length : ∀ (ds : List D) (k : Nat), (enumL k ds).length = ds.length
  | [], _ => rfl
  | d :: ds, k => by
    unfold enumL
    rw [List.length_cons, enumL_length ds, List.length_cons]
theorem serves_enum {w0 : Wd} {a : Addr} {xs : List V} {ds : List D} (h : SqLn G w0 a xs) (r : Rls G w0 ds xs) : Serves G w0 (enumL 0 ds) (Ite G.K a) := fun w o l => by
  have s1 := (h.monoW l).sq
  have r1 := r.monoW l
  refine ⟨fun i d e => ?_, xs, s1, by rw [r1.length, enumL_length]; exact Nat.le_refl _⟩
  obtain ⟨y, e1, rfl⟩ := enumL_get e
  obtain ⟨x, ex, rx⟩ := r1.get e1
  refine ⟨⟨xs, x, s1, ex⟩, fun v H' hy => ?_⟩
  obtain ⟨T, x', rfl, n, rfl, h1⟩ := hy
  have z1 := h1 xs s1
  rw [ex] at z1
  cases z1
  have e2 : (((0 + i : Nat)) : Int) = (i : Nat) := by simp
  rw [e2]
  exact new_pair o n rfl rx
theorem w_enum (L : Lay X G W) (hg : Gl X "enumerate") (hm : X.mg "enumerate" = none) (ha : PA X [e] (AI G W ma)) (hs : starEach [e] X.env = [(false, eval e X.env)] := by rfl) :
    PI X (.Tuple elts kk tpos) (.Call (.Name "enumerate" p) [e] [] pos) (WI G W (wEnum ma)) := (pi_enum hg hm ha hs).imp fun σ H Q ⟨w, env, e1, o, er, p⟩ =>
  ⟨w, env, e1, o, er, p.bind fun w1 ds vs o1 l1 r1 p1 => by
    rw [L.K]
    split at p1
    · split at p1
      · rename_i es h1
        obtain ⟨x, rfl, rx⟩ := r1.one'
        obtain ⟨a, xs, rfl, sq, rs⟩ := asPure_of h1 rx
        exact ⟨a, xs, rfl, sq.sq, p1.ok o1 (serves_enum sq rs)⟩
      · exact p1.elim
    · exact p1.elim⟩
end

/-! ### isinstance -/
inductive Ty where
  | b (n : String) | o (c : Nat)
  deriving DecidableEq
def tyU (G : CT) : Ty → Value
  | .b n => .type n
  | .o c => .ref (G.cls c)
def typeD (d : D) (st : Sto) : Option Ty := match d with
  | .non => some (.b "NoneType")
  | .bl _ => some (.b "bool")
  | .int _ => some (.b "int")
  | .str _ => some (.b "str")
  | .lst _ => some (.b "list")
  | .obj c _ => some (.o c)
  | .ref i => match st[i]? with
    | some (.lst _) => some (.b "list")
    | some (.ins c _) => some (.o c)
    | _ => none
  | .tup _ => some (.b "tuple")
  | .rol _ => some (.b "list")
  | _ => none
def clsD (d : D) : Option Ty := match d with
  | .ty n => some (.b n)
  | .cl c => some (.o c)
  | _ => none
def isiT (tb : List ((Ty × Ty) × Bool)) (t u : Ty) : Option Bool := tb.lookup (t, u)
def fIsi (tb : List ((Ty × Ty) × Bool)) : Fn := fun ds st => match ds with
  | [x, c] => match typeD x st, clsD c with
    | some t, some u => match isiT tb t u with
      | some b => .ok (.bl b) st
      | none => .bad
    | _, _ => .bad
  | _ => .bad
/-- an own class that isinstance looks at -/
structure IsiC (K : PySem.W.Frag) (C : Addr) : Prop where
  cl : Cls K C
  ha : PySem.W.findIn K (.ref C) "__class__" = some (some (.builtin "object.__class__"))
  hn : PySem.W.specialIn K (.builtin "object.__class__") "__get__" = some (some (.builtin "getset_descriptor.__get__"))
  htk : PySem.W.takesIn K (.builtin "object.__class__") = some true
  hm : PySem.W.mroIn K C (.type "object") = some true
section
variable {X : Cx} {G : CT}
theorem lookup_mem {α β : Type} [BEq α] [LawfulBEq α] {k : α} {v : β} : ∀ {l : List (α × β)}, l.lookup k = some v → (k, v) ∈ l
  | [], h => by simp at h
  | (a, b) :: r, h => by
    rw [List.lookup_cons] at h
    by_cases e : (k == a) = true
    · rw [e] at h
      cases h
      rw [eq_of_beq e]
      exact List.mem_cons_self
    · rw [Bool.eq_false_iff.mpr e] at h
      exact List.mem_cons_of_mem _ (lookup_mem h)
theorem cf_isi {tb : List ((Ty × Ty) × Bool)} (hk : ∀ e ∈ tb, PySem.W.kitOne G.K (tyU G e.1.1) (tyU G e.1.2) = some e.2) (ho : ∀ e ∈ tb, ∀ c, e.1.1 = .o c → IsiC G.K (G.cls c)) : CallF G (fIsi tb) (rIsi G.K) := fun W σ w xs ds Q o rs p => by
  unfold fIsi at p
  split at p
  rotate_left
  · exact p.elim
  rename_i x c
  split at p
  rotate_left
  · exact p.elim
  rename_i t u ht hu
  split at p
  rotate_left
  · exact p.elim
  rename_i b hb
  have hm := lookup_mem hb
  have k := hk _ hm
  have ko := ho _ hm
  obtain ⟨v, cv, rfl, rv, rc⟩ := rs.two'
  have kc : ClsV cv (tyU G u) := by
    cases c with
    | ty n => cases hu; rw [show cv = _ from rc]; exact .ty n
    | cl c => cases hu; rw [show cv = _ from rc]; exact .own _
    | _ => cases hu
  have kt : TyX G.K w.H v (tyU G t) := by
    cases x with
    | non => cases ht; rw [show v = .non from rv]; exact .base .non
    | bl b => cases ht; rw [show v = _ from rv]; exact .base (.bl _)
    | int b => cases ht; rw [show v = _ from rv]; exact .base (.int _)
    | str b => cases ht; rw [show v = _ from rv]; exact .base (.str _)
    | lst ds =>
      cases ht
      obtain ⟨a, ys, rfl, sq, _⟩ := rv
      exact .base (.lst sq.1)
    | tup ds =>
      cases ht
      obtain ⟨a, ys, rfl, sq, _⟩ := rv
      rcases sq with ⟨sq | ⟨ob, sq⟩, _⟩ | sq
      · exact .base (.tup sq)
      · exact .fTuple sq
      · obtain ⟨ob, its, n, e1, e2, _⟩ := sq
        exact .kTuple e1 e2
    | rol ds =>
      cases ht
      obtain ⟨a, ys, rfl, sq, _⟩ := rv
      rcases sq with ⟨sq | ⟨ob, sq⟩, _⟩ | sq
      · exact .base (.lst sq)
      · exact .base (.frz sq)
      · obtain ⟨ob, its, n, e1, e2, _⟩ := sq
        exact .kList e1 e2
    | obj c ds =>
      cases ht
      obtain ⟨a, dx, fs, rfl, e, _⟩ := rv
      have z := ko c rfl
      exact .base (.ins e z.cl z.ha z.hn z.htk z.hm)
    | ref i =>
      obtain ⟨a, e, rfl⟩ := rv
      have ht' : (match w.st[i]? with | some (.lst _) => some (Ty.b "list") | some (.ins c _) => some (.o c) | _ => none) = some t := ht
      split at ht'
      · rename_i ds hs
        cases ht'
        obtain ⟨ys, e1, _⟩ := o.cell i _ a hs e
        exact .base (.lst e1)
      · rename_i c' ds hs
        cases ht'
        obtain ⟨dx, fs, e1, _⟩ := o.cell i _ a hs e
        have z := ko c' rfl
        exact .base (.ins e1 z.cl z.ha z.hn z.htk z.hm)
      · cases ht'
    | _ => cases ht
  exact ⟨v, cv, _, _, b, rfl, kc, kt, k, p.ok o rfl⟩
end

/-! ### list(text) -/
def rListS : List V → Hp → VK → Prop := fun xs H Q => ∃ s : List Nat, xs = [.str ⟨s.toArray⟩] ∧ s.length ≤ sizeLine ∧ ∀ l, H l = none → Q (.ref l) (upd H l (.lst (s.map fun c => .str ⟨#[c]⟩)))
def fListS (m : Bool) : Fn := fun ds st => match ds with
  | [.str s] => if s.length ≤ sizeLine then mkL m (s.map fun c => .str [c]) st else .bad
  | _ => .bad
theorem vals_sign {s : List Nat} : ∀ {us : List Value} {k : Nat}, (∀ j v, us[j]? = some v → SignAt ⟨s.toArray⟩ (k + j) v) → us.length + k = s.length → Vals ((s.drop k).map fun c => V.str ⟨#[c]⟩) us
  | [], k, _, hl => by
    have e : k = s.length := by simpa using hl
    subst e
    rw [List.drop_length]
    exact .nil
  | u :: us, k, h, hl => by
    obtain ⟨c, t, h1, h2⟩ := h 0 u rfl
    have h1' : s[k]? = some c := by simpa using h1
    obtain ⟨hk, hc⟩ := List.getElem?_eq_some_iff.mp h1'
    rw [List.drop_eq_getElem_cons hk, hc]
    refine .cons ⟨t, h2⟩ (vals_sign (k := k + 1) (fun j v e => ?_) (by rw [List.length_cons] at hl; omega))
    have z := h (j + 1) v (by simpa using e)
    rw [show k + (j + 1) = k + 1 + j by omega] at z
    exact z
section
variable {X : Cx} {G : CT}
theorem call_listS (hc : X.calm = true) : CallR X (.type "list") rListS := by
  intro pins s σ H xs us Q I r h
  obtain ⟨z, rfl, hz, q⟩ := h
  obtain ⟨u, rfl, t, rfl⟩ := vals1 r
  refine call_list_str (I.ok.hd hc) ⟨z.toArray⟩ t (fun h' tk acc' c' hk hS hacc => ?_) (by simpa using hz)
  obtain ⟨ha, hv⟩ := hacc
  have hv' : Vals (z.map fun c => V.str ⟨#[c]⟩) acc'.toList := by
    have := vals_sign (s := z) (us := acc'.toList) (k := 0) (fun j v e => by rw [Nat.zero_add]; exact hv j v (by simpa using e)) (by simpa using ha)
    simpa using this
  exact ⟨.ref s.heap.objs.size, _, I.laid (t' := tk) hk (Nat.le_refl _) (show ObjOk X.prog X.w _ h' _ (.lst _) from ⟨by rw [List.length_map]; exact hz, acc'.toList, c', hv', by simpa using hS⟩), rfl, q _ (I.hok.fresh (Nat.le_refl _))⟩
theorem rls_signs {w : Wd} : ∀ (s : List Nat), Rls G w (s.map fun c => .str [c]) (s.map fun c => V.str ⟨#[c]⟩)
  | [] => rfl
  | c :: s => .cons rfl (rls_signs s)
theorem cf_listS {m : Bool} : CallF G (fListS m) rListS := fun W σ w xs ds Q o rs p => by
  unfold fListS at p
  split at p
  · split at p
    · rename_i s hs
      obtain ⟨x, rfl, rx⟩ := rs.one'
      exact ⟨s, by rw [show x = _ from rx], hs, fun l n => p.mk o (rls_signs s) n⟩
    · exact p.elim
  · exact p.elim
end
end F
/-! Defs, and the law's end. -/
namespace F
open PySem PySem.Spec PyProof.Rows L2

/-- a def's body as a function of its arguments; nl names, np parameters -/
def bodyF (nl np : Nat) (body : Sv) : Fn := fun ds st => if ds.length = np then match body (ds.map some ++ List.replicate (nl - np) none) st with
  | .nx _ s => .ok .non s
  | .rt d s => .ok d s
  | .ex c es _ s => .ex c es s
  | _ => .bad
  else .bad
theorem start_at {G : CT} {w : Wd} : ∀ {ds : List D} {vs : List V} {n i : Nat} {d : D}, Rls G w ds vs → (ds.map some ++ List.replicate n (none : Option D))[i]? = some (some d) → ∃ x, (vs.map some ++ List.replicate n (none : Option V))[i]? = some (some x) ∧ Rl G w d x
  | [], vs, n, i, d, h, e => by
    have e2 : (List.replicate n (none : Option D))[i]? = some (some d) := e
    rw [List.getElem?_replicate] at e2
    split at e2 <;> cases e2
  | y :: ds, vs, n, 0, d, h, e => by
    obtain ⟨x, r, rfl, h1, h2⟩ := h
    have q : y = d := by simpa using e
    subst q
    exact ⟨x, rfl, h1⟩
  | y :: ds, vs, n, i + 1, d, h, e => by
    obtain ⟨x, r, rfl, h1, h2⟩ := h
    obtain ⟨x', e1, r1⟩ := start_at (n := n) (i := i) h2 (by simpa using e)
    exact ⟨x', by simpa using e1, r1⟩
theorem start_env {G : CT} {w : Wd} {ds : List D} {vs : List V} {N : List Str} (h : Rls G w ds vs) : EnvR G w (ds.map some ++ List.replicate (N.length - ds.length) none) (L2.start N vs) := by
  have hl := h.length
  refine ⟨?_, fun i d e => ?_⟩
  · unfold L2.start
    simp [hl]
  · unfold L2.start
    rw [hl]
    exact start_at h e
section
variable {P : Program} {w : World} {K : PySem.W.Frag} {mg : Str → Option Value} {base : Heap} {G : CT}
theorem si_of {m : Sv} {N : List Str} {np : Nat} {vs : List V} {H : Hp} {Q : VK} {E : XK} (h : spI G (bodyF N.length np m) vs H Q E) : SI G (fun c d _ H' => E c d H') m { nx := fun _ H' => Q .non H', rt := Q } (L2.start N vs) H := by
  obtain ⟨w, ds, e1, o, r, p⟩ := h
  unfold bodyF at p
  split at p
  · rename_i hl
    rw [← hl] at p
    refine ⟨w, _, e1, o, start_env r, ?_⟩
    cases e : m (ds.map some ++ List.replicate (N.length - ds.length) none) w.st with
    | nx env s =>
      rw [e] at p
      exact fun w' σ e' o' l' r' => p w' .non e' o' l' rfl
    | rt d s =>
      rw [e] at p
      exact fun w' v e' o' l' r' => p w' v e' o' l' r'
    | bk env s => rw [e] at p; exact p.elim
    | ct env s => rw [e] at p; exact p.elim
    | ex c es env s =>
      rw [e] at p
      exact fun w' σ dd e' o' l' r' x => p w' dd e' o' l' x
    | bad => rw [e] at p; exact p.elim
  · exact p.elim
/-- a def by its body -/
theorem fn_okF {x qual : Str} {st : Stmt} {f : Addr} {fd : FuncData} {N ps : List Str} {k : Nat} {body : Sv} (Fu : Fun K x qual st f fd) (S : FnScope N ps (defScope st))
    (hb : ∀ (cdv : Value) (A : Around) (outer : List PySem.Env) (s : Shared) (H : Hp) (E : XK), Room k (A.deeper (envOfC qual (defScope st) s.heap.objs.size f cdv)) → PSs (cxOf (L2.CX P w) P w K mg base N qual (defScope st) f cdv A outer s H E) (defBody st) (SI G (fun c d _ H' => E c d H') body)) :
    FnOk P w K mg base (L2.CX P w) (k + 1) f fd ps (spI G (bodyF N.length ps.length body)) :=
  Fu.okX S (fun vs H Q E h => spI_len (fun ds st hne => by
    unfold bodyF at hne
    split at hne
    · assumption
    · exact absurd rfl hne) vs H Q E h) fun cdv A outer s H vs Q E hr h => ⟨_, hb cdv A outer s H E hr, si_of h⟩
theorem fn_okG {x qual : Str} {st : Stmt} {f : Addr} {fd : FuncData} {N ps : List Str} {k nl np : Nat} {body : Sv} {sc : Scope} {bd : List Stmt} (hn : N.length = nl) (hp : ps.length = np) (hsc : defScope st = sc) (hbd : defBody st = bd) (Fu : Fun K x qual st f fd) (S : FnScope N ps sc)
    (hb : ∀ (cdv : Value) (A : Around) (outer : List PySem.Env) (s : Shared) (H : Hp) (E : XK), Room k (A.deeper (envOfC qual sc s.heap.objs.size f cdv)) → PSs (cxOf (L2.CX P w) P w K mg base N qual sc f cdv A outer s H E) bd (SI G (fun c d _ H' => E c d H') body)) :
    FnOk P w K mg base (L2.CX P w) (k + 1) f fd ps (spI G (bodyF nl np body)) := by
  subst hn
  subst hp
  subst hsc
  subst hbd
  exact fn_okF Fu S hb
/-- what every body's context gives -/
theorem layX {x qual : Str} {sc : Scope} {N : List Str} {f : Addr} {cdv : Value} {A : Around} {outer : List PySem.Env} {s : Shared} {H : Hp} {E : XK} (hK : K = G.K) : Lay (cxOf (L2.CX P w) P w K mg base N qual sc f cdv A outer s H E) G (fun c d _ H' => E c d H') := ⟨hK, takes_of rfl rfl rfl rfl⟩
end
/-- the law's promise -/
def spLaw (K : PySem.W.Frag) : Sp := fun vs H Q _ => ∃ (a : Addr) (ns : List Int), vs = [.ref a] ∧ SqL K H a (ns.map V.int) ∧ ns.length ≤ 63 ∧ ∀ H', Q (.bl true) H'
theorem ints_rls {G : CT} {w : Wd} : ∀ ns : List Int, Rls G w (ns.map D.int) (ns.map V.int)
  | [] => rfl
  | n :: ns => .cons rfl (ints_rls ns)
theorem law_sp {G : CT} {m : Fn} (h : ∀ ns : List Int, ns.length ≤ 63 → ∃ s, m [.rol (ns.map .int)] [] = .ok (.bl true) s) : ∀ vs H Q E, spLaw G.K vs H Q E → spI G m vs H Q E := fun vs H Q E ⟨a, ns, e, s, hl, k⟩ => by
  subst e
  obtain ⟨s', e⟩ := h ns hl
  have nl : ¬ Wd.live ⟨[], [], H, []⟩ a := fun z => by
    rcases z with z | ⟨i, c, _, _, z⟩
    · exact (List.not_mem_nil z)
    · simp at z
  refine ⟨⟨[], [], H, []⟩, [.rol (ns.map .int)], rfl, ⟨rfl, List.nodup_nil, fun i c a e1 _ => by simp at e1, fun a m => (List.not_mem_nil m).elim⟩, .one ⟨a, ns.map .int, rfl, ?_, ints_rls ns⟩, ?_⟩
  · rcases s with s | s
    · exact .inl ⟨s, nl⟩
    · exact .inr s
  · rw [e]
    exact fun w' v _ _ _ r => by
      rw [show v = _ from r]
      exact k _
theorem cx_no {P : Program} {w : World} (H : Hp) (s : Shared) (e : Value) (s' : Shared) : L2.CX P w [] H s (fun _ _ _ => False) e s' → False := fun h => by
  obtain ⟨_, _, _, _, _, _, _, _, _, _, _, _, z⟩ := h
  exact z.elim
theorem walk {l : PySem.W.OpenLaw} {q : Program} {loose : List Str} {XP : (Str → Option Value) → Heap → Prop} {YP : World → Heap → Prop} {d : DefRec} {K : Params → PySem.W.Frag} (k : Nat) (hk : Room k callerA) (hn : l.most = some 63) (hdf : d.params.defaults = [])
    (hY : ∀ (w : World) (h : Heap), YP w h → (K w.params).In h)
    (Fx : ∀ (w : World) (mg : Str → Option Value) (fa : Addr) (h : Heap), (K w.params).In h → h.Ns mainGlobals mg → mg d.name = some (.ref fa) →
      ∃ fd : FuncData, (∀ (s : Shared) (u : Value), BindsTo s fd ⟨[u], []⟩ [("script", u)]) ∧ ∀ base : Heap, (K w.params).In base → base.Ns mainGlobals mg → FnOk l.prog w (K w.params) mg base (L2.CX l.prog w) k fa fd ["script"] (spLaw (K w.params))) :
    PySem.W.WalkO q loose XP YP l.row.toRowW d [] (fun f vs => PySem.call f vs) :=
  L2.walk_of (n := 63) (k := k) (x := "script") (CX := fun w => L2.CX l.prog w) (sp := fun w => spLaw (K w.params)) hn (by decide) hdf hk hY Fx (fun _ _ a ns hl _ hS => ⟨a, ns, rfl, hS, hl, fun _ => rfl⟩) fun _ => cx_no
end F
/-! The rules in short, as a program prints them. -/
namespace F
open PySem PySem.Spec PyProof.Rows L2

def fListA (m : Bool) : Fn := fun ds st => match ds with
  | [.str s] => if s.length ≤ sizeLine then mkL m (s.map fun c => .str [c]) st else .bad
  | [.tup es] => mkL m es st
  | [d] => match asL d st with
    | some es => mkL m es st
    | none => .bad
  | _ => .bad
def eFrz (m : Ev) : Ev := fun env st => (m env st).bind fun d s => match d with
  | .ref i => match s[i]? with
    | some (.lst ds) => .ok (.lst ds) (s.set i .dead)
    | _ => .bad
  | d => .ok d s
def eNeg (m : Ev) : Ev := fun env st => (m env st).bind fun d s => match d with
  | .int i => .ok (.int (-i)) s
  | _ => .bad
section
variable {X : Cx} {G : CT} {W : WX} {pos p cpos apos : Pos} {a b e ob ix : Expr} {es : List Expr} {ma mb me mo mi : Ev} {mr : Av}
theorem cf_listA (m : Bool) : CallF G (fListA m) (fun xs H Q => (∃ p ys, xs = [.ref p] ∧ (SqL G.K H p ys ∨ SqT G.K H p ys) ∧ ∀ l, H l = none → Q (.ref l) (upd H l (.lst ys))) ∨ rListS xs H Q) := fun W σ w xs ds Q o rs p => by
  unfold fListA at p
  split at p
  · split at p
    · rename_i s hs
      obtain ⟨x, rfl, rx⟩ := rs.one'
      exact .inr ⟨s, by rw [show x = _ from rx], hs, fun l n => p.mk o (rls_signs s) n⟩
    · exact p.elim
  · obtain ⟨x, rfl, rx⟩ := rs.one'
    obtain ⟨a, ys, rfl, sq, r⟩ := rx
    exact .inl ⟨a, ys, rfl, .inr sq.sq, fun l n => p.mk o r n⟩
  · split at p
    · rename_i es h
      obtain ⟨x, rfl, rx⟩ := rs.one'
      obtain ⟨a, ys, rfl, sq, r⟩ := asL_sq o h rx
      exact .inl ⟨a, ys, rfl, .inl sq, fun l n => p.mk o r n⟩
    · exact p.elim
  · exact p.elim
theorem q_frz (ha : PE X a (EI G W ma)) : PE X a (EI G W (eFrz ma)) := ha.imp fun σ H Q ⟨w, env, e1, o, er, p⟩ =>
  ⟨w, env, e1, o, er, p.bind fun w1 d x o1 l1 r1 p1 => by
    split at p1
    · split at p1
      · rename_i i _ ds hs
        obtain ⟨b, hb, rfl⟩ := r1
        obtain ⟨ys, e2, q⟩ := o1.cell i _ b hs hb
        have lf := le_free (w := w1) hs rfl
        exact p1 ⟨w1.ρ, w1.st.set i .dead, w1.H, w1.hid⟩ (.ref b) rfl (ok_free o1 hs rfl) lf ⟨b, ys, rfl, ⟨e2, free_nlive o1 hb⟩, q.mono lf⟩
      · exact p1.elim
    · exact p1.ok o1 r1⟩
theorem q_neg (ha : PE X a (EI G W ma)) : PE X (.UnaryOp .USub a pos) (EI G W (eNeg ma)) := (pe_un un_neg ha).imp fun σ H Q ⟨w, env, e1, o, er, p⟩ =>
  ⟨w, env, e1, o, er, p.bind fun w1 d x o1 l1 r1 p1 => by
    split at p1
    · exact ⟨_, r1, p1.ok o1 rfl⟩
    · exact p1.elim⟩
/-! built-ins -/
section
variable {x : Str}
theorem k_len (L : Lay X G W) (hg : Gl X "len") (hm : X.mg "len" = none) (ha : PA X [a] (AI G W mr)) (h1 : starEach [a] X.env = (false, eval a X.env) :: starEach [] X.env := by rfl) : PE X (.Call (.Name "len" p) [a] [] pos) (EI G W (eCall fLen mr)) := q_callB call_len (by rw [L.K]; exact cf_len) hg hm boot_len ha (by decide) (by decide) h1 rfl
theorem k_abs (hg : Gl X "abs") (hm : X.mg "abs" = none) (ha : PA X [a] (AI G W mr)) (h1 : starEach [a] X.env = (false, eval a X.env) :: starEach [] X.env := by rfl) : PE X (.Call (.Name "abs" p) [a] [] pos) (EI G W (eCall fAbs mr)) := q_callB call_abs cf_abs hg hm PyProof.Rows.boot_abs ha (by decide) (by decide) h1 rfl
theorem k_max1 (L : Lay X G W) (hc : X.calm = true) (hg : Gl X "max") (hm : X.mg "max" = none) (ha : PA X [a] (AI G W mr)) (h1 : starEach [a] X.env = (false, eval a X.env) :: starEach [] X.env := by rfl) : PE X (.Call (.Name "max" p) [a] [] pos) (EI G W (eCall fMax mr)) := q_callB (F.CallR.or (call_max2 hc) (cr_max hc)) (by rw [L.K]; exact cf_max) hg hm PyProof.Rows.boot_max ha (by decide) (by decide) h1 rfl
theorem k_max2 (L : Lay X G W) (hc : X.calm = true) (hg : Gl X "max") (hm : X.mg "max" = none) (ha : PA X [a, b] (AI G W mr)) (h1 : starEach [a, b] X.env = (false, eval a X.env) :: starEach [b] X.env := by rfl) (h2 : (backTo pos (starEach [b] X.env)).any (·.1) = false := by rfl) : PE X (.Call (.Name "max" p) [a, b] [] pos) (EI G W (eCall fMax mr)) := q_callB (F.CallR.or (call_max2 hc) (cr_max hc)) (by rw [L.K]; exact cf_max) hg hm PyProof.Rows.boot_max ha (by decide) (by decide) h1 h2
theorem k_min1 (L : Lay X G W) (hc : X.calm = true) (hg : Gl X "min") (hm : X.mg "min" = none) (ha : PA X [a] (AI G W mr)) (h1 : starEach [a] X.env = (false, eval a X.env) :: starEach [] X.env := by rfl) : PE X (.Call (.Name "min" p) [a] [] pos) (EI G W (eCall fMin mr)) := q_callB (F.CallR.or (call_min2 hc) (cr_min hc)) (by rw [L.K]; exact cf_min) hg hm PyProof.Rows.boot_min ha (by decide) (by decide) h1 rfl
theorem k_min2 (L : Lay X G W) (hc : X.calm = true) (hg : Gl X "min") (hm : X.mg "min" = none) (ha : PA X [a, b] (AI G W mr)) (h1 : starEach [a, b] X.env = (false, eval a X.env) :: starEach [b] X.env := by rfl) (h2 : (backTo pos (starEach [b] X.env)).any (·.1) = false := by rfl) : PE X (.Call (.Name "min" p) [a, b] [] pos) (EI G W (eCall fMin mr)) := q_callB (F.CallR.or (call_min2 hc) (cr_min hc)) (by rw [L.K]; exact cf_min) hg hm PyProof.Rows.boot_min ha (by decide) (by decide) h1 h2
theorem k_sum (L : Lay X G W) (hc : X.calm = true) (hg : Gl X "sum") (hm : X.mg "sum" = none) (ha : PA X [a] (AI G W mr)) (h1 : starEach [a] X.env = (false, eval a X.env) :: starEach [] X.env := by rfl) : PE X (.Call (.Name "sum" p) [a] [] pos) (EI G W (eCall fSum mr)) := q_callB (cr_sum hc) (by rw [L.K]; exact cf_sum) hg hm PyProof.Rows.boot_sum ha (by decide) (by decide) h1 rfl
theorem k_any (L : Lay X G W) (hc : X.calm = true) (hg : Gl X "any") (hm : X.mg "any" = none) (ha : PA X [a] (AI G W mr)) (h1 : starEach [a] X.env = (false, eval a X.env) :: starEach [] X.env := by rfl) : PE X (.Call (.Name "any" p) [a] [] pos) (EI G W (eCall fAny mr)) := q_callB (cr_any hc) (by rw [L.K]; exact cf_any) hg hm PyProof.Rows.boot_any ha (by decide) (by decide) h1 rfl
theorem k_all (L : Lay X G W) (hc : X.calm = true) (hg : Gl X "all") (hm : X.mg "all" = none) (ha : PA X [a] (AI G W mr)) (h1 : starEach [a] X.env = (false, eval a X.env) :: starEach [] X.env := by rfl) : PE X (.Call (.Name "all" p) [a] [] pos) (EI G W (eCall fAll mr)) := q_callB (cr_all hc) (by rw [L.K]; exact cf_all) hg hm PyProof.Rows.boot_all ha (by decide) (by decide) h1 rfl
theorem k_int (hg : Gl X "int") (hm : X.mg "int" = none) (ha : PA X [a] (AI G W mr)) (h1 : starEach [a] X.env = (false, eval a X.env) :: starEach [] X.env := by rfl) : PE X (.Call (.Name "int" p) [a] [] pos) (EI G W (eCall fInt mr)) := q_callTy call_int1 cf_int hg hm (by decide +kernel) ha (by decide) (by decide) h1 rfl
theorem k_list (m : Bool) (L : Lay X G W) (hc : X.calm = true) (hg : Gl X "list") (hm : X.mg "list" = none) (ha : PA X [a] (AI G W mr)) (h1 : starEach [a] X.env = (false, eval a X.env) :: starEach [] X.env := by rfl) : PE X (.Call (.Name "list" p) [a] [] pos) (EI G W (eCall (fListA m) mr)) := q_callTy (F.CallR.or call_list_of (call_listS hc)) (by rw [L.K]; exact cf_listA m) hg hm (by decide +kernel) ha (by decide) (by decide) h1 rfl
theorem k_tuple (L : Lay X G W) (hg : Gl X "tuple") (hm : X.mg "tuple" = none) (ha : PA X [a] (AI G W mr)) (h1 : starEach [a] X.env = (false, eval a X.env) :: starEach [] X.env := by rfl) : PE X (.Call (.Name "tuple" p) [a] [] pos) (EI G W (eCall fTuple mr)) := q_callTy call_tuple_of (by rw [L.K]; exact cf_tuple) hg hm (by decide +kernel) ha (by decide) (by decide) h1 rfl
theorem k_divmod (hg : Gl X "divmod") (hm : X.mg "divmod" = none) (ha : PA X [a, b] (AI G W mr)) (h1 : starEach [a, b] X.env = (false, eval a X.env) :: starEach [b] X.env := by rfl) (h2 : (backTo pos (starEach [b] X.env)).any (·.1) = false := by rfl) : PE X (.Call (.Name "divmod" p) [a, b] [] pos) (EI G W (eCall fDivmod mr)) := q_callB call_divmod cf_divmod hg hm (by decide +kernel) ha (by decide) (by decide) h1 h2
theorem k_range {c : Expr} (hg : Gl X "range") (hm : X.mg "range" = none) (ha : PA X [a, b, c] (AI G W mr)) (h1 : starEach [a, b, c] X.env = (false, eval a X.env) :: starEach [b, c] X.env := by rfl) (h2 : (backTo pos (starEach [b, c] X.env)).any (·.1) = false := by rfl) : PE X (.Call (.Name "range" p) [a, b, c] [] pos) (EI G W (eCall fRange mr)) := q_callTy cr_rangeV cf_rangeV hg hm boot_range ha (by decide) (by decide) h1 h2
theorem k_range2 (hg : Gl X "range") (hm : X.mg "range" = none) (ha : PA X [a, b] (AI G W mr)) (h1 : starEach [a, b] X.env = (false, eval a X.env) :: starEach [b] X.env := by rfl) (h2 : (backTo pos (starEach [b] X.env)).any (·.1) = false := by rfl) : PE X (.Call (.Name "range" p) [a, b] [] pos) (EI G W (eCall fRange mr)) := q_callTy cr_rangeV cf_rangeV hg hm boot_range ha (by decide) (by decide) h1 h2
theorem k_isi {tb : List ((Ty × Ty) × Bool)} (L : Lay X G W) (hk : CallF G (fIsi tb) (rIsi G.K)) (hg : Gl X "isinstance") (hm : X.mg "isinstance" = none) (ha : PA X [a, b] (AI G W mr)) (h1 : starEach [a, b] X.env = (false, eval a X.env) :: starEach [b] X.env := by rfl) (h2 : (backTo pos (starEach [b] X.env)).any (·.1) = false := by rfl) : PE X (.Call (.Name "isinstance" p) [a, b] [] pos) (EI G W (eCall (fIsi tb) mr)) := q_callB call_isi (by rw [L.K]; exact hk) hg hm PyProof.Rows.boot_isinstance ha (by decide) (by decide) h1 h2
end
/-! methods of lists and texts -/
theorem k_append (L : Lay X G W) (ho : PE X ob (EI G W mo)) (ha : PA X [a] (AI G W mr)) (hbase : attributeBase ob "append" X.env (eval ob X.env) = eval ob X.env := by rfl) (hline : (apos.endLine == cpos.line) = true := by rfl) (h1 : starEach [a] X.env = (false, eval a X.env) :: starEach [] X.env := by rfl) (hfew : ((backTo cpos (starEach [a] X.env)).all (fun x => !x.1) && (backToKw cpos (keywordEach [] X.env)).all (fun x => x.1.isSome) && decide ([a].length + ([] : List Keyword).length + (if ([] : List Keyword).isEmpty then 0 else 1) < 30)) = true := by rfl) :
    PE X (.Call (.Attribute ob "append" apos) [a] [] cpos) (EI G W (eBM isLst fAppend mo mr)) := q_bm L PySem.F.plainAttrs_list slot_list_append type_list_append (mt_append (X := X)) ty_lst mf_append ho ha hbase hfew hline h1 rfl
theorem k_extend (L : Lay X G W) (ho : PE X ob (EI G W mo)) (ha : PA X [a] (AI G W mr)) (hbase : attributeBase ob "extend" X.env (eval ob X.env) = eval ob X.env := by rfl) (hline : (apos.endLine == cpos.line) = true := by rfl) (h1 : starEach [a] X.env = (false, eval a X.env) :: starEach [] X.env := by rfl) (hfew : ((backTo cpos (starEach [a] X.env)).all (fun x => !x.1) && (backToKw cpos (keywordEach [] X.env)).all (fun x => x.1.isSome) && decide ([a].length + ([] : List Keyword).length + (if ([] : List Keyword).isEmpty then 0 else 1) < 30)) = true := by rfl) :
    PE X (.Call (.Attribute ob "extend" apos) [a] [] cpos) (EI G W (eBM isLst fExtend mo mr)) := q_bm L PySem.F.plainAttrs_list PySem.F.slot_list_extend PySem.F.type_list_extend (mt_extend (X := X)) ty_lst mf_extend ho ha hbase hfew hline h1 rfl
theorem k_popAt (L : Lay X G W) (ho : PE X ob (EI G W mo)) (ha : PA X [a] (AI G W mr)) (hbase : attributeBase ob "pop" X.env (eval ob X.env) = eval ob X.env := by rfl) (hline : (apos.endLine == cpos.line) = true := by rfl) (h1 : starEach [a] X.env = (false, eval a X.env) :: starEach [] X.env := by rfl) (hfew : ((backTo cpos (starEach [a] X.env)).all (fun x => !x.1) && (backToKw cpos (keywordEach [] X.env)).all (fun x => x.1.isSome) && decide ([a].length + ([] : List Keyword).length + (if ([] : List Keyword).isEmpty then 0 else 1) < 30)) = true := by rfl) :
    PE X (.Call (.Attribute ob "pop" apos) [a] [] cpos) (EI G W (eBM isLst fPopAt mo mr)) := q_bm L PySem.F.plainAttrs_list PySem.F.slot_list_pop PySem.F.type_list_pop (mt_popAt (X := X)) ty_lst mf_popAt ho ha hbase hfew hline h1 rfl
theorem k_pop (L : Lay X G W) (ho : PE X ob (EI G W mo)) (hbase : attributeBase ob "pop" X.env (eval ob X.env) = eval ob X.env := by rfl) (hline : (apos.endLine == cpos.line) = true := by rfl) :
    PE X (.Call (.Attribute ob "pop" apos) [] [] cpos) (EI G W (eBM isLst fPop mo aNil)) := q_bm0 L PySem.F.plainAttrs_list PySem.F.slot_list_pop PySem.F.type_list_pop (mt_pop (X := X)) ty_lst mf_pop ho hbase hline
theorem k_count (L : Lay X G W) (ho : PE X ob (EI G W mo)) (ha : PA X [a] (AI G W mr)) (hbase : attributeBase ob "count" X.env (eval ob X.env) = eval ob X.env := by rfl) (hline : (apos.endLine == cpos.line) = true := by rfl) (h1 : starEach [a] X.env = (false, eval a X.env) :: starEach [] X.env := by rfl) (hfew : ((backTo cpos (starEach [a] X.env)).all (fun x => !x.1) && (backToKw cpos (keywordEach [] X.env)).all (fun x => x.1.isSome) && decide ([a].length + ([] : List Keyword).length + (if ([] : List Keyword).isEmpty then 0 else 1) < 30)) = true := by rfl) :
    PE X (.Call (.Attribute ob "count" apos) [a] [] cpos) (EI G W (eBM isStr fCountS mo mr)) := q_bm L PySem.F.plainAttrs_str PySem.F.slot_str_count PySem.F.type_str_count (mt_count (X := X)) ty_str mf_countS ho ha hbase hfew hline h1 rfl
theorem k_startswith (L : Lay X G W) (ho : PE X ob (EI G W mo)) (ha : PA X [a] (AI G W mr)) (hbase : attributeBase ob "startswith" X.env (eval ob X.env) = eval ob X.env := by rfl) (hline : (apos.endLine == cpos.line) = true := by rfl) (h1 : starEach [a] X.env = (false, eval a X.env) :: starEach [] X.env := by rfl) (hfew : ((backTo cpos (starEach [a] X.env)).all (fun x => !x.1) && (backToKw cpos (keywordEach [] X.env)).all (fun x => x.1.isSome) && decide ([a].length + ([] : List Keyword).length + (if ([] : List Keyword).isEmpty then 0 else 1) < 30)) = true := by rfl) :
    PE X (.Call (.Attribute ob "startswith" apos) [a] [] cpos) (EI G W (eBM isStr fStartswith mo mr)) := q_bm L PySem.F.plainAttrs_str PySem.F.slot_str_startswith PySem.F.type_str_startswith (mt_startswith (X := X)) ty_str mf_startswith ho ha hbase hfew hline h1 rfl
theorem k_split (m : Bool) (L : Lay X G W) (ho : PE X ob (EI G W mo)) (ha : PA X [a] (AI G W mr)) (hbase : attributeBase ob "split" X.env (eval ob X.env) = eval ob X.env := by rfl) (hline : (apos.endLine == cpos.line) = true := by rfl) (h1 : starEach [a] X.env = (false, eval a X.env) :: starEach [] X.env := by rfl) (hfew : ((backTo cpos (starEach [a] X.env)).all (fun x => !x.1) && (backToKw cpos (keywordEach [] X.env)).all (fun x => x.1.isSome) && decide ([a].length + ([] : List Keyword).length + (if ([] : List Keyword).isEmpty then 0 else 1) < 30)) = true := by rfl) :
    PE X (.Call (.Attribute ob "split" apos) [a] [] cpos) (EI G W (eBM isStr (fSplit m) mo mr)) := q_bm L PySem.F.plainAttrs_str PySem.F.slot_str_split PySem.F.type_str_split (mt_split (X := X)) ty_str (mf_split m) ho ha hbase hfew hline h1 rfl
theorem k_join (L : Lay X G W) (ho : PE X ob (EI G W mo)) (ha : PA X [a] (AI G W mr)) (hbase : attributeBase ob "join" X.env (eval ob X.env) = eval ob X.env := by rfl) (hline : (apos.endLine == cpos.line) = true := by rfl) (h1 : starEach [a] X.env = (false, eval a X.env) :: starEach [] X.env := by rfl) (hfew : ((backTo cpos (starEach [a] X.env)).all (fun x => !x.1) && (backToKw cpos (keywordEach [] X.env)).all (fun x => x.1.isSome) && decide ([a].length + ([] : List Keyword).length + (if ([] : List Keyword).isEmpty then 0 else 1) < 30)) = true := by rfl) :
    PE X (.Call (.Attribute ob "join" apos) [a] [] cpos) (EI G W (eBM isStr fJoin mo mr)) := q_bm L PySem.F.plainAttrs_str PySem.F.slot_str_join PySem.F.type_str_join (mt_join (X := X)) ty_str (by rw [L.K]; exact mf_join) ho ha hbase hfew hline h1 rfl
/-! stores -/
theorem k_setIx {sp : Pos} (he : PE X e (EI G W me)) (ho : PE X ob (EI G W mo)) (hi : PE X ix (EI G W mi)) (hs : swapsWithSole [.Subscript ob ix sp] e pos.line X.env = pure false := by rfl) (hw : swappedStores [.Subscript ob ix sp] e X.env = pure none := by rfl)
    (ha : ∀ v, assign (.Subscript ob ix sp) X.env v = (do
      let ov ← holding [v] (eval ob X.env)
      let iv ← holding [v, ov] (eval ix X.env)
      standAt sp
      holding [v, ov, iv] (setItem ov iv v)
      release [v, ov, iv] []) := by intro _; rfl) : PS X (.Assign [.Subscript ob ix sp] e pos) (SI G W (sSetIx mo mi me)) := z_setIx he ho hi hs hw (pg_sub ho hi set_list ha)
theorem k_augAdd {i : Nat} {x : Str} {pos' : Pos} (hN : X.N.Nodup) (hi : X.N[i]? = some x) (hx : Loc X.env.scope x) (he : PE X e (EI G W me)) (hfn : X.fn x = true ∨ X.env.scope.names.lookup x = some .local := by first | exact .inl rfl | exact .inr rfl | assumption) : PS X (.AugAssign (.Name x pos') .Add e pos) (SI G W (sAug (fArith fun i j => i + j) i me)) := z_aug iop_add of_arith hN hi hx he hfn
theorem k_augSub {i : Nat} {x : Str} {pos' : Pos} (hN : X.N.Nodup) (hi : X.N[i]? = some x) (hx : Loc X.env.scope x) (he : PE X e (EI G W me)) (hfn : X.fn x = true ∨ X.env.scope.names.lookup x = some .local := by first | exact .inl rfl | exact .inr rfl | assumption) : PS X (.AugAssign (.Name x pos') .Sub e pos) (SI G W (sAug (fArith fun i j => i - j) i me)) := z_aug iop_sub of_arith hN hi hx he hfn
end
end F
namespace F
open PySem PySem.Spec PyProof.Rows L2
section
variable {X : Cx} {G : CT} {W : WX} {pos p apos : Pos} {e ob : Expr} {es : List Expr} {ma : Av} {mo : Ev} {m : Fn} {x name : Str} {n k c : Nat} {f : Addr} {fd : FuncData} {ps : List Str}
/-- f(..), every parameter given -/
theorem k_call (L : Lay X G W) (Fo : FnOk X.prog X.w X.K X.mg X.base (L2.CX X.prog X.w) k f fd ps (spI G m)) (hr : Room k X.A) (hg : Gl X x) (hm : X.mg x = some (.ref f)) (hk : PySem.W.keepIn X.K (.ref f) = true) (hb : Binds X.K fd ps [])
    (ha : PA X (e :: es) (AI G W ma)) (hdb : (x == ("__debug__" : Str)) = false := by decide) (he : starEach (e :: es) X.env = (false, eval e X.env) :: starEach es X.env := by rfl) (hpl : (backTo pos (starEach es X.env)).any (·.1) = false := by rfl) :
    PE X (.Call (.Name x p) (e :: es) [] pos) (EI G W (eFn m [] ma)) := q_call L Fo hr hg hm hk hb .nil (fun _ => rfl) ha hdb he hpl
theorem k_call0 (L : Lay X G W) (Fo : FnOk X.prog X.w X.K X.mg X.base (L2.CX X.prog X.w) k f fd ps (spI G m)) (hr : Room k X.A) (hg : Gl X x) (hm : X.mg x = some (.ref f)) (hk : PySem.W.keepIn X.K (.ref f) = true) (hb : Binds X.K fd ps [])
    (hdb : (x == ("__debug__" : Str)) = false := by decide) : PE X (.Call (.Name x p) [] [] pos) (EI G W (eFn m [] aNil)) := q_call0 L Fo hr hg hm hk hb .nil (fun _ => rfl) hdb
theorem k_new (fr : Bool) (L : Lay X G W) (M : Mk X.K (G.cls c) f) (Fo : FnOk X.prog X.w X.K X.mg X.base (L2.CX X.prog X.w) k f fd ps (spI G m)) (hr : Room (k + 1) X.A) (hg : Gl X x) (hm : X.mg x = some (.ref (G.cls c))) (hb : Binds X.K fd ps []) (hn : n = (G.fld c).length)
    (ha : PA X (e :: es) (AI G W ma)) (hdb : (x == ("__debug__" : Str)) = false := by decide) (he : starEach (e :: es) X.env = (false, eval e X.env) :: starEach es X.env := by rfl) (hpl : (backTo pos (starEach es X.env)).any (·.1) = false := by rfl) :
    PE X (.Call (.Name x p) (e :: es) [] pos) (EI G W (eNew c n fr m [] ma)) := q_new L M Fo hr hg hm hb .nil (fun _ => rfl) hn ha hdb he hpl
/-- a method's facts, every parameter given -/
theorem met_of {P : Program} {w : World} {mg : Str → Option Value} {base : Heap} {j : Nat} (cl : Cls G.K (G.cls c)) (no : name ∉ G.fld c) (me : Meth G.K (G.cls c) name f) (Fo : FnOk P w G.K mg base (L2.CX P w) j f fd ps (spI G m)) (hj : j ≤ k) (hb : Binds G.K fd ps []) : MetF P w G mg base k name [] c m :=
  ⟨cl, no, f, fd, ps, [], [], me, Fo.mono hj, hb, .nil, fun _ => rfl⟩
end
end F
/-! for and comprehensions over what may be a live list: its items are looked up turn by turn. -/
namespace F
open PySem PySem.Spec PyProof.Rows L2

def ServesA (G : CT) (w₀ : Wd) (d : D) (J : It) : Prop := match d with
  | .ref i => (asL (.ref i) w₀.st).isSome = true ∧ Serves1 G w₀ (.ref i) J
  | d => ∃ ds, itemsD d = some ds ∧ Serves G w₀ ds J
/-- what one walks: a value -/
def vAny (m : Ev) : Ev := fun env st => (m env st).bind fun d s => match d with
  | .ref i => match asL (.ref i) s with
    | some _ => .ok (.ref i) s
    | none => .bad
  | d => match itemsD d with
    | some _ => .ok d s
    | none => .bad
abbrev WA (G : CT) (W : WX) (m : Ev) : TI := RI G W (ServesA G) m
def loopA (t : Tg) (body : Sv) (d : D) : Env → Sto → Out := fun env st => match d with
  | .ref i => match asL (.ref i) st with
    | some ds => loopC (.ref i) t body ds.length 0 env st
    | none => .bad
  | d => match itemsD d with
    | some ds => loop t body ds env st
    | none => .bad
def sForA (m : Ev) (t : Tg) (body : Sv) : Sv := fun env st => (m env st).andS env fun d s => loopA t body d env s
section
variable {X : Cx} {G : CT} {W : WX} {pos : Pos} {tg it c : Expr} {sb : List Stmt} {t : Tg} {body : Sv} {m : Ev}
theorem w_anyA (L : Lay X G W) (h : PE X it (EI G W m)) : PI X tg it (WA G W (vAny m)) := ((pi_list h).or ((pi_tup h).or (pi_str h))).imp fun σ H Q ⟨w, env, e1, o, er, p⟩ => by
  cases q : m env w.st with
  | bad =>
    unfold vAny at p
    rw [q] at p
    exact p.elim
  | ex c es s =>
    refine .inl ⟨w, env, e1, o, er, ?_⟩
    unfold vAny at p
    rw [q] at p ⊢
    exact p
  | ok d s =>
    unfold vAny at p
    rw [q] at p
    cases d with
    | ref i =>
      refine .inl ⟨w, env, e1, o, er, ?_⟩
      rw [q]
      have p' : Post G W (ServesA G) σ w (match asL (.ref i) s with | some _ => .ok (.ref i) s | none => .bad) Q := p
      split at p'
      · rename_i ds0 hs
        refine fun w' v e' o' l' r' => ?_
        subst e'
        obtain ⟨a, xs, rfl, sq, q0⟩ := asL_sq o' hs r'
        refine ⟨a, rfl, ⟨xs, by rw [L.K]; exact sq⟩, ?_⟩
        rw [L.K]
        refine p' w' (Itl G.K a) rfl o' l' ⟨by rw [hs]; rfl, fun w2 o2 l2 ds hd => ?_⟩
        obtain ⟨b, ys, eb, s2, q2⟩ := asL_sq o2 hd (r'.monoW l2)
        cases eb
        refine ⟨fun i y ey => ?_, fun i hi => ⟨ys, s2, by rw [q2.length]; exact hi⟩⟩
        obtain ⟨x, ex, rx⟩ := q2.get ey
        refine ⟨⟨ys, x, s2, ex⟩, fun y' H' hy => ?_⟩
        obtain ⟨rfl, hy⟩ := hy
        have e2 := hy ys s2
        rw [ex] at e2
        cases e2
        exact ⟨w2, rfl, rfl, o2, Le.refl _, rx⟩
      · exact p'.elim
    | lst ds =>
      refine .inl ⟨w, env, e1, o, er, ?_⟩
      rw [q]
      refine fun w' v e' o' l' r' => ?_
      obtain ⟨a, xs, rfl, sq, rs⟩ := r'
      exact ⟨a, rfl, ⟨xs, SqL.of sq.1⟩, by rw [L.K]; exact p w' _ e' o' l' ⟨ds, rfl, serves_list (.inl ⟨.inl sq.1, sq.2⟩) rs⟩⟩
    | rol ds =>
      refine .inl ⟨w, env, e1, o, er, ?_⟩
      rw [q]
      refine fun w' v e' o' l' r' => ?_
      obtain ⟨a, xs, rfl, sq, rs⟩ := r'
      exact ⟨a, rfl, ⟨xs, by rw [L.K]; exact sq.sq⟩, by rw [L.K]; exact p w' _ e' o' l' ⟨ds, rfl, serves_list sq rs⟩⟩
    | tup ds =>
      refine .inr (.inl ⟨w, env, e1, o, er, ?_⟩)
      rw [q]
      refine fun w' v e' o' l' r' => ?_
      obtain ⟨a, xs, rfl, sq, rs⟩ := r'
      exact ⟨a, rfl, ⟨xs, by rw [L.K]; exact sq.sq⟩, by rw [L.K]; exact p w' _ e' o' l' ⟨ds, rfl, serves_tup sq rs⟩⟩
    | str z =>
      refine .inr (.inr ⟨w, env, e1, o, er, ?_⟩)
      rw [q]
      exact fun w' v e' o' l' r' => ⟨_, r', p w' _ e' o' l' ⟨_, rfl, serves_str⟩⟩
    | _ => exact p.elim
theorem z_forA (hp : PassesOwn (model X.prog X.w) X.A X.env X.xe) (hc : X.calm = true) (hi : PI X tg it (WA G W m)) (hg : PG X tg (gI G t)) (hb : PSs X sb (SI G W body)) (hs : ∀ x, foldedSetIterable it X.env x = pure x := by intro _; rfl) :
    PS X (.For tg it sb [] pos) (SI G W (sForA m t body)) := (ps_for hp hc hi hg hb hs).imp fun D σ H ⟨w, env, e1, o, er, p⟩ =>
  ⟨w, env, e1, o, er, PostS.bind er p fun w0 d J o0 l0 sv p0 => by
    by_cases hr : ∃ i, d = .ref i
    · obtain ⟨i0, rfl⟩ := hr
      obtain ⟨_, sv⟩ := sv
      have p0' : PostS G W w0 (match asL (.ref i0) w0.st with | some ds => loopC (.ref i0) t body ds.length 0 env w0.st | none => .bad) D := p0
      split at p0'
      rotate_left
      · exact p0'.elim
      refine ⟨fun i n σ H => ∃ w env, w.H = H ∧ Ok G w ∧ Le w0 w ∧ EnvR G w env σ ∧ PostS G W w (loopC (.ref i0) t body n i env w.st) D, ⟨_, w0, env, rfl, o0, Le.refl _, er.mono l0, p0'⟩, ?_⟩
      rintro i n σ1 H1 ⟨w1, env1, rfl, o1, l1, er1, p1⟩
      cases n with
      | zero =>
        unfold loopC at p1
        split at p1
        · split at p1
          · rename_i ds hd hl
            exact .inl ⟨(sv w1 o1 l1.toLw ds hd).2 i hl, p1.toNx o1 er1⟩
          · exact p1.elim
        · exact p1.elim
      | succ n =>
        unfold loopC at p1
        split at p1
        · exact p1.elim
        · rename_i ds hd
          obtain ⟨s1, s2⟩ := sv w1 o1 l1.toLw ds hd
          split at p1
          · rename_i hn
            exact .inl ⟨s2 i (List.getElem?_eq_none_iff.mp hn), p1.toNx o1 er1⟩
          · rename_i y hy
            obtain ⟨g1, g2⟩ := s1 i y hy
            split at p1
            · exact p1.elim
            · rename_i env2 ht
              refine .inr ⟨g1, fun σ' H' => ∃ w env, w.H = H' ∧ Ok G w ∧ Le w0 w ∧ EnvR G w env σ' ∧ PostS G W w (loopC (.ref i0) t body n (i + 1) env w.st) D, fun σ' H' q => ⟨n, Nat.lt_succ_self _, q⟩, fun x H' yy => ?_⟩
              obtain ⟨w2, rfl, e2, o2, l2, r2⟩ := g2 x H' yy
              refine ⟨w2, env1, y, rfl, o2, er1.mono l2, r2, env2, ht, fun σ2 er2 => ⟨w2, env2, rfl, o2, er2, ?_⟩⟩
              have p2 := PostS.mono l2 p1
              rw [← e2] at p2
              exact body_of (f := fun e s => loopC (.ref i0) t body n (i + 1) e s) p2 fun w3 e3 σ3 o3 l3 r3 p3 => ⟨w3, e3, rfl, o3, l1.trans (l2.trans l3), r3, p3⟩
    · have key : ∃ ds, Serves G w0 ds J ∧ PostS G W w0 (loop t body ds env w0.st) D := by
        cases d with
        | ref i => exact absurd ⟨i, rfl⟩ hr
        | lst ds =>
          obtain ⟨ds', e, s⟩ := sv
          cases e
          exact ⟨ds, s, p0⟩
        | rol ds =>
          obtain ⟨ds', e, s⟩ := sv
          cases e
          exact ⟨ds, s, p0⟩
        | tup ds =>
          obtain ⟨ds', e, s⟩ := sv
          cases e
          exact ⟨ds, s, p0⟩
        | str z =>
          obtain ⟨ds', e, s⟩ := sv
          cases e
          exact ⟨_, s, p0⟩
        | _ =>
          obtain ⟨ds', e, s⟩ := sv
          cases e
      obtain ⟨ds, sv, p0⟩ := key
      refine ⟨fun i n σ H => n = ds.length - i ∧ i ≤ ds.length ∧ ∃ w env, w.H = H ∧ Ok G w ∧ Le w0 w ∧ EnvR G w env σ ∧ PostS G W w (loop t body (ds.drop i) env w.st) D, ⟨_, rfl, Nat.zero_le _, w0, env, rfl, o0, Le.refl _, er.mono l0, p0⟩, ?_⟩
      rintro i n σ1 H1 ⟨rfl, hi, w1, env1, rfl, o1, l1, er1, p1⟩
      obtain ⟨s1, s2⟩ := sv w1 o1 l1.toLw
      by_cases hlt : i < ds.length
      · obtain ⟨g1, g2⟩ := s1 i ds[i] (List.getElem?_eq_getElem hlt)
        refine .inr ⟨g1, fun σ' H' => (ds.length - (i + 1)) = ds.length - (i + 1) ∧ i + 1 ≤ ds.length ∧ ∃ w env, w.H = H' ∧ Ok G w ∧ Le w0 w ∧ EnvR G w env σ' ∧ PostS G W w (loop t body (ds.drop (i + 1)) env w.st) D, fun σ' H' q => ⟨_, by omega, q⟩, fun x H' y => ?_⟩
        obtain ⟨w2, rfl, e2, o2, l2, r2⟩ := g2 x H' y
        rw [List.drop_eq_getElem_cons hlt] at p1
        unfold loop at p1
        split at p1
        · exact p1.elim
        · rename_i env2 ht
          refine ⟨w2, env1, ds[i], rfl, o2, er1.mono l2, r2, env2, ht, fun σ2 er2 => ⟨w2, env2, rfl, o2, er2, ?_⟩⟩
          have p2 := PostS.mono l2 p1
          rw [← e2] at p2
          exact body_of (f := fun e s => loop t body (ds.drop (i + 1)) e s) p2 fun w3 e3 σ3 o3 l3 r3 p3 => ⟨rfl, hlt, w3, e3, rfl, o3, l1.trans (l2.trans l3), r3, p3⟩
      · have e : i = ds.length := by omega
        subst e
        rw [List.drop_length] at p1
        exact .inl ⟨s2, p1.toNx o1 er1⟩⟩
end

/-! ### comprehensions -/
def compC (l : D) (t : Tg) (tt : Tv) (te : Ev) (env : Env) : Nat → Nat → Sto → Res (List D)
  | 0, i, st => match asL l st with
    | some ds => if ds.length ≤ i then .ok [] st else .bad
    | none => .bad
  | n + 1, i, st => match asL l st with
    | none => .bad
    | some ds => match ds[i]? with
      | none => .ok [] st
      | some d => match t d env with
        | none => .bad
        | some e => (tt e st).cut.bind fun b s => if b = true then (te e s).cut.bind fun y s1 => (compC l t tt te env n (i + 1) s1).bind fun r s2 => .ok (y :: r) s2 else compC l t tt te env n (i + 1) s
def compA (t : Tg) (tt : Tv) (te : Ev) (env : Env) (d : D) : Sto → Res (List D) := fun st => match d with
  | .ref i => match asL (.ref i) st with
    | some ds => if ds.length ≤ sizeLine then compC (.ref i) t tt te env ds.length 0 st else .bad
    | none => .bad
  | d => match itemsD d with
    | some ds => if ds.length ≤ sizeLine then compF t tt te env ds st else .bad
    | none => .bad
def eLcA (m : Bool) (wi : Ev) (t : Tg) (tt : Tv) (te : Ev) (vs : List Nat) : Ev := fun env st => (wi env st).bind fun d s => (compA t tt te (wipeE env vs) d s).bind fun r s1 => mkL m r s1
section
variable {X : Cx} {G : CT} {W : WX}
theorem lc_mainC {i0 : Nat} {t : Tg} {tt : Tv} {te : Ev} {vs : List Nat} {m : Bool} {σ : L2.St} {w0 : Wd} {env : Env} {n0 : Nat} {J : It} {Q : VK} (o0 : Ok G w0) (er0 : EnvR G w0 env σ) (sv : Serves1 G w0 (.ref i0) J) (hz : n0 ≤ sizeLine) (p0 : Post G W (Rl G) σ w0 ((compC (.ref i0) t tt te (wipeE env vs) n0 0 w0.st).bind fun r s => mkL m r s) Q) : tLc (fun _ H R => R J H) (gW G vs t) (TsI G W0 tt) (EI G W0 te) vs σ w0.H Q := by
  intro DD hD
  have nD : DD ∉ w0.hid := o0.new_hid hD
  refine ⟨fun i n H => i + n = n0 ∧ ∃ (w : Wd) (acc : List D) (xs : List V), w.H = H ∧ Ok G w ∧ Lw w0 w ∧ w.hid = DD :: w0.hid ∧ (∀ a ∈ w0.hid, w.H a = w0.H a) ∧ H DD = some (.lst xs) ∧ Rls G w acc xs ∧ acc.length ≤ i ∧ Post G W (Rl G) σ w0 ((compC (.ref i0) t tt te (wipeE env vs) n i w.st).bind fun r s => mkL m (acc ++ r) s) Q, ⟨n0, by omega, ?_⟩, ?_⟩
  · obtain ⟨o1, l1⟩ := hide_new o0 (H' := upd w0.H DD (.lst [])) hD (keeps_upd hD) ⟨_, upd_same⟩
    refine ⟨⟨w0.ρ, w0.st, upd w0.H DD (.lst []), DD :: w0.hid⟩, [], [], rfl, o1, l1, rfl, fun a z => ?_, upd_same, rfl, Nat.le_refl _, p0⟩
    show upd w0.H DD (.lst []) a = _
    rw [upd_ne (fun e : a = DD => o0.new_hid hD (e ▸ z))]
  rintro i n H1 ⟨hin, w1, acc, xs, rfl, o1, l1, hh, hs, hx, ra, hal, p1⟩
  have done : ∀ ds, asL (.ref i0) w1.st = some ds → ds.length ≤ i → Post G W (Rl G) σ w0 ((Res.ok ([] : List D) w1.st).bind fun r s => mkL m (acc ++ r) s) Q → J.stop i w1.H ∧ Q (.ref DD) w1.H := by
    intro ds hd hl p1
    refine ⟨(sv w1 o1 l1 ds hd).2 i hl, ?_⟩
    have p2 : Post G W (Rl G) σ w0 (mkL m (acc ++ []) w1.st) Q := p1
    rw [List.append_nil] at p2
    unfold mkL at p2
    split at p2
    · obtain ⟨o5, l5⟩ := hid_cell o1 hh nD hx ra
      refine p2 ⟨w1.ρ ++ [DD], w1.st ++ [.lst acc], w1.H, w0.hid⟩ (.ref DD) rfl o5 ⟨l1.trans l5, rfl, hs⟩ ⟨DD, ?_, rfl⟩
      show (w1.ρ ++ [DD])[w1.st.length]? = some DD
      rw [← o1.len, List.getElem?_append_right (Nat.le_refl _)]
      simp
    · obtain ⟨o5, l5, n5⟩ := hid_out o1 hh nD
      exact p2 ⟨w1.ρ, w1.st, w1.H, w0.hid⟩ (.ref DD) rfl o5 ⟨l1.trans l5, rfl, hs⟩ ⟨DD, xs, rfl, ⟨hx, n5⟩, ra.monoW l5⟩
  cases n with
  | zero =>
    unfold compC at p1
    split at p1
    · rename_i ds hd
      split at p1
      · rename_i hl
        exact .inl (done ds hd hl p1)
      · exact p1.elim
    · exact p1.elim
  | succ n =>
    unfold compC at p1
    split at p1
    · exact p1.elim
    rename_i ds hd
    obtain ⟨s1, s2⟩ := sv w1 o1 l1 ds hd
    split at p1
    · rename_i hn
      exact .inl (done ds hd (List.getElem?_eq_none_iff.mp hn) p1)
    rename_i y0 hy0
    obtain ⟨g1, g2⟩ := s1 i y0 hy0
    refine .inr ⟨g1, fun H' => (i + 1) + n = n0 ∧ ∃ (w : Wd) (acc : List D) (xs : List V), w.H = H' ∧ Ok G w ∧ Lw w0 w ∧ w.hid = DD :: w0.hid ∧ (∀ a ∈ w0.hid, w.H a = w0.H a) ∧ H' DD = some (.lst xs) ∧ Rls G w acc xs ∧ acc.length ≤ i + 1 ∧ Post G W (Rl G) σ w0 ((compC (.ref i0) t tt te (wipeE env vs) n (i + 1) w.st).bind fun r s => mkL m (acc ++ r) s) Q, fun H' q => ⟨n, by omega, q⟩, fun x H' y => ?_⟩
    obtain ⟨w2, rfl, e2, o2, l2, r2⟩ := g2 x H' y
    split at p1
    · exact p1.elim
    rename_i env2 ht
    have keepH : ∀ {w' : Wd}, Le w1 w' → w'.hid = DD :: w0.hid ∧ (∀ a ∈ w0.hid, w'.H a = w0.H a) ∧ w'.H DD = some (.lst xs) := fun {w'} l => ⟨l.hid.trans hh, fun a z => (l.hide a (by rw [hh]; exact List.mem_cons_of_mem _ z)).trans (hs a z), (l.hide DD (by rw [hh]; exact List.mem_cons_self)).trans hx⟩
    refine ⟨w2, wipeE env vs, y0, rfl, o2, wipeE_of (er0.monoW (l1.trans l2.toLw)) vs, r2, env2, ht, fun σ2 er2 hw => ⟨hw.trans ?_, w2, env2, rfl, o2, er2, ?_⟩⟩
    · apply List.ext_getElem?
      intro j
      by_cases hj : j ∈ vs
      · rw [wipe_in hj, wipe_in hj, wipe_length]
      · rw [wipe_out hj]
    rw [bind_bind] at p1
    rw [← e2] at p1
    refine Post.bindC p1 fun w3 b b' o3 l3 r3 p3 => ?_
    have r3' : b = b' := r3
    subst r3'
    cases b with
    | false =>
      obtain ⟨k1, k2, k3⟩ := keepH (l2.trans l3)
      exact ⟨by omega, w3, acc, xs, rfl, o3, l1.trans (l2.trans l3).toLw, k1, k2, k3, ra.mono (l2.trans l3), Nat.le_succ_of_le hal, p3⟩
    | true =>
      have p3' : Post G W (Rl G) σ w0 (((te env2 w3.st).cut.bind fun y s1 => (compC (.ref i0) t tt te (wipeE env vs) n (i + 1) s1).bind fun r s2 => .ok (y :: r) s2).bind fun r s => mkL m (acc ++ r) s) Q := p3
      rw [bind_bind] at p3'
      refine ⟨w3, env2, rfl, o3, er2.mono l3, Post.bindC p3' fun w4 d v o4 l4 r4 p4 => ?_⟩
      obtain ⟨k1, k2, k3⟩ := keepH (l2.trans (l3.trans l4))
      have ra4 := ra.mono (l2.trans (l3.trans l4))
      have mD : DD ∈ w4.hid := by rw [k1]; exact List.mem_cons_self
      obtain ⟨o5, l5⟩ := hid_set o4 (u := .lst (xs ++ [v])) mD
      refine ⟨xs, k3, ?_, by omega, ⟨w4.ρ, w4.st, upd w4.H DD (.lst (xs ++ [v])), w4.hid⟩, acc ++ [d], xs ++ [v], rfl, o5, (l1.trans (l2.trans (l3.trans l4)).toLw).trans l5, k1, fun a z => ?_, upd_same, (ra4.monoW l5).append (.one (r4.monoW l5)), by simp; omega, ?_⟩
      · rw [ra.length]
        omega
      · show upd w4.H DD _ a = _
        rw [upd_ne (fun e : a = DD => nD (e ▸ z))]
        exact k2 a z
      · rw [bind_bind] at p4
        have e5 : (fun (r : List D) (s : Sto) => mkL m ((acc ++ [d]) ++ r) s) = fun r s => mkL m (acc ++ d :: r) s := by
          funext r s
          rw [List.append_assoc]
          rfl
        rw [e5]
        exact p4
theorem lcA_of {wi : Ev} {t : Tg} {tt : Tv} {te : Ev} {vs : List Nat} {m : Bool} : ∀ σ H Q, EI G W (eLcA m wi t tt te vs) σ H Q → tLc (WA G W wi) (gW G vs t) (TsI G W0 tt) (EI G W0 te) vs σ H Q := fun σ H Q ⟨w, env, e1, o, er, p⟩ => by
  refine ⟨w, env, e1, o, er, Post.bind p fun w0 d J o0 l0 sv p0 => ?_⟩
  by_cases hr : ∃ i, d = .ref i
  · obtain ⟨i0, rfl⟩ := hr
    obtain ⟨_, sv⟩ := sv
    have p0' : Post G W (Rl G) σ w0 ((match asL (.ref i0) w0.st with | some ds => if ds.length ≤ sizeLine then compC (.ref i0) t tt te (wipeE env vs) ds.length 0 w0.st else .bad | none => .bad).bind fun r s => mkL m r s) Q := p0
    split at p0'
    · split at p0'
      · rename_i hz
        exact lc_mainC o0 (er.mono l0) sv hz p0'
      · exact p0'.elim
    · exact p0'.elim
  · have fin : ∀ ds, itemsD d = some ds → Serves G w0 ds J → compA t tt te (wipeE env vs) d w0.st = (if ds.length ≤ sizeLine then compF t tt te (wipeE env vs) ds w0.st else .bad) → tLc (fun _ H R => R J H) (gW G vs t) (TsI G W0 tt) (EI G W0 te) vs σ w0.H Q := fun ds e s ec => by
      rw [ec] at p0
      split at p0
      · rename_i hz
        exact lc_main o0 (er.mono l0) s hz p0
      · exact p0.elim
    cases d with
    | ref i => exact absurd ⟨i, rfl⟩ hr
    | lst ds => obtain ⟨ds', e, s⟩ := sv; cases e; exact fin _ rfl s rfl
    | rol ds => obtain ⟨ds', e, s⟩ := sv; cases e; exact fin _ rfl s rfl
    | tup ds => obtain ⟨ds', e, s⟩ := sv; cases e; exact fin _ rfl s rfl
    | str z => obtain ⟨ds', e, s⟩ := sv; cases e; exact fin _ rfl s rfl
    | _ => obtain ⟨ds', e, s⟩ := sv; cases e
variable {pos spos py : Pos} {elt tg iter : Expr} {ifs : List Expr} {scope : Scope} {wi : Ev} {t : Tg} {tt : Tv} {te : Ev}
theorem q_lcA (m : Bool) (own : List (Str × Nat)) {vs : List Nat} (hv : own.map (·.2) = vs) (hc : X.calm = true) (hN : X.N.Nodup) (hi : PI X tg iter (WA G W wi)) (ok : BlkOk X.N X.env.scope scope own)
    (hg : ∀ (s : Shared) (H : Hp) (C : Addr) (cl : List (Str × Addr)) (fp : List Addr), PG (X.blk s H scope (compEnvC scope cl C X.env) fp) tg (gW G vs t)) (ht : ∀ (s : Shared) (H : Hp) (C : Addr) (cl : List (Str × Addr)) (fp : List Addr), PTs (X.blk s H scope (compEnvC scope cl C X.env) fp) ifs (TsI G W0 tt))
    (he : ∀ (s : Shared) (H : Hp) (C : Addr) (cl : List (Str × Addr)) (fp : List Addr), PE (X.blk s H scope (compEnvC scope cl C X.env) fp) elt (EI G W0 te)) (hs : ∀ x, foldedSetIterable iter X.env x = pure x := by intro _; rfl) :
    PE X (.ListComp elt [⟨tg, iter, ifs, 0⟩] scope pos) (EI G W (eLcA m wi t tt te vs)) := by
  subst hv
  exact (pe_lc hc hN hi ok hg ht he hs).imp lcA_of
theorem z_setLcA (m : Bool) (own : List (Str × Nat)) {vs : List Nat} (hv : own.map (·.2) = vs) {i : Nat} {y : Str} (hc : X.calm = true) (hN : X.N.Nodup) (hy : X.N[i]? = some y) (hyl : X.env.scope.names.lookup y = some .local)
    (hsw : swapsWith (.ListComp elt [⟨tg, iter, ifs, 0⟩] scope pos) (some (.Name y py)) spos.line X.env = pure true) (hi : PI X tg iter (WA G W wi)) (ok : BlkOk X.N X.env.scope scope own)
    (hg : ∀ (s : Shared) (H : Hp) (C : Addr) (cl : List (Str × Addr)) (fp : List Addr), PG (X.blk s H scope (compEnvC scope cl C X.env) fp) tg (gW G vs t)) (ht : ∀ (s : Shared) (H : Hp) (C : Addr) (cl : List (Str × Addr)) (fp : List Addr), PTs (X.blk s H scope (compEnvC scope cl C X.env) fp) ifs (TsI G W0 tt))
    (he : ∀ (s : Shared) (H : Hp) (C : Addr) (cl : List (Str × Addr)) (fp : List Addr), PE (X.blk s H scope (compEnvC scope cl C X.env) fp) elt (EI G W0 te)) (hs : ∀ x, foldedSetIterable iter X.env x = pure x := by intro _; rfl) :
    PS X (.Assign [.Name y py] (.ListComp elt [⟨tg, iter, ifs, 0⟩] scope pos) spos) (SI G W (sSet i (eLcA m wi t tt te vs))) := by
  subst hv
  exact (ps_setLc hc hN hy hyl hsw hi ok hg ht he hs).imp fun E σ H ⟨w, env, e1, o, er, p⟩ =>
    lcA_of σ H _ ⟨w, env, e1, o, er, PostS.bind er p fun w1 d v o1 l1 r1 p1 => p1.toNx o1 ((er.mono l1).set i r1)⟩
end
end F
/-! What a mirror comes to: a calculus for simp. No program here. -/
namespace F
open PySem L2

/-- keeps simp out of what is wished -/
structure Dep {α : Type} (P : α → Sto → Prop) (X : Nat → List D → Sto → Prop) : Type where
def Ret {α : Type} (r : Res α) (P : α → Sto → Prop) (X : Nat → List D → Sto → Prop) (_d : Dep P X := ⟨⟩) : Prop := match r with
  | .ok a s => P a s
  | .ex c ds s => X c ds s
  | .bad => False
structure DepS (N : Env → Sto → Prop) (R : D → Sto → Prop) (B C : Env → Sto → Prop) (Y : Nat → List D → Env → Sto → Prop) : Type where
/-- N: goes on; R: returns; B: break; C: continue; Y: an exception -/
def OutW (o : Out) (N : Env → Sto → Prop) (R : D → Sto → Prop) (B C : Env → Sto → Prop) (Y : Nat → List D → Env → Sto → Prop) (_d : DepS N R B C Y := ⟨⟩) : Prop := match o with
  | .nx e s => N e s
  | .rt d s => R d s
  | .bk e s => B e s
  | .ct e s => C e s
  | .ex c ds e s => Y c ds e s
  | .bad => False
section
variable {α β : Type} {P : α → Sto → Prop} {X : Nat → List D → Sto → Prop} {N B C : Env → Sto → Prop} {R : D → Sto → Prop} {Y : Nat → List D → Env → Sto → Prop} {env : Env} {st s : Sto}
@[simp] theorem Ret_ok {a : α} : Ret (.ok a s) P X = P a s := (rfl)
@[simp] theorem Ret_ex {c : Nat} {ds : List D} : Ret (.ex c ds s : Res α) P X = X c ds s := (rfl)
@[simp] theorem Ret_bad : Ret (.bad : Res α) P X = False := (rfl)
@[simp] theorem Ret_bind {r : Res β} {f : β → Sto → Res α} : Ret (r.bind f) P X = Ret r (fun a s => Ret (f a s) P X) X := by cases r <;> rfl
@[simp] theorem Ret_cut {r : Res α} : Ret r.cut P X = Ret r P (fun _ _ _ => False) := by cases r <;> rfl
@[simp] theorem Ret_ite {c : Prop} [Decidable c] {a b : Res α} : Ret (if c then a else b) P X = if c then Ret a P X else Ret b P X := by split <;> rfl
@[simp] theorem OutW_nx : OutW (.nx env s) N R B C Y = N env s := (rfl)
@[simp] theorem OutW_rt {d : D} : OutW (.rt d s) N R B C Y = R d s := (rfl)
@[simp] theorem OutW_bk : OutW (.bk env s) N R B C Y = B env s := (rfl)
@[simp] theorem OutW_ct : OutW (.ct env s) N R B C Y = C env s := (rfl)
@[simp] theorem OutW_ex {c : Nat} {ds : List D} : OutW (.ex c ds env s) N R B C Y = Y c ds env s := (rfl)
@[simp] theorem OutW_bad : OutW .bad N R B C Y = False := (rfl)
@[simp] theorem OutW_andS {r : Res α} {f : α → Sto → Out} : OutW (r.andS env f) N R B C Y = Ret r (fun a s => OutW (f a s) N R B C Y) (fun c ds s => Y c ds env s) := by cases r <;> rfl
@[simp] theorem OutW_andThen {o : Out} {f : Env → Sto → Out} : OutW (o.andThen f) N R B C Y = OutW o (fun e s => OutW (f e s) N R B C Y) R B C Y := by cases o <;> rfl
@[simp] theorem OutW_ite {c : Prop} [Decidable c] {a b : Out} : OutW (if c then a else b) N R B C Y = if c then OutW a N R B C Y else OutW b N R B C Y := by split <;> rfl
@[simp] theorem r_bind_ok {a : α} {f : α → Sto → Res β} : (Res.ok a s).bind f = f a s := (rfl)
@[simp] theorem r_bind_ex {c : Nat} {ds : List D} {f : α → Sto → Res β} : (Res.ex c ds s : Res α).bind f = .ex c ds s := (rfl)
@[simp] theorem r_bind_bad {f : α → Sto → Res β} : (Res.bad : Res α).bind f = .bad := (rfl)
theorem Ret.mono {r : Res α} {P P' : α → Sto → Prop} {X X' : Nat → List D → Sto → Prop} (h : Ret r P X) (k : ∀ a s, P a s → P' a s) (kx : ∀ c ds s, X c ds s → X' c ds s) : Ret r P' X' := by
  cases r with
  | ok a s => exact k a s h
  | ex c ds s => exact kx c ds s h
  | bad => exact h
theorem OutW.mono {o : Out} {N' B' C' : Env → Sto → Prop} {R' : D → Sto → Prop} {Y' : Nat → List D → Env → Sto → Prop} (h : OutW o N R B C Y) (h1 : ∀ e s, N e s → N' e s) (h2 : ∀ d s, R d s → R' d s) (h3 : ∀ e s, B e s → B' e s) (h4 : ∀ e s, C e s → C' e s) (h5 : ∀ c ds e s, Y c ds e s → Y' c ds e s) : OutW o N' R' B' C' Y' := by
  cases o with
  | nx e s => exact h1 e s h
  | rt d s => exact h2 d s h
  | bk e s => exact h3 e s h
  | ct e s => exact h4 e s h
  | ex c ds e s => exact h5 c ds e s h
  | bad => exact h
/-- no exception -/
abbrev NX : Nat → List D → Sto → Prop := fun _ _ _ => False
/-- by a call's own statement -/
theorem Ret.call {r : Res α} {P P' : α → Sto → Prop} (h : Ret r P NX) (k : ∀ a s, P a s → P' a s) : Ret r P' X := h.mono k fun _ _ _ z => z.elim
theorem Ret.out {r : Res D} {P : D → Sto → Prop} (h : Ret r P NX) : ∃ d s, r = .ok d s ∧ P d s := by
  cases r with
  | ok a s => exact ⟨a, s, rfl, h⟩
  | ex c ds s => exact h.elim
  | bad => exact h.elim
end

@[simp] theorem szl : sizeLine = 16777216 := sizeLine_eq
/-! ### expressions -/
section
variable {env : Env} {st : Sto} {a b c d : Ev} {m r : Av} {t u : Tv}
@[simp] theorem r_eVar {i : Nat} : eVar i env st = match env[i]? with | some (some d) => .ok d st | _ => .bad := (rfl)
@[simp] theorem r_eC {x : D} : eC x env st = .ok x st := (rfl)
@[simp] theorem r_eBin {f : D → D → Sto → Res D} : eBin f a b env st = (a env st).bind fun x s => (b env s).bind fun y s' => f x y s' := (rfl)
@[simp] theorem r_tOf : tOf a env st = (a env st).bind fun d s => match d with | .bl k => .ok k s | _ => .bad := (rfl)
@[simp] theorem r_tAnd : tAndF t u env st = (t env st).bind fun k s => if k = true then u env s else .ok false s := (rfl)
@[simp] theorem r_tOr : tOrF t u env st = (t env st).bind fun k s => if k = true then .ok true s else u env s := (rfl)
@[simp] theorem r_tNot : tNotF t env st = (t env st).bind fun k s => .ok (!k) s := (rfl)
@[simp] theorem r_tTru : tTru a env st = (a env st).bind fun d s => match truD d s with | some b => .ok b s | none => .bad := (rfl)
@[simp] theorem r_tYes : tYesF env st = .ok true st := (rfl)
@[simp] theorem r_eAnd : eAndF a b env st = (a env st).bind fun x s => match x with | .bl k => if k = true then b env s else .ok (.bl false) s | _ => .bad := (rfl)
@[simp] theorem r_eOr : eOrF a b env st = (a env st).bind fun x s => match x with | .bl k => if k = true then .ok (.bl true) s else b env s | _ => .bad := (rfl)
@[simp] theorem r_eNot : eNotF a env st = (a env st).bind fun x s => match x with | .bl k => .ok (.bl (!k)) s | _ => .bad := (rfl)
@[simp] theorem r_eIf : eIf t a b env st = (t env st).bind fun k s => if k = true then a env s else b env s := (rfl)
@[simp] theorem r_eChain {f g : D → D → Sto → Res D} : eChain f g a b c env st = (a env st).bind fun x s => (b env s).bind fun y s1 => (f x y s1).bind fun k s2 => match k with
  | .bl k => if k = true then (c env s2).bind fun z s3 => g y z s3 else .ok (.bl false) s2
  | _ => .bad := (rfl)
@[simp] theorem r_eChain3 {f g h : D → D → Sto → Res D} : eChain3 f g h a b c d env st = (a env st).bind fun x s => (b env s).bind fun y s1 => (f x y s1).bind fun k s2 => match k with
  | .bl k => if k = true then (c env s2).bind fun z s3 => (g y z s3).bind fun k' s4 => match k' with
    | .bl k' => if k' = true then (d env s4).bind fun u s5 => h z u s5 else .ok (.bl false) s4
    | _ => .bad else .ok (.bl false) s2
  | _ => .bad := (rfl)
@[simp] theorem r_oNone : oNone env st = .ok none st := (rfl)
@[simp] theorem r_oSome : oSome a env st = (a env st).bind fun d s => match d with | .int i => .ok (some i) s | _ => .bad := (rfl)
@[simp] theorem r_eSl {k : Bool} {lo hi : Ov} : eSl k a lo hi env st = (a env st).bind fun x s => (lo env s).bind fun l s1 => (hi env s1).bind fun u s2 => fSl k x l u s2 := (rfl)
@[simp] theorem r_aNil : aNil env st = .ok [] st := (rfl)
@[simp] theorem r_aCons : aCons a r env st = (a env st).bind fun d s => (r env s).bind fun ds s1 => .ok (d :: ds) s1 := (rfl)
@[simp] theorem r_eTup : eTup m env st = (m env st).bind fun ds s => if ds.length ≤ sizeLine then .ok (.tup ds) s else .bad := (rfl)
@[simp] theorem r_eLst {k : Bool} : eLst k m env st = (m env st).bind fun ds s => if ds.length ≤ sizeLine then mkL k ds s else .bad := (rfl)
@[simp] theorem r_eFn {f : Fn} {dd : List D} : eFn f dd m env st = (m env st).bind fun ds s => f (ds ++ dd) s := (rfl)
@[simp] theorem r_eCall {f : Fn} : eCall f m env st = (m env st).bind fun ds s => f ds s := (rfl)
@[simp] theorem r_eBM {ty : D → Sto → Bool} {f : D → Fn} : eBM ty f a m env st = (a env st).bind fun x s => if ty x s = true then (m env s).bind fun ds s1 => f x ds s1 else .bad := (rfl)
@[simp] theorem r_eMeth {tb : Nat → Option Fn} {dd : List D} : eMeth tb dd a m env st = (a env st).bind fun x s => match clsOf x s with
  | some c => match tb c with
    | some f => (m env s).bind fun ds s1 => f (x :: (ds ++ dd)) s1
    | none => .bad
  | none => .bad := (rfl)
@[simp] theorem r_eFld {ix : Nat → Option Nat} : eFld ix a env st = (a env st).bind fun x s => match fldsOf x s with
  | some (c, ds) => match ix c with
    | some k => match ds[k]? with
      | some d => .ok d s
      | none => .bad
    | none => .bad
  | none => .bad := (rfl)
@[simp] theorem r_eNew {c n : Nat} {fr : Bool} {f : Fn} {dd : List D} : eNew c n fr f dd m env st = (m env st).bind fun ds s => (f (.ref s.length :: (ds ++ dd)) (s ++ [.ins c []])).bind fun r s1 => match r with
    | .non => if fr = true then letGo c n s.length s1 else .ok (.ref s.length) s1
    | _ => .bad := (rfl)
@[simp] theorem r_eNew0 {c : Nat} : eNew0 c env st = .ok (.obj c []) st := (rfl)
@[simp] theorem r_eFrz : eFrz a env st = (a env st).bind fun d s => match d with
  | .ref i => match s[i]? with
    | some (.lst ds) => .ok (.lst ds) (s.set i .dead)
    | _ => .bad
  | d => .ok d s := (rfl)
@[simp] theorem r_eNeg : eNeg a env st = (a env st).bind fun d s => match d with | .int i => .ok (.int (-i)) s | _ => .bad := (rfl)
@[simp] theorem r_eLc {k : Bool} {wi : Wv} {tg : Tg} {tt : Tv} {te : Ev} {vs : List Nat} : eLc k wi tg tt te vs env st = (wi env st).bind fun ds s => if ds.length ≤ sizeLine then (compF tg tt te (wipeE env vs) ds s).bind fun r s1 => mkL k r s1 else .bad := (rfl)
@[simp] theorem r_wipe0 : wipeE env [] = env := (rfl)
@[simp] theorem r_wipe1 {v : Nat} {vs : List Nat} : wipeE env (v :: vs) = (wipeE env vs).set v none := (rfl)
/-! ### statements -/
variable {x y : Sv} {i : Nat}
@[simp] theorem r_sNx : sNx env st = .nx env st := (rfl)
@[simp] theorem r_sSeq : sSeq x y env st = (x env st).andThen y := (rfl)
@[simp] theorem r_sSet : sSet i a env st = (a env st).andS env fun d s => .nx (env.set i (some d)) s := (rfl)
@[simp] theorem r_sDrop : sDrop a env st = (a env st).andS env fun _ s => .nx env s := (rfl)
@[simp] theorem r_sRet : sRet a env st = (a env st).andS env fun d s => .rt d s := (rfl)
@[simp] theorem r_sRetN : sRetN env st = .rt .non st := (rfl)
@[simp] theorem r_sIf : sIf t x y env st = (t env st).andS env fun k s => if k = true then x env s else y env s := (rfl)
@[simp] theorem r_sBk : sBk env st = .bk env st := (rfl)
@[simp] theorem r_sCt : sCt env st = .ct env st := (rfl)
@[simp] theorem r_sBad : sBad env st = .bad := (rfl)
@[simp] theorem r_sAsg {tg : Tg} : sAsg tg a env st = (a env st).andS env fun d s => match tg d env with | some env' => .nx env' s | none => .bad := (rfl)
@[simp] theorem r_sSetIx : sSetIx a b c env st = (c env st).andS env fun d s => (a env s).andS env fun x s1 => (b env s1).andS env fun k s2 => match cellL x s2, k with
  | some (j, es), .int k => match ixN es.length k with
    | some n => .nx env (s2.set j (.lst (es.set n d)))
    | none => .bad
  | _, _ => .bad := (rfl)
@[simp] theorem r_sAug {f : D → D → Sto → Res D} : sAug f i a env st = match env[i]? with
  | some (some x) => (a env st).andS env fun y s => (f x y s).andS env fun z s1 => .nx (env.set i (some z)) s1
  | _ => .bad := (rfl)
@[simp] theorem r_sFld {ixf : Nat → Option Nat} : sFldF ixf a b env st = (b env st).andS env fun d s => (a env s).andS env fun x s1 => match clsOf x s1 with
  | some c => match ixf c with
    | some k => match setFld k d x s1 with
      | some s2 => .nx env s2
      | none => .bad
    | none => .bad
  | none => .bad := (rfl)
@[simp] theorem r_sFor {wi : Wv} {tg : Tg} : sFor wi tg x env st = (wi env st).andS env fun ds s => loop tg x ds env s := (rfl)
@[simp] theorem r_sWhile {n : Nat} : sWhile n t x env st = whileF t x n env st := (rfl)
@[simp] theorem r_gN {d : D} : gN i d env = some (env.set i (some d)) := (rfl)
@[simp] theorem r_gT {n : Nat} {g : Tgs} {ds : List D} : gT n g (.tup ds) env = if ds.length = n then g ds env else none := (rfl)
@[simp] theorem r_gNil : gNil [] env = some env := (rfl)
@[simp] theorem r_gCons {g : Tg} {h : Tgs} {d : D} {ds : List D} : gCons g h (d :: ds) env = (g d env).bind (h ds) := (rfl)
/-! ### iterables -/
def okR (j : Int) : Prop := -(2 ^ 62) ≤ j ∧ j < 2 ^ 62
theorem ite_cl {α : Type} {p q : Prop} [d : Decidable p] {a b : α} (h : p ↔ q) : (if p then a else b) = @ite α q (Classical.propDecidable q) a b := by
  by_cases hp : p
  · rw [if_pos hp, if_pos (h.mp hp)]
  · rw [if_neg hp, if_neg fun z => hp (h.mpr z)]
theorem okR_of {j : Int} (h : -1000000000000 ≤ j) (h2 : j ≤ 1000000000000) : okR j := ⟨by omega, by omega⟩
@[simp] theorem r_wAny : wAny a env st = (a env st).bind fun d s => match itemsD d with | some ds => .ok ds s | none => .bad := (rfl)
@[simp] theorem r_vAny : vAny a env st = (a env st).bind fun d s => match d with
  | .ref i => match asL (.ref i) s with
    | some _ => .ok (.ref i) s
    | none => .bad
  | d => match itemsD d with
    | some _ => .ok d s
    | none => .bad := (rfl)
@[simp] theorem r_sForA {tg : Tg} : sForA a tg x env st = (a env st).andS env fun d s => loopA tg x d env s := (rfl)
@[simp] theorem r_loopL {tg : Tg} {ds : List D} : loopA tg x (.lst ds) env st = loop tg x ds env st := (rfl)
@[simp] theorem r_loopR {tg : Tg} {ds : List D} : loopA tg x (.rol ds) env st = loop tg x ds env st := (rfl)
@[simp] theorem r_loopT {tg : Tg} {ds : List D} : loopA tg x (.tup ds) env st = loop tg x ds env st := (rfl)
@[simp] theorem r_loopS {tg : Tg} {s : List Nat} : loopA tg x (.str s) env st = loop tg x (s.map fun c => .str [c]) env st := (rfl)
theorem r_loopC {tg : Tg} {ds : List D} {j : Nat} (h : st[j]? = some (.lst ds)) : loopA tg x (.ref j) env st = loopC (.ref j) tg x ds.length 0 env st := by
  show (match asL (.ref j) st with | some ds => loopC (.ref j) tg x ds.length 0 env st | none => .bad) = _
  unfold asL
  simp [h]
theorem r_asC {ds : List D} {j : Nat} (h : st[j]? = some (.lst ds)) : asL (.ref j) st = some ds := by
  unfold asL
  simp [h]
@[simp] theorem r_eLcA {k : Bool} {wi : Ev} {tg : Tg} {tt : Tv} {te : Ev} {vs : List Nat} : eLcA k wi tg tt te vs env st = (wi env st).bind fun d s => (compA tg tt te (wipeE env vs) d s).bind fun r s1 => mkL k r s1 := (rfl)
@[simp] theorem r_compL {tg : Tg} {tt : Tv} {te : Ev} {ds : List D} : compA tg tt te env (.lst ds) st = if ds.length ≤ sizeLine then compF tg tt te env ds st else .bad := (rfl)
@[simp] theorem r_compR {tg : Tg} {tt : Tv} {te : Ev} {ds : List D} : compA tg tt te env (.rol ds) st = if ds.length ≤ sizeLine then compF tg tt te env ds st else .bad := (rfl)
@[simp] theorem r_compT {tg : Tg} {tt : Tv} {te : Ev} {ds : List D} : compA tg tt te env (.tup ds) st = if ds.length ≤ sizeLine then compF tg tt te env ds st else .bad := (rfl)
@[simp] theorem r_compS {tg : Tg} {tt : Tv} {te : Ev} {s : List Nat} : compA tg tt te env (.str s) st = if (s.map fun c => D.str [c]).length ≤ sizeLine then compF tg tt te env (s.map fun c => .str [c]) st else .bad := (rfl)
theorem r_compC {tg : Tg} {tt : Tv} {te : Ev} {ds : List D} {j : Nat} (h : st[j]? = some (.lst ds)) (hl : ds.length ≤ sizeLine) : compA tg tt te env (.ref j) st = compC (.ref j) tg tt te env ds.length 0 st := by
  show (match asL (.ref j) st with | some ds => if ds.length ≤ sizeLine then compC (.ref j) tg tt te env ds.length 0 st else .bad | none => .bad) = _
  rw [r_asC h]
  dsimp only
  rw [if_pos hl]
@[simp] theorem r_itemsL {ds : List D} : itemsD (.lst ds) = some ds := (rfl)
@[simp] theorem r_itemsR {ds : List D} : itemsD (.rol ds) = some ds := (rfl)
@[simp] theorem r_itemsT {ds : List D} : itemsD (.tup ds) = some ds := (rfl)
@[simp] theorem r_itemsS {s : List Nat} : itemsD (.str s) = some (s.map fun c => .str [c]) := (rfl)
@[simp] theorem r_wRange1 : wRange1 m env st = (m env st).bind fun ds s => match ds with | [.int j] => @ite _ (okR j) (Classical.propDecidable _) (.ok (rangeL 0 j) s) .bad | _ => .bad := (rfl)
@[simp] theorem r_wRange2 : wRange2 m env st = (m env st).bind fun ds s => match ds with | [.int i, .int j] => @ite _ (okR i ∧ okR j) (Classical.propDecidable _) (.ok (rangeL i j) s) .bad | _ => .bad := by
  show ((m env st).bind fun ds s => match ds with | [.int i, .int j] => @ite _ (-(2 ^ 62) ≤ i ∧ i < 2 ^ 62 ∧ -(2 ^ 62) ≤ j ∧ j < 2 ^ 62) (Classical.propDecidable _) (.ok (rangeL i j) s) .bad | _ => .bad) = _
  congr 1
  funext ds s
  split
  · exact @ite_cl _ _ _ (Classical.propDecidable _) _ _ (by unfold okR; exact and_assoc.symm)
  · rfl
@[simp] theorem r_wRange3 : wRange3 m env st = (m env st).bind fun ds s => match ds with | [.int i, .int j, .int c] => @ite _ (c ≠ 0 ∧ c.natAbs < 1073741824 ∧ Builtin.Range.small i j c = true ∧ Builtin.Range.rangeSize i j c = (rangeN i j c : Int)) (Classical.propDecidable _) (.ok (rangeC i j c) s) .bad | _ => .bad := (rfl)
@[simp] theorem r_wRngV : wRngV a env st = (a env st).bind fun d s => match d with | .rng i j c => @ite _ (Builtin.Range.small i j c = true ∧ Builtin.Range.rangeSize i j c = (rangeN i j c : Int)) (Classical.propDecidable _) (.ok (rangeC i j c) s) .bad | _ => .bad := (rfl)
@[simp] theorem r_wRev : wRev a env st = (a env st).bind fun d s => match d with | .lst ds => .ok ds.reverse s | .rol ds => .ok ds.reverse s | .tup ds => .ok ds.reverse s | _ => .bad := (rfl)
/-! ### operations -/
variable {p q : List Nat} {ds es : List D} {k l : Int} {mu : Bool}
@[simp] theorem r_addI : fAdd mu (.int k) (.int l) st = .ok (.int (k + l)) st := (rfl)
@[simp] theorem r_addS : fAdd mu (.str p) (.str q) st = if p.length + q.length ≤ sizeLine then .ok (.str (p ++ q)) st else .bad := (rfl)
@[simp] theorem r_addT : fAdd mu (.tup ds) (.tup es) st = if ds.length + es.length ≤ sizeLine then .ok (.tup (ds ++ es)) st else .bad := (rfl)
@[simp] theorem r_addL : fAdd mu (.lst ds) (.lst es) st = if ds.length + es.length ≤ sizeLine then mkL mu (ds ++ es) st else .bad := (rfl)
@[simp] theorem r_subI : fSub (.int k) (.int l) st = .ok (.int (k - l)) st := (rfl)
@[simp] theorem r_mulI : fMul mu (.int k) (.int l) st = if bMul k l = true then .ok (.int (k * l)) st else .bad := (rfl)
@[simp] theorem r_mulS : fMul mu (.str p) (.int l) st = @ite _ (l < 2 ^ 31 ∧ -(2 ^ 31) < l ∧ p.length * l.toNat ≤ sizeLine) (Classical.propDecidable _) (.ok (.str (List.replicate l.toNat p).flatten) st) .bad := (rfl)
@[simp] theorem r_divI : fDiv (.int k) (.int l) st = if bDiv k l = true then .ok (.int (k / l)) st else .bad := (rfl)
@[simp] theorem r_modI : fMod (.int k) (.int l) st = if bMod k l = true then .ok (.int (k % l)) st else .bad := (rfl)
@[simp] theorem r_powI : fPow (.int k) (.int l) st = if bPow k l = true then .ok (.int (k ^ l.toNat)) st else .bad := (rfl)
@[simp] theorem r_ltI : fLt (.int k) (.int l) st = .ok (.bl (decide (k < l))) st := (rfl)
@[simp] theorem r_leI : fLe (.int k) (.int l) st = .ok (.bl (decide (k ≤ l))) st := (rfl)
@[simp] theorem r_gtI : fGt (.int k) (.int l) st = .ok (.bl (decide (l < k))) st := (rfl)
@[simp] theorem r_geI : fGe (.int k) (.int l) st = .ok (.bl (decide (l ≤ k))) st := (rfl)
@[simp] theorem r_eqI : fEq (.int k) (.int l) st = .ok (.bl (decide (k = l))) st := (rfl)
@[simp] theorem r_eqS : fEq (.str p) (.str q) st = .ok (.bl (decide (p = q))) st := (rfl)
@[simp] theorem r_eqB {x y : Bool} : fEq (.bl x) (.bl y) st = .ok (.bl (decide (x = y))) st := (rfl)
@[simp] theorem r_neI : fNe (.int k) (.int l) st = .ok (.bl (!decide (k = l))) st := (rfl)
@[simp] theorem r_neS : fNe (.str p) (.str q) st = .ok (.bl (!decide (p = q))) st := (rfl)
@[simp] theorem r_ixT : fIx (.tup ds) (.int k) st = match atI ds k with | some d => .ok d st | none => .bad := (rfl)
@[simp] theorem r_ixS : fIx (.str p) (.int k) st = if p.length ≤ sizeLine then match atI p k with | some c => .ok (.str [c]) st | none => .bad else .bad := (rfl)
@[simp] theorem r_ixL : fIx (.lst ds) (.int k) st = match atI ds k with | some d => .ok d st | none => .bad := (rfl)
@[simp] theorem r_ixR : fIx (.rol ds) (.int k) st = match atI ds k with | some d => .ok d st | none => .bad := (rfl)
@[simp] theorem r_ixC {j : Nat} : fIx (.ref j) (.int k) st = match (match st[j]? with | some (.lst ds) => some ds | _ => none) with | some ds => (match atI ds k with | some d => .ok d st | none => .bad) | none => .bad := (rfl)
@[simp] theorem r_slS {lo hi : Option Int} : fSl mu (.str p) lo hi st = if p.length ≤ sizeLine then .ok (.str (cutD p lo hi)) st else .bad := (rfl)
@[simp] theorem r_slT {lo hi : Option Int} : fSl mu (.tup ds) lo hi st = .ok (.tup (cutD ds lo hi)) st := (rfl)
@[simp] theorem r_slL {lo hi : Option Int} : fSl mu (.lst ds) lo hi st = mkL mu (cutD ds lo hi) st := (rfl)
@[simp] theorem r_slR {lo hi : Option Int} : fSl mu (.rol ds) lo hi st = mkL mu (cutD ds lo hi) st := (rfl)
@[simp] theorem r_inS {c : Nat} : fIn false (.str [c]) (.str p) st = .ok (.bl (decide (c ∈ p))) st := (rfl)
@[simp] theorem r_ninS {c : Nat} : fIn true (.str [c]) (.str p) st = .ok (.bl (!decide (c ∈ p))) st := (rfl)
@[simp] theorem r_mkP : mkL false ds st = .ok (.lst ds) st := (rfl)
@[simp] theorem r_mkC : mkL true ds st = .ok (.ref st.length) (st ++ [.lst ds]) := (rfl)
@[simp] theorem r_lenS : fLen [.str p] st = if p.length ≤ sizeLine then .ok (.int (p.length : Nat)) st else .bad := by
  show (match (if p.length ≤ sizeLine then some p.length else none) with | some n => Res.ok (D.int (n : Int)) st | none => .bad) = _
  split <;> rename_i h <;> split at h <;> simp_all
@[simp] theorem r_lenT : fLen [.tup ds] st = .ok (.int (ds.length : Nat)) st := (rfl)
@[simp] theorem r_lenL : fLen [.lst ds] st = .ok (.int (ds.length : Nat)) st := (rfl)
@[simp] theorem r_lenR : fLen [.rol ds] st = .ok (.int (ds.length : Nat)) st := (rfl)
theorem r_lenC {j : Nat} (h : st[j]? = some (.lst ds)) : fLen [.ref j] st = .ok (.int (ds.length : Nat)) st := by
  unfold fLen lenD asL
  simp [h]
@[simp] theorem r_max2 : fMax [.int k, .int l] st = .ok (.int (if l > k then l else k)) st := (rfl)
@[simp] theorem r_min2 : fMin [.int k, .int l] st = .ok (.int (if l < k then l else k)) st := (rfl)
@[simp] theorem r_int : fInt [.int k] st = .ok (.int k) st := (rfl)
@[simp] theorem r_intB {x : Bool} : fInt [.bl x] st = .ok (.int (if x = true then 1 else 0)) st := (rfl)
@[simp] theorem r_divmod : fDivmod [.int k, .int l] st = @ite _ (0 < l ∧ l < 1073741824) (Classical.propDecidable _) (.ok (.tup [.int (k / l), .int (k % l)]) st) .bad := (rfl)
@[simp] theorem r_range3 {c : Int} : fRange [.int k, .int l, .int c] st = @ite _ (c ≠ 0 ∧ c.natAbs < 1073741824) (Classical.propDecidable _) (.ok (.rng k l c) st) .bad := (rfl)
@[simp] theorem r_range2 : fRange [.int k, .int l] st = .ok (.rng k l 1) st := (rfl)
@[simp] theorem r_isStr : isStr (.str p) st = true := (rfl)
@[simp] theorem r_truB {x : Bool} : truD (.bl x) st = some x := (rfl)
@[simp] theorem r_truL : truD (.lst ds) st = some (!ds.isEmpty) := (rfl)
@[simp] theorem r_append {j : Nat} {d : D} (h : st[j]? = some (.lst ds)) : fAppend (.ref j) [d] st = if ds.length < sizeLine then .ok .non (st.set j (.lst (ds ++ [d]))) else .bad := by
  unfold fAppend cellL
  simp [h]
theorem r_isLst {j : Nat} (h : st[j]? = some (.lst ds)) : isLst (.ref j) st = true := by
  unfold isLst asL
  simp [h]
@[simp] theorem bMul_small {i j : Int} (h : i.natAbs < 2 ^ 250) (h2 : j.natAbs < 2 ^ 250) : bMul i j = true := by
  unfold bMul
  refine decide_eq_true ?_
  have a1 : i.natAbs.log2 < 250 := by
    rcases Nat.eq_zero_or_pos i.natAbs with z | z
    · rw [z]; decide
    · exact (Nat.log2_lt (by omega)).mpr h
  have a2 : j.natAbs.log2 < 250 := by
    rcases Nat.eq_zero_or_pos j.natAbs with z | z
    · rw [z]; decide
    · exact (Nat.log2_lt (by omega)).mpr h2
  omega
theorem bDiv_small {i j : Int} (h : 0 < j) (h2 : j.natAbs < 2 ^ 250) : bDiv i j = true := by
  unfold bDiv
  have a2 : j.natAbs.log2 < 250 := (Nat.log2_lt (by omega)).mpr h2
  simp [h]
  omega
theorem bMod_pos {i j : Int} (h : 0 < j) : bMod i j = true := decide_eq_true h
end

/-! ### defs, loops -/
section
variable {P : D → Sto → Prop} {X : Nat → List D → Sto → Prop} {N B C : Env → Sto → Prop} {R : D → Sto → Prop} {Y : Nat → List D → Env → Sto → Prop} {st : Sto}
theorem Ret_body {nl np : Nat} {b : Sv} {ds : List D} : Ret (bodyF nl np b ds st) P X = (ds.length = np ∧ OutW (b (ds.map some ++ List.replicate (nl - np) none) st) (fun _ s => P .non s) P (fun _ _ => False) (fun _ _ => False) (fun c es _ s => X c es s)) := by
  unfold bodyF
  by_cases h : ds.length = np
  · rw [if_pos h]
    cases b (ds.map some ++ List.replicate (nl - np) none) st <;> simp [h, OutW, Ret]
  · rw [if_neg h]
    simp [h]
/-- a cut behind the first statement -/
theorem OutW.seq {a b : Sv} {env : Env} (Mid : Env → Sto → Prop) (h : OutW (a env st) Mid R B C Y) (k : ∀ e s, Mid e s → OutW (b e s) N R B C Y) : OutW (sSeq a b env st) N R B C Y := by
  rw [r_sSeq, OutW_andThen]
  exact h.mono k (fun _ _ z => z) (fun _ _ z => z) (fun _ _ z => z) fun _ _ _ _ z => z
/-- a loop by its invariant -/
theorem loop_inv {t : Tg} {body : Sv} {ds : List D} {env : Env} (I : Nat → Env → Sto → Prop) (h0 : I 0 env st)
    (hs : ∀ i d env st, ds[i]? = some d → I i env st → ∃ e1, t d env = some e1 ∧ OutW (body e1 st) (I (i + 1)) R N (I (i + 1)) Y) (hd : ∀ env st, I ds.length env st → N env st) : OutW (loop t body ds env st) N R B C Y := by
  have main : ∀ (n i : Nat) (env : Env) (st : Sto), i + n = ds.length → I i env st → OutW (loop t body (ds.drop i) env st) N R B C Y := by
    intro n
    induction n with
    | zero =>
      intro i env st hi h
      rw [List.drop_of_length_le (by omega)]
      exact hd env st (by rw [← hi]; exact h)
    | succ n ih =>
      intro i env st hi h
      have hlt : i < ds.length := by omega
      rw [List.drop_eq_getElem_cons hlt]
      obtain ⟨e1, q1, q2⟩ := hs i ds[i] env st (List.getElem?_eq_getElem hlt) h
      unfold loop
      rw [q1]
      dsimp only
      cases q3 : body e1 st with
      | nx e s => rw [q3] at q2; exact ih (i + 1) e s (by omega) q2
      | ct e s => rw [q3] at q2; exact ih (i + 1) e s (by omega) q2
      | bk e s => rw [q3] at q2; exact q2
      | rt d s => rw [q3] at q2; exact q2
      | ex c es e s => rw [q3] at q2; exact q2
      | bad => rw [q3] at q2; exact q2
  exact main ds.length 0 env st (by omega) h0
/-- a search that returns at the first hit -/
theorem any_inv {t : Tg} {body : Sv} {env : Env} {α : Type} (l : List α) (g : α → D) (q : α → Bool) (I : Env → Sto → Prop) (R0 : D → Sto → Prop) (h0 : I env st)
    (hs : ∀ x ∈ l, ∀ env st, I env st → ∃ e1, t (g x) env = some e1 ∧ OutW (body e1 st) (fun e s => q x = false ∧ I e s) (fun d s => q x = true ∧ R0 d s) (fun _ _ => False) (fun e s => q x = false ∧ I e s) (fun _ _ _ _ => False))
    (hd : ∀ env st, l.any q = false → I env st → N env st) (hR : ∀ d s, l.any q = true → R0 d s → R d s) : OutW (loop t body (l.map g) env st) N R B C Y := by
  induction l generalizing env st with
  | nil => exact hd env st rfl h0
  | cons x l ih =>
    obtain ⟨e1, a, b⟩ := hs x List.mem_cons_self env st h0
    show OutW (loop t body (g x :: l.map g) env st) _ _ _ _ _
    unfold loop
    rw [a]
    dsimp only
    cases e : body e1 st with
    | nx e' s' =>
      rw [e] at b
      exact ih b.2 (fun y hy => hs y (List.mem_cons_of_mem _ hy)) (fun env st h => hd env st (by rw [List.any_cons, b.1, h]; rfl)) (fun d s h => hR d s (by rw [List.any_cons, h]; simp))
    | ct e' s' =>
      rw [e] at b
      exact ih b.2 (fun y hy => hs y (List.mem_cons_of_mem _ hy)) (fun env st h => hd env st (by rw [List.any_cons, b.1, h]; rfl)) (fun d s h => hR d s (by rw [List.any_cons, h]; simp))
    | rt d' s' =>
      rw [e] at b
      exact hR d' s' (by rw [List.any_cons, b.1]; rfl) b.2
    | bk e' s' => rw [e] at b; exact b.elim
    | ex c ds e' s' => rw [e] at b; exact b.elim
    | bad => rw [e] at b; exact b.elim
/-- .. over a live list that the body leaves as it is -/
theorem loopC_inv {l : D} {t : Tg} {body : Sv} {ds : List D} {env : Env} (I : Nat → Env → Sto → Prop) (h0 : I 0 env st) (hl : ∀ i env st, I i env st → asL l st = some ds)
    (hs : ∀ i d env st, ds[i]? = some d → I i env st → ∃ e1, t d env = some e1 ∧ OutW (body e1 st) (I (i + 1)) R N (I (i + 1)) Y) (hd : ∀ env st, I ds.length env st → N env st) : OutW (loopC l t body ds.length 0 env st) N R B C Y := by
  have main : ∀ (n i : Nat) (env : Env) (st : Sto), i + n = ds.length → I i env st → OutW (loopC l t body n i env st) N R B C Y := by
    intro n
    induction n with
    | zero =>
      intro i env st hi h
      unfold loopC
      rw [hl i env st h]
      dsimp only
      rw [if_pos (by omega)]
      exact hd env st (by rw [← hi]; exact h)
    | succ n ih =>
      intro i env st hi h
      have hlt : i < ds.length := by omega
      obtain ⟨e1, q1, q2⟩ := hs i ds[i] env st (List.getElem?_eq_getElem hlt) h
      unfold loopC
      rw [hl i env st h]
      dsimp only
      rw [List.getElem?_eq_getElem hlt]
      dsimp only
      rw [q1]
      dsimp only
      cases q3 : body e1 st with
      | nx e s => rw [q3] at q2; exact ih (i + 1) e s (by omega) q2
      | ct e s => rw [q3] at q2; exact ih (i + 1) e s (by omega) q2
      | bk e s => rw [q3] at q2; exact q2
      | rt d s => rw [q3] at q2; exact q2
      | ex c es e s => rw [q3] at q2; exact q2
      | bad => rw [q3] at q2; exact q2
  exact main ds.length 0 env st (by omega) h0
/-- a while by a measure -/
theorem while_inv {t : Tv} {body : Sv} {n : Nat} {env : Env} (I : Nat → Env → Sto → Prop) (h0 : I n env st)
    (hs : ∀ i env st, I i env st → ∃ j, i = j + 1 ∧ Ret (t env st) (fun k s => if k = true then OutW (body env s) (I j) R N (I j) Y else N env s) (fun c ds s => Y c ds env s)) : OutW (whileF t body n env st) N R B C Y := by
  induction n generalizing env st with
  | zero =>
    obtain ⟨j, e, _⟩ := hs 0 env st h0
    omega
  | succ n ih =>
    obtain ⟨j, e, q⟩ := hs (n + 1) env st h0
    obtain rfl : n = j := by omega
    unfold whileF
    rw [OutW_andS]
    refine q.mono (fun k s z => ?_) fun _ _ _ z => z
    split at z
    · rename_i hk
      rw [if_pos hk]
      cases q3 : body env s with
      | nx e s => rw [q3] at z; exact ih z
      | ct e s => rw [q3] at z; exact ih z
      | bk e s => rw [q3] at z; exact z
      | rt d s => rw [q3] at z; exact z
      | ex c es e s => rw [q3] at z; exact z
      | bad => rw [q3] at z; exact z
    · rename_i hk
      rw [if_neg hk]
      exact z
/-- a comprehension by its invariant -/
theorem comp_inv {P : List D → Sto → Prop} {X : Nat → List D → Sto → Prop} {t : Tg} {tt : Tv} {te : Ev} {ds : List D} {env : Env} (I : Nat → List D → Sto → Prop) (h0 : I 0 [] st)
    (hs : ∀ i d acc st, ds[i]? = some d → I i acc st → ∃ e1, t d env = some e1 ∧ Ret (tt e1 st) (fun b s => if b = true then Ret (te e1 s) (fun y s1 => I (i + 1) (acc ++ [y]) s1) NX else I (i + 1) acc s) NX) (hd : ∀ acc st, I ds.length acc st → P acc st) : Ret (compF t tt te env ds st) P X := by
  have main : ∀ (n i : Nat) (acc : List D) (st : Sto), i + n = ds.length → I i acc st → Ret (compF t tt te env (ds.drop i) st) (fun r s => I ds.length (acc ++ r) s) NX := by
    intro n
    induction n with
    | zero =>
      intro i acc st hi h
      rw [List.drop_of_length_le (by omega)]
      show I ds.length (acc ++ []) st
      rw [List.append_nil, ← hi]
      exact h
    | succ n ih =>
      intro i acc st hi h
      have hlt : i < ds.length := by omega
      rw [List.drop_eq_getElem_cons hlt]
      obtain ⟨e1, q1, q2⟩ := hs i ds[i] acc st (List.getElem?_eq_getElem hlt) h
      unfold compF
      rw [q1]
      dsimp only
      rw [Ret_bind, Ret_cut]
      refine Ret.mono q2 (fun b s z => ?_) fun _ _ _ z => z.elim
      cases b with
      | true =>
        have z' : Ret (te e1 s) (fun y s1 => I (i + 1) (acc ++ [y]) s1) NX := z
        rw [if_pos rfl, Ret_bind, Ret_cut]
        refine z'.mono (fun y s1 z2 => ?_) fun _ _ _ z => z.elim
        rw [Ret_bind]
        refine (ih (i + 1) (acc ++ [y]) s1 (by omega) z2).mono (fun r s2 z3 => ?_) fun _ _ _ z => z.elim
        rw [List.append_assoc] at z3
        exact z3
      | false =>
        rw [if_neg Bool.false_ne_true]
        exact ih (i + 1) acc s (by omega) z
  exact (main ds.length 0 [] st (by omega) h0).mono (fun r s z => hd r s z) fun _ _ _ z => z.elim
/-- .. over a live list that its items leave as it is -/
theorem compC_inv {P : List D → Sto → Prop} {X : Nat → List D → Sto → Prop} {l : D} {t : Tg} {tt : Tv} {te : Ev} {ds : List D} {env : Env} (I : Nat → List D → Sto → Prop) (h0 : I 0 [] st) (hl : ∀ i acc st, I i acc st → asL l st = some ds)
    (hs : ∀ i d acc st, ds[i]? = some d → I i acc st → ∃ e1, t d env = some e1 ∧ Ret (tt e1 st) (fun b s => if b = true then Ret (te e1 s) (fun y s1 => I (i + 1) (acc ++ [y]) s1) NX else I (i + 1) acc s) NX) (hd : ∀ acc st, I ds.length acc st → P acc st) : Ret (compC l t tt te env ds.length 0 st) P X := by
  have main : ∀ (n i : Nat) (acc : List D) (st : Sto), i + n = ds.length → I i acc st → Ret (compC l t tt te env n i st) (fun r s => I ds.length (acc ++ r) s) NX := by
    intro n
    induction n with
    | zero =>
      intro i acc st hi h
      unfold compC
      rw [hl i acc st h]
      dsimp only
      rw [if_pos (by omega)]
      show I ds.length (acc ++ []) st
      rw [List.append_nil, ← hi]
      exact h
    | succ n ih =>
      intro i acc st hi h
      have hlt : i < ds.length := by omega
      obtain ⟨e1, q1, q2⟩ := hs i ds[i] acc st (List.getElem?_eq_getElem hlt) h
      unfold compC
      rw [hl i acc st h]
      dsimp only
      rw [List.getElem?_eq_getElem hlt]
      dsimp only
      rw [q1]
      dsimp only
      rw [Ret_bind, Ret_cut]
      refine Ret.mono q2 (fun b s z => ?_) fun _ _ _ z => z.elim
      cases b with
      | true =>
        have z' : Ret (te e1 s) (fun y s1 => I (i + 1) (acc ++ [y]) s1) NX := z
        rw [if_pos rfl, Ret_bind, Ret_cut]
        refine z'.mono (fun y s1 z2 => ?_) fun _ _ _ z => z.elim
        rw [Ret_bind]
        refine (ih (i + 1) (acc ++ [y]) s1 (by omega) z2).mono (fun r s2 z3 => ?_) fun _ _ _ z => z.elim
        rw [List.append_assoc] at z3
        exact z3
      | false =>
        rw [if_neg Bool.false_ne_true]
        exact ih (i + 1) acc s (by omega) z
  exact (main ds.length 0 [] st (by omega) h0).mono (fun r s z => hd r s z) fun _ _ _ z => z.elim
/-- a comprehension whose items are computed without the store -/
theorem comp_map {t : Tg} {te : Ev} {env : Env} {g : D → D} : ∀ {ds : List D}, (∀ d ∈ ds, ∃ e1, t d env = some e1 ∧ te e1 st = .ok (g d) st) → compF t tYesF te env ds st = .ok (ds.map g) st
  | [], _ => rfl
  | d :: ds, h => by
    obtain ⟨e1, q1, q2⟩ := h d List.mem_cons_self
    unfold compF
    rw [q1]
    dsimp only
    show ((te e1 st).cut.bind fun y s1 => (compF t tYesF te env ds s1).bind fun r s2 => .ok (y :: r) s2) = _
    rw [q2]
    show ((compF t tYesF te env ds st).bind fun r s2 => .ok (g d :: r) s2) = _
    rw [comp_map fun x hx => h x (List.mem_cons_of_mem _ hx)]
    rfl
end
end F
/-! == of data, by the shape. -/
namespace F
open PySem L2
mutual
def eqD : D → D → Bool
  | .non, .non => true
  | .bl a, .bl b => a == b
  | .bl a, .int j => (if a then 1 else 0) == j
  | .int i, .bl b => i == (if b then 1 else 0)
  | .int i, .int j => i == j
  | .str a, .str b => a == b
  | .tup xs, .tup ys => eqDs xs ys
  | .lst xs, .lst ys => eqDs xs ys
  | .lst xs, .rol ys => eqDs xs ys
  | .rol xs, .lst ys => eqDs xs ys
  | .rol xs, .rol ys => eqDs xs ys
  | _, _ => false
def eqDs : List D → List D → Bool
  | [], [] => true
  | x :: xs, y :: ys => eqD x y && eqDs xs ys
  | _, _ => false
end
mutual
/-- plain data of at most this depth, signs as they should be -/
def okD : Nat → D → Bool
  | _, .non => true
  | _, .bl _ => true
  | _, .int _ => true
  | _, .str s => s.all (· < 0x110000)
  | n + 1, .tup ds => okDs n ds
  | n + 1, .lst ds => okDs n ds
  | n + 1, .rol ds => okDs n ds
  | _, _ => false
def okDs : Nat → List D → Bool
  | _, [] => true
  | n, d :: ds => okD n d && okDs n ds
end
mutual
theorem toPy_ok {st : Sto} : ∀ (n : Nat) (d : D), okD n d = true → ∃ p, toPy st n d = some p ∧ p.canLay0 = true ∧ p.depth ≤ n + 1
  | n, .non, _ => ⟨.none, by cases n <;> rfl, by simp [PyData.canLay0], by simp [PyData.depth]⟩
  | n, .bl b, _ => ⟨.bool b, by cases n <;> rfl, by simp [PyData.canLay0], by simp [PyData.depth]⟩
  | n, .int b, _ => ⟨.int b, by cases n <;> rfl, by simp [PyData.canLay0], by simp [PyData.depth]⟩
  | n, .str s, h => ⟨.str ⟨s.toArray⟩, by cases n <;> rfl, by
      have h' : s.all (· < 0x110000) = true := by unfold okD at h; exact h
      unfold PyData.canLay0 PyData.strOk
      simpa using h', by simp [PyData.depth]⟩
  | 0, .tup ds, h => by simp [okD] at h
  | 0, .lst ds, h => by simp [okD] at h
  | 0, .rol ds, h => by simp [okD] at h
  | n + 1, .tup ds, h => by
    unfold okD at h
    obtain ⟨ps, e, a, b⟩ := toPys_ok n ds h
    refine ⟨.tuple ps, by unfold toPy; rw [e]; rfl, by unfold PyData.canLay0; exact a, by unfold PyData.depth; omega⟩
  | n + 1, .lst ds, h => by
    unfold okD at h
    obtain ⟨ps, e, a, b⟩ := toPys_ok n ds h
    refine ⟨.list ps, by unfold toPy; rw [e]; rfl, by unfold PyData.canLay0; exact a, by unfold PyData.depth; omega⟩
  | n + 1, .rol ds, h => by
    unfold okD at h
    obtain ⟨ps, e, a, b⟩ := toPys_ok n ds h
    refine ⟨.list ps, by unfold toPy; rw [e]; rfl, by unfold PyData.canLay0; exact a, by unfold PyData.depth; omega⟩
  | n, .obj c ds, h => by cases n <;> simp [okD] at h
  | n, .ref i, h => by cases n <;> simp [okD] at h
  | n, .rng i j c, h => by cases n <;> simp [okD] at h
  | n, .ty i, h => by cases n <;> simp [okD] at h
  | n, .cl i, h => by cases n <;> simp [okD] at h
theorem toPys_ok {st : Sto} : ∀ (n : Nat) (ds : List D), okDs n ds = true → ∃ ps, mapO (toPy st n) ds = some ps ∧ PyData.canLayAll0 ps = true ∧ PyData.depthAll ps ≤ n + 1
  | n, [], _ => ⟨[], rfl, by simp [PyData.canLayAll0], by simp [PyData.depthAll]⟩
  | n, d :: ds, h => by
    unfold okDs at h
    rw [Bool.and_eq_true] at h
    obtain ⟨p, e1, a1, b1⟩ := toPy_ok n d h.1
    obtain ⟨ps, e2, a2, b2⟩ := toPys_ok n ds h.2
    refine ⟨p :: ps, by unfold mapO; rw [e1, e2], by unfold PyData.canLayAll0; rw [a1, a2]; rfl, by unfold PyData.depthAll; omega⟩
end
theorem tup_of {st : Sto} {n : Nat} {ds : List D} {p : PyData} (h : toPy st (n + 1) (.tup ds) = some p) : ∃ ps, mapO (toPy st n) ds = some ps ∧ p = .tuple ps := by
  unfold toPy at h
  cases q : mapO (toPy st n) ds with
  | none => rw [q] at h; cases h
  | some ps => rw [q] at h; cases h; exact ⟨ps, rfl, rfl⟩
theorem lst_of {st : Sto} {n : Nat} {ds : List D} {p : PyData} (h : toPy st (n + 1) (.lst ds) = some p) : ∃ ps, mapO (toPy st n) ds = some ps ∧ p = .list ps := by
  unfold toPy at h
  cases q : mapO (toPy st n) ds with
  | none => rw [q] at h; cases h
  | some ps => rw [q] at h; cases h; exact ⟨ps, rfl, rfl⟩
theorem rol_of {st : Sto} {n : Nat} {ds : List D} {p : PyData} (h : toPy st (n + 1) (.rol ds) = some p) : ∃ ps, mapO (toPy st n) ds = some ps ∧ p = .list ps := by
  unfold toPy at h
  cases q : mapO (toPy st n) ds with
  | none => rw [q] at h; cases h
  | some ps => rw [q] at h; cases h; exact ⟨ps, rfl, rfl⟩
theorem flat_py {st : Sto} {n : Nat} {d : D} {p : PyData} (h : toPy st n d = some p) : match d with
  | .non => p = .none
  | .bl b => p = .bool b
  | .int i => p = .int i
  | .str s => p = .str ⟨s.toArray⟩
  | .tup ds => ∃ m ps, n = m + 1 ∧ mapO (toPy st m) ds = some ps ∧ p = .tuple ps
  | .lst ds => ∃ m ps, n = m + 1 ∧ mapO (toPy st m) ds = some ps ∧ p = .list ps
  | .rol ds => ∃ m ps, n = m + 1 ∧ mapO (toPy st m) ds = some ps ∧ p = .list ps
  | _ => True := by
  cases d with
  | non => cases n <;> (cases h; rfl)
  | bl b => cases n <;> (cases h; rfl)
  | int b => cases n <;> (cases h; rfl)
  | str b => cases n <;> (cases h; rfl)
  | tup ds =>
    cases n with
    | zero => cases h
    | succ n => obtain ⟨ps, a, b⟩ := tup_of h; exact ⟨n, ps, rfl, a, b⟩
  | lst ds =>
    cases n with
    | zero => cases h
    | succ n => obtain ⟨ps, a, b⟩ := lst_of h; exact ⟨n, ps, rfl, a, b⟩
  | rol ds =>
    cases n with
    | zero => cases h
    | succ n => obtain ⟨ps, a, b⟩ := rol_of h; exact ⟨n, ps, rfl, a, b⟩
  | _ => trivial
theorem strs_beq (a b : List Nat) : ((⟨a.toArray⟩ : Str) == ⟨b.toArray⟩) = (a == b) := by
  by_cases h : a = b
  · subst h
    simp
  · have : ¬ ((⟨a.toArray⟩ : Str) = ⟨b.toArray⟩) := fun z => h (by simpa using congrArg Str.cps z)
    rw [beq_eq_false_iff_ne.mpr this, beq_eq_false_iff_ne.mpr h]
mutual
theorem eqv_ok {st : Sto} : ∀ (d : D) (n m : Nat) (e : D) (p q : PyData), okD n d = true → okD m e = true → toPy st n d = some p → toPy st m e = some q → PyData.eqv p q = eqD d e
  | d, n, m, e, p, q, hd, he, h1, h2 => by
    have a := flat_py h1
    have b := flat_py h2
    cases d with
    | non => cases e with
      | tup _ => obtain ⟨_, _, _, _, rfl⟩ := b; rw [show p = _ from a]; simp [PyData.eqv, eqD]
      | lst _ => obtain ⟨_, _, _, _, rfl⟩ := b; rw [show p = _ from a]; simp [PyData.eqv, eqD]
      | rol _ => obtain ⟨_, _, _, _, rfl⟩ := b; rw [show p = _ from a]; simp [PyData.eqv, eqD]
      | obj _ _ => cases m <;> simp [okD] at he
      | ref _ => cases m <;> simp [okD] at he
      | rng _ _ _ => cases m <;> simp [okD] at he
      | ty _ => cases m <;> simp [okD] at he
      | cl _ => cases m <;> simp [okD] at he
      | _ => rw [show p = _ from a, show q = _ from b]; simp [PyData.eqv, eqD]
    | bl x => cases e with
      | tup _ => obtain ⟨_, _, _, _, rfl⟩ := b; rw [show p = _ from a]; simp [PyData.eqv, eqD]
      | lst _ => obtain ⟨_, _, _, _, rfl⟩ := b; rw [show p = _ from a]; simp [PyData.eqv, eqD]
      | rol _ => obtain ⟨_, _, _, _, rfl⟩ := b; rw [show p = _ from a]; simp [PyData.eqv, eqD]
      | obj _ _ => cases m <;> simp [okD] at he
      | ref _ => cases m <;> simp [okD] at he
      | rng _ _ _ => cases m <;> simp [okD] at he
      | ty _ => cases m <;> simp [okD] at he
      | cl _ => cases m <;> simp [okD] at he
      | _ => rw [show p = _ from a, show q = _ from b]; simp [PyData.eqv, eqD]
    | int x => cases e with
      | tup _ => obtain ⟨_, _, _, _, rfl⟩ := b; rw [show p = _ from a]; simp [PyData.eqv, eqD]
      | lst _ => obtain ⟨_, _, _, _, rfl⟩ := b; rw [show p = _ from a]; simp [PyData.eqv, eqD]
      | rol _ => obtain ⟨_, _, _, _, rfl⟩ := b; rw [show p = _ from a]; simp [PyData.eqv, eqD]
      | obj _ _ => cases m <;> simp [okD] at he
      | ref _ => cases m <;> simp [okD] at he
      | rng _ _ _ => cases m <;> simp [okD] at he
      | ty _ => cases m <;> simp [okD] at he
      | cl _ => cases m <;> simp [okD] at he
      | _ => rw [show p = _ from a, show q = _ from b]; simp [PyData.eqv, eqD]
    | str x => cases e with
      | tup _ => obtain ⟨_, _, _, _, rfl⟩ := b; rw [show p = _ from a]; simp [PyData.eqv, eqD]
      | lst _ => obtain ⟨_, _, _, _, rfl⟩ := b; rw [show p = _ from a]; simp [PyData.eqv, eqD]
      | rol _ => obtain ⟨_, _, _, _, rfl⟩ := b; rw [show p = _ from a]; simp [PyData.eqv, eqD]
      | obj _ _ => cases m <;> simp [okD] at he
      | ref _ => cases m <;> simp [okD] at he
      | rng _ _ _ => cases m <;> simp [okD] at he
      | ty _ => cases m <;> simp [okD] at he
      | cl _ => cases m <;> simp [okD] at he
      | str y =>
        rw [show p = _ from a, show q = _ from b]
        unfold PyData.eqv eqD
        exact strs_beq x y
      | _ => rw [show p = _ from a, show q = _ from b]; simp [PyData.eqv, eqD]
    | tup ds =>
      obtain ⟨n', ps, rfl, e1, rfl⟩ := a
      unfold okD at hd
      cases e with
      | tup es =>
        obtain ⟨m', qs, rfl, e2, rfl⟩ := b
        unfold okD at he
        unfold PyData.eqv eqD
        exact eqvs_ok ds n' m' es ps qs hd he e1 e2
      | lst _ => obtain ⟨_, _, _, _, rfl⟩ := b; simp [PyData.eqv, eqD]
      | rol _ => obtain ⟨_, _, _, _, rfl⟩ := b; simp [PyData.eqv, eqD]
      | obj _ _ => cases m <;> simp [okD] at he
      | ref _ => cases m <;> simp [okD] at he
      | rng _ _ _ => cases m <;> simp [okD] at he
      | ty _ => cases m <;> simp [okD] at he
      | cl _ => cases m <;> simp [okD] at he
      | _ => rw [show q = _ from b]; simp [PyData.eqv, eqD]
    | lst ds =>
      obtain ⟨n', ps, rfl, e1, rfl⟩ := a
      unfold okD at hd
      cases e with
      | lst es =>
        obtain ⟨m', qs, rfl, e2, rfl⟩ := b
        unfold okD at he
        unfold PyData.eqv eqD
        exact eqvs_ok ds n' m' es ps qs hd he e1 e2
      | rol es =>
        obtain ⟨m', qs, rfl, e2, rfl⟩ := b
        unfold okD at he
        unfold PyData.eqv eqD
        exact eqvs_ok ds n' m' es ps qs hd he e1 e2
      | tup _ => obtain ⟨_, _, _, _, rfl⟩ := b; simp [PyData.eqv, eqD]
      | obj _ _ => cases m <;> simp [okD] at he
      | ref _ => cases m <;> simp [okD] at he
      | rng _ _ _ => cases m <;> simp [okD] at he
      | ty _ => cases m <;> simp [okD] at he
      | cl _ => cases m <;> simp [okD] at he
      | _ => rw [show q = _ from b]; simp [PyData.eqv, eqD]
    | rol ds =>
      obtain ⟨n', ps, rfl, e1, rfl⟩ := a
      unfold okD at hd
      cases e with
      | lst es =>
        obtain ⟨m', qs, rfl, e2, rfl⟩ := b
        unfold okD at he
        unfold PyData.eqv eqD
        exact eqvs_ok ds n' m' es ps qs hd he e1 e2
      | rol es =>
        obtain ⟨m', qs, rfl, e2, rfl⟩ := b
        unfold okD at he
        unfold PyData.eqv eqD
        exact eqvs_ok ds n' m' es ps qs hd he e1 e2
      | tup _ => obtain ⟨_, _, _, _, rfl⟩ := b; simp [PyData.eqv, eqD]
      | obj _ _ => cases m <;> simp [okD] at he
      | ref _ => cases m <;> simp [okD] at he
      | rng _ _ _ => cases m <;> simp [okD] at he
      | ty _ => cases m <;> simp [okD] at he
      | cl _ => cases m <;> simp [okD] at he
      | _ => rw [show q = _ from b]; simp [PyData.eqv, eqD]
    | obj _ _ => cases n <;> simp [okD] at hd
    | ref _ => cases n <;> simp [okD] at hd
    | rng _ _ _ => cases n <;> simp [okD] at hd
    | ty _ => cases n <;> simp [okD] at hd
    | cl _ => cases n <;> simp [okD] at hd
theorem eqvs_ok {st : Sto} : ∀ (ds : List D) (n m : Nat) (es : List D) (ps qs : List PyData), okDs n ds = true → okDs m es = true → mapO (toPy st n) ds = some ps → mapO (toPy st m) es = some qs → PyData.eqvAll ps qs = eqDs ds es
  | [], n, m, es, ps, qs, hd, he, h1, h2 => by
    cases h1
    cases es with
    | nil => cases h2; simp [PyData.eqvAll, eqDs]
    | cons e es =>
      unfold mapO at h2
      split at h2
      · cases h2; simp [PyData.eqvAll, eqDs]
      · cases h2
  | d :: ds, n, m, es, ps, qs, hd, he, h1, h2 => by
    unfold mapO at h1
    split at h1
    · rename_i p ps' a1 a2
      cases h1
      cases es with
      | nil => cases h2; simp [PyData.eqvAll, eqDs]
      | cons e es =>
        unfold mapO at h2
        split at h2
        · rename_i q qs' b1 b2
          cases h2
          unfold okDs at hd he
          rw [Bool.and_eq_true] at hd he
          unfold PyData.eqvAll eqDs
          rw [eqv_ok d n m e p q hd.1 he.1 a1 b1, eqvs_ok ds n m es ps' qs' hd.2 he.2 a2 b2]
        · cases h2
    · cases h1
end
theorem pyEq_ok {st : Sto} {x y : D} (hx : okD 8 x = true) (hy : okD 8 y = true) : pyEq st x y = some (eqD x y) := by
  have main : (match toPy st 8 x, toPy st 8 y with
    | some d, some e => if SeqAt.shaped d = true ∧ SeqAt.shaped e = true then some (PyData.eqv d e) else none
    | _, _ => none) = some (eqD x y) := by
    obtain ⟨p, e1, a1, b1⟩ := toPy_ok (st := st) 8 x hx
    obtain ⟨q, e2, a2, b2⟩ := toPy_ok (st := st) 8 y hy
    rw [e1, e2]
    dsimp only
    have s1 : SeqAt.shaped p = true := by unfold SeqAt.shaped; rw [a1]; simp; omega
    have s2 : SeqAt.shaped q = true := by unfold SeqAt.shaped; rw [a2]; simp; omega
    rw [if_pos ⟨s1, s2⟩, eqv_ok x 8 8 y p q hx hy e1 e2]
  unfold pyEq
  split
  · unfold eqD
    rename_i a b
    by_cases h : a = b <;> simp [h]
  · unfold eqD
    rename_i a b
    by_cases h : a = b <;> simp [h]
  · unfold eqD
    rename_i a b
    by_cases h : a = b <;> simp [h]
  · exact main
/-- == of plain data -/
theorem r_eqP {st : Sto} {x y : D} (hx : okD 8 x = true) (hy : okD 8 y = true) : fEq x y st = .ok (.bl (eqD x y)) st := by
  unfold fEq
  rw [pyEq_ok hx hy]
theorem r_neP {st : Sto} {x y : D} (hx : okD 8 x = true) (hy : okD 8 y = true) : fNe x y st = .ok (.bl (!eqD x y)) st := by
  unfold fNe
  rw [pyEq_ok hx hy]
theorem okDs_iff {n : Nat} {ds : List D} : okDs n ds = true ↔ ∀ d ∈ ds, okD n d = true := by
  induction ds with
  | nil => simp [okDs]
  | cons d ds ih =>
    unfold okDs
    rw [Bool.and_eq_true, ih]
    simp
theorem okD_lst {n : Nat} {ds : List D} (h : ∀ d ∈ ds, okD n d = true) : okD (n + 1) (.lst ds) = true := by
  unfold okD
  exact okDs_iff.mpr h
theorem okD_tup {n : Nat} {ds : List D} (h : ∀ d ∈ ds, okD n d = true) : okD (n + 1) (.tup ds) = true := by
  unfold okD
  exact okDs_iff.mpr h
theorem eqDs_map {α : Type} [DecidableEq α] {f : α → D} (hf : ∀ a b, eqD (f a) (f b) = decide (a = b)) : ∀ l m : List α, eqDs (l.map f) (m.map f) = decide (l = m)
  | [], [] => by simp [eqDs]
  | [], _ :: _ => by simp [eqDs]
  | _ :: _, [] => by simp [eqDs]
  | a :: l, b :: m => by
    show (eqD (f a) (f b) && eqDs (l.map f) (m.map f)) = _
    rw [hf, eqDs_map hf l m]
    by_cases h : a = b <;> by_cases h2 : l = m <;> simp [h, h2]
theorem eqD_int (i j : Int) : eqD (.int i) (.int j) = decide (i = j) := by
  unfold eqD
  by_cases h : i = j <;> simp [h]
theorem eqD_str (i j : List Nat) : eqD (.str i) (.str j) = decide (i = j) := by
  unfold eqD
  by_cases h : i = j <;> simp [h]
/-- a list against the empty one -/
theorem r_eqNil {st : Sto} {l : List D} (h : ∀ d ∈ l, okD 7 d = true) : fEq (.lst l) (.lst []) st = .ok (.bl (decide (l = []))) st := by
  rw [r_eqP (okD_lst h) rfl]
  cases l with
  | nil => simp [eqD, eqDs]
  | cons a l => simp [eqD, eqDs]
end F
/-! Texts: count, split, join, slices, in plain lists. -/
namespace F
open PySem L2

/-! ### slices -/
section
variable {α : Type} {l : List α} {i j : Int}
theorem cut_to (h : 0 ≤ j) : cutD l none (some j) = l.take j.toNat := by
  unfold cutD HT.sIx
  simp [show ¬ j < 0 by omega]
theorem cut_from (h : 0 ≤ i) : cutD l (some i) none = l.drop i.toNat := by
  unfold cutD HT.sIx
  simp only [show ¬ i < 0 by omega, if_false]
  rcases Nat.le_total i.toNat l.length with h | h
  · rw [Nat.min_eq_left h]
    exact List.take_of_length_le (by simp)
  · rw [Nat.min_eq_right h, List.drop_of_length_le (Nat.le_refl _), List.drop_of_length_le h]
    simp
theorem cut_in (h : 0 ≤ i) (h2 : 0 ≤ j) : cutD l (some i) (some j) = (l.drop i.toNat).take (j.toNat - i.toNat) := by
  unfold cutD HT.sIx
  simp only [show ¬ i < 0 by omega, show ¬ j < 0 by omega, if_false]
  rcases Nat.le_total i.toNat l.length with h | h
  · rw [Nat.min_eq_left h]
    rcases Nat.le_total j.toNat l.length with h2 | h2
    · rw [Nat.min_eq_left h2]
    · rw [Nat.min_eq_right h2, List.take_of_length_le (i := l.length - i.toNat) (by simp), List.take_of_length_le]
      rw [List.length_drop]
      omega
  · rw [Nat.min_eq_right h, List.drop_of_length_le (Nat.le_refl _), List.drop_of_length_le h]
    simp
theorem atI_in (h0 : 0 ≤ i) (h1 : i < l.length) : atI l i = some (l[i.toNat]'(by omega)) := by
  unfold atI ixN
  rw [if_pos h0, if_pos h1]
  exact List.getElem?_eq_getElem _
@[simp] theorem atI_0 {x0 : α} : atI (x0 :: l) 0 = some x0 := by
  rw [atI_in (by decide) (by simp only [List.length_cons]; omega)]
  rfl
@[simp] theorem atI_1 {x0 x1 : α} : atI (x0 :: x1 :: l) 1 = some x1 := by
  rw [atI_in (by decide) (by simp only [List.length_cons]; omega)]
  rfl
@[simp] theorem atI_2 {x0 x1 x2 : α} : atI (x0 :: x1 :: x2 :: l) 2 = some x2 := by
  rw [atI_in (by decide) (by simp only [List.length_cons]; omega)]
  rfl
@[simp] theorem atI_3 {x0 x1 x2 x3 : α} : atI (x0 :: x1 :: x2 :: x3 :: l) 3 = some x3 := by
  rw [atI_in (by decide) (by simp only [List.length_cons]; omega)]
  rfl
@[simp] theorem atI_4 {x0 x1 x2 x3 x4 : α} : atI (x0 :: x1 :: x2 :: x3 :: x4 :: l) 4 = some x4 := by
  rw [atI_in (by decide) (by simp only [List.length_cons]; omega)]
  rfl
@[simp] theorem atI_5 {x0 x1 x2 x3 x4 x5 : α} : atI (x0 :: x1 :: x2 :: x3 :: x4 :: x5 :: l) 5 = some x5 := by
  rw [atI_in (by decide) (by simp only [List.length_cons]; omega)]
  rfl
@[simp] theorem atI_6 {x0 x1 x2 x3 x4 x5 x6 : α} : atI (x0 :: x1 :: x2 :: x3 :: x4 :: x5 :: x6 :: l) 6 = some x6 := by
  rw [atI_in (by decide) (by simp only [List.length_cons]; omega)]
  rfl
@[simp] theorem atI_7 {x0 x1 x2 x3 x4 x5 x6 x7 : α} : atI (x0 :: x1 :: x2 :: x3 :: x4 :: x5 :: x6 :: x7 :: l) 7 = some x7 := by
  rw [atI_in (by decide) (by simp only [List.length_cons]; omega)]
  rfl
theorem atI_last (h : l ≠ []) : atI l (-1) = l.getLast? := by
  have hl := List.length_pos_iff.mpr h
  unfold atI ixN
  rw [if_neg (by decide), if_pos (by omega), List.getLast?_eq_getElem?]
  show l[((-1 : Int) + l.length).toNat]? = _
  congr 1
  omega
end

/-! ### count of one sign -/
open Builtin.Str in
theorem occ_one (x : Str) (c : Nat) : ∀ (m k : Nat) (arr : Array Nat) (free : Nat), k + m = x.length + 1 → free ≤ k → arr.size ≤ k →
    (forIn (List.range' k m) (arr, free) (StrLaws.occBody x ⟨#[c]⟩ x.length (x.length + 1))).run.fst.size = arr.size + (x.cps.toList.drop k).count c
  | 0, k, arr, free, hk, hf, ha => by
    rw [List.drop_of_length_le (by simp [Str.length] at hk ⊢; omega)]
    simp
  | m + 1, k, arr, free, hk, hf, ha => by
    rw [List.range'_succ, List.forIn_cons]
    have hx : x.length = x.cps.toList.length := by simp [Str.length]
    by_cases hc : x.cps.toList[k]? = some c
    · have h1 := (StrLaws.subAt_one x c k).mpr hc
      have e : StrLaws.occBody x ⟨#[c]⟩ x.length (x.length + 1) k (arr, free) = pure (ForInStep.yield (arr.push k, k + 1)) := by
        unfold StrLaws.occBody
        rw [if_pos ⟨⟨⟨by show arr.size < _; omega, hf⟩, h1.1⟩, h1.2⟩]
        rfl
      rw [e]
      show (forIn (List.range' (k + 1) m) (arr.push k, k + 1) (StrLaws.occBody x ⟨#[c]⟩ x.length (x.length + 1))).run.fst.size = _
      rw [occ_one x c m (k + 1) (arr.push k) (k + 1) (by omega) (Nat.le_refl _) (by rw [Array.size_push]; omega), Array.size_push]
      obtain ⟨hlt, hv⟩ := List.getElem?_eq_some_iff.mp hc
      rw [List.drop_eq_getElem_cons hlt, hv, List.count_cons_self]
      omega
    · have e : StrLaws.occBody x ⟨#[c]⟩ x.length (x.length + 1) k (arr, free) = pure (ForInStep.yield (arr, free)) := by
        unfold StrLaws.occBody
        rw [if_neg (fun z => hc ((StrLaws.subAt_one x c k).mp ⟨z.1.2, z.2⟩))]
      rw [e]
      show (forIn (List.range' (k + 1) m) (arr, free) (StrLaws.occBody x ⟨#[c]⟩ x.length (x.length + 1))).run.fst.size = _
      rw [occ_one x c m (k + 1) arr free (by omega) (by omega) (by omega)]
      by_cases hlt : k < x.cps.toList.length
      · rw [List.drop_eq_getElem_cons hlt, List.count_cons_of_ne]
        intro z
        exact hc (by rw [List.getElem?_eq_getElem hlt, z])
      · rw [List.drop_of_length_le (by omega), List.drop_of_length_le (by omega)]
theorem count_one (s : List Nat) (c : Nat) : Txt.count ⟨s.toArray⟩ ⟨#[c]⟩ = (s.count c : Nat) := by
  unfold Txt.count
  rw [StrLaws.occ_eq, Array.length_toList]
  have h := occ_one ⟨s.toArray⟩ c ((⟨s.toArray⟩ : Str).length + 1) 0 #[] 0 (by omega) (Nat.le_refl _) (Nat.le_refl _)
  simp only [List.drop_zero] at h
  rw [show (⟨s.toArray⟩ : Str).length + 1 - 0 = (⟨s.toArray⟩ : Str).length + 1 by omega, h]
  simp
@[simp] theorem r_count {s : List Nat} {c : Nat} {st : Sto} : fCountS (.str s) [.str [c]] st = .ok (.int (s.count c : Nat)) st := by
  show Res.ok (D.int (Txt.count ⟨s.toArray⟩ ⟨#[c]⟩)) st = _
  rw [count_one]

/-! ### split by one sign -/
def spl1 (c : Nat) : List Nat → List Nat → List (List Nat)
  | acc, [] => [acc]
  | acc, x :: r => if x = c then acc :: spl1 c [] r else spl1 c (acc ++ [x]) r
theorem pre_one (c x : Nat) (r : List Nat) : TL.pre [c] (x :: r) = decide (x = c) := by
  unfold TL.pre
  by_cases h : x = c
  · subst h; simp
  · simp [h, Ne.symm h]
theorem spl_one (c : Nat) : ∀ (l acc : List Nat), TL.spl [c] 0 acc l = spl1 c acc l
  | [], acc => by rw [TL.spl_nil]; rfl
  | x :: r, acc => by
    unfold spl1
    by_cases h : x = c
    · rw [if_pos h, TL.spl_hit (by rw [pre_one]; exact decide_eq_true h)]
      show acc :: TL.spl [c] 0 [] r = _
      rw [spl_one c r]
    · rw [if_neg h, TL.spl_miss (by rw [pre_one]; exact decide_eq_false h), spl_one c r]
theorem split_one (s : List Nat) (c : Nat) (hc : c < 256) : (Txt.split ⟨s.toArray⟩ ⟨#[c]⟩).map (fun y => y.cps.toList) = spl1 c [] s := by
  have h := TL.split_spl ⟨s.toArray⟩ ⟨#[c]⟩ (by simp [TL.tl]) (TL.kind_ok (by simp [hc]))
  rw [← spl_one]
  simpa [TL.tl] using h
theorem r_split {m : Bool} {s : List Nat} {c : Nat} {st : Sto} (hc : c < 256) (hl : s.length + 2 ≤ sizeLine) : fSplit m (.str s) [.str [c]] st = mkL m ((spl1 c [] s).map .str) st := by
  show (if (([c] : List Nat).length == 0) = false ∧ s.length + 2 ≤ sizeLine then mkL m ((Txt.split ⟨s.toArray⟩ ⟨[c].toArray⟩).map fun y => D.str y.cps.toList) st else .bad) = _
  rw [if_pos ⟨rfl, hl⟩, ← split_one s c hc, List.map_map]
  rfl

/-! ### join without a sign between -/
theorem joinL_nil : ∀ ys : List (List Nat), TL.joinL [] ys = ys.flatten
  | [] => rfl
  | [y] => by simp [TL.joinL]
  | y :: z :: r => by
    show y ++ ([] ++ TL.joinL [] (z :: r)) = _
    rw [joinL_nil (z :: r)]
    simp
theorem join_txt (a : List Nat) (ys : List (List Nat)) : (Txt.join ⟨a.toArray⟩ (ys.map fun y => ⟨y.toArray⟩)).cps.toList = TL.joinL a ys := by
  rw [TL.join_eq]
  have h := TL.tl_join ⟨a.toArray⟩ (ys.map fun y => (⟨y.toArray⟩ : Str))
  have e : (ys.map fun y => (⟨y.toArray⟩ : Str)).map TL.tl = ys := by
    rw [List.map_map]
    have : (TL.tl ∘ fun y : List Nat => (⟨y.toArray⟩ : Str)) = id := by
      funext y
      simp [TL.tl]
    rw [this, List.map_id]
  rw [e] at h
  simpa [TL.tl] using h
theorem asStrs_map (ys : List (List Nat)) : asStrs (ys.map .str) = some ys := by
  induction ys with
  | nil => rfl
  | cons y ys ih =>
    show (asStrs (ys.map .str)).map (y :: ·) = _
    rw [ih]
    rfl
theorem r_joinL {ys : List (List Nat)} {a : List Nat} {st : Sto} (h : (ys.map List.length).sum + ys.length * a.length ≤ 16777216) : fJoin (.str a) [.lst (ys.map .str)] st = .ok (.str (TL.joinL a ys)) st := by
  show (match (some (ys.map D.str)).bind asStrs with
    | some ys => if (ys.map List.length).sum + ys.length * a.length ≤ 16777216 then Res.ok (D.str (Txt.join ⟨a.toArray⟩ (ys.map fun y : List Nat => ⟨y.toArray⟩)).cps.toList) st else .bad
    | none => .bad) = _
  rw [show (some (ys.map D.str)).bind asStrs = some ys from asStrs_map ys]
  dsimp only
  rw [if_pos h, join_txt]
theorem r_joinC {ys : List (List Nat)} {a : List Nat} {st : Sto} {j : Nat} (hj : st[j]? = some (.lst (ys.map .str))) (h : (ys.map List.length).sum + ys.length * a.length ≤ 16777216) : fJoin (.str a) [.ref j] st = .ok (.str (TL.joinL a ys)) st := by
  show (match (asL (.ref j) st).bind asStrs with
    | some ys => if (ys.map List.length).sum + ys.length * a.length ≤ 16777216 then Res.ok (D.str (Txt.join ⟨a.toArray⟩ (ys.map fun y : List Nat => ⟨y.toArray⟩)).cps.toList) st else .bad
    | none => .bad) = _
  have e : asL (.ref j) st = some (ys.map .str) := by
    unfold asL
    simp [hj]
  rw [e, show (some (ys.map D.str)).bind asStrs = some ys from asStrs_map ys]
  dsimp only
  rw [if_pos h, join_txt]
/-! ### lists of truths, of numbers -/
theorem asBools_map {α : Type} (l : List α) (f : α → Bool) : asBools (l.map fun x => .bl (f x)) = some (l.map f) := by
  induction l with
  | nil => rfl
  | cons y ys ih =>
    show (asBools (ys.map fun x => .bl (f x))).map (f y :: ·) = _
    rw [ih]
    rfl
theorem asInts_map {α : Type} (l : List α) (f : α → Int) : asInts (l.map fun x => .int (f x)) = some (l.map f) := by
  induction l with
  | nil => rfl
  | cons y ys ih =>
    show (asInts (ys.map fun x => .int (f x))).map (f y :: ·) = _
    rw [ih]
    rfl
theorem r_any {α : Type} {l : List α} {f : α → Bool} {st : Sto} : fAny [.lst (l.map fun x => .bl (f x))] st = .ok (.bl (l.any f)) st := by
  show (match (some (l.map fun x => D.bl (f x))).bind asBools with | some ns => Res.ok (D.bl (ns.any id)) st | none => .bad) = _
  rw [show (some (l.map fun x => D.bl (f x))).bind asBools = some (l.map f) from asBools_map l f]
  simp [List.any_map]
theorem r_all {α : Type} {l : List α} {f : α → Bool} {st : Sto} : fAll [.lst (l.map fun x => .bl (f x))] st = .ok (.bl (l.all f)) st := by
  show (match (some (l.map fun x => D.bl (f x))).bind asBools with | some ns => Res.ok (D.bl (ns.all id)) st | none => .bad) = _
  rw [show (some (l.map fun x => D.bl (f x))).bind asBools = some (l.map f) from asBools_map l f]
  simp [List.all_map]
theorem r_maxL {α : Type} {l : List α} {f : α → Int} {st : Sto} (h : l ≠ []) : fMax [.lst (l.map fun x => .int (f x))] st = .ok (.int (maxL (l.map f))) st := by
  show (match (some (l.map fun x => D.int (f x))).bind asInts with | some ns => if ns ≠ [] then Res.ok (D.int (maxL ns)) st else .bad | none => .bad) = _
  rw [show (some (l.map fun x => D.int (f x))).bind asInts = some (l.map f) from asInts_map l f]
  simp [h]
theorem r_minL {α : Type} {l : List α} {f : α → Int} {st : Sto} (h : l ≠ []) : fMin [.lst (l.map fun x => .int (f x))] st = .ok (.int (minL (l.map f))) st := by
  show (match (some (l.map fun x => D.int (f x))).bind asInts with | some ns => if ns ≠ [] then Res.ok (D.int (minL ns)) st else .bad | none => .bad) = _
  rw [show (some (l.map fun x => D.int (f x))).bind asInts = some (l.map f) from asInts_map l f]
  simp [h]
/-! ### comprehensions whose items are computed without the store -/
theorem comp_fun {α : Type} {t : Tg} {te : Ev} {env : Env} {st : Sto} {g h : α → D} : ∀ {l : List α}, (∀ x ∈ l, ∃ e1, t (g x) env = some e1 ∧ te e1 st = .ok (h x) st) → compF t tYesF te env (l.map g) st = .ok (l.map h) st
  | [], _ => rfl
  | d :: ds, k => by
    obtain ⟨e1, q1, q2⟩ := k d List.mem_cons_self
    show compF t tYesF te env (g d :: ds.map g) st = _
    unfold compF
    rw [q1]
    dsimp only
    show ((te e1 st).cut.bind fun y s1 => (compF t tYesF te env (ds.map g) s1).bind fun r s2 => .ok (y :: r) s2) = _
    rw [q2]
    show ((compF t tYesF te env (ds.map g) st).bind fun r s2 => .ok (h d :: r) s2) = _
    rw [comp_fun fun x hx => k x (List.mem_cons_of_mem _ hx)]
    rfl
theorem comp_filt {α : Type} {t : Tg} {tt : Tv} {te : Ev} {env : Env} {st : Sto} {g h : α → D} {q : α → Bool} : ∀ {l : List α}, (∀ x ∈ l, ∃ e1, t (g x) env = some e1 ∧ tt e1 st = .ok (q x) st ∧ (q x = true → te e1 st = .ok (h x) st)) → compF t tt te env (l.map g) st = .ok ((l.filter q).map h) st
  | [], _ => rfl
  | d :: ds, k => by
    obtain ⟨e1, q1, q2, q3⟩ := k d List.mem_cons_self
    have ih := comp_filt fun x hx => k x (List.mem_cons_of_mem _ hx)
    show compF t tt te env (g d :: ds.map g) st = _
    unfold compF
    rw [q1]
    dsimp only
    rw [q2]
    by_cases hq : q d = true
    · rw [List.filter_cons_of_pos hq]
      show (if q d = true then (te e1 st).cut.bind fun y s1 => (compF t tt te env (ds.map g) s1).bind fun r s2 => .ok (y :: r) s2 else compF t tt te env (ds.map g) st) = _
      rw [if_pos hq, q3 hq]
      show ((compF t tt te env (ds.map g) st).bind fun r s2 => .ok (h d :: r) s2) = _
      rw [ih]
      rfl
    · rw [List.filter_cons_of_neg hq]
      show (if q d = true then (te e1 st).cut.bind fun y s1 => (compF t tt te env (ds.map g) s1).bind fun r s2 => .ok (y :: r) s2 else compF t tt te env (ds.map g) st) = _
      rw [if_neg hq, ih]
/-! ### ranges -/
theorem rangeL_len (lo hi : Int) : (rangeL lo hi).length = (hi - lo).toNat := by
  unfold rangeL
  simp
theorem rangeL_get {lo hi : Int} {k : Nat} {d : D} (h : (rangeL lo hi)[k]? = some d) : k < (hi - lo).toNat ∧ d = .int (lo + k) := by
  unfold rangeL at h
  rw [List.getElem?_map] at h
  cases q : (List.range (hi - lo).toNat)[k]? with
  | none => rw [q] at h; cases h
  | some c =>
    rw [q] at h
    have hl := (List.getElem?_eq_some_iff.mp q).1
    have hl' : k < (hi - lo).toNat := by simpa using hl
    rw [List.getElem?_range hl'] at q
    cases q
    cases h
    exact ⟨hl', rfl⟩
/-! ### stores -/
theorem set_self {st : Sto} {i : Nat} {c : Cell} : (st.set i c)[i]? = (st[i]?).map fun _ => c := by
  rw [List.getElem?_set]
  by_cases h : i < st.length
  · simp [h]
  · simp [h]
theorem set_id {st : Sto} {i : Nat} {c : Cell} (h : st[i]? = some c) : st.set i c = st := by
  rw [← List.getElem?_eq_some_iff.mp h |>.2]
  simp
theorem snoc_old {st : Sto} {i : Nat} {c d : Cell} (h : st[i]? = some c) : (st ++ [d])[i]? = some c := by
  rw [List.getElem?_append_left (List.getElem?_eq_some_iff.mp h).1]
  exact h
theorem snoc_new {st : Sto} {d : Cell} : (st ++ [d])[st.length]? = some d := by
  rw [List.getElem?_append_right (Nat.le_refl _)]
  simp
theorem set_other {st : Sto} {i j : Nat} {c : Cell} (h : i ≠ j) : (st.set i c)[j]? = st[j]? := List.getElem?_set_ne h
/-- what stood in the store, but at the places ex, still stands -/
def Sm (ex : List Nat) (st st' : Sto) : Prop := st.length ≤ st'.length ∧ ∀ (j : Nat) (c : Cell), j ∉ ex → st[j]? = some c → st'[j]? = some c
theorem Sm.refl (ex : List Nat) (st : Sto) : Sm ex st st := ⟨Nat.le_refl _, fun _ _ _ h => h⟩
theorem Sm.trans {ex : List Nat} {a b c : Sto} (h : Sm ex a b) (k : Sm ex b c) : Sm ex a c := ⟨Nat.le_trans h.1 k.1, fun j x n e => k.2 j x n (h.2 j x n e)⟩
theorem Sm.wide {ex ey : List Nat} {a b : Sto} (h : Sm ex a b) (k : ∀ j ∈ ex, j ∈ ey) : Sm ey a b := ⟨h.1, fun j x n e => h.2 j x (fun z => n (k j z)) e⟩
theorem Sm.set {ex : List Nat} {st : Sto} {i : Nat} {c : Cell} (h : i ∈ ex) : Sm ex st (st.set i c) := ⟨by simp, fun j x n e => by
  rw [List.getElem?_set_ne (fun z => n (by rw [← z]; exact h))]
  exact e⟩
theorem Sm.snoc {ex : List Nat} {st : Sto} {c : Cell} : Sm ex st (st ++ [c]) := ⟨by simp, fun j x n e => snoc_old e⟩
theorem Sm.app {ex : List Nat} {st l : Sto} : Sm ex st (st ++ l) := ⟨by simp, fun j x n e => by
  rw [List.getElem?_append_left (List.getElem?_eq_some_iff.mp e).1]
  exact e⟩
theorem Sm.lt {ex : List Nat} {a b : Sto} {j : Nat} (h : Sm ex a b) (k : j < a.length) : j < b.length := Nat.lt_of_lt_of_le k h.1
/-- places beyond the store's end do not matter -/
theorem Sm.new {ex : List Nat} {a b : Sto} {i : Nat} (h : Sm (i :: ex) a b) (k : a.length ≤ i) : Sm ex a b := ⟨h.1, fun j x n e => h.2 j x (fun z => by
  rcases List.mem_cons.mp z with z | z
  · have := (List.getElem?_eq_some_iff.mp e).1
    omega
  · exact n z) e⟩
end F
namespace F
open PySem L2
section
variable {st : Sto} {x y : Bool} {d : D}
@[simp] theorem r_isB : fIs (.bl x) (.bl y) st = .ok (.bl (decide (x = y))) st := (rfl)
@[simp] theorem r_isNotB : fIsNot (.bl x) (.bl y) st = .ok (.bl (!decide (x = y))) st := (rfl)
@[simp] theorem r_isN : fIs d .non st = .ok (.bl (isNon d)) st := (rfl)
@[simp] theorem r_isNotN : fIsNot d .non st = .ok (.bl (!isNon d)) st := (rfl)
@[simp] theorem isNon_non : isNon .non = true := (rfl)
@[simp] theorem isNon_int {i : Int} : isNon (.int i) = false := (rfl)
@[simp] theorem isNon_bl : isNon (.bl x) = false := (rfl)
@[simp] theorem isNon_str {s : List Nat} : isNon (.str s) = false := (rfl)
@[simp] theorem isNon_tup {s : List D} : isNon (.tup s) = false := (rfl)
@[simp] theorem isNon_lst {s : List D} : isNon (.lst s) = false := (rfl)
@[simp] theorem isNon_rol {s : List D} : isNon (.rol s) = false := (rfl)
@[simp] theorem isNon_ref {i : Nat} : isNon (.ref i) = false := (rfl)
@[simp] theorem isNon_obj {c : Nat} {s : List D} : isNon (.obj c s) = false := (rfl)
end
end F
namespace M
open PySem L2 F
def Bits (s : List Nat) : Prop := ∀ c ∈ s, c = 48 ∨ c = 49
def pcs (size n f : Nat) : Nat := if f < n then (n - f - 1) / size + 1 else 0
def partsOf (size f : Nat) (bits : List Nat) : List (List Nat) := bits.take f :: (List.range (pcs size bits.length f)).map fun k => (bits.drop (f + k * size)).take size
def partOk (low size : Nat) (p : List Nat) : Bool := decide ((low : Int) ≤ (p.count 49 : Nat) + (size : Int) - (p.length : Nat))
def cutLet (low size : Nat) (bits : List Nat) (f : Nat) : Bool := (partsOf size f bits).all (partOk low size)
def repL (n : Nat) (row : List Nat) : List Nat := (List.replicate n row).flatten
def winAt (row bits : List Nat) (k : Nat) : Bool := decide (((repL (bits.length / row.length + 2) row).drop k).take bits.length = bits)
theorem Bits.nil : Bits [] := fun _ h => (List.not_mem_nil h).elim
theorem Bits.app {a b : List Nat} (h : Bits a) (k : Bits b) : Bits (a ++ b) := fun c m => (List.mem_append.mp m).elim (h c) (k c)
theorem Bits.rep {a : List Nat} (h : Bits a) (n : Nat) : Bits (repL n a) := fun c m => by
  obtain ⟨l, h1, h2⟩ := List.mem_flatten.mp m
  rw [List.eq_of_mem_replicate h1] at h2
  exact h c h2
theorem Bits.b0 : Bits [48] := fun c m => .inl (by simpa using m)
theorem Bits.b1 : Bits [49] := fun c m => .inr (by simpa using m)
theorem Bits.take {a : List Nat} (h : Bits a) (n : Nat) : Bits (a.take n) := fun c m => h c (List.mem_of_mem_take m)
theorem Bits.drop {a : List Nat} (h : Bits a) (n : Nat) : Bits (a.drop n) := fun c m => h c (List.mem_of_mem_drop m)
theorem count_bits : ∀ {s : List Nat}, Bits s → s.count 48 + s.count 49 = s.length
  | [], _ => rfl
  | c :: s, h => by
    have ih := count_bits (s := s) fun x hx => h x (List.mem_cons_of_mem _ hx)
    rcases h c List.mem_cons_self with e | e
    · subst e
      rw [List.count_cons_self, List.count_cons_of_ne (by decide), List.length_cons]
      omega
    · subst e
      rw [List.count_cons_self, List.count_cons_of_ne (by decide), List.length_cons]
      omega

/-! from here -/
def Per (size gap : Nat) (L : List Nat) : Prop := ∀ k, ((L.drop (k * size)).take size).count 48 ≤ gap
theorem Per.cons {size gap : Nat} {B L : List Nat} (hB : B.length = size) (hc : B.count 48 ≤ gap) (h : Per size gap L) : Per size gap (B ++ L) := fun k => by
  cases k with
  | zero =>
    rw [Nat.zero_mul, List.drop_zero, ← hB, List.take_append_of_le_length (Nat.le_refl _), List.take_length]
    exact hc
  | succ k =>
    rw [List.drop_append, List.drop_of_length_le (by rw [hB, Nat.add_mul]; omega), List.nil_append, show (k + 1) * size - B.length = k * size by rw [hB, Nat.add_mul]; omega]
    exact h k
theorem Per.short {size gap : Nat} {T : List Nat} (hs : 1 ≤ size) (hl : T.length ≤ size) (hc : T.count 48 ≤ gap) : Per size gap T := fun k => by
  cases k with
  | zero =>
    rw [Nat.zero_mul, List.drop_zero, List.take_of_length_le hl]
    exact hc
  | succ k =>
    rw [List.drop_of_length_le (by rw [Nat.add_mul]; omega)]
    simp
theorem Per.flat {size gap : Nat} {T : List Nat} (h : Per size gap T) : ∀ {bs : List (List Nat)}, (∀ B ∈ bs, B.length = size ∧ B.count 48 ≤ gap) → Per size gap (bs.flatten ++ T)
  | [], _ => h
  | B :: bs, q => by
    rw [List.flatten_cons, List.append_assoc]
    exact .cons (q B List.mem_cons_self).1 (q B List.mem_cons_self).2 (Per.flat h fun C m => q C (List.mem_cons_of_mem _ m))
theorem partOk_of {low size : Nat} {p : List Nat} (hb : Bits p) (hl : low ≤ size) (h : p.count 48 ≤ size - low) : partOk low size p = true := by
  have := count_bits hb
  exact decide_eq_true (by omega)
theorem partOk_no {low size : Nat} {p : List Nat} (hb : Bits p) (hl : low ≤ size) (h : size - low < p.count 48) : partOk low size p = false := by
  have := count_bits hb
  exact decide_eq_false (by omega)
theorem cnt_take {l : List Nat} {i j : Nat} (h : i ≤ j) : (l.take i).count 48 ≤ (l.take j).count 48 := by
  rw [show l.take i = (l.take j).take i by rw [List.take_take, Nat.min_eq_left h]]
  exact (List.take_sublist _ _).count_le _
theorem cut_of {low size f : Nat} {b : List Nat} (hb : Bits b) (hl : low ≤ size) (h0 : (b.take f).count 48 ≤ size - low) (h1 : ∀ k, ((b.drop (f + k * size)).take size).count 48 ≤ size - low) : cutLet low size b f = true := by
  unfold cutLet partsOf
  rw [List.all_cons, Bool.and_eq_true, List.all_eq_true]
  refine ⟨partOk_of (hb.take _) hl h0, fun p hp => ?_⟩
  obtain ⟨k, _, rfl⟩ := List.mem_map.mp hp
  exact partOk_of ((hb.drop _).take _) hl (h1 k)
theorem cnt_part {W : List Nat} {len a n : Nat} : (((W.take len).drop a).take n).count 48 ≤ ((W.drop a).take n).count 48 := by
  rw [List.drop_take, List.take_take]
  exact cnt_take (Nat.min_le_left _ _)
/-- a stretch that is laid out period by period is let -/
theorem let_of_per {low size begin len : Nat} {L : List Nat} (hb : Bits L) (h0 : 1 ≤ size) (hl : low ≤ size) (hP : Per size (size - low) L) (hg : begin < size) : (List.range size).any (cutLet low size ((L.drop begin).take len)) = true := by
  rw [List.any_eq_true]
  by_cases z : begin = 0
  · subst z
    refine ⟨0, by simp; omega, cut_of ((hb.drop _).take _) hl (by simp) fun k => ?_⟩
    refine Nat.le_trans cnt_part ?_
    rw [List.drop_drop, Nat.zero_add, Nat.zero_add]
    exact hP k
  · refine ⟨size - begin, by simp; omega, cut_of ((hb.drop _).take _) hl ?_ fun k => ?_⟩
    · rw [List.take_take]
      refine Nat.le_trans (cnt_take (Nat.min_le_left _ _)) ?_
      rw [← List.drop_take]
      have := hP 0
      rw [Nat.zero_mul, List.drop_zero] at this
      exact Nat.le_trans ((List.drop_sublist _ _).count_le _) this
    · refine Nat.le_trans cnt_part ?_
      rw [List.drop_drop, show begin + (size - begin + k * size) = (k + 1) * size by rw [Nat.add_mul]; omega]
      exact hP (k + 1)
theorem cnt_rep0 (n : Nat) : (List.replicate n 48).count 48 = n := by simp
theorem per_worst {low gap : Nat} (h1 : 1 ≤ low) : ∀ n : Nat, Per (low + gap) gap (List.replicate gap 48 ++ repL n (List.replicate low 49 ++ List.replicate gap 48))
  | 0 => .short (by omega) (by simp [repL]) (by simp [repL])
  | n + 1 => by
    have e : List.replicate gap 48 ++ repL (n + 1) (List.replicate low 49 ++ List.replicate gap 48) = (List.replicate gap 48 ++ List.replicate low 49) ++ (List.replicate gap 48 ++ repL n (List.replicate low 49 ++ List.replicate gap 48)) := by
      unfold repL
      rw [List.replicate_succ, List.flatten_cons]
      simp only [List.append_assoc]
    rw [e]
    refine .cons (by simp; omega) ?_ (per_worst h1 n)
    rw [List.count_append, cnt_rep0, List.count_replicate]
    simp
theorem worst_let {low gap len n : Nat} {W : List Nat} (h1 : 1 ≤ low) (hW : W = List.replicate (2 * gap) 48 ++ repL n (List.replicate low 49 ++ List.replicate gap 48)) (hb : Bits W) : (List.range (low + gap)).any (cutLet low (low + gap) (W.take len)) = true := by
  rw [List.any_eq_true]
  refine ⟨gap, by simp; omega, cut_of (hb.take _) (by omega) ?_ fun k => ?_⟩
  · refine Nat.le_trans List.count_le_length ?_
    rw [List.length_take]
    omega
  · refine Nat.le_trans cnt_part ?_
    have e : W.drop gap = List.replicate gap 48 ++ repL n (List.replicate low 49 ++ List.replicate gap 48) := by
      rw [hW, Nat.two_mul, ← List.replicate_append_replicate, List.append_assoc, List.drop_append_of_le_length (by simp)]
      simp
    rw [← List.drop_drop, e, show low + gap - low = gap by omega]
    exact per_worst h1 n k
theorem Bits.zeros (n : Nat) : Bits (List.replicate n 48) := fun c m => .inl (List.eq_of_mem_replicate m)
theorem Bits.ones (n : Nat) : Bits (List.replicate n 49) := fun c m => .inr (List.eq_of_mem_replicate m)
theorem zeros_server {low gap : Nat} (h1 : 1 ≤ low) : (List.range (low + gap)).any (cutLet low (low + gap) (List.replicate (2 * gap + 1) 48)) = false := by
  rw [List.any_eq_false]
  intro f hf
  have hf' : f < low + gap := by simpa using hf
  rw [Bool.not_eq_true]
  unfold cutLet
  rw [List.all_eq_false]
  by_cases h : gap < f
  · refine ⟨_, List.mem_cons_self, ?_⟩
    rw [Bool.not_eq_true, List.take_replicate]
    exact partOk_no (.zeros _) (by omega) (by rw [cnt_rep0]; omega)
  · refine ⟨((List.replicate (2 * gap + 1) 48).drop (f + 0 * (low + gap))).take (low + gap), List.mem_cons_of_mem _ (List.mem_map.mpr ⟨0, ?_, rfl⟩), ?_⟩
    · rw [List.mem_range, List.length_replicate]
      unfold pcs
      rw [if_pos (by omega)]
      exact Nat.succ_pos _
    · rw [Bool.not_eq_true, List.drop_replicate, List.take_replicate]
      exact partOk_no (.zeros _) (by omega) (by rw [cnt_rep0]; omega)

/-! windows -/
theorem rep_len (n : Nat) (row : List Nat) : (repL n row).length = n * row.length := by
  unfold repL
  simp
theorem win_let {row : List Nat} {k len : Nat} (hk : k < row.length) : (List.range row.length).any (winAt row (((repL (len / row.length + 2) row).drop k).take len)) = true := by
  rw [List.any_eq_true]
  refine ⟨k, by simpa using hk, ?_⟩
  have hm := Nat.div_add_mod len row.length
  have hr := Nat.mod_lt len (show 0 < row.length by omega)
  have hl : (((repL (len / row.length + 2) row).drop k).take len).length = len := by
    rw [List.length_take, List.length_drop, rep_len, Nat.add_mul, Nat.mul_comm]
    omega
  unfold winAt
  rw [hl]
  exact decide_eq_true rfl
theorem rep_rot {row : List Nat} {k : Nat} : ∀ n : Nat, repL (n + 1) row = row.take k ++ repL n (row.drop k ++ row.take k) ++ row.drop k
  | 0 => by simp [repL]
  | n + 1 => by
    have e : repL (n + 1 + 1) row = row ++ repL (n + 1) row := by
      unfold repL
      rw [List.replicate_succ (n := n + 1), List.flatten_cons]
    rw [e, rep_rot (k := k) n]
    have e2 : repL (n + 1) (row.drop k ++ row.take k) = (row.drop k ++ row.take k) ++ repL n (row.drop k ++ row.take k) := by
      unfold repL
      rw [List.replicate_succ, List.flatten_cons]
    rw [e2]
    have e3 : row = row.take k ++ row.drop k := (List.take_append_drop k row).symm
    conv => lhs; arg 1; rw [e3]
    simp only [List.append_assoc]
/-- what bits_of gives for a phase -/
theorem rot_bits {row : List Nat} {k n : Nat} (hk : k < row.length) : repL (n / row.length) (row.drop k ++ row.take k) ++ (row.drop k ++ row.take k).take (n % row.length) = ((repL (n / row.length + 2) row).drop k).take n := by
  have hm := Nat.div_add_mod n row.length
  have hr := Nat.mod_lt n (show 0 < row.length by omega)
  have hlr : (row.drop k ++ row.take k).length = row.length := by simp; omega
  have e1 : (repL (n / row.length + 2) row).drop k = repL (n / row.length + 1) (row.drop k ++ row.take k) ++ row.drop k := by
    have q := congrArg (List.drop k) (rep_rot (row := row) (k := k) (n / row.length + 1))
    rw [List.append_assoc] at q
    exact q.trans (List.drop_left' (by rw [List.length_take]; omega))
  rw [e1]
  have e2 : repL (n / row.length + 1) (row.drop k ++ row.take k) = repL (n / row.length) (row.drop k ++ row.take k) ++ (row.drop k ++ row.take k) := by
    unfold repL
    rw [List.replicate_succ', List.flatten_append]
    simp
  rw [e2, List.append_assoc]
  have hR : (row.drop k ++ row.take k ++ row.drop k).take (n % row.length) = (row.drop k ++ row.take k).take (n % row.length) := List.take_append_of_le_length (by rw [hlr]; omega)
  rw [← hR]
  have hn : n = (repL (n / row.length) (row.drop k ++ row.take k)).length + n % row.length := by
    rw [rep_len, hlr, Nat.mul_comm]
    omega
  generalize row.drop k ++ row.take k ++ row.drop k = R
  generalize repL (n / row.length) (row.drop k ++ row.take k) = P at hn
  generalize n % row.length = r at hn
  subst hn
  rw [List.take_append, List.take_of_length_le (Nat.le_add_right _ _), Nat.add_sub_cancel_left]

theorem spl_first (c : Nat) : ∀ (y acc : List Nat), ∃ p ∈ spl1 c acc y, acc.length ≤ p.length
  | [], acc => ⟨acc, by simp [spl1], Nat.le_refl _⟩
  | x :: r, acc => by
    unfold spl1
    by_cases h : x = c
    · rw [if_pos h]
      exact ⟨acc, List.mem_cons_self, Nat.le_refl _⟩
    · rw [if_neg h]
      obtain ⟨p, m, l⟩ := spl_first c r (acc ++ [x])
      exact ⟨p, m, by rw [List.length_append] at l; omega⟩
theorem spl_zeros : ∀ (n : Nat) (y acc : List Nat), ∃ p ∈ spl1 49 acc (List.replicate n 48 ++ y), acc.length + n ≤ p.length
  | 0, y, acc => by simpa using spl_first 49 y acc
  | n + 1, y, acc => by
    rw [List.replicate_succ, List.cons_append]
    unfold spl1
    rw [if_neg (by decide)]
    obtain ⟨p, m, l⟩ := spl_zeros n y (acc ++ [48])
    exact ⟨p, m, by rw [List.length_append, List.length_singleton] at l; omega⟩
theorem spl_run (n : Nat) (y : List Nat) : ∀ (x acc : List Nat), ∃ p ∈ spl1 49 acc (x ++ (List.replicate n 48 ++ y)), n ≤ p.length
  | [], acc => by
    obtain ⟨p, m, l⟩ := spl_zeros n y acc
    exact ⟨p, m, by omega⟩
  | c :: x, acc => by
    rw [List.cons_append]
    unfold spl1
    by_cases h : c = 49
    · rw [if_pos h]
      obtain ⟨p, m, l⟩ := spl_run n y x []
      exact ⟨p, List.mem_cons_of_mem _ m, l⟩
    · rw [if_neg h]
      exact spl_run n y x (acc ++ [c])
theorem spl_len (c : Nat) : ∀ (s acc : List Nat), (∀ p ∈ spl1 c acc s, p.length ≤ acc.length + s.length) ∧ spl1 c acc s ≠ [] ∧ (spl1 c acc s).length ≤ s.length + 1
  | [], acc => ⟨fun p hp => by simp [spl1] at hp; rw [hp]; simp, by simp [spl1], by simp [spl1]⟩
  | x :: r, acc => by
    unfold spl1
    by_cases h : x = c
    · rw [if_pos h]
      obtain ⟨a, b, d⟩ := spl_len c r []
      refine ⟨fun p hp => ?_, by simp, by rw [List.length_cons, List.length_cons]; omega⟩
      rcases List.mem_cons.mp hp with e | e
      · rw [e]; omega
      · have := a p e
        rw [List.length_cons]
        simp at this
        omega
    · rw [if_neg h]
      obtain ⟨a, b, d⟩ := spl_len c r (acc ++ [x])
      refine ⟨fun p hp => ?_, b, by rw [List.length_cons]; omega⟩
      have := a p hp
      rw [List.length_append, List.length_singleton] at this
      rw [List.length_cons]
      omega
/-- no window of zeros is longer than the longest run -/
theorem zeros_win {row : List Nat} {m : Nat} (h49 : 49 ∈ row) (hm : ∀ p ∈ spl1 49 [] (row ++ row), p.length ≤ m) : (List.range row.length).any (winAt row (List.replicate (m + 1) 48)) = false := by
  rw [List.any_eq_false]
  intro k hk
  have hk' : k < row.length := by simpa using hk
  rw [Bool.not_eq_true]
  unfold winAt
  refine decide_eq_false fun e => ?_
  rw [List.length_replicate] at e
  have e0 : repL ((m + 1) / row.length + 2) row = (row ++ row) ++ repL ((m + 1) / row.length) row := by
    unfold repL
    rw [List.replicate_succ, List.flatten_cons, List.replicate_succ, List.flatten_cons, List.append_assoc]
  rw [e0, List.drop_append_of_le_length (by simp; omega)] at e
  have hz : ∀ n, n ≤ m + 1 → n ≤ (row ++ row).length - k → ((row ++ row).drop k).take n = List.replicate n 48 := by
    intro n h1 h2
    have := congrArg (List.take n) e
    rw [List.take_take, Nat.min_eq_left h1, List.take_replicate, Nat.min_eq_left h1, List.take_append_of_le_length (by rw [List.length_drop]; omega)] at this
    exact this
  by_cases hc : row.length ≤ m + 1
  · have := hz row.length hc (by rw [List.length_append]; omega)
    rw [List.drop_append_of_le_length (by omega), List.take_append, List.take_of_length_le (by rw [List.length_drop]; omega)] at this
    have q : 49 ∈ row.drop k ++ row.take (row.length - (row.drop k).length) := by
      rw [List.length_drop, show row.length - (row.length - k) = k by omega]
      rw [← List.take_append_drop k row] at h49
      rcases List.mem_append.mp h49 with z | z
      · exact List.mem_append.mpr (.inr z)
      · exact List.mem_append.mpr (.inl z)
    rw [this] at q
    exact absurd (List.eq_of_mem_replicate q) (by decide)
  · have := hz (m + 1) (Nat.le_refl _) (by rw [List.length_append]; omega)
    have e4 : row ++ row = (row ++ row).take k ++ (List.replicate (m + 1) 48 ++ ((row ++ row).drop k).drop (m + 1)) := by
      rw [← this, List.take_append_drop, List.take_append_drop]
    obtain ⟨p, hp, hl⟩ := spl_run (m + 1) (((row ++ row).drop k).drop (m + 1)) ((row ++ row).take k) []
    rw [← e4] at hp
    have := hm p hp
    omega
end M
namespace M
open PySem L2 F
/-! stretches: parts of them, ones in them -/
def Cut (size gap f : Nat) (b : List Nat) : Prop := (b.take f).count 48 ≤ gap ∧ ∀ k, ((b.drop (f + k * size)).take size).count 48 ≤ gap
theorem partOk_iff {low size : Nat} {p : List Nat} (hb : Bits p) (hl : low ≤ size) : partOk low size p = true ↔ p.count 48 ≤ size - low := by
  refine ⟨fun h => ?_, partOk_of hb hl⟩
  rcases Nat.lt_or_ge (size - low) (p.count 48) with q | q
  · rw [partOk_no hb hl q] at h
    cases h
  · exact q
theorem cut_iff {low size f : Nat} {b : List Nat} (hb : Bits b) (hl : low ≤ size) (hs : 1 ≤ size) : cutLet low size b f = true ↔ Cut size (size - low) f b := by
  refine ⟨fun h => ?_, fun h => cut_of hb hl h.1 h.2⟩
  unfold cutLet partsOf at h
  rw [List.all_cons, Bool.and_eq_true, List.all_eq_true] at h
  refine ⟨(partOk_iff (hb.take _) hl).mp h.1, fun k => ?_⟩
  by_cases hk : k < pcs size b.length f
  · exact (partOk_iff ((hb.drop _).take _) hl).mp (h.2 _ (List.mem_map.mpr ⟨k, by simpa using hk, rfl⟩))
  · have : b.length ≤ f + k * size := by
      unfold pcs at hk
      split at hk
      · have h1 : (b.length - f - 1) / size < k := by omega
        have := (Nat.div_lt_iff_lt_mul (by omega)).mp h1
        omega
      · omega
    rw [List.drop_of_length_le this]
    simp
theorem Cut.part {size gap f a n : Nat} {b : List Nat} (h : Cut size gap f b) (hf : f < size) : ∃ f', f' < size ∧ Cut size gap f' ((b.drop a).take n) := by
  by_cases ha : a ≤ f
  · refine ⟨f - a, by omega, ?_, fun k => ?_⟩
    · rw [List.take_take]
      refine Nat.le_trans (cnt_take (Nat.min_le_left _ _)) ?_
      rw [← List.drop_take]
      exact Nat.le_trans ((List.drop_sublist _ _).count_le _) h.1
    · refine Nat.le_trans cnt_part ?_
      rw [List.drop_drop, show a + (f - a + k * size) = f + k * size by omega]
      exact h.2 k
  · have hd := Nat.div_add_mod (a - f) size
    have hr := Nat.mod_lt (a - f) (show 0 < size by omega)
    rw [Nat.mul_comm] at hd
    by_cases h0 : (a - f) % size = 0
    · refine ⟨0, by omega, by simp, fun k => ?_⟩
      refine Nat.le_trans cnt_part ?_
      rw [List.drop_drop, show a + (0 + k * size) = f + ((a - f) / size + k) * size by rw [Nat.add_mul]; omega]
      exact h.2 _
    · refine ⟨size - (a - f) % size, by omega, ?_, fun k => ?_⟩
      · rw [List.take_take]
        refine Nat.le_trans (cnt_take (Nat.min_le_left _ _)) ?_
        have e : (b.drop a).take (size - (a - f) % size) = ((b.drop (f + (a - f) / size * size)).take size).drop ((a - f) % size) := by
          rw [List.drop_take, List.drop_drop]
          congr 2
          omega
        rw [e]
        exact Nat.le_trans ((List.drop_sublist _ _).count_le _) (h.2 _)
      · refine Nat.le_trans cnt_part ?_
        rw [List.drop_drop, show a + (size - (a - f) % size + k * size) = f + ((a - f) / size + 1 + k) * size by rw [Nat.add_mul, Nat.add_mul]; omega]
        exact h.2 _

/-! zeros of the row that begins each period with them -/
def Yz (size gap : Nat) : Nat → Nat
  | 0 => 0
  | n + 1 => Yz size gap n + (if n % size < gap then 1 else 0)
section
variable {size gap : Nat}
theorem Yz_le : ∀ n, Yz size gap n ≤ n
  | 0 => Nat.le_refl _
  | n + 1 => by
    have := Yz_le n
    unfold Yz
    split <;> omega
theorem Yz_mono (n : Nat) : ∀ d, Yz size gap n ≤ Yz size gap (n + d)
  | 0 => Nat.le_refl _
  | d + 1 => by
    have := Yz_mono n d
    show _ ≤ Yz size gap (n + d) + _
    omega
theorem Yz_lip (n : Nat) : ∀ d, Yz size gap (n + d) ≤ Yz size gap n + d
  | 0 => Nat.le_refl _
  | d + 1 => by
    have := Yz_lip n d
    show Yz size gap (n + d) + _ ≤ _
    split <;> omega
theorem Yz_small (hg : gap ≤ size) : ∀ n, n ≤ size → Yz size gap n = min n gap
  | 0, _ => by simp [Yz]
  | n + 1, h => by
    have := Yz_small hg n (by omega)
    unfold Yz
    rw [this, Nat.mod_eq_of_lt (by omega)]
    split <;> omega
theorem Yz_add (hg : gap ≤ size) : ∀ n, Yz size gap (size + n) = gap + Yz size gap n
  | 0 => by
    show Yz size gap size = gap + 0
    rw [Yz_small hg size (Nat.le_refl _)]
    omega
  | n + 1 => by
    show Yz size gap (size + n) + (if (size + n) % size < gap then 1 else 0) = gap + (Yz size gap n + (if n % size < gap then 1 else 0))
    rw [Yz_add hg n, Nat.add_mod_left]
    omega
theorem zeros_al (hs : 1 ≤ size) (hg : gap ≤ size) : ∀ (m : Nat) (b : List Nat), b.length ≤ m → (∀ k, ((b.drop (k * size)).take size).count 48 ≤ gap) → b.count 48 ≤ Yz size gap b.length
  | 0, b, hm, _ => by
    have : b = [] := List.length_eq_zero_iff.mp (by omega)
    subst this
    simp [Yz]
  | m + 1, b, hm, h => by
    have h0 := h 0
    rw [Nat.zero_mul, List.drop_zero] at h0
    by_cases hl : b.length ≤ size
    · rw [List.take_of_length_le hl] at h0
      rw [Yz_small hg _ hl]
      have := List.count_le_length (a := 48) (l := b)
      omega
    · have e : b.count 48 = (b.take size).count 48 + (b.drop size).count 48 := by
        rw [← List.count_append, List.take_append_drop]
      have ih := zeros_al hs hg m (b.drop size) (by rw [List.length_drop]; omega) fun k => by
        rw [List.drop_drop, show size + k * size = (k + 1) * size by rw [Nat.add_mul]; omega]
        exact h (k + 1)
      rw [List.length_drop] at ih
      have := Yz_add hg (b.length - size)
      rw [show size + (b.length - size) = b.length by omega] at this
      omega
theorem zeros_most (hs : 1 ≤ size) (hg : gap ≤ size) {f : Nat} {b : List Nat} (h : Cut size gap f b) : b.count 48 ≤ min b.length gap + Yz size gap (b.length - gap) := by
  have e : b.count 48 = (b.take f).count 48 + (b.drop f).count 48 := by
    rw [← List.count_append, List.take_append_drop]
  have h1 := h.1
  have h2 : (b.take f).count 48 ≤ min f b.length := by
    have := List.count_le_length (a := 48) (l := b.take f)
    rwa [List.length_take] at this
  have h3 := zeros_al hs hg (b.drop f).length (b.drop f) (Nat.le_refl _) fun k => by
    rw [List.drop_drop]
    exact h.2 k
  rw [List.length_drop] at h3
  have h4 := Yz_le (size := size) (gap := gap) (b.length - f)
  by_cases hn : b.length ≤ gap
  · omega
  · by_cases hf : f ≤ gap
    · have := Yz_lip (size := size) (gap := gap) (b.length - gap) (gap - f)
      rw [show b.length - gap + (gap - f) = b.length - f by omega] at this
      omega
    · have := Yz_mono (size := size) (gap := gap) (b.length - f) (min (f - gap) (b.length - gap))
      rw [show b.length - f + min (f - gap) (b.length - gap) = b.length - gap by omega] at this
      omega
theorem zeros_rep (hg : gap ≤ size) : ∀ (q m : Nat), m ≤ q * size → ((repL q (List.replicate gap 48 ++ List.replicate (size - gap) 49)).take m).count 48 = Yz size gap m
  | 0, m, h => by
    rw [show m = 0 by omega]
    simp [Yz]
  | q + 1, m, h => by
    have e : repL (q + 1) (List.replicate gap 48 ++ List.replicate (size - gap) 49) = (List.replicate gap 48 ++ List.replicate (size - gap) 49) ++ repL q (List.replicate gap 48 ++ List.replicate (size - gap) 49) := by
      unfold repL
      rw [List.replicate_succ, List.flatten_cons]
    have hl : (List.replicate gap 48 ++ List.replicate (size - gap) 49).length = size := by simp; omega
    rw [e, List.take_append, hl]
    by_cases hm : m ≤ size
    · rw [show m - size = 0 by omega, List.take_zero, List.append_nil, Yz_small hg m hm, List.take_append, List.count_append, List.take_replicate, List.take_replicate]
      simp [List.count_replicate]
    · rw [List.take_of_length_le (by rw [hl]; omega), List.count_append, zeros_rep hg q (m - size) (by rw [Nat.add_mul] at h; omega)]
      have := Yz_add hg (m - size)
      rw [show size + (m - size) = m by omega] at this
      rw [this]
      simp [List.count_replicate]
end
/-- the worst stretch of a server, as the law lays it -/
def worstS (low gap len : Nat) : List Nat := (((List.replicate low 49 ++ List.replicate gap 48) ++ repL (len / (low + gap) + 2) (List.replicate gap 48 ++ List.replicate low 49)).drop low).take len
theorem worstS_eq (low gap len : Nat) : worstS low gap len = (List.replicate gap 48 ++ repL (len / (low + gap) + 2) (List.replicate gap 48 ++ List.replicate low 49)).take len := by
  unfold worstS
  rw [List.append_assoc, List.drop_append_of_le_length (by simp)]
  simp
theorem worstS_len {low gap len : Nat} (h : 1 ≤ low) : (worstS low gap len).length = len := by
  have hm := Nat.div_add_mod len (low + gap)
  have hr := Nat.mod_lt len (show 0 < low + gap by omega)
  rw [worstS_eq, List.length_take, List.length_append, rep_len]
  simp
  rw [Nat.add_comm gap low, Nat.add_mul, Nat.mul_comm (len / (low + gap))]
  omega
theorem worstS_zeros {low gap len n : Nat} (h : 1 ≤ low) (hn : n ≤ len) : ((worstS low gap len).take n).count 48 = min n gap + Yz (low + gap) gap (n - gap) := by
  have hm := Nat.div_add_mod len (low + gap)
  have hr := Nat.mod_lt len (show 0 < low + gap by omega)
  rw [worstS_eq, List.take_take, Nat.min_eq_left hn, List.take_append, List.count_append, List.take_replicate, List.length_replicate]
  have := zeros_rep (size := low + gap) (gap := gap) (by omega) (len / (low + gap) + 2) (n - gap) (by rw [Nat.add_mul, Nat.mul_comm (len / (low + gap))]; omega)
  rw [show low + gap - gap = low by omega] at this
  rw [this]
  simp
theorem worstS_bits (low gap len : Nat) : Bits (worstS low gap len) := by
  rw [worstS_eq]
  intro c hc
  have := List.mem_of_mem_take hc
  rcases List.mem_append.mp this with z | z
  · exact Bits.zeros _ c z
  · obtain ⟨l, h1, h2⟩ := List.mem_flatten.mp z
    rw [List.eq_of_mem_replicate h1] at h2
    rcases List.mem_append.mp h2 with z | z
    · exact Bits.zeros _ c z
    · exact Bits.ones _ c z
theorem worst_rot (low gap q : Nat) : List.replicate gap 48 ++ repL q (List.replicate gap 48 ++ List.replicate low 49) ++ List.replicate gap 48 = List.replicate (2 * gap) 48 ++ repL q (List.replicate low 49 ++ List.replicate gap 48) := by
  rw [Nat.two_mul, ← List.replicate_append_replicate, List.append_assoc, List.append_assoc]
  congr 1
  induction q with
  | zero => simp [repL]
  | succ q ih =>
    have e1 : ∀ B : List Nat, repL (q + 1) B = B ++ repL q B := fun B => by
      unfold repL
      rw [List.replicate_succ, List.flatten_cons]
    rw [e1, e1, List.append_assoc, ih]
    simp only [List.append_assoc]
theorem worstS_eq2 {low gap len : Nat} (h1 : 1 ≤ low) (n : Nat) : (worstS low gap len).take n = (List.replicate (2 * gap) 48 ++ repL (len / (low + gap) + 2) (List.replicate low 49 ++ List.replicate gap 48)).take (min n len) := by
  rw [worstS_eq, List.take_take, ← worst_rot]
  refine (List.take_append_of_le_length ?_).symm
  have := worstS_len (gap := gap) (len := len) h1
  rw [worstS_eq, List.length_take] at this
  omega
theorem worstS_let {low gap len n : Nat} (h1 : 1 ≤ low) : (List.range (low + gap)).any (cutLet low (low + gap) ((worstS low gap len).take n)) = true := by
  have hb : Bits (List.replicate (2 * gap) 48 ++ repL (len / (low + gap) + 2) (List.replicate low 49 ++ List.replicate gap 48)) := by
    intro c hc
    rcases List.mem_append.mp hc with z | z
    · exact Bits.zeros _ c z
    · obtain ⟨l, h1, h2⟩ := List.mem_flatten.mp z
      rw [List.eq_of_mem_replicate h1] at h2
      rcases List.mem_append.mp h2 with z | z
      · exact Bits.ones _ c z
      · exact Bits.zeros _ c z
  rw [worstS_eq2 h1]
  exact worst_let h1 rfl hb
/-- the first bits of a lead with a cycle behind it -/
def curveBits (lead cyc : List Nat) (n : Nat) : List Nat := if n ≤ lead.length then lead.take n else lead ++ repL ((n - lead.length) / cyc.length) cyc ++ cyc.take ((n - lead.length) % cyc.length)
theorem rep_take {cyc : List Nat} (hc : 1 ≤ cyc.length) {q m : Nat} (h : m ≤ q * cyc.length) : (repL q cyc).take m = repL (m / cyc.length) cyc ++ cyc.take (m % cyc.length) := by
  have hd := Nat.div_add_mod m cyc.length
  have hr := Nat.mod_lt m (show 0 < cyc.length by omega)
  rw [Nat.mul_comm] at hd
  have hq : m / cyc.length ≤ q := by
    have := Nat.div_le_div_right (c := cyc.length) h
    rwa [Nat.mul_div_cancel _ (by omega)] at this
  have e : repL q cyc = repL (m / cyc.length) cyc ++ repL (q - m / cyc.length) cyc := by
    unfold repL
    rw [← List.flatten_append, List.replicate_append_replicate]
    congr 2
    omega
  have hl : (repL (m / cyc.length) cyc).length = m / cyc.length * cyc.length := rep_len _ _
  rw [e, List.take_append, List.take_of_length_le (by omega), hl, show m - m / cyc.length * cyc.length = m % cyc.length by omega]
  congr 1
  by_cases hz : q - m / cyc.length = 0
  · have : q = m / cyc.length := by omega
    subst this
    rw [show m % cyc.length = 0 by omega]
    simp
  · obtain ⟨p, hp⟩ : ∃ p, q - m / cyc.length = p + 1 := ⟨q - m / cyc.length - 1, by omega⟩
    have e1 : repL (p + 1) cyc = cyc ++ repL p cyc := by
      unfold repL
      rw [List.replicate_succ, List.flatten_cons]
    rw [hp, e1, List.take_append_of_le_length (by omega)]
theorem curve_take {lead cyc : List Nat} (hc : 1 ≤ cyc.length) {q n : Nat} (h : n ≤ lead.length + q * cyc.length) : curveBits lead cyc n = (lead ++ repL q cyc).take n := by
  unfold curveBits
  by_cases hn : n ≤ lead.length
  · rw [if_pos hn, List.take_append_of_le_length hn]
  · have h2 : lead.take n = lead := List.take_of_length_le (by omega)
    rw [if_neg hn, List.take_append, h2, rep_take hc (by omega), List.append_assoc]
theorem worstS_curve {low gap len n : Nat} (h1 : 1 ≤ low) (hn : n ≤ len) : curveBits (List.replicate (2 * gap) 48) (List.replicate low 49 ++ List.replicate gap 48) n = (worstS low gap len).take n := by
  have hl : (List.replicate low 49 ++ List.replicate gap 48).length = low + gap := by simp
  have hm := Nat.div_add_mod len (low + gap)
  have hr := Nat.mod_lt len (show 0 < low + gap by omega)
  rw [worstS_eq2 h1, Nat.min_eq_left hn]
  refine curve_take (by omega) ?_
  rw [hl, Nat.add_mul, Nat.mul_comm (len / (low + gap))]
  omega

/-! windows -/
theorem rep_get {row : List Nat} : ∀ (q i : Nat), i < q * row.length → (repL q row)[i]? = row[i % row.length]?
  | 0, i, h => by omega
  | q + 1, i, h => by
    have e : repL (q + 1) row = row ++ repL q row := by
      unfold repL
      rw [List.replicate_succ, List.flatten_cons]
    rw [e]
    by_cases hi : i < row.length
    · rw [List.getElem?_append_left hi, Nat.mod_eq_of_lt hi]
    · rw [List.getElem?_append_right (by omega), rep_get q (i - row.length) (by rw [Nat.add_mul] at h; omega)]
      congr 1
      have := Nat.add_mod_right (i - row.length) row.length
      rw [show i - row.length + row.length = i by omega] at this
      exact this.symm
theorem win_iff {row b : List Nat} {k : Nat} (hk : k < row.length) : winAt row b k = true ↔ ∀ i, i < b.length → b[i]? = row[(k + i) % row.length]? := by
  unfold winAt
  rw [decide_eq_true_iff]
  have hm := Nat.div_add_mod b.length row.length
  have hr := Nat.mod_lt b.length (show 0 < row.length by omega)
  have hg : ∀ i, i < b.length → (((repL (b.length / row.length + 2) row).drop k).take b.length)[i]? = row[(k + i) % row.length]? := fun i hi => by
    rw [List.getElem?_take_of_lt hi, List.getElem?_drop, rep_get _ _ (by rw [Nat.add_mul, Nat.mul_comm (b.length / row.length)]; omega)]
  constructor
  · intro h i hi
    rw [← hg i hi, h]
  · intro h
    refine List.ext_getElem? fun i => ?_
    by_cases hi : i < b.length
    · rw [hg i hi, h i hi]
    · rw [List.getElem?_eq_none (by rw [List.length_take]; omega), List.getElem?_eq_none (by omega)]
theorem win_part {row b : List Nat} {k a n : Nat} (hk : k < row.length) (h : winAt row b k = true) : winAt row ((b.drop a).take n) ((k + a) % row.length) = true := by
  rw [win_iff (Nat.mod_lt _ (by omega))]
  intro i hi
  rw [List.length_take, List.length_drop] at hi
  rw [List.getElem?_take_of_lt (by omega), List.getElem?_drop, (win_iff hk).mp h _ (by omega), Nat.mod_add_mod, Nat.add_assoc]
/-- the beginning of the window row k is the stretch that begins there -/
theorem win_eq {row b : List Nat} {k len : Nat} (hk : k < row.length) (hl : b.length ≤ len) (h : winAt row b k = true) : b = (((repL (len / row.length + 2) row).drop k).take len).take b.length := by
  have hm := Nat.div_add_mod len row.length
  have hr := Nat.mod_lt len (show 0 < row.length by omega)
  refine List.ext_getElem? fun i => ?_
  by_cases hi : i < b.length
  · rw [(win_iff hk).mp h i hi, List.getElem?_take_of_lt hi, List.getElem?_take_of_lt (by omega), List.getElem?_drop, rep_get _ _ (by rw [Nat.add_mul, Nat.mul_comm (len / row.length)]; omega)]
  · rw [List.getElem?_eq_none (by omega), List.getElem?_eq_none (by rw [List.length_take]; omega)]
end M
/-! The program of this law as functions: printed. -/
namespace M
open PySem L2 F

def ix_budget : Nat → Option Nat := fun c => if c = 4 then some 0 else none
def ix_cells : Nat → Option Nat := fun c => if c = 5 then some 0 else none
def ix_period : Nat → Option Nat := fun c => if c = 4 then some 1 else none
def isiTb : List ((Ty × Ty) × Bool) := [(((.b "int"), (.b "int")), true), (((.b "int"), (.b "bool")), false)]
/-- Full.lets(self, bits); 0: self, 1: bits -/
noncomputable def b_f_Full_lets : Sv := (sRet (eBin fEq (eBM isStr fCountS (eVar 1) (aCons (eC (.str [49])) aNil)) (eCall fLen (aCons (eVar 1) aNil))))
noncomputable def f_Full_lets : Fn := bodyF 2 2 b_f_Full_lets
/-- Server._lets_cut(self, bits, head); 0: self, 1: bits, 2: head, 3: starts, 4: parts, 5: at, 6: part -/
noncomputable def b_f_Server__lets_cut : Sv := (sSeq (sSet 3 (eCall fRange (aCons (eVar 2) (aCons (eCall fLen (aCons (eVar 1) aNil)) (aCons (eFld ix_period (eVar 0)) aNil))))) (sSeq (sSet 4 (eBin (fAdd false) (eLst false (aCons (eSl false (eVar 1) oNone (oSome (eVar 2))) aNil)) (eLc false (wRngV (eVar 3)) (gN 5) tYesF (eSl false (eVar 1) (oSome (eVar 5)) (oSome (eBin (fAdd false) (eVar 5) (eFld ix_period (eVar 0))))) [5]))) (sRet (eCall fAll (aCons (eLcA false (vAny (eVar 4)) (gN 6) tYesF (eBin fGe (eBin fSub (eBin (fAdd false) (eBM isStr fCountS (eVar 6) (aCons (eC (.str [49])) aNil)) (eFld ix_period (eVar 0))) (eCall fLen (aCons (eVar 6) aNil))) (eFld ix_budget (eVar 0))) [6]) aNil)))))
noncomputable def f_Server__lets_cut : Fn := bodyF 7 3 b_f_Server__lets_cut
/-- _are_bits(text); 0: text -/
noncomputable def b_f__are_bits : Sv := (sRet (eBin fEq (eBin (fAdd false) (eBM isStr fCountS (eVar 0) (aCons (eC (.str [48])) aNil)) (eBM isStr fCountS (eVar 0) (aCons (eC (.str [49])) aNil))) (eCall fLen (aCons (eVar 0) aNil))))
noncomputable def f__are_bits : Fn := bodyF 1 1 b_f__are_bits
noncomputable def tb__lets_cut : Nat → Option Fn := fun c => if c = 4 then some f_Server__lets_cut else none
/-- Server.lets(self, bits); 0: self, 1: bits, 2: head -/
noncomputable def b_f_Server_lets : Sv := (sSeq (sIf (tNotF (tTru (eFn f__are_bits [] (aCons (eVar 1) aNil))))
    (sRet (eC (.bl false)))
    sNx) (sSeq (sFor (wRange1 (aCons (eFld ix_period (eVar 0)) aNil)) (gN 2)
    (sIf (tTru (eMeth tb__lets_cut [] (eVar 0) (aCons (eVar 1) (aCons (eVar 2) aNil))))
    (sRet (eC (.bl true)))
    sNx)) (sRet (eC (.bl false)))))
noncomputable def f_Server_lets : Fn := bodyF 3 2 b_f_Server_lets
/-- Full.curves(self); 0: self -/
noncomputable def b_f_Full_curves : Sv := (sRet (eLst false (aCons (eTup (aCons (eC (.str [])) (aCons (eC (.str [49])) aNil))) aNil)))
noncomputable def f_Full_curves : Fn := bodyF 1 1 b_f_Full_curves
/-- Server.curves(self); 0: self, 1: gap -/
noncomputable def b_f_Server_curves : Sv := (sSeq (sSet 1 (eBin fSub (eFld ix_period (eVar 0)) (eFld ix_budget (eVar 0)))) (sRet (eLst false (aCons (eTup (aCons (eBin (fMul false) (eC (.str [48])) (eBin (fMul false) (eC (.int 2)) (eVar 1))) (aCons (eBin (fAdd false) (eBin (fMul false) (eC (.str [49])) (eFld ix_budget (eVar 0))) (eBin (fMul false) (eC (.str [48])) (eVar 1))) aNil))) aNil))))
noncomputable def f_Server_curves : Fn := bodyF 2 1 b_f_Server_curves
/-- Windows.curves(self); 0: self, 1: phase -/
noncomputable def b_f_Windows_curves : Sv := (sRet (eLc false (wRange1 (aCons (eCall fLen (aCons (eFld ix_cells (eVar 0)) aNil)) aNil)) (gN 1) tYesF (eTup (aCons (eC (.str [])) (aCons (eBin (fAdd false) (eSl false (eFld ix_cells (eVar 0)) (oSome (eVar 1)) oNone) (eSl false (eFld ix_cells (eVar 0)) oNone (oSome (eVar 1)))) aNil))) [1]))
noncomputable def f_Windows_curves : Fn := bodyF 2 1 b_f_Windows_curves
/-- bits_of(curve, ticks); 0: curve, 1: ticks, 2: lead, 3: cycle, 4: rounds, 5: rest -/
noncomputable def b_f_bits_of : Sv := (sSeq (sAsg (gT 2 (gCons (gN 2) (gCons (gN 3) gNil))) (eVar 0)) (sSeq (sIf (tOf (eBin fLe (eVar 1) (eCall fLen (aCons (eVar 2) aNil))))
    (sRet (eSl false (eVar 2) oNone (oSome (eCall fMax (aCons (eVar 1) (aCons (eC (.int 0)) aNil))))))
    sNx) (sSeq (sAsg (gT 2 (gCons (gN 4) (gCons (gN 5) gNil))) (eCall fDivmod (aCons (eBin fSub (eVar 1) (eCall fLen (aCons (eVar 2) aNil))) (aCons (eCall fLen (aCons (eVar 3) aNil)) aNil)))) (sRet (eBin (fAdd false) (eBin (fAdd false) (eVar 2) (eBin (fMul false) (eVar 3) (eVar 4))) (eSl false (eVar 3) oNone (oSome (eVar 5))))))))
noncomputable def f_bits_of : Fn := bodyF 6 2 b_f_bits_of
noncomputable def tb_curves : Nat → Option Fn := fun c => if c = 3 then some f_Full_curves else if c = 4 then some f_Server_curves else if c = 5 then some f_Windows_curves else none
/-- Windows.lets(self, bits); 0: self, 1: bits, 2: curve -/
noncomputable def b_f_Windows_lets : Sv := (sRet (eCall fAny (aCons (eLcA false (vAny (eMeth tb_curves [] (eVar 0) aNil)) (gN 2) tYesF (eBin fEq (eFn f_bits_of [] (aCons (eVar 2) (aCons (eCall fLen (aCons (eVar 1) aNil)) aNil))) (eVar 1)) [2]) aNil)))
noncomputable def f_Windows_lets : Fn := bodyF 3 2 b_f_Windows_lets
/-- _law_box(script); 0: script, 1: seed, 2: great, 3: cell -/
noncomputable def b_f__law_box : Sv := (sSeq (sSet 1 (eC (.int 29))) (sSeq (sSet 2 (eLst true aNil)) (sSeq (sForA (vAny (eSl false (eVar 0) oNone (oSome (eC (.int 63))))) (gN 3)
    (sSeq (sSet 1 (eBin fMod (eCall fInt (aCons (eBin (fAdd false) (eBin (fAdd false) (eBin fMod (eCall fInt (aCons (eVar 3) aNil)) (eC (.int 2147483629))) (eBin (fMul false) (eVar 1) (eC (.int 48271)))) (eC (.int 17))) aNil)) (eC (.int 2147483647)))) (sIf (tOf (eBin fGe (eVar 3) (eBin fPow (eC (.int 10)) (eC (.int 18)))))
    (sDrop (eBM isLst fAppend (eVar 2) (aCons (eTup (aCons (eCall fMin (aCons (eVar 3) (aCons (eBin fPow (eC (.int 10)) (eC (.int 60))) aNil))) (aCons (eBin fMod (eCall fInt (aCons (eVar 3) aNil)) (eBin fPow (eC (.int 10)) (eC (.int 60)))) aNil))) aNil)))
    sNx))) (sRet (eLst true (aCons (eFrz (eVar 2)) (aCons (eC (.int 0)) (aCons (eC (.int 0)) (aCons (eC (.int 0)) (aCons (eVar 1) (aCons (eC (.int 0)) aNil)))))))))))
noncomputable def f__law_box : Fn := bodyF 4 1 b_f__law_box
/-- _law_draw(box, many); 0: box, 1: many, 2: great, 3: digit, 4: mixed -/
noncomputable def b_f__law_draw : Sv := (sSeq (sSet 2 (eBin fIx (eVar 0) (eC (.int 0)))) (sSeq (sWhile 100 (tAndF (tOf (eBin fLt (eBin fIx (eVar 0) (eC (.int 2))) (eVar 1))) (tOf (eBin fLt (eBin fIx (eVar 0) (eC (.int 1))) (eCall fLen (aCons (eVar 2) aNil)))))
    (sSeq (sSetIx (eVar 0) (eC (.int 2)) (eBin fIx (eBin fIx (eVar 2) (eBin fIx (eVar 0) (eC (.int 1)))) (eC (.int 0)))) (sSeq (sSetIx (eVar 0) (eC (.int 3)) (eBin fIx (eBin fIx (eVar 2) (eBin fIx (eVar 0) (eC (.int 1)))) (eC (.int 1)))) (sSetIx (eVar 0) (eC (.int 1)) (eBin (fAdd false) (eBin fIx (eVar 0) (eC (.int 1))) (eC (.int 1))))))) (sSeq (sIf (tOf (eBin fGe (eBin fIx (eVar 0) (eC (.int 2))) (eVar 1)))
    (sSeq (sSet 3 (eBin fMod (eCall fInt (aCons (eBin fIx (eVar 0) (eC (.int 3))) aNil)) (eVar 1))) (sSeq (sSetIx (eVar 0) (eC (.int 2)) (eBin fDiv (eBin fIx (eVar 0) (eC (.int 2))) (eVar 1))) (sSeq (sSetIx (eVar 0) (eC (.int 3)) (eBin fDiv (eBin fIx (eVar 0) (eC (.int 3))) (eVar 1))) (sRet (eVar 3)))))
    sNx) (sSeq (sSetIx (eVar 0) (eC (.int 5)) (eBin (fAdd false) (eBin fIx (eVar 0) (eC (.int 5))) (eC (.int 1)))) (sSeq (sSetIx (eVar 0) (eC (.int 4)) (eBin fMod (eCall fInt (aCons (eBin (fAdd false) (eBin (fAdd false) (eBin (fMul false) (eBin fIx (eVar 0) (eC (.int 4))) (eC (.int 48271))) (eBin (fMul false) (eBin fIx (eVar 0) (eC (.int 5))) (eC (.int 69621)))) (eC (.int 5))) aNil)) (eC (.int 2147483647)))) (sSeq (sSet 4 (eBin fMod (eCall fInt (aCons (eBin (fAdd false) (eBin (fAdd false) (eBin (fMul false) (eBin fDiv (eBin fIx (eVar 0) (eC (.int 4))) (eC (.int 7))) (eC (.int 39373))) (eBin fIx (eVar 0) (eC (.int 4)))) (eBin fIx (eVar 0) (eC (.int 5)))) aNil)) (eC (.int 2147483629)))) (sRet (eBin fMod (eCall fInt (aCons (eBin fDiv (eVar 4) (eC (.int 11))) aNil)) (eVar 1)))))))))
noncomputable def f__law_draw : Fn := bodyF 5 2 b_f__law_draw
/-- _law_fewest(rows, length); 0: rows, 1: length, 2: counts, 3: k, 4: sign, 5: row, 6: n, 7: line -/
noncomputable def b_f__law_fewest : Sv := (sSeq (sSet 2 (eLcA false (vAny (eVar 0)) (gN 5) tYesF (eLst true (aCons (eC (.int 0)) aNil)) [5])) (sSeq (sFor (wRange1 (aCons (eCall fLen (aCons (eVar 0) aNil)) aNil)) (gN 3)
    (sForA (vAny (eBin fIx (eVar 0) (eVar 3))) (gN 4)
    (sDrop (eBM isLst fAppend (eBin fIx (eVar 2) (eVar 3)) (aCons (eBin (fAdd false) (eBin fIx (eBin fIx (eVar 2) (eVar 3)) (eNeg (eC (.int 1)))) (eCall fInt (aCons (eBin fEq (eVar 4) (eC (.str [49]))) aNil))) aNil))))) (sRet (eLc false (wRange1 (aCons (eBin (fAdd false) (eVar 1) (eC (.int 1))) aNil)) (gN 6) tYesF (eCall fMin (aCons (eLcA false (vAny (eVar 2)) (gN 7) tYesF (eBin fIx (eVar 7) (eVar 6)) [7]) aNil)) [6]))))
noncomputable def f__law_fewest : Fn := bodyF 8 2 b_f__law_fewest
/-- ones(curve, ticks); 0: curve, 1: ticks, 2: lead, 3: cycle, 4: rounds, 5: rest -/
noncomputable def b_f_ones : Sv := (sSeq (sAsg (gT 2 (gCons (gN 2) (gCons (gN 3) gNil))) (eVar 0)) (sSeq (sIf (tOf (eBin fLe (eVar 1) (eC (.int 0))))
    (sRet (eC (.int 0)))
    sNx) (sSeq (sIf (tOf (eBin fLe (eVar 1) (eCall fLen (aCons (eVar 2) aNil))))
    (sRet (eBM isStr fCountS (eSl false (eVar 2) oNone (oSome (eVar 1))) (aCons (eC (.str [49])) aNil)))
    sNx) (sSeq (sAsg (gT 2 (gCons (gN 4) (gCons (gN 5) gNil))) (eCall fDivmod (aCons (eBin fSub (eVar 1) (eCall fLen (aCons (eVar 2) aNil))) (aCons (eCall fLen (aCons (eVar 3) aNil)) aNil)))) (sRet (eBin (fAdd false) (eBin (fAdd false) (eBM isStr fCountS (eVar 2) (aCons (eC (.str [49])) aNil)) (eBin (fMul false) (eVar 4) (eBM isStr fCountS (eVar 3) (aCons (eC (.str [49])) aNil)))) (eBM isStr fCountS (eSl false (eVar 3) oNone (oSome (eVar 5))) (aCons (eC (.str [49])) aNil))))))))
noncomputable def f_ones : Fn := bodyF 6 2 b_f_ones
/-- _least_ones(curves, ticks); 0: curves, 1: ticks, 2: curve -/
noncomputable def b_f__least_ones : Sv := (sRet (eCall fMin (aCons (eLcA false (vAny (eVar 0)) (gN 2) tYesF (eFn f_ones [] (aCons (eVar 2) (aCons (eVar 1) aNil))) [2]) aNil)))
noncomputable def f__least_ones : Fn := bodyF 3 2 b_f__least_ones
/-- Full.least(self, ticks); 0: self, 1: ticks -/
noncomputable def b_f_Full_least : Sv := (sRet (eFn f__least_ones [] (aCons (eMeth tb_curves [] (eVar 0) aNil) (aCons (eVar 1) aNil))))
noncomputable def f_Full_least : Fn := bodyF 2 2 b_f_Full_least
/-- Server.least(self, ticks); 0: self, 1: ticks -/
noncomputable def b_f_Server_least : Sv := (sRet (eFn f__least_ones [] (aCons (eMeth tb_curves [] (eVar 0) aNil) (aCons (eVar 1) aNil))))
noncomputable def f_Server_least : Fn := bodyF 2 2 b_f_Server_least
/-- Windows.least(self, ticks); 0: self, 1: ticks -/
noncomputable def b_f_Windows_least : Sv := (sRet (eFn f__least_ones [] (aCons (eMeth tb_curves [] (eVar 0) aNil) (aCons (eVar 1) aNil))))
noncomputable def f_Windows_least : Fn := bodyF 2 2 b_f_Windows_least
/-- _law_is_number(answer, wanted); 0: answer, 1: wanted -/
noncomputable def b_f__law_is_number : Sv := (sRet (eAndF (eCall (fIsi isiTb) (aCons (eVar 0) (aCons (eC (.ty "int")) aNil))) (eAndF (eNotF (eCall (fIsi isiTb) (aCons (eVar 0) (aCons (eC (.ty "bool")) aNil)))) (eBin fEq (eVar 0) (eVar 1)))))
noncomputable def f__law_is_number : Fn := bodyF 2 2 b_f__law_is_number
noncomputable def tb_least : Nat → Option Fn := fun c => if c = 3 then some f_Full_least else if c = 4 then some f_Server_least else if c = 5 then some f_Windows_least else none
noncomputable def tb_lets : Nat → Option Fn := fun c => if c = 3 then some f_Full_lets else if c = 4 then some f_Server_lets else if c = 5 then some f_Windows_lets else none
/-- _law_is_reached(thing, rows, fewest, step); 0: thing, 1: rows, 2: fewest, 3: step, 4: n, 5: tight, 6: row -/
noncomputable def b_f__law_is_reached : Sv := (sSeq (sFor (wRange1 (aCons (eCall fLen (aCons (eVar 2) aNil)) aNil)) (gN 4)
    (sSeq (sIf (tNotF (tTru (eFn f__law_is_number [] (aCons (eMeth tb_least [] (eVar 0) (aCons (eVar 4) aNil)) (aCons (eBin fIx (eVar 2) (eVar 4)) aNil)))))
    (sRet (eC (.bl false)))
    sNx) (sIf (tOrF (tOf (eBin fEq (eBin fMod (eCall fInt (aCons (eVar 4) aNil)) (eVar 3)) (eC (.int 0)))) (tOf (eBin fEq (eBin (fAdd false) (eVar 4) (eC (.int 1))) (eCall fLen (aCons (eVar 2) aNil)))))
    (sSeq (sSet 5 (eLcA false (vAny (eVar 1)) (gN 6) (tOf (eBin fEq (eBM isStr fCountS (eSl false (eVar 6) oNone (oSome (eVar 4))) (aCons (eC (.str [49])) aNil)) (eBin fIx (eVar 2) (eVar 4)))) (eSl false (eVar 6) oNone (oSome (eVar 4))) [6])) (sIf (tOrF (tOf (eBin fIsNot (eMeth tb_lets [] (eVar 0) (aCons (eBin fIx (eVar 5) (eC (.int 0))) aNil)) (eC (.bl true)))) (tOf (eBin fIsNot (eMeth tb_lets [] (eVar 0) (aCons (eBin fIx (eVar 5) (eNeg (eC (.int 1)))) aNil)) (eC (.bl true)))))
    (sRet (eC (.bl false)))
    sNx))
    sNx))) (sRet (eC (.bl true))))
noncomputable def f__law_is_reached : Fn := bodyF 7 4 b_f__law_is_reached
/-- _law_keeps(box, thing, bits, fewest); 0: box, 1: thing, 2: bits, 3: fewest, 4: count, 5: n, 6: turn, 7: start, 8: stop, 9: part -/
noncomputable def b_f__law_keeps : Sv := (sSeq (sIf (tOf (eBin fIsNot (eMeth tb_lets [] (eVar 1) (aCons (eVar 2) aNil)) (eC (.bl true))))
    (sRet (eC (.bl false)))
    sNx) (sSeq (sSet 4 (eC (.int 0))) (sSeq (sFor (wRange1 (aCons (eCall fLen (aCons (eVar 2) aNil)) aNil)) (gN 5)
    (sSeq (sIf (tOf (eBin fLt (eVar 4) (eBin fIx (eVar 3) (eVar 5))))
    (sRet (eC (.bl false)))
    sNx) (sSet 4 (eBin (fAdd false) (eVar 4) (eCall fInt (aCons (eBin fEq (eBin fIx (eVar 2) (eVar 5)) (eC (.str [49]))) aNil)))))) (sSeq (sIf (tOf (eBin fLt (eVar 4) (eBin fIx (eVar 3) (eCall fLen (aCons (eVar 2) aNil)))))
    (sRet (eC (.bl false)))
    sNx) (sSeq (sFor (wRange1 (aCons (eC (.int 4)) aNil)) (gN 6)
    (sSeq (sSet 7 (eFn f__law_draw [] (aCons (eVar 0) (aCons (eBin (fAdd false) (eCall fLen (aCons (eVar 2) aNil)) (eC (.int 1))) aNil)))) (sSeq (sSet 8 (eBin (fAdd false) (eVar 7) (eFn f__law_draw [] (aCons (eVar 0) (aCons (eBin (fAdd false) (eBin fSub (eCall fLen (aCons (eVar 2) aNil)) (eVar 7)) (eC (.int 1))) aNil))))) (sSeq (sSet 9 (eSl false (eVar 2) (oSome (eVar 7)) (oSome (eVar 8)))) (sSeq (sIf (tOrF (tOf (eBin fIsNot (eMeth tb_lets [] (eVar 1) (aCons (eVar 9) aNil)) (eC (.bl true)))) (tOf (eBin fLt (eBM isStr fCountS (eVar 9) (aCons (eC (.str [49])) aNil)) (eBin fIx (eVar 3) (eCall fLen (aCons (eVar 9) aNil))))))
    (sRet (eC (.bl false)))
    sNx) (sIf (tNotF (tTru (eFn f__law_is_number [] (aCons (eMeth tb_least [] (eVar 1) (aCons (eCall fLen (aCons (eVar 9) aNil)) aNil)) (aCons (eBin fIx (eVar 3) (eCall fLen (aCons (eVar 9) aNil))) aNil)))))
    (sRet (eC (.bl false)))
    sNx)))))) (sRet (eC (.bl true))))))))
noncomputable def f__law_keeps : Fn := bodyF 10 4 b_f__law_keeps
/-- Server.__init__(self, budget, period); 0: self, 1: budget, 2: period -/
noncomputable def b_f_Server___init__ : Sv := (sSeq (sIf (tNotF (tOf (eChain3 fLe fLe fLe (eC (.int 1)) (eVar 1) (eVar 2) (eC (.int 48)))))
    sBad
    sNx) (sSeq (sFldF ix_budget (eVar 0) (eVar 1)) (sFldF ix_period (eVar 0) (eVar 2))))
noncomputable def f_Server___init__ : Fn := bodyF 3 3 b_f_Server___init__
/-- Windows.__init__(self, cells); 0: self, 1: cells -/
noncomputable def b_f_Windows___init__ : Sv := (sSeq (sIf (tOrF (tNotF (tOf (eChain fLe fLe (eC (.int 1)) (eCall fLen (aCons (eVar 1) aNil)) (eC (.int 24))))) (tOrF (tNotF (tTru (eFn f__are_bits [] (aCons (eVar 1) aNil)))) (tOf (eBin (fIn true) (eC (.str [49])) (eVar 1)))))
    sBad
    sNx) (sFldF ix_cells (eVar 0) (eVar 1)))
noncomputable def f_Windows___init__ : Fn := bodyF 2 2 b_f_Windows___init__
/-- _law_made(kind); 0: kind -/
noncomputable def b_f__law_made : Sv := (sSeq (sIf (tOf (eBin fEq (eBin fIx (eVar 0) (eC (.int 0))) (eC (.str [115, 101, 114, 118, 101, 114]))))
    (sRet (eNew 4 2 true f_Server___init__ [] (aCons (eBin fIx (eVar 0) (eC (.int 1))) (aCons (eBin fIx (eVar 0) (eC (.int 2))) aNil))))
    sNx) (sSeq (sIf (tOf (eBin fEq (eBin fIx (eVar 0) (eC (.int 0))) (eC (.str [119, 105, 110, 100, 111, 119, 115]))))
    (sRet (eNew 5 1 true f_Windows___init__ [] (aCons (eBin fIx (eVar 0) (eC (.int 1))) aNil)))
    sNx) (sRet (eNew0 3))))
noncomputable def f__law_made : Fn := bodyF 1 1 b_f__law_made
/-- _law_bits(box, size); 0: box, 1: size, 2: row, 3: turn, 4: part, 5: k -/
noncomputable def b_f__law_bits : Sv := (sSeq (sSet 2 (eC (.str []))) (sSeq (sFor (wRange1 (aCons (eBin fDiv (eBin (fAdd false) (eVar 1) (eC (.int 15))) (eC (.int 16))) aNil)) (gN 3)
    (sSeq (sSet 4 (eFn f__law_draw [] (aCons (eVar 0) (aCons (eC (.int 65536)) aNil)))) (sFor (wRange1 (aCons (eC (.int 16)) aNil)) (gN 5)
    (sSeq (sSet 2 (eBin (fAdd false) (eVar 2) (eBin fIx (eC (.str [48, 49])) (eBin fMod (eCall fInt (aCons (eVar 4) aNil)) (eC (.int 2)))))) (sSet 4 (eBin fDiv (eVar 4) (eC (.int 2)))))))) (sRet (eSl false (eVar 2) oNone (oSome (eVar 1))))))
noncomputable def f__law_bits : Fn := bodyF 6 2 b_f__law_bits
/-- _law_period(raw, low, start, exact); 0: raw, 1: low, 2: start, 3: exact, 4: row, 5: count, 6: k, 7: spot -/
noncomputable def b_f__law_period : Sv := (sSeq (sSet 4 (eCall (fListA true) (aCons (eVar 0) aNil))) (sSeq (sSet 5 (eBM isStr fCountS (eVar 0) (aCons (eC (.str [49])) aNil))) (sSeq (sFor (wRange1 (aCons (eCall fLen (aCons (eVar 4) aNil)) aNil)) (gN 6)
    (sSeq (sSet 7 (eBin fMod (eCall fInt (aCons (eBin (fAdd false) (eVar 2) (eVar 6)) aNil)) (eCall fLen (aCons (eVar 4) aNil)))) (sIf (tAndF (tOf (eBin fLt (eVar 5) (eVar 1))) (tOf (eBin fEq (eBin fIx (eVar 4) (eVar 7)) (eC (.str [48])))))
    (sSeq (sSetIx (eVar 4) (eVar 7) (eC (.str [49]))) (sSet 5 (eBin (fAdd false) (eVar 5) (eC (.int 1)))))
    (sIf (tAndF (tTru (eVar 3)) (tAndF (tOf (eBin fGt (eVar 5) (eVar 1))) (tOf (eBin fEq (eBin fIx (eVar 4) (eVar 7)) (eC (.str [49]))))))
    (sSeq (sSetIx (eVar 4) (eVar 7) (eC (.str [48]))) (sSet 5 (eBin fSub (eVar 5) (eC (.int 1)))))
    sNx)))) (sRet (eBM isStr fJoin (eC (.str [])) (aCons (eVar 4) aNil))))))
noncomputable def f__law_period : Fn := bodyF 8 4 b_f__law_period
/-- _law_size(kind); 0: kind -/
noncomputable def b_f__law_size : Sv := (sSeq (sIf (tOf (eBin fEq (eBin fIx (eVar 0) (eC (.int 0))) (eC (.str [115, 101, 114, 118, 101, 114]))))
    (sRet (eBin fIx (eVar 0) (eC (.int 2))))
    sNx) (sSeq (sIf (tOf (eBin fEq (eBin fIx (eVar 0) (eC (.int 0))) (eC (.str [119, 105, 110, 100, 111, 119, 115]))))
    (sRet (eCall fLen (aCons (eBin fIx (eVar 0) (eC (.int 1))) aNil)))
    sNx) (sRet (eC (.int 1)))))
noncomputable def f__law_size : Fn := bodyF 1 1 b_f__law_size
/-- _law_promised(box, kind, length); 0: box, 1: kind, 2: length, 3: size, 4: turns, 5: begin, 6: way, 7: raw, 8: start, 9: row, 10: k -/
noncomputable def b_f__law_promised : Sv := (sSeq (sSet 3 (eFn f__law_size [] (aCons (eVar 1) aNil))) (sSeq (sSet 4 (eBin (fAdd false) (eBin fDiv (eVar 2) (eVar 3)) (eC (.int 2)))) (sSeq (sSet 5 (eFn f__law_draw [] (aCons (eVar 0) (aCons (eVar 3) aNil)))) (sSeq (sIf (tOf (eBin fEq (eBin fIx (eVar 1) (eC (.int 0))) (eC (.str [102, 117, 108, 108]))))
    (sRet (eBin (fMul false) (eC (.str [49])) (eVar 2)))
    sNx) (sSeq (sIf (tOf (eBin fEq (eBin fIx (eVar 1) (eC (.int 0))) (eC (.str [119, 105, 110, 100, 111, 119, 115]))))
    (sRet (eSl false (eBin (fMul false) (eBin fIx (eVar 1) (eC (.int 1))) (eVar 4)) (oSome (eVar 5)) (oSome (eBin (fAdd false) (eVar 5) (eVar 2)))))
    sNx) (sSeq (sSet 6 (eFn f__law_draw [] (aCons (eVar 0) (aCons (eC (.int 6)) aNil)))) (sSeq (sIf (tOf (eBin fEq (eVar 6) (eC (.int 0))))
    (sRet (eSl false (eBin (fMul false) (eBin (fAdd false) (eBin (fMul false) (eC (.str [49])) (eBin fIx (eVar 1) (eC (.int 1)))) (eBin (fMul false) (eC (.str [48])) (eBin fSub (eVar 3) (eBin fIx (eVar 1) (eC (.int 1)))))) (eVar 4)) (oSome (eVar 5)) (oSome (eBin (fAdd false) (eVar 5) (eVar 2)))))
    sNx) (sSeq (sIf (tOf (eBin fEq (eVar 6) (eC (.int 1))))
    (sRet (eSl false (eBin (fMul false) (eBin (fAdd false) (eBin (fMul false) (eC (.str [48])) (eBin fSub (eVar 3) (eBin fIx (eVar 1) (eC (.int 1))))) (eBin (fMul false) (eC (.str [49])) (eBin fIx (eVar 1) (eC (.int 1))))) (eVar 4)) (oSome (eVar 5)) (oSome (eBin (fAdd false) (eVar 5) (eVar 2)))))
    sNx) (sSeq (sSet 7 (eFn f__law_bits [] (aCons (eVar 0) (aCons (eBin (fMul false) (eVar 4) (eVar 3)) aNil)))) (sSeq (sSet 8 (eFn f__law_draw [] (aCons (eVar 0) (aCons (eVar 3) aNil)))) (sSeq (sSet 9 (eC (.str []))) (sSeq (sFor (wRange1 (aCons (eVar 4) aNil)) (gN 10)
    (sSet 9 (eBin (fAdd false) (eVar 9) (eFn f__law_period [] (aCons (eSl false (eVar 7) (oSome (eBin (fMul false) (eVar 10) (eVar 3))) (oSome (eBin (fAdd false) (eBin (fMul false) (eVar 10) (eVar 3)) (eVar 3)))) (aCons (eBin fIx (eVar 1) (eC (.int 1))) (aCons (eBin (fAdd false) (eVar 8) (eBin (fMul false) (eC (.int 5)) (eVar 10))) (aCons (eBin fGt (eVar 6) (eC (.int 2))) aNil)))))))) (sRet (eSl false (eVar 9) (oSome (eVar 5)) (oSome (eBin (fAdd false) (eVar 5) (eVar 2)))))))))))))))))
noncomputable def f__law_promised : Fn := bodyF 11 3 b_f__law_promised
/-- _law_refuses_fewer(box, thing, rows, fewest); 0: box, 1: thing, 2: rows, 3: fewest, 4: length, 5: turn, 6: n, 7: raw, 8: more, 9: ahead, 10: spots, 11: spot, 12: near, 13: bits, 14: k, 15: row -/
noncomputable def b_f__law_refuses_fewer : Sv := (sSeq (sSet 4 (eBin fSub (eCall fLen (aCons (eVar 3) aNil)) (eC (.int 1)))) (sSeq (sFor (wRange1 (aCons (eC (.int 4)) aNil)) (gN 5)
    (sSeq (sSet 6 (eFn f__law_draw [] (aCons (eVar 0) (aCons (eBin (fAdd false) (eVar 4) (eC (.int 1))) aNil)))) (sSeq (sIf (tOf (eBin fEq (eBin fIx (eVar 3) (eVar 6)) (eC (.int 0))))
    (sSet 6 (eVar 4))
    sNx) (sIf (tOf (eBin fGt (eBin fIx (eVar 3) (eVar 6)) (eC (.int 0))))
    (sSeq (sSet 7 (eFn f__law_period [] (aCons (eFn f__law_bits [] (aCons (eVar 0) (aCons (eVar 6) aNil))) (aCons (eBin fSub (eBin fIx (eVar 3) (eVar 6)) (eC (.int 1))) (aCons (eFn f__law_draw [] (aCons (eVar 0) (aCons (eVar 6) aNil))) (aCons (eC (.bl true)) aNil)))))) (sSeq (sSet 8 (eBin (fMul false) (eC (.str [49])) (eFn f__law_draw [] (aCons (eVar 0) (aCons (eC (.int 9)) aNil))))) (sSeq (sSet 9 (eBin fIx (eLcA false (vAny (eVar 2)) (gN 15) (tOf (eBin fEq (eBM isStr fCountS (eSl false (eVar 15) oNone (oSome (eVar 6))) (aCons (eC (.str [49])) aNil)) (eBin fIx (eVar 3) (eVar 6)))) (eSl false (eVar 15) oNone (oSome (eVar 6))) [15]) (eC (.int 0)))) (sSeq (sSet 10 (eLc false (wRange1 (aCons (eVar 6) aNil)) (gN 14) (tOf (eBin fEq (eBin fIx (eVar 9) (eVar 14)) (eC (.str [49])))) (eVar 14) [14])) (sSeq (sSet 11 (eBin fIx (eVar 10) (eFn f__law_draw [] (aCons (eVar 0) (aCons (eCall fLen (aCons (eVar 10) aNil)) aNil))))) (sSeq (sSet 12 (eBin (fAdd false) (eBin (fAdd false) (eSl false (eVar 9) oNone (oSome (eVar 11))) (eC (.str [48]))) (eSl false (eVar 9) (oSome (eBin (fAdd false) (eVar 11) (eC (.int 1)))) oNone))) (sForA (vAny (eLst false (aCons (eVar 7) (aCons (eBin (fAdd false) (eVar 7) (eVar 8)) (aCons (eVar 12) (aCons (eBin (fAdd false) (eVar 12) (eVar 8)) aNil)))))) (gN 13)
    (sIf (tOf (eBin fIsNot (eMeth tb_lets [] (eVar 1) (aCons (eVar 13) aNil)) (eC (.bl false))))
    (sRet (eC (.bl false)))
    sNx))))))))
    sNx)))) (sRet (eC (.bl true)))))
noncomputable def f__law_refuses_fewer : Fn := bodyF 16 4 b_f__law_refuses_fewer
/-- _law_server(box); 0: box, 1: size, 2: low -/
noncomputable def b_f__law_server : Sv := (sSeq (sSet 1 (eBin (fAdd false) (eC (.int 1)) (eFn f__law_draw [] (aCons (eVar 0) (aCons (eC (.int 9)) aNil))))) (sSeq (sIf (tOf (eBin fEq (eFn f__law_draw [] (aCons (eVar 0) (aCons (eC (.int 4)) aNil))) (eC (.int 0))))
    (sSet 1 (eBin (fAdd false) (eC (.int 1)) (eFn f__law_draw [] (aCons (eVar 0) (aCons (eC (.int 48)) aNil)))))
    sNx) (sSeq (sSet 2 (eBin (fAdd false) (eC (.int 1)) (eFn f__law_draw [] (aCons (eVar 0) (aCons (eVar 1) aNil))))) (sSeq (sIf (tAndF (tOf (eBin fEq (eVar 2) (eVar 1))) (tOf (eBin fGt (eFn f__law_draw [] (aCons (eVar 0) (aCons (eC (.int 4)) aNil))) (eC (.int 0)))))
    (sSet 2 (eBin fDiv (eBin (fAdd false) (eVar 1) (eC (.int 1))) (eC (.int 2))))
    sNx) (sRet (eTup (aCons (eC (.str [115, 101, 114, 118, 101, 114])) (aCons (eVar 2) (aCons (eVar 1) aNil)))))))))
noncomputable def f__law_server : Fn := bodyF 3 1 b_f__law_server
/-- _law_windows(box); 0: box, 1: size, 2: row, 3: spot -/
noncomputable def b_f__law_windows : Sv := (sSeq (sSet 1 (eBin (fAdd false) (eC (.int 1)) (eFn f__law_draw [] (aCons (eVar 0) (aCons (eC (.int 9)) aNil))))) (sSeq (sIf (tOf (eBin fEq (eFn f__law_draw [] (aCons (eVar 0) (aCons (eC (.int 4)) aNil))) (eC (.int 0))))
    (sSet 1 (eBin (fAdd false) (eC (.int 1)) (eFn f__law_draw [] (aCons (eVar 0) (aCons (eC (.int 24)) aNil)))))
    sNx) (sSeq (sSet 2 (eFn f__law_bits [] (aCons (eVar 0) (aCons (eVar 1) aNil)))) (sSeq (sSet 3 (eFn f__law_draw [] (aCons (eVar 0) (aCons (eVar 1) aNil)))) (sSeq (sIf (tOrF (tOf (eBin (fIn true) (eC (.str [49])) (eVar 2))) (tOf (eBin fEq (eFn f__law_draw [] (aCons (eVar 0) (aCons (eC (.int 8)) aNil))) (eC (.int 0)))))
    (sSet 2 (eBin (fAdd false) (eBin (fAdd false) (eBin (fMul false) (eC (.str [48])) (eVar 3)) (eC (.str [49]))) (eBin (fMul false) (eC (.str [48])) (eBin fSub (eBin fSub (eVar 1) (eVar 3)) (eC (.int 1))))))
    sNx) (sRet (eTup (aCons (eC (.str [119, 105, 110, 100, 111, 119, 115])) (aCons (eVar 2) aNil)))))))))
noncomputable def f__law_windows : Fn := bodyF 4 1 b_f__law_windows
/-- _law_worst_rows(kind, length); 0: kind, 1: length, 2: size, 3: gap, 4: row, 5: k -/
noncomputable def b_f__law_worst_rows : Sv := (sSeq (sSet 2 (eFn f__law_size [] (aCons (eVar 0) aNil))) (sSeq (sIf (tOf (eBin fEq (eBin fIx (eVar 0) (eC (.int 0))) (eC (.str [102, 117, 108, 108]))))
    (sRet (eLst false (aCons (eBin (fMul false) (eC (.str [49])) (eVar 1)) aNil)))
    sNx) (sSeq (sIf (tOf (eBin fEq (eBin fIx (eVar 0) (eC (.int 0))) (eC (.str [119, 105, 110, 100, 111, 119, 115]))))
    (sRet (eLc false (wRange1 (aCons (eVar 2) aNil)) (gN 5) tYesF (eSl false (eBin (fMul false) (eBin fIx (eVar 0) (eC (.int 1))) (eBin (fAdd false) (eBin fDiv (eVar 1) (eVar 2)) (eC (.int 2)))) (oSome (eVar 5)) (oSome (eBin (fAdd false) (eVar 5) (eVar 1)))) [5]))
    sNx) (sSeq (sSet 3 (eBin fSub (eVar 2) (eBin fIx (eVar 0) (eC (.int 1))))) (sSeq (sSet 4 (eBin (fAdd false) (eBin (fAdd false) (eBin (fMul false) (eC (.str [49])) (eBin fIx (eVar 0) (eC (.int 1)))) (eBin (fMul false) (eC (.str [48])) (eVar 3))) (eBin (fMul false) (eBin (fAdd false) (eBin (fMul false) (eC (.str [48])) (eVar 3)) (eBin (fMul false) (eC (.str [49])) (eBin fIx (eVar 0) (eC (.int 1))))) (eBin (fAdd false) (eBin fDiv (eVar 1) (eVar 2)) (eC (.int 2)))))) (sRet (eLst false (aCons (eSl false (eVar 4) (oSome (eBin fIx (eVar 0) (eC (.int 1)))) (oSome (eBin (fAdd false) (eBin fIx (eVar 0) (eC (.int 1))) (eVar 1)))) aNil))))))))
noncomputable def f__law_worst_rows : Fn := bodyF 6 2 b_f__law_worst_rows
/-- law(script); 0: script, 1: box, 2: kind, 3: thing, 4: length, 5: rows, 6: fewest, 7: step, 8: turn, 9: bits -/
noncomputable def b_f_law : Sv := (sSeq (sSet 1 (eFn f__law_box [] (aCons (eVar 0) aNil))) (sSeq (sForA (vAny (eLst false (aCons (eFn f__law_server [] (aCons (eVar 1) aNil)) (aCons (eFn f__law_windows [] (aCons (eVar 1) aNil)) (aCons (eTup (aCons (eC (.str [102, 117, 108, 108])) aNil)) aNil))))) (gN 2)
    (sSeq (sSet 3 (eFn f__law_made [] (aCons (eVar 2) aNil))) (sSeq (sSet 4 (eBin (fAdd false) (eBin (fAdd false) (eBin (fMul false) (eC (.int 2)) (eFn f__law_size [] (aCons (eVar 2) aNil))) (eC (.int 3))) (eFn f__law_draw [] (aCons (eVar 1) (aCons (eBin (fAdd false) (eFn f__law_size [] (aCons (eVar 2) aNil)) (eC (.int 3))) aNil))))) (sSeq (sSet 5 (eFn f__law_worst_rows [] (aCons (eVar 2) (aCons (eVar 4) aNil)))) (sSeq (sSet 6 (eFn f__law_fewest [] (aCons (eVar 5) (aCons (eVar 4) aNil)))) (sSeq (sSet 7 (eBin (fAdd false) (eC (.int 1)) (eBin fDiv (eFn f__law_size [] (aCons (eVar 2) aNil)) (eC (.int 8))))) (sSeq (sIf (tOrF (tOf (eBin fEq (eBin fIx (eVar 6) (eVar 4)) (eC (.int 0)))) (tNotF (tTru (eFn f__law_is_reached [] (aCons (eVar 3) (aCons (eVar 5) (aCons (eVar 6) (aCons (eVar 7) aNil))))))))
    (sRet (eC (.bl false)))
    sNx) (sSeq (sFor (wRange1 (aCons (eC (.int 3)) aNil)) (gN 8)
    (sSeq (sSet 9 (eFn f__law_promised [] (aCons (eVar 1) (aCons (eVar 2) (aCons (eFn f__law_draw [] (aCons (eVar 1) (aCons (eBin (fAdd false) (eVar 4) (eC (.int 1))) aNil))) aNil))))) (sIf (tNotF (tTru (eFn f__law_keeps [] (aCons (eVar 1) (aCons (eVar 3) (aCons (eVar 9) (aCons (eVar 6) aNil)))))))
    (sRet (eC (.bl false)))
    sNx))) (sSeq (sIf (tNotF (tTru (eFn f__law_keeps [] (aCons (eVar 1) (aCons (eVar 3) (aCons (eFn f__law_promised [] (aCons (eVar 1) (aCons (eVar 2) (aCons (eVar 4) aNil)))) (aCons (eVar 6) aNil)))))))
    (sRet (eC (.bl false)))
    sNx) (sSeq (sIf (tNotF (tTru (eFn f__law_refuses_fewer [] (aCons (eVar 1) (aCons (eVar 3) (aCons (eVar 5) (aCons (eVar 6) aNil)))))))
    (sRet (eC (.bl false)))
    sNx) (sIf (tOrF (tOf (eBin fIsNot (eMeth tb_lets [] (eVar 3) (aCons (eC (.str [])) aNil)) (eC (.bl true)))) (tNotF (tTru (eFn f__law_is_reached [] (aCons (eVar 3) (aCons (eVar 5) (aCons (eSl false (eVar 6) oNone (oSome (eC (.int 4)))) (aCons (eC (.int 1)) aNil))))))))
    (sRet (eC (.bl false)))
    sNx))))))))))) (sRet (eC (.bl true)))))
noncomputable def f_law : Fn := bodyF 10 1 b_f_law
end M
/-! Each def does what its function does: printed. -/
namespace M
open PySem PySem.Spec PyProof.Rows L2 F

def top (i : Nat) : Stmt := PySem.Challenge.pw_busyspan_k08_whole_no_stretch_is_worse.main.body.getD i (.Pass ⟨0, 0, 0, 0⟩)
abbrev s_f_Full_lets : Stmt := (inClass (top 11) 0)
abbrev s_f_Server__lets_cut : Stmt := (inClass (top 12) 2)
abbrev s_f__are_bits : Stmt := (top 14)
abbrev s_f_Server_lets : Stmt := (inClass (top 12) 1)
abbrev s_f_Full_curves : Stmt := (inClass (top 11) 1)
abbrev s_f_Server_curves : Stmt := (inClass (top 12) 3)
abbrev s_f_Windows_curves : Stmt := (inClass (top 13) 2)
abbrev s_f_bits_of : Stmt := (top 3)
abbrev s_f_Windows_lets : Stmt := (inClass (top 13) 1)
abbrev s_f__law_box : Stmt := (top 17)
abbrev s_f__law_draw : Stmt := (top 18)
abbrev s_f__law_fewest : Stmt := (top 28)
abbrev s_f_ones : Stmt := (top 2)
abbrev s_f__least_ones : Stmt := (top 15)
abbrev s_f_Full_least : Stmt := (inClass (top 11) 2)
abbrev s_f_Server_least : Stmt := (inClass (top 12) 4)
abbrev s_f_Windows_least : Stmt := (inClass (top 13) 3)
abbrev s_f__law_is_number : Stmt := (top 27)
abbrev s_f__law_is_reached : Stmt := (top 29)
abbrev s_f__law_keeps : Stmt := (top 30)
abbrev s_f_Server___init__ : Stmt := (inClass (top 12) 0)
abbrev s_f_Windows___init__ : Stmt := (inClass (top 13) 0)
abbrev s_f__law_made : Stmt := (top 22)
abbrev s_f__law_bits : Stmt := (top 19)
abbrev s_f__law_period : Stmt := (top 24)
abbrev s_f__law_size : Stmt := (top 23)
abbrev s_f__law_promised : Stmt := (top 25)
abbrev s_f__law_refuses_fewer : Stmt := (top 31)
abbrev s_f__law_server : Stmt := (top 20)
abbrev s_f__law_windows : Stmt := (top 21)
abbrev s_f__law_worst_rows : Stmt := (top 26)
abbrev s_f_law : Stmt := (top 32)
structure Txt (K : PySem.W.Frag) (mg : Str → Option Value) where
  no_all : mg "all" = none
  no_any : mg "any" = none
  no_bool : mg "bool" = none
  no_divmod : mg "divmod" = none
  no_int : mg "int" = none
  no_isinstance : mg "isinstance" = none
  no_len : mg "len" = none
  no_list : mg "list" = none
  no_max : mg "max" = none
  no_min : mg "min" = none
  no_range : mg "range" = none
  gi_MOST_CELLS : ∃ t, mg "MOST_CELLS" = some (.int 24 t)
  gi_MOST_PERIOD : ∃ t, mg "MOST_PERIOD" = some (.int 48 t)
  c_Full : Addr
  mgc_Full : mg "Full" = some (.ref c_Full)
  cl_Full : Cls K c_Full
  c_Server : Addr
  mgc_Server : mg "Server" = some (.ref c_Server)
  cl_Server : Cls K c_Server
  na_Server_budget : NoAttr K c_Server "budget"
  na_Server_period : NoAttr K c_Server "period"
  c_Windows : Addr
  mgc_Windows : mg "Windows" = some (.ref c_Windows)
  cl_Windows : Cls K c_Windows
  na_Windows_cells : NoAttr K c_Windows "cells"
  a_f_Full_lets : Addr
  d_f_Full_lets : FuncData
  F_f_Full_lets : Fun K "lets" "Full.lets" s_f_Full_lets a_f_Full_lets d_f_Full_lets
  b_f_Full_lets : Binds K d_f_Full_lets ["self", "bits"] []
  a_f_Server__lets_cut : Addr
  d_f_Server__lets_cut : FuncData
  F_f_Server__lets_cut : Fun K "_lets_cut" "Server._lets_cut" s_f_Server__lets_cut a_f_Server__lets_cut d_f_Server__lets_cut
  b_f_Server__lets_cut : Binds K d_f_Server__lets_cut ["self", "bits", "head"] []
  a_f__are_bits : Addr
  d_f__are_bits : FuncData
  F_f__are_bits : Fun K "_are_bits" "_are_bits" s_f__are_bits a_f__are_bits d_f__are_bits
  b_f__are_bits : Binds K d_f__are_bits ["text"] []
  g_f__are_bits : mg "_are_bits" = some (.ref a_f__are_bits)
  a_f_Server_lets : Addr
  d_f_Server_lets : FuncData
  F_f_Server_lets : Fun K "lets" "Server.lets" s_f_Server_lets a_f_Server_lets d_f_Server_lets
  b_f_Server_lets : Binds K d_f_Server_lets ["self", "bits"] []
  a_f_Full_curves : Addr
  d_f_Full_curves : FuncData
  F_f_Full_curves : Fun K "curves" "Full.curves" s_f_Full_curves a_f_Full_curves d_f_Full_curves
  b_f_Full_curves : Binds K d_f_Full_curves ["self"] []
  a_f_Server_curves : Addr
  d_f_Server_curves : FuncData
  F_f_Server_curves : Fun K "curves" "Server.curves" s_f_Server_curves a_f_Server_curves d_f_Server_curves
  b_f_Server_curves : Binds K d_f_Server_curves ["self"] []
  a_f_Windows_curves : Addr
  d_f_Windows_curves : FuncData
  F_f_Windows_curves : Fun K "curves" "Windows.curves" s_f_Windows_curves a_f_Windows_curves d_f_Windows_curves
  b_f_Windows_curves : Binds K d_f_Windows_curves ["self"] []
  a_f_bits_of : Addr
  d_f_bits_of : FuncData
  F_f_bits_of : Fun K "bits_of" "bits_of" s_f_bits_of a_f_bits_of d_f_bits_of
  b_f_bits_of : Binds K d_f_bits_of ["curve", "ticks"] []
  g_f_bits_of : mg "bits_of" = some (.ref a_f_bits_of)
  a_f_Windows_lets : Addr
  d_f_Windows_lets : FuncData
  F_f_Windows_lets : Fun K "lets" "Windows.lets" s_f_Windows_lets a_f_Windows_lets d_f_Windows_lets
  b_f_Windows_lets : Binds K d_f_Windows_lets ["self", "bits"] []
  a_f__law_box : Addr
  d_f__law_box : FuncData
  F_f__law_box : Fun K "_law_box" "_law_box" s_f__law_box a_f__law_box d_f__law_box
  b_f__law_box : Binds K d_f__law_box ["script"] []
  g_f__law_box : mg "_law_box" = some (.ref a_f__law_box)
  a_f__law_draw : Addr
  d_f__law_draw : FuncData
  F_f__law_draw : Fun K "_law_draw" "_law_draw" s_f__law_draw a_f__law_draw d_f__law_draw
  b_f__law_draw : Binds K d_f__law_draw ["box", "many"] []
  g_f__law_draw : mg "_law_draw" = some (.ref a_f__law_draw)
  a_f__law_fewest : Addr
  d_f__law_fewest : FuncData
  F_f__law_fewest : Fun K "_law_fewest" "_law_fewest" s_f__law_fewest a_f__law_fewest d_f__law_fewest
  b_f__law_fewest : Binds K d_f__law_fewest ["rows", "length"] []
  g_f__law_fewest : mg "_law_fewest" = some (.ref a_f__law_fewest)
  a_f_ones : Addr
  d_f_ones : FuncData
  F_f_ones : Fun K "ones" "ones" s_f_ones a_f_ones d_f_ones
  b_f_ones : Binds K d_f_ones ["curve", "ticks"] []
  g_f_ones : mg "ones" = some (.ref a_f_ones)
  a_f__least_ones : Addr
  d_f__least_ones : FuncData
  F_f__least_ones : Fun K "_least_ones" "_least_ones" s_f__least_ones a_f__least_ones d_f__least_ones
  b_f__least_ones : Binds K d_f__least_ones ["curves", "ticks"] []
  g_f__least_ones : mg "_least_ones" = some (.ref a_f__least_ones)
  a_f_Full_least : Addr
  d_f_Full_least : FuncData
  F_f_Full_least : Fun K "least" "Full.least" s_f_Full_least a_f_Full_least d_f_Full_least
  b_f_Full_least : Binds K d_f_Full_least ["self", "ticks"] []
  a_f_Server_least : Addr
  d_f_Server_least : FuncData
  F_f_Server_least : Fun K "least" "Server.least" s_f_Server_least a_f_Server_least d_f_Server_least
  b_f_Server_least : Binds K d_f_Server_least ["self", "ticks"] []
  a_f_Windows_least : Addr
  d_f_Windows_least : FuncData
  F_f_Windows_least : Fun K "least" "Windows.least" s_f_Windows_least a_f_Windows_least d_f_Windows_least
  b_f_Windows_least : Binds K d_f_Windows_least ["self", "ticks"] []
  a_f__law_is_number : Addr
  d_f__law_is_number : FuncData
  F_f__law_is_number : Fun K "_law_is_number" "_law_is_number" s_f__law_is_number a_f__law_is_number d_f__law_is_number
  b_f__law_is_number : Binds K d_f__law_is_number ["answer", "wanted"] []
  g_f__law_is_number : mg "_law_is_number" = some (.ref a_f__law_is_number)
  a_f__law_is_reached : Addr
  d_f__law_is_reached : FuncData
  F_f__law_is_reached : Fun K "_law_is_reached" "_law_is_reached" s_f__law_is_reached a_f__law_is_reached d_f__law_is_reached
  b_f__law_is_reached : Binds K d_f__law_is_reached ["thing", "rows", "fewest", "step"] []
  g_f__law_is_reached : mg "_law_is_reached" = some (.ref a_f__law_is_reached)
  a_f__law_keeps : Addr
  d_f__law_keeps : FuncData
  F_f__law_keeps : Fun K "_law_keeps" "_law_keeps" s_f__law_keeps a_f__law_keeps d_f__law_keeps
  b_f__law_keeps : Binds K d_f__law_keeps ["box", "thing", "bits", "fewest"] []
  g_f__law_keeps : mg "_law_keeps" = some (.ref a_f__law_keeps)
  a_f_Server___init__ : Addr
  d_f_Server___init__ : FuncData
  F_f_Server___init__ : Fun K "__init__" "Server.__init__" s_f_Server___init__ a_f_Server___init__ d_f_Server___init__
  b_f_Server___init__ : Binds K d_f_Server___init__ ["self", "budget", "period"] []
  a_f_Windows___init__ : Addr
  d_f_Windows___init__ : FuncData
  F_f_Windows___init__ : Fun K "__init__" "Windows.__init__" s_f_Windows___init__ a_f_Windows___init__ d_f_Windows___init__
  b_f_Windows___init__ : Binds K d_f_Windows___init__ ["self", "cells"] []
  a_f__law_made : Addr
  d_f__law_made : FuncData
  F_f__law_made : Fun K "_law_made" "_law_made" s_f__law_made a_f__law_made d_f__law_made
  b_f__law_made : Binds K d_f__law_made ["kind"] []
  g_f__law_made : mg "_law_made" = some (.ref a_f__law_made)
  a_f__law_bits : Addr
  d_f__law_bits : FuncData
  F_f__law_bits : Fun K "_law_bits" "_law_bits" s_f__law_bits a_f__law_bits d_f__law_bits
  b_f__law_bits : Binds K d_f__law_bits ["box", "size"] []
  g_f__law_bits : mg "_law_bits" = some (.ref a_f__law_bits)
  a_f__law_period : Addr
  d_f__law_period : FuncData
  F_f__law_period : Fun K "_law_period" "_law_period" s_f__law_period a_f__law_period d_f__law_period
  b_f__law_period : Binds K d_f__law_period ["raw", "low", "start", "exact"] []
  g_f__law_period : mg "_law_period" = some (.ref a_f__law_period)
  a_f__law_size : Addr
  d_f__law_size : FuncData
  F_f__law_size : Fun K "_law_size" "_law_size" s_f__law_size a_f__law_size d_f__law_size
  b_f__law_size : Binds K d_f__law_size ["kind"] []
  g_f__law_size : mg "_law_size" = some (.ref a_f__law_size)
  a_f__law_promised : Addr
  d_f__law_promised : FuncData
  F_f__law_promised : Fun K "_law_promised" "_law_promised" s_f__law_promised a_f__law_promised d_f__law_promised
  b_f__law_promised : Binds K d_f__law_promised ["box", "kind", "length"] []
  g_f__law_promised : mg "_law_promised" = some (.ref a_f__law_promised)
  a_f__law_refuses_fewer : Addr
  d_f__law_refuses_fewer : FuncData
  F_f__law_refuses_fewer : Fun K "_law_refuses_fewer" "_law_refuses_fewer" s_f__law_refuses_fewer a_f__law_refuses_fewer d_f__law_refuses_fewer
  b_f__law_refuses_fewer : Binds K d_f__law_refuses_fewer ["box", "thing", "rows", "fewest"] []
  g_f__law_refuses_fewer : mg "_law_refuses_fewer" = some (.ref a_f__law_refuses_fewer)
  a_f__law_server : Addr
  d_f__law_server : FuncData
  F_f__law_server : Fun K "_law_server" "_law_server" s_f__law_server a_f__law_server d_f__law_server
  b_f__law_server : Binds K d_f__law_server ["box"] []
  g_f__law_server : mg "_law_server" = some (.ref a_f__law_server)
  a_f__law_windows : Addr
  d_f__law_windows : FuncData
  F_f__law_windows : Fun K "_law_windows" "_law_windows" s_f__law_windows a_f__law_windows d_f__law_windows
  b_f__law_windows : Binds K d_f__law_windows ["box"] []
  g_f__law_windows : mg "_law_windows" = some (.ref a_f__law_windows)
  a_f__law_worst_rows : Addr
  d_f__law_worst_rows : FuncData
  F_f__law_worst_rows : Fun K "_law_worst_rows" "_law_worst_rows" s_f__law_worst_rows a_f__law_worst_rows d_f__law_worst_rows
  b_f__law_worst_rows : Binds K d_f__law_worst_rows ["kind", "length"] []
  g_f__law_worst_rows : mg "_law_worst_rows" = some (.ref a_f__law_worst_rows)
  a_f_law : Addr
  d_f_law : FuncData
  F_f_law : Fun K "law" "law" s_f_law a_f_law d_f_law
  b_f_law : Binds K d_f_law ["script"] []
  g_f_law : mg "law" = some (.ref a_f_law)
  m_Server__lets_cut : Meth K c_Server "_lets_cut" a_f_Server__lets_cut
  m_Full_curves : Meth K c_Full "curves" a_f_Full_curves
  m_Server_curves : Meth K c_Server "curves" a_f_Server_curves
  m_Windows_curves : Meth K c_Windows "curves" a_f_Windows_curves
  m_Full_least : Meth K c_Full "least" a_f_Full_least
  m_Server_least : Meth K c_Server "least" a_f_Server_least
  m_Windows_least : Meth K c_Windows "least" a_f_Windows_least
  m_Full_lets : Meth K c_Full "lets" a_f_Full_lets
  m_Server_lets : Meth K c_Server "lets" a_f_Server_lets
  m_Windows_lets : Meth K c_Windows "lets" a_f_Windows_lets
  mk_Server : Mk K c_Server a_f_Server___init__
  mk_Windows : Mk K c_Windows a_f_Windows___init__
  mk_Full : Mk0 K c_Full
section
variable {P : Program} {w : World} {K : PySem.W.Frag} {mg : Str → Option Value} {base : Heap}
def Txt.G (T : Txt K mg) : CT := ⟨K, fun c => if c = 3 then T.c_Full else if c = 4 then T.c_Server else if c = 5 then T.c_Windows else 0, fun c => if c = 3 then [] else if c = 4 then ["budget", "period"] else if c = 5 then ["cells"] else []⟩
theorem hy_budget (T : Txt K mg) : ∀ c k, ix_budget c = some k → FldF T.G c "budget" k ∧ (T.G.fld c).length ≤ 900 := by
  intro c k h
  unfold ix_budget at h
  split at h
  · rename_i e
    subst e
    cases h
    exact ⟨⟨T.cl_Server, T.na_Server_budget, rfl, by show List.Nodup (["budget", "period"] : List Str); decide +kernel⟩, by show List.length (["budget", "period"] : List Str) ≤ 900; decide⟩
  cases h
theorem hx_budget (T : Txt K mg) : ∀ c k, ix_budget c = some k → FldF T.G c "budget" k := fun c k h => (hy_budget T c k h).1
theorem hy_cells (T : Txt K mg) : ∀ c k, ix_cells c = some k → FldF T.G c "cells" k ∧ (T.G.fld c).length ≤ 900 := by
  intro c k h
  unfold ix_cells at h
  split at h
  · rename_i e
    subst e
    cases h
    exact ⟨⟨T.cl_Windows, T.na_Windows_cells, rfl, by show List.Nodup (["cells"] : List Str); decide +kernel⟩, by show List.length (["cells"] : List Str) ≤ 900; decide⟩
  cases h
theorem hx_cells (T : Txt K mg) : ∀ c k, ix_cells c = some k → FldF T.G c "cells" k := fun c k h => (hy_cells T c k h).1
theorem hy_period (T : Txt K mg) : ∀ c k, ix_period c = some k → FldF T.G c "period" k ∧ (T.G.fld c).length ≤ 900 := by
  intro c k h
  unfold ix_period at h
  split at h
  · rename_i e
    subst e
    cases h
    exact ⟨⟨T.cl_Server, T.na_Server_period, rfl, by show List.Nodup (["budget", "period"] : List Str); decide +kernel⟩, by show List.length (["budget", "period"] : List Str) ≤ 900; decide⟩
  cases h
theorem hx_period (T : Txt K mg) : ∀ c k, ix_period c = some k → FldF T.G c "period" k := fun c k h => (hy_period T c k h).1
theorem isi_ok (T : Txt K mg) : CallF T.G (fIsi isiTb) (rIsi T.G.K) := cf_isi (by
  intro e he
  unfold isiTb at he
  simp only [List.mem_cons, List.not_mem_nil, or_false] at he
  rcases he with rfl | rfl
  · exact kit_ty (by decide +kernel)
  · exact kit_ty (by decide +kernel)) (by
  intro e he c hc
  unfold isiTb at he
  simp only [List.mem_cons, List.not_mem_nil, or_false] at he
  rcases he with rfl | rfl
  · cases hc
  · cases hc)
def bd_f_Full_lets : {b : List Stmt // defBody s_f_Full_lets = b} := by
  refine ⟨?b, ?h⟩
  case h => conv => lhs; whnf
def sp_f_Full_lets : {b : Scope // defScope s_f_Full_lets = b} := by
  refine ⟨?b, ?h⟩
  case h => conv => lhs; whnf
theorem sc_f_Full_lets : FnScope ["self", "bits"] ["self", "bits"] sp_f_Full_lets.1 := ⟨rfl, rfl, rfl, by decide +kernel, rfl, by decide +kernel, by decide +kernel⟩
theorem ok_f_Full_lets (T : Txt K mg) : FnOk P w K mg base (L2.CX P w) 1 T.a_f_Full_lets T.d_f_Full_lets ["self", "bits"] (spI T.G f_Full_lets) := fn_okG (k := 0) (body := b_f_Full_lets) rfl rfl sp_f_Full_lets.2 bd_f_Full_lets.2 T.F_f_Full_lets sc_f_Full_lets fun cdv A outer s H E hr => by
  have L := layX (P := P) (w := w) (mg := mg) (base := base) (x := "") (qual := "Full.lets") (sc := sp_f_Full_lets.1) (N := ["self", "bits"]) (f := T.a_f_Full_lets) (cdv := cdv) (A := A) (outer := outer) (s := s) (H := H) (E := E) (show K = T.G.K from rfl)
  have hu := hr.units
  exact (z_one (z_ret (q_eq L hu (k_count L (qv 1) (a_cons (q_str [49] (by decide +kernel)) a_nil)) (k_len L rfl T.no_len (a_cons (qv 1) a_nil)))))
def bd_f_Server__lets_cut : {b : List Stmt // defBody s_f_Server__lets_cut = b} := by
  refine ⟨?b, ?h⟩
  case h => conv => lhs; whnf
def sp_f_Server__lets_cut : {b : Scope // defScope s_f_Server__lets_cut = b} := by
  refine ⟨?b, ?h⟩
  case h => conv => lhs; whnf
theorem sc_f_Server__lets_cut : FnScope ["self", "bits", "head", "starts", "parts", "at", "part"] ["self", "bits", "head"] sp_f_Server__lets_cut.1 := ⟨rfl, rfl, rfl, by decide +kernel, rfl, by decide +kernel, by decide +kernel⟩
theorem ok_f_Server__lets_cut (T : Txt K mg) : FnOk P w K mg base (L2.CX P w) 1 T.a_f_Server__lets_cut T.d_f_Server__lets_cut ["self", "bits", "head"] (spI T.G f_Server__lets_cut) := fn_okG (k := 0) (body := b_f_Server__lets_cut) rfl rfl sp_f_Server__lets_cut.2 bd_f_Server__lets_cut.2 T.F_f_Server__lets_cut sc_f_Server__lets_cut fun cdv A outer s H E hr => by
  have L := layX (P := P) (w := w) (mg := mg) (base := base) (x := "") (qual := "Server._lets_cut") (sc := sp_f_Server__lets_cut.1) (N := ["self", "bits", "head", "starts", "parts", "at", "part"]) (f := T.a_f_Server__lets_cut) (cdv := cdv) (A := A) (outer := outer) (s := s) (H := H) (E := E) (show K = T.G.K from rfl)
  have hu := hr.units
  exact (z_cons (z_set sc_f_Server__lets_cut.nd rfl (Or.inl rfl) (k_range rfl T.no_range (a_cons (qv 2) (a_cons (k_len L rfl T.no_len (a_cons (qv 1) a_nil)) (a_cons (q_fld L (qv 0) (hx_period T)) a_nil)))))
    (z_cons (z_set sc_f_Server__lets_cut.nd rfl (Or.inl rfl) (q_add false L (q_lst false (a_cons (q_sl false L (qv 1) o_none (o_some (qv 2))) a_nil)) (q_lc false [("at", 5)] rfl rfl sc_f_Server__lets_cut.nd (w_rngV (qv 3)) (blkOk_by (by show blkC ["self", "bits", "head", "starts", "parts", "at", "part"] sp_f_Server__lets_cut.1 _ [("at", 5)] = true; decide +kernel)) (fun _ _ _ _ _ => (h_name sc_f_Server__lets_cut.nd rfl (Or.inl rfl))) (fun _ _ _ _ _ => ts_nil) (fun _ _ _ _ _ => (q_sl false (Lay.none rfl) (qv 1) (o_some (qv 5)) (o_some (q_add false (Lay.none rfl) (qv 5) (q_fld (Lay.none rfl) (qv 0) (hx_period T)))))))))
    (z_one (z_ret (k_all L rfl rfl T.no_all (a_cons (q_lcA false [("part", 6)] rfl rfl sc_f_Server__lets_cut.nd (w_anyA L (qv 4)) (blkOk_by (by show blkC ["self", "bits", "head", "starts", "parts", "at", "part"] sp_f_Server__lets_cut.1 _ [("part", 6)] = true; decide +kernel)) (fun _ _ _ _ _ => (h_name sc_f_Server__lets_cut.nd rfl (Or.inl rfl))) (fun _ _ _ _ _ => ts_nil) (fun _ _ _ _ _ => (q_ge (q_sub (q_add false (Lay.none rfl) (k_count (Lay.none rfl) (qv 6) (a_cons (q_str [49] (by decide +kernel)) a_nil)) (q_fld (Lay.none rfl) (qv 0) (hx_period T))) (k_len (Lay.none rfl) rfl T.no_len (a_cons (qv 6) a_nil))) (q_fld (Lay.none rfl) (qv 0) (hx_budget T))))) a_nil))))))
def bd_f__are_bits : {b : List Stmt // defBody s_f__are_bits = b} := by
  refine ⟨?b, ?h⟩
  case h => conv => lhs; whnf
def sp_f__are_bits : {b : Scope // defScope s_f__are_bits = b} := by
  refine ⟨?b, ?h⟩
  case h => conv => lhs; whnf
theorem sc_f__are_bits : FnScope ["text"] ["text"] sp_f__are_bits.1 := ⟨rfl, rfl, rfl, by decide +kernel, rfl, by decide +kernel, by decide +kernel⟩
theorem ok_f__are_bits (T : Txt K mg) : FnOk P w K mg base (L2.CX P w) 1 T.a_f__are_bits T.d_f__are_bits ["text"] (spI T.G f__are_bits) := fn_okG (k := 0) (body := b_f__are_bits) rfl rfl sp_f__are_bits.2 bd_f__are_bits.2 T.F_f__are_bits sc_f__are_bits fun cdv A outer s H E hr => by
  have L := layX (P := P) (w := w) (mg := mg) (base := base) (x := "") (qual := "_are_bits") (sc := sp_f__are_bits.1) (N := ["text"]) (f := T.a_f__are_bits) (cdv := cdv) (A := A) (outer := outer) (s := s) (H := H) (E := E) (show K = T.G.K from rfl)
  have hu := hr.units
  exact (z_one (z_ret (q_eq L hu (q_add false L (k_count L (qv 0) (a_cons (q_str [48] (by decide +kernel)) a_nil)) (k_count L (qv 0) (a_cons (q_str [49] (by decide +kernel)) a_nil))) (k_len L rfl T.no_len (a_cons (qv 0) a_nil)))))
theorem ht__lets_cut (T : Txt K mg) : ∀ c m, tb__lets_cut c = some m → MetF P w T.G mg base 1 "_lets_cut" [] c m := by
  intro c m h
  unfold tb__lets_cut at h
  split at h
  · rename_i e
    subst e
    cases h
    exact met_of T.cl_Server (by show ¬ ("_lets_cut" : Str) ∈ (["budget", "period"] : List Str); decide +kernel) T.m_Server__lets_cut (ok_f_Server__lets_cut T) (by decide) T.b_f_Server__lets_cut
  cases h
def bd_f_Server_lets : {b : List Stmt // defBody s_f_Server_lets = b} := by
  refine ⟨?b, ?h⟩
  case h => conv => lhs; whnf
def sp_f_Server_lets : {b : Scope // defScope s_f_Server_lets = b} := by
  refine ⟨?b, ?h⟩
  case h => conv => lhs; whnf
theorem sc_f_Server_lets : FnScope ["self", "bits", "head"] ["self", "bits"] sp_f_Server_lets.1 := ⟨rfl, rfl, rfl, by decide +kernel, rfl, by decide +kernel, by decide +kernel⟩
theorem ok_f_Server_lets (T : Txt K mg) : FnOk P w K mg base (L2.CX P w) 2 T.a_f_Server_lets T.d_f_Server_lets ["self", "bits"] (spI T.G f_Server_lets) := fn_okG (k := 1) (body := b_f_Server_lets) rfl rfl sp_f_Server_lets.2 bd_f_Server_lets.2 T.F_f_Server_lets sc_f_Server_lets fun cdv A outer s H E hr => by
  have L := layX (P := P) (w := w) (mg := mg) (base := base) (x := "") (qual := "Server.lets") (sc := sp_f_Server_lets.1) (N := ["self", "bits", "head"]) (f := T.a_f_Server_lets) (cdv := cdv) (A := A) (outer := outer) (s := s) (H := H) (E := E) (show K = T.G.K from rfl)
  have hu := hr.units
  exact (z_cons (z_if (qt_not (qt_tru L (k_call L (ok_f__are_bits T) (hr.mono (by decide)) rfl T.g_f__are_bits T.F_f__are_bits.kp T.b_f__are_bits (a_cons (qv 1) a_nil))))
    (z_one (z_ret q_bl))
    z_nil)
    (z_cons (z_for (passes_of rfl) rfl (w_range1 rfl T.no_range (a_cons (q_fld L (qv 0) (hx_period T)) a_nil)) (g_name sc_f_Server_lets.nd rfl (Or.inl rfl))
    (z_one (z_if (qt_tru L (q_meth L (qv 0) (ht__lets_cut T) (hr.mono (by decide)) (a_cons (qv 1) (a_cons (qv 2) a_nil))))
    (z_one (z_ret q_bl))
    z_nil)))
    (z_one (z_ret q_bl))))
def bd_f_Full_curves : {b : List Stmt // defBody s_f_Full_curves = b} := by
  refine ⟨?b, ?h⟩
  case h => conv => lhs; whnf
def sp_f_Full_curves : {b : Scope // defScope s_f_Full_curves = b} := by
  refine ⟨?b, ?h⟩
  case h => conv => lhs; whnf
theorem sc_f_Full_curves : FnScope ["self"] ["self"] sp_f_Full_curves.1 := ⟨rfl, rfl, rfl, by decide +kernel, rfl, by decide +kernel, by decide +kernel⟩
theorem ok_f_Full_curves (T : Txt K mg) : FnOk P w K mg base (L2.CX P w) 1 T.a_f_Full_curves T.d_f_Full_curves ["self"] (spI T.G f_Full_curves) := fn_okG (k := 0) (body := b_f_Full_curves) rfl rfl sp_f_Full_curves.2 bd_f_Full_curves.2 T.F_f_Full_curves sc_f_Full_curves fun cdv A outer s H E hr => by
  have L := layX (P := P) (w := w) (mg := mg) (base := base) (x := "") (qual := "Full.curves") (sc := sp_f_Full_curves.1) (N := ["self"]) (f := T.a_f_Full_curves) (cdv := cdv) (A := A) (outer := outer) (s := s) (H := H) (E := E) (show K = T.G.K from rfl)
  have hu := hr.units
  exact (z_one (z_ret (q_lst false (a_cons (q_tup (a_cons (q_str [] (by decide +kernel)) (a_cons (q_str [49] (by decide +kernel)) a_nil))) a_nil))))
def bd_f_Server_curves : {b : List Stmt // defBody s_f_Server_curves = b} := by
  refine ⟨?b, ?h⟩
  case h => conv => lhs; whnf
def sp_f_Server_curves : {b : Scope // defScope s_f_Server_curves = b} := by
  refine ⟨?b, ?h⟩
  case h => conv => lhs; whnf
theorem sc_f_Server_curves : FnScope ["self", "gap"] ["self"] sp_f_Server_curves.1 := ⟨rfl, rfl, rfl, by decide +kernel, rfl, by decide +kernel, by decide +kernel⟩
theorem ok_f_Server_curves (T : Txt K mg) : FnOk P w K mg base (L2.CX P w) 1 T.a_f_Server_curves T.d_f_Server_curves ["self"] (spI T.G f_Server_curves) := fn_okG (k := 0) (body := b_f_Server_curves) rfl rfl sp_f_Server_curves.2 bd_f_Server_curves.2 T.F_f_Server_curves sc_f_Server_curves fun cdv A outer s H E hr => by
  have L := layX (P := P) (w := w) (mg := mg) (base := base) (x := "") (qual := "Server.curves") (sc := sp_f_Server_curves.1) (N := ["self", "gap"]) (f := T.a_f_Server_curves) (cdv := cdv) (A := A) (outer := outer) (s := s) (H := H) (E := E) (show K = T.G.K from rfl)
  have hu := hr.units
  exact (z_cons (z_set sc_f_Server_curves.nd rfl (Or.inl rfl) (q_sub (q_fld L (qv 0) (hx_period T)) (q_fld L (qv 0) (hx_budget T))))
    (z_one (z_ret (q_lst false (a_cons (q_tup (a_cons (q_mul false L (q_str [48] (by decide +kernel)) (q_mul false L q_int (qv 1))) (a_cons (q_add false L (q_mul false L (q_str [49] (by decide +kernel)) (q_fld L (qv 0) (hx_budget T))) (q_mul false L (q_str [48] (by decide +kernel)) (qv 1))) a_nil))) a_nil)))))
def bd_f_Windows_curves : {b : List Stmt // defBody s_f_Windows_curves = b} := by
  refine ⟨?b, ?h⟩
  case h => conv => lhs; whnf
def sp_f_Windows_curves : {b : Scope // defScope s_f_Windows_curves = b} := by
  refine ⟨?b, ?h⟩
  case h => conv => lhs; whnf
theorem sc_f_Windows_curves : FnScope ["self", "phase"] ["self"] sp_f_Windows_curves.1 := ⟨rfl, rfl, rfl, by decide +kernel, rfl, by decide +kernel, by decide +kernel⟩
theorem ok_f_Windows_curves (T : Txt K mg) : FnOk P w K mg base (L2.CX P w) 1 T.a_f_Windows_curves T.d_f_Windows_curves ["self"] (spI T.G f_Windows_curves) := fn_okG (k := 0) (body := b_f_Windows_curves) rfl rfl sp_f_Windows_curves.2 bd_f_Windows_curves.2 T.F_f_Windows_curves sc_f_Windows_curves fun cdv A outer s H E hr => by
  have L := layX (P := P) (w := w) (mg := mg) (base := base) (x := "") (qual := "Windows.curves") (sc := sp_f_Windows_curves.1) (N := ["self", "phase"]) (f := T.a_f_Windows_curves) (cdv := cdv) (A := A) (outer := outer) (s := s) (H := H) (E := E) (show K = T.G.K from rfl)
  have hu := hr.units
  exact (z_one (z_ret (q_lc false [("phase", 1)] rfl rfl sc_f_Windows_curves.nd (w_range1 rfl T.no_range (a_cons (k_len L rfl T.no_len (a_cons (q_fld L (qv 0) (hx_cells T)) a_nil)) a_nil)) (blkOk_by (by show blkC ["self", "phase"] sp_f_Windows_curves.1 _ [("phase", 1)] = true; decide +kernel)) (fun _ _ _ _ _ => (h_name sc_f_Windows_curves.nd rfl (Or.inl rfl))) (fun _ _ _ _ _ => ts_nil) (fun _ _ _ _ _ => (q_tup (a_cons (q_str [] (by decide +kernel)) (a_cons (q_add false (Lay.none rfl) (q_sl false (Lay.none rfl) (q_fld (Lay.none rfl) (qv 0) (hx_cells T)) (o_some (qv 1)) o_none) (q_sl false (Lay.none rfl) (q_fld (Lay.none rfl) (qv 0) (hx_cells T)) o_none (o_some (qv 1)))) a_nil)))))))
def bd_f_bits_of : {b : List Stmt // defBody s_f_bits_of = b} := by
  refine ⟨?b, ?h⟩
  case h => conv => lhs; whnf
def sp_f_bits_of : {b : Scope // defScope s_f_bits_of = b} := by
  refine ⟨?b, ?h⟩
  case h => conv => lhs; whnf
theorem sc_f_bits_of : FnScope ["curve", "ticks", "lead", "cycle", "rounds", "rest"] ["curve", "ticks"] sp_f_bits_of.1 := ⟨rfl, rfl, rfl, by decide +kernel, rfl, by decide +kernel, by decide +kernel⟩
theorem ok_f_bits_of (T : Txt K mg) : FnOk P w K mg base (L2.CX P w) 1 T.a_f_bits_of T.d_f_bits_of ["curve", "ticks"] (spI T.G f_bits_of) := fn_okG (k := 0) (body := b_f_bits_of) rfl rfl sp_f_bits_of.2 bd_f_bits_of.2 T.F_f_bits_of sc_f_bits_of fun cdv A outer s H E hr => by
  have L := layX (P := P) (w := w) (mg := mg) (base := base) (x := "") (qual := "bits_of") (sc := sp_f_bits_of.1) (N := ["curve", "ticks", "lead", "cycle", "rounds", "rest"]) (f := T.a_f_bits_of) (cdv := cdv) (A := A) (outer := outer) (s := s) (H := H) (E := E) (show K = T.G.K from rfl)
  have hu := hr.units
  exact (z_cons (z_asg (qv 0) (g_tup rfl rfl (g_cons (g_name sc_f_bits_of.nd rfl (Or.inl rfl)) (g_cons (g_name sc_f_bits_of.nd rfl (Or.inl rfl)) g_nil))))
    (z_cons (z_if (qt_le (qv 1) (k_len L rfl T.no_len (a_cons (qv 2) a_nil)))
    (z_one (z_ret (q_sl false L (qv 2) o_none (o_some (k_max2 L rfl rfl T.no_max (a_cons (qv 1) (a_cons q_int a_nil)))))))
    z_nil)
    (z_cons (z_asg (k_divmod rfl T.no_divmod (a_cons (q_sub (qv 1) (k_len L rfl T.no_len (a_cons (qv 2) a_nil))) (a_cons (k_len L rfl T.no_len (a_cons (qv 3) a_nil)) a_nil))) (g_tup rfl rfl (g_cons (g_name sc_f_bits_of.nd rfl (Or.inl rfl)) (g_cons (g_name sc_f_bits_of.nd rfl (Or.inl rfl)) g_nil))))
    (z_one (z_ret (q_add false L (q_add false L (qv 2) (q_mul false L (qv 3) (qv 4))) (q_sl false L (qv 3) o_none (o_some (qv 5)))))))))
theorem ht_curves (T : Txt K mg) : ∀ c m, tb_curves c = some m → MetF P w T.G mg base 1 "curves" [] c m := by
  intro c m h
  unfold tb_curves at h
  split at h
  · rename_i e
    subst e
    cases h
    exact met_of T.cl_Full (by show ¬ ("curves" : Str) ∈ ([] : List Str); decide +kernel) T.m_Full_curves (ok_f_Full_curves T) (by decide) T.b_f_Full_curves
  split at h
  · rename_i e
    subst e
    cases h
    exact met_of T.cl_Server (by show ¬ ("curves" : Str) ∈ (["budget", "period"] : List Str); decide +kernel) T.m_Server_curves (ok_f_Server_curves T) (by decide) T.b_f_Server_curves
  split at h
  · rename_i e
    subst e
    cases h
    exact met_of T.cl_Windows (by show ¬ ("curves" : Str) ∈ (["cells"] : List Str); decide +kernel) T.m_Windows_curves (ok_f_Windows_curves T) (by decide) T.b_f_Windows_curves
  cases h
def bd_f_Windows_lets : {b : List Stmt // defBody s_f_Windows_lets = b} := by
  refine ⟨?b, ?h⟩
  case h => conv => lhs; whnf
def sp_f_Windows_lets : {b : Scope // defScope s_f_Windows_lets = b} := by
  refine ⟨?b, ?h⟩
  case h => conv => lhs; whnf
theorem sc_f_Windows_lets : FnScope ["self", "bits", "curve"] ["self", "bits"] sp_f_Windows_lets.1 := ⟨rfl, rfl, rfl, by decide +kernel, rfl, by decide +kernel, by decide +kernel⟩
theorem ok_f_Windows_lets (T : Txt K mg) : FnOk P w K mg base (L2.CX P w) 2 T.a_f_Windows_lets T.d_f_Windows_lets ["self", "bits"] (spI T.G f_Windows_lets) := fn_okG (k := 1) (body := b_f_Windows_lets) rfl rfl sp_f_Windows_lets.2 bd_f_Windows_lets.2 T.F_f_Windows_lets sc_f_Windows_lets fun cdv A outer s H E hr => by
  have L := layX (P := P) (w := w) (mg := mg) (base := base) (x := "") (qual := "Windows.lets") (sc := sp_f_Windows_lets.1) (N := ["self", "bits", "curve"]) (f := T.a_f_Windows_lets) (cdv := cdv) (A := A) (outer := outer) (s := s) (H := H) (E := E) (show K = T.G.K from rfl)
  have hu := hr.units
  exact (z_one (z_ret (k_any L rfl rfl T.no_any (a_cons (q_lcA false [("curve", 2)] rfl rfl sc_f_Windows_lets.nd (w_anyA L (q_meth0 L (qv 0) (ht_curves T) (hr.mono (by decide)))) (blkOk_by (by show blkC ["self", "bits", "curve"] sp_f_Windows_lets.1 _ [("curve", 2)] = true; decide +kernel)) (fun _ _ _ _ _ => (h_name sc_f_Windows_lets.nd rfl (Or.inl rfl))) (fun _ _ _ _ _ => ts_nil) (fun _ _ _ _ _ => (q_eq (Lay.none rfl) hu (k_call (Lay.none rfl) (ok_f_bits_of T) (hr.mono (by decide)) rfl T.g_f_bits_of T.F_f_bits_of.kp T.b_f_bits_of (a_cons (qv 2) (a_cons (k_len (Lay.none rfl) rfl T.no_len (a_cons (qv 1) a_nil)) a_nil))) (qv 1)))) a_nil))))
def bd_f__law_box : {b : List Stmt // defBody s_f__law_box = b} := by
  refine ⟨?b, ?h⟩
  case h => conv => lhs; whnf
def sp_f__law_box : {b : Scope // defScope s_f__law_box = b} := by
  refine ⟨?b, ?h⟩
  case h => conv => lhs; whnf
theorem sc_f__law_box : FnScope ["script", "seed", "great", "cell"] ["script"] sp_f__law_box.1 := ⟨rfl, rfl, rfl, by decide +kernel, rfl, by decide +kernel, by decide +kernel⟩
theorem ok_f__law_box (T : Txt K mg) : FnOk P w K mg base (L2.CX P w) 1 T.a_f__law_box T.d_f__law_box ["script"] (spI T.G f__law_box) := fn_okG (k := 0) (body := b_f__law_box) rfl rfl sp_f__law_box.2 bd_f__law_box.2 T.F_f__law_box sc_f__law_box fun cdv A outer s H E hr => by
  have L := layX (P := P) (w := w) (mg := mg) (base := base) (x := "") (qual := "_law_box") (sc := sp_f__law_box.1) (N := ["script", "seed", "great", "cell"]) (f := T.a_f__law_box) (cdv := cdv) (A := A) (outer := outer) (s := s) (H := H) (E := E) (show K = T.G.K from rfl)
  have hu := hr.units
  exact (z_cons (z_set sc_f__law_box.nd rfl (Or.inl rfl) q_int)
    (z_cons (z_set sc_f__law_box.nd rfl (Or.inl rfl) (q_lst true a_nil))
    (z_cons (z_forA (passes_of rfl) rfl (w_anyA L (q_sl false L (qv 0) o_none (o_some q_int))) (g_name sc_f__law_box.nd rfl (Or.inl rfl))
    (z_cons (z_set sc_f__law_box.nd rfl (Or.inl rfl) (q_mod (k_int rfl T.no_int (a_cons (q_add false L (q_add false L (q_mod (k_int rfl T.no_int (a_cons (qv 3) a_nil)) q_int) (q_mul false L (qv 1) q_int)) q_int) a_nil)) q_int))
    (z_one (z_if (qt_ge (qv 3) (q_pow q_int q_int))
    (z_one (z_drop (k_append L (qv 2) (a_cons (q_tup (a_cons (k_min2 L rfl rfl T.no_min (a_cons (qv 3) (a_cons (q_pow q_int q_int) a_nil))) (a_cons (q_mod (k_int rfl T.no_int (a_cons (qv 3) a_nil)) (q_pow q_int q_int)) a_nil))) a_nil))))
    z_nil))))
    (z_one (z_ret (q_lst true (a_cons (q_frz (qv 2)) (a_cons q_int (a_cons q_int (a_cons q_int (a_cons (qv 1) (a_cons q_int a_nil))))))))))))
def bd_f__law_draw : {b : List Stmt // defBody s_f__law_draw = b} := by
  refine ⟨?b, ?h⟩
  case h => conv => lhs; whnf
def sp_f__law_draw : {b : Scope // defScope s_f__law_draw = b} := by
  refine ⟨?b, ?h⟩
  case h => conv => lhs; whnf
theorem sc_f__law_draw : FnScope ["box", "many", "great", "digit", "mixed"] ["box", "many"] sp_f__law_draw.1 := ⟨rfl, rfl, rfl, by decide +kernel, rfl, by decide +kernel, by decide +kernel⟩
theorem ok_f__law_draw (T : Txt K mg) : FnOk P w K mg base (L2.CX P w) 1 T.a_f__law_draw T.d_f__law_draw ["box", "many"] (spI T.G f__law_draw) := fn_okG (k := 0) (body := b_f__law_draw) rfl rfl sp_f__law_draw.2 bd_f__law_draw.2 T.F_f__law_draw sc_f__law_draw fun cdv A outer s H E hr => by
  have L := layX (P := P) (w := w) (mg := mg) (base := base) (x := "") (qual := "_law_draw") (sc := sp_f__law_draw.1) (N := ["box", "many", "great", "digit", "mixed"]) (f := T.a_f__law_draw) (cdv := cdv) (A := A) (outer := outer) (s := s) (H := H) (E := E) (show K = T.G.K from rfl)
  have hu := hr.units
  exact (z_cons (z_set sc_f__law_draw.nd rfl (Or.inl rfl) (q_ix L (qv 0) q_int))
    (z_cons (z_while 100 (passes_of rfl) (PW.pt (w_and (qt_lt (q_ix L (qv 0) q_int) (qv 1)) (w_and1 (qt_lt (q_ix L (qv 0) q_int) (k_len L rfl T.no_len (a_cons (qv 2) a_nil))))))
    (z_cons (k_setIx (q_ix L (q_ix L (qv 2) (q_ix L (qv 0) q_int)) q_int) (qv 0) q_int)
    (z_cons (k_setIx (q_ix L (q_ix L (qv 2) (q_ix L (qv 0) q_int)) q_int) (qv 0) q_int)
    (z_one (k_setIx (q_add false L (q_ix L (qv 0) q_int) q_int) (qv 0) q_int)))))
    (z_cons (z_if (qt_ge (q_ix L (qv 0) q_int) (qv 1))
    (z_cons (z_set sc_f__law_draw.nd rfl (Or.inl rfl) (q_mod (k_int rfl T.no_int (a_cons (q_ix L (qv 0) q_int) a_nil)) (qv 1)))
    (z_cons (k_setIx (q_div (q_ix L (qv 0) q_int) (qv 1)) (qv 0) q_int)
    (z_cons (k_setIx (q_div (q_ix L (qv 0) q_int) (qv 1)) (qv 0) q_int)
    (z_one (z_ret (qv 3))))))
    z_nil)
    (z_cons (k_setIx (q_add false L (q_ix L (qv 0) q_int) q_int) (qv 0) q_int)
    (z_cons (k_setIx (q_mod (k_int rfl T.no_int (a_cons (q_add false L (q_add false L (q_mul false L (q_ix L (qv 0) q_int) q_int) (q_mul false L (q_ix L (qv 0) q_int) q_int)) q_int) a_nil)) q_int) (qv 0) q_int)
    (z_cons (z_set sc_f__law_draw.nd rfl (Or.inl rfl) (q_mod (k_int rfl T.no_int (a_cons (q_add false L (q_add false L (q_mul false L (q_div (q_ix L (qv 0) q_int) q_int) q_int) (q_ix L (qv 0) q_int)) (q_ix L (qv 0) q_int)) a_nil)) q_int))
    (z_one (z_ret (q_mod (k_int rfl T.no_int (a_cons (q_div (qv 4) q_int) a_nil)) (qv 1))))))))))
def bd_f__law_fewest : {b : List Stmt // defBody s_f__law_fewest = b} := by
  refine ⟨?b, ?h⟩
  case h => conv => lhs; whnf
def sp_f__law_fewest : {b : Scope // defScope s_f__law_fewest = b} := by
  refine ⟨?b, ?h⟩
  case h => conv => lhs; whnf
theorem sc_f__law_fewest : FnScope ["rows", "length", "counts", "k", "sign", "row", "n", "line"] ["rows", "length"] sp_f__law_fewest.1 := ⟨rfl, rfl, rfl, by decide +kernel, rfl, by decide +kernel, by decide +kernel⟩
theorem ok_f__law_fewest (T : Txt K mg) : FnOk P w K mg base (L2.CX P w) 1 T.a_f__law_fewest T.d_f__law_fewest ["rows", "length"] (spI T.G f__law_fewest) := fn_okG (k := 0) (body := b_f__law_fewest) rfl rfl sp_f__law_fewest.2 bd_f__law_fewest.2 T.F_f__law_fewest sc_f__law_fewest fun cdv A outer s H E hr => by
  have L := layX (P := P) (w := w) (mg := mg) (base := base) (x := "") (qual := "_law_fewest") (sc := sp_f__law_fewest.1) (N := ["rows", "length", "counts", "k", "sign", "row", "n", "line"]) (f := T.a_f__law_fewest) (cdv := cdv) (A := A) (outer := outer) (s := s) (H := H) (E := E) (show K = T.G.K from rfl)
  have hu := hr.units
  exact (z_cons (z_set sc_f__law_fewest.nd rfl (Or.inr rfl) (q_lcA false [("row", 5)] rfl rfl sc_f__law_fewest.nd (w_anyA L (qv 0)) (blkOk_by (by show blkC ["rows", "length", "counts", "k", "sign", "row", "n", "line"] sp_f__law_fewest.1 _ [("row", 5)] = true; decide +kernel)) (fun _ _ _ _ _ => (h_name sc_f__law_fewest.nd rfl (Or.inl rfl))) (fun _ _ _ _ _ => ts_nil) (fun _ _ _ _ _ => (q_lst true (a_cons q_int a_nil)))))
    (z_cons (z_for (passes_of rfl) rfl (w_range1 rfl T.no_range (a_cons (k_len L rfl T.no_len (a_cons (qv 0) a_nil)) a_nil)) (g_name sc_f__law_fewest.nd rfl (Or.inl rfl))
    (z_one (z_forA (passes_of rfl) rfl (w_anyA L (q_ix L (qv 0) (qv 3))) (g_name sc_f__law_fewest.nd rfl (Or.inl rfl))
    (z_one (z_drop (k_append L (q_ix L (qv 2) (qv 3)) (a_cons (q_add false L (q_ix L (q_ix L (qv 2) (qv 3)) (q_neg q_int)) (k_int rfl T.no_int (a_cons (q_eq L hu (qv 4) (q_str [49] (by decide +kernel))) a_nil))) a_nil)))))))
    (z_one (z_ret (q_lc false [("n", 6)] rfl rfl sc_f__law_fewest.nd (w_range1 rfl T.no_range (a_cons (q_add false L (qv 1) q_int) a_nil)) (blkOk_by (by show blkC ["rows", "length", "counts", "k", "sign", "row", "n", "line"] sp_f__law_fewest.1 _ [("n", 6)] = true; decide +kernel)) (fun _ _ _ _ _ => (h_name sc_f__law_fewest.nd rfl (Or.inr rfl))) (fun _ _ _ _ _ => ts_nil) (fun _ _ _ _ _ => (k_min1 (Lay.none rfl) rfl rfl T.no_min (a_cons (q_lcA false [("line", 7)] rfl rfl sc_f__law_fewest.nd (w_anyA (Lay.none rfl) (qv 2)) (blkOk_by (by kernel_rfl)) (fun _ _ _ _ _ => (h_name sc_f__law_fewest.nd rfl (Or.inl rfl))) (fun _ _ _ _ _ => ts_nil) (fun _ _ _ _ _ => (q_ix (Lay.none rfl) (qv 7) (qv 6)))) a_nil))))))))
def bd_f_ones : {b : List Stmt // defBody s_f_ones = b} := by
  refine ⟨?b, ?h⟩
  case h => conv => lhs; whnf
def sp_f_ones : {b : Scope // defScope s_f_ones = b} := by
  refine ⟨?b, ?h⟩
  case h => conv => lhs; whnf
theorem sc_f_ones : FnScope ["curve", "ticks", "lead", "cycle", "rounds", "rest"] ["curve", "ticks"] sp_f_ones.1 := ⟨rfl, rfl, rfl, by decide +kernel, rfl, by decide +kernel, by decide +kernel⟩
theorem ok_f_ones (T : Txt K mg) : FnOk P w K mg base (L2.CX P w) 1 T.a_f_ones T.d_f_ones ["curve", "ticks"] (spI T.G f_ones) := fn_okG (k := 0) (body := b_f_ones) rfl rfl sp_f_ones.2 bd_f_ones.2 T.F_f_ones sc_f_ones fun cdv A outer s H E hr => by
  have L := layX (P := P) (w := w) (mg := mg) (base := base) (x := "") (qual := "ones") (sc := sp_f_ones.1) (N := ["curve", "ticks", "lead", "cycle", "rounds", "rest"]) (f := T.a_f_ones) (cdv := cdv) (A := A) (outer := outer) (s := s) (H := H) (E := E) (show K = T.G.K from rfl)
  have hu := hr.units
  exact (z_cons (z_asg (qv 0) (g_tup rfl rfl (g_cons (g_name sc_f_ones.nd rfl (Or.inl rfl)) (g_cons (g_name sc_f_ones.nd rfl (Or.inl rfl)) g_nil))))
    (z_cons (z_if (qt_le (qv 1) q_int)
    (z_one (z_ret q_int))
    z_nil)
    (z_cons (z_if (qt_le (qv 1) (k_len L rfl T.no_len (a_cons (qv 2) a_nil)))
    (z_one (z_ret (k_count L (q_sl false L (qv 2) o_none (o_some (qv 1))) (a_cons (q_str [49] (by decide +kernel)) a_nil))))
    z_nil)
    (z_cons (z_asg (k_divmod rfl T.no_divmod (a_cons (q_sub (qv 1) (k_len L rfl T.no_len (a_cons (qv 2) a_nil))) (a_cons (k_len L rfl T.no_len (a_cons (qv 3) a_nil)) a_nil))) (g_tup rfl rfl (g_cons (g_name sc_f_ones.nd rfl (Or.inl rfl)) (g_cons (g_name sc_f_ones.nd rfl (Or.inl rfl)) g_nil))))
    (z_one (z_ret (q_add false L (q_add false L (k_count L (qv 2) (a_cons (q_str [49] (by decide +kernel)) a_nil)) (q_mul false L (qv 4) (k_count L (qv 3) (a_cons (q_str [49] (by decide +kernel)) a_nil)))) (k_count L (q_sl false L (qv 3) o_none (o_some (qv 5))) (a_cons (q_str [49] (by decide +kernel)) a_nil)))))))))
def bd_f__least_ones : {b : List Stmt // defBody s_f__least_ones = b} := by
  refine ⟨?b, ?h⟩
  case h => conv => lhs; whnf
def sp_f__least_ones : {b : Scope // defScope s_f__least_ones = b} := by
  refine ⟨?b, ?h⟩
  case h => conv => lhs; whnf
theorem sc_f__least_ones : FnScope ["curves", "ticks", "curve"] ["curves", "ticks"] sp_f__least_ones.1 := ⟨rfl, rfl, rfl, by decide +kernel, rfl, by decide +kernel, by decide +kernel⟩
theorem ok_f__least_ones (T : Txt K mg) : FnOk P w K mg base (L2.CX P w) 2 T.a_f__least_ones T.d_f__least_ones ["curves", "ticks"] (spI T.G f__least_ones) := fn_okG (k := 1) (body := b_f__least_ones) rfl rfl sp_f__least_ones.2 bd_f__least_ones.2 T.F_f__least_ones sc_f__least_ones fun cdv A outer s H E hr => by
  have L := layX (P := P) (w := w) (mg := mg) (base := base) (x := "") (qual := "_least_ones") (sc := sp_f__least_ones.1) (N := ["curves", "ticks", "curve"]) (f := T.a_f__least_ones) (cdv := cdv) (A := A) (outer := outer) (s := s) (H := H) (E := E) (show K = T.G.K from rfl)
  have hu := hr.units
  exact (z_one (z_ret (k_min1 L rfl rfl T.no_min (a_cons (q_lcA false [("curve", 2)] rfl rfl sc_f__least_ones.nd (w_anyA L (qv 0)) (blkOk_by (by show blkC ["curves", "ticks", "curve"] sp_f__least_ones.1 _ [("curve", 2)] = true; decide +kernel)) (fun _ _ _ _ _ => (h_name sc_f__least_ones.nd rfl (Or.inl rfl))) (fun _ _ _ _ _ => ts_nil) (fun _ _ _ _ _ => (k_call (Lay.none rfl) (ok_f_ones T) (hr.mono (by decide)) rfl T.g_f_ones T.F_f_ones.kp T.b_f_ones (a_cons (qv 2) (a_cons (qv 1) a_nil))))) a_nil))))
def bd_f_Full_least : {b : List Stmt // defBody s_f_Full_least = b} := by
  refine ⟨?b, ?h⟩
  case h => conv => lhs; whnf
def sp_f_Full_least : {b : Scope // defScope s_f_Full_least = b} := by
  refine ⟨?b, ?h⟩
  case h => conv => lhs; whnf
theorem sc_f_Full_least : FnScope ["self", "ticks"] ["self", "ticks"] sp_f_Full_least.1 := ⟨rfl, rfl, rfl, by decide +kernel, rfl, by decide +kernel, by decide +kernel⟩
theorem ok_f_Full_least (T : Txt K mg) : FnOk P w K mg base (L2.CX P w) 3 T.a_f_Full_least T.d_f_Full_least ["self", "ticks"] (spI T.G f_Full_least) := fn_okG (k := 2) (body := b_f_Full_least) rfl rfl sp_f_Full_least.2 bd_f_Full_least.2 T.F_f_Full_least sc_f_Full_least fun cdv A outer s H E hr => by
  have L := layX (P := P) (w := w) (mg := mg) (base := base) (x := "") (qual := "Full.least") (sc := sp_f_Full_least.1) (N := ["self", "ticks"]) (f := T.a_f_Full_least) (cdv := cdv) (A := A) (outer := outer) (s := s) (H := H) (E := E) (show K = T.G.K from rfl)
  have hu := hr.units
  exact (z_one (z_ret (k_call L (ok_f__least_ones T) (hr.mono (by decide)) rfl T.g_f__least_ones T.F_f__least_ones.kp T.b_f__least_ones (a_cons (q_meth0 L (qv 0) (ht_curves T) (hr.mono (by decide))) (a_cons (qv 1) a_nil)))))
def bd_f_Server_least : {b : List Stmt // defBody s_f_Server_least = b} := by
  refine ⟨?b, ?h⟩
  case h => conv => lhs; whnf
def sp_f_Server_least : {b : Scope // defScope s_f_Server_least = b} := by
  refine ⟨?b, ?h⟩
  case h => conv => lhs; whnf
theorem sc_f_Server_least : FnScope ["self", "ticks"] ["self", "ticks"] sp_f_Server_least.1 := ⟨rfl, rfl, rfl, by decide +kernel, rfl, by decide +kernel, by decide +kernel⟩
theorem ok_f_Server_least (T : Txt K mg) : FnOk P w K mg base (L2.CX P w) 3 T.a_f_Server_least T.d_f_Server_least ["self", "ticks"] (spI T.G f_Server_least) := fn_okG (k := 2) (body := b_f_Server_least) rfl rfl sp_f_Server_least.2 bd_f_Server_least.2 T.F_f_Server_least sc_f_Server_least fun cdv A outer s H E hr => by
  have L := layX (P := P) (w := w) (mg := mg) (base := base) (x := "") (qual := "Server.least") (sc := sp_f_Server_least.1) (N := ["self", "ticks"]) (f := T.a_f_Server_least) (cdv := cdv) (A := A) (outer := outer) (s := s) (H := H) (E := E) (show K = T.G.K from rfl)
  have hu := hr.units
  exact (z_one (z_ret (k_call L (ok_f__least_ones T) (hr.mono (by decide)) rfl T.g_f__least_ones T.F_f__least_ones.kp T.b_f__least_ones (a_cons (q_meth0 L (qv 0) (ht_curves T) (hr.mono (by decide))) (a_cons (qv 1) a_nil)))))
def bd_f_Windows_least : {b : List Stmt // defBody s_f_Windows_least = b} := by
  refine ⟨?b, ?h⟩
  case h => conv => lhs; whnf
def sp_f_Windows_least : {b : Scope // defScope s_f_Windows_least = b} := by
  refine ⟨?b, ?h⟩
  case h => conv => lhs; whnf
theorem sc_f_Windows_least : FnScope ["self", "ticks"] ["self", "ticks"] sp_f_Windows_least.1 := ⟨rfl, rfl, rfl, by decide +kernel, rfl, by decide +kernel, by decide +kernel⟩
theorem ok_f_Windows_least (T : Txt K mg) : FnOk P w K mg base (L2.CX P w) 3 T.a_f_Windows_least T.d_f_Windows_least ["self", "ticks"] (spI T.G f_Windows_least) := fn_okG (k := 2) (body := b_f_Windows_least) rfl rfl sp_f_Windows_least.2 bd_f_Windows_least.2 T.F_f_Windows_least sc_f_Windows_least fun cdv A outer s H E hr => by
  have L := layX (P := P) (w := w) (mg := mg) (base := base) (x := "") (qual := "Windows.least") (sc := sp_f_Windows_least.1) (N := ["self", "ticks"]) (f := T.a_f_Windows_least) (cdv := cdv) (A := A) (outer := outer) (s := s) (H := H) (E := E) (show K = T.G.K from rfl)
  have hu := hr.units
  exact (z_one (z_ret (k_call L (ok_f__least_ones T) (hr.mono (by decide)) rfl T.g_f__least_ones T.F_f__least_ones.kp T.b_f__least_ones (a_cons (q_meth0 L (qv 0) (ht_curves T) (hr.mono (by decide))) (a_cons (qv 1) a_nil)))))
def bd_f__law_is_number : {b : List Stmt // defBody s_f__law_is_number = b} := by
  refine ⟨?b, ?h⟩
  case h => conv => lhs; whnf
def sp_f__law_is_number : {b : Scope // defScope s_f__law_is_number = b} := by
  refine ⟨?b, ?h⟩
  case h => conv => lhs; whnf
theorem sc_f__law_is_number : FnScope ["answer", "wanted"] ["answer", "wanted"] sp_f__law_is_number.1 := ⟨rfl, rfl, rfl, by decide +kernel, rfl, by decide +kernel, by decide +kernel⟩
theorem ok_f__law_is_number (T : Txt K mg) : FnOk P w K mg base (L2.CX P w) 1 T.a_f__law_is_number T.d_f__law_is_number ["answer", "wanted"] (spI T.G f__law_is_number) := fn_okG (k := 0) (body := b_f__law_is_number) rfl rfl sp_f__law_is_number.2 bd_f__law_is_number.2 T.F_f__law_is_number sc_f__law_is_number fun cdv A outer s H E hr => by
  have L := layX (P := P) (w := w) (mg := mg) (base := base) (x := "") (qual := "_law_is_number") (sc := sp_f__law_is_number.1) (N := ["answer", "wanted"]) (f := T.a_f__law_is_number) (cdv := cdv) (A := A) (outer := outer) (s := s) (H := H) (E := E) (show K = T.G.K from rfl)
  have hu := hr.units
  exact (z_one (z_ret (q_and (k_isi L (isi_ok T) rfl T.no_isinstance (a_cons (qv 0) (a_cons (q_ty rfl T.no_int (by decide +kernel)) a_nil))) (q_and (q_not (k_isi L (isi_ok T) rfl T.no_isinstance (a_cons (qv 0) (a_cons (q_ty rfl T.no_bool (by decide +kernel)) a_nil)))) (q_one (q_eq L hu (qv 0) (qv 1)))))))
theorem ht_least (T : Txt K mg) : ∀ c m, tb_least c = some m → MetF P w T.G mg base 3 "least" [] c m := by
  intro c m h
  unfold tb_least at h
  split at h
  · rename_i e
    subst e
    cases h
    exact met_of T.cl_Full (by show ¬ ("least" : Str) ∈ ([] : List Str); decide +kernel) T.m_Full_least (ok_f_Full_least T) (by decide) T.b_f_Full_least
  split at h
  · rename_i e
    subst e
    cases h
    exact met_of T.cl_Server (by show ¬ ("least" : Str) ∈ (["budget", "period"] : List Str); decide +kernel) T.m_Server_least (ok_f_Server_least T) (by decide) T.b_f_Server_least
  split at h
  · rename_i e
    subst e
    cases h
    exact met_of T.cl_Windows (by show ¬ ("least" : Str) ∈ (["cells"] : List Str); decide +kernel) T.m_Windows_least (ok_f_Windows_least T) (by decide) T.b_f_Windows_least
  cases h
theorem ht_lets (T : Txt K mg) : ∀ c m, tb_lets c = some m → MetF P w T.G mg base 2 "lets" [] c m := by
  intro c m h
  unfold tb_lets at h
  split at h
  · rename_i e
    subst e
    cases h
    exact met_of T.cl_Full (by show ¬ ("lets" : Str) ∈ ([] : List Str); decide +kernel) T.m_Full_lets (ok_f_Full_lets T) (by decide) T.b_f_Full_lets
  split at h
  · rename_i e
    subst e
    cases h
    exact met_of T.cl_Server (by show ¬ ("lets" : Str) ∈ (["budget", "period"] : List Str); decide +kernel) T.m_Server_lets (ok_f_Server_lets T) (by decide) T.b_f_Server_lets
  split at h
  · rename_i e
    subst e
    cases h
    exact met_of T.cl_Windows (by show ¬ ("lets" : Str) ∈ (["cells"] : List Str); decide +kernel) T.m_Windows_lets (ok_f_Windows_lets T) (by decide) T.b_f_Windows_lets
  cases h
def bd_f__law_is_reached : {b : List Stmt // defBody s_f__law_is_reached = b} := by
  refine ⟨?b, ?h⟩
  case h => conv => lhs; whnf
def sp_f__law_is_reached : {b : Scope // defScope s_f__law_is_reached = b} := by
  refine ⟨?b, ?h⟩
  case h => conv => lhs; whnf
theorem sc_f__law_is_reached : FnScope ["thing", "rows", "fewest", "step", "n", "tight", "row"] ["thing", "rows", "fewest", "step"] sp_f__law_is_reached.1 := ⟨rfl, rfl, rfl, by decide +kernel, rfl, by decide +kernel, by decide +kernel⟩
theorem ok_f__law_is_reached (T : Txt K mg) : FnOk P w K mg base (L2.CX P w) 4 T.a_f__law_is_reached T.d_f__law_is_reached ["thing", "rows", "fewest", "step"] (spI T.G f__law_is_reached) := fn_okG (k := 3) (body := b_f__law_is_reached) rfl rfl sp_f__law_is_reached.2 bd_f__law_is_reached.2 T.F_f__law_is_reached sc_f__law_is_reached fun cdv A outer s H E hr => by
  have L := layX (P := P) (w := w) (mg := mg) (base := base) (x := "") (qual := "_law_is_reached") (sc := sp_f__law_is_reached.1) (N := ["thing", "rows", "fewest", "step", "n", "tight", "row"]) (f := T.a_f__law_is_reached) (cdv := cdv) (A := A) (outer := outer) (s := s) (H := H) (E := E) (show K = T.G.K from rfl)
  have hu := hr.units
  exact (z_cons (z_for (passes_of rfl) rfl (w_range1 rfl T.no_range (a_cons (k_len L rfl T.no_len (a_cons (qv 2) a_nil)) a_nil)) (g_name sc_f__law_is_reached.nd rfl (Or.inr rfl))
    (z_cons (z_if (qt_not (qt_tru L (k_call L (ok_f__law_is_number T) (hr.mono (by decide)) rfl T.g_f__law_is_number T.F_f__law_is_number.kp T.b_f__law_is_number (a_cons (q_meth L (qv 0) (ht_least T) (hr.mono (by decide)) (a_cons (qv 4) a_nil)) (a_cons (q_ix L (qv 2) (qv 4)) a_nil)))))
    (z_one (z_ret q_bl))
    z_nil)
    (z_one (z_if (PW.pt (w_or (qt_eq L hu (q_mod (k_int rfl T.no_int (a_cons (qv 4) a_nil)) (qv 3)) q_int) (w_or1 (qt_eq L hu (q_add false L (qv 4) q_int) (k_len L rfl T.no_len (a_cons (qv 2) a_nil))))))
    (z_cons (z_setLcA false [("row", 6)] rfl rfl sc_f__law_is_reached.nd rfl rfl (sw_true rfl rfl rfl rfl) (w_anyA L (qv 1)) (blkOk_by (by show blkC ["thing", "rows", "fewest", "step", "n", "tight", "row"] sp_f__law_is_reached.1 _ [("row", 6)] = true; decide +kernel)) (fun _ _ _ _ _ => (h_name sc_f__law_is_reached.nd rfl (Or.inl rfl))) (fun _ _ _ _ _ => (ts_one (qt_eq (Lay.none rfl) hu (k_count (Lay.none rfl) (q_sl false (Lay.none rfl) (qv 6) o_none (o_some (qv 4))) (a_cons (q_str [49] (by decide +kernel)) a_nil)) (q_ix (Lay.none rfl) (qv 2) (qv 4))))) (fun _ _ _ _ _ => (q_sl false (Lay.none rfl) (qv 6) o_none (o_some (qv 4)))))
    (z_one (z_if (PW.pt (w_or (qt_isNot (q_meth L (qv 0) (ht_lets T) (hr.mono (by decide)) (a_cons (q_ix L (qv 5) q_int) a_nil)) q_bl) (w_or1 (qt_isNot (q_meth L (qv 0) (ht_lets T) (hr.mono (by decide)) (a_cons (q_ix L (qv 5) (q_neg q_int)) a_nil)) q_bl))))
    (z_one (z_ret q_bl))
    z_nil)))
    z_nil))))
    (z_one (z_ret q_bl)))
def bd_f__law_keeps : {b : List Stmt // defBody s_f__law_keeps = b} := by
  refine ⟨?b, ?h⟩
  case h => conv => lhs; whnf
def sp_f__law_keeps : {b : Scope // defScope s_f__law_keeps = b} := by
  refine ⟨?b, ?h⟩
  case h => conv => lhs; whnf
theorem sc_f__law_keeps : FnScope ["box", "thing", "bits", "fewest", "count", "n", "turn", "start", "stop", "part"] ["box", "thing", "bits", "fewest"] sp_f__law_keeps.1 := ⟨rfl, rfl, rfl, by decide +kernel, rfl, by decide +kernel, by decide +kernel⟩
theorem ok_f__law_keeps (T : Txt K mg) : FnOk P w K mg base (L2.CX P w) 4 T.a_f__law_keeps T.d_f__law_keeps ["box", "thing", "bits", "fewest"] (spI T.G f__law_keeps) := fn_okG (k := 3) (body := b_f__law_keeps) rfl rfl sp_f__law_keeps.2 bd_f__law_keeps.2 T.F_f__law_keeps sc_f__law_keeps fun cdv A outer s H E hr => by
  have L := layX (P := P) (w := w) (mg := mg) (base := base) (x := "") (qual := "_law_keeps") (sc := sp_f__law_keeps.1) (N := ["box", "thing", "bits", "fewest", "count", "n", "turn", "start", "stop", "part"]) (f := T.a_f__law_keeps) (cdv := cdv) (A := A) (outer := outer) (s := s) (H := H) (E := E) (show K = T.G.K from rfl)
  have hu := hr.units
  exact (z_cons (z_if (qt_isNot (q_meth L (qv 1) (ht_lets T) (hr.mono (by decide)) (a_cons (qv 2) a_nil)) q_bl)
    (z_one (z_ret q_bl))
    z_nil)
    (z_cons (z_set sc_f__law_keeps.nd rfl (Or.inl rfl) q_int)
    (z_cons (z_for (passes_of rfl) rfl (w_range1 rfl T.no_range (a_cons (k_len L rfl T.no_len (a_cons (qv 2) a_nil)) a_nil)) (g_name sc_f__law_keeps.nd rfl (Or.inl rfl))
    (z_cons (z_if (qt_lt (qv 4) (q_ix L (qv 3) (qv 5)))
    (z_one (z_ret q_bl))
    z_nil)
    (z_one (z_set sc_f__law_keeps.nd rfl (Or.inl rfl) (q_add false L (qv 4) (k_int rfl T.no_int (a_cons (q_eq L hu (q_ix L (qv 2) (qv 5)) (q_str [49] (by decide +kernel))) a_nil)))))))
    (z_cons (z_if (qt_lt (qv 4) (q_ix L (qv 3) (k_len L rfl T.no_len (a_cons (qv 2) a_nil))))
    (z_one (z_ret q_bl))
    z_nil)
    (z_cons (z_for (passes_of rfl) rfl (w_range1 rfl T.no_range (a_cons q_int a_nil)) (g_name sc_f__law_keeps.nd rfl (Or.inl rfl))
    (z_cons (z_set sc_f__law_keeps.nd rfl (Or.inl rfl) (k_call L (ok_f__law_draw T) (hr.mono (by decide)) rfl T.g_f__law_draw T.F_f__law_draw.kp T.b_f__law_draw (a_cons (qv 0) (a_cons (q_add false L (k_len L rfl T.no_len (a_cons (qv 2) a_nil)) q_int) a_nil))))
    (z_cons (z_set sc_f__law_keeps.nd rfl (Or.inl rfl) (q_add false L (qv 7) (k_call L (ok_f__law_draw T) (hr.mono (by decide)) rfl T.g_f__law_draw T.F_f__law_draw.kp T.b_f__law_draw (a_cons (qv 0) (a_cons (q_add false L (q_sub (k_len L rfl T.no_len (a_cons (qv 2) a_nil)) (qv 7)) q_int) a_nil)))))
    (z_cons (z_set sc_f__law_keeps.nd rfl (Or.inl rfl) (q_sl false L (qv 2) (o_some (qv 7)) (o_some (qv 8))))
    (z_cons (z_if (PW.pt (w_or (qt_isNot (q_meth L (qv 1) (ht_lets T) (hr.mono (by decide)) (a_cons (qv 9) a_nil)) q_bl) (w_or1 (qt_lt (k_count L (qv 9) (a_cons (q_str [49] (by decide +kernel)) a_nil)) (q_ix L (qv 3) (k_len L rfl T.no_len (a_cons (qv 9) a_nil)))))))
    (z_one (z_ret q_bl))
    z_nil)
    (z_one (z_if (qt_not (qt_tru L (k_call L (ok_f__law_is_number T) (hr.mono (by decide)) rfl T.g_f__law_is_number T.F_f__law_is_number.kp T.b_f__law_is_number (a_cons (q_meth L (qv 1) (ht_least T) (hr.mono (by decide)) (a_cons (k_len L rfl T.no_len (a_cons (qv 9) a_nil)) a_nil)) (a_cons (q_ix L (qv 3) (k_len L rfl T.no_len (a_cons (qv 9) a_nil))) a_nil)))))
    (z_one (z_ret q_bl))
    z_nil)))))))
    (z_one (z_ret q_bl)))))))
def bd_f_Server___init__ : {b : List Stmt // defBody s_f_Server___init__ = b} := by
  refine ⟨?b, ?h⟩
  case h => conv => lhs; whnf
def sp_f_Server___init__ : {b : Scope // defScope s_f_Server___init__ = b} := by
  refine ⟨?b, ?h⟩
  case h => conv => lhs; whnf
theorem sc_f_Server___init__ : FnScope ["self", "budget", "period"] ["self", "budget", "period"] sp_f_Server___init__.1 := ⟨rfl, rfl, rfl, by decide +kernel, rfl, by decide +kernel, by decide +kernel⟩
theorem ok_f_Server___init__ (T : Txt K mg) : FnOk P w K mg base (L2.CX P w) 1 T.a_f_Server___init__ T.d_f_Server___init__ ["self", "budget", "period"] (spI T.G f_Server___init__) := fn_okG (k := 0) (body := b_f_Server___init__) rfl rfl sp_f_Server___init__.2 bd_f_Server___init__.2 T.F_f_Server___init__ sc_f_Server___init__ fun cdv A outer s H E hr => by
  have L := layX (P := P) (w := w) (mg := mg) (base := base) (x := "") (qual := "Server.__init__") (sc := sp_f_Server___init__.1) (N := ["self", "budget", "period"]) (f := T.a_f_Server___init__) (cdv := cdv) (A := A) (outer := outer) (s := s) (H := H) (E := E) (show K = T.G.K from rfl)
  have hu := hr.units
  exact (z_cons (z_if (qt_not (qt_chain3 op_le op_le op_le q_int (qv 1) (qv 2) (q_gint rfl T.gi_MOST_PERIOD)))
    (z_one z_bad)
    z_nil)
    (z_cons (z_fld L (qv 0) (qv 1) (hy_budget T))
    (z_one (z_fld L (qv 0) (qv 2) (hy_period T)))))
def bd_f_Windows___init__ : {b : List Stmt // defBody s_f_Windows___init__ = b} := by
  refine ⟨?b, ?h⟩
  case h => conv => lhs; whnf
def sp_f_Windows___init__ : {b : Scope // defScope s_f_Windows___init__ = b} := by
  refine ⟨?b, ?h⟩
  case h => conv => lhs; whnf
theorem sc_f_Windows___init__ : FnScope ["self", "cells"] ["self", "cells"] sp_f_Windows___init__.1 := ⟨rfl, rfl, rfl, by decide +kernel, rfl, by decide +kernel, by decide +kernel⟩
theorem ok_f_Windows___init__ (T : Txt K mg) : FnOk P w K mg base (L2.CX P w) 2 T.a_f_Windows___init__ T.d_f_Windows___init__ ["self", "cells"] (spI T.G f_Windows___init__) := fn_okG (k := 1) (body := b_f_Windows___init__) rfl rfl sp_f_Windows___init__.2 bd_f_Windows___init__.2 T.F_f_Windows___init__ sc_f_Windows___init__ fun cdv A outer s H E hr => by
  have L := layX (P := P) (w := w) (mg := mg) (base := base) (x := "") (qual := "Windows.__init__") (sc := sp_f_Windows___init__.1) (N := ["self", "cells"]) (f := T.a_f_Windows___init__) (cdv := cdv) (A := A) (outer := outer) (s := s) (H := H) (E := E) (show K = T.G.K from rfl)
  have hu := hr.units
  exact (z_cons (z_if (PW.pt (w_or (qt_not (qt_chain op_le op_le q_int (k_len L rfl T.no_len (a_cons (qv 1) a_nil)) (q_gint rfl T.gi_MOST_CELLS))) (w_or (qt_not (qt_tru L (k_call L (ok_f__are_bits T) (hr.mono (by decide)) rfl T.g_f__are_bits T.F_f__are_bits.kp T.b_f__are_bits (a_cons (qv 1) a_nil)))) (w_or1 (qt_notIn L (q_str [49] (by decide +kernel)) (qv 1))))))
    (z_one z_bad)
    z_nil)
    (z_one (z_fld L (qv 0) (qv 1) (hy_cells T))))
def bd_f__law_made : {b : List Stmt // defBody s_f__law_made = b} := by
  refine ⟨?b, ?h⟩
  case h => conv => lhs; whnf
def sp_f__law_made : {b : Scope // defScope s_f__law_made = b} := by
  refine ⟨?b, ?h⟩
  case h => conv => lhs; whnf
theorem sc_f__law_made : FnScope ["kind"] ["kind"] sp_f__law_made.1 := ⟨rfl, rfl, rfl, by decide +kernel, rfl, by decide +kernel, by decide +kernel⟩
theorem ok_f__law_made (T : Txt K mg) : FnOk P w K mg base (L2.CX P w) 4 T.a_f__law_made T.d_f__law_made ["kind"] (spI T.G f__law_made) := fn_okG (k := 3) (body := b_f__law_made) rfl rfl sp_f__law_made.2 bd_f__law_made.2 T.F_f__law_made sc_f__law_made fun cdv A outer s H E hr => by
  have L := layX (P := P) (w := w) (mg := mg) (base := base) (x := "") (qual := "_law_made") (sc := sp_f__law_made.1) (N := ["kind"]) (f := T.a_f__law_made) (cdv := cdv) (A := A) (outer := outer) (s := s) (H := H) (E := E) (show K = T.G.K from rfl)
  have hu := hr.units
  exact (z_cons (z_if (qt_eq L hu (q_ix L (qv 0) q_int) (q_str [115, 101, 114, 118, 101, 114] (by decide +kernel)))
    (z_one (z_ret (k_new true L T.mk_Server (ok_f_Server___init__ T) (hr.mono (by decide)) rfl T.mgc_Server T.b_f_Server___init__ rfl (a_cons (q_ix L (qv 0) q_int) (a_cons (q_ix L (qv 0) q_int) a_nil)))))
    z_nil)
    (z_cons (z_if (qt_eq L hu (q_ix L (qv 0) q_int) (q_str [119, 105, 110, 100, 111, 119, 115] (by decide +kernel)))
    (z_one (z_ret (k_new true L T.mk_Windows (ok_f_Windows___init__ T) (hr.mono (by decide)) rfl T.mgc_Windows T.b_f_Windows___init__ rfl (a_cons (q_ix L (qv 0) q_int) a_nil))))
    z_nil)
    (z_one (z_ret (q_new0 L T.mk_Full rfl T.mgc_Full rfl)))))
def bd_f__law_bits : {b : List Stmt // defBody s_f__law_bits = b} := by
  refine ⟨?b, ?h⟩
  case h => conv => lhs; whnf
def sp_f__law_bits : {b : Scope // defScope s_f__law_bits = b} := by
  refine ⟨?b, ?h⟩
  case h => conv => lhs; whnf
theorem sc_f__law_bits : FnScope ["box", "size", "row", "turn", "part", "k"] ["box", "size"] sp_f__law_bits.1 := ⟨rfl, rfl, rfl, by decide +kernel, rfl, by decide +kernel, by decide +kernel⟩
theorem ok_f__law_bits (T : Txt K mg) : FnOk P w K mg base (L2.CX P w) 2 T.a_f__law_bits T.d_f__law_bits ["box", "size"] (spI T.G f__law_bits) := fn_okG (k := 1) (body := b_f__law_bits) rfl rfl sp_f__law_bits.2 bd_f__law_bits.2 T.F_f__law_bits sc_f__law_bits fun cdv A outer s H E hr => by
  have L := layX (P := P) (w := w) (mg := mg) (base := base) (x := "") (qual := "_law_bits") (sc := sp_f__law_bits.1) (N := ["box", "size", "row", "turn", "part", "k"]) (f := T.a_f__law_bits) (cdv := cdv) (A := A) (outer := outer) (s := s) (H := H) (E := E) (show K = T.G.K from rfl)
  have hu := hr.units
  exact (z_cons (z_set sc_f__law_bits.nd rfl (Or.inl rfl) (q_str [] (by decide +kernel)))
    (z_cons (z_for (passes_of rfl) rfl (w_range1 rfl T.no_range (a_cons (q_div (q_add false L (qv 1) q_int) q_int) a_nil)) (g_name sc_f__law_bits.nd rfl (Or.inl rfl))
    (z_cons (z_set sc_f__law_bits.nd rfl (Or.inl rfl) (k_call L (ok_f__law_draw T) (hr.mono (by decide)) rfl T.g_f__law_draw T.F_f__law_draw.kp T.b_f__law_draw (a_cons (qv 0) (a_cons q_int a_nil))))
    (z_one (z_for (passes_of rfl) rfl (w_range1 rfl T.no_range (a_cons q_int a_nil)) (g_name sc_f__law_bits.nd rfl (Or.inl rfl))
    (z_cons (z_set sc_f__law_bits.nd rfl (Or.inl rfl) (q_add false L (qv 2) (q_ix L (q_str [48, 49] (by decide +kernel)) (q_mod (k_int rfl T.no_int (a_cons (qv 4) a_nil)) q_int))))
    (z_one (z_set sc_f__law_bits.nd rfl (Or.inl rfl) (q_div (qv 4) q_int))))))))
    (z_one (z_ret (q_sl false L (qv 2) o_none (o_some (qv 1)))))))
def bd_f__law_period : {b : List Stmt // defBody s_f__law_period = b} := by
  refine ⟨?b, ?h⟩
  case h => conv => lhs; whnf
def sp_f__law_period : {b : Scope // defScope s_f__law_period = b} := by
  refine ⟨?b, ?h⟩
  case h => conv => lhs; whnf
theorem sc_f__law_period : FnScope ["raw", "low", "start", "exact", "row", "count", "k", "spot"] ["raw", "low", "start", "exact"] sp_f__law_period.1 := ⟨rfl, rfl, rfl, by decide +kernel, rfl, by decide +kernel, by decide +kernel⟩
theorem ok_f__law_period (T : Txt K mg) : FnOk P w K mg base (L2.CX P w) 1 T.a_f__law_period T.d_f__law_period ["raw", "low", "start", "exact"] (spI T.G f__law_period) := fn_okG (k := 0) (body := b_f__law_period) rfl rfl sp_f__law_period.2 bd_f__law_period.2 T.F_f__law_period sc_f__law_period fun cdv A outer s H E hr => by
  have L := layX (P := P) (w := w) (mg := mg) (base := base) (x := "") (qual := "_law_period") (sc := sp_f__law_period.1) (N := ["raw", "low", "start", "exact", "row", "count", "k", "spot"]) (f := T.a_f__law_period) (cdv := cdv) (A := A) (outer := outer) (s := s) (H := H) (E := E) (show K = T.G.K from rfl)
  have hu := hr.units
  exact (z_cons (z_set sc_f__law_period.nd rfl (Or.inl rfl) (k_list true L rfl rfl T.no_list (a_cons (qv 0) a_nil)))
    (z_cons (z_set sc_f__law_period.nd rfl (Or.inl rfl) (k_count L (qv 0) (a_cons (q_str [49] (by decide +kernel)) a_nil)))
    (z_cons (z_for (passes_of rfl) rfl (w_range1 rfl T.no_range (a_cons (k_len L rfl T.no_len (a_cons (qv 4) a_nil)) a_nil)) (g_name sc_f__law_period.nd rfl (Or.inl rfl))
    (z_cons (z_set sc_f__law_period.nd rfl (Or.inl rfl) (q_mod (k_int rfl T.no_int (a_cons (q_add false L (qv 2) (qv 6)) a_nil)) (k_len L rfl T.no_len (a_cons (qv 4) a_nil))))
    (z_one (z_if (PW.pt (w_and (qt_lt (qv 5) (qv 1)) (w_and1 (qt_eq L hu (q_ix L (qv 4) (qv 7)) (q_str [48] (by decide +kernel))))))
    (z_cons (k_setIx (q_str [49] (by decide +kernel)) (qv 4) (qv 7))
    (z_one (z_set sc_f__law_period.nd rfl (Or.inl rfl) (q_add false L (qv 5) q_int))))
    (z_one (z_if (PW.pt (w_and (qt_tru L (qv 3)) (w_and (qt_gt (qv 5) (qv 1)) (w_and1 (qt_eq L hu (q_ix L (qv 4) (qv 7)) (q_str [49] (by decide +kernel)))))))
    (z_cons (k_setIx (q_str [48] (by decide +kernel)) (qv 4) (qv 7))
    (z_one (z_set sc_f__law_period.nd rfl (Or.inl rfl) (q_sub (qv 5) q_int))))
    z_nil))))))
    (z_one (z_ret (k_join L (q_str [] (by decide +kernel)) (a_cons (qv 4) a_nil)))))))
def bd_f__law_size : {b : List Stmt // defBody s_f__law_size = b} := by
  refine ⟨?b, ?h⟩
  case h => conv => lhs; whnf
def sp_f__law_size : {b : Scope // defScope s_f__law_size = b} := by
  refine ⟨?b, ?h⟩
  case h => conv => lhs; whnf
theorem sc_f__law_size : FnScope ["kind"] ["kind"] sp_f__law_size.1 := ⟨rfl, rfl, rfl, by decide +kernel, rfl, by decide +kernel, by decide +kernel⟩
theorem ok_f__law_size (T : Txt K mg) : FnOk P w K mg base (L2.CX P w) 1 T.a_f__law_size T.d_f__law_size ["kind"] (spI T.G f__law_size) := fn_okG (k := 0) (body := b_f__law_size) rfl rfl sp_f__law_size.2 bd_f__law_size.2 T.F_f__law_size sc_f__law_size fun cdv A outer s H E hr => by
  have L := layX (P := P) (w := w) (mg := mg) (base := base) (x := "") (qual := "_law_size") (sc := sp_f__law_size.1) (N := ["kind"]) (f := T.a_f__law_size) (cdv := cdv) (A := A) (outer := outer) (s := s) (H := H) (E := E) (show K = T.G.K from rfl)
  have hu := hr.units
  exact (z_cons (z_if (qt_eq L hu (q_ix L (qv 0) q_int) (q_str [115, 101, 114, 118, 101, 114] (by decide +kernel)))
    (z_one (z_ret (q_ix L (qv 0) q_int)))
    z_nil)
    (z_cons (z_if (qt_eq L hu (q_ix L (qv 0) q_int) (q_str [119, 105, 110, 100, 111, 119, 115] (by decide +kernel)))
    (z_one (z_ret (k_len L rfl T.no_len (a_cons (q_ix L (qv 0) q_int) a_nil))))
    z_nil)
    (z_one (z_ret q_int))))
def bd_f__law_promised : {b : List Stmt // defBody s_f__law_promised = b} := by
  refine ⟨?b, ?h⟩
  case h => conv => lhs; whnf
def sp_f__law_promised : {b : Scope // defScope s_f__law_promised = b} := by
  refine ⟨?b, ?h⟩
  case h => conv => lhs; whnf
theorem sc_f__law_promised : FnScope ["box", "kind", "length", "size", "turns", "begin", "way", "raw", "start", "row", "k"] ["box", "kind", "length"] sp_f__law_promised.1 := ⟨rfl, rfl, rfl, by decide +kernel, rfl, by decide +kernel, by decide +kernel⟩
theorem ok_f__law_promised (T : Txt K mg) : FnOk P w K mg base (L2.CX P w) 3 T.a_f__law_promised T.d_f__law_promised ["box", "kind", "length"] (spI T.G f__law_promised) := fn_okG (k := 2) (body := b_f__law_promised) rfl rfl sp_f__law_promised.2 bd_f__law_promised.2 T.F_f__law_promised sc_f__law_promised fun cdv A outer s H E hr => by
  have L := layX (P := P) (w := w) (mg := mg) (base := base) (x := "") (qual := "_law_promised") (sc := sp_f__law_promised.1) (N := ["box", "kind", "length", "size", "turns", "begin", "way", "raw", "start", "row", "k"]) (f := T.a_f__law_promised) (cdv := cdv) (A := A) (outer := outer) (s := s) (H := H) (E := E) (show K = T.G.K from rfl)
  have hu := hr.units
  exact (z_cons (z_set sc_f__law_promised.nd rfl (Or.inl rfl) (k_call L (ok_f__law_size T) (hr.mono (by decide)) rfl T.g_f__law_size T.F_f__law_size.kp T.b_f__law_size (a_cons (qv 1) a_nil)))
    (z_cons (z_set sc_f__law_promised.nd rfl (Or.inl rfl) (q_add false L (q_div (qv 2) (qv 3)) q_int))
    (z_cons (z_set sc_f__law_promised.nd rfl (Or.inl rfl) (k_call L (ok_f__law_draw T) (hr.mono (by decide)) rfl T.g_f__law_draw T.F_f__law_draw.kp T.b_f__law_draw (a_cons (qv 0) (a_cons (qv 3) a_nil))))
    (z_cons (z_if (qt_eq L hu (q_ix L (qv 1) q_int) (q_str [102, 117, 108, 108] (by decide +kernel)))
    (z_one (z_ret (q_mul false L (q_str [49] (by decide +kernel)) (qv 2))))
    z_nil)
    (z_cons (z_if (qt_eq L hu (q_ix L (qv 1) q_int) (q_str [119, 105, 110, 100, 111, 119, 115] (by decide +kernel)))
    (z_one (z_ret (q_sl false L (q_mul false L (q_ix L (qv 1) q_int) (qv 4)) (o_some (qv 5)) (o_some (q_add false L (qv 5) (qv 2))))))
    z_nil)
    (z_cons (z_set sc_f__law_promised.nd rfl (Or.inl rfl) (k_call L (ok_f__law_draw T) (hr.mono (by decide)) rfl T.g_f__law_draw T.F_f__law_draw.kp T.b_f__law_draw (a_cons (qv 0) (a_cons q_int a_nil))))
    (z_cons (z_if (qt_eq L hu (qv 6) q_int)
    (z_one (z_ret (q_sl false L (q_mul false L (q_add false L (q_mul false L (q_str [49] (by decide +kernel)) (q_ix L (qv 1) q_int)) (q_mul false L (q_str [48] (by decide +kernel)) (q_sub (qv 3) (q_ix L (qv 1) q_int)))) (qv 4)) (o_some (qv 5)) (o_some (q_add false L (qv 5) (qv 2))))))
    z_nil)
    (z_cons (z_if (qt_eq L hu (qv 6) q_int)
    (z_one (z_ret (q_sl false L (q_mul false L (q_add false L (q_mul false L (q_str [48] (by decide +kernel)) (q_sub (qv 3) (q_ix L (qv 1) q_int))) (q_mul false L (q_str [49] (by decide +kernel)) (q_ix L (qv 1) q_int))) (qv 4)) (o_some (qv 5)) (o_some (q_add false L (qv 5) (qv 2))))))
    z_nil)
    (z_cons (z_set sc_f__law_promised.nd rfl (Or.inl rfl) (k_call L (ok_f__law_bits T) (hr.mono (by decide)) rfl T.g_f__law_bits T.F_f__law_bits.kp T.b_f__law_bits (a_cons (qv 0) (a_cons (q_mul false L (qv 4) (qv 3)) a_nil))))
    (z_cons (z_set sc_f__law_promised.nd rfl (Or.inl rfl) (k_call L (ok_f__law_draw T) (hr.mono (by decide)) rfl T.g_f__law_draw T.F_f__law_draw.kp T.b_f__law_draw (a_cons (qv 0) (a_cons (qv 3) a_nil))))
    (z_cons (z_set sc_f__law_promised.nd rfl (Or.inl rfl) (q_str [] (by decide +kernel)))
    (z_cons (z_for (passes_of rfl) rfl (w_range1 rfl T.no_range (a_cons (qv 4) a_nil)) (g_name sc_f__law_promised.nd rfl (Or.inl rfl))
    (z_one (z_set sc_f__law_promised.nd rfl (Or.inl rfl) (q_add false L (qv 9) (k_call L (ok_f__law_period T) (hr.mono (by decide)) rfl T.g_f__law_period T.F_f__law_period.kp T.b_f__law_period (a_cons (q_sl false L (qv 7) (o_some (q_mul false L (qv 10) (qv 3))) (o_some (q_add false L (q_mul false L (qv 10) (qv 3)) (qv 3)))) (a_cons (q_ix L (qv 1) q_int) (a_cons (q_add false L (qv 8) (q_mul false L q_int (qv 10))) (a_cons (q_gt (qv 6) q_int) a_nil)))))))))
    (z_one (z_ret (q_sl false L (qv 9) (o_some (qv 5)) (o_some (q_add false L (qv 5) (qv 2))))))))))))))))))
def bd_f__law_refuses_fewer : {b : List Stmt // defBody s_f__law_refuses_fewer = b} := by
  refine ⟨?b, ?h⟩
  case h => conv => lhs; whnf
def sp_f__law_refuses_fewer : {b : Scope // defScope s_f__law_refuses_fewer = b} := by
  refine ⟨?b, ?h⟩
  case h => conv => lhs; whnf
theorem sc_f__law_refuses_fewer : FnScope ["box", "thing", "rows", "fewest", "length", "turn", "n", "raw", "more", "ahead", "spots", "spot", "near", "bits", "k", "row"] ["box", "thing", "rows", "fewest"] sp_f__law_refuses_fewer.1 := ⟨rfl, rfl, rfl, by decide +kernel, rfl, by decide +kernel, by decide +kernel⟩
theorem ok_f__law_refuses_fewer (T : Txt K mg) : FnOk P w K mg base (L2.CX P w) 3 T.a_f__law_refuses_fewer T.d_f__law_refuses_fewer ["box", "thing", "rows", "fewest"] (spI T.G f__law_refuses_fewer) := fn_okG (k := 2) (body := b_f__law_refuses_fewer) rfl rfl sp_f__law_refuses_fewer.2 bd_f__law_refuses_fewer.2 T.F_f__law_refuses_fewer sc_f__law_refuses_fewer fun cdv A outer s H E hr => by
  have L := layX (P := P) (w := w) (mg := mg) (base := base) (x := "") (qual := "_law_refuses_fewer") (sc := sp_f__law_refuses_fewer.1) (N := ["box", "thing", "rows", "fewest", "length", "turn", "n", "raw", "more", "ahead", "spots", "spot", "near", "bits", "k", "row"]) (f := T.a_f__law_refuses_fewer) (cdv := cdv) (A := A) (outer := outer) (s := s) (H := H) (E := E) (show K = T.G.K from rfl)
  have hu := hr.units
  exact (z_cons (z_set sc_f__law_refuses_fewer.nd rfl (Or.inl rfl) (q_sub (k_len L rfl T.no_len (a_cons (qv 3) a_nil)) q_int))
    (z_cons (z_for (passes_of rfl) rfl (w_range1 rfl T.no_range (a_cons q_int a_nil)) (g_name sc_f__law_refuses_fewer.nd rfl (Or.inl rfl))
    (z_cons (z_set sc_f__law_refuses_fewer.nd rfl (Or.inr rfl) (k_call L (ok_f__law_draw T) (hr.mono (by decide)) rfl T.g_f__law_draw T.F_f__law_draw.kp T.b_f__law_draw (a_cons (qv 0) (a_cons (q_add false L (qv 4) q_int) a_nil))))
    (z_cons (z_if (qt_eq L hu (q_ix L (qv 3) (qv 6)) q_int)
    (z_one (z_set sc_f__law_refuses_fewer.nd rfl (Or.inr rfl) (qv 4)))
    z_nil)
    (z_one (z_if (qt_gt (q_ix L (qv 3) (qv 6)) q_int)
    (z_cons (z_set sc_f__law_refuses_fewer.nd rfl (Or.inl rfl) (k_call L (ok_f__law_period T) (hr.mono (by decide)) rfl T.g_f__law_period T.F_f__law_period.kp T.b_f__law_period (a_cons (k_call L (ok_f__law_bits T) (hr.mono (by decide)) rfl T.g_f__law_bits T.F_f__law_bits.kp T.b_f__law_bits (a_cons (qv 0) (a_cons (qv 6) a_nil))) (a_cons (q_sub (q_ix L (qv 3) (qv 6)) q_int) (a_cons (k_call L (ok_f__law_draw T) (hr.mono (by decide)) rfl T.g_f__law_draw T.F_f__law_draw.kp T.b_f__law_draw (a_cons (qv 0) (a_cons (qv 6) a_nil))) (a_cons q_bl a_nil))))))
    (z_cons (z_set sc_f__law_refuses_fewer.nd rfl (Or.inl rfl) (q_mul false L (q_str [49] (by decide +kernel)) (k_call L (ok_f__law_draw T) (hr.mono (by decide)) rfl T.g_f__law_draw T.F_f__law_draw.kp T.b_f__law_draw (a_cons (qv 0) (a_cons q_int a_nil)))))
    (z_cons (z_set sc_f__law_refuses_fewer.nd rfl (Or.inr rfl) (q_ix L (q_lcA false [("row", 15)] rfl rfl sc_f__law_refuses_fewer.nd (w_anyA L (qv 2)) (blkOk_by (by show blkC ["box", "thing", "rows", "fewest", "length", "turn", "n", "raw", "more", "ahead", "spots", "spot", "near", "bits", "k", "row"] sp_f__law_refuses_fewer.1 _ [("row", 15)] = true; decide +kernel)) (fun _ _ _ _ _ => (h_name sc_f__law_refuses_fewer.nd rfl (Or.inl rfl))) (fun _ _ _ _ _ => (ts_one (qt_eq (Lay.none rfl) hu (k_count (Lay.none rfl) (q_sl false (Lay.none rfl) (qv 15) o_none (o_some (qv 6))) (a_cons (q_str [49] (by decide +kernel)) a_nil)) (q_ix (Lay.none rfl) (qv 3) (qv 6))))) (fun _ _ _ _ _ => (q_sl false (Lay.none rfl) (qv 15) o_none (o_some (qv 6))))) q_int))
    (z_cons (z_setLc false [("k", 14)] rfl rfl sc_f__law_refuses_fewer.nd rfl rfl (sw_true rfl rfl rfl rfl) (w_range1 rfl T.no_range (a_cons (qv 6) a_nil)) (blkOk_by (by show blkC ["box", "thing", "rows", "fewest", "length", "turn", "n", "raw", "more", "ahead", "spots", "spot", "near", "bits", "k", "row"] sp_f__law_refuses_fewer.1 _ [("k", 14)] = true; decide +kernel)) (fun _ _ _ _ _ => (h_name sc_f__law_refuses_fewer.nd rfl (Or.inl rfl))) (fun _ _ _ _ _ => (ts_one (qt_eq (Lay.none rfl) hu (q_ix (Lay.none rfl) (qv 9) (qv 14)) (q_str [49] (by decide +kernel))))) (fun _ _ _ _ _ => (qv 14)))
    (z_cons (z_set sc_f__law_refuses_fewer.nd rfl (Or.inl rfl) (q_ix L (qv 10) (k_call L (ok_f__law_draw T) (hr.mono (by decide)) rfl T.g_f__law_draw T.F_f__law_draw.kp T.b_f__law_draw (a_cons (qv 0) (a_cons (k_len L rfl T.no_len (a_cons (qv 10) a_nil)) a_nil)))))
    (z_cons (z_set sc_f__law_refuses_fewer.nd rfl (Or.inl rfl) (q_add false L (q_add false L (q_sl false L (qv 9) o_none (o_some (qv 11))) (q_str [48] (by decide +kernel))) (q_sl false L (qv 9) (o_some (q_add false L (qv 11) q_int)) o_none)))
    (z_one (z_forA (passes_of rfl) rfl (w_anyA L (q_lst false (a_cons (qv 7) (a_cons (q_add false L (qv 7) (qv 8)) (a_cons (qv 12) (a_cons (q_add false L (qv 12) (qv 8)) a_nil)))))) (g_name sc_f__law_refuses_fewer.nd rfl (Or.inl rfl))
    (z_one (z_if (qt_isNot (q_meth L (qv 1) (ht_lets T) (hr.mono (by decide)) (a_cons (qv 13) a_nil)) q_bl)
    (z_one (z_ret q_bl))
    z_nil))))))))))
    z_nil)))))
    (z_one (z_ret q_bl))))
def bd_f__law_server : {b : List Stmt // defBody s_f__law_server = b} := by
  refine ⟨?b, ?h⟩
  case h => conv => lhs; whnf
def sp_f__law_server : {b : Scope // defScope s_f__law_server = b} := by
  refine ⟨?b, ?h⟩
  case h => conv => lhs; whnf
theorem sc_f__law_server : FnScope ["box", "size", "low"] ["box"] sp_f__law_server.1 := ⟨rfl, rfl, rfl, by decide +kernel, rfl, by decide +kernel, by decide +kernel⟩
theorem ok_f__law_server (T : Txt K mg) : FnOk P w K mg base (L2.CX P w) 2 T.a_f__law_server T.d_f__law_server ["box"] (spI T.G f__law_server) := fn_okG (k := 1) (body := b_f__law_server) rfl rfl sp_f__law_server.2 bd_f__law_server.2 T.F_f__law_server sc_f__law_server fun cdv A outer s H E hr => by
  have L := layX (P := P) (w := w) (mg := mg) (base := base) (x := "") (qual := "_law_server") (sc := sp_f__law_server.1) (N := ["box", "size", "low"]) (f := T.a_f__law_server) (cdv := cdv) (A := A) (outer := outer) (s := s) (H := H) (E := E) (show K = T.G.K from rfl)
  have hu := hr.units
  exact (z_cons (z_set sc_f__law_server.nd rfl (Or.inl rfl) (q_add false L q_int (k_call L (ok_f__law_draw T) (hr.mono (by decide)) rfl T.g_f__law_draw T.F_f__law_draw.kp T.b_f__law_draw (a_cons (qv 0) (a_cons q_int a_nil)))))
    (z_cons (z_if (qt_eq L hu (k_call L (ok_f__law_draw T) (hr.mono (by decide)) rfl T.g_f__law_draw T.F_f__law_draw.kp T.b_f__law_draw (a_cons (qv 0) (a_cons q_int a_nil))) q_int)
    (z_one (z_set sc_f__law_server.nd rfl (Or.inl rfl) (q_add false L q_int (k_call L (ok_f__law_draw T) (hr.mono (by decide)) rfl T.g_f__law_draw T.F_f__law_draw.kp T.b_f__law_draw (a_cons (qv 0) (a_cons q_int a_nil))))))
    z_nil)
    (z_cons (z_set sc_f__law_server.nd rfl (Or.inl rfl) (q_add false L q_int (k_call L (ok_f__law_draw T) (hr.mono (by decide)) rfl T.g_f__law_draw T.F_f__law_draw.kp T.b_f__law_draw (a_cons (qv 0) (a_cons (qv 1) a_nil)))))
    (z_cons (z_if (PW.pt (w_and (qt_eq L hu (qv 2) (qv 1)) (w_and1 (qt_gt (k_call L (ok_f__law_draw T) (hr.mono (by decide)) rfl T.g_f__law_draw T.F_f__law_draw.kp T.b_f__law_draw (a_cons (qv 0) (a_cons q_int a_nil))) q_int))))
    (z_one (z_set sc_f__law_server.nd rfl (Or.inl rfl) (q_div (q_add false L (qv 1) q_int) q_int)))
    z_nil)
    (z_one (z_ret (q_tup (a_cons (q_str [115, 101, 114, 118, 101, 114] (by decide +kernel)) (a_cons (qv 2) (a_cons (qv 1) a_nil))))))))))
def bd_f__law_windows : {b : List Stmt // defBody s_f__law_windows = b} := by
  refine ⟨?b, ?h⟩
  case h => conv => lhs; whnf
def sp_f__law_windows : {b : Scope // defScope s_f__law_windows = b} := by
  refine ⟨?b, ?h⟩
  case h => conv => lhs; whnf
theorem sc_f__law_windows : FnScope ["box", "size", "row", "spot"] ["box"] sp_f__law_windows.1 := ⟨rfl, rfl, rfl, by decide +kernel, rfl, by decide +kernel, by decide +kernel⟩
theorem ok_f__law_windows (T : Txt K mg) : FnOk P w K mg base (L2.CX P w) 3 T.a_f__law_windows T.d_f__law_windows ["box"] (spI T.G f__law_windows) := fn_okG (k := 2) (body := b_f__law_windows) rfl rfl sp_f__law_windows.2 bd_f__law_windows.2 T.F_f__law_windows sc_f__law_windows fun cdv A outer s H E hr => by
  have L := layX (P := P) (w := w) (mg := mg) (base := base) (x := "") (qual := "_law_windows") (sc := sp_f__law_windows.1) (N := ["box", "size", "row", "spot"]) (f := T.a_f__law_windows) (cdv := cdv) (A := A) (outer := outer) (s := s) (H := H) (E := E) (show K = T.G.K from rfl)
  have hu := hr.units
  exact (z_cons (z_set sc_f__law_windows.nd rfl (Or.inl rfl) (q_add false L q_int (k_call L (ok_f__law_draw T) (hr.mono (by decide)) rfl T.g_f__law_draw T.F_f__law_draw.kp T.b_f__law_draw (a_cons (qv 0) (a_cons q_int a_nil)))))
    (z_cons (z_if (qt_eq L hu (k_call L (ok_f__law_draw T) (hr.mono (by decide)) rfl T.g_f__law_draw T.F_f__law_draw.kp T.b_f__law_draw (a_cons (qv 0) (a_cons q_int a_nil))) q_int)
    (z_one (z_set sc_f__law_windows.nd rfl (Or.inl rfl) (q_add false L q_int (k_call L (ok_f__law_draw T) (hr.mono (by decide)) rfl T.g_f__law_draw T.F_f__law_draw.kp T.b_f__law_draw (a_cons (qv 0) (a_cons q_int a_nil))))))
    z_nil)
    (z_cons (z_set sc_f__law_windows.nd rfl (Or.inl rfl) (k_call L (ok_f__law_bits T) (hr.mono (by decide)) rfl T.g_f__law_bits T.F_f__law_bits.kp T.b_f__law_bits (a_cons (qv 0) (a_cons (qv 1) a_nil))))
    (z_cons (z_set sc_f__law_windows.nd rfl (Or.inl rfl) (k_call L (ok_f__law_draw T) (hr.mono (by decide)) rfl T.g_f__law_draw T.F_f__law_draw.kp T.b_f__law_draw (a_cons (qv 0) (a_cons (qv 1) a_nil))))
    (z_cons (z_if (PW.pt (w_or (qt_notIn L (q_str [49] (by decide +kernel)) (qv 2)) (w_or1 (qt_eq L hu (k_call L (ok_f__law_draw T) (hr.mono (by decide)) rfl T.g_f__law_draw T.F_f__law_draw.kp T.b_f__law_draw (a_cons (qv 0) (a_cons q_int a_nil))) q_int))))
    (z_one (z_set sc_f__law_windows.nd rfl (Or.inl rfl) (q_add false L (q_add false L (q_mul false L (q_str [48] (by decide +kernel)) (qv 3)) (q_str [49] (by decide +kernel))) (q_mul false L (q_str [48] (by decide +kernel)) (q_sub (q_sub (qv 1) (qv 3)) q_int)))))
    z_nil)
    (z_one (z_ret (q_tup (a_cons (q_str [119, 105, 110, 100, 111, 119, 115] (by decide +kernel)) (a_cons (qv 2) a_nil))))))))))
def bd_f__law_worst_rows : {b : List Stmt // defBody s_f__law_worst_rows = b} := by
  refine ⟨?b, ?h⟩
  case h => conv => lhs; whnf
def sp_f__law_worst_rows : {b : Scope // defScope s_f__law_worst_rows = b} := by
  refine ⟨?b, ?h⟩
  case h => conv => lhs; whnf
theorem sc_f__law_worst_rows : FnScope ["kind", "length", "size", "gap", "row", "k"] ["kind", "length"] sp_f__law_worst_rows.1 := ⟨rfl, rfl, rfl, by decide +kernel, rfl, by decide +kernel, by decide +kernel⟩
theorem ok_f__law_worst_rows (T : Txt K mg) : FnOk P w K mg base (L2.CX P w) 2 T.a_f__law_worst_rows T.d_f__law_worst_rows ["kind", "length"] (spI T.G f__law_worst_rows) := fn_okG (k := 1) (body := b_f__law_worst_rows) rfl rfl sp_f__law_worst_rows.2 bd_f__law_worst_rows.2 T.F_f__law_worst_rows sc_f__law_worst_rows fun cdv A outer s H E hr => by
  have L := layX (P := P) (w := w) (mg := mg) (base := base) (x := "") (qual := "_law_worst_rows") (sc := sp_f__law_worst_rows.1) (N := ["kind", "length", "size", "gap", "row", "k"]) (f := T.a_f__law_worst_rows) (cdv := cdv) (A := A) (outer := outer) (s := s) (H := H) (E := E) (show K = T.G.K from rfl)
  have hu := hr.units
  exact (z_cons (z_set sc_f__law_worst_rows.nd rfl (Or.inr rfl) (k_call L (ok_f__law_size T) (hr.mono (by decide)) rfl T.g_f__law_size T.F_f__law_size.kp T.b_f__law_size (a_cons (qv 0) a_nil)))
    (z_cons (z_if (qt_eq L hu (q_ix L (qv 0) q_int) (q_str [102, 117, 108, 108] (by decide +kernel)))
    (z_one (z_ret (q_lst false (a_cons (q_mul false L (q_str [49] (by decide +kernel)) (qv 1)) a_nil))))
    z_nil)
    (z_cons (z_if (qt_eq L hu (q_ix L (qv 0) q_int) (q_str [119, 105, 110, 100, 111, 119, 115] (by decide +kernel)))
    (z_one (z_ret (q_lc false [("k", 5)] rfl rfl sc_f__law_worst_rows.nd (w_range1 rfl T.no_range (a_cons (qv 2) a_nil)) (blkOk_by (by show blkC ["kind", "length", "size", "gap", "row", "k"] sp_f__law_worst_rows.1 _ [("k", 5)] = true; decide +kernel)) (fun _ _ _ _ _ => (h_name sc_f__law_worst_rows.nd rfl (Or.inl rfl))) (fun _ _ _ _ _ => ts_nil) (fun _ _ _ _ _ => (q_sl false (Lay.none rfl) (q_mul false (Lay.none rfl) (q_ix (Lay.none rfl) (qv 0) q_int) (q_add false (Lay.none rfl) (q_div (qv 1) (qv 2)) q_int)) (o_some (qv 5)) (o_some (q_add false (Lay.none rfl) (qv 5) (qv 1))))))))
    z_nil)
    (z_cons (z_set sc_f__law_worst_rows.nd rfl (Or.inl rfl) (q_sub (qv 2) (q_ix L (qv 0) q_int)))
    (z_cons (z_set sc_f__law_worst_rows.nd rfl (Or.inl rfl) (q_add false L (q_add false L (q_mul false L (q_str [49] (by decide +kernel)) (q_ix L (qv 0) q_int)) (q_mul false L (q_str [48] (by decide +kernel)) (qv 3))) (q_mul false L (q_add false L (q_mul false L (q_str [48] (by decide +kernel)) (qv 3)) (q_mul false L (q_str [49] (by decide +kernel)) (q_ix L (qv 0) q_int))) (q_add false L (q_div (qv 1) (qv 2)) q_int))))
    (z_one (z_ret (q_lst false (a_cons (q_sl false L (qv 4) (o_some (q_ix L (qv 0) q_int)) (o_some (q_add false L (q_ix L (qv 0) q_int) (qv 1)))) a_nil)))))))))
def bd_f_law : {b : List Stmt // defBody s_f_law = b} := by
  refine ⟨?b, ?h⟩
  case h => conv => lhs; whnf
def sp_f_law : {b : Scope // defScope s_f_law = b} := by
  refine ⟨?b, ?h⟩
  case h => conv => lhs; whnf
theorem sc_f_law : FnScope ["script", "box", "kind", "thing", "length", "rows", "fewest", "step", "turn", "bits"] ["script"] sp_f_law.1 := ⟨rfl, rfl, rfl, by decide +kernel, rfl, by decide +kernel, by decide +kernel⟩
theorem ok_f_law (T : Txt K mg) : FnOk P w K mg base (L2.CX P w) 5 T.a_f_law T.d_f_law ["script"] (spI T.G f_law) := fn_okG (k := 4) (body := b_f_law) rfl rfl sp_f_law.2 bd_f_law.2 T.F_f_law sc_f_law fun cdv A outer s H E hr => by
  have L := layX (P := P) (w := w) (mg := mg) (base := base) (x := "") (qual := "law") (sc := sp_f_law.1) (N := ["script", "box", "kind", "thing", "length", "rows", "fewest", "step", "turn", "bits"]) (f := T.a_f_law) (cdv := cdv) (A := A) (outer := outer) (s := s) (H := H) (E := E) (show K = T.G.K from rfl)
  have hu := hr.units
  exact (z_cons (z_set sc_f_law.nd rfl (Or.inl rfl) (k_call L (ok_f__law_box T) (hr.mono (by decide)) rfl T.g_f__law_box T.F_f__law_box.kp T.b_f__law_box (a_cons (qv 0) a_nil)))
    (z_cons (z_forA (passes_of rfl) rfl (w_anyA L (q_lst false (a_cons (k_call L (ok_f__law_server T) (hr.mono (by decide)) rfl T.g_f__law_server T.F_f__law_server.kp T.b_f__law_server (a_cons (qv 1) a_nil)) (a_cons (k_call L (ok_f__law_windows T) (hr.mono (by decide)) rfl T.g_f__law_windows T.F_f__law_windows.kp T.b_f__law_windows (a_cons (qv 1) a_nil)) (a_cons (q_tup (a_cons (q_str [102, 117, 108, 108] (by decide +kernel)) a_nil)) a_nil))))) (g_name sc_f_law.nd rfl (Or.inl rfl))
    (z_cons (z_set sc_f_law.nd rfl (Or.inl rfl) (k_call L (ok_f__law_made T) (hr.mono (by decide)) rfl T.g_f__law_made T.F_f__law_made.kp T.b_f__law_made (a_cons (qv 2) a_nil)))
    (z_cons (z_set sc_f_law.nd rfl (Or.inl rfl) (q_add false L (q_add false L (q_mul false L q_int (k_call L (ok_f__law_size T) (hr.mono (by decide)) rfl T.g_f__law_size T.F_f__law_size.kp T.b_f__law_size (a_cons (qv 2) a_nil))) q_int) (k_call L (ok_f__law_draw T) (hr.mono (by decide)) rfl T.g_f__law_draw T.F_f__law_draw.kp T.b_f__law_draw (a_cons (qv 1) (a_cons (q_add false L (k_call L (ok_f__law_size T) (hr.mono (by decide)) rfl T.g_f__law_size T.F_f__law_size.kp T.b_f__law_size (a_cons (qv 2) a_nil)) q_int) a_nil)))))
    (z_cons (z_set sc_f_law.nd rfl (Or.inl rfl) (k_call L (ok_f__law_worst_rows T) (hr.mono (by decide)) rfl T.g_f__law_worst_rows T.F_f__law_worst_rows.kp T.b_f__law_worst_rows (a_cons (qv 2) (a_cons (qv 4) a_nil))))
    (z_cons (z_set sc_f_law.nd rfl (Or.inl rfl) (k_call L (ok_f__law_fewest T) (hr.mono (by decide)) rfl T.g_f__law_fewest T.F_f__law_fewest.kp T.b_f__law_fewest (a_cons (qv 5) (a_cons (qv 4) a_nil))))
    (z_cons (z_set sc_f_law.nd rfl (Or.inl rfl) (q_add false L q_int (q_div (k_call L (ok_f__law_size T) (hr.mono (by decide)) rfl T.g_f__law_size T.F_f__law_size.kp T.b_f__law_size (a_cons (qv 2) a_nil)) q_int)))
    (z_cons (z_if (PW.pt (w_or (qt_eq L hu (q_ix L (qv 6) (qv 4)) q_int) (w_or1 (qt_not (qt_tru L (k_call L (ok_f__law_is_reached T) (hr.mono (by decide)) rfl T.g_f__law_is_reached T.F_f__law_is_reached.kp T.b_f__law_is_reached (a_cons (qv 3) (a_cons (qv 5) (a_cons (qv 6) (a_cons (qv 7) a_nil))))))))))
    (z_one (z_ret q_bl))
    z_nil)
    (z_cons (z_for (passes_of rfl) rfl (w_range1 rfl T.no_range (a_cons q_int a_nil)) (g_name sc_f_law.nd rfl (Or.inl rfl))
    (z_cons (z_set sc_f_law.nd rfl (Or.inl rfl) (k_call L (ok_f__law_promised T) (hr.mono (by decide)) rfl T.g_f__law_promised T.F_f__law_promised.kp T.b_f__law_promised (a_cons (qv 1) (a_cons (qv 2) (a_cons (k_call L (ok_f__law_draw T) (hr.mono (by decide)) rfl T.g_f__law_draw T.F_f__law_draw.kp T.b_f__law_draw (a_cons (qv 1) (a_cons (q_add false L (qv 4) q_int) a_nil))) a_nil)))))
    (z_one (z_if (qt_not (qt_tru L (k_call L (ok_f__law_keeps T) (hr.mono (by decide)) rfl T.g_f__law_keeps T.F_f__law_keeps.kp T.b_f__law_keeps (a_cons (qv 1) (a_cons (qv 3) (a_cons (qv 9) (a_cons (qv 6) a_nil)))))))
    (z_one (z_ret q_bl))
    z_nil))))
    (z_cons (z_if (qt_not (qt_tru L (k_call L (ok_f__law_keeps T) (hr.mono (by decide)) rfl T.g_f__law_keeps T.F_f__law_keeps.kp T.b_f__law_keeps (a_cons (qv 1) (a_cons (qv 3) (a_cons (k_call L (ok_f__law_promised T) (hr.mono (by decide)) rfl T.g_f__law_promised T.F_f__law_promised.kp T.b_f__law_promised (a_cons (qv 1) (a_cons (qv 2) (a_cons (qv 4) a_nil)))) (a_cons (qv 6) a_nil)))))))
    (z_one (z_ret q_bl))
    z_nil)
    (z_cons (z_if (qt_not (qt_tru L (k_call L (ok_f__law_refuses_fewer T) (hr.mono (by decide)) rfl T.g_f__law_refuses_fewer T.F_f__law_refuses_fewer.kp T.b_f__law_refuses_fewer (a_cons (qv 1) (a_cons (qv 3) (a_cons (qv 5) (a_cons (qv 6) a_nil)))))))
    (z_one (z_ret q_bl))
    z_nil)
    (z_one (z_if (PW.pt (w_or (qt_isNot (q_meth L (qv 3) (ht_lets T) (hr.mono (by decide)) (a_cons (q_str [] (by decide +kernel)) a_nil)) q_bl) (w_or1 (qt_not (qt_tru L (k_call L (ok_f__law_is_reached T) (hr.mono (by decide)) rfl T.g_f__law_is_reached T.F_f__law_is_reached.kp T.b_f__law_is_reached (a_cons (qv 3) (a_cons (qv 5) (a_cons (q_sl false L (qv 6) o_none (o_some q_int)) (a_cons q_int a_nil))))))))))
    (z_one (z_ret q_bl))
    z_nil))))))))))))
    (z_one (z_ret q_bl))))
end
end M
namespace M
open PySem L2 F

/-! ### the box -/
def great (gs : List (Int × Int)) : D := .lst (gs.map fun x => .tup [.int x.1, .int x.2])
def boxL (gs : List (Int × Int)) (a b e f g : Int) : Cell := .lst [great gs, .int a, .int b, .int e, .int f, .int g]
structure BoxOk (n : Nat) (gs : List (Int × Int)) (a f g : Int) : Prop where
  len : gs.length ≤ 63
  a0 : 0 ≤ a
  f0 : 0 ≤ f
  f1 : f < 2147483647
  g0 : 0 ≤ g
  g1 : g ≤ n
def BoxC (n : Nat) (c : Cell) : Prop := ∃ gs a b e f g, c = boxL gs a b e f g ∧ BoxOk n gs a f g
/-- the box stands at i, at most n numbers drawn -/
def HB (n i : Nat) (st : Sto) : Prop := ∃ c, st[i]? = some c ∧ BoxC n c
theorem HB.mono {n m i : Nat} {st : Sto} (h : HB n i st) (k : n ≤ m) : HB m i st := by
  obtain ⟨c, h1, gs, a, b, e, f, g, rfl, o⟩ := h
  exact ⟨_, h1, gs, a, b, e, f, g, rfl, o.len, o.a0, o.f0, o.f1, o.g0, by have := o.g1; omega⟩
theorem HB.keep {n i : Nat} {st st' : Sto} {ex : List Nat} (h : HB n i st) (k : Sm ex st st') (hi : i ∉ ex) : HB n i st' := by
  obtain ⟨c, h1, h2⟩ := h
  exact ⟨c, k.2 _ _ hi h1, h2⟩
theorem HB.lt {n i : Nat} {st : Sto} (h : HB n i st) : i < st.length := by
  obtain ⟨c, h1, h2⟩ := h
  exact (List.getElem?_eq_some_iff.mp h1).1
theorem great_len {gs : List (Int × Int)} {st : Sto} : fLen [great gs] st = .ok (.int gs.length) st := by
  show Res.ok (D.int ((gs.map _).length : Nat)) st = _
  rw [List.length_map]
theorem great_ix {gs : List (Int × Int)} {a : Int} (h0 : 0 ≤ a) (h1 : a < gs.length) : ∃ x y, ∀ st, fIx (great gs) (.int a) st = .ok (.tup [.int x, .int y]) st := by
  unfold great
  have e : atI (gs.map fun x => D.tup [.int x.1, .int x.2]) a = some (.tup [.int (gs[a.toNat]'(by omega)).1, .int (gs[a.toNat]'(by omega)).2]) := by
    unfold atI ixN
    rw [List.length_map, if_pos h0, if_pos h1]
    show (gs.map _)[a.toNat]? = _
    rw [List.getElem?_map, List.getElem?_eq_getElem (by omega)]
    rfl
  exact ⟨_, _, fun st => by rw [r_ixL, e]⟩
theorem draw0 {st : Sto} {i n : Nat} {many : Int} {c : Cell} (hc : st[i]? = some c) (hb : BoxC n c) (hn : n < 2 ^ 200) (h0 : 0 < many) (h1 : many < 2 ^ 200) :
    Ret (f__law_draw [.ref i, .int many] st) (fun d s => ∃ r c', d = .int r ∧ 0 ≤ r ∧ r < many ∧ s = st.set i c' ∧ BoxC (n + 1) c') NX := by
  obtain ⟨gs, a, b, e, f, g, rfl, ok⟩ := hb
  have hs : ∀ c : Cell, (st.set i c)[i]? = some c := fun c => by rw [set_self, hc]; rfl
  have hmany : bDiv 1 many = true := bDiv_small h0 (by omega)
  have hd : ∀ x, bDiv x many = true := fun x => hmany
  have hm : ∀ x, bMod x many = true := fun x => bMod_pos h0
  unfold f__law_draw b_f__law_draw
  rw [Ret_body]
  simp -dsimp [hc, boxL, atI, ixN]
  refine while_inv (fun k env s => ∃ a b e, env = [some (.ref i), some (.int many), some (great gs), none, none] ∧ s = st.set i (boxL gs a b e f g) ∧ 0 ≤ a ∧ (gs.length : Int) + 1 ≤ k + a ∧ 1 ≤ k) ⟨a, b, e, rfl, (set_id hc).symm, ok.a0, ?_, by decide⟩ ?_
  · have := ok.len
    have := ok.a0
    omega
  rintro k env s ⟨a, b, e, rfl, rfl, ha, hk, hk1⟩
  refine ⟨k - 1, by omega, ?_⟩
  have hf : ∀ x : Int, 0 ≤ x → x < 2147483647 → ∀ y : Int, y.natAbs < 2 ^ 250 → bMul x y = true := fun x h h' y hy => bMul_small (by omega) hy
  have hsm : ∀ x k : Int, 0 < k → k < 2147483647 → bDiv x k = true := fun x k h h' => bDiv_small h (by omega)
  obtain ⟨o1, o2, o3, o4, o5, o6⟩ := ok
  have fin : ∀ b e f g : Int, 0 ≤ f → f < 2147483647 → 0 ≤ g → g ≤ (n : Int) + 1 → BoxC (n + 1) (Cell.lst [great gs, .int a, .int b, .int e, .int f, .int g]) := fun b e f g z1 z2 z3 z4 => ⟨gs, a, b, e, f, g, rfl, ⟨o1, ha, z1, z2, z3, by omega⟩⟩
  have m1 : bMul f 48271 = true := hf f o3 o4 _ (by decide)
  have m2 : bMul (g + 1) 69621 = true := bMul_small (by omega) (by decide)
  have z1 := Int.emod_nonneg (f * 48271 + (g + 1) * 69621 + 5) (show (2147483647 : Int) ≠ 0 by decide)
  have z2 := Int.emod_lt_of_pos (f * 48271 + (g + 1) * 69621 + 5) (show (0 : Int) < 2147483647 by decide)
  by_cases h1 : b < many
  · have h1' : ¬ many ≤ b := by omega
    by_cases h2 : a < gs.length
    · obtain ⟨x, y, hx⟩ := great_ix ha h2
      simp -dsimp [hs, boxL, atI, ixN, h1, h2, great_len, hx, cellL]
      exact ⟨a + 1, ⟨x, y, rfl⟩, by omega, by omega, by omega⟩
    · simp -dsimp [hs, boxL, atI, ixN, h1, h2, great_len, cellL, h1', m1, m2, hm, bMod_pos, hsm]
      refine ⟨hf _ (by omega) (by omega) _ (by decide), Int.emod_nonneg _ (by omega), Int.emod_lt_of_pos _ h0, _, rfl, fin _ _ _ _ z1 z2 (by omega) (by omega)⟩
  · have h1' : many ≤ b := by omega
    simp -dsimp [hs, boxL, atI, ixN, h1, great_len, cellL, h1', hm, hd]
    exact ⟨Int.emod_nonneg _ (by omega), Int.emod_lt_of_pos _ h0, _, rfl, fin _ _ _ _ o3 o4 o5 (by omega)⟩
theorem draw_ok {st : Sto} {i n : Nat} {many : Int} (h : HB n i st) (hn : n < 2 ^ 200) (h0 : 0 < many) (h1 : many < 2 ^ 200) :
    Ret (f__law_draw [.ref i, .int many] st) (fun d s => ∃ r : Int, d = .int r ∧ 0 ≤ r ∧ r < many ∧ HB (n + 1) i s ∧ Sm [i] st s ∧ s.length = st.length) NX := by
  obtain ⟨c, hc, hb⟩ := h
  refine (draw0 hc hb hn h0 h1).call fun d s ⟨r, c', e1, e2, e3, e4, e5⟩ => ⟨r, e1, e2, e3, ⟨c', ?_, e5⟩, ?_, ?_⟩
  · rw [e4, set_self, hc]
    rfl
  · rw [e4]
    exact Sm.set (by simp)
  · rw [e4]
    simp
theorem box_ok {ns : List Int} {st : Sto} : Ret (f__law_box [.rol (ns.map .int)] st) (fun d s => ∃ i, d = .ref i ∧ HB 0 i s ∧ Sm [] st s) NX := by
  unfold f__law_box b_f__law_box
  rw [Ret_body]
  simp -dsimp [cut_to]
  have lm : ((ns.map D.int).take 63).length ≤ 63 := by
    rw [List.length_take]
    omega
  have im : ∀ (k : Nat) (d : D), ((ns.map D.int).take 63)[k]? = some d → ∃ z, d = .int z := by
    intro k d h
    obtain ⟨z, _, rfl⟩ := List.mem_map.mp (List.mem_of_mem_take (List.mem_of_getElem? h))
    exact ⟨z, rfl⟩
  generalize (ns.map D.int).take 63 = ds at lm im
  have hs : ∀ ds : List D, (st ++ [Cell.lst ds])[st.length]? = some (.lst ds) := fun ds => snoc_new
  have hst : ∀ (c d : Cell), (st ++ [c]).set st.length d = st ++ [d] := fun c d => by simp
  refine loop_inv (fun k env s => ∃ (f : Int) (v : Option D) (gs : List (Int × Int)), env = [some (.rol (ns.map D.int)), some (.int f), some (.ref st.length), v] ∧ 0 ≤ f ∧ f < 2147483647 ∧ s = st ++ [.lst (gs.map fun x => .tup [.int x.1, .int x.2])] ∧ gs.length ≤ k) ⟨29, none, [], rfl, by decide, by decide, rfl, Nat.zero_le _⟩ ?_ ?_
  · rintro k d env s hd ⟨f, v, gs, rfl, f0, f1, rfl, hg⟩
    obtain ⟨z, rfl⟩ := im k d hd
    have hk : k < ds.length := (List.getElem?_eq_some_iff.mp hd).1
    have mf : bMul f 48271 = true := bMul_small (by omega) (by decide)
    have p1 : bPow 10 18 = true := by decide
    have p2 : bPow 10 60 = true := by decide
    refine ⟨_, rfl, ?_⟩
    have nx : ∀ (g0 : List (Int × Int)) , g0.length ≤ k + 1 → ∀ f', 0 ≤ f' → f' < 2147483647 → ∀ s, s = st ++ [.lst (g0.map fun x => .tup [.int x.1, .int x.2])] → ∃ (f : Int) (v : Option D) (gs : List (Int × Int)), [some (D.rol (ns.map D.int)), some (.int f'), some (.ref st.length), some (.int z)] = [some (.rol (ns.map D.int)), some (.int f), some (.ref st.length), v] ∧ 0 ≤ f ∧ f < 2147483647 ∧ s = st ++ [.lst (gs.map fun x => .tup [.int x.1, .int x.2])] ∧ gs.length ≤ k + 1 := fun g0 h f' a1 a2 s e => ⟨f', _, g0, rfl, a1, a2, e, h⟩
    have e1 := Int.emod_nonneg (z % 2147483629 + f * 48271 + 17) (show (2147483647 : Int) ≠ 0 by decide)
    have e2 := Int.emod_lt_of_pos (z % 2147483629 + f * 48271 + 17) (show (0 : Int) < 2147483647 by decide)
    by_cases hz : 1000000000000000000 ≤ z
    · simp -dsimp [bMod_pos, mf, p1, p2, hz, r_isLst (hs _), r_append (hs _), hst, e1, e2, sizeLine_eq]
      exact ⟨by omega, gs ++ [(_, _)], by rw [List.map_append]; rfl, by simp; omega⟩
    · simp -dsimp [bMod_pos, mf, p1, p2, hz, e1, e2]
      exact ⟨gs, rfl, by omega⟩
  · rintro env s ⟨f, v, gs, rfl, f0, f1, rfl, hg⟩
    simp -dsimp [hs, sizeLine_eq]
    exact ⟨⟨_, by rw [List.getElem?_append_right (by omega)]; simp; rfl, gs, 0, 0, 0, f, 0, rfl, by omega, by decide, f0, f1, by decide, by decide⟩, Sm.app⟩
theorem sign_ix (z : Int) : ∃ c, atI [48, 49] (z % 2) = some c ∧ (c = 48 ∨ c = 49) := by
  have h0 := Int.emod_nonneg z (show (2 : Int) ≠ 0 by decide)
  have h1 := Int.emod_lt_of_pos z (show (0 : Int) < 2 by decide)
  have : z % 2 = 0 ∨ z % 2 = 1 := by omega
  rcases this with e | e
  · rw [e]; exact ⟨48, rfl, .inl rfl⟩
  · rw [e]; exact ⟨49, rfl, .inr rfl⟩
theorem bits_ok {st : Sto} {i n : Nat} {size : Int} (h : HB n i st) (hn : n < 2 ^ 190) (h0 : 0 ≤ size) (h1 : size ≤ 10000) :
    Ret (f__law_bits [.ref i, .int size] st) (fun d s => ∃ r, d = .str r ∧ Bits r ∧ r.length = size.toNat ∧ HB (n + 1000) i s ∧ Sm [i] st s ∧ s.length = st.length) NX := by
  have d1 : bDiv (size + 15) 16 = true := bDiv_small (by decide) (by decide)
  have d2 : ∀ z, bDiv z 2 = true := fun z => bDiv_small (by decide) (by decide)
  unfold f__law_bits b_f__law_bits
  rw [Ret_body]
  simp -dsimp [d1]
  refine ⟨okR_of (by omega) (by omega), ?_⟩
  refine loop_inv (fun k env s => ∃ (row : List Nat) (v3 v4 v5 : Option D), env = [some (.ref i), some (.int size), some (.str row), v3, v4, v5] ∧ Bits row ∧ row.length = 16 * k ∧ HB (n + k) i s ∧ Sm [i] st s ∧ s.length = st.length) ⟨[], none, none, none, rfl, .nil, rfl, h, .refl _ _, rfl⟩ ?_ ?_
  · rintro k d env s hd ⟨row, v3, v4, v5, rfl, hb, hl, hh, hs, hln⟩
    obtain ⟨hk, rfl⟩ := rangeL_get hd
    have hk' : k < 1000 := by omega
    refine ⟨_, rfl, ?_⟩
    simp -dsimp
    refine (draw_ok hh (by omega) (by decide) (by decide)).call ?_
    rintro _ s1 ⟨r, rfl, r0, r1, hh1, hs1, hl1⟩
    simp -dsimp
    refine ⟨okR_of (by omega) (by omega), ?_⟩
    refine loop_inv (fun j env s => ∃ (row : List Nat) (p : Int) (v5 : Option D), env = [some (.ref i), some (.int size), some (.str row), some (.int (0 + (k : Int))), some (.int p), v5] ∧ Bits row ∧ row.length = 16 * k + j ∧ HB (n + k + 1) i s ∧ Sm [i] st s ∧ s.length = st.length) ⟨row, r, v5, by simp, hb, by omega, hh1, hs.trans hs1, by omega⟩ ?_ ?_
    · rintro j d env s hd ⟨row, p, v5, rfl, hb, hl, hh, hs, hln⟩
      obtain ⟨hj, rfl⟩ := rangeL_get hd
      obtain ⟨c, hc, hc2⟩ := sign_ix p
      refine ⟨_, rfl, ?_⟩
      simp -dsimp [bMod_pos, hc, d2, sizeLine_eq]
      have : Bits (row ++ [c]) := hb.app fun x m => by
        have e : x = c := by simpa using m
        rw [e]; exact hc2
      exact ⟨by omega, this, by omega, hh, hs, hln⟩
    · rintro env s ⟨row, p, v5, rfl, hb, hl, hh, hs, hln⟩
      have e16 : (rangeL 0 16).length = 16 := rfl
      rw [e16] at hl
      exact ⟨row, _, _, _, rfl, hb, by omega, by rw [← Nat.add_assoc]; exact hh, hs, hln⟩
  · rintro env s ⟨row, v3, v4, v5, rfl, hb, hl, hh, hs, hln⟩
    rw [rangeL_len] at hl hh
    simp -dsimp [cut_to h0]
    refine ⟨by omega, hb.take _, by omega, hh.mono (by omega), hs, hln⟩
end M
namespace M
open PySem L2 F

inductive Kd where
  | full
  | server (low size : Nat)
  | windows (row : List Nat)
def Kd.d : Kd → D
  | .full => .tup [.str [102, 117, 108, 108]]
  | .server low size => .tup [.str [115, 101, 114, 118, 101, 114], .int low, .int size]
  | .windows row => .tup [.str [119, 105, 110, 100, 111, 119, 115], .str row]
def Kd.ok : Kd → Prop
  | .full => True
  | .server low size => 1 ≤ low ∧ low ≤ size ∧ size ≤ 48
  | .windows row => 1 ≤ row.length ∧ row.length ≤ 24 ∧ Bits row ∧ 49 ∈ row
/-- what drawing functions leave: n numbers drawn, the store else as it was -/
structure Af (n i : Nat) (st s : Sto) : Prop where
  hb : HB n i s
  sm : Sm [i] st s
theorem Af.go {n m i : Nat} {a b c : Sto} (h : Af n i a b) (k : Af m i b c) : Af m i a c := ⟨k.hb, h.sm.trans k.sm⟩
theorem Af.mono {n m i : Nat} {a b : Sto} (h : Af n i a b) (k : n ≤ m) : Af m i a b := ⟨h.hb.mono k, h.sm⟩
theorem draw' {st : Sto} {i n : Nat} {many : Int} (h : HB n i st) (hn : n < 2 ^ 200) (h0 : 0 < many) (h1 : many < 2 ^ 200) :
    Ret (f__law_draw [.ref i, .int many] st) (fun d s => ∃ r : Int, d = .int r ∧ 0 ≤ r ∧ r < many ∧ Af (n + 1) i st s) NX := (draw_ok h hn h0 h1).call fun d s ⟨r, e, a, b, c, d, _⟩ => ⟨r, e, a, b, c, d⟩
theorem bits' {st : Sto} {i n : Nat} {size : Int} (h : HB n i st) (hn : n < 2 ^ 190) (h0 : 0 ≤ size) (h1 : size ≤ 10000) :
    Ret (f__law_bits [.ref i, .int size] st) (fun d s => ∃ r, d = .str r ∧ Bits r ∧ r.length = size.toNat ∧ Af (n + 1000) i st s) NX := (bits_ok h hn h0 h1).call fun d s ⟨r, e, a, b, c, d, _⟩ => ⟨r, e, a, b, c, d⟩
theorem server_ok {st : Sto} {i n : Nat} (h : HB n i st) (hn : n < 2 ^ 180) :
    Ret (f__law_server [.ref i] st) (fun d s => ∃ low size : Nat, d = (Kd.server low size).d ∧ (Kd.server low size).ok ∧ Af (n + 10) i st s) NX := by
  unfold f__law_server b_f__law_server
  rw [Ret_body]
  refine ⟨rfl, OutW.seq (fun e s => ∃ r : Int, e = [some (.ref i), some (.int r), none] ∧ 1 ≤ r ∧ r ≤ 48 ∧ Af (n + 1) i st s) ?_ ?_⟩
  · simp -dsimp
    refine (draw' h (by omega) (by decide) (by decide)).call ?_
    rintro _ s1 ⟨r1, rfl, a1, b1, A1⟩
    simp -dsimp
    exact ⟨by omega, by omega, A1⟩
  rintro _ s1 ⟨r, rfl, a1, b1, A1⟩
  refine OutW.seq (fun e s => ∃ r : Int, e = [some (.ref i), some (.int r), none] ∧ 1 ≤ r ∧ r ≤ 48 ∧ Af (n + 3) i st s) ?_ ?_
  · simp -dsimp
    refine (draw' A1.hb (by omega) (by decide) (by decide)).call ?_
    rintro _ s2 ⟨r2, rfl, a2, b2, A2⟩
    by_cases hr2 : r2 = 0
    · simp -dsimp [hr2]
      refine (draw' A2.hb (by omega) (by decide) (by decide)).call ?_
      rintro _ s3 ⟨r3, rfl, a3, b3, A3⟩
      simp -dsimp
      exact ⟨by omega, by omega, A1.go (A2.go A3)⟩
    · simp -dsimp [hr2]
      exact ⟨by omega, by omega, (A1.go A2).mono (by omega)⟩
  rintro _ s2 ⟨r, rfl, a2, b2, A2⟩
  refine OutW.seq (fun e s => ∃ l : Int, e = [some (.ref i), some (.int r), some (.int l)] ∧ 1 ≤ l ∧ l ≤ r ∧ Af (n + 4) i st s) ?_ ?_
  · simp -dsimp
    refine (draw' A2.hb (by omega) (by omega) (by omega)).call ?_
    rintro _ s3 ⟨r3, rfl, a3, b3, A3⟩
    simp -dsimp
    exact ⟨by omega, by omega, A2.go A3⟩
  rintro _ s3 ⟨l, rfl, a3, b3, A3⟩
  refine OutW.seq (fun e s => ∃ l : Int, e = [some (.ref i), some (.int r), some (.int l)] ∧ 1 ≤ l ∧ l ≤ r ∧ Af (n + 5) i st s) ?_ ?_
  · by_cases hl : l = r
    · simp -dsimp [hl]
      refine (draw' A3.hb (by omega) (by decide) (by decide)).call ?_
      rintro _ s4 ⟨r4, rfl, a4, b4, A4⟩
      by_cases h4 : 0 < r4
      · simp -dsimp [h4, bDiv_small]
        exact ⟨by omega, by omega, A3.go A4⟩
      · simp -dsimp [h4]
        exact ⟨by omega, A3.go A4⟩
    · simp -dsimp [hl]
      exact ⟨by omega, by omega, A3.mono (by omega)⟩
  rintro _ s4 ⟨l, rfl, a4, b4, A4⟩
  simp -dsimp [sizeLine_eq]
  refine ⟨l.toNat, r.toNat, ?_, ⟨by omega, by omega, by omega⟩, A4.mono (by omega)⟩
  show D.tup [_, .int l, .int r] = D.tup [_, .int _, .int _]
  rw [Int.toNat_of_nonneg (by omega), Int.toNat_of_nonneg (by omega)]
theorem windows_ok {st : Sto} {i n : Nat} (h : HB n i st) (hn : n < 2 ^ 180) :
    Ret (f__law_windows [.ref i] st) (fun d s => ∃ row, d = (Kd.windows row).d ∧ (Kd.windows row).ok ∧ Af (n + 2000) i st s) NX := by
  unfold f__law_windows b_f__law_windows
  rw [Ret_body]
  refine ⟨rfl, OutW.seq (fun e s => ∃ r : Int, e = [some (.ref i), some (.int r), none, none] ∧ 1 ≤ r ∧ r ≤ 24 ∧ Af (n + 1) i st s) ?_ ?_⟩
  · simp -dsimp
    refine (draw' h (by omega) (by decide) (by decide)).call ?_
    rintro _ s1 ⟨r1, rfl, a1, b1, A1⟩
    simp -dsimp
    exact ⟨by omega, by omega, A1⟩
  rintro _ s1 ⟨r, rfl, a1, b1, A1⟩
  refine OutW.seq (fun e s => ∃ r : Int, e = [some (.ref i), some (.int r), none, none] ∧ 1 ≤ r ∧ r ≤ 24 ∧ Af (n + 3) i st s) ?_ ?_
  · simp -dsimp
    refine (draw' A1.hb (by omega) (by decide) (by decide)).call ?_
    rintro _ s2 ⟨r2, rfl, a2, b2, A2⟩
    by_cases hr2 : r2 = 0
    · simp -dsimp [hr2]
      refine (draw' A2.hb (by omega) (by decide) (by decide)).call ?_
      rintro _ s3 ⟨r3, rfl, a3, b3, A3⟩
      simp -dsimp
      exact ⟨by omega, by omega, A1.go (A2.go A3)⟩
    · simp -dsimp [hr2]
      exact ⟨by omega, by omega, (A1.go A2).mono (by omega)⟩
  rintro _ s2 ⟨r, rfl, a2, b2, A2⟩
  simp -dsimp
  refine (bits' A2.hb (by omega) (by omega) (by omega)).call ?_
  rintro _ s3 ⟨row, rfl, hb, hl, A3⟩
  simp -dsimp
  refine (draw' A3.hb (by omega) (by omega) (by omega)).call ?_
  rintro _ s4 ⟨spot, rfl, a4, b4, A4⟩
  have A := A2.go (A3.go A4)
  have made : ∀ s5, Af (n + 2000) i st s5 → ∃ row, D.tup [.str [119, 105, 110, 100, 111, 119, 115], .str (List.replicate spot.toNat 48 ++ 49 :: List.replicate ((r - spot).toNat - 1) 48)] = (Kd.windows row).d ∧ (Kd.windows row).ok ∧ Af (n + 2000) i st s5 := fun s5 A5 =>
    ⟨_, rfl, ⟨by simp; omega, by simp; omega, fun c hc => by
      simp at hc
      rcases hc with z | z | z
      · exact .inl z.2
      · exact .inr z
      · exact .inl z.2, by simp⟩, A5⟩
  by_cases hm : 49 ∈ row
  · simp -dsimp [hm]
    refine (draw' A.hb (by omega) (by decide) (by decide)).call ?_
    rintro _ s5 ⟨r5, rfl, a5, b5, A5⟩
    by_cases h5 : r5 = 0
    · simp -dsimp [h5, sizeLine_eq]
      exact ⟨by omega, by omega, by omega, by omega, made _ ((A.go A5).mono (by omega))⟩
    · simp -dsimp [h5, sizeLine_eq]
      exact ⟨row, rfl, ⟨by omega, by omega, hb, hm⟩, (A.go A5).mono (by omega)⟩
  · simp -dsimp [hm, sizeLine_eq]
    exact ⟨by omega, by omega, by omega, by omega, made _ (A.mono (by omega))⟩
end M
namespace M
open PySem L2 F

def Kd.th : Kd → D
  | .full => .obj 3 []
  | .server low size => .obj 4 [.int low, .int size]
  | .windows row => .obj 5 [.str row]
theorem bitsQ_ok {st : Sto} {s : List Nat} (h : Bits s) (hl : s.length ≤ 100000) : Ret (f__are_bits [.str s] st) (fun d s' => d = .bl true ∧ s' = st) NX := by
  unfold f__are_bits b_f__are_bits
  rw [Ret_body]
  have := count_bits h
  simp -dsimp
  omega
theorem made_ok {st : Sto} {k : Kd} (h : k.ok) : Ret (f__law_made [k.d] st) (fun d s => d = k.th ∧ Sm [] st s) NX := by
  unfold f__law_made b_f__law_made
  rw [Ret_body]
  cases k with
  | full =>
    simp -dsimp [Kd.d]
    exact ⟨rfl, .refl _ _⟩
  | server low size =>
    obtain ⟨l1, l2, l3⟩ := h
    simp -dsimp [Kd.d]
    unfold f_Server___init__ b_f_Server___init__
    rw [Ret_body]
    have q : (1 : Int) ≤ low ∧ low ≤ size ∧ (size : Int) ≤ 48 := by omega
    simp -dsimp [clsOf, ix_budget, ix_period, setFld, F.letGo, q, l2]
    exact ⟨rfl, Sm.app⟩
  | windows row =>
    obtain ⟨w1, w2, w3, w4⟩ := h
    simp -dsimp [Kd.d]
    unfold f_Windows___init__ b_f_Windows___init__
    rw [Ret_body]
    have q : row.length ≤ 16777216 ∧ (1 : Int) ≤ row.length ∧ (row.length : Int) ≤ 24 := by omega
    simp -dsimp [q]
    refine (bitsQ_ok w3 (by omega)).call ?_
    rintro _ s1 ⟨rfl, rfl⟩
    simp -dsimp [clsOf, ix_cells, setFld, F.letGo, w4]
    exact ⟨rfl, Sm.app⟩
end M
namespace M
open PySem L2 F

/-! ### the pure law of lets -/
def isLet : Kd → List Nat → Bool
  | .full, b => decide (b.count 49 = b.length)
  | .windows row, b => (List.range row.length).any (winAt row b)
  | .server low size, b => (List.range size).any (cutLet low size b)
theorem rangeN_eq {f n size : Nat} (hs : 1 ≤ size) : Builtin.Range.rangeSize f n size = (pcs size n f : Nat) := by
  unfold Builtin.Range.rangeSize pcs
  rw [if_pos (by omega)]
  by_cases h : f < n
  · rw [if_pos (by omega), if_pos h]
    have : ((n : Int) - f - 1) = ((n - f - 1 : Nat) : Int) := by omega
    rw [this]
    rfl
  · rw [if_neg (by omega), if_neg h]
    rfl
theorem rangeN_nat {f n size : Nat} (hs : 1 ≤ size) : rangeN f n size = pcs size n f := by
  unfold rangeN
  rw [rangeN_eq hs]
  rfl
theorem pcs_le {f n size : Nat} : pcs size n f ≤ n := by
  unfold pcs
  split
  · have := Nat.div_le_self (n - f - 1) size
    omega
  · omega
theorem small_nat {f n size : Nat} (h1 : f ≤ 100000) (h2 : n ≤ 100000) (h3 : size ≤ 100000) (h0 : 1 ≤ size) : Builtin.Range.small f n size = true := by
  have hp := pcs_le (f := f) (n := n) (size := size)
  unfold Builtin.Range.small
  rw [rangeN_eq h0]
  simp only [Builtin.Range.rangeFitsLong, Bool.and_eq_true, Bool.or_eq_true, decide_eq_true_eq, beq_iff_eq]
  have c : ¬ ((size : Int) = 0) := by omega
  refine ⟨by omega, .inr ?_⟩
  rw [if_pos (by omega)]
  simp only [Bool.and_eq_true, decide_eq_true_eq]
  omega
theorem rangeC_get {f n size k : Nat} {d : D} (hs : 1 ≤ size) (h : (rangeC f n size)[k]? = some d) : k < pcs size n f ∧ d = .int ((f + k * size : Nat) : Int) := by
  unfold rangeC at h
  rw [rangeN_nat hs, List.getElem?_map] at h
  cases q : (List.range (pcs size n f))[k]? with
  | none => rw [q] at h; cases h
  | some c =>
    rw [q] at h
    have hl' : k < pcs size n f := by simpa using (List.getElem?_eq_some_iff.mp q).1
    rw [List.getElem?_range hl'] at q
    cases q
    cases h
    exact ⟨hl', by simp⟩
theorem rangeC_len {f n size : Nat} (hs : 1 ≤ size) : (rangeC f n size).length = pcs size n f := by
  unfold rangeC
  rw [rangeN_nat hs]
  simp
theorem rangeC_map {f n size : Nat} (hs : 1 ≤ size) : rangeC f n size = (List.range (pcs size n f)).map fun k => D.int ((f + k * size : Nat) : Int) := by
  unfold rangeC
  rw [rangeN_nat hs]
  exact List.map_congr_left fun k _ => by simp
theorem piece_eq {bits : List Nat} {f k size : Nat} : cutD bits (some ((f + k * size : Nat) : Int)) (some (((f + k * size : Nat) : Int) + (size : Int))) = (bits.drop (f + k * size)).take size := by
  rw [cut_in (by omega) (by omega)]
  congr 1
  omega
theorem piece_eq' {bits : List Nat} {f k size : Nat} : cutD bits (some ((f : Int) + (k : Int) * (size : Int))) (some ((f : Int) + (k : Int) * (size : Int) + (size : Int))) = (bits.drop (f + k * size)).take size := by
  have e : (f : Int) + (k : Int) * (size : Int) = ((f + k * size : Nat) : Int) := by
    rw [Int.natCast_add, Int.natCast_mul]
  rw [e]
  exact piece_eq
theorem rangeL_map (n : Nat) : rangeL 0 (n : Int) = (List.range n).map fun k : Nat => D.int (k : Nat) := by
  unfold rangeL
  have e : ((n : Int) - 0).toNat = n := by omega
  rw [e]
  simp
end M
namespace M
open PySem L2 F

theorem cutp_ok {st : Sto} {bits : List Nat} {f low size : Nat} (hl : bits.length ≤ 100000) (hf : f ≤ 1000) (h0 : 1 ≤ size) (h1 : size ≤ 1000) :
    Ret (f_Server__lets_cut [.obj 4 [.int low, .int size], .str bits, .int f] st) (fun d s => d = .bl (cutLet low size bits f) ∧ s = st) NX := by
  unfold f_Server__lets_cut b_f_Server__lets_cut
  rw [Ret_body]
  have sm := small_nat (f := f) (n := bits.length) (size := size) (by omega) hl (by omega) h0
  have hrs : Builtin.Range.rangeSize f bits.length size = (rangeN f bits.length size : Nat) := by rw [rangeN_eq h0, rangeN_nat h0]
  have hsz : bits.length ≤ 16777216 := by omega
  have hc : ¬ ((size : Int) = 0) := by omega
  have hc2 : ((size : Int)).natAbs < 1073741824 := by omega
  have hp := pcs_le (f := f) (n := bits.length) (size := size)
  have hpp : ∀ p ∈ partsOf size f bits, p.length ≤ 16777216 := by
    intro p hp
    rcases List.mem_cons.mp hp with rfl | hp
    · simp; omega
    · obtain ⟨k, _, rfl⟩ := List.mem_map.mp hp
      simp; omega
  have hpl : (partsOf size f bits).length = pcs size bits.length f + 1 := by simp [partsOf]
  simp -dsimp [hsz, cut_to, sm, hrs, fldsOf, ix_period, fRange, hc, hc2, rangeC_len h0]
  refine ⟨⟨by omega, by omega⟩, by omega, ?_⟩
  rw [rangeC_map h0, comp_fun (h := fun k => D.str ((bits.drop (f + k * size)).take size)) fun k _ => ⟨_, rfl, by simp -dsimp [hsz, fldsOf, ix_period, piece_eq, -Int.natCast_add, -Int.natCast_mul]⟩]
  have e : [D.str (bits.take f)] ++ (List.range (pcs size bits.length f)).map (fun k => D.str ((bits.drop (f + k * size)).take size)) = (partsOf size f bits).map .str := by
    simp [partsOf]
  simp -dsimp [e]
  refine ⟨by omega, by omega, ?_⟩
  rw [comp_fun (h := fun p => D.bl (partOk low size p)) fun p hp => ⟨_, rfl, by
    have := hpp p hp
    simp -dsimp [this, fldsOf, ix_period, ix_budget]
    unfold partOk
    rfl⟩]
  simp -dsimp [r_all, cutLet]
theorem curves_ok {st : Sto} {row : List Nat} (hl : row.length ≤ 100) : Ret (f_Windows_curves [.obj 5 [.str row]] st) (fun d s => d = .lst ((List.range row.length).map fun k => .tup [.str [], .str (row.drop k ++ row.take k)]) ∧ s = st) NX := by
  unfold f_Windows_curves b_f_Windows_curves
  rw [Ret_body]
  have h1 : row.length ≤ 16777216 := by omega
  simp -dsimp [fldsOf, ix_cells, h1, rangeL_map]
  refine ⟨okR_of (by omega) (by omega), ?_⟩
  rw [comp_fun (h := fun k => D.tup [.str [], .str (row.drop k ++ row.take k)]) fun k hk => ⟨_, rfl, by
    have hk' : k < row.length := by simpa using hk
    have h4 : row.length - k + min k row.length ≤ 16777216 := by omega
    simp -dsimp [fldsOf, ix_cells, h1, cut_to, cut_from, h4]⟩]
  simp -dsimp
theorem bitsof_ok {st : Sto} {cyc : List Nat} {n : Nat} (hn : n ≤ 100000) (h0 : 1 ≤ cyc.length) (h1 : cyc.length ≤ 100) : Ret (f_bits_of [.tup [.str [], .str cyc], .int n] st) (fun d s => d = .str (repL (n / cyc.length) cyc ++ cyc.take (n % cyc.length)) ∧ s = st) NX := by
  unfold f_bits_of b_f_bits_of
  rw [Ret_body]
  have h2 : cyc.length ≤ 16777216 := by omega
  by_cases hz : n = 0
  · subst hz
    simp -dsimp [h2, cut_to, repL]
  · have q1 : (n : Int) / cyc.length = ((n / cyc.length : Nat) : Int) := rfl
    have q2 : (n : Int) % cyc.length = ((n % cyc.length : Nat) : Int) := rfl
    have q3 := Nat.div_le_self n cyc.length
    have q4 := Nat.div_mul_le_self n cyc.length
    have q5 : (cyc.take (n % cyc.length)).length ≤ cyc.length := by rw [List.length_take]; omega
    have q7 : (0 : Int) ≤ (n / cyc.length : Nat) := Int.natCast_nonneg _
    have q6 : cyc.length * (n / cyc.length) ≤ n := by rw [Nat.mul_comm]; exact q4
    simp -dsimp [h2, hz]
    rw [q1, q2, Int.toNat_natCast, cut_to (by omega), Int.toNat_natCast]
    exact ⟨⟨by omega, by omega⟩, ⟨by omega, by omega, by omega⟩, by omega, by omega, rfl⟩
theorem wlets_ok {st : Sto} {row bits : List Nat} (hb : Bits bits) (hl : bits.length ≤ 100000) (h0 : 1 ≤ row.length) (h1 : row.length ≤ 100) : Ret (f_Windows_lets [.obj 5 [.str row], .str bits] st) (fun d s => d = .bl (isLet (.windows row) bits) ∧ s = st) NX := by
  unfold f_Windows_lets b_f_Windows_lets
  rw [Ret_body]
  simp -dsimp [clsOf, tb_curves]
  refine (curves_ok h1).call ?_
  rintro _ st ⟨rfl, rfl⟩
  simp -dsimp
  refine ⟨by omega, ?_⟩
  refine comp_inv (fun k acc s => acc = ((List.range row.length).take k).map (fun k => D.bl (winAt row bits k)) ∧ s = st) ⟨by simp, rfl⟩ ?_ ?_
  · rintro i d acc s hd ⟨rfl, rfl⟩
    rw [List.getElem?_map] at hd
    cases q : (List.range row.length)[i]? with
    | none => rw [q] at hd; cases hd
    | some k =>
      rw [q] at hd
      cases hd
      have hk : k < row.length := by simpa using List.mem_of_getElem? q
      have hlr : (row.drop k ++ row.take k).length = row.length := by simp; omega
      refine ⟨_, rfl, ?_⟩
      have hl2 : bits.length ≤ 16777216 := by omega
      simp -dsimp [hl2]
      refine (bitsof_ok hl (by omega) (by omega)).call ?_
      rintro _ s ⟨rfl, rfl⟩
      rw [hlr, rot_bits hk]
      simp -dsimp [List.take_succ, q]
      rfl
  · rintro acc s ⟨rfl, rfl⟩
    rw [List.take_of_length_le (by simp)]
    simp -dsimp [r_any]
    rfl
theorem slets_ok {st : Sto} {bits : List Nat} {low size : Nat} (hb : Bits bits) (hl : bits.length ≤ 100000) (h0 : 1 ≤ size) (h1 : size ≤ 1000) : Ret (f_Server_lets [.obj 4 [.int low, .int size], .str bits] st) (fun d s => d = .bl (isLet (.server low size) bits) ∧ s = st) NX := by
  unfold f_Server_lets b_f_Server_lets
  rw [Ret_body]
  simp -dsimp
  refine (bitsQ_ok hb hl).call ?_
  rintro _ st ⟨rfl, rfl⟩
  simp -dsimp [fldsOf, ix_period]
  refine ⟨okR_of (by omega) (by omega), ?_⟩
  rw [rangeL_map]
  refine any_inv (List.range size) (fun k : Nat => D.int (k : Nat)) (cutLet low size bits) (fun e s => ∃ v : Option D, e = [some (.obj 4 [.int low, .int size]), some (.str bits), v] ∧ s = st) (fun d s => d = .bl true ∧ s = st) ⟨none, rfl, rfl⟩ ?_ ?_ ?_
  · rintro k hk env s ⟨v, rfl, rfl⟩
    have hk' : k < size := by simpa using hk
    refine ⟨_, rfl, ?_⟩
    simp -dsimp [clsOf, tb__lets_cut]
    refine (cutp_ok hl (by omega) (by omega) (by omega)).call ?_
    rintro _ s1 ⟨rfl, rfl⟩
    by_cases hb : cutLet low size bits k = true
    · simp -dsimp [hb]
    · simp -dsimp [hb]
  · rintro env s h ⟨v, rfl, rfl⟩
    simp -dsimp
    exact h
  · rintro d s h ⟨rfl, rfl⟩
    exact ⟨by rw [show isLet (.server low size) bits = true from h], rfl⟩
theorem lets_ok {st : Sto} {k : Kd} {bits : List Nat} (h : k.ok) (hb : Bits bits) (hl : bits.length ≤ 100000) : ∃ c f, clsOf k.th st = some c ∧ tb_lets c = some f ∧ Ret (f [k.th, .str bits] st) (fun d s => d = .bl (isLet k bits) ∧ s = st) NX := by
  cases k with
  | full =>
    refine ⟨3, f_Full_lets, rfl, rfl, ?_⟩
    have hl2 : bits.length ≤ 16777216 := by omega
    unfold f_Full_lets b_f_Full_lets
    rw [Ret_body]
    simp -dsimp [Kd.th, hl2, isLet]
    by_cases e : bits.count 49 = bits.length <;> simp [e] <;> omega
  | server low size => exact ⟨4, f_Server_lets, rfl, rfl, slets_ok hb hl (by have := h.1; have := h.2.1; omega) (by have := h.2.2; omega)⟩
  | windows row => exact ⟨5, f_Windows_lets, rfl, rfl, wlets_ok hb hl h.1 (by have := h.2.1; omega)⟩
end M
namespace M
open PySem L2 F

def Kd.size : Kd → Nat
  | .full => 1
  | .server _ size => size
  | .windows row => row.length
theorem Kd.size_ok {k : Kd} (h : k.ok) : 1 ≤ k.size ∧ k.size ≤ 48 := by
  cases k with
  | full => exact ⟨by decide, by decide⟩
  | server low size => exact ⟨Nat.le_trans h.1 h.2.1, h.2.2⟩
  | windows row => exact ⟨h.1, Nat.le_trans h.2.1 (by decide)⟩
def worst (len : Nat) : Kd → List (List Nat)
  | .full => [List.replicate len 49]
  | .windows row => (List.range row.length).map fun k => ((repL (len / row.length + 2) row).drop k).take len
  | .server low size => [worstS low (size - low) len]
theorem full_iff {b : List Nat} : isLet .full b = true ↔ b = List.replicate b.length 49 := by
  unfold isLet
  rw [decide_eq_true_iff, List.count_eq_length, List.eq_replicate_iff]
  constructor
  · intro h
    exact ⟨rfl, fun c hc => (h c hc).symm⟩
  · intro h c hc
    exact (h.2 c hc).symm
theorem let_part {k : Kd} (h : k.ok) {b : List Nat} (hb : Bits b) (a n : Nat) (hl : isLet k b = true) : isLet k ((b.drop a).take n) = true := by
  cases k with
  | full =>
    rw [full_iff] at hl ⊢
    rw [hl]
    simp
  | windows row =>
    obtain ⟨k, hk, hw⟩ := List.any_eq_true.mp hl
    have hk' : k < row.length := by simpa using hk
    exact List.any_eq_true.mpr ⟨_, by simpa using Nat.mod_lt (k + a) (show 0 < row.length by omega), win_part hk' hw⟩
  | server low size =>
    obtain ⟨l1, l2, l3⟩ := h
    obtain ⟨f, hf, hw⟩ := List.any_eq_true.mp hl
    have hf' : f < size := by simpa using hf
    obtain ⟨f', h1, h2⟩ := ((cut_iff hb l2 (by omega)).mp hw).part (a := a) (n := n) hf'
    exact List.any_eq_true.mpr ⟨f', by simpa using h1, (cut_iff ((hb.drop _).take _) l2 (by omega)).mpr h2⟩
theorem let_pre {k : Kd} (h : k.ok) {b : List Nat} (hb : Bits b) (n : Nat) (hl : isLet k b = true) : isLet k (b.take n) = true := by
  have := let_part h hb 0 n hl
  rwa [List.drop_zero] at this
theorem cut_rep {row : List Nat} {k len : Nat} (hk : k < row.length) : (((repL (len / row.length + 2) row).drop k).take len).length = len := by
  have hm := Nat.div_add_mod len row.length
  have hr := Nat.mod_lt len (show 0 < row.length by omega)
  rw [List.length_take, List.length_drop, rep_len, Nat.add_mul, Nat.mul_comm]
  omega
theorem worst_ne {k : Kd} (h : k.ok) (len : Nat) : worst len k ≠ [] := by
  cases k with
  | full => simp [worst]
  | windows row =>
    obtain ⟨w1, _⟩ := h
    intro z
    have := congrArg List.length z
    simp [worst] at this
    rw [this] at w1
    simp at w1
  | server low size => simp [worst]
theorem worst_in {k : Kd} (h : k.ok) {len : Nat} {W : List Nat} (hW : W ∈ worst len k) : Bits W ∧ W.length = len ∧ ∀ n, isLet k (W.take n) = true := by
  cases k with
  | full =>
    have e : W = List.replicate len 49 := by simpa [worst] using hW
    subst e
    exact ⟨.ones _, by simp, fun n => by rw [full_iff]; simp⟩
  | windows row =>
    obtain ⟨k, hk, rfl⟩ := List.mem_map.mp hW
    have hk' : k < row.length := by simpa using hk
    have hb : Bits (((repL (len / row.length + 2) row).drop k).take len) := ((h.2.2.1.rep _).drop _).take _
    exact ⟨hb, cut_rep hk', fun n => let_pre (k := .windows row) h hb n (win_let hk')⟩
  | server low size =>
    obtain ⟨l1, l2, l3⟩ := h
    have e : W = worstS low (size - low) len := by simpa [worst] using hW
    subst e
    refine ⟨worstS_bits _ _ _, worstS_len l1, fun n => ?_⟩
    have := worstS_let (gap := size - low) (len := len) (n := n) l1
    rw [show low + (size - low) = size by omega] at this
    exact this
theorem worst_least {k : Kd} (h : k.ok) {len : Nat} {b : List Nat} (hb : Bits b) (hl : isLet k b = true) (hn : b.length ≤ len) : ∃ W ∈ worst len k, (W.take b.length).count 49 ≤ b.count 49 := by
  cases k with
  | full =>
    refine ⟨_, List.mem_singleton.mpr rfl, ?_⟩
    rw [full_iff] at hl
    rw [hl]
    simp
    omega
  | windows row =>
    obtain ⟨k, hk, hw⟩ := List.any_eq_true.mp hl
    have hk' : k < row.length := by simpa using hk
    refine ⟨_, List.mem_map.mpr ⟨k, hk, rfl⟩, ?_⟩
    rw [← win_eq hk' hn hw]
    exact Nat.le_refl _
  | server low size =>
    obtain ⟨l1, l2, l3⟩ := h
    obtain ⟨f, hf, hw⟩ := List.any_eq_true.mp hl
    refine ⟨_, List.mem_singleton.mpr rfl, ?_⟩
    have h1 := zeros_most (by omega) (by omega) ((cut_iff hb l2 (by omega)).mp hw)
    have h2 := worstS_zeros (gap := size - low) (len := len) l1 hn
    rw [show low + (size - low) = size by omega] at h2
    have h3 := count_bits hb
    have h4 := count_bits ((worstS_bits low (size - low) len).take b.length)
    rw [List.length_take, worstS_len l1] at h4
    omega
theorem zeros_not {k : Kd} (h : k.ok) : ∃ m, m ≤ 2 * k.size + 1 ∧ isLet k (List.replicate m 48) = false := by
  cases k with
  | full => exact ⟨1, by decide, by decide⟩
  | server low size =>
    obtain ⟨l1, l2, l3⟩ := h
    refine ⟨2 * (size - low) + 1, by show _ ≤ 2 * size + 1; omega, ?_⟩
    have := zeros_server (low := low) (gap := size - low) l1
    rw [show low + (size - low) = size by omega] at this
    exact this
  | windows row =>
    refine ⟨2 * row.length + 1, Nat.le_refl _, zeros_win h.2.2.2 fun p hp => ?_⟩
    have := (spl_len 49 (row ++ row) []).1 p hp
    rw [List.length_append, List.length_nil] at this
    omega
theorem bits_zero {b : List Nat} (hb : Bits b) (h : b.count 49 = 0) : b = List.replicate b.length 48 := by
  rw [List.eq_replicate_iff]
  refine ⟨rfl, fun c hc => ?_⟩
  rcases hb c hc with z | z
  · exact z
  · subst z
    exact absurd hc (List.count_eq_zero.mp h)
/-- a stretch that is long enough has a one -/
theorem worst_pos {k : Kd} (h : k.ok) {len : Nat} (hl : 2 * k.size + 1 ≤ len) {W : List Nat} (hW : W ∈ worst len k) : 0 < (W.take len).count 49 := by
  obtain ⟨h1, h2, h3⟩ := worst_in h hW
  rcases Nat.eq_zero_or_pos ((W.take len).count 49) with z | z
  · obtain ⟨m, hm, q⟩ := zeros_not h
    have e := bits_zero (h1.take len) z
    have := h3 m
    have e2 : W.take m = List.replicate m 48 := by
      have := congrArg (List.take m) e
      rw [List.take_take, Nat.min_eq_left (by omega), List.take_replicate, List.length_take] at this
      rw [this]
      congr 1
      omega
    rw [e2, q] at this
    cases this
  · exact z
def few (k : Kd) (len n : Nat) : Int := minL ((worst len k).map fun W => (((W.take n).count 49 : Nat) : Int))
theorem minL_min : ∀ {l : List Int}, l ≠ [] → minL l ∈ l ∧ ∀ x ∈ l, minL l ≤ x
  | [], h => absurd rfl h
  | [a], _ => ⟨by simp [minL], fun x hx => by simp at hx; simp [minL, hx]⟩
  | a :: b :: r, _ => by
    obtain ⟨h1, h2⟩ := minL_min (l := b :: r) (by simp)
    show (if minL (b :: r) < a then minL (b :: r) else a) ∈ _ ∧ ∀ x ∈ _, (if minL (b :: r) < a then minL (b :: r) else a) ≤ x
    split
    · rename_i h
      refine ⟨List.mem_cons_of_mem _ h1, fun x hx => ?_⟩
      rcases List.mem_cons.mp hx with e | e
      · omega
      · exact h2 x e
    · rename_i h
      refine ⟨List.mem_cons_self, fun x hx => ?_⟩
      rcases List.mem_cons.mp hx with e | e
      · omega
      · have := h2 x e
        omega
theorem few_in {k : Kd} (h : k.ok) (len n : Nat) : (∃ W ∈ worst len k, few k len n = ((W.take n).count 49 : Nat)) ∧ ∀ W ∈ worst len k, few k len n ≤ ((W.take n).count 49 : Nat) := by
  obtain ⟨h1, h2⟩ := minL_min (l := (worst len k).map fun W => (((W.take n).count 49 : Nat) : Int)) (by simpa using worst_ne h len)
  obtain ⟨W, hW, e⟩ := List.mem_map.mp h1
  exact ⟨⟨W, hW, e.symm⟩, fun V hV => h2 _ (List.mem_map.mpr ⟨V, hV, rfl⟩)⟩
theorem few_let {k : Kd} (h : k.ok) {len : Nat} {b : List Nat} (hb : Bits b) (hl : isLet k b = true) (hn : b.length ≤ len) : few k len b.length ≤ (b.count 49 : Nat) := by
  obtain ⟨W, hW, q⟩ := worst_least h hb hl hn
  have := (few_in h len b.length).2 W hW
  omega
theorem few_nn {k : Kd} (h : k.ok) (len n : Nat) : 0 ≤ few k len n ∧ few k len n ≤ n := by
  obtain ⟨⟨W, hW, e⟩, _⟩ := few_in h len n
  have := List.count_le_length (a := 49) (l := W.take n)
  rw [List.length_take] at this
  omega
theorem few_pos {k : Kd} (h : k.ok) {len : Nat} (hl : 2 * k.size + 1 ≤ len) : 0 < few k len len := by
  obtain ⟨⟨W, hW, e⟩, _⟩ := few_in h len len
  have := worst_pos h hl hW
  omega
end M
namespace M
open PySem L2 F

theorem size_ok {st : Sto} {k : Kd} (h : k.ok) : Ret (f__law_size [k.d] st) (fun d s => d = .int k.size ∧ st = s) NX := by
  unfold f__law_size b_f__law_size
  rw [Ret_body]
  cases k with
  | full => simp -dsimp [Kd.d, Kd.size]
  | server low size => simp -dsimp [Kd.d, Kd.size]
  | windows row =>
    have : row.length ≤ 16777216 := by have := h.2.1; omega
    simp -dsimp [Kd.d, Kd.size, this]
theorem worst_rows_ok {st : Sto} {k : Kd} {len : Nat} (h : k.ok) (hl : len ≤ 2000) : Ret (f__law_worst_rows [k.d, .int len] st) (fun d s => d = .lst ((worst len k).map .str) ∧ st = s) NX := by
  unfold f__law_worst_rows b_f__law_worst_rows
  rw [Ret_body]
  simp -dsimp
  refine (size_ok h).call ?_
  rintro _ _ ⟨rfl, rfl⟩
  cases k with
  | full =>
    simp -dsimp [Kd.d, worst]
    omega
  | windows row =>
    obtain ⟨w1, w2, w3, w4⟩ := h
    have hr : row.length ≤ 16777216 := by omega
    have hd : bDiv (len : Int) row.length = true := bDiv_small (by omega) (by omega)
    have hq : (len : Int) / row.length + 2 = ((len / row.length + 2 : Nat) : Int) := rfl
    have hq2 := Nat.div_le_self len row.length
    have hm := Nat.div_mul_le_self len row.length
    have hmm : (len / row.length + 2) * row.length ≤ 16777216 := by rw [Nat.add_mul]; omega
    have hmm2 : row.length * (len / row.length + 2) ≤ 16777216 := by rw [Nat.mul_comm]; exact hmm
    have hz : (0 : Int) ≤ ((len / row.length + 2 : Nat) : Int) := Int.natCast_nonneg _
    have hz2 : ((len / row.length + 2 : Nat) : Int) < 2147483648 := by omega
    have hz3 : (-2147483648 : Int) < ((len / row.length + 2 : Nat) : Int) := by omega
    simp -dsimp [Kd.d, Kd.size, rangeL_map]
    refine ⟨okR_of (by omega) (by omega), hr, ?_⟩
    rw [comp_fun (h := fun k => D.str (((repL (len / row.length + 2) row).drop k).take len)) fun k _ => ⟨_, rfl, by
      have e : cutD (List.replicate (len / row.length + 2) row).flatten (some (k : Int)) (some ((k : Int) + (len : Int))) = ((repL (len / row.length + 2) row).drop k).take len := by
        rw [cut_in (by omega) (by omega)]
        unfold repL
        congr 1
        omega
      simp -dsimp [Kd.d, hd, hq, hz2, hz3, hmm, hmm2, e, -Int.natCast_add, -Int.natCast_ediv]⟩]
    simp -dsimp [worst]
  | server low size =>
    obtain ⟨l1, l2, l3⟩ := h
    obtain ⟨gap, rfl⟩ : ∃ gap, size = low + gap := ⟨size - low, by omega⟩
    have hd : bDiv (len : Int) (low + gap : Nat) = true := bDiv_small (by omega) (by omega)
    have hq : (len : Int) / (low + gap : Nat) + 2 = ((len / (low + gap) + 2 : Nat) : Int) := rfl
    have hq2 := Nat.div_le_self len (low + gap)
    have hm := Nat.div_mul_le_self len (low + gap)
    have hmm : (len / (low + gap) + 2) * (low + gap) ≤ 10000000 := by rw [Nat.add_mul]; omega
    have e1 : ((low + gap : Nat) : Int) - (low : Int) = (gap : Nat) := by omega
    have hz : (0 : Int) ≤ ((len / (low + gap) + 2 : Nat) : Int) := Int.natCast_nonneg _
    simp -dsimp [Kd.d, Kd.size, hd, hq, e1, -Int.natCast_add, -Int.natCast_ediv]
    have e : ∀ X : List Nat, cutD X (some (low : Int)) (some ((low : Int) + (len : Int))) = (X.drop low).take len := fun X => by
      rw [cut_in (by omega) (by omega)]
      congr 1
      omega
    rw [e]
    have hw : worst len (Kd.server low (low + gap)) = [worstS low gap len] := by
      show [worstS low (low + gap - low) len] = _
      rw [show low + gap - low = gap by omega]
    have c1 : (low + gap) * (len / (low + gap) + 2) = (len / (low + gap) + 2) * (low + gap) := Nat.mul_comm _ _
    have c2 : (gap + low) * (len / (low + gap) + 2) = (len / (low + gap) + 2) * (low + gap) := by rw [Nat.add_comm gap low]; exact c1
    have c3 : (len / (low + gap) + 2) * (gap + low) = (len / (low + gap) + 2) * (low + gap) := by rw [Nat.add_comm gap low]
    rw [hw]
    unfold worstS repL
    and_intros
    all_goals try omega
    all_goals simp
theorem number_ok {st : Sto} {a b : Int} : Ret (f__law_is_number [.int a, .int b] st) (fun d s => d = .bl (decide (a = b)) ∧ st = s) NX := by
  unfold f__law_is_number b_f__law_is_number
  rw [Ret_body]
  have i1 : isiT isiTb (.b "int") (.b "int") = some true := by decide +kernel
  have i2 : isiT isiTb (.b "int") (.b "bool") = some false := by decide +kernel
  simp -dsimp [fIsi, typeD, clsD, i1, i2]
theorem rep_count (q : Nat) (cyc : List Nat) : (repL q cyc).count 49 = q * cyc.count 49 := by
  unfold repL
  induction q with
  | zero => simp
  | succ q ih => rw [List.replicate_succ, List.flatten_cons, List.count_append, ih, Nat.add_mul]; omega
theorem ones_ok {st : Sto} {lead cyc : List Nat} {n : Nat} (hl : lead.length ≤ 100) (hc0 : 1 ≤ cyc.length) (hc : cyc.length ≤ 100) (hn : n ≤ 10000) : Ret (f_ones [.tup [.str lead, .str cyc], .int n] st) (fun d s => d = .int ((curveBits lead cyc n).count 49 : Nat) ∧ st = s) NX := by
  unfold f_ones b_f_ones
  rw [Ret_body]
  have h1 : lead.length ≤ 16777216 := by omega
  have h2 : cyc.length ≤ 16777216 := by omega
  by_cases hz : n = 0
  · subst hz
    simp -dsimp [curveBits]
  · have hz' : ¬ (n : Int) ≤ 0 := by omega
    by_cases hn2 : n ≤ lead.length
    · simp -dsimp [hz, hn2, h1, cut_to, curveBits]
    · have q0 : (n : Int) - lead.length = ((n - lead.length : Nat) : Int) := by omega
      have q1 : ((n - lead.length : Nat) : Int) / cyc.length = (((n - lead.length) / cyc.length : Nat) : Int) := rfl
      have q2 : ((n - lead.length : Nat) : Int) % cyc.length = (((n - lead.length) % cyc.length : Nat) : Int) := rfl
      have q3 := Nat.div_le_self (n - lead.length) cyc.length
      have q4 := Nat.mod_lt (n - lead.length) (show 0 < cyc.length by omega)
      have q5 := List.count_le_length (a := 49) (l := cyc)
      have m1 : bMul (((n - lead.length) / cyc.length : Nat) : Int) (cyc.count 49 : Nat) = true := bMul_small (by rw [Int.natAbs_natCast]; omega) (by rw [Int.natAbs_natCast]; omega)
      have e : ∀ q : Nat, cutD cyc none (some (q : Int)) = cyc.take q := fun q => by rw [cut_to (by omega)]; rfl
      simp -dsimp [hz, hn2, h1, h2, q0, q1, q2, m1, e, -Int.natCast_ediv, -Int.natCast_emod]
      refine ⟨⟨by omega, by omega⟩, ?_⟩
      unfold curveBits
      rw [if_neg hn2, List.count_append, List.count_append, rep_count]
      push_cast
      rfl
end M
namespace M
open PySem L2 F

/-- the curves of a kind -/
def curvesOf : Kd → List (List Nat × List Nat)
  | .full => [([], [49])]
  | .windows row => (List.range row.length).map fun k => ([], row.drop k ++ row.take k)
  | .server low size => [(List.replicate (2 * (size - low)) 48, List.replicate low 49 ++ List.replicate (size - low) 48)]
def curveD (c : List Nat × List Nat) : D := .tup [.str c.1, .str c.2]
theorem curves_all {st : Sto} {k : Kd} (h : k.ok) : ∃ f, tb_curves (match k with | .full => 3 | .server _ _ => 4 | .windows _ => 5) = some f ∧ Ret (f [k.th] st) (fun d s => d = .lst ((curvesOf k).map curveD) ∧ st = s) NX := by
  cases k with
  | full =>
    refine ⟨f_Full_curves, rfl, ?_⟩
    unfold f_Full_curves b_f_Full_curves
    rw [Ret_body]
    simp -dsimp [curvesOf, curveD]
  | server low size =>
    refine ⟨f_Server_curves, rfl, ?_⟩
    obtain ⟨l1, l2, l3⟩ := h
    obtain ⟨gap, rfl⟩ : ∃ gap, size = low + gap := ⟨size - low, by omega⟩
    have e1 : ((low + gap : Nat) : Int) - (low : Int) = (gap : Nat) := by omega
    have e2 : (2 : Int) * (gap : Nat) = ((2 * gap : Nat) : Int) := by omega
    have m1 : bMul 2 (gap : Nat) = true := bMul_small (by decide) (by omega)
    have e3 : low + gap - low = gap := by omega
    unfold f_Server_curves b_f_Server_curves
    rw [Ret_body]
    simp -dsimp [Kd.th, fldsOf, ix_period, ix_budget, e1, e2, m1, curvesOf, curveD, e3, -Int.natCast_add, -Int.natCast_mul]
    and_intros
    all_goals omega
  | windows row =>
    refine ⟨f_Windows_curves, rfl, ?_⟩
    refine (curves_ok (by have := h.2.1; omega)).call ?_
    rintro _ _ ⟨rfl, rfl⟩
    simp [curvesOf, curveD]
theorem curve_small {k : Kd} (h : k.ok) : (∀ c ∈ curvesOf k, c.1.length ≤ 100 ∧ 1 ≤ c.2.length ∧ c.2.length ≤ 100) ∧ curvesOf k ≠ [] ∧ (curvesOf k).length ≤ 100 := by
  cases k with
  | full => exact ⟨fun c hc => by
      have : c = ([], [49]) := by simpa [curvesOf] using hc
      subst this
      decide, by simp [curvesOf], by simp [curvesOf]⟩
  | server low size =>
    obtain ⟨l1, l2, l3⟩ := h
    refine ⟨fun c hc => ?_, by simp [curvesOf], by simp [curvesOf]⟩
    have : c = (List.replicate (2 * (size - low)) 48, List.replicate low 49 ++ List.replicate (size - low) 48) := by simpa [curvesOf] using hc
    subst this
    simp
    omega
  | windows row =>
    obtain ⟨w1, w2, w3⟩ := h
    refine ⟨fun c hc => ?_, ?_, by simp [curvesOf]; omega⟩
    · obtain ⟨k, hk, rfl⟩ := List.mem_map.mp hc
      have hk' : k < row.length := by simpa using hk
      simp
      omega
    · simp [curvesOf]
      intro z
      rw [z] at w1
      simp at w1
/-- the curves' first bits are those of the worst rows -/
theorem curves_worst {k : Kd} (h : k.ok) {len n : Nat} (hn : n ≤ len) : (curvesOf k).map (fun c => curveBits c.1 c.2 n) = (worst len k).map fun W => W.take n := by
  cases k with
  | full =>
    simp [curvesOf, worst, curveBits]
    have e : min n len = n := by omega
    rw [e]
    split
    · rename_i z
      subst z
      simp
    · simp [repL, Nat.mod_one]
  | windows row =>
    obtain ⟨w1, w2, w3⟩ := h
    simp only [curvesOf, worst, List.map_map]
    refine List.map_congr_left fun k hk => ?_
    have hk' : k < row.length := by simpa using hk
    have hlr : (row.drop k ++ row.take k).length = row.length := by simp; omega
    show curveBits [] (row.drop k ++ row.take k) n = (((repL (len / row.length + 2) row).drop k).take len).take n
    have e := rot_bits (n := n) hk'
    have e2 : curveBits [] (row.drop k ++ row.take k) n = repL (n / row.length) (row.drop k ++ row.take k) ++ (row.drop k ++ row.take k).take (n % row.length) := by
      unfold curveBits
      rw [hlr]
      by_cases hz : n = 0
      · subst hz
        simp [repL]
      · rw [if_neg (by simp; exact hz)]
        simp
    rw [e2, e]
    have hw := win_let (len := n) hk'
    have e3 := win_eq (row := row) (len := len) (b := ((repL (n / row.length + 2) row).drop k).take n) hk' (by rw [cut_rep hk']; exact hn) (by unfold winAt; rw [cut_rep hk']; exact decide_eq_true rfl)
    rw [cut_rep hk'] at e3
    exact e3
  | server low size =>
    obtain ⟨l1, l2, l3⟩ := h
    obtain ⟨gap, rfl⟩ : ∃ gap, size = low + gap := ⟨size - low, by omega⟩
    have e3 : low + gap - low = gap := by omega
    simp only [curvesOf, worst, List.map_cons, List.map_nil, e3]
    rw [worstS_curve l1 hn]
end M
namespace M
open PySem L2 F

theorem leastones_ok {st : Sto} {k : Kd} {len n : Nat} (h : k.ok) (hn : n ≤ len) (hl : len ≤ 2000) : Ret (f__least_ones [.lst ((curvesOf k).map curveD), .int n] st) (fun d s => d = .int (few k len n) ∧ st = s) NX := by
  obtain ⟨c1, c2, c3⟩ := curve_small h
  unfold f__least_ones b_f__least_ones
  rw [Ret_body]
  simp -dsimp
  refine ⟨by omega, ?_⟩
  refine comp_inv (fun i acc s => acc = ((curvesOf k).take i).map (fun c => D.int (((curveBits c.1 c.2 n).count 49 : Nat) : Int)) ∧ st = s) ⟨by simp, rfl⟩ ?_ ?_
  · rintro i d acc _ hd ⟨rfl, rfl⟩
    rw [List.getElem?_map] at hd
    cases q : (curvesOf k)[i]? with
    | none => rw [q] at hd; cases hd
    | some c =>
      rw [q] at hd
      cases hd
      have hc := c1 c (List.mem_of_getElem? q)
      refine ⟨_, rfl, ?_⟩
      simp -dsimp
      refine (ones_ok (lead := c.1) (cyc := c.2) hc.1 hc.2.1 hc.2.2 (by omega)).call ?_
      rintro _ _ ⟨rfl, rfl⟩
      simp -dsimp [List.take_succ, q]
  · rintro acc _ ⟨rfl, rfl⟩
    rw [List.take_of_length_le (by simp)]
    simp -dsimp [r_minL c2]
    unfold few
    have := congrArg (List.map fun X : List Nat => ((X.count 49 : Nat) : Int)) (curves_worst h hn)
    rw [List.map_map, List.map_map] at this
    exact congrArg minL this
theorem least_ok {st : Sto} {k : Kd} {len n : Nat} (h : k.ok) (hn : n ≤ len) (hl : len ≤ 2000) : ∃ c f, clsOf k.th st = some c ∧ tb_least c = some f ∧ Ret (f [k.th, .int n] st) (fun d s => d = .int (few k len n) ∧ st = s) NX := by
  obtain ⟨f, hf, hr⟩ := curves_all (st := st) h
  cases k with
  | full =>
    refine ⟨3, f_Full_least, rfl, rfl, ?_⟩
    unfold f_Full_least b_f_Full_least
    rw [Ret_body]
    have e : clsOf Kd.full.th st = some 3 := rfl
    simp -dsimp [e, hf]
    refine hr.call ?_
    rintro _ _ ⟨rfl, rfl⟩
    simp -dsimp
    refine (leastones_ok h hn hl).call ?_
    rintro _ _ ⟨rfl, rfl⟩
    simp -dsimp
  | server low size =>
    refine ⟨4, f_Server_least, rfl, rfl, ?_⟩
    unfold f_Server_least b_f_Server_least
    rw [Ret_body]
    have e : clsOf (Kd.server low size).th st = some 4 := rfl
    simp -dsimp [e, hf]
    refine hr.call ?_
    rintro _ _ ⟨rfl, rfl⟩
    simp -dsimp
    refine (leastones_ok h hn hl).call ?_
    rintro _ _ ⟨rfl, rfl⟩
    simp -dsimp
  | windows row =>
    refine ⟨5, f_Windows_least, rfl, rfl, ?_⟩
    unfold f_Windows_least b_f_Windows_least
    rw [Ret_body]
    have e : clsOf (Kd.windows row).th st = some 5 := rfl
    simp -dsimp [e, hf]
    refine hr.call ?_
    rintro _ _ ⟨rfl, rfl⟩
    simp -dsimp
    refine (leastones_ok h hn hl).call ?_
    rintro _ _ ⟨rfl, rfl⟩
    simp -dsimp
theorem worst_len {k : Kd} (h : k.ok) (len : Nat) : (worst len k).length ≤ 48 := by
  cases k with
  | full => simp [worst]
  | windows row => have := h.2.1; simp [worst]; omega
  | server low size => simp [worst]
/-- the list of fewest ones -/
def fewD (k : Kd) (len m : Nat) : D := .lst ((List.range m).map fun n => .int (few k len n))
theorem few_at {k : Kd} {len m n : Nat} (h : n < m) : atI ((List.range m).map fun n => D.int (few k len n)) (n : Nat) = some (.int (few k len n)) := by
  rw [atI_in (by omega) (by simp; omega)]
  simp
theorem reached_ok {st : Sto} {k : Kd} {len m : Nat} {step : Int} (h : k.ok) (hm : m ≤ len + 1) (hl : len ≤ 2000) (hs : 0 < step) : Ret (f__law_is_reached [k.th, .lst ((worst len k).map .str), fewD k len m, .int step] st) (fun d s => d = .bl true ∧ st = s) NX := by
  unfold f__law_is_reached b_f__law_is_reached fewD
  rw [Ret_body]
  have hms : ∀ z, bMod z step = true := fun z => bMod_pos hs
  simp -dsimp
  refine ⟨okR_of (by omega) (by omega), ?_⟩
  rw [rangeL_map]
  refine loop_inv (fun i e s => ∃ v4 v5 : Option D, e = [some k.th, some (.lst ((worst len k).map .str)), some (.lst ((List.range m).map fun n => .int (few k len n))), some (.int step), v4, v5, none] ∧ st = s) ⟨none, none, rfl, rfl⟩ ?_ ?_
  · rintro i d env _ hd ⟨v4, v5, rfl, rfl⟩
    rw [List.getElem?_map] at hd
    cases q : (List.range m)[i]? with
    | none => rw [q] at hd; cases hd
    | some i' =>
      rw [q] at hd
      cases hd
      have hi : i < m := by simpa using (List.getElem?_eq_some_iff.mp q).1
      rw [List.getElem?_range hi] at q
      cases q
      refine ⟨_, rfl, ?_⟩
      refine OutW.seq (fun e s => ∃ v5, e = [some k.th, some (.lst ((worst len k).map .str)), some (.lst ((List.range m).map fun n => .int (few k len n))), some (.int step), some (.int (i : Nat)), v5, none] ∧ st = s) ?_ ?_
      · obtain ⟨c, f, e1, e2, e3⟩ := least_ok (st := st) (len := len) h (show i ≤ len by omega) hl
        simp -dsimp [e1, e2]
        refine e3.call ?_
        rintro _ _ ⟨rfl, rfl⟩
        simp -dsimp [few_at hi]
        refine number_ok.call ?_
        rintro _ _ ⟨rfl, rfl⟩
        simp -dsimp
      rintro _ _ ⟨v5, rfl, rfl⟩
      have hgoal : ∀ v5' : Option D, (fun (i : Nat) (e : F.Env) (s : Sto) => ∃ v4 v5 : Option D, e = [some k.th, some (.lst ((worst len k).map .str)), some (.lst ((List.range m).map fun n => .int (few k len n))), some (.int step), v4, v5, none] ∧ st = s) (i + 1) [some k.th, some (.lst ((worst len k).map .str)), some (.lst ((List.range m).map fun n => .int (few k len n))), some (.int step), some (.int (i : Nat)), v5', none] st := fun v5' => ⟨_, _, rfl, rfl⟩
      have body : OutW (sSeq (sSet 5 (eLcA false (vAny (eVar 1)) (gN 6) (tOf (eBin fEq (eBM isStr fCountS (eSl false (eVar 6) oNone (oSome (eVar 4))) (aCons (eC (.str [49])) aNil)) (eBin fIx (eVar 2) (eVar 4)))) (eSl false (eVar 6) oNone (oSome (eVar 4))) [6])) (sIf (tOrF (tOf (eBin fIsNot (eMeth tb_lets [] (eVar 0) (aCons (eBin fIx (eVar 5) (eC (.int 0))) aNil)) (eC (.bl true)))) (tOf (eBin fIsNot (eMeth tb_lets [] (eVar 0) (aCons (eBin fIx (eVar 5) (eNeg (eC (.int 1)))) aNil)) (eC (.bl true)))))
    (sRet (eC (.bl false)))
    sNx) [some k.th, some (.lst ((worst len k).map .str)), some (.lst ((List.range m).map fun n => .int (few k len n))), some (.int step), some (.int (i : Nat)), v5, none] st) (fun e s => ∃ v5', e = [some k.th, some (.lst ((worst len k).map .str)), some (.lst ((List.range m).map fun n => .int (few k len n))), some (.int step), some (.int (i : Nat)), v5', none] ∧ st = s) (fun _ _ => False) (fun _ _ => False) (fun _ _ => False) (fun _ _ _ _ => False) := by
        have hwl := worst_len h len
        have hwi := fun W hW => worst_in (len := len) (W := W) h hW
        simp -dsimp
        refine ⟨by omega, ?_⟩
        rw [comp_filt (q := fun W => decide ((((W.take i).count 49 : Nat) : Int) = few k len i)) (h := fun W => D.str (W.take i)) fun W hW => ⟨_, rfl, by
          have : W.length ≤ 16777216 := by rw [(hwi W hW).2.1]; omega
          have e : cutD W none (some (i : Int)) = W.take i := by rw [cut_to (by omega)]; rfl
          simp -dsimp [this, e, few_at hi], fun _ => by
          have : W.length ≤ 16777216 := by rw [(hwi W hW).2.1]; omega
          have e : cutD W none (some (i : Int)) = W.take i := by rw [cut_to (by omega)]; rfl
          simp -dsimp [this, e]⟩]
        obtain ⟨⟨W, hW, e⟩, _⟩ := few_in h len i
        have hf : (worst len k).filter (fun W => decide ((((W.take i).count 49 : Nat) : Int) = few k len i)) ≠ [] := by
          intro z
          have := List.filter_eq_nil_iff.mp z W hW
          simp [e] at this
        have hfm : ∀ W ∈ (worst len k).filter (fun W => decide ((((W.take i).count 49 : Nat) : Int) = few k len i)), W ∈ worst len k := fun W hW => (List.mem_filter.mp hW).1
        generalize (worst len k).filter (fun W => decide ((((W.take i).count 49 : Nat) : Int) = few k len i)) = ts at hf hfm
        have hpos := List.length_pos_iff.mpr hf
        have a0 : atI (ts.map fun W => D.str (W.take i)) 0 = some (.str ((ts[0]).take i)) := by
          rw [atI_in (by decide) (by simp; omega)]
          simp
        have a1 : atI (ts.map fun W => D.str (W.take i)) (-1) = some (.str ((ts[ts.length - 1]).take i)) := by
          rw [atI_last (by simpa using hf), List.getLast?_map, List.getLast?_eq_getElem?, List.getElem?_eq_getElem (by omega)]
          rfl
        have hl0 := fun (W : List Nat) (hW : W ∈ ts) => hwi W (hfm W hW)
        have b0 := hl0 _ (List.getElem_mem (show 0 < ts.length by omega))
        have b1 := hl0 _ (List.getElem_mem (show ts.length - 1 < ts.length by omega))
        obtain ⟨c, f, q1, q2, q3⟩ := lets_ok (st := st) h (b0.1.take i) (by rw [List.length_take, b0.2.1]; omega)
        obtain ⟨c', f', q1', q2', q3'⟩ := lets_ok (st := st) h (b1.1.take i) (by rw [List.length_take, b1.2.1]; omega)
        simp -dsimp [q1, q2, a0, a1]
        refine q3.call ?_
        rintro _ _ ⟨rfl, rfl⟩
        rw [q1] at q1'
        cases q1'
        rw [q2] at q2'
        cases q2'
        simp -dsimp [b0.2.2 i, q1, q2, a0, a1]
        refine q3'.call ?_
        rintro _ _ ⟨rfl, rfl⟩
        simp -dsimp [b1.2.2 i]
      by_cases hc : (i : Int) % step = 0 ∨ i + 1 = m
      · rw [r_sIf, OutW_andS]
        refine Ret.mono (P := fun b s => b = true ∧ st = s) (X := NX) ?_ ?_ ?_
        · by_cases hc1 : (i : Int) % step = 0
          · simp -dsimp [hms, hc1]
          · have hc2 := hc.resolve_left hc1
            have hc3 : (i : Int) + 1 = (m : Nat) := by omega
            simp -dsimp [hms, hc1, hc3]
        · rintro b _ ⟨rfl, rfl⟩
          rw [if_pos rfl]
          refine body.mono ?_ (fun _ _ z => z.elim) (fun _ _ z => z.elim) (fun _ _ z => z.elim) (fun _ _ _ _ z => z.elim)
          rintro _ _ ⟨v5', rfl, rfl⟩
          exact hgoal _
        · rintro _ _ _ z
          exact z.elim
      · have hc1 : ¬ (i : Int) % step = 0 := fun z => hc (.inl z)
        have hc3 : ¬ (i : Int) + 1 = (m : Nat) := fun z => hc (.inr (by omega))
        simp -dsimp [hms, hc1, hc3]
  · rintro env _ ⟨v4, v5, rfl, rfl⟩
    simp -dsimp
end M
namespace M
open PySem L2 F

/-- the counts of a row's first bits, up to j -/
def cntD (W : List Nat) (j : Nat) : List D := (List.range (j + 1)).map fun n => .int (((W.take n).count 49 : Nat) : Int)
theorem cnt_last (W : List Nat) (j : Nat) : atI (cntD W j) (-1) = some (.int (((W.take j).count 49 : Nat) : Int)) := by
  unfold cntD
  rw [atI_last (by simp), List.getLast?_map]
  simp [List.range_succ]
theorem cnt_at {W : List Nat} {j n : Nat} (h : n ≤ j) : atI (cntD W j) (n : Nat) = some (.int (((W.take n).count 49 : Nat) : Int)) := by
  unfold cntD
  rw [atI_in (by omega) (by simp; omega)]
  simp
theorem cnt_snoc {W : List Nat} {j : Nat} (h : j < W.length) : cntD W j ++ [.int ((((W.take j).count 49 : Nat) : Int) + (if W[j] = 49 then 1 else 0))] = cntD W (j + 1) := by
  unfold cntD
  rw [List.range_succ (n := j + 1), List.map_append, List.map_singleton, List.take_succ_eq_append_getElem h, List.count_append]
  congr 3
  by_cases e : W[j] = 49
  · rw [if_pos e, e]
    simp
  · rw [if_neg e, List.count_singleton]
    simp [e]
/-- the rows' counts stand behind st: the first k rows whole, the next one up to j -/
structure Cs (st s : Sto) (rows : List (List Nat)) (len k j : Nat) : Prop where
  sm : Sm [] st s
  at_ : ∀ (r : Nat) (W : List Nat), rows[r]? = some W → s[st.length + r]? = some (.lst (cntD W (if r < k then len else if r = k then j else 0)))
theorem Cs.go {st s : Sto} {rows : List (List Nat)} {len k j : Nat} {W : List Nat} (h : Cs st s rows len k j) (hW : rows[k]? = some W) : Cs st (s.set (st.length + k) (.lst (cntD W (j + 1)))) rows len k (j + 1) := by
  refine ⟨?_, fun r V hr => ?_⟩
  · refine Sm.new (i := st.length + k) ((h.sm.wide (ey := [st.length + k]) (by simp)).trans (Sm.set (by simp))) (by omega)
  · by_cases e : r = k
    · subst e
      rw [hW] at hr
      cases hr
      rw [set_self, h.at_ r W hW]
      simp
    · rw [List.getElem?_set_ne (by omega), h.at_ r V hr]
      simp [e]
theorem fewest_ok {st : Sto} {k : Kd} {len : Nat} (h : k.ok) (hl : len ≤ 2000) : Ret (f__law_fewest [.lst ((worst len k).map .str), .int len] st) (fun d s => d = fewD k len (len + 1) ∧ Sm [] st s) NX := by
  have hwl := worst_len h len
  have hwi := fun W hW => worst_in (len := len) (W := W) h hW
  have hne := worst_ne h len
  unfold f__law_fewest b_f__law_fewest
  rw [Ret_body]
  refine ⟨rfl, OutW.seq (fun e s => e = [some (.lst ((worst len k).map .str)), some (.int len), some (.lst ((List.range (worst len k).length).map fun r => D.ref (st.length + r))), none, none, none, none, none] ∧ Cs st s (worst len k) len 0 0) ?_ ?_⟩
  · simp -dsimp
    refine ⟨by omega, ?_⟩
    refine comp_inv (fun i acc s => acc = (List.range i).map (fun r => D.ref (st.length + r)) ∧ s = st ++ List.replicate i (.lst [.int 0])) ⟨by simp, by simp⟩ ?_ ?_
    · rintro i d acc s hd ⟨rfl, rfl⟩
      refine ⟨_, rfl, ?_⟩
      simp -dsimp [List.range_succ, List.replicate_succ']
    · rintro acc s ⟨rfl, rfl⟩
      simp -dsimp
      refine ⟨Sm.app, fun r W hr => ?_⟩
      have hlt := (List.getElem?_eq_some_iff.mp hr).1
      rw [List.getElem?_append_right (by omega), show st.length + r - st.length = r by omega, List.getElem?_replicate, if_pos hlt]
      simp [cntD]
  rintro _ s0 ⟨rfl, C0⟩
  refine OutW.seq (fun e s => ∃ v3 v4 : Option D, e = [some (.lst ((worst len k).map .str)), some (.int len), some (.lst ((List.range (worst len k).length).map fun r => D.ref (st.length + r))), v3, v4, none, none, none] ∧ Cs st s (worst len k) len (worst len k).length 0) ?_ ?_
  · simp -dsimp
    refine ⟨okR_of (by omega) (by omega), ?_⟩
    rw [rangeL_map]
    refine loop_inv (fun i e s => ∃ v3 v4 : Option D, e = [some (.lst ((worst len k).map .str)), some (.int len), some (.lst ((List.range (worst len k).length).map fun r => D.ref (st.length + r))), v3, v4, none, none, none] ∧ Cs st s (worst len k) len i 0) ⟨none, none, rfl, C0⟩ ?_ ?_
    · rintro i d env s hd ⟨v3, v4, rfl, C⟩
      rw [List.getElem?_map] at hd
      cases q : (List.range (worst len k).length)[i]? with
      | none => rw [q] at hd; cases hd
      | some i' =>
        rw [q] at hd
        cases hd
        have hi : i < (worst len k).length := by simpa using (List.getElem?_eq_some_iff.mp q).1
        rw [List.getElem?_range hi] at q
        cases q
        have hW : (worst len k)[i]? = some (worst len k)[i] := List.getElem?_eq_getElem hi
        obtain ⟨w1, w2, w3⟩ := hwi _ (List.getElem_mem hi)
        generalize (worst len k)[i] = W at hW w1 w2 w3
        have g1 : atI ((worst len k).map D.str) (i : Nat) = some (.str W) := by
          rw [atI_in (by omega) (by simp; omega)]
          simp
          exact (List.getElem?_eq_some_iff.mp hW).2
        have g2 : atI ((List.range (worst len k).length).map fun r => D.ref (st.length + r)) (i : Nat) = some (.ref (st.length + i)) := by
          rw [atI_in (by omega) (by simp; omega)]
          simp
        refine ⟨_, rfl, ?_⟩
        simp -dsimp [g1]
        refine loop_inv (fun j e s => ∃ v4 : Option D, e = [some (.lst ((worst len k).map .str)), some (.int len), some (.lst ((List.range (worst len k).length).map fun r => D.ref (st.length + r))), some (.int (i : Nat)), v4, none, none, none] ∧ Cs st s (worst len k) len i j) ⟨v4, rfl, C⟩ ?_ ?_
        · rintro j d env s hd ⟨v4, rfl, C⟩
          rw [List.getElem?_map] at hd
          cases q : W[j]? with
          | none => rw [q] at hd; cases hd
          | some c =>
            rw [q] at hd
            cases hd
            obtain ⟨hj, hc⟩ := List.getElem?_eq_some_iff.mp q
            have ca := C.at_ i W hW
            simp at ca
            have hcl : (cntD W j).length < 16777216 := by simp [cntD]; omega
            refine ⟨_, rfl, ?_⟩
            have hsn := cnt_snoc hj
            rw [hc] at hsn
            simp -dsimp [g2, r_isLst ca, ca, cnt_last, r_append ca, hcl, hsn]
            exact C.go hW
        · rintro env s ⟨v4, rfl, C⟩
          rw [List.length_map, w2] at C
          refine ⟨_, _, rfl, C.sm, fun r V hr => ?_⟩
          rw [C.at_ r V hr]
          congr 3
          by_cases e1 : r < i
          · simp [e1, show r < i + 1 by omega]
          · by_cases e2 : r = i
            · simp [e2]
            · simp [e1, e2, show ¬ r < i + 1 by omega]
    · rintro env s ⟨v3, v4, rfl, C⟩
      rw [List.length_map, List.length_range] at C
      exact ⟨_, _, rfl, C⟩
  rintro _ s1 ⟨v3, v4, rfl, C1⟩
  have key : ∀ env : F.Env, ∀ n : Nat, n < len + 1 → env[2]? = some (some (.lst ((List.range (worst len k).length).map fun r => D.ref (st.length + r)))) → env[6]? = some (some (.int (n : Nat))) → env[7]? = some none → env.length = 8 → (eCall fMin (aCons (eLcA false (vAny (eVar 2)) (gN 7) tYesF (eBin fIx (eVar 7) (eVar 6)) [7]) aNil)) env s1 = .ok (.int (few k len n)) s1 := by
    intro env n hn h2 h6 h7 h8
    have el : env.set 7 none = env := by
      refine List.ext_getElem? fun i => ?_
      rw [List.getElem?_set]
      split
      · rename_i e
        subst e
        rw [h7, if_pos (by omega)]
      · rfl
    simp -dsimp [h2, el]
    have e48 : (worst len k).length ≤ 16777216 := by omega
    rw [if_pos e48, comp_fun (h := fun r => D.int ((((((worst len k)[r]?).getD []).take n).count 49 : Nat) : Int)) fun r hr => ⟨_, rfl, by
      have hr' : r < (worst len k).length := by simpa using hr
      have hW : (worst len k)[r]? = some (worst len k)[r] := List.getElem?_eq_getElem hr'
      have ca := C1.at_ r _ hW
      rw [if_pos hr'] at ca
      have e6 : (env.set 7 (some (D.ref (st.length + r))))[6]? = some (some (.int (n : Nat))) := by rw [List.getElem?_set_ne (by decide)]; exact h6
      have e7 : (env.set 7 (some (D.ref (st.length + r))))[7]? = some (some (D.ref (st.length + r))) := List.getElem?_set_self (by omega)
      simp -dsimp [e6, e7, ca, cnt_at (show n ≤ len by omega), hW]⟩]
    simp -dsimp [r_minL (l := List.range (worst len k).length) (by simpa using hne)]
    unfold few
    congr 1
    refine List.ext_getElem? fun r => ?_
    rw [List.getElem?_map, List.getElem?_map]
    by_cases hr : r < (worst len k).length
    · rw [List.getElem?_range hr, List.getElem?_eq_getElem hr]
      simp [hr]
    · rw [List.getElem?_eq_none (by simp; omega), List.getElem?_eq_none (by omega)]
      rfl
  have e1 : (len : Int) + 1 = ((len + 1 : Nat) : Int) := rfl
  simp -dsimp [e1, -Int.natCast_add]
  rw [rangeL_map]
  refine ⟨okR_of (by omega) (by omega), by simp; omega, ?_⟩
  rw [comp_fun (h := fun n => D.int (few k len n)) fun n hn => ⟨_, rfl, key _ n (by simpa using hn) rfl rfl rfl rfl⟩]
  simp -dsimp [fewD]
  exact C1.sm
end M
namespace M
open PySem L2 F

theorem all_spots {B : List Nat} {start : Int} {c : Nat} (h : ∀ j : Nat, j < B.length → B[((start + (j : Int)) % (B.length : Int)).toNat]? = some c) : ∀ b ∈ B, c = b := by
  intro b hb
  obtain ⟨p, hp, e⟩ := List.getElem_of_mem hb
  have h0 : (0 : Int) < B.length := by omega
  have a0 := Int.emod_nonneg ((p : Int) - start) (show (B.length : Int) ≠ 0 by omega)
  have a1 := Int.emod_lt_of_pos ((p : Int) - start) h0
  have := h (((p : Int) - start) % (B.length : Int)).toNat (by omega)
  rw [Int.toNat_of_nonneg a0, Int.add_emod_emod] at this
  rw [show start + ((p : Int) - start) = (p : Int) by omega, Int.emod_eq_of_lt (by omega) (by omega), Int.toNat_natCast, List.getElem?_eq_getElem hp] at this
  rw [← e]
  exact (Option.some.inj this).symm
theorem signs_ix {B : List Nat} {p : Int} (h0 : 0 ≤ p) (h1 : p < B.length) : atI (B.map fun c => D.str [c]) p = some (.str [B[p.toNat]'(by omega)]) ∧ ixN B.length p = some p.toNat := by
  constructor
  · rw [atI_in h0 (by rw [List.length_map]; exact h1)]
    simp
  · unfold ixN
    rw [if_pos h0, if_pos h1]
theorem period_ok {st : Sto} {raw : List Nat} {low : Nat} {start : Int} {ex : Bool} (hb : Bits raw) (hl : 1 ≤ raw.length) (hl2 : raw.length ≤ 5000) (hlow : low ≤ raw.length) :
    Ret (f__law_period [.str raw, .int low, .int start, .bl ex] st) (fun d s => ∃ B, d = .str B ∧ Bits B ∧ B.length = raw.length ∧ low ≤ B.count 49 ∧ (ex = true → B.count 49 = low) ∧ Sm [] st s) NX := by
  unfold f__law_period b_f__law_period
  rw [Ret_body]
  have hlr : raw.length ≤ 16777216 := by omega
  have hs : ∀ l : List D, (st ++ [Cell.lst l])[st.length]? = some (.lst l) := fun l => snoc_new
  simp -dsimp [fListA, hlr, r_lenC (hs _)]
  refine ⟨okR_of (by omega) (by omega), ?_⟩
  rw [rangeL_map]
  refine loop_inv (fun k env s => ∃ (B : List Nat) (v6 v7 : Option D), env = [some (.str raw), some (.int low), some (.int start), some (.bl ex), some (.ref st.length), some (.int (B.count 49 : Nat)), v6, v7] ∧ s = st ++ [.lst (B.map fun c => .str [c])] ∧ Bits B ∧ B.length = raw.length ∧ (low ≤ B.count 49 ∨ ∀ j : Nat, j < k → B[((start + (j : Int)) % (B.length : Int)).toNat]? = some 49) ∧ (ex = true → B.count 49 ≤ low ∨ ∀ j : Nat, j < k → B[((start + (j : Int)) % (B.length : Int)).toNat]? = some 48)) ⟨raw, none, none, rfl, rfl, hb, rfl, .inr fun j h => absurd h (Nat.not_lt_zero j), fun _ => .inr fun j h => absurd h (Nat.not_lt_zero j)⟩ ?_ ?_
  · rintro k d env s hd ⟨B, v6, v7, rfl, rfl, hB, hBl, hk, hx⟩
    rw [List.getElem?_map] at hd
    cases q : (List.range raw.length)[k]? with
    | none => rw [q] at hd; cases hd
    | some k' =>
      rw [q] at hd
      cases hd
      have hkl : k < raw.length := by simpa using (List.getElem?_eq_some_iff.mp q).1
      rw [List.getElem?_range hkl] at q
      cases q
      have a0 := Int.emod_nonneg (start + (k : Int)) (show (B.length : Int) ≠ 0 by omega)
      have a1 := Int.emod_lt_of_pos (start + (k : Int)) (show (0 : Int) < B.length by omega)
      refine ⟨_, rfl, ?_⟩
      have hsp : (start + (k : Int)) % (B.length : Int) = (start + (k : Int)) % (B.length : Int) := rfl
      generalize hS : (start + (k : Int)) % (B.length : Int) = sp at a0 a1
      obtain ⟨g1, g2⟩ := signs_ix (B := B) a0 a1
      have hm : bMod (start + (k : Int)) B.length = true := bMod_pos (by omega)
      have hp : sp.toNat < B.length := by omega
      have hset : ∀ l c, (st ++ [Cell.lst l]).set st.length c = st ++ [c] := fun l c => by simp
      have hmap : ∀ x, (B.map fun c => D.str [c]).set sp.toNat (.str [x]) = (B.set sp.toNat x).map fun c => D.str [c] := fun x => by rw [List.map_set]
      have hbset : ∀ x, (x = 48 ∨ x = 49) → Bits (B.set sp.toNat x) := fun x hx c hc => by
        rcases List.mem_or_eq_of_mem_set hc with h | h
        · exact hB c h
        · rw [h]; exact hx
      have hget : ∀ x, (B.set sp.toNat x)[sp.toNat]? = some x := fun x => List.getElem?_set_self hp
      by_cases hc : B[sp.toNat] = 48
      · have cs : (B.set sp.toNat 49).count 49 = B.count 49 + 1 := by
          rw [List.count_set hp]
          simp [hc]
        have hx48 : ex = true → B.count 49 ≤ low ∨ ∀ j : Nat, j < k + 1 → B[((start + (j : Int)) % (B.length : Int)).toNat]? = some 48 := fun e => by
          rcases hx e with z | z
          · exact .inl z
          · refine .inr fun j hj => ?_
            by_cases hjk : j = k
            · subst hjk
              rw [hS, List.getElem?_eq_getElem hp, hc]
            · exact z j (by omega)
        by_cases hlt : B.count 49 < low
        · simp -dsimp [r_lenC (hs _), hm, hS, g1, g2, hc, hlt, cellL, hset]
          refine ⟨B.set sp.toNat 49, by rw [cs]; simp, (hmap _).symm ▸ rfl, hbset _ (.inr rfl), by simp [hBl], .inr fun j hj => ?_, fun _ => .inl (by rw [cs]; omega)⟩
          rw [List.length_set]
          by_cases hjk : j = k
          · subst hjk
            rw [hS]
            exact hget _
          · rcases hk with z | z
            · omega
            · have zz := z j (by omega)
              by_cases hq : ((start + (j : Int)) % (B.length : Int)).toNat = sp.toNat
              · rw [hq]
                exact hget _
              · rw [List.getElem?_set_ne (Ne.symm hq)]
                exact zz
        · simp -dsimp [r_lenC (hs _), hm, hS, g1, g2, hc, hlt, cellL, hset]
          exact ⟨B, rfl, rfl, hB, hBl, .inl (by omega), hx48⟩
      · have hc' : B[sp.toNat] = 49 := (hB _ (List.getElem_mem hp)).resolve_left hc
        have cs : (B.set sp.toNat 48).count 49 = B.count 49 - 1 := by
          rw [List.count_set hp]
          simp [hc']
        have hpos : 0 < B.count 49 := List.count_pos_iff.mpr (by rw [← hc']; exact List.getElem_mem hp)
        by_cases hgt : low < B.count 49
        · have hlt : ¬ B.count 49 < low := by omega
          cases ex with
          | true =>
            simp -dsimp [r_lenC (hs _), hm, hS, g1, g2, hc', hgt, hlt, cellL, hset]
            refine ⟨B.set sp.toNat 48, by rw [cs]; omega, (hmap _).symm ▸ rfl, hbset _ (.inl rfl), by simp [hBl], .inl (by omega), ?_⟩
            rcases hx rfl with z | z
            · omega
            · refine .inr fun j hj => ?_
              rw [List.length_set]
              by_cases hjk : j = k
              · subst hjk
                rw [hS]
                exact hget _
              · have zz := z j (by omega)
                by_cases hq : ((start + (j : Int)) % (B.length : Int)).toNat = sp.toNat
                · rw [hq]
                  exact hget _
                · rw [List.getElem?_set_ne (Ne.symm hq)]
                  exact zz
          | false =>
            simp -dsimp [r_lenC (hs _), hm, hS, g1, g2, hc', hgt, hlt, cellL, hset]
            exact ⟨B, rfl, rfl, hB, hBl, .inl (by omega)⟩
        · have hB2 : low ≤ B.count 49 ∨ ∀ j : Nat, j < k + 1 → B[((start + (j : Int)) % (B.length : Int)).toNat]? = some 49 := by
            rcases hk with z | z
            · exact .inl z
            · refine .inr fun j hj => ?_
              by_cases hjk : j = k
              · subst hjk
                rw [hS, List.getElem?_eq_getElem hp, hc']
              · exact z j (by omega)
          by_cases hlt : B.count 49 < low <;> cases ex <;> simp -dsimp [r_lenC (hs _), hm, hS, g1, g2, hc', hgt, hlt, cellL, hset] <;> first | exact ⟨B, rfl, rfl, hB, hBl, hB2⟩ | exact ⟨B, rfl, rfl, hB, hBl, hB2, .inl (by omega)⟩
  · rintro env s ⟨B, v6, v7, rfl, rfl, hB, hBl, hk, hx⟩
    have hfin : low ≤ B.count 49 := by
      rcases hk with z | z
      · exact z
      · rw [List.count_eq_length.mpr (all_spots (B := B) (start := start) fun j hj => z j (by simpa [← hBl] using hj))]
        omega
    have hfx : ex = true → B.count 49 = low := fun e => by
      rcases hx e with z | z
      · omega
      · have := all_spots (B := B) (start := start) fun j hj => z j (by simpa [← hBl] using hj)
        have : B.count 49 = 0 := List.count_eq_zero.mpr fun m => absurd (this 49 m) (by decide)
        omega
    have e : (B.map fun c => D.str [c]) = (B.map fun c => [c]).map .str := by simp
    have e2 : ((B.map fun c => [c]).map List.length).sum = B.length := by
      clear e hfin hk hB hBl hx hfx
      induction B with
      | nil => rfl
      | cons c B ih =>
        simp only [List.map_cons, List.sum_cons, List.length_cons, ih]
        simp only [List.length_nil]
        omega
    have e3 : (B.map fun c => [c]).flatten = B := by
      clear e hfin hk hB hBl e2 hx hfx
      induction B with
      | nil => rfl
      | cons c B ih =>
        rw [List.map_cons, List.flatten_cons, ih]
        rfl
    simp -dsimp
    rw [e, r_joinC (hs _) (by rw [e2]; simp; omega), joinL_nil, e3]
    simp -dsimp
    exact ⟨hB, hBl, hfin, hfx, Sm.app⟩
end M
namespace M
open PySem L2 F

theorem Af.keep {n i : Nat} {st s s' : Sto} (h : Af n i st s) (k : Sm [] s s') : Af n i st s' := ⟨h.hb.keep k (by simp), h.sm.trans (k.wide (by simp))⟩
theorem isTrue_lets {env : F.Env} {st : Sto} {k : Kd} {b : List Nat} {a x : Ev} (h : k.ok) (hb : Bits b) (hl : b.length ≤ 100000) (ha : a env st = .ok k.th st) (hx : x env st = .ok (.str b) st) : (eMeth tb_lets [] a (aCons x aNil)) env st = .ok (.bl (isLet k b)) st := by
  obtain ⟨c, f, q1, q2, q3⟩ := lets_ok (st := st) h hb hl
  obtain ⟨d, s, e, rfl, rfl⟩ := q3.out
  simp -dsimp [ha, hx, q1, q2, e]
theorem least_ev {env : F.Env} {st : Sto} {k : Kd} {len n : Nat} {a x : Ev} (h : k.ok) (hn : n ≤ len) (hl : len ≤ 2000) (ha : a env st = .ok k.th st) (hx : x env st = .ok (.int n) st) : (eMeth tb_least [] a (aCons x aNil)) env st = .ok (.int (few k len n)) st := by
  obtain ⟨c, f, q1, q2, q3⟩ := least_ok (st := st) h hn hl
  obtain ⟨d, s, e, rfl, rfl⟩ := q3.out
  simp -dsimp [ha, hx, q1, q2, e]
theorem keeps_ok {st : Sto} {i n : Nat} {k : Kd} {len : Nat} {b : List Nat} (hh : HB n i st) (hn : n < 2 ^ 150) (h : k.ok) (hl : len ≤ 2000) (hb : Bits b) (hbl : b.length ≤ len) (hlet : isLet k b = true) :
    Ret (f__law_keeps [.ref i, k.th, .str b, fewD k len (len + 1)] st) (fun d s => d = .bl true ∧ Af (n + 100) i st s) NX := by
  unfold f__law_keeps b_f__law_keeps
  rw [Ret_body]
  have hb16 : b.length ≤ 16777216 := by omega
  refine ⟨rfl, OutW.seq (fun e s => e = [some (.ref i), some k.th, some (.str b), some (fewD k len (len + 1)), none, none, none, none, none, none] ∧ st = s) ?_ ?_⟩
  · have := isTrue_lets (env := [some (.ref i), some k.th, some (.str b), some (fewD k len (len + 1)), none, none, none, none, none, none]) (st := st) (a := eVar 1) (x := eVar 2) h hb (by omega) rfl rfl
    simp -dsimp [-r_eMeth, this, hlet]
  rintro _ _ ⟨rfl, rfl⟩
  refine OutW.seq (fun e s => e = [some (.ref i), some k.th, some (.str b), some (fewD k len (len + 1)), some (.int 0), none, none, none, none, none] ∧ st = s) ?_ ?_
  · simp -dsimp
  rintro _ _ ⟨rfl, rfl⟩
  refine OutW.seq (fun e s => ∃ v5, e = [some (.ref i), some k.th, some (.str b), some (fewD k len (len + 1)), some (.int (b.count 49 : Nat)), v5, none, none, none, none] ∧ st = s) ?_ ?_
  · simp -dsimp [hb16]
    refine ⟨okR_of (by omega) (by omega), ?_⟩
    rw [rangeL_map]
    refine loop_inv (fun j e s => ∃ v5, e = [some (.ref i), some k.th, some (.str b), some (fewD k len (len + 1)), some (.int ((b.take j).count 49 : Nat)), v5, none, none, none, none] ∧ st = s) ⟨none, by simp, rfl⟩ ?_ ?_
    · rintro j d env _ hd ⟨v5, rfl, rfl⟩
      rw [List.getElem?_map] at hd
      cases q : (List.range b.length)[j]? with
      | none => rw [q] at hd; cases hd
      | some j' =>
        rw [q] at hd
        cases hd
        have hj : j < b.length := by simpa using (List.getElem?_eq_some_iff.mp q).1
        rw [List.getElem?_range hj] at q
        cases q
        have hp := few_let h (hb.take j) (let_pre h hb j hlet) (by rw [List.length_take]; omega) (len := len)
        rw [List.length_take, Nat.min_eq_left (by omega)] at hp
        have hp' : ¬ (((b.take j).count 49 : Nat) : Int) < few k len j := by omega
        have ga : atI b (j : Nat) = some b[j] := by
          rw [atI_in (by omega) (by omega)]
          simp
        have hx : (((b.take (j + 1)).count 49 : Nat) : Int) = ((b.take j).count 49 : Nat) + (if b[j] = 49 then 1 else 0) := by
          rw [List.take_succ_eq_append_getElem hj, List.count_append, List.count_singleton]
          by_cases e : b[j] = 49 <;> simp [e]
        refine ⟨_, rfl, ?_⟩
        simp -dsimp [fewD, few_at (show j < len + 1 by omega), hp', hb16, ga, hx]
    · rintro env _ ⟨v5, rfl, rfl⟩
      rw [List.length_map, List.length_range, List.take_length]
      exact ⟨_, rfl, rfl⟩
  rintro _ _ ⟨v5, rfl, rfl⟩
  refine OutW.seq (fun e s => e = [some (.ref i), some k.th, some (.str b), some (fewD k len (len + 1)), some (.int (b.count 49 : Nat)), v5, none, none, none, none] ∧ st = s) ?_ ?_
  · have hp := few_let h hb hlet hbl
    have hp' : ¬ ((b.count 49 : Nat) : Int) < few k len b.length := by omega
    simp -dsimp [hb16, fewD, few_at (show b.length < len + 1 by omega), hp']
  rintro _ _ ⟨rfl, rfl⟩
  refine OutW.seq (fun e s => Af (n + 100) i st s) ?_ ?_
  · simp -dsimp
    refine ⟨okR_of (by decide) (by decide), ?_⟩
    refine loop_inv (fun t e s => ∃ v6 v7 v8 v9 : Option D, e = [some (.ref i), some k.th, some (.str b), some (fewD k len (len + 1)), some (.int (b.count 49 : Nat)), v5, v6, v7, v8, v9] ∧ Af (n + 2 * t) i st s) ⟨none, none, none, none, rfl, hh, .refl _ _⟩ ?_ ?_
    · rintro t d env s hd ⟨v6, v7, v8, v9, rfl, A⟩
      obtain ⟨ht, rfl⟩ := rangeL_get hd
      have ht : t < 4 := by simpa using ht
      rw [show (0 : Int) + (t : Int) = ((t : Nat) : Int) by omega]
      refine ⟨_, rfl, ?_⟩
      refine OutW.seq (fun e s => ∃ a : Nat, e = [some (.ref i), some k.th, some (.str b), some (fewD k len (len + 1)), some (.int (b.count 49 : Nat)), v5, some (.int (t : Nat)), some (.int a), v8, v9] ∧ a ≤ b.length ∧ Af (n + 2 * t + 1) i st s) ?_ ?_
      · simp -dsimp [hb16]
        refine (draw' A.hb (by omega) (by omega) (by omega)).call ?_
        rintro _ s1 ⟨r1, rfl, a1, b1, A1⟩
        simp -dsimp
        exact ⟨r1.toNat, by omega, by omega, A.go A1⟩
      rintro _ s1 ⟨a, rfl, ha, A1⟩
      refine OutW.seq (fun e s => ∃ z : Nat, e = [some (.ref i), some k.th, some (.str b), some (fewD k len (len + 1)), some (.int (b.count 49 : Nat)), v5, some (.int (t : Nat)), some (.int a), some (.int z), v9] ∧ a ≤ z ∧ z ≤ b.length ∧ Af (n + 2 * t + 2) i st s) ?_ ?_
      · simp -dsimp [hb16]
        refine (draw' A1.hb (by omega) (by omega) (by omega)).call ?_
        rintro _ s2 ⟨r2, rfl, a2, b2, A2⟩
        simp -dsimp
        exact ⟨a + r2.toNat, by omega, by omega, by omega, A1.go A2⟩
      rintro _ s2 ⟨z, rfl, haz, hz, A2⟩
      have ec : cutD b (some (a : Int)) (some (z : Int)) = (b.drop a).take (z - a) := by
        rw [cut_in (by omega) (by omega)]
        rfl
      refine OutW.seq (fun e s => e = [some (.ref i), some k.th, some (.str b), some (fewD k len (len + 1)), some (.int (b.count 49 : Nat)), v5, some (.int (t : Nat)), some (.int a), some (.int z), some (.str ((b.drop a).take (z - a)))] ∧ s2 = s) ?_ ?_
      · simp -dsimp [hb16, ec]
      rintro _ _ ⟨rfl, rfl⟩
      have hpb : Bits ((b.drop a).take (z - a)) := (hb.drop _).take _
      have hpl : ((b.drop a).take (z - a)).length = z - a := by rw [List.length_take, List.length_drop]; omega
      have hplet := let_part h hb a (z - a) hlet
      have hpf := few_let h hpb hplet (len := len) (by omega)
      generalize (b.drop a).take (z - a) = part at hpb hpl hplet hpf
      have hp16 : part.length ≤ 16777216 := by omega
      have hpf' : ¬ ((part.count 49 : Nat) : Int) < few k len part.length := by omega
      refine OutW.seq (fun e s => e = [some (.ref i), some k.th, some (.str b), some (fewD k len (len + 1)), some (.int (b.count 49 : Nat)), v5, some (.int (t : Nat)), some (.int a), some (.int z), some (.str part)] ∧ s2 = s) ?_ ?_
      · have := isTrue_lets (env := [some (.ref i), some k.th, some (.str b), some (fewD k len (len + 1)), some (.int (b.count 49 : Nat)), v5, some (.int (t : Nat)), some (.int a), some (.int z), some (.str part)]) (st := s2) (a := eVar 1) (x := eVar 9) h hpb (by omega) rfl rfl
        simp -dsimp [-r_eMeth, this, hplet, hp16, hpf']
        simp -dsimp [fewD, few_at (show part.length < len + 1 by omega), hpf']
      rintro _ _ ⟨rfl, rfl⟩
      have := least_ev (env := [some (.ref i), some k.th, some (.str b), some (fewD k len (len + 1)), some (.int (b.count 49 : Nat)), v5, some (.int (t : Nat)), some (.int a), some (.int z), some (.str part)]) (st := s2) (a := eVar 1) (x := eCall fLen (aCons (eVar 9) aNil)) (n := part.length) h (by omega) hl rfl (by simp -dsimp [hp16])
      simp -dsimp [-r_eMeth, this, hp16]
      simp -dsimp [fewD, few_at (show part.length < len + 1 by omega)]
      refine number_ok.call ?_
      rintro _ _ ⟨rfl, rfl⟩
      simp -dsimp
      exact A2.mono (by omega)
    · rintro env s ⟨v6, v7, v8, v9, rfl, A⟩
      exact A.mono (by rw [rangeL_len]; simp)
  rintro _ s A
  simp -dsimp
  exact A
end M
namespace M
open PySem L2 F

theorem not_let {k : Kd} (h : k.ok) {len : Nat} {x y : List Nat} (hx : Bits x) (hy : Bits y) (hl : x.length ≤ len) (hc : ((x.count 49 : Nat) : Int) < few k len x.length) : isLet k (x ++ y) = false := by
  cases e : isLet k (x ++ y) with
  | false => rfl
  | true =>
    have h1 := let_pre h (hx.app hy) x.length e
    rw [List.take_append_of_le_length (Nat.le_refl _), List.take_length] at h1
    have := few_let h hx h1 hl
    omega
theorem refuses_ok {st : Sto} {i n : Nat} {k : Kd} {len : Nat} (hh : HB n i st) (hn : n < 2 ^ 150) (h : k.ok) (hl : len ≤ 2000) :
    Ret (f__law_refuses_fewer [.ref i, k.th, .lst ((worst len k).map .str), fewD k len (len + 1)] st) (fun d s => d = .bl true ∧ Af (n + 10000) i st s) NX := by
  have hwl := worst_len h len
  have hwi := fun W hW => worst_in (len := len) (W := W) h hW
  unfold f__law_refuses_fewer b_f__law_refuses_fewer
  rw [Ret_body]
  refine ⟨rfl, OutW.seq (fun e s => e = [some (.ref i), some k.th, some (.lst ((worst len k).map .str)), some (fewD k len (len + 1)), some (.int len), none, none, none, none, none, none, none, none, none, none, none] ∧ st = s) ?_ ?_⟩
  · simp -dsimp [fewD]
  rintro _ _ ⟨rfl, rfl⟩
  refine OutW.seq (fun e s => Af (n + 10000) i st s) ?_ ?_
  · simp -dsimp
    refine ⟨okR_of (by decide) (by decide), ?_⟩
    refine loop_inv (fun t e s => ∃ v5 v6 v7 v8 v9 v10 v11 v12 v13 : Option D, e = [some (.ref i), some k.th, some (.lst ((worst len k).map .str)), some (fewD k len (len + 1)), some (.int len), v5, v6, v7, v8, v9, v10, v11, v12, v13, none, none] ∧ Af (n + 2000 * t) i st s) ⟨none, none, none, none, none, none, none, none, none, rfl, hh, .refl _ _⟩ ?_ ?_
    · rintro t d env s hd ⟨v5, v6, v7, v8, v9, v10, v11, v12, v13, rfl, A⟩
      obtain ⟨ht, rfl⟩ := rangeL_get hd
      have ht : t < 4 := by simpa using ht
      rw [show (0 : Int) + (t : Int) = ((t : Nat) : Int) by omega]
      refine ⟨_, rfl, ?_⟩
      refine OutW.seq (fun e s => ∃ m : Nat, e = [some (.ref i), some k.th, some (.lst ((worst len k).map .str)), some (fewD k len (len + 1)), some (.int len), some (.int (t : Nat)), some (.int (m : Nat)), v7, v8, v9, v10, v11, v12, v13, none, none] ∧ m ≤ len ∧ Af (n + 2000 * t + 1) i st s) ?_ ?_
      · simp -dsimp
        refine (draw' A.hb (by omega) (by omega) (by omega)).call ?_
        rintro _ s1 ⟨r1, rfl, a1, b1, A1⟩
        simp -dsimp
        exact ⟨r1.toNat, by omega, by omega, A.go A1⟩
      rintro _ s1 ⟨m0, rfl, hm0, A1⟩
      refine OutW.seq (fun e s => ∃ m : Nat, e = [some (.ref i), some k.th, some (.lst ((worst len k).map .str)), some (fewD k len (len + 1)), some (.int len), some (.int (t : Nat)), some (.int (m : Nat)), v7, v8, v9, v10, v11, v12, v13, none, none] ∧ m ≤ len ∧ s1 = s) ?_ ?_
      · have ga := few_at (k := k) (len := len) (show m0 < len + 1 by omega)
        by_cases hz : few k len m0 = 0
        · simp -dsimp [fewD, ga, hz]
          exact ⟨len, rfl, by omega⟩
        · simp -dsimp [fewD, ga, hz]
          exact ⟨m0, rfl, by omega⟩
      rintro _ _ ⟨m, rfl, hm, rfl⟩
      have ga := few_at (k := k) (len := len) (show m < len + 1 by omega)
      by_cases hpos : 0 < few k len m
      rotate_left
      · simp -dsimp [fewD, ga, hpos]
        exact A1.mono (by omega)
      obtain ⟨⟨W, hW, eW⟩, hmin⟩ := few_in h len m
      obtain ⟨low, hlow⟩ : ∃ low : Nat, few k len m = (low : Int) + 1 := ⟨((W.take m).count 49) - 1, by omega⟩
      have hlm : low + 1 ≤ m := by have := (few_nn h len m).2; omega
      rw [r_sIf, OutW_andS]
      refine Ret.mono (P := fun b s => b = true ∧ s1 = s) (X := NX) (by simp -dsimp [fewD, ga, hpos]) ?_ (fun _ _ _ z => z.elim)
      rintro b _ ⟨rfl, rfl⟩
      rw [if_pos rfl]
      -- raw
      refine OutW.seq (fun e s => ∃ B : List Nat, e = [some (.ref i), some k.th, some (.lst ((worst len k).map .str)), some (fewD k len (len + 1)), some (.int len), some (.int (t : Nat)), some (.int (m : Nat)), some (.str B), v8, v9, v10, v11, v12, v13, none, none] ∧ Bits B ∧ B.length = m ∧ B.count 49 = low ∧ Af (n + 2000 * t + 1002) i st s) ?_ ?_
      · have el : (low : Int) + 1 - 1 = (low : Nat) := by omega
        simp -dsimp
        refine (bits' A1.hb (by omega) (by omega) (by omega)).call ?_
        rintro _ s2 ⟨raw, rfl, hb, hrl, A2⟩
        simp -dsimp [fewD, ga, hlow, el]
        refine (draw' A2.hb (by omega) (by omega) (by omega)).call ?_
        rintro _ s3 ⟨r3, rfl, a3, b3, A3⟩
        simp -dsimp
        refine (period_ok (ex := true) hb (by omega) (by omega) (by omega)).call ?_
        rintro _ s4 ⟨B, rfl, hB, hBl, hBc, hBe, hsm⟩
        simp -dsimp
        exact ⟨hB, by omega, hBe rfl, (A1.go (A2.go A3)).keep hsm⟩
      rintro _ s2 ⟨B, rfl, hB, hBl, hBc, A2⟩
      refine OutW.seq (fun e s => ∃ o : Nat, e = [some (.ref i), some k.th, some (.lst ((worst len k).map .str)), some (fewD k len (len + 1)), some (.int len), some (.int (t : Nat)), some (.int (m : Nat)), some (.str B), some (.str (List.replicate o 49)), v9, v10, v11, v12, v13, none, none] ∧ o ≤ 9 ∧ Af (n + 2000 * t + 1003) i st s) ?_ ?_
      · simp -dsimp
        refine (draw' A2.hb (by omega) (by omega) (by omega)).call ?_
        rintro _ s3 ⟨r3, rfl, a3, b3, A3⟩
        simp -dsimp
        exact ⟨⟨by omega, by omega, by omega⟩, by omega, A2.go A3⟩
      rintro _ s3 ⟨o, rfl, ho, A3⟩
      refine OutW.seq (fun e s => ∃ X : List Nat, e = [some (.ref i), some k.th, some (.lst ((worst len k).map .str)), some (fewD k len (len + 1)), some (.int len), some (.int (t : Nat)), some (.int (m : Nat)), some (.str B), some (.str (List.replicate o 49)), some (.str X), v10, v11, v12, v13, none, none] ∧ Bits X ∧ X.length = m ∧ X.count 49 = low + 1 ∧ s3 = s) ?_ ?_
      · simp -dsimp
        refine ⟨by omega, ?_⟩
        have hq : ∀ W ∈ worst len k, W.length ≤ 16777216 := fun W hW => by rw [(hwi W hW).2.1]; omega
        have hce : ∀ W : List Nat, cutD W none (some (m : Int)) = W.take m := fun W => by rw [cut_to (by omega)]; rfl
        rw [comp_filt (q := fun W => decide ((((W.take m).count 49 : Nat) : Int) = few k len m)) (h := fun W => D.str (W.take m)) fun W hW => ⟨_, rfl, by
          simp -dsimp [hq W hW, hce, fewD, ga], fun _ => by
          simp -dsimp [hq W hW, hce]⟩]
        have hf : (worst len k).filter (fun W => decide ((((W.take m).count 49 : Nat) : Int) = few k len m)) ≠ [] := by
          intro z
          have := List.filter_eq_nil_iff.mp z W hW
          simp [eW] at this
        have hfm : ∀ W ∈ (worst len k).filter (fun W => decide ((((W.take m).count 49 : Nat) : Int) = few k len m)), W ∈ worst len k ∧ (((W.take m).count 49 : Nat) : Int) = few k len m := fun W hW => by simpa using List.mem_filter.mp hW
        generalize (worst len k).filter (fun W => decide ((((W.take m).count 49 : Nat) : Int) = few k len m)) = ts at hf hfm
        have hp := List.length_pos_iff.mpr hf
        have a0 : atI (ts.map fun W => D.str (W.take m)) 0 = some (.str ((ts[0]).take m)) := by
          rw [atI_in (by decide) (by simp; omega)]
          simp
        have b0 := hfm _ (List.getElem_mem hp)
        have b1 := hwi _ b0.1
        simp -dsimp [a0]
        exact ⟨b1.1.take _, by omega, by omega⟩
      rintro _ _ ⟨X, rfl, hX, hXl, hXc, rfl⟩
      have hXl16 : X.length ≤ 16777216 := by omega
      refine OutW.seq (fun e s => ∃ ss : List Nat, e = [some (.ref i), some k.th, some (.lst ((worst len k).map .str)), some (fewD k len (len + 1)), some (.int len), some (.int (t : Nat)), some (.int (m : Nat)), some (.str B), some (.str (List.replicate o 49)), some (.str X), some (.lst (ss.map fun q : Nat => .int (q : Nat))), v11, v12, v13, none, none] ∧ ss ≠ [] ∧ ss.length ≤ m ∧ (∀ q ∈ ss, X[q]? = some 49) ∧ s3 = s) ?_ ?_
      · simp -dsimp
        refine ⟨okR_of (by omega) (by omega), ?_⟩
        rw [rangeL_map, comp_filt (q := fun q => decide (X[q]? = some 49)) (h := fun q => D.int (q : Nat)) fun q hq => ⟨_, rfl, by
          have hq' : q < X.length := by rw [hXl]; simpa using hq
          simp -dsimp [hXl16, atI_in (l := X) (i := (q : Nat)) (by omega) (by omega), hq'], fun _ => by simp -dsimp⟩]
        have hll : ((List.range m).filter fun q => decide (X[q]? = some 49)).length ≤ m := by
          have := List.length_filter_le (fun q => decide (X[q]? = some 49)) (List.range m)
          rwa [List.length_range] at this
        have hne : (List.range m).filter (fun q => decide (X[q]? = some 49)) ≠ [] := by
          intro z
          have : 49 ∈ X := List.count_pos_iff.mp (by omega)
          obtain ⟨q, hq, e⟩ := List.getElem_of_mem this
          have := List.filter_eq_nil_iff.mp z q (by simp; omega)
          simp [hq, e] at this
        have hmm : ∀ q ∈ (List.range m).filter (fun q => decide (X[q]? = some 49)), X[q]? = some 49 := fun q hq => by simpa using (List.mem_filter.mp hq).2
        simp -dsimp
        refine ⟨by omega, (List.range m).filter (fun q => decide (X[q]? = some 49)), ?_, hne, hll, hmm⟩
        simp
      rintro _ _ ⟨ss, rfl, hss, hssl, hsse, rfl⟩
      have hspos := List.length_pos_iff.mpr hss
      refine OutW.seq (fun e s => ∃ q : Nat, e = [some (.ref i), some k.th, some (.lst ((worst len k).map .str)), some (fewD k len (len + 1)), some (.int len), some (.int (t : Nat)), some (.int (m : Nat)), some (.str B), some (.str (List.replicate o 49)), some (.str X), some (.lst (ss.map fun q : Nat => .int (q : Nat))), some (.int (q : Nat)), v12, v13, none, none] ∧ X[q]? = some 49 ∧ Af (n + 2000 * t + 1004) i st s) ?_ ?_
      · simp -dsimp
        refine (draw' A3.hb (by omega) (by omega) (by omega)).call ?_
        rintro _ s4 ⟨r4, rfl, a4, b4, A4⟩
        have hg : atI (ss.map fun k : Nat => D.int (k : Nat)) r4 = some (.int (ss[r4.toNat]'(by omega) : Nat)) := by
          rw [atI_in a4 (by rw [List.length_map]; exact b4)]
          simp
        simp -dsimp [hg]
        exact ⟨_, rfl, hsse _ (List.getElem_mem _), A3.go A4⟩
      rintro _ s4 ⟨q, rfl, hq, A4⟩
      obtain ⟨hqlt, hqe⟩ := List.getElem?_eq_some_iff.mp hq
      have c1 : cutD X none (some (q : Int)) = X.take q := by rw [cut_to (by omega)]; rfl
      have c2 : cutD X (some ((q : Int) + 1)) none = X.drop (q + 1) := by rw [cut_from (by omega)]; rfl
      have hY : Bits (X.take q ++ 48 :: X.drop (q + 1)) := (hX.take q).app fun c hc => by
        rcases List.mem_cons.mp hc with z | z
        · exact .inl z
        · exact hX.drop _ c z
      have hYl : (X.take q ++ 48 :: X.drop (q + 1)).length = m := by simp; omega
      have hYc : (X.take q ++ 48 :: X.drop (q + 1)).count 49 = low := by
        have e : X = X.take q ++ 49 :: X.drop (q + 1) := by
          rw [← hqe, List.getElem_cons_drop, List.take_append_drop]
        have := congrArg (List.count 49) e
        rw [List.count_append, List.count_cons_self] at this
        rw [List.count_append, List.count_cons_of_ne (by decide)]
        omega
      refine OutW.seq (fun e s => e = [some (.ref i), some k.th, some (.lst ((worst len k).map .str)), some (fewD k len (len + 1)), some (.int len), some (.int (t : Nat)), some (.int (m : Nat)), some (.str B), some (.str (List.replicate o 49)), some (.str X), some (.lst (ss.map fun q : Nat => .int (q : Nat))), some (.int (q : Nat)), some (.str (X.take q ++ 48 :: X.drop (q + 1))), v13, none, none] ∧ s4 = s) ?_ ?_
      · simp -dsimp [hXl16, c1, c2]
        omega
      rintro _ _ ⟨rfl, rfl⟩
      generalize X.take q ++ 48 :: X.drop (q + 1) = Y at hY hYl hYc
      have hB16 : B.length + o ≤ 16777216 := by omega
      have hY16 : Y.length + o ≤ 16777216 := by omega
      have n1 : ∀ y, Bits y → isLet k (B ++ y) = false := fun y hy => not_let h hB hy (len := len) (by omega) (by rw [hBl, hBc, hlow]; omega)
      have n2 : ∀ y, Bits y → isLet k (Y ++ y) = false := fun y hy => not_let h hY hy (len := len) (by omega) (by rw [hYl, hYc, hlow]; omega)
      simp -dsimp [hB16, hY16]
      refine loop_inv (fun j e s => ∃ v13 : Option D, e = [some (.ref i), some k.th, some (.lst ((worst len k).map .str)), some (fewD k len (len + 1)), some (.int len), some (.int (t : Nat)), some (.int (m : Nat)), some (.str B), some (.str (List.replicate o 49)), some (.str X), some (.lst (ss.map fun q : Nat => .int (q : Nat))), some (.int (q : Nat)), some (.str Y), v13, none, none] ∧ s4 = s) ⟨v13, rfl, rfl⟩ ?_ ?_
      · rintro j d env _ hd ⟨v13, rfl, rfl⟩
        have hdd : ∃ z, d = .str z ∧ Bits z ∧ z.length ≤ 100000 ∧ isLet k z = false := by
          have hm := List.mem_of_getElem? hd
          simp only [List.mem_cons, List.not_mem_nil, or_false] at hm
          rcases hm with rfl | rfl | rfl | rfl
          · exact ⟨_, rfl, hB, by omega, by have := n1 [] .nil; rwa [List.append_nil] at this⟩
          · exact ⟨_, rfl, hB.app (.ones _), by simp; omega, n1 _ (.ones _)⟩
          · exact ⟨_, rfl, hY, by omega, by have := n2 [] .nil; rwa [List.append_nil] at this⟩
          · exact ⟨_, rfl, hY.app (.ones _), by simp; omega, n2 _ (.ones _)⟩
        obtain ⟨z, rfl, hzb, hzl, hz⟩ := hdd
        refine ⟨_, rfl, ?_⟩
        have := isTrue_lets (env := [some (.ref i), some k.th, some (.lst ((worst len k).map .str)), some (fewD k len (len + 1)), some (.int len), some (.int (t : Nat)), some (.int (m : Nat)), some (.str B), some (.str (List.replicate o 49)), some (.str X), some (.lst (ss.map fun q : Nat => .int (q : Nat))), some (.int (q : Nat)), some (.str Y), some (.str z), none, none]) (st := s4) (a := eVar 1) (x := eVar 13) h hzb hzl rfl rfl
        simp -dsimp [-r_eMeth, this, hz]
      · rintro env _ ⟨v13, rfl, rfl⟩
        exact ⟨_, _, _, _, _, _, _, _, _, rfl, A4.mono (by omega)⟩
    · rintro env s ⟨v5, v6, v7, v8, v9, v10, v11, v12, v13, rfl, A⟩
      exact A.mono (by rw [rangeL_len]; simp)
  rintro _ s A
  simp -dsimp
  exact A
end M
namespace M
open PySem L2 F

theorem flat_len {size : Nat} : ∀ bs : List (List Nat), (∀ B ∈ bs, B.length = size) → bs.flatten.length = bs.length * size
  | [], _ => by simp
  | B :: bs, q => by
    rw [List.flatten_cons, List.length_append, flat_len bs fun C m => q C (List.mem_cons_of_mem _ m), q B List.mem_cons_self, List.length_cons, Nat.add_mul]
    omega
/-- a part of blocks that keep the promise is let -/
theorem blocks_let {low size begin len : Nat} {bs : List (List Nat)} (l1 : 1 ≤ low) (l2 : low ≤ size) (hbs : ∀ B ∈ bs, Bits B ∧ B.length = size ∧ low ≤ B.count 49) (hg : begin < size) (hl : len + size ≤ bs.length * size) :
    Bits ((bs.flatten.drop begin).take len) ∧ ((bs.flatten.drop begin).take len).length = len ∧ isLet (.server low size) ((bs.flatten.drop begin).take len) = true := by
  have hf := flat_len bs fun C m => (hbs C m).2.1
  have hbb : Bits bs.flatten := fun c m => by
    obtain ⟨B, h1, h2⟩ := List.mem_flatten.mp m
    exact (hbs B h1).1 c h2
  have hper : Per size (size - low) bs.flatten := by
    have := Per.flat (size := size) (gap := size - low) (T := []) (.short (by omega) (by simp) (by simp)) (bs := bs) fun B m => ⟨(hbs B m).2.1, by
      have := count_bits (hbs B m).1
      have := (hbs B m).2
      omega⟩
    rwa [List.append_nil] at this
  refine ⟨(hbb.drop _).take _, ?_, let_of_per hbb (by omega) l2 hper hg⟩
  rw [List.length_take, List.length_drop, hf]
  omega
theorem promised_ok {st : Sto} {i n : Nat} {k : Kd} {len : Nat} (hh : HB n i st) (hn : n < 2 ^ 170) (h : k.ok) (hl : len ≤ 2000) : Ret (f__law_promised [.ref i, k.d, .int len] st) (fun d s => ∃ r, d = .str r ∧ Bits r ∧ r.length = len ∧ isLet k r = true ∧ Af (n + 2000) i st s) NX := by
  unfold f__law_promised b_f__law_promised
  rw [Ret_body]
  simp -dsimp
  refine (size_ok h).call ?_
  rintro _ _ ⟨rfl, rfl⟩
  cases k with
  | full =>
    simp -dsimp [Kd.d, Kd.size, bDiv_small]
    refine (draw' hh (by omega) (by omega) (by omega)).call ?_
    rintro _ s1 ⟨r1, rfl, a1, b1, A1⟩
    simp -dsimp [Kd.d]
    exact ⟨⟨by omega, by omega, by omega⟩, .ones _, full_iff.mpr (by simp), A1.mono (by omega)⟩
  | windows row =>
    obtain ⟨w1, w2, w3, w4⟩ := h
    have hr : row.length ≤ 16777216 := by omega
    have hd : bDiv (len : Int) row.length = true := bDiv_small (by omega) (by omega)
    have hq : (len : Int) / row.length + 2 = ((len / row.length + 2 : Nat) : Int) := rfl
    have hq2 := Nat.div_le_self len row.length
    have hm := Nat.div_mul_le_self len row.length
    have hmm : (len / row.length + 2) * row.length ≤ 16777216 := by rw [Nat.add_mul]; omega
    have hmm2 : row.length * (len / row.length + 2) ≤ 16777216 := by rw [Nat.mul_comm]; exact hmm
    have hz : (0 : Int) ≤ ((len / row.length + 2 : Nat) : Int) := Int.natCast_nonneg _
    simp -dsimp [Kd.d, Kd.size, hr, hd, hq, -Int.natCast_add, -Int.natCast_ediv]
    refine (draw' hh (by omega) (by omega) (by omega)).call ?_
    rintro _ s1 ⟨r1, rfl, a1, b1, A1⟩
    obtain ⟨ph, rfl⟩ : ∃ ph : Nat, r1 = ph := ⟨r1.toNat, by omega⟩
    simp -dsimp [Kd.d, hr, hd, hq, -Int.natCast_add, -Int.natCast_ediv]
    refine ⟨⟨by omega, by omega, hmm2⟩, hmm, ?_⟩
    have hk : ph < row.length := by omega
    have e : cutD (List.replicate (len / row.length + 2) row).flatten (some (ph : Int)) (some ((ph : Int) + (len : Int))) = ((repL (len / row.length + 2) row).drop ph).take len := by
      rw [cut_in (by omega) (by omega)]
      unfold repL
      congr 1
      omega
    rw [e]
    exact ⟨((w3.rep _).drop _).take _, cut_rep hk, win_let hk, A1.mono (by omega)⟩
  | server low size =>
    obtain ⟨l1, l2, l3⟩ := h
    have hd : bDiv (len : Int) size = true := bDiv_small (by omega) (by omega)
    have hq : (len : Int) / size + 2 = ((len / size + 2 : Nat) : Int) := rfl
    have hq2 := Nat.div_le_self len size
    have hm := Nat.div_mul_le_self len size
    have hm' := Nat.div_add_mod len size
    have hmr := Nat.mod_lt len (show 0 < size by omega)
    have hmm : (len / size + 2) * size ≤ 10000 := by rw [Nat.add_mul]; omega
    have htl : len + size ≤ (len / size + 2) * size := by rw [Nat.add_mul, Nat.mul_comm (len / size)]; omega
    have ht : len / size + 2 ≤ 2002 := by omega
    generalize len / size + 2 = turns at hq hmm htl ht
    simp -dsimp [Kd.d, Kd.size, hd, hq, -Int.natCast_add, -Int.natCast_ediv]
    refine (draw' hh (by omega) (by omega) (by omega)).call ?_
    rintro _ s1 ⟨r1, rfl, a1, b1, A1⟩
    obtain ⟨bg, rfl⟩ : ∃ ph : Nat, r1 = ph := ⟨r1.toNat, by omega⟩
    simp -dsimp
    refine (draw' A1.hb (by omega) (by omega) (by omega)).call ?_
    rintro _ s2 ⟨way, rfl, a2, b2, A2⟩
    have ec : ∀ X : List Nat, cutD X (some (bg : Int)) (some ((bg : Int) + (len : Int))) = (X.drop bg).take len := fun X => by
      rw [cut_in (by omega) (by omega)]
      congr 1
      omega
    have egap : (size : Int) - (low : Int) = ((size - low : Nat) : Int) := by omega
    have h1 : (low : Int) < 2147483648 ∧ -2147483648 < (low : Int) ∧ low ≤ 16777216 := by omega
    have h2 : ((size - low : Nat) : Int) < 2147483648 ∧ -2147483648 < ((size - low : Nat) : Int) ∧ size - low ≤ 16777216 := by omega
    have h3 : (turns : Int) < 2147483648 ∧ -2147483648 < (turns : Int) := by omega
    have h4 : low + (size - low) ≤ 16777216 := by omega
    have h4' : size - low + low ≤ 16777216 := by omega
    have h5 : (low + (size - low)) * turns ≤ 16777216 := by rw [show low + (size - low) = size by omega, Nat.mul_comm]; omega
    have h5' : (size - low + low) * turns ≤ 16777216 := by rw [show size - low + low = size by omega, Nat.mul_comm]; omega
    have h6 : turns * (low + (size - low)) ≤ 16777216 := by rw [Nat.mul_comm]; exact h5
    have h6' : turns * (size - low + low) ≤ 16777216 := by rw [Nat.mul_comm]; exact h5'
    by_cases hw0 : way = 0
    · simp -dsimp [hw0, h1, h2, h3, h4, h5, h6, egap, ec, -Int.natCast_sub]
      have := blocks_let (begin := bg) (len := len) (bs := List.replicate turns (List.replicate low 49 ++ List.replicate (size - low) 48)) l1 l2 (fun B hB => by
        rw [List.eq_of_mem_replicate hB]
        exact ⟨(Bits.ones _).app (.zeros _), by simp; omega, by simp [List.count_append]⟩) (by omega) (by simp; exact htl)
      exact ⟨this.1, by simpa using this.2.1, this.2.2, (A1.go A2).mono (by omega)⟩
    by_cases hw1 : way = 1
    · simp -dsimp [hw0, hw1, h1, h2, h3, h4', h5', h6', egap, ec, -Int.natCast_sub]
      have := blocks_let (begin := bg) (len := len) (bs := List.replicate turns (List.replicate (size - low) 48 ++ List.replicate low 49)) l1 l2 (fun B hB => by
        rw [List.eq_of_mem_replicate hB]
        exact ⟨(Bits.zeros _).app (.ones _), by simp; omega, by simp [List.count_append]⟩) (by omega) (by simp; exact htl)
      exact ⟨this.1, by simpa using this.2.1, this.2.2, (A1.go A2).mono (by omega)⟩
    have m1 : bMul (turns : Int) size = true := bMul_small (by omega) (by omega)
    have e1 : (turns : Int) * size = ((turns * size : Nat) : Int) := by rw [Int.natCast_mul]
    simp -dsimp [hw0, hw1, m1, e1, -Int.natCast_mul]
    refine (bits' A2.hb (by omega) (by omega) (by omega)).call ?_
    rintro _ s3 ⟨raw, rfl, hb, hrl, A3⟩
    rw [Int.toNat_natCast] at hrl
    simp -dsimp
    refine (draw' A3.hb (by omega) (by omega) (by omega)).call ?_
    rintro _ s4 ⟨r4, rfl, a4, b4, A4⟩
    have A := A1.go (A2.go (A3.go A4))
    simp -dsimp
    refine ⟨okR_of (by omega) (by omega), ?_⟩
    rw [rangeL_map]
    refine loop_inv (fun k env s => ∃ (bs : List (List Nat)) (v10 : Option D), env = [some (.ref i), some (Kd.server low size).d, some (.int len), some (.int size), some (.int turns), some (.int bg), some (.int way), some (.str raw), some (.int r4), some (.str bs.flatten), v10] ∧ bs.length = k ∧ (∀ B ∈ bs, Bits B ∧ B.length = size ∧ low ≤ B.count 49) ∧ Af (n + 1 + 1 + 1000 + 1) i st s) ⟨[], none, rfl, rfl, by simp, A⟩ ?_ ?_
    · rintro k d env s hd ⟨bs, v10, rfl, hbl, hbs, AA⟩
      rw [List.getElem?_map] at hd
      cases q : (List.range turns)[k]? with
      | none => rw [q] at hd; cases hd
      | some k' =>
        rw [q] at hd
        cases hd
        have hkl : k < turns := by simpa using (List.getElem?_eq_some_iff.mp q).1
        rw [List.getElem?_range hkl] at q
        cases q
        have hks : (k + 1) * size ≤ turns * size := Nat.mul_le_mul_right _ hkl
        have hks2 : (k + 1) * size = k * size + size := by rw [Nat.add_mul]; omega
        refine ⟨_, rfl, ?_⟩
        have m2 : bMul (k : Int) size = true := bMul_small (by omega) (by omega)
        have m3 : bMul 5 (k : Int) = true := bMul_small (by decide) (by omega)
        have e2 : (k : Int) * size = ((k * size : Nat) : Int) := by rw [Int.natCast_mul]
        have hrr : raw.length ≤ 16777216 := by omega
        have e3 : cutD raw (some ((k * size : Nat) : Int)) (some (((k * size : Nat) : Int) + (size : Int))) = (raw.drop (k * size)).take size := by
          rw [cut_in (by omega) (by omega)]
          congr 1
          omega
        have e4 : ((raw.drop (k * size)).take size).length = size := by
          rw [List.length_take, List.length_drop]
          omega
        simp -dsimp [m2, m3, e2, hrr, e3, Kd.d, -Int.natCast_mul]
        refine (period_ok ((hb.drop _).take _) (by omega) (by omega) (by omega)).call ?_
        rintro _ s5 ⟨B, rfl, hB, hBl, hBc, _, hsm⟩
        rw [e4] at hBl
        have hf := flat_len bs fun C m => (hbs C m).2.1
        rw [hbl] at hf
        simp -dsimp [hf, hBl]
        refine ⟨by omega, bs ++ [B], by simp [Kd.d], by simp [hbl], ?_, AA.keep hsm⟩
        intro C hC
        rcases List.mem_append.mp hC with z | z
        · exact hbs C z
        · have : C = B := by simpa using z
          subst this
          exact ⟨hB, hBl, hBc⟩
    · rintro env s ⟨bs, v10, rfl, hbl, hbs, AA⟩
      rw [List.length_map, List.length_range] at hbl
      have hf := flat_len bs fun C m => (hbs C m).2.1
      rw [hbl] at hf
      have hfe : bs.flatten.length ≤ 16777216 := by omega
      simp -dsimp only [r_sRet, OutW_andS, r_eSl, r_eVar, Ret_bind, Ret_ok, OutW_rt, List.getElem?_cons_succ, List.getElem?_cons_zero, r_oSome, r_bind_ok, r_eBin, r_addI, r_slS, szl, hfe, if_true, ec]
      have := blocks_let (begin := bg) (len := len) l1 l2 hbs (by omega) (by rw [hbl]; exact htl)
      exact ⟨_, rfl, this.1, this.2.1, this.2.2, AA.mono (by omega)⟩
theorem law_holds : ∀ ns : List Int, ns.length ≤ 63 → ∃ s, f_law [.rol (ns.map .int)] [] = .ok (.bl true) s := by
  intro ns hns
  have main : Ret (f_law [.rol (ns.map .int)] []) (fun d s => d = .bl true) NX := by
    unfold f_law b_f_law
    rw [Ret_body]
    refine ⟨rfl, OutW.seq (fun e s => ∃ i, e = [some (.rol (ns.map D.int)), some (.ref i), none, none, none, none, none, none, none, none] ∧ HB 0 i s) ?_ ?_⟩
    · simp -dsimp
      refine box_ok.call ?_
      rintro _ s ⟨i, rfl, hb, _⟩
      simp -dsimp
      exact hb
    rintro _ s0 ⟨i, rfl, hb0⟩
    refine OutW.seq (fun e s => True) ?_ (fun e s _ => by simp -dsimp)
    simp -dsimp
    refine (server_ok hb0 (by decide)).call ?_
    rintro _ s1 ⟨low, size, rfl, hk1, A1⟩
    simp -dsimp
    refine (windows_ok A1.hb (by decide)).call ?_
    rintro _ s2 ⟨row, rfl, hk2, A2⟩
    simp -dsimp
    refine loop_inv (fun j e s => ∃ v2 v3 v4 v5 v6 v7 v8 v9 : Option D, e = [some (.rol (ns.map D.int)), some (.ref i), v2, v3, v4, v5, v6, v7, v8, v9] ∧ HB (10000 + 100000 * j) i s) ⟨none, none, none, none, none, none, none, none, rfl, A2.hb.mono (by omega)⟩ ?_ ?_
    · rintro j d env s hd ⟨v2, v3, v4, v5, v6, v7, v8, v9, rfl, hb⟩
      have hj : j < 3 := (List.getElem?_eq_some_iff.mp hd).1
      obtain ⟨k, rfl, h⟩ : ∃ k : Kd, d = k.d ∧ k.ok := by
        have hm := List.mem_of_getElem? hd
        simp only [List.mem_cons, List.not_mem_nil, or_false] at hm
        rcases hm with rfl | rfl | rfl
        · exact ⟨_, rfl, hk1⟩
        · exact ⟨_, rfl, hk2⟩
        · exact ⟨.full, rfl, trivial⟩
      obtain ⟨z1, z2⟩ := Kd.size_ok h
      refine ⟨_, rfl, ?_⟩
      refine OutW.seq (fun e s => e = [some (.rol (ns.map D.int)), some (.ref i), some k.d, some k.th, v4, v5, v6, v7, v8, v9] ∧ HB (10000 + 100000 * j) i s) ?_ ?_
      · simp -dsimp
        refine (made_ok h).call ?_
        rintro _ s3 ⟨rfl, hsm⟩
        simp -dsimp
        exact hb.keep hsm (by simp)
      clear hb
      rintro _ s3 ⟨rfl, hb⟩
      refine OutW.seq (fun e s => ∃ len : Nat, e = [some (.rol (ns.map D.int)), some (.ref i), some k.d, some k.th, some (.int len), v5, v6, v7, v8, v9] ∧ 2 * k.size + 3 ≤ len ∧ len ≤ 2000 ∧ HB (10000 + 100000 * j + 1) i s) ?_ ?_
      · have m1 : bMul 2 (k.size : Int) = true := bMul_small (by decide) (by omega)
        simp -dsimp
        refine (size_ok h).call ?_
        rintro _ _ ⟨rfl, rfl⟩
        simp -dsimp [m1]
        refine (size_ok h).call ?_
        rintro _ _ ⟨rfl, rfl⟩
        simp -dsimp
        refine (draw' hb (by omega) (by omega) (by omega)).call ?_
        rintro _ s4 ⟨r4, rfl, a4, b4, A4⟩
        simp -dsimp
        exact ⟨2 * k.size + 3 + r4.toNat, by omega, by omega, by omega, A4.hb⟩
      clear hb
      rintro _ s4 ⟨len, rfl, hl1, hl2, hb⟩
      refine OutW.seq (fun e s => e = [some (.rol (ns.map D.int)), some (.ref i), some k.d, some k.th, some (.int len), some (.lst ((worst len k).map .str)), v6, v7, v8, v9] ∧ s4 = s) ?_ ?_
      · simp -dsimp
        refine (worst_rows_ok h hl2).call ?_
        rintro _ _ ⟨rfl, rfl⟩
        simp -dsimp
      rintro _ _ ⟨rfl, rfl⟩
      refine OutW.seq (fun e s => e = [some (.rol (ns.map D.int)), some (.ref i), some k.d, some k.th, some (.int len), some (.lst ((worst len k).map .str)), some (fewD k len (len + 1)), v7, v8, v9] ∧ HB (10000 + 100000 * j + 1) i s) ?_ ?_
      · simp -dsimp
        refine (fewest_ok h hl2).call ?_
        rintro _ s5 ⟨rfl, hsm⟩
        simp -dsimp
        exact hb.keep hsm (by simp)
      clear hb
      rintro _ s5 ⟨rfl, hb⟩
      refine OutW.seq (fun e s => ∃ step : Int, e = [some (.rol (ns.map D.int)), some (.ref i), some k.d, some k.th, some (.int len), some (.lst ((worst len k).map .str)), some (fewD k len (len + 1)), some (.int step), v8, v9] ∧ 0 < step ∧ s5 = s) ?_ ?_
      · simp -dsimp
        refine (size_ok h).call ?_
        rintro _ _ ⟨rfl, rfl⟩
        simp -dsimp [bDiv_small]
        omega
      rintro _ _ ⟨step, rfl, hst, rfl⟩
      have hpos := few_pos h (show 2 * k.size + 1 ≤ len by omega)
      refine OutW.seq (fun e s => e = [some (.rol (ns.map D.int)), some (.ref i), some k.d, some k.th, some (.int len), some (.lst ((worst len k).map .str)), some (fewD k len (len + 1)), some (.int step), v8, v9] ∧ s5 = s) ?_ ?_
      · have hne : ¬ few k len len = 0 := by omega
        have hix : fIx (fewD k len (len + 1)) (.int (len : Nat)) s5 = .ok (.int (few k len len)) s5 := by
          unfold fewD
          rw [r_ixL, few_at (by omega)]
        simp -dsimp [hix, hne]
        refine (reached_ok h (Nat.le_refl _) hl2 hst).call ?_
        rintro _ _ ⟨rfl, rfl⟩
        simp -dsimp
      rintro _ _ ⟨rfl, rfl⟩
      refine OutW.seq (fun e s => ∃ v8 v9, e = [some (.rol (ns.map D.int)), some (.ref i), some k.d, some k.th, some (.int len), some (.lst ((worst len k).map .str)), some (fewD k len (len + 1)), some (.int step), v8, v9] ∧ HB (10000 + 100000 * j + 9001) i s) ?_ ?_
      · simp -dsimp
        refine ⟨okR_of (by decide) (by decide), ?_⟩
        refine loop_inv (fun t e s => ∃ v8 v9, e = [some (.rol (ns.map D.int)), some (.ref i), some k.d, some k.th, some (.int len), some (.lst ((worst len k).map .str)), some (fewD k len (len + 1)), some (.int step), v8, v9] ∧ HB (10000 + 100000 * j + 1 + 3000 * t) i s) ⟨v8, v9, rfl, hb⟩ ?_ ?_
        · rintro t d env s hd ⟨v8, v9, rfl, hb⟩
          obtain ⟨ht, rfl⟩ := rangeL_get hd
          have ht : t < 3 := by simpa using ht
          rw [show (0 : Int) + (t : Int) = ((t : Nat) : Int) by omega]
          refine ⟨_, rfl, ?_⟩
          simp -dsimp
          refine (draw' hb (by omega) (by omega) (by omega)).call ?_
          rintro _ s6 ⟨r6, rfl, a6, b6, A6⟩
          obtain ⟨q, rfl⟩ : ∃ q : Nat, r6 = q := ⟨r6.toNat, by omega⟩
          simp -dsimp
          refine (promised_ok A6.hb (by omega) h (by omega)).call ?_
          rintro _ s7 ⟨b, rfl, gb, lb, tb, A7⟩
          simp -dsimp
          refine (keeps_ok A7.hb (by omega) h hl2 gb (by omega) tb).call ?_
          rintro _ s8 ⟨rfl, A8⟩
          simp -dsimp
          exact A8.hb.mono (by omega)
        · rintro env s ⟨v8, v9, rfl, hb⟩
          exact ⟨_, _, rfl, hb.mono (by rw [rangeL_len]; simp)⟩
      clear hb
      rintro _ s6 ⟨v8, v9, rfl, hb⟩
      refine OutW.seq (fun e s => e = [some (.rol (ns.map D.int)), some (.ref i), some k.d, some k.th, some (.int len), some (.lst ((worst len k).map .str)), some (fewD k len (len + 1)), some (.int step), v8, v9] ∧ HB (10000 + 100000 * j + 12000) i s) ?_ ?_
      · simp -dsimp
        refine (promised_ok hb (by omega) h (by omega)).call ?_
        rintro _ s7 ⟨b, rfl, gb, lb, tb, A7⟩
        simp -dsimp
        refine (keeps_ok A7.hb (by omega) h hl2 gb (by omega) tb).call ?_
        rintro _ s8 ⟨rfl, A8⟩
        simp -dsimp
        exact A8.hb.mono (by omega)
      clear hb
      rintro _ s7 ⟨rfl, hb⟩
      refine OutW.seq (fun e s => e = [some (.rol (ns.map D.int)), some (.ref i), some k.d, some k.th, some (.int len), some (.lst ((worst len k).map .str)), some (fewD k len (len + 1)), some (.int step), v8, v9] ∧ HB (10000 + 100000 * j + 22000) i s) ?_ ?_
      · simp -dsimp
        refine (refuses_ok hb (by omega) h hl2).call ?_
        rintro _ s8 ⟨rfl, A8⟩
        simp -dsimp
        exact A8.hb.mono (by omega)
      clear hb
      rintro _ s8 ⟨rfl, hb⟩
      have hle : isLet k [] = true := by
        obtain ⟨W, hW⟩ := List.exists_mem_of_ne_nil _ (worst_ne h len)
        have := (worst_in h hW).2.2 0
        rwa [List.take_zero] at this
      have hlv := isTrue_lets (env := [some (.rol (ns.map D.int)), some (.ref i), some k.d, some k.th, some (.int len), some (.lst ((worst len k).map .str)), some (fewD k len (len + 1)), some (.int step), v8, v9]) (st := s8) (a := eVar 3) (x := eC (.str [])) h .nil (by simp) rfl rfl
      have hcut : fSl false (fewD k len (len + 1)) none (some 4) s8 = .ok (fewD k len 4) s8 := by
        unfold fewD
        rw [r_slL, cut_to (by decide), ← List.map_take, List.take_range]
        rw [show min (Int.toNat 4) (len + 1) = 4 by show min 4 (len + 1) = 4; omega]
        rfl
      simp -dsimp [-r_eMeth, hlv, hle, hcut]
      refine (reached_ok h (by omega) hl2 (by decide)).call ?_
      rintro _ _ ⟨rfl, rfl⟩
      simp -dsimp
      exact hb.mono (by omega)
    · rintro env s _
      trivial
  obtain ⟨d, s, e, rfl⟩ := main.out
  exact ⟨s, e⟩
end M
/-! ### the text as the top has made it, the end -/
namespace M
open PySem PySem.Spec PyProof.Rows L2 F
theorem all_mk {l : PySem.W.OpenLaw} {w : World} {K : PySem.W.Frag} {h : Heap} {mg : Str → Option Value} {fa C3 C4 C5 a0 a1 a2 a3 a4 a5 a6 a7 a8 a9 a10 a11 a12 a13 a14 a15 a16 a17 a18 a19 a20 a21 a22 a23 a24 a25 a26 a27 a28 a29 a30 a31 : Addr} {t_MOST_CELLS t_MOST_PERIOD : Nat} (X : K.In h) (G : h.Ns mainGlobals mg) (hfa : mg "law" = some (.ref fa))
    {od0 an0 : Option Addr} {sl0 : Array (Option Value)} {oc0 kV0 dc0 pm0 cd0 ct0 : Value}
    {od1 an1 : Option Addr} {sl1 : Array (Option Value)} {oc1 kV1 dc1 pm1 cd1 ct1 : Value}
    {od2 an2 : Option Addr} {sl2 : Array (Option Value)} {oc2 kV2 dc2 pm2 cd2 ct2 : Value}
    {od3 an3 : Option Addr} {sl3 : Array (Option Value)} {oc3 kV3 dc3 pm3 cd3 ct3 : Value}
    {od4 an4 : Option Addr} {sl4 : Array (Option Value)} {oc4 kV4 dc4 pm4 cd4 ct4 : Value}
    {od5 an5 : Option Addr} {sl5 : Array (Option Value)} {oc5 kV5 dc5 pm5 cd5 ct5 : Value}
    {od6 an6 : Option Addr} {sl6 : Array (Option Value)} {oc6 kV6 dc6 pm6 cd6 ct6 : Value}
    {od7 an7 : Option Addr} {sl7 : Array (Option Value)} {oc7 kV7 dc7 pm7 cd7 ct7 : Value}
    {od8 an8 : Option Addr} {sl8 : Array (Option Value)} {oc8 kV8 dc8 pm8 cd8 ct8 : Value}
    {od9 an9 : Option Addr} {sl9 : Array (Option Value)} {oc9 kV9 dc9 pm9 cd9 ct9 : Value}
    {od10 an10 : Option Addr} {sl10 : Array (Option Value)} {oc10 kV10 dc10 pm10 cd10 ct10 : Value}
    {od11 an11 : Option Addr} {sl11 : Array (Option Value)} {oc11 kV11 dc11 pm11 cd11 ct11 : Value}
    {od12 an12 : Option Addr} {sl12 : Array (Option Value)} {oc12 kV12 dc12 pm12 cd12 ct12 : Value}
    {od13 an13 : Option Addr} {sl13 : Array (Option Value)} {oc13 kV13 dc13 pm13 cd13 ct13 : Value}
    {od14 an14 : Option Addr} {sl14 : Array (Option Value)} {oc14 kV14 dc14 pm14 cd14 ct14 : Value}
    {od15 an15 : Option Addr} {sl15 : Array (Option Value)} {oc15 kV15 dc15 pm15 cd15 ct15 : Value}
    {od16 an16 : Option Addr} {sl16 : Array (Option Value)} {oc16 kV16 dc16 pm16 cd16 ct16 : Value}
    {od17 an17 : Option Addr} {sl17 : Array (Option Value)} {oc17 kV17 dc17 pm17 cd17 ct17 : Value}
    {od18 an18 : Option Addr} {sl18 : Array (Option Value)} {oc18 kV18 dc18 pm18 cd18 ct18 : Value}
    {od19 an19 : Option Addr} {sl19 : Array (Option Value)} {oc19 kV19 dc19 pm19 cd19 ct19 : Value}
    {od20 an20 : Option Addr} {sl20 : Array (Option Value)} {oc20 kV20 dc20 pm20 cd20 ct20 : Value}
    {od21 an21 : Option Addr} {sl21 : Array (Option Value)} {oc21 kV21 dc21 pm21 cd21 ct21 : Value}
    {od22 an22 : Option Addr} {sl22 : Array (Option Value)} {oc22 kV22 dc22 pm22 cd22 ct22 : Value}
    {od23 an23 : Option Addr} {sl23 : Array (Option Value)} {oc23 kV23 dc23 pm23 cd23 ct23 : Value}
    {od24 an24 : Option Addr} {sl24 : Array (Option Value)} {oc24 kV24 dc24 pm24 cd24 ct24 : Value}
    {od25 an25 : Option Addr} {sl25 : Array (Option Value)} {oc25 kV25 dc25 pm25 cd25 ct25 : Value}
    {od26 an26 : Option Addr} {sl26 : Array (Option Value)} {oc26 kV26 dc26 pm26 cd26 ct26 : Value}
    {od27 an27 : Option Addr} {sl27 : Array (Option Value)} {oc27 kV27 dc27 pm27 cd27 ct27 : Value}
    {od28 an28 : Option Addr} {sl28 : Array (Option Value)} {oc28 kV28 dc28 pm28 cd28 ct28 : Value}
    {od29 an29 : Option Addr} {sl29 : Array (Option Value)} {oc29 kV29 dc29 pm29 cd29 ct29 : Value}
    {od30 an30 : Option Addr} {sl30 : Array (Option Value)} {oc30 kV30 dc30 pm30 cd30 ct30 : Value}
    {od31 an31 : Option Addr} {sl31 : Array (Option Value)} {oc31 kV31 dc31 pm31 cd31 ct31 : Value}
    (z_all : PySem.W.nsIn K mainGlobals "all" = some none)
    (z_any : PySem.W.nsIn K mainGlobals "any" = some none)
    (z_bool : PySem.W.nsIn K mainGlobals "bool" = some none)
    (z_divmod : PySem.W.nsIn K mainGlobals "divmod" = some none)
    (z_int : PySem.W.nsIn K mainGlobals "int" = some none)
    (z_isinstance : PySem.W.nsIn K mainGlobals "isinstance" = some none)
    (z_len : PySem.W.nsIn K mainGlobals "len" = some none)
    (z_list : PySem.W.nsIn K mainGlobals "list" = some none)
    (z_max : PySem.W.nsIn K mainGlobals "max" = some none)
    (z_min : PySem.W.nsIn K mainGlobals "min" = some none)
    (z_range : PySem.W.nsIn K mainGlobals "range" = some none)
    (i_MOST_CELLS : PySem.W.nsIn K mainGlobals "MOST_CELLS" = some (some (.int 24 t_MOST_CELLS)))
    (i_MOST_PERIOD : PySem.W.nsIn K mainGlobals "MOST_PERIOD" = some (some (.int 48 t_MOST_PERIOD)))
    (mc_Full : PySem.W.nsIn K mainGlobals "Full" = some (some (.ref C3)))
    (pg_Full : PySem.W.plainGet K C3 Str.empty = true)
    (hd_Full : PySem.W.hasDictIn K C3 = true)
    (po_Full : PySem.W.plainOver K C3 = true)
    (sa_Full : PySem.W.findIn K (.ref C3) "__setattr__" = some (some (.builtin "object.__setattr__")))
    (ms_Full : PySem.W.makesIn K C3 = true)
    (kc_Full : PySem.W.keepIn K (.ref C3) = true)
    (in_Full : PySem.W.findIn K (.ref C3) "__init__" = some (some (.builtin "object.__init__")))
    (mc_Server : PySem.W.nsIn K mainGlobals "Server" = some (some (.ref C4)))
    (pg_Server : PySem.W.plainGet K C4 Str.empty = true)
    (hd_Server : PySem.W.hasDictIn K C4 = true)
    (po_Server : PySem.W.plainOver K C4 = true)
    (sa_Server : PySem.W.findIn K (.ref C4) "__setattr__" = some (some (.builtin "object.__setattr__")))
    (na_Server_budget : PySem.W.findIn K (.ref C4) "budget" = some none)
    (na_Server_period : PySem.W.findIn K (.ref C4) "period" = some none)
    (ms_Server : PySem.W.makesIn K C4 = true)
    (kc_Server : PySem.W.keepIn K (.ref C4) = true)
    (in_Server : PySem.W.findIn K (.ref C4) "__init__" = some (some (.ref a20)))
    (if_Server : PySem.W.isFn K (.ref a20) = true)
    (mc_Windows : PySem.W.nsIn K mainGlobals "Windows" = some (some (.ref C5)))
    (pg_Windows : PySem.W.plainGet K C5 Str.empty = true)
    (hd_Windows : PySem.W.hasDictIn K C5 = true)
    (po_Windows : PySem.W.plainOver K C5 = true)
    (sa_Windows : PySem.W.findIn K (.ref C5) "__setattr__" = some (some (.builtin "object.__setattr__")))
    (na_Windows_cells : PySem.W.findIn K (.ref C5) "cells" = some none)
    (ms_Windows : PySem.W.makesIn K C5 = true)
    (kc_Windows : PySem.W.keepIn K (.ref C5) = true)
    (in_Windows : PySem.W.findIn K (.ref C5) "__init__" = some (some (.ref a21)))
    (if_Windows : PySem.W.isFn K (.ref a21) = true)
    (m_Server__lets_cut : PySem.W.findIn K (.ref C4) "_lets_cut" = some (some (.ref a1)))
    (mf_Server__lets_cut : PySem.W.isFn K (.ref a1) = true)
    (m_Full_curves : PySem.W.findIn K (.ref C3) "curves" = some (some (.ref a4)))
    (mf_Full_curves : PySem.W.isFn K (.ref a4) = true)
    (m_Server_curves : PySem.W.findIn K (.ref C4) "curves" = some (some (.ref a5)))
    (mf_Server_curves : PySem.W.isFn K (.ref a5) = true)
    (m_Windows_curves : PySem.W.findIn K (.ref C5) "curves" = some (some (.ref a6)))
    (mf_Windows_curves : PySem.W.isFn K (.ref a6) = true)
    (m_Full_least : PySem.W.findIn K (.ref C3) "least" = some (some (.ref a14)))
    (mf_Full_least : PySem.W.isFn K (.ref a14) = true)
    (m_Server_least : PySem.W.findIn K (.ref C4) "least" = some (some (.ref a15)))
    (mf_Server_least : PySem.W.isFn K (.ref a15) = true)
    (m_Windows_least : PySem.W.findIn K (.ref C5) "least" = some (some (.ref a16)))
    (mf_Windows_least : PySem.W.isFn K (.ref a16) = true)
    (m_Full_lets : PySem.W.findIn K (.ref C3) "lets" = some (some (.ref a0)))
    (mf_Full_lets : PySem.W.isFn K (.ref a0) = true)
    (m_Server_lets : PySem.W.findIn K (.ref C4) "lets" = some (some (.ref a3)))
    (mf_Server_lets : PySem.W.isFn K (.ref a3) = true)
    (m_Windows_lets : PySem.W.findIn K (.ref C5) "lets" = some (some (.ref a8)))
    (mf_Windows_lets : PySem.W.isFn K (.ref a8) = true)
    (l0 : K.lookup a0 = some ⟨oc0, od0, .func (PySem.W.fnOf "lets" "Full.lets" (defArgs s_f_Full_lets) (defBody s_f_Full_lets) (defScope s_f_Full_lets) .none kV0 dc0 pm0 an0 cd0 ct0), sl0⟩)
    (c0 : PySem.W.codeIn K cd0 "Full.lets" = true)
    (k0 : PySem.W.keepIn K (.ref a0) = true)
    (l1 : K.lookup a1 = some ⟨oc1, od1, .func (PySem.W.fnOf "_lets_cut" "Server._lets_cut" (defArgs s_f_Server__lets_cut) (defBody s_f_Server__lets_cut) (defScope s_f_Server__lets_cut) .none kV1 dc1 pm1 an1 cd1 ct1), sl1⟩)
    (c1 : PySem.W.codeIn K cd1 "Server._lets_cut" = true)
    (k1 : PySem.W.keepIn K (.ref a1) = true)
    (g2 : PySem.W.nsIn K mainGlobals "_are_bits" = some (some (.ref a2)))
    (l2 : K.lookup a2 = some ⟨oc2, od2, .func (PySem.W.fnOf "_are_bits" "_are_bits" (defArgs s_f__are_bits) (defBody s_f__are_bits) (defScope s_f__are_bits) .none kV2 dc2 pm2 an2 cd2 ct2), sl2⟩)
    (c2 : PySem.W.codeIn K cd2 "_are_bits" = true)
    (k2 : PySem.W.keepIn K (.ref a2) = true)
    (l3 : K.lookup a3 = some ⟨oc3, od3, .func (PySem.W.fnOf "lets" "Server.lets" (defArgs s_f_Server_lets) (defBody s_f_Server_lets) (defScope s_f_Server_lets) .none kV3 dc3 pm3 an3 cd3 ct3), sl3⟩)
    (c3 : PySem.W.codeIn K cd3 "Server.lets" = true)
    (k3 : PySem.W.keepIn K (.ref a3) = true)
    (l4 : K.lookup a4 = some ⟨oc4, od4, .func (PySem.W.fnOf "curves" "Full.curves" (defArgs s_f_Full_curves) (defBody s_f_Full_curves) (defScope s_f_Full_curves) .none kV4 dc4 pm4 an4 cd4 ct4), sl4⟩)
    (c4 : PySem.W.codeIn K cd4 "Full.curves" = true)
    (k4 : PySem.W.keepIn K (.ref a4) = true)
    (l5 : K.lookup a5 = some ⟨oc5, od5, .func (PySem.W.fnOf "curves" "Server.curves" (defArgs s_f_Server_curves) (defBody s_f_Server_curves) (defScope s_f_Server_curves) .none kV5 dc5 pm5 an5 cd5 ct5), sl5⟩)
    (c5 : PySem.W.codeIn K cd5 "Server.curves" = true)
    (k5 : PySem.W.keepIn K (.ref a5) = true)
    (l6 : K.lookup a6 = some ⟨oc6, od6, .func (PySem.W.fnOf "curves" "Windows.curves" (defArgs s_f_Windows_curves) (defBody s_f_Windows_curves) (defScope s_f_Windows_curves) .none kV6 dc6 pm6 an6 cd6 ct6), sl6⟩)
    (c6 : PySem.W.codeIn K cd6 "Windows.curves" = true)
    (k6 : PySem.W.keepIn K (.ref a6) = true)
    (g7 : PySem.W.nsIn K mainGlobals "bits_of" = some (some (.ref a7)))
    (l7 : K.lookup a7 = some ⟨oc7, od7, .func (PySem.W.fnOf "bits_of" "bits_of" (defArgs s_f_bits_of) (defBody s_f_bits_of) (defScope s_f_bits_of) .none kV7 dc7 pm7 an7 cd7 ct7), sl7⟩)
    (c7 : PySem.W.codeIn K cd7 "bits_of" = true)
    (k7 : PySem.W.keepIn K (.ref a7) = true)
    (l8 : K.lookup a8 = some ⟨oc8, od8, .func (PySem.W.fnOf "lets" "Windows.lets" (defArgs s_f_Windows_lets) (defBody s_f_Windows_lets) (defScope s_f_Windows_lets) .none kV8 dc8 pm8 an8 cd8 ct8), sl8⟩)
    (c8 : PySem.W.codeIn K cd8 "Windows.lets" = true)
    (k8 : PySem.W.keepIn K (.ref a8) = true)
    (g9 : PySem.W.nsIn K mainGlobals "_law_box" = some (some (.ref a9)))
    (l9 : K.lookup a9 = some ⟨oc9, od9, .func (PySem.W.fnOf "_law_box" "_law_box" (defArgs s_f__law_box) (defBody s_f__law_box) (defScope s_f__law_box) .none kV9 dc9 pm9 an9 cd9 ct9), sl9⟩)
    (c9 : PySem.W.codeIn K cd9 "_law_box" = true)
    (k9 : PySem.W.keepIn K (.ref a9) = true)
    (g10 : PySem.W.nsIn K mainGlobals "_law_draw" = some (some (.ref a10)))
    (l10 : K.lookup a10 = some ⟨oc10, od10, .func (PySem.W.fnOf "_law_draw" "_law_draw" (defArgs s_f__law_draw) (defBody s_f__law_draw) (defScope s_f__law_draw) .none kV10 dc10 pm10 an10 cd10 ct10), sl10⟩)
    (c10 : PySem.W.codeIn K cd10 "_law_draw" = true)
    (k10 : PySem.W.keepIn K (.ref a10) = true)
    (g11 : PySem.W.nsIn K mainGlobals "_law_fewest" = some (some (.ref a11)))
    (l11 : K.lookup a11 = some ⟨oc11, od11, .func (PySem.W.fnOf "_law_fewest" "_law_fewest" (defArgs s_f__law_fewest) (defBody s_f__law_fewest) (defScope s_f__law_fewest) .none kV11 dc11 pm11 an11 cd11 ct11), sl11⟩)
    (c11 : PySem.W.codeIn K cd11 "_law_fewest" = true)
    (k11 : PySem.W.keepIn K (.ref a11) = true)
    (g12 : PySem.W.nsIn K mainGlobals "ones" = some (some (.ref a12)))
    (l12 : K.lookup a12 = some ⟨oc12, od12, .func (PySem.W.fnOf "ones" "ones" (defArgs s_f_ones) (defBody s_f_ones) (defScope s_f_ones) .none kV12 dc12 pm12 an12 cd12 ct12), sl12⟩)
    (c12 : PySem.W.codeIn K cd12 "ones" = true)
    (k12 : PySem.W.keepIn K (.ref a12) = true)
    (g13 : PySem.W.nsIn K mainGlobals "_least_ones" = some (some (.ref a13)))
    (l13 : K.lookup a13 = some ⟨oc13, od13, .func (PySem.W.fnOf "_least_ones" "_least_ones" (defArgs s_f__least_ones) (defBody s_f__least_ones) (defScope s_f__least_ones) .none kV13 dc13 pm13 an13 cd13 ct13), sl13⟩)
    (c13 : PySem.W.codeIn K cd13 "_least_ones" = true)
    (k13 : PySem.W.keepIn K (.ref a13) = true)
    (l14 : K.lookup a14 = some ⟨oc14, od14, .func (PySem.W.fnOf "least" "Full.least" (defArgs s_f_Full_least) (defBody s_f_Full_least) (defScope s_f_Full_least) .none kV14 dc14 pm14 an14 cd14 ct14), sl14⟩)
    (c14 : PySem.W.codeIn K cd14 "Full.least" = true)
    (k14 : PySem.W.keepIn K (.ref a14) = true)
    (l15 : K.lookup a15 = some ⟨oc15, od15, .func (PySem.W.fnOf "least" "Server.least" (defArgs s_f_Server_least) (defBody s_f_Server_least) (defScope s_f_Server_least) .none kV15 dc15 pm15 an15 cd15 ct15), sl15⟩)
    (c15 : PySem.W.codeIn K cd15 "Server.least" = true)
    (k15 : PySem.W.keepIn K (.ref a15) = true)
    (l16 : K.lookup a16 = some ⟨oc16, od16, .func (PySem.W.fnOf "least" "Windows.least" (defArgs s_f_Windows_least) (defBody s_f_Windows_least) (defScope s_f_Windows_least) .none kV16 dc16 pm16 an16 cd16 ct16), sl16⟩)
    (c16 : PySem.W.codeIn K cd16 "Windows.least" = true)
    (k16 : PySem.W.keepIn K (.ref a16) = true)
    (g17 : PySem.W.nsIn K mainGlobals "_law_is_number" = some (some (.ref a17)))
    (l17 : K.lookup a17 = some ⟨oc17, od17, .func (PySem.W.fnOf "_law_is_number" "_law_is_number" (defArgs s_f__law_is_number) (defBody s_f__law_is_number) (defScope s_f__law_is_number) .none kV17 dc17 pm17 an17 cd17 ct17), sl17⟩)
    (c17 : PySem.W.codeIn K cd17 "_law_is_number" = true)
    (k17 : PySem.W.keepIn K (.ref a17) = true)
    (g18 : PySem.W.nsIn K mainGlobals "_law_is_reached" = some (some (.ref a18)))
    (l18 : K.lookup a18 = some ⟨oc18, od18, .func (PySem.W.fnOf "_law_is_reached" "_law_is_reached" (defArgs s_f__law_is_reached) (defBody s_f__law_is_reached) (defScope s_f__law_is_reached) .none kV18 dc18 pm18 an18 cd18 ct18), sl18⟩)
    (c18 : PySem.W.codeIn K cd18 "_law_is_reached" = true)
    (k18 : PySem.W.keepIn K (.ref a18) = true)
    (g19 : PySem.W.nsIn K mainGlobals "_law_keeps" = some (some (.ref a19)))
    (l19 : K.lookup a19 = some ⟨oc19, od19, .func (PySem.W.fnOf "_law_keeps" "_law_keeps" (defArgs s_f__law_keeps) (defBody s_f__law_keeps) (defScope s_f__law_keeps) .none kV19 dc19 pm19 an19 cd19 ct19), sl19⟩)
    (c19 : PySem.W.codeIn K cd19 "_law_keeps" = true)
    (k19 : PySem.W.keepIn K (.ref a19) = true)
    (l20 : K.lookup a20 = some ⟨oc20, od20, .func (PySem.W.fnOf "__init__" "Server.__init__" (defArgs s_f_Server___init__) (defBody s_f_Server___init__) (defScope s_f_Server___init__) .none kV20 dc20 pm20 an20 cd20 ct20), sl20⟩)
    (c20 : PySem.W.codeIn K cd20 "Server.__init__" = true)
    (k20 : PySem.W.keepIn K (.ref a20) = true)
    (l21 : K.lookup a21 = some ⟨oc21, od21, .func (PySem.W.fnOf "__init__" "Windows.__init__" (defArgs s_f_Windows___init__) (defBody s_f_Windows___init__) (defScope s_f_Windows___init__) .none kV21 dc21 pm21 an21 cd21 ct21), sl21⟩)
    (c21 : PySem.W.codeIn K cd21 "Windows.__init__" = true)
    (k21 : PySem.W.keepIn K (.ref a21) = true)
    (g22 : PySem.W.nsIn K mainGlobals "_law_made" = some (some (.ref a22)))
    (l22 : K.lookup a22 = some ⟨oc22, od22, .func (PySem.W.fnOf "_law_made" "_law_made" (defArgs s_f__law_made) (defBody s_f__law_made) (defScope s_f__law_made) .none kV22 dc22 pm22 an22 cd22 ct22), sl22⟩)
    (c22 : PySem.W.codeIn K cd22 "_law_made" = true)
    (k22 : PySem.W.keepIn K (.ref a22) = true)
    (g23 : PySem.W.nsIn K mainGlobals "_law_bits" = some (some (.ref a23)))
    (l23 : K.lookup a23 = some ⟨oc23, od23, .func (PySem.W.fnOf "_law_bits" "_law_bits" (defArgs s_f__law_bits) (defBody s_f__law_bits) (defScope s_f__law_bits) .none kV23 dc23 pm23 an23 cd23 ct23), sl23⟩)
    (c23 : PySem.W.codeIn K cd23 "_law_bits" = true)
    (k23 : PySem.W.keepIn K (.ref a23) = true)
    (g24 : PySem.W.nsIn K mainGlobals "_law_period" = some (some (.ref a24)))
    (l24 : K.lookup a24 = some ⟨oc24, od24, .func (PySem.W.fnOf "_law_period" "_law_period" (defArgs s_f__law_period) (defBody s_f__law_period) (defScope s_f__law_period) .none kV24 dc24 pm24 an24 cd24 ct24), sl24⟩)
    (c24 : PySem.W.codeIn K cd24 "_law_period" = true)
    (k24 : PySem.W.keepIn K (.ref a24) = true)
    (g25 : PySem.W.nsIn K mainGlobals "_law_size" = some (some (.ref a25)))
    (l25 : K.lookup a25 = some ⟨oc25, od25, .func (PySem.W.fnOf "_law_size" "_law_size" (defArgs s_f__law_size) (defBody s_f__law_size) (defScope s_f__law_size) .none kV25 dc25 pm25 an25 cd25 ct25), sl25⟩)
    (c25 : PySem.W.codeIn K cd25 "_law_size" = true)
    (k25 : PySem.W.keepIn K (.ref a25) = true)
    (g26 : PySem.W.nsIn K mainGlobals "_law_promised" = some (some (.ref a26)))
    (l26 : K.lookup a26 = some ⟨oc26, od26, .func (PySem.W.fnOf "_law_promised" "_law_promised" (defArgs s_f__law_promised) (defBody s_f__law_promised) (defScope s_f__law_promised) .none kV26 dc26 pm26 an26 cd26 ct26), sl26⟩)
    (c26 : PySem.W.codeIn K cd26 "_law_promised" = true)
    (k26 : PySem.W.keepIn K (.ref a26) = true)
    (g27 : PySem.W.nsIn K mainGlobals "_law_refuses_fewer" = some (some (.ref a27)))
    (l27 : K.lookup a27 = some ⟨oc27, od27, .func (PySem.W.fnOf "_law_refuses_fewer" "_law_refuses_fewer" (defArgs s_f__law_refuses_fewer) (defBody s_f__law_refuses_fewer) (defScope s_f__law_refuses_fewer) .none kV27 dc27 pm27 an27 cd27 ct27), sl27⟩)
    (c27 : PySem.W.codeIn K cd27 "_law_refuses_fewer" = true)
    (k27 : PySem.W.keepIn K (.ref a27) = true)
    (g28 : PySem.W.nsIn K mainGlobals "_law_server" = some (some (.ref a28)))
    (l28 : K.lookup a28 = some ⟨oc28, od28, .func (PySem.W.fnOf "_law_server" "_law_server" (defArgs s_f__law_server) (defBody s_f__law_server) (defScope s_f__law_server) .none kV28 dc28 pm28 an28 cd28 ct28), sl28⟩)
    (c28 : PySem.W.codeIn K cd28 "_law_server" = true)
    (k28 : PySem.W.keepIn K (.ref a28) = true)
    (g29 : PySem.W.nsIn K mainGlobals "_law_windows" = some (some (.ref a29)))
    (l29 : K.lookup a29 = some ⟨oc29, od29, .func (PySem.W.fnOf "_law_windows" "_law_windows" (defArgs s_f__law_windows) (defBody s_f__law_windows) (defScope s_f__law_windows) .none kV29 dc29 pm29 an29 cd29 ct29), sl29⟩)
    (c29 : PySem.W.codeIn K cd29 "_law_windows" = true)
    (k29 : PySem.W.keepIn K (.ref a29) = true)
    (g30 : PySem.W.nsIn K mainGlobals "_law_worst_rows" = some (some (.ref a30)))
    (l30 : K.lookup a30 = some ⟨oc30, od30, .func (PySem.W.fnOf "_law_worst_rows" "_law_worst_rows" (defArgs s_f__law_worst_rows) (defBody s_f__law_worst_rows) (defScope s_f__law_worst_rows) .none kV30 dc30 pm30 an30 cd30 ct30), sl30⟩)
    (c30 : PySem.W.codeIn K cd30 "_law_worst_rows" = true)
    (k30 : PySem.W.keepIn K (.ref a30) = true)
    (g31 : PySem.W.nsIn K mainGlobals "law" = some (some (.ref a31)))
    (l31 : K.lookup a31 = some ⟨oc31, od31, .func (PySem.W.fnOf "law" "law" (defArgs s_f_law) (defBody s_f_law) (defScope s_f_law) .none kV31 dc31 pm31 an31 cd31 ct31), sl31⟩)
    (c31 : PySem.W.codeIn K cd31 "law" = true)
    (k31 : PySem.W.keepIn K (.ref a31) = true)
    (hm : ∀ ns : List Int, ns.length ≤ 63 → ∃ s, f_law [.rol (ns.map .int)] [] = .ok (.bl true) s) :
    ∃ fd : FuncData, (∀ (s : Shared) (v : Value), BindsTo s fd ⟨[v], []⟩ [("script", v)]) ∧ ∀ base : Heap, K.In base → base.Ns mainGlobals mg → FnOk l.prog w K mg base (L2.CX l.prog w) 5 fa fd ["script"] (spLaw K) := by
  have e := hfa.symm.trans (PySem.W.mg_of X G g31)
  cases e
  have F0 := fun_mk (st := s_f_Full_lets) l0 c0 k0
  have b0 := F0.binds (ps := ["self", "bits"]) fun _ _ _ _ _ _ us hl => match us, hl with | [_, _], _ => rfl
  have F1 := fun_mk (st := s_f_Server__lets_cut) l1 c1 k1
  have b1 := F1.binds (ps := ["self", "bits", "head"]) fun _ _ _ _ _ _ us hl => match us, hl with | [_, _, _], _ => rfl
  have F2 := fun_mk (st := s_f__are_bits) l2 c2 k2
  have b2 := F2.binds (ps := ["text"]) fun _ _ _ _ _ _ us hl => match us, hl with | [_], _ => rfl
  have F3 := fun_mk (st := s_f_Server_lets) l3 c3 k3
  have b3 := F3.binds (ps := ["self", "bits"]) fun _ _ _ _ _ _ us hl => match us, hl with | [_, _], _ => rfl
  have F4 := fun_mk (st := s_f_Full_curves) l4 c4 k4
  have b4 := F4.binds (ps := ["self"]) fun _ _ _ _ _ _ us hl => match us, hl with | [_], _ => rfl
  have F5 := fun_mk (st := s_f_Server_curves) l5 c5 k5
  have b5 := F5.binds (ps := ["self"]) fun _ _ _ _ _ _ us hl => match us, hl with | [_], _ => rfl
  have F6 := fun_mk (st := s_f_Windows_curves) l6 c6 k6
  have b6 := F6.binds (ps := ["self"]) fun _ _ _ _ _ _ us hl => match us, hl with | [_], _ => rfl
  have F7 := fun_mk (st := s_f_bits_of) l7 c7 k7
  have b7 := F7.binds (ps := ["curve", "ticks"]) fun _ _ _ _ _ _ us hl => match us, hl with | [_, _], _ => rfl
  have F8 := fun_mk (st := s_f_Windows_lets) l8 c8 k8
  have b8 := F8.binds (ps := ["self", "bits"]) fun _ _ _ _ _ _ us hl => match us, hl with | [_, _], _ => rfl
  have F9 := fun_mk (st := s_f__law_box) l9 c9 k9
  have b9 := F9.binds (ps := ["script"]) fun _ _ _ _ _ _ us hl => match us, hl with | [_], _ => rfl
  have F10 := fun_mk (st := s_f__law_draw) l10 c10 k10
  have b10 := F10.binds (ps := ["box", "many"]) fun _ _ _ _ _ _ us hl => match us, hl with | [_, _], _ => rfl
  have F11 := fun_mk (st := s_f__law_fewest) l11 c11 k11
  have b11 := F11.binds (ps := ["rows", "length"]) fun _ _ _ _ _ _ us hl => match us, hl with | [_, _], _ => rfl
  have F12 := fun_mk (st := s_f_ones) l12 c12 k12
  have b12 := F12.binds (ps := ["curve", "ticks"]) fun _ _ _ _ _ _ us hl => match us, hl with | [_, _], _ => rfl
  have F13 := fun_mk (st := s_f__least_ones) l13 c13 k13
  have b13 := F13.binds (ps := ["curves", "ticks"]) fun _ _ _ _ _ _ us hl => match us, hl with | [_, _], _ => rfl
  have F14 := fun_mk (st := s_f_Full_least) l14 c14 k14
  have b14 := F14.binds (ps := ["self", "ticks"]) fun _ _ _ _ _ _ us hl => match us, hl with | [_, _], _ => rfl
  have F15 := fun_mk (st := s_f_Server_least) l15 c15 k15
  have b15 := F15.binds (ps := ["self", "ticks"]) fun _ _ _ _ _ _ us hl => match us, hl with | [_, _], _ => rfl
  have F16 := fun_mk (st := s_f_Windows_least) l16 c16 k16
  have b16 := F16.binds (ps := ["self", "ticks"]) fun _ _ _ _ _ _ us hl => match us, hl with | [_, _], _ => rfl
  have F17 := fun_mk (st := s_f__law_is_number) l17 c17 k17
  have b17 := F17.binds (ps := ["answer", "wanted"]) fun _ _ _ _ _ _ us hl => match us, hl with | [_, _], _ => rfl
  have F18 := fun_mk (st := s_f__law_is_reached) l18 c18 k18
  have b18 := F18.binds (ps := ["thing", "rows", "fewest", "step"]) fun _ _ _ _ _ _ us hl => match us, hl with | [_, _, _, _], _ => rfl
  have F19 := fun_mk (st := s_f__law_keeps) l19 c19 k19
  have b19 := F19.binds (ps := ["box", "thing", "bits", "fewest"]) fun _ _ _ _ _ _ us hl => match us, hl with | [_, _, _, _], _ => rfl
  have F20 := fun_mk (st := s_f_Server___init__) l20 c20 k20
  have b20 := F20.binds (ps := ["self", "budget", "period"]) fun _ _ _ _ _ _ us hl => match us, hl with | [_, _, _], _ => rfl
  have F21 := fun_mk (st := s_f_Windows___init__) l21 c21 k21
  have b21 := F21.binds (ps := ["self", "cells"]) fun _ _ _ _ _ _ us hl => match us, hl with | [_, _], _ => rfl
  have F22 := fun_mk (st := s_f__law_made) l22 c22 k22
  have b22 := F22.binds (ps := ["kind"]) fun _ _ _ _ _ _ us hl => match us, hl with | [_], _ => rfl
  have F23 := fun_mk (st := s_f__law_bits) l23 c23 k23
  have b23 := F23.binds (ps := ["box", "size"]) fun _ _ _ _ _ _ us hl => match us, hl with | [_, _], _ => rfl
  have F24 := fun_mk (st := s_f__law_period) l24 c24 k24
  have b24 := F24.binds (ps := ["raw", "low", "start", "exact"]) fun _ _ _ _ _ _ us hl => match us, hl with | [_, _, _, _], _ => rfl
  have F25 := fun_mk (st := s_f__law_size) l25 c25 k25
  have b25 := F25.binds (ps := ["kind"]) fun _ _ _ _ _ _ us hl => match us, hl with | [_], _ => rfl
  have F26 := fun_mk (st := s_f__law_promised) l26 c26 k26
  have b26 := F26.binds (ps := ["box", "kind", "length"]) fun _ _ _ _ _ _ us hl => match us, hl with | [_, _, _], _ => rfl
  have F27 := fun_mk (st := s_f__law_refuses_fewer) l27 c27 k27
  have b27 := F27.binds (ps := ["box", "thing", "rows", "fewest"]) fun _ _ _ _ _ _ us hl => match us, hl with | [_, _, _, _], _ => rfl
  have F28 := fun_mk (st := s_f__law_server) l28 c28 k28
  have b28 := F28.binds (ps := ["box"]) fun _ _ _ _ _ _ us hl => match us, hl with | [_], _ => rfl
  have F29 := fun_mk (st := s_f__law_windows) l29 c29 k29
  have b29 := F29.binds (ps := ["box"]) fun _ _ _ _ _ _ us hl => match us, hl with | [_], _ => rfl
  have F30 := fun_mk (st := s_f__law_worst_rows) l30 c30 k30
  have b30 := F30.binds (ps := ["kind", "length"]) fun _ _ _ _ _ _ us hl => match us, hl with | [_, _], _ => rfl
  have F31 := fun_mk (st := s_f_law) l31 c31 k31
  have b31 := F31.binds (ps := ["script"]) fun _ _ _ _ _ _ us hl => match us, hl with | [_], _ => rfl
  let T : Txt K mg := {
    no_all := PySem.W.mg_none_of X G z_all
    no_any := PySem.W.mg_none_of X G z_any
    no_bool := PySem.W.mg_none_of X G z_bool
    no_divmod := PySem.W.mg_none_of X G z_divmod
    no_int := PySem.W.mg_none_of X G z_int
    no_isinstance := PySem.W.mg_none_of X G z_isinstance
    no_len := PySem.W.mg_none_of X G z_len
    no_list := PySem.W.mg_none_of X G z_list
    no_max := PySem.W.mg_none_of X G z_max
    no_min := PySem.W.mg_none_of X G z_min
    no_range := PySem.W.mg_none_of X G z_range
    gi_MOST_CELLS := ⟨_, PySem.W.mg_of X G i_MOST_CELLS⟩
    gi_MOST_PERIOD := ⟨_, PySem.W.mg_of X G i_MOST_PERIOD⟩
    c_Full := C3
    mgc_Full := PySem.W.mg_of X G mc_Full
    cl_Full := ⟨pg_Full, hd_Full, po_Full, sa_Full⟩
    mk_Full := ⟨ms_Full, in_Full, kc_Full⟩
    c_Server := C4
    mgc_Server := PySem.W.mg_of X G mc_Server
    cl_Server := ⟨pg_Server, hd_Server, po_Server, sa_Server⟩
    na_Server_budget := na_Server_budget
    na_Server_period := na_Server_period
    mk_Server := ⟨ms_Server, in_Server, if_Server, kc_Server⟩
    c_Windows := C5
    mgc_Windows := PySem.W.mg_of X G mc_Windows
    cl_Windows := ⟨pg_Windows, hd_Windows, po_Windows, sa_Windows⟩
    na_Windows_cells := na_Windows_cells
    mk_Windows := ⟨ms_Windows, in_Windows, if_Windows, kc_Windows⟩
    a_f_Full_lets := a0
    d_f_Full_lets := _
    F_f_Full_lets := F0
    b_f_Full_lets := b0
    a_f_Server__lets_cut := a1
    d_f_Server__lets_cut := _
    F_f_Server__lets_cut := F1
    b_f_Server__lets_cut := b1
    a_f__are_bits := a2
    d_f__are_bits := _
    F_f__are_bits := F2
    b_f__are_bits := b2
    g_f__are_bits := PySem.W.mg_of X G g2
    a_f_Server_lets := a3
    d_f_Server_lets := _
    F_f_Server_lets := F3
    b_f_Server_lets := b3
    a_f_Full_curves := a4
    d_f_Full_curves := _
    F_f_Full_curves := F4
    b_f_Full_curves := b4
    a_f_Server_curves := a5
    d_f_Server_curves := _
    F_f_Server_curves := F5
    b_f_Server_curves := b5
    a_f_Windows_curves := a6
    d_f_Windows_curves := _
    F_f_Windows_curves := F6
    b_f_Windows_curves := b6
    a_f_bits_of := a7
    d_f_bits_of := _
    F_f_bits_of := F7
    b_f_bits_of := b7
    g_f_bits_of := PySem.W.mg_of X G g7
    a_f_Windows_lets := a8
    d_f_Windows_lets := _
    F_f_Windows_lets := F8
    b_f_Windows_lets := b8
    a_f__law_box := a9
    d_f__law_box := _
    F_f__law_box := F9
    b_f__law_box := b9
    g_f__law_box := PySem.W.mg_of X G g9
    a_f__law_draw := a10
    d_f__law_draw := _
    F_f__law_draw := F10
    b_f__law_draw := b10
    g_f__law_draw := PySem.W.mg_of X G g10
    a_f__law_fewest := a11
    d_f__law_fewest := _
    F_f__law_fewest := F11
    b_f__law_fewest := b11
    g_f__law_fewest := PySem.W.mg_of X G g11
    a_f_ones := a12
    d_f_ones := _
    F_f_ones := F12
    b_f_ones := b12
    g_f_ones := PySem.W.mg_of X G g12
    a_f__least_ones := a13
    d_f__least_ones := _
    F_f__least_ones := F13
    b_f__least_ones := b13
    g_f__least_ones := PySem.W.mg_of X G g13
    a_f_Full_least := a14
    d_f_Full_least := _
    F_f_Full_least := F14
    b_f_Full_least := b14
    a_f_Server_least := a15
    d_f_Server_least := _
    F_f_Server_least := F15
    b_f_Server_least := b15
    a_f_Windows_least := a16
    d_f_Windows_least := _
    F_f_Windows_least := F16
    b_f_Windows_least := b16
    a_f__law_is_number := a17
    d_f__law_is_number := _
    F_f__law_is_number := F17
    b_f__law_is_number := b17
    g_f__law_is_number := PySem.W.mg_of X G g17
    a_f__law_is_reached := a18
    d_f__law_is_reached := _
    F_f__law_is_reached := F18
    b_f__law_is_reached := b18
    g_f__law_is_reached := PySem.W.mg_of X G g18
    a_f__law_keeps := a19
    d_f__law_keeps := _
    F_f__law_keeps := F19
    b_f__law_keeps := b19
    g_f__law_keeps := PySem.W.mg_of X G g19
    a_f_Server___init__ := a20
    d_f_Server___init__ := _
    F_f_Server___init__ := F20
    b_f_Server___init__ := b20
    a_f_Windows___init__ := a21
    d_f_Windows___init__ := _
    F_f_Windows___init__ := F21
    b_f_Windows___init__ := b21
    a_f__law_made := a22
    d_f__law_made := _
    F_f__law_made := F22
    b_f__law_made := b22
    g_f__law_made := PySem.W.mg_of X G g22
    a_f__law_bits := a23
    d_f__law_bits := _
    F_f__law_bits := F23
    b_f__law_bits := b23
    g_f__law_bits := PySem.W.mg_of X G g23
    a_f__law_period := a24
    d_f__law_period := _
    F_f__law_period := F24
    b_f__law_period := b24
    g_f__law_period := PySem.W.mg_of X G g24
    a_f__law_size := a25
    d_f__law_size := _
    F_f__law_size := F25
    b_f__law_size := b25
    g_f__law_size := PySem.W.mg_of X G g25
    a_f__law_promised := a26
    d_f__law_promised := _
    F_f__law_promised := F26
    b_f__law_promised := b26
    g_f__law_promised := PySem.W.mg_of X G g26
    a_f__law_refuses_fewer := a27
    d_f__law_refuses_fewer := _
    F_f__law_refuses_fewer := F27
    b_f__law_refuses_fewer := b27
    g_f__law_refuses_fewer := PySem.W.mg_of X G g27
    a_f__law_server := a28
    d_f__law_server := _
    F_f__law_server := F28
    b_f__law_server := b28
    g_f__law_server := PySem.W.mg_of X G g28
    a_f__law_windows := a29
    d_f__law_windows := _
    F_f__law_windows := F29
    b_f__law_windows := b29
    g_f__law_windows := PySem.W.mg_of X G g29
    a_f__law_worst_rows := a30
    d_f__law_worst_rows := _
    F_f__law_worst_rows := F30
    b_f__law_worst_rows := b30
    g_f__law_worst_rows := PySem.W.mg_of X G g30
    a_f_law := fa
    d_f_law := _
    F_f_law := F31
    b_f_law := b31
    g_f_law := PySem.W.mg_of X G g31
    m_Server__lets_cut := ⟨m_Server__lets_cut, mf_Server__lets_cut, k1⟩
    m_Full_curves := ⟨m_Full_curves, mf_Full_curves, k4⟩
    m_Server_curves := ⟨m_Server_curves, mf_Server_curves, k5⟩
    m_Windows_curves := ⟨m_Windows_curves, mf_Windows_curves, k6⟩
    m_Full_least := ⟨m_Full_least, mf_Full_least, k14⟩
    m_Server_least := ⟨m_Server_least, mf_Server_least, k15⟩
    m_Windows_least := ⟨m_Windows_least, mf_Windows_least, k16⟩
    m_Full_lets := ⟨m_Full_lets, mf_Full_lets, k0⟩
    m_Server_lets := ⟨m_Server_lets, mf_Server_lets, k3⟩
    m_Windows_lets := ⟨m_Windows_lets, mf_Windows_lets, k8⟩ }
  exact ⟨_, fun s v => .of_eq rfl, fun base _ _ => (ok_f_law T).imp (law_sp (G := T.G) hm)⟩
end M
open PySem PySem.W PyProof.Rows
set_option maxRecDepth 100000 in
set_option maxHeartbeats 0 in
theorem PySem.Challenge.cw_busyspan_k08_whole_no_stretch_is_worse_holds : PySem.Challenge.rw_busyspan_k08_whole_no_stretch_is_worse.Holds := by
  w_on; o_law; k_head; (case hw => w_witness2)
  k_fill
  refine F.walk (l := PySem.Challenge.rw_busyspan_k08_whole_no_stretch_is_worse) 5 ⟨rfl, by decide, by decide⟩ rfl rfl (fun w h Y => PySem.W.kIn_of Y) ?F
  case F =>
    intro w mg fa h KX G hmg
    refine' M.all_mk KX G hmg ?z_all ?z_any ?z_bool ?z_divmod ?z_int ?z_isinstance ?z_len ?z_list ?z_max ?z_min ?z_range ?i_MOST_CELLS ?i_MOST_PERIOD ?mc_Full ?pg_Full ?hd_Full ?po_Full ?sa_Full ?ms_Full ?kc_Full ?in_Full ?mc_Server ?pg_Server ?hd_Server ?po_Server ?sa_Server ?na_Server_budget ?na_Server_period ?ms_Server ?kc_Server ?in_Server ?if_Server ?mc_Windows ?pg_Windows ?hd_Windows ?po_Windows ?sa_Windows ?na_Windows_cells ?ms_Windows ?kc_Windows ?in_Windows ?if_Windows ?m_Server__lets_cut ?mf_Server__lets_cut ?m_Full_curves ?mf_Full_curves ?m_Server_curves ?mf_Server_curves ?m_Windows_curves ?mf_Windows_curves ?m_Full_least ?mf_Full_least ?m_Server_least ?mf_Server_least ?m_Windows_least ?mf_Windows_least ?m_Full_lets ?mf_Full_lets ?m_Server_lets ?mf_Server_lets ?m_Windows_lets ?mf_Windows_lets ?l0 ?c0 ?k0 ?l1 ?c1 ?k1 ?g2 ?l2 ?c2 ?k2 ?l3 ?c3 ?k3 ?l4 ?c4 ?k4 ?l5 ?c5 ?k5 ?l6 ?c6 ?k6 ?g7 ?l7 ?c7 ?k7 ?l8 ?c8 ?k8 ?g9 ?l9 ?c9 ?k9 ?g10 ?l10 ?c10 ?k10 ?g11 ?l11 ?c11 ?k11 ?g12 ?l12 ?c12 ?k12 ?g13 ?l13 ?c13 ?k13 ?l14 ?c14 ?k14 ?l15 ?c15 ?k15 ?l16 ?c16 ?k16 ?g17 ?l17 ?c17 ?k17 ?g18 ?l18 ?c18 ?k18 ?g19 ?l19 ?c19 ?k19 ?l20 ?c20 ?k20 ?l21 ?c21 ?k21 ?g22 ?l22 ?c22 ?k22 ?g23 ?l23 ?c23 ?k23 ?g24 ?l24 ?c24 ?k24 ?g25 ?l25 ?c25 ?k25 ?g26 ?l26 ?c26 ?k26 ?g27 ?l27 ?c27 ?k27 ?g28 ?l28 ?c28 ?k28 ?g29 ?l29 ?c29 ?k29 ?g30 ?l30 ?c30 ?k30 ?g31 ?l31 ?c31 ?k31 M.law_holds
    (case z_all => k_is)
    (case z_any => k_is)
    (case z_bool => k_is)
    (case z_divmod => k_is)
    (case z_int => k_is)
    (case z_isinstance => k_is)
    (case z_len => k_is)
    (case z_list => k_is)
    (case z_max => k_is)
    (case z_min => k_is)
    (case z_range => k_is)
    (case i_MOST_CELLS => k_is)
    (case i_MOST_PERIOD => k_is)
    (case mc_Full => k_is)
    (case pg_Full => k_is)
    (case hd_Full => k_is)
    (case po_Full => k_is)
    (case sa_Full => k_is)
    (case ms_Full => k_is)
    (case kc_Full => k_is)
    (case in_Full => k_is)
    (case mc_Server => k_is)
    (case pg_Server => k_is)
    (case hd_Server => k_is)
    (case po_Server => k_is)
    (case sa_Server => k_is)
    (case na_Server_budget => k_is)
    (case na_Server_period => k_is)
    (case ms_Server => k_is)
    (case kc_Server => k_is)
    (case in_Server => k_is)
    (case if_Server => k_is)
    (case mc_Windows => k_is)
    (case pg_Windows => k_is)
    (case hd_Windows => k_is)
    (case po_Windows => k_is)
    (case sa_Windows => k_is)
    (case na_Windows_cells => k_is)
    (case ms_Windows => k_is)
    (case kc_Windows => k_is)
    (case in_Windows => k_is)
    (case if_Windows => k_is)
    (case m_Server__lets_cut => k_is)
    (case mf_Server__lets_cut => k_is)
    (case m_Full_curves => k_is)
    (case mf_Full_curves => k_is)
    (case m_Server_curves => k_is)
    (case mf_Server_curves => k_is)
    (case m_Windows_curves => k_is)
    (case mf_Windows_curves => k_is)
    (case m_Full_least => k_is)
    (case mf_Full_least => k_is)
    (case m_Server_least => k_is)
    (case mf_Server_least => k_is)
    (case m_Windows_least => k_is)
    (case mf_Windows_least => k_is)
    (case m_Full_lets => k_is)
    (case mf_Full_lets => k_is)
    (case m_Server_lets => k_is)
    (case mf_Server_lets => k_is)
    (case m_Windows_lets => k_is)
    (case mf_Windows_lets => k_is)
    (case l0 => k_is)
    (case c0 => k_is)
    (case k0 => k_is)
    (case l1 => k_is)
    (case c1 => k_is)
    (case k1 => k_is)
    (case g2 => k_is)
    (case l2 => k_is)
    (case c2 => k_is)
    (case k2 => k_is)
    (case l3 => k_is)
    (case c3 => k_is)
    (case k3 => k_is)
    (case l4 => k_is)
    (case c4 => k_is)
    (case k4 => k_is)
    (case l5 => k_is)
    (case c5 => k_is)
    (case k5 => k_is)
    (case l6 => k_is)
    (case c6 => k_is)
    (case k6 => k_is)
    (case g7 => k_is)
    (case l7 => k_is)
    (case c7 => k_is)
    (case k7 => k_is)
    (case l8 => k_is)
    (case c8 => k_is)
    (case k8 => k_is)
    (case g9 => k_is)
    (case l9 => k_is)
    (case c9 => k_is)
    (case k9 => k_is)
    (case g10 => k_is)
    (case l10 => k_is)
    (case c10 => k_is)
    (case k10 => k_is)
    (case g11 => k_is)
    (case l11 => k_is)
    (case c11 => k_is)
    (case k11 => k_is)
    (case g12 => k_is)
    (case l12 => k_is)
    (case c12 => k_is)
    (case k12 => k_is)
    (case g13 => k_is)
    (case l13 => k_is)
    (case c13 => k_is)
    (case k13 => k_is)
    (case l14 => k_is)
    (case c14 => k_is)
    (case k14 => k_is)
    (case l15 => k_is)
    (case c15 => k_is)
    (case k15 => k_is)
    (case l16 => k_is)
    (case c16 => k_is)
    (case k16 => k_is)
    (case g17 => k_is)
    (case l17 => k_is)
    (case c17 => k_is)
    (case k17 => k_is)
    (case g18 => k_is)
    (case l18 => k_is)
    (case c18 => k_is)
    (case k18 => k_is)
    (case g19 => k_is)
    (case l19 => k_is)
    (case c19 => k_is)
    (case k19 => k_is)
    (case l20 => k_is)
    (case c20 => k_is)
    (case k20 => k_is)
    (case l21 => k_is)
    (case c21 => k_is)
    (case k21 => k_is)
    (case g22 => k_is)
    (case l22 => k_is)
    (case c22 => k_is)
    (case k22 => k_is)
    (case g23 => k_is)
    (case l23 => k_is)
    (case c23 => k_is)
    (case k23 => k_is)
    (case g24 => k_is)
    (case l24 => k_is)
    (case c24 => k_is)
    (case k24 => k_is)
    (case g25 => k_is)
    (case l25 => k_is)
    (case c25 => k_is)
    (case k25 => k_is)
    (case g26 => k_is)
    (case l26 => k_is)
    (case c26 => k_is)
    (case k26 => k_is)
    (case g27 => k_is)
    (case l27 => k_is)
    (case c27 => k_is)
    (case k27 => k_is)
    (case g28 => k_is)
    (case l28 => k_is)
    (case c28 => k_is)
    (case k28 => k_is)
    (case g29 => k_is)
    (case l29 => k_is)
    (case c29 => k_is)
    (case k29 => k_is)
    (case g30 => k_is)
    (case l30 => k_is)
    (case c30 => k_is)
    (case k30 => k_is)
    (case g31 => k_is)
    (case l31 => k_is)
    (case c31 => k_is)
    (case k31 => k_is)
