import PyProof.Rows.All
import Wide.All
import OpenK.AllK
import Wide.FinOn
import HandS.ForMost
import HandS.ForExc
import HandS.Wide
import HandS.Style
import HandS.TupAny
import HandS.CallSlots
import PyProof.StrOps2
import PyProof.StrBlock2
import HandS.IsInst
import PyProof.ListStr
import HandS.Zip
import HandS.Rev
import HandS.Text
import HandS.Codes
import HandS.Defaults
import HandS.MakeKwOnly
import KE.GoesEnum
import PySem.Challenge.RW_busyspan_k53_broken_logs
set_option Elab.async false
set_option linter.all false
set_option maxRecDepth 100000
set_option maxHeartbeats 4000000
/-! An own functional layer over HandS: data, store, worlds, readings that are given by functions. -/
namespace F
open PySem PySem.Spec PyProof.Rows L2

/-- data: pure values; ref i is the i-th cell of the store -/
inductive D where
  | non | bl (b : Bool) | int (i : Int) | str (s : List Nat)
  | tup (ds : List D) | lst (ds : List D) | rol (ds : List D) | obj (c : Nat) (ds : List D)
  | ref (i : Nat)
  | rng (i j c : Int) | ty (n : String) | cl (c : Nat)

/-- what may change -/
inductive Cell where
  | dead
  | lst (ds : List D)
  | ins (c : Nat) (ds : List D)

abbrev Sto := List Cell
def Cell.live : Cell → Bool
  | .dead => false
  | _ => true

/-- the classes of the text: where they stand, their attributes in the order of their first store -/
structure CT where
  K : PySem.W.Frag
  cls : Nat → Addr
  fld : Nat → List Str

/-- ρ: where the cells stand; hid: lists that a comprehension fills just now -/
structure Wd where
  ρ : List Addr
  st : Sto
  H : Hp
  hid : List Addr
def Wd.live (w : Wd) (a : Addr) : Prop := a ∈ w.hid ∨ ∃ (i : Nat) (c : Cell), w.st[i]? = some c ∧ c.live = true ∧ w.ρ[i]? = some a

def KLst (K : PySem.W.Frag) (a : Addr) (xs : List V) : Prop := ∃ (o : Obj) (its : Array Value) (n : Nat), K.lookup a = some o ∧ o.cls = .type "list" ∧ o.dict = none ∧ o.data = .seq its n ∧ its.size ≤ sizeLine ∧ Vals xs its.toList
def KTup (K : PySem.W.Frag) (a : Addr) (xs : List V) : Prop := ∃ (o : Obj) (its : Array Value) (n : Nat), K.lookup a = some o ∧ o.cls = .type "tuple" ∧ o.data = .seq its n ∧ its.size ≤ sizeLine ∧ Vals xs its.toList
def SqLn (G : CT) (w : Wd) (a : Addr) (xs : List V) : Prop := (Rd w.H a (.lst xs) ∧ ¬ w.live a) ∨ KLst G.K a xs
def SqTn (G : CT) (w : Wd) (a : Addr) (xs : List V) : Prop := (Rd w.H a (.tup xs) ∧ ¬ w.live a) ∨ KTup G.K a xs
theorem SqLn.sq {G : CT} {w : Wd} {a : Addr} {xs : List V} (h : SqLn G w a xs) : SqL G.K w.H a xs := by
  rcases h with h | h
  · exact .inl h.1
  · exact .inr h
theorem SqTn.sq {G : CT} {w : Wd} {a : Addr} {xs : List V} (h : SqTn G w a xs) : SqT G.K w.H a xs := by
  rcases h with h | h
  · exact .inl h.1
  · exact .inr h

/-- a range object -/
def rngO (a : Addr) (i j c : Int) : HO := .ext fun h => ∃ t u v, h.get? a = some { cls := .type "range", data := .fields #[.int i t, .int j u, .int c v] }
mutual
/-- the datum d is the value x -/
def Rl (G : CT) (w : Wd) : D → V → Prop
  | .non, x => x = .non
  | .bl b, x => x = .bl b
  | .int i, x => x = .int i
  | .str s, x => x = .str ⟨s.toArray⟩
  | .tup ds, x => ∃ (a : Addr) (xs : List V), x = .ref a ∧ SqTn G w a xs ∧ Rls G w ds xs
  | .lst ds, x => ∃ (a : Addr) (xs : List V), x = .ref a ∧ (w.H a = some (.lst xs) ∧ ¬ w.live a) ∧ Rls G w ds xs
  | .rol ds, x => ∃ (a : Addr) (xs : List V), x = .ref a ∧ SqLn G w a xs ∧ Rls G w ds xs
  | .obj c ds, x => ∃ (a dx : Addr) (fs : List (Str × V)), x = .ref a ∧ w.H a = some (.ins (G.cls c) dx fs) ∧ ¬ w.live a ∧ fs.map (·.1) = G.fld c ∧ Rls G w ds (fs.map (·.2))
  | .ref i, x => ∃ a : Addr, w.ρ[i]? = some a ∧ x = .ref a
  | .rng i j c, x => ∃ a : Addr, x = .ref a ∧ w.H a = some (rngO a i j c) ∧ ¬ w.live a
  | .ty n, x => x = .ty n
  | .cl c, x => x = .ref (G.cls c)
def Rls (G : CT) (w : Wd) : List D → List V → Prop
  | [], xs => xs = []
  | d :: ds, xs => ∃ (x : V) (r : List V), xs = x :: r ∧ Rl G w d x ∧ Rls G w ds r
end

/-- the world goes on: what isn't live stays -/
structure Lw (w w' : Wd) : Prop where
  pre : ∀ (i : Nat) (a : Addr), w.ρ[i]? = some a → w'.ρ[i]? = some a
  ext : ∀ (a : Addr) (o : HO), w.H a = some o → ¬ w.live a → w'.H a = some o ∧ ¬ w'.live a
theorem Lw.refl (w : Wd) : Lw w w := ⟨fun _ _ h => h, fun _ _ h n => ⟨h, n⟩⟩
theorem Lw.trans {a b c : Wd} (h : Lw a b) (k : Lw b c) : Lw a c := ⟨fun i x e => k.pre i x (h.pre i x e), fun x o e n => k.ext x o (h.ext x o e n).1 (h.ext x o e n).2⟩
/-- .. and the hidden lists stay, too -/
structure Le (w w' : Wd) : Prop extends Lw w w' where
  hid : w'.hid = w.hid
  hide : ∀ a ∈ w.hid, w'.H a = w.H a
theorem Le.refl (w : Wd) : Le w w := ⟨Lw.refl w, rfl, fun _ _ => rfl⟩
theorem Le.trans {a b c : Wd} (h : Le a b) (k : Le b c) : Le a c := ⟨h.toLw.trans k.toLw, k.hid.trans h.hid, fun x m => (k.hide x (by rw [h.hid]; exact m)).trans (h.hide x m)⟩
theorem Lw.rd {w w' : Wd} (l : Lw w w') {a : Addr} {u : HO} (h : Rd w.H a u ∧ ¬ w.live a) : Rd w'.H a u ∧ ¬ w'.live a := by
  obtain ⟨h | ⟨o, h⟩, n⟩ := h
  · exact ⟨.inl (l.ext _ _ h n).1, (l.ext _ _ h n).2⟩
  · exact ⟨.inr ⟨o, (l.ext _ _ h n).1⟩, (l.ext _ _ h n).2⟩
theorem SqLn.monoW {G : CT} {w w' : Wd} (l : Lw w w') {a : Addr} {xs : List V} (h : SqLn G w a xs) : SqLn G w' a xs := by
  rcases h with h | h
  · exact .inl (l.rd h)
  · exact .inr h
theorem SqTn.monoW {G : CT} {w w' : Wd} (l : Lw w w') {a : Addr} {xs : List V} (h : SqTn G w a xs) : SqTn G w' a xs := by
  rcases h with h | h
  · exact .inl (l.rd h)
  · exact .inr h
mutual
theorem Rl.monoW {G : CT} {w w' : Wd} (l : Lw w w') : ∀ {d : D} {x : V}, Rl G w d x → Rl G w' d x
  | .non, _, h => h
  | .bl _, _, h => h
  | .int _, _, h => h
  | .str _, _, h => h
  | .tup ds, x, h => by
    obtain ⟨a, xs, e, s, r⟩ := h
    exact ⟨a, xs, e, s.monoW l, Rls.monoW l r⟩
  | .lst ds, x, h => by
    obtain ⟨a, xs, e, s, r⟩ := h
    exact ⟨a, xs, e, l.ext _ _ s.1 s.2, Rls.monoW l r⟩
  | .rol ds, x, h => by
    obtain ⟨a, xs, e, s, r⟩ := h
    exact ⟨a, xs, e, s.monoW l, Rls.monoW l r⟩
  | .obj c ds, x, h => by
    obtain ⟨a, dx, fs, e, s, n, k, r⟩ := h
    exact ⟨a, dx, fs, e, (l.ext _ _ s n).1, (l.ext _ _ s n).2, k, Rls.monoW l r⟩
  | .ref i, x, h => by
    obtain ⟨a, e, r⟩ := h
    exact ⟨a, l.pre _ _ e, r⟩
  | .rng _ _ _, x, h => by
    obtain ⟨a, e, s, n⟩ := h
    exact ⟨a, e, (l.ext _ _ s n).1, (l.ext _ _ s n).2⟩
  | .ty _, _, h => h
  | .cl _, _, h => h
theorem Rls.monoW {G : CT} {w w' : Wd} (l : Lw w w') : ∀ {ds : List D} {xs : List V}, Rls G w ds xs → Rls G w' ds xs
  | [], _, h => h
  | d :: ds, xs, h => by
    obtain ⟨x, r, e, h1, h2⟩ := h
    exact ⟨x, r, e, Rl.monoW l h1, Rls.monoW l h2⟩
end
theorem SqLn.mono {G : CT} {w w' : Wd} (l : Le w w') {a : Addr} {xs : List V} (h : SqLn G w a xs) : SqLn G w' a xs := h.monoW l.toLw
theorem SqTn.mono {G : CT} {w w' : Wd} (l : Le w w') {a : Addr} {xs : List V} (h : SqTn G w a xs) : SqTn G w' a xs := h.monoW l.toLw
theorem Rl.mono {G : CT} {w w' : Wd} (l : Le w w') {d : D} {x : V} (h : Rl G w d x) : Rl G w' d x := Rl.monoW l.toLw h
theorem Rls.mono {G : CT} {w w' : Wd} (l : Le w w') {ds : List D} {xs : List V} (h : Rls G w ds xs) : Rls G w' ds xs := Rls.monoW l.toLw h

theorem Rls.length {G : CT} {w : Wd} : ∀ {ds : List D} {xs : List V}, Rls G w ds xs → xs.length = ds.length
  | [], _, h => by rw [show _ = ([] : List V) from h]; rfl
  | d :: ds, xs, h => by
    obtain ⟨x, r, e, _, h2⟩ := h
    rw [e, List.length_cons, List.length_cons, Rls.length h2]
theorem Rls.get {G : CT} {w : Wd} : ∀ {ds : List D} {xs : List V} {i : Nat} {d : D}, Rls G w ds xs → ds[i]? = some d → ∃ x, xs[i]? = some x ∧ Rl G w d x
  | [], _, _, _, _, e => by simp at e
  | d :: ds, xs, i, y, h, e => by
    obtain ⟨x, r, e1, h1, h2⟩ := h
    subst e1
    cases i with
    | zero =>
      have q : d = y := by simpa using e
      subst q
      exact ⟨x, rfl, h1⟩
    | succ i => exact Rls.get (i := i) h2 (by simpa using e)
theorem Rls.get' {G : CT} {w : Wd} : ∀ {ds : List D} {xs : List V} {i : Nat} {x : V}, Rls G w ds xs → xs[i]? = some x → ∃ d, ds[i]? = some d ∧ Rl G w d x
  | [], xs, i, x, h, e => by
    have q : xs = [] := h
    subst q
    simp at e
  | d :: ds, xs, i, y, h, e => by
    obtain ⟨x, r, e1, h1, h2⟩ := h
    subst e1
    cases i with
    | zero =>
      have q : x = y := by simpa using e
      subst q
      exact ⟨d, rfl, h1⟩
    | succ i => exact Rls.get' (i := i) h2 (by simpa using e)
theorem Rls.append {G : CT} {w : Wd} : ∀ {ds es : List D} {xs ys : List V}, Rls G w ds xs → Rls G w es ys → Rls G w (ds ++ es) (xs ++ ys)
  | [], es, xs, ys, h, k => by
    have q : xs = [] := h
    subst q
    exact k
  | d :: ds, es, xs, ys, h, k => by
    obtain ⟨x, r, e1, h1, h2⟩ := h
    subst e1
    exact ⟨x, r ++ ys, rfl, h1, Rls.append h2 k⟩
theorem Rls.nil {G : CT} {w : Wd} : Rls G w [] [] := rfl
theorem Rls.cons {G : CT} {w : Wd} {d : D} {x : V} {ds : List D} {xs : List V} (h : Rl G w d x) (k : Rls G w ds xs) : Rls G w (d :: ds) (x :: xs) := ⟨x, xs, rfl, h, k⟩
theorem Rls.one {G : CT} {w : Wd} {d : D} {x : V} (h : Rl G w d x) : Rls G w [d] [x] := .cons h .nil
theorem Rls.take {G : CT} {w : Wd} : ∀ {ds : List D} {xs : List V} (n : Nat), Rls G w ds xs → Rls G w (ds.take n) (xs.take n)
  | _, _, 0, _ => rfl
  | [], xs, n + 1, h => by
    have q : xs = [] := h
    subst q
    rfl
  | d :: ds, xs, n + 1, h => by
    obtain ⟨x, r, e1, h1, h2⟩ := h
    subst e1
    exact ⟨x, r.take n, rfl, h1, Rls.take n h2⟩
theorem Rls.drop {G : CT} {w : Wd} : ∀ {ds : List D} {xs : List V} (n : Nat), Rls G w ds xs → Rls G w (ds.drop n) (xs.drop n)
  | _, _, 0, h => h
  | [], xs, n + 1, h => by
    have q : xs = [] := h
    subst q
    rfl
  | d :: ds, xs, n + 1, h => by
    obtain ⟨x, r, e1, h1, h2⟩ := h
    subst e1
    exact Rls.drop n h2
theorem Rls.set {G : CT} {w : Wd} : ∀ {ds : List D} {xs : List V} {d : D} {x : V} (n : Nat), Rls G w ds xs → Rl G w d x → Rls G w (ds.set n d) (xs.set n x)
  | [], xs, d, x, n, h, _ => by
    have q : xs = [] := h
    subst q
    rfl
  | d :: ds, xs, e, y, 0, h, k => by
    obtain ⟨x, r, e1, h1, h2⟩ := h
    subst e1
    exact ⟨y, r, rfl, k, h2⟩
  | d :: ds, xs, e, y, n + 1, h, k => by
    obtain ⟨x, r, e1, h1, h2⟩ := h
    subst e1
    exact ⟨x, r.set n y, rfl, h1, Rls.set n h2 k⟩

/-! ### the world is kept -/
def CellR (G : CT) (w : Wd) : Cell → Addr → Prop
  | .dead, a => ∃ o, w.H a = some o
  | .lst ds, a => ∃ xs, w.H a = some (.lst xs) ∧ Rls G w ds xs
  | .ins c ds, a => ∃ dx fs, w.H a = some (.ins (G.cls c) dx fs) ∧ fs.map (·.1) = (G.fld c).take ds.length ∧ Rls G w ds (fs.map (·.2))
structure Ok (G : CT) (w : Wd) : Prop where
  len : w.ρ.length = w.st.length
  nd : w.ρ.Nodup
  cell : ∀ (i : Nat) (c : Cell) (a : Addr), w.st[i]? = some c → w.ρ[i]? = some a → CellR G w c a
  hid : ∀ a ∈ w.hid, (∃ o, w.H a = some o) ∧ a ∉ w.ρ
theorem CellR.exs {G : CT} {w : Wd} {c : Cell} {a : Addr} (h : CellR G w c a) : ∃ o, w.H a = some o := by
  cases c with
  | dead => exact h
  | lst ds => obtain ⟨xs, e, _⟩ := h; exact ⟨_, e⟩
  | ins c ds => obtain ⟨dx, fs, e, _⟩ := h; exact ⟨_, e⟩
theorem Ok.at {G : CT} {w : Wd} (k : Ok G w) {i : Nat} {c : Cell} (h : w.st[i]? = some c) : ∃ a, w.ρ[i]? = some a ∧ CellR G w c a := by
  have hi : i < w.ρ.length := by rw [k.len]; exact (List.getElem?_eq_some_iff.mp h).1
  exact ⟨w.ρ[i], List.getElem?_eq_getElem hi, k.cell i c _ h (List.getElem?_eq_getElem hi)⟩
theorem Ok.mem {G : CT} {w : Wd} (k : Ok G w) {a : Addr} (h : a ∈ w.ρ) : ∃ o, w.H a = some o := by
  obtain ⟨i, hi, e⟩ := List.getElem_of_mem h
  have hs : i < w.st.length := by rw [← k.len]; exact hi
  exact CellR.exs (k.cell i w.st[i] a (List.getElem?_eq_getElem hs) (by rw [List.getElem?_eq_getElem hi, e]))
theorem Ok.new {G : CT} {w : Wd} (k : Ok G w) {a : Addr} (h : w.H a = none) : a ∉ w.ρ := fun m => by
  obtain ⟨o, e⟩ := k.mem m
  rw [h] at e
  cases e
theorem Ok.new_hid {G : CT} {w : Wd} (k : Ok G w) {a : Addr} (h : w.H a = none) : a ∉ w.hid := fun m => by
  obtain ⟨⟨o, e⟩, _⟩ := k.hid a m
  rw [h] at e
  cases e
theorem Ok.nlive {G : CT} {w : Wd} (k : Ok G w) {a : Addr} (h : w.H a = none) : ¬ w.live a := fun l => by
  rcases l with l | ⟨i, c, _, _, e⟩
  · exact k.new_hid h l
  · exact k.new h (List.mem_of_getElem? e)

/-- the heap grows by fresh objects that the store does not hold -/
theorem le_grow {G : CT} {w : Wd} {H' : Hp} (k : Ok G w) (h : ∀ a o, w.H a = some o → H' a = some o) : Le w ⟨w.ρ, w.st, H', w.hid⟩ := by
  refine ⟨⟨fun _ _ e => e, fun a o e n => ⟨h a o e, n⟩⟩, rfl, fun a m => ?_⟩
  obtain ⟨⟨o, e⟩, _⟩ := k.hid a m
  show H' a = w.H a
  rw [h a o e, e]
theorem CellR.growW {G : CT} {w w' : Wd} {c : Cell} {a : Addr} (l : Lw w w') (e : ∀ o, w.H a = some o → w'.H a = some o) (h : CellR G w c a) : CellR G w' c a := by
  cases c with
  | dead => obtain ⟨o, q⟩ := h; exact ⟨o, e o q⟩
  | lst ds => obtain ⟨xs, q, r⟩ := h; exact ⟨xs, e _ q, r.monoW l⟩
  | ins c ds => obtain ⟨dx, fs, q, k, r⟩ := h; exact ⟨dx, fs, e _ q, k, r.monoW l⟩
theorem CellR.grow {G : CT} {w w' : Wd} {c : Cell} {a : Addr} (l : Le w w') (e : ∀ o, w.H a = some o → w'.H a = some o) (h : CellR G w c a) : CellR G w' c a := CellR.growW l.toLw e h
theorem ok_grow {G : CT} {w : Wd} {H' : Hp} (k : Ok G w) (h : ∀ a o, w.H a = some o → H' a = some o) : Ok G ⟨w.ρ, w.st, H', w.hid⟩ :=
  ⟨k.len, k.nd, fun i c a e1 e2 => CellR.grow (le_grow k h) (fun o q => h a o q) (k.cell i c a e1 e2), fun a m => let ⟨⟨o, e⟩, n⟩ := k.hid a m; ⟨⟨o, h a o e⟩, n⟩⟩
theorem keeps_upd {H : Hp} {p : Addr} {o : HO} (n : H p = none) : ∀ a u, H a = some u → upd H p o a = some u := fun a u e => by
  rw [upd_ne (ne_of_none e n)]
  exact e
theorem nlive_new {G : CT} {w : Wd} (k : Ok G w) {a : Addr} (h : w.H a = none) : ¬ w.live a := k.nlive h

/-- a new cell -/
theorem getElem?_snoc {α : Type} {l : List α} {x y : α} {i : Nat} (h : (l ++ [x])[i]? = some y) : (l[i]? = some y) ∨ (i = l.length ∧ y = x) := by
  by_cases hi : i < l.length
  · rw [List.getElem?_append_left hi] at h
    exact .inl h
  · rw [List.getElem?_append_right (by omega)] at h
    have : i - l.length = 0 := by
      by_cases q : i - l.length = 0
      · exact q
      · rw [List.getElem?_eq_none (by simp; omega)] at h
        cases h
    rw [this] at h
    exact .inr ⟨by omega, by simpa using h.symm⟩
theorem live_snoc {w : Wd} {H' : Hp} {p a : Addr} {c : Cell} (hl : w.ρ.length = w.st.length) (h : Wd.live ⟨w.ρ ++ [p], w.st ++ [c], H', w.hid⟩ a) : w.live a ∨ a = p := by
  rcases h with h | ⟨i, d, e1, e2, e3⟩
  · exact .inl (.inl h)
  rcases getElem?_snoc e1 with e1 | ⟨e1, _⟩
  · rcases getElem?_snoc e3 with e3 | ⟨e3, q⟩
    · exact .inl (.inr ⟨i, d, e1, e2, e3⟩)
    · exact .inr q
  · rcases getElem?_snoc e3 with e3 | ⟨e3, q⟩
    · have := (List.getElem?_eq_some_iff.mp e3).1
      omega
    · exact .inr q
theorem le_new {G : CT} {w : Wd} (k : Ok G w) {p : Addr} {H' : Hp} (n : w.H p = none) {c : Cell} (h : ∀ a o, w.H a = some o → H' a = some o) : Le w ⟨w.ρ ++ [p], w.st ++ [c], H', w.hid⟩ := by
  refine ⟨⟨fun i a e => ?_, fun a o e l => ⟨h a o e, fun l' => ?_⟩⟩, rfl, fun a m => (le_grow k h).hide a m⟩
  · show (w.ρ ++ [p])[i]? = some a
    rw [List.getElem?_append_left (List.getElem?_eq_some_iff.mp e).1]
    exact e
  · rcases live_snoc k.len l' with q | q
    · exact l q
    · rw [q, n] at e
      cases e
theorem ok_new {G : CT} {w : Wd} (k : Ok G w) {p : Addr} {H' : Hp} (n : w.H p = none) {c : Cell} (h : ∀ a o, w.H a = some o → H' a = some o) (hc : CellR G ⟨w.ρ ++ [p], w.st ++ [c], H', w.hid⟩ c p) : Ok G ⟨w.ρ ++ [p], w.st ++ [c], H', w.hid⟩ := by
  refine ⟨by simp [k.len], ?_, fun i d a e1 e2 => ?_, fun a m => ?_⟩
  · show (w.ρ ++ [p]).Nodup
    rw [List.nodup_append]
    refine ⟨k.nd, by simp, fun a ha b hb => ?_⟩
    have : b = p := by simpa using hb
    subst this
    intro z
    subst z
    exact k.new n ha
  · rcases getElem?_snoc e1 with q1 | ⟨q1, q2⟩
    · rcases getElem?_snoc e2 with q3 | ⟨q3, q4⟩
      · exact CellR.grow (le_new k n h) (fun o q => h a o q) (k.cell i d a q1 q3)
      · have := (List.getElem?_eq_some_iff.mp q1).1
        have := k.len
        omega
    · rcases getElem?_snoc e2 with q3 | ⟨q3, q4⟩
      · have := (List.getElem?_eq_some_iff.mp q3).1
        have := k.len
        omega
      · subst q2
        subst q4
        exact hc
  · obtain ⟨⟨o, e⟩, q⟩ := k.hid a m
    refine ⟨⟨o, h a o e⟩, fun z => ?_⟩
    have z' : a ∈ w.ρ ++ [p] := z
    rcases List.mem_append.mp z' with z1 | z1
    · exact q z1
    · have e2 : a = p := by simpa using z1
      rw [e2, n] at e
      cases e

/-- a live cell changes -/
theorem live_set {w : Wd} {H' : Hp} {i : Nat} {c c' : Cell} (hi : w.st[i]? = some c) (hc : c.live = true) {b : Addr} (h : Wd.live ⟨w.ρ, w.st.set i c', H', w.hid⟩ b) : w.live b := by
  rcases h with h | ⟨j, d, e1, e2, e3⟩
  · exact .inl h
  refine .inr ?_
  by_cases hj : j = i
  · subst hj
    exact ⟨j, c, hi, hc, e3⟩
  · rw [show (w.st.set i c')[j]? = w.st[j]? from List.getElem?_set_ne (Ne.symm hj)] at e1
    exact ⟨j, d, e1, e2, e3⟩
theorem le_set {G : CT} {w : Wd} (k : Ok G w) {i : Nat} {c c' : Cell} {a : Addr} {o : HO} (hi : w.st[i]? = some c) (hc : c.live = true) (ha : w.ρ[i]? = some a) : Le w ⟨w.ρ, w.st.set i c', upd w.H a o, w.hid⟩ := by
  refine ⟨⟨fun _ _ e => e, fun b u e n => ⟨?_, fun l => n (live_set hi hc l)⟩⟩, rfl, fun b m => ?_⟩
  · show upd w.H a o b = some u
    rw [upd_ne (fun q => n (.inr ⟨i, c, hi, hc, by rw [q]; exact ha⟩))]
    exact e
  · show upd w.H a o b = w.H b
    rw [upd_ne]
    intro z
    subst z
    exact (k.hid b m).2 (List.mem_of_getElem? ha)
theorem ok_set {G : CT} {w : Wd} (k : Ok G w) {i : Nat} {c c' : Cell} {a : Addr} {o : HO} (hi : w.st[i]? = some c) (hc : c.live = true) (ha : w.ρ[i]? = some a)
    (hn : CellR G ⟨w.ρ, w.st.set i c', upd w.H a o, w.hid⟩ c' a) : Ok G ⟨w.ρ, w.st.set i c', upd w.H a o, w.hid⟩ := by
  refine ⟨by simp [k.len], k.nd, fun j d b e1 e2 => ?_, fun b m => ⟨?_, (k.hid b m).2⟩⟩
  rotate_left
  · obtain ⟨⟨u, e⟩, q⟩ := k.hid b m
    exact ⟨u, by rw [← e]; exact (le_set (c' := c') (o := o) k hi hc ha).hide b m⟩
  have hlt : i < w.st.length := (List.getElem?_eq_some_iff.mp hi).1
  by_cases hj : j = i
  · subst hj
    have e : (w.st.set j c')[j]? = some c' := List.getElem?_set_self hlt
    rw [e] at e1
    cases e1
    have e2' : w.ρ[j]? = some b := e2
    rw [ha] at e2'
    cases e2'
    exact hn
  · have e1' : w.st[j]? = some d := by
      have q : (w.st.set i c')[j]? = some d := e1
      rw [List.getElem?_set_ne (Ne.symm hj)] at q
      exact q
    refine CellR.grow (le_set k hi hc ha) (fun u q => ?_) (k.cell j d b e1' e2)
    show upd w.H a o b = some u
    have nb : b ≠ a := fun z => hj (nd_ix k.nd (show w.ρ[j]? = some a by rw [← z]; exact e2) ha)
    rw [upd_ne nb]
    exact q

/-- a live cell is let go: its object is pure from then on -/
theorem le_free {w : Wd} {i : Nat} {c : Cell} (hi : w.st[i]? = some c) (hc : c.live = true) : Le w ⟨w.ρ, w.st.set i .dead, w.H, w.hid⟩ :=
  ⟨⟨fun _ _ e => e, fun b u e n => ⟨e, fun l => n (live_set hi hc l)⟩⟩, rfl, fun _ _ => rfl⟩
theorem ok_free {G : CT} {w : Wd} (k : Ok G w) {i : Nat} {c : Cell} (hi : w.st[i]? = some c) (hc : c.live = true) : Ok G ⟨w.ρ, w.st.set i .dead, w.H, w.hid⟩ := by
  refine ⟨by simp [k.len], k.nd, fun j d b e1 e2 => ?_, k.hid⟩
  have hlt : i < w.st.length := (List.getElem?_eq_some_iff.mp hi).1
  by_cases hj : j = i
  · subst hj
    have e : (w.st.set j .dead)[j]? = some .dead := List.getElem?_set_self hlt
    rw [e] at e1
    cases e1
    exact CellR.exs (w := w) (c := c) (k.cell j c b hi e2)
  · have e1' : w.st[j]? = some d := by
      have q : (w.st.set i .dead)[j]? = some d := e1
      rw [List.getElem?_set_ne (Ne.symm hj)] at q
      exact q
    exact CellR.grow (le_free hi hc) (fun u q => q) (k.cell j d b e1' e2)
theorem free_nlive {G : CT} {w : Wd} (k : Ok G w) {i : Nat} {a : Addr} (ha : w.ρ[i]? = some a) : ¬ Wd.live ⟨w.ρ, w.st.set i .dead, w.H, w.hid⟩ a := fun h => by
  rcases h with h | ⟨j, d, e1, e2, e3⟩
  · exact (k.hid a h).2 (List.mem_of_getElem? ha)
  have hn := k.nd
  have hj : j = i := nd_ix hn e3 ha
  subst hj
  have q : (w.st.set j Cell.dead)[j]? = some d := e1
  rcases Nat.lt_or_ge j w.st.length with h | h
  · rw [List.getElem?_set_self h] at q
    cases q
    cases e2
  · rw [List.getElem?_eq_none (by simpa using h)] at q
    cases q
end F
/-! Results, and readings that are given by functions. -/
namespace F
open PySem PySem.Spec PyProof.Rows L2

inductive Res (α : Type) where
  | ok (a : α) (s : Sto)
  | ex (c : Nat) (ds : List D) (s : Sto)
  | bad
def Res.bind {α β : Type} (r : Res α) (f : α → Sto → Res β) : Res β :=
  match r with
  | .ok a s => f a s
  | .ex c ds s => .ex c ds s
  | .bad => .bad
theorem bind_ok {α β : Type} (a : α) (s : Sto) (f : α → Sto → Res β) : (Res.ok a s).bind f = f a s := rfl
theorem bind_ex {α β : Type} (c : Nat) (ds : List D) (s : Sto) (f : α → Sto → Res β) : (Res.ex c ds s : Res α).bind f = .ex c ds s := rfl
theorem bind_bad {α β : Type} (f : α → Sto → Res β) : (Res.bad : Res α).bind f = .bad := rfl

abbrev Env := List (Option D)
structure EnvR (G : CT) (w : Wd) (env : Env) (σ : L2.St) : Prop where
  len : σ.length = env.length
  at_ : ∀ (i : Nat) (d : D), env[i]? = some (some d) → ∃ x, σ[i]? = some (some x) ∧ Rl G w d x
theorem EnvR.monoW {G : CT} {w w' : Wd} {env : Env} {σ : L2.St} (l : Lw w w') (h : EnvR G w env σ) : EnvR G w' env σ :=
  ⟨h.len, fun i d e => let ⟨x, e1, r⟩ := h.at_ i d e; ⟨x, e1, r.monoW l⟩⟩
theorem EnvR.mono {G : CT} {w w' : Wd} {env : Env} {σ : L2.St} (l : Le w w') (h : EnvR G w env σ) : EnvR G w' env σ :=
  ⟨h.len, fun i d e => let ⟨x, e1, r⟩ := h.at_ i d e; ⟨x, e1, r.mono l⟩⟩
theorem EnvR.set {G : CT} {w : Wd} {env : Env} {σ : L2.St} (h : EnvR G w env σ) (i : Nat) {d : D} {x : V} (r : Rl G w d x) : EnvR G w (env.set i (some d)) (σ.set i (some x)) := by
  refine ⟨by simp [h.len], fun j e q => ?_⟩
  by_cases hj : j = i
  · subst hj
    by_cases hl : j < env.length
    · rw [List.getElem?_set_self hl] at q
      cases q
      exact ⟨x, List.getElem?_set_self (by rw [h.len]; exact hl), r⟩
    · rw [List.getElem?_eq_none (by simpa using hl)] at q
      cases q
  · rw [List.getElem?_set_ne (Ne.symm hj)] at q
    obtain ⟨y, e1, r1⟩ := h.at_ j e q
    exact ⟨y, by rw [List.getElem?_set_ne (Ne.symm hj)]; exact e1, r1⟩
theorem EnvR.unset {G : CT} {w : Wd} {env : Env} {σ : L2.St} (h : EnvR G w env σ) (i : Nat) : EnvR G w (env.set i none) (σ.set i none) := by
  refine ⟨by simp [h.len], fun j e q => ?_⟩
  by_cases hj : j = i
  · subst hj
    by_cases hl : j < env.length
    · rw [List.getElem?_set_self hl] at q
      cases q
    · rw [List.getElem?_eq_none (by simpa using hl)] at q
      cases q
  · rw [List.getElem?_set_ne (Ne.symm hj)] at q
    obtain ⟨y, e1, r1⟩ := h.at_ j e q
    exact ⟨y, by rw [List.getElem?_set_ne (Ne.symm hj)]; exact e1, r1⟩

/-- an exception of the class c with the fields ds; dd its own dict -/
def XR (G : CT) (w : Wd) (c : Nat) (ds : List D) (dd : Option Addr) : Prop :=
  ds = [] ∨ ∃ (d : Addr) (fs : List (Str × V)), dd = some d ∧ w.H d = some (.xd fs) ∧ ¬ w.live d ∧ ∀ (k : Nat) (x : D), ds[k]? = some x → ∃ n v, (G.fld c)[k]? = some n ∧ fs.lookup n = some v ∧ Rl G w x v
theorem XR.mono {G : CT} {w w' : Wd} (l : Le w w') {c : Nat} {ds : List D} {dd : Option Addr} (h : XR G w c ds dd) : XR G w' c ds dd := by
  rcases h with h | ⟨d, fs, e, q, n, k⟩
  · exact .inl h
  · exact .inr ⟨d, fs, e, (l.ext _ _ q n).1, (l.ext _ _ q n).2, fun i x h => let ⟨m, v, a, b, r⟩ := k i x h; ⟨m, v, a, b, r.mono l⟩⟩

section
variable {α β α' β' : Type}
/-- what is wanted of a result: R relates what the function gives and what the code gives -/
def Post (G : CT) (W : WX) (R : Wd → α → β → Prop) (σ : L2.St) (w : Wd) (r : Res α) (Q : β → Hp → Prop) : Prop :=
  match r with
  | .ok a s => ∀ (w' : Wd) (b : β), w'.st = s → Ok G w' → Le w w' → R w' a b → Q b w'.H
  | .ex c ds s => ∀ (w' : Wd) (dd : Option Addr), w'.st = s → Ok G w' → Le w w' → XR G w' c ds dd → W (.ref (G.cls c)) dd σ w'.H
  | .bad => False
theorem Post.mono {G : CT} {W : WX} {R : Wd → α → β → Prop} {σ : L2.St} {w w1 : Wd} (l : Le w w1) {r : Res α} {Q : β → Hp → Prop} (h : Post G W R σ w r Q) : Post G W R σ w1 r Q := by
  cases r with
  | ok a s => exact fun w' b e k l' q => h w' b e k (l.trans l') q
  | ex c ds s => exact fun w' dd e k l' q => h w' dd e k (l.trans l') q
  | bad => exact h
theorem Post.bind {G : CT} {W : WX} {R : Wd → α → β → Prop} {R' : Wd → α' → β' → Prop} {σ : L2.St} {w : Wd} {r : Res α} {f : α → Sto → Res α'} {Q : β → Hp → Prop} {Q' : β' → Hp → Prop}
    (h : Post G W R' σ w (r.bind f) Q') (k : ∀ (w' : Wd) (a : α) (b : β), Ok G w' → Le w w' → R w' a b → Post G W R' σ w' (f a w'.st) Q' → Q b w'.H) : Post G W R σ w r Q := by
  cases r with
  | ok a s => exact fun w' b e o l q => k w' a b o l q (by subst e; exact Post.mono l h)
  | ex c ds s => exact h
  | bad => exact h
theorem Post.ok {G : CT} {W : WX} {R : Wd → α → β → Prop} {σ : L2.St} {w : Wd} {a : α} {Q : β → Hp → Prop} (h : Post G W R σ w (.ok a w.st) Q) (o : Ok G w) {b : β} (r : R w a b) : Q b w.H := h w b rfl o (Le.refl w) r

/-- the reading of the function m -/
def RI (G : CT) (W : WX) (R : Wd → α → β → Prop) (m : Env → Sto → Res α) : L2.St → Hp → (β → Hp → Prop) → Prop := fun σ H Q =>
  ∃ (w : Wd) (env : Env), w.H = H ∧ Ok G w ∧ EnvR G w env σ ∧ Post G W R σ w (m env w.st) Q
end

abbrev Ev := Env → Sto → Res D
abbrev Tv := Env → Sto → Res Bool
abbrev Av := Env → Sto → Res (List D)
abbrev EI (G : CT) (W : WX) (m : Ev) : TE := RI G W (Rl G) m
abbrev TsI (G : CT) (W : WX) (m : Tv) : TT := RI G W (fun _ a b => a = b) m
abbrev AI (G : CT) (W : WX) (m : Av) : TA := RI G W (Rls G) m

/-! ### statements -/
inductive Out where
  | nx (env : Env) (s : Sto)
  | rt (d : D) (s : Sto)
  | bk (env : Env) (s : Sto)
  | ct (env : Env) (s : Sto)
  | ex (c : Nat) (ds : List D) (env : Env) (s : Sto)
  | bad
abbrev Sv := Env → Sto → Out
def PostS (G : CT) (W : WX) (w : Wd) (o : Out) (E : Ends) : Prop :=
  match o with
  | .nx env s => ∀ (w' : Wd) (σ : L2.St), w'.st = s → Ok G w' → Le w w' → EnvR G w' env σ → E.nx σ w'.H
  | .rt d s => ∀ (w' : Wd) (x : V), w'.st = s → Ok G w' → Le w w' → Rl G w' d x → E.rt x w'.H
  | .bk env s => ∀ (w' : Wd) (σ : L2.St), w'.st = s → Ok G w' → Le w w' → EnvR G w' env σ → E.bk σ w'.H
  | .ct env s => ∀ (w' : Wd) (σ : L2.St), w'.st = s → Ok G w' → Le w w' → EnvR G w' env σ → E.ct σ w'.H
  | .ex c ds env s => ∀ (w' : Wd) (σ : L2.St) (dd : Option Addr), w'.st = s → Ok G w' → Le w w' → EnvR G w' env σ → XR G w' c ds dd → W (.ref (G.cls c)) dd σ w'.H
  | .bad => False
theorem PostS.mono {G : CT} {W : WX} {w w1 : Wd} (l : Le w w1) {o : Out} {E : Ends} (h : PostS G W w o E) : PostS G W w1 o E := by
  cases o with
  | nx env s => exact fun w' b e k l' q => h w' b e k (l.trans l') q
  | rt d s => exact fun w' b e k l' q => h w' b e k (l.trans l') q
  | bk env s => exact fun w' b e k l' q => h w' b e k (l.trans l') q
  | ct env s => exact fun w' b e k l' q => h w' b e k (l.trans l') q
  | ex c ds env s => exact fun w' σ dd e k l' q => h w' σ dd e k (l.trans l') q
  | bad => exact h
def SI (G : CT) (W : WX) (m : Sv) : TS := fun E σ H => ∃ (w : Wd) (env : Env), w.H = H ∧ Ok G w ∧ EnvR G w env σ ∧ PostS G W w (m env w.st) E

/-- a statement's start: an expression, then the rest -/
def Res.andS {α : Type} (r : Res α) (env : Env) (f : α → Sto → Out) : Out :=
  match r with
  | .ok a s => f a s
  | .ex c ds s => .ex c ds env s
  | .bad => .bad
theorem PostS.bind {α β : Type} {G : CT} {W : WX} {R : Wd → α → β → Prop} {σ : L2.St} {w : Wd} {r : Res α} {env : Env} {f : α → Sto → Out} {Q : β → Hp → Prop} {E : Ends} (er : EnvR G w env σ)
    (h : PostS G W w (r.andS env f) E) (k : ∀ (w' : Wd) (a : α) (b : β), Ok G w' → Le w w' → R w' a b → PostS G W w' (f a w'.st) E → Q b w'.H) : Post G W R σ w r Q := by
  cases r with
  | ok a s => exact fun w' b e o l q => k w' a b o l q (by subst e; exact PostS.mono l h)
  | ex c ds s => exact fun w' dd e o l q => h w' σ dd e o l (er.mono l) q
  | bad => exact h
theorem PostS.toNx {G : CT} {W : WX} {w : Wd} {env : Env} {σ : L2.St} {E : Ends} (h : PostS G W w (.nx env w.st) E) (o : Ok G w) (r : EnvR G w env σ) : E.nx σ w.H := h w σ rfl o (Le.refl w) r

end F
namespace L2
open PySem PySem.Spec PyProof.Rows
/-! ### consequence -/
section
variable {X : Cx}
theorem PE.imp {e : Expr} {t t' : TE} (h : PE X e t) (k : ∀ σ H Q, t' σ H Q → t σ H Q) : PE X e t' := ⟨fun pins s σ H Q I q => h.run pins s σ H Q I (k σ H Q q)⟩
theorem PT.imp {e : Expr} {t t' : TT} (h : PT X e t) (k : ∀ σ H Q, t' σ H Q → t σ H Q) : PT X e t' := ⟨fun pins s σ H Q I q => h.run pins s σ H Q I (k σ H Q q)⟩
theorem PW.imp {e : Expr} {t t' : TT} (h : PW X e t) (k : ∀ σ H Q, t' σ H Q → t σ H Q) : PW X e t' := ⟨fun wh pins s σ H Q I q => h.run wh pins s σ H Q I (k σ H Q q)⟩
theorem PA.imp {es : List Expr} {t t' : TA} (h : PA X es t) (k : ∀ σ H Q, t' σ H Q → t σ H Q) : PA X es t' := ⟨fun pos pins s σ H Q I q => h.run pos pins s σ H Q I (k σ H Q q)⟩
theorem PS.imp {st : Stmt} {t t' : TS} (h : PS X st t) (k : ∀ D σ H, t' D σ H → t D σ H) : PS X st t' := ⟨fun pins s σ H D I q => h.run pins s σ H D I (k D σ H q)⟩
theorem PSs.imp {st : List Stmt} {t t' : TS} (h : PSs X st t) (k : ∀ D σ H, t' D σ H → t D σ H) : PSs X st t' := ⟨fun pins s σ H D I q => h.run pins s σ H D I (k D σ H q)⟩
theorem PE.or {e : Expr} {t t' : TE} (h : PE X e t) (h' : PE X e t') : PE X e (fun σ H Q => t σ H Q ∨ t' σ H Q) := ⟨fun pins s σ H Q I q => q.elim (h.run pins s σ H Q I) (h'.run pins s σ H Q I)⟩
theorem PI.or {tg it : Expr} {t t' : TI} (h : PI X tg it t) (h' : PI X tg it t') : PI X tg it (fun σ H Q => t σ H Q ∨ t' σ H Q) := ⟨fun pins s σ H Q I q => q.elim (h.run pins s σ H Q I) (h'.run pins s σ H Q I)⟩
theorem PI.imp {tg it : Expr} {t t' : TI} (h : PI X tg it t) (k : ∀ σ H Q, t' σ H Q → t σ H Q) : PI X tg it t' := ⟨fun pins s σ H Q I q => h.run pins s σ H Q I (k σ H Q q)⟩
end
end L2
/-! Expressions as functions. -/
namespace F
open PySem PySem.Spec PyProof.Rows L2

/-- what a body's context gives -/
structure Lay (X : Cx) (G : CT) (W : WX) : Prop where
  K : X.K = G.K
  tk : Takes X W
abbrev W0 : WX := fun _ _ _ _ => False
theorem Lay.none {X : Cx} {G : CT} (h : X.K = G.K) : Lay X G W0 := ⟨h, takes0⟩

section
variable {G : CT} {W : WX}
/-! ### lists and texts behind data -/
def asL (d : D) (st : Sto) : Option (List D) :=
  match d with
  | .lst ds => some ds
  | .rol ds => some ds
  | .ref i => match st[i]? with
    | some (.lst ds) => some ds
    | _ => none
  | _ => none
theorem asL_sq {w : Wd} (o : Ok G w) {d : D} {ds : List D} {x : V} (h : asL d w.st = some ds) (r : Rl G w d x) : ∃ a xs, x = .ref a ∧ SqL G.K w.H a xs ∧ Rls G w ds xs := by
  cases d with
  | lst es =>
    have e : es = ds := by simpa [asL] using h
    subst e
    obtain ⟨a, xs, e, s, q⟩ := r
    exact ⟨a, xs, e, SqL.of s.1, q⟩
  | rol es =>
    have e : es = ds := by simpa [asL] using h
    subst e
    obtain ⟨a, xs, e, s, q⟩ := r
    exact ⟨a, xs, e, s.sq, q⟩
  | ref i =>
    obtain ⟨a, e, q⟩ := r
    unfold asL at h
    cases hs : w.st[i]? with
    | none => simp [hs] at h
    | some c =>
      cases c with
      | dead => simp [hs] at h
      | ins c ds => simp [hs] at h
      | lst es =>
        simp [hs] at h
        subst h
        obtain ⟨xs, e1, e2⟩ := o.cell i _ a hs e
        exact ⟨a, xs, q, SqL.of e1, e2⟩
  | _ => simp [asL] at h
/-- a list that stands in the heap by itself -/
def asH (d : D) (st : Sto) : Option (List D) :=
  match d with
  | .lst ds => some ds
  | .ref i => match st[i]? with
    | some (.lst ds) => some ds
    | _ => none
  | _ => none
theorem asH_sq {w : Wd} (o : Ok G w) {d : D} {ds : List D} {x : V} (h : asH d w.st = some ds) (r : Rl G w d x) : ∃ a xs, x = .ref a ∧ w.H a = some (.lst xs) ∧ Rls G w ds xs := by
  cases d with
  | lst es =>
    have e : es = ds := by simpa [asH] using h
    subst e
    obtain ⟨a, xs, e, s, q⟩ := r
    exact ⟨a, xs, e, s.1, q⟩
  | ref i =>
    obtain ⟨a, e, q⟩ := r
    unfold asH at h
    cases hs : w.st[i]? with
    | none => simp [hs] at h
    | some c =>
      cases c with
      | dead => simp [hs] at h
      | ins c ds => simp [hs] at h
      | lst es =>
        simp [hs] at h
        subst h
        obtain ⟨xs, e1, e2⟩ := o.cell i _ a hs e
        exact ⟨a, xs, q, e1, e2⟩
  | _ => simp [asH] at h

/-- a new pure list, a new tuple -/
theorem new_lst {w : Wd} (o : Ok G w) {p : Addr} (n : w.H p = none) {ds : List D} {xs : List V} (r : Rls G w ds xs) :
    ∃ w', w'.H = upd w.H p (.lst xs) ∧ w'.st = w.st ∧ Ok G w' ∧ Le w w' ∧ Rl G w' (.lst ds) (.ref p) := by
  have l : Le w ⟨w.ρ, w.st, upd w.H p (.lst xs), w.hid⟩ := le_grow o (keeps_upd n)
  exact ⟨⟨w.ρ, w.st, upd w.H p (.lst xs), w.hid⟩, rfl, rfl, ok_grow o (keeps_upd n), l, p, xs, rfl, ⟨upd_same, o.nlive n⟩, r.mono l⟩
theorem new_tup {w : Wd} (o : Ok G w) {p : Addr} (n : w.H p = none) {ds : List D} {xs : List V} (r : Rls G w ds xs) :
    ∃ w', w'.H = upd w.H p (.tup xs) ∧ w'.st = w.st ∧ Ok G w' ∧ Le w w' ∧ Rl G w' (.tup ds) (.ref p) := by
  have l : Le w ⟨w.ρ, w.st, upd w.H p (.tup xs), w.hid⟩ := le_grow o (keeps_upd n)
  exact ⟨⟨w.ρ, w.st, upd w.H p (.tup xs), w.hid⟩, rfl, rfl, ok_grow o (keeps_upd n), l, p, xs, rfl, .inl ⟨.inl upd_same, o.nlive n⟩, r.mono l⟩
theorem Post.new_lst {σ : L2.St} {w : Wd} {ds : List D} {xs : List V} {Q : VK} (h : Post G W (Rl G) σ w (.ok (.lst ds) w.st) Q) (o : Ok G w) (r : Rls G w ds xs) {p : Addr} (n : w.H p = none) : Q (.ref p) (upd w.H p (.lst xs)) := by
  obtain ⟨w', e1, e2, o', l, q⟩ := F.new_lst o n r
  rw [← e1]
  exact h w' _ e2 o' l q
theorem Post.new_tup {σ : L2.St} {w : Wd} {ds : List D} {xs : List V} {Q : VK} (h : Post G W (Rl G) σ w (.ok (.tup ds) w.st) Q) (o : Ok G w) (r : Rls G w ds xs) {p : Addr} (n : w.H p = none) : Q (.ref p) (upd w.H p (.tup xs)) := by
  obtain ⟨w', e1, e2, o', l, q⟩ := F.new_tup o n r
  rw [← e1]
  exact h w' _ e2 o' l q
/-- a new mutable list -/
theorem Post.new_cell {σ : L2.St} {w : Wd} {ds : List D} {xs : List V} {Q : VK} (h : Post G W (Rl G) σ w (.ok (.ref w.st.length) (w.st ++ [.lst ds])) Q) (o : Ok G w) (r : Rls G w ds xs) {p : Addr} (n : w.H p = none) : Q (.ref p) (upd w.H p (.lst xs)) := by
  have l : Le w ⟨w.ρ ++ [p], w.st ++ [.lst ds], upd w.H p (.lst xs), w.hid⟩ := le_new o n (keeps_upd n)
  refine h ⟨w.ρ ++ [p], w.st ++ [.lst ds], upd w.H p (.lst xs), w.hid⟩ (.ref p) rfl (ok_new (c := .lst ds) o n (keeps_upd n) ⟨xs, upd_same, r.mono l⟩) l ⟨p, ?_, rfl⟩
  show (w.ρ ++ [p])[w.st.length]? = some p
  rw [← o.len, List.getElem?_append_right (Nat.le_refl _)]
  simp
end

/-! ### names, constants -/
def eVar (i : Nat) : Ev := fun env st => match env[i]? with
  | some (some d) => .ok d st
  | _ => .bad
def eC (d : D) : Ev := fun _ st => .ok d st
section
variable {X : Cx} {G : CT} {W : WX} {pos : Pos}
theorem qv (i : Nat) {x : Str} (hN : X.N[i]? = some x := by rfl) (hv : Vis X.env.scope x := by first | exact Or.inl rfl | exact Or.inr (Or.inl rfl) | exact Or.inr (Or.inr rfl)) (hd : (x == ("__debug__" : Str)) = false := by decide)
    (hcd : (x == ("__classdict__" : Str)) = false := by decide) : PE X (.Name x pos) (EI G W (eVar i)) := (pe_var hN hv hd hcd).imp fun σ H Q ⟨w, env, e, o, er, p⟩ => by
  unfold eVar at p
  split at p
  · rename_i d hd
    obtain ⟨x, e1, r⟩ := er.at_ i d hd
    exact ⟨x, e1, by subst e; exact p.ok o r⟩
  · exact p.elim
/-- a value that every world relates -/
theorem q_const {e : Expr} {v : V} {d : D} (h : PE X e (tC v)) (hr : ∀ w, Rl G w d v) : PE X e (EI G W (eC d)) := h.imp fun σ H Q ⟨w, env, e, o, er, p⟩ => by
  subst e
  exact p.ok o (hr w)
theorem q_int {i : Int} {j} : PE X (.Constant (.int i) j pos) (EI G W (eC (.int i))) := q_const pe_int fun _ => rfl
theorem q_bl {b : Bool} {j} : PE X (.Constant (.bool b) j pos) (EI G W (eC (.bl b))) := q_const pe_bl fun _ => rfl
theorem q_non {j} : PE X (.Constant .none j pos) (EI G W (eC .non)) := q_const pe_non fun _ => rfl
theorem q_str {x : Str} {j} (s : List Nat) (h : x = ⟨s.toArray⟩) : PE X (.Constant (.str x) j pos) (EI G W (eC (.str s))) := q_const pe_str fun _ => by rw [h]; rfl
theorem q_gint {x : Str} {i : Int} (hg : Gl X x) (hm : ∃ t, X.mg x = some (.int i t)) (hd : (x == ("__debug__" : Str)) = false := by decide) : PE X (.Name x pos) (EI G W (eC (.int i))) := by
  obtain ⟨t, hm⟩ := hm
  exact q_const (pe_glob (v := .int i) hg hm ⟨t, rfl⟩ hd) fun _ => rfl
end

/-! ### two-place operations -/
def OpF (G : CT) (f : D → D → Sto → Res D) (r : R2) : Prop := ∀ (W : WX) (σ : L2.St) (w : Wd) (x y : V) (dx dy : D) (Q : VK), Ok G w → Rl G w dx x → Rl G w dy y → Post G W (Rl G) σ w (f dx dy w.st) Q → r x y w.H Q
def eBin (f : D → D → Sto → Res D) (a b : Ev) : Ev := fun env st => (a env st).bind fun x s => (b env s).bind fun y s' => f x y s'
def tOf (m : Ev) : Tv := fun env st => (m env st).bind fun d s => match d with
  | .bl b => .ok b s
  | _ => .bad
section
variable {X : Cx} {G : CT} {W : WX} {pos : Pos} {a b : Expr} {ma mb : Ev} {f : D → D → Sto → Res D} {r : R2}
theorem bin_of (hf : OpF G f r) : ∀ σ H Q, EI G W (eBin f ma mb) σ H Q → tOp r (EI G W ma) (EI G W mb) σ H Q := fun σ H Q ⟨w, env, e, o, er, p⟩ =>
  ⟨w, env, e, o, er, p.bind fun w1 da x o1 l1 r1 p1 => ⟨w1, env, rfl, o1, er.mono l1, p1.bind fun w2 db y o2 l2 r2 p2 => hf W σ w2 x y da db Q o2 (r1.mono l2) r2 p2⟩⟩
theorem q_bin {op : Operator} (ho : OpR X (binaryOp op) r) (hf : OpF G f r) (ha : PE X a (EI G W ma)) (hb : PE X b (EI G W mb)) : PE X (.BinOp a op b pos) (EI G W (eBin f ma mb)) := (pe_op ho ha hb).imp (bin_of hf)
theorem q_cmp {op : CmpOp} (ho : OpR X (compareOp op) r) (hf : OpF G f r) (ha : PE X a (EI G W ma)) (hb : PE X b (EI G W mb)) (hm : behindInMarks op b = false) : PE X (.Compare a [op] [b] pos) (EI G W (eBin f ma mb)) := (pe_cmpR ho ha hb hm).imp (bin_of hf)
theorem test_of {m : Ev} : ∀ σ H Q, TsI G W (tOf m) σ H Q → tTest (EI G W m) σ H Q := fun σ H Q ⟨w, env, e, o, er, p⟩ =>
  ⟨w, env, e, o, er, p.bind fun w1 d x o1 l1 r1 p1 => by
    cases d with
    | bl b => exact ⟨b, r1, p1.ok o1 rfl⟩
    | _ => exact p1.elim⟩
theorem qt_cmp {op : CmpOp} (ho : OpR X (compareOp op) r) (hf : OpF G f r) (ha : PE X a (EI G W ma)) (hb : PE X b (EI G W mb)) (hm : behindInMarks op b = false) : PT X (.Compare a [op] [b] pos) (TsI G W (tOf (eBin f ma mb))) :=
  (pt_cmpR ho ha hb hm).imp fun σ H Q h => by
    obtain ⟨w, env, e, o, er, p⟩ := test_of σ H Q h
    exact bin_of hf σ H _ ⟨w, env, e, o, er, p⟩
/-- an expression of truth values as a test -/
theorem qt_val {e : Expr} {m : Ev} (h : PE X e (EI G W m)) (he : ∀ whole, isTrue e X.env whole = (do let v ← whole; standAt e.pos; holding [v] (truthy v)) := by intro _; rfl) : PT X e (TsI G W (tOf m)) := (pt_val h he).imp test_of
end

/-! ### whole numbers -/
def fI (g : Int → Int → Res D) : D → D → Sto → Res D := fun x y _ => match x, y with
  | .int i, .int j => g i j
  | _, _ => .bad
def fArith (g : Int → Int → Int) : D → D → Sto → Res D := fun x y st => match x, y with
  | .int i, .int j => .ok (.int (g i j)) st
  | _, _ => .bad
def fCmpI (g : Int → Int → Bool) : D → D → Sto → Res D := fun x y st => match x, y with
  | .int i, .int j => .ok (.bl (g i j)) st
  | _, _ => .bad
/-- with a condition -/
def fArithC (c : Int → Int → Bool) (g : Int → Int → Int) : D → D → Sto → Res D := fun x y st => match x, y with
  | .int i, .int j => if c i j = true then .ok (.int (g i j)) st else .bad
  | _, _ => .bad
section
variable {G : CT}
theorem of_arith {g : Int → Int → Int} : OpF G (fArith g) (rI0 fun i j => .int (g i j)) := fun W σ w x y dx dy Q o rx ry p => by
  unfold fArith at p
  split at p
  · exact ⟨_, _, rx, ry, p.ok o rfl⟩
  · exact p.elim
theorem of_cmpI {g : Int → Int → Bool} : OpF G (fCmpI g) (rI0 fun i j => .bl (g i j)) := fun W σ w x y dx dy Q o rx ry p => by
  unfold fCmpI at p
  split at p
  · exact ⟨_, _, rx, ry, p.ok o rfl⟩
  · exact p.elim
theorem of_arithC {C : Int → Int → Prop} {c : Int → Int → Bool} {g : Int → Int → Int} (hc : ∀ i j, c i j = true → C i j) : OpF G (fArithC c g) (rI C fun i j => .int (g i j)) := fun W σ w x y dx dy Q o rx ry p => by
  unfold fArithC at p
  split at p
  · split at p
    · rename_i h
      exact ⟨_, _, rx, ry, hc _ _ h, p.ok o rfl⟩
    · exact p.elim
  · exact p.elim
theorem OpF.or {f : D → D → Sto → Res D} {r r' : R2} (h : ∀ (W : WX) (σ : L2.St) (w : Wd) (x y : V) (dx dy : D) (Q : VK), Ok G w → Rl G w dx x → Rl G w dy y → Post G W (Rl G) σ w (f dx dy w.st) Q → r x y w.H Q ∨ r' x y w.H Q) : OpF G f (fun x y H Q => r x y H Q ∨ r' x y H Q) := h
end
/-- bounds that the rules ask -/
def bMul (i j : Int) : Bool := decide (i.natAbs.log2 + j.natAbs.log2 < 1000000)
def bDiv (_ j : Int) : Bool := decide (0 < j) && decide (j.natAbs.log2 < 9000)
def bMod (_ j : Int) : Bool := decide (0 < j)
def bPow (i j : Int) : Bool := decide (0 ≤ j) && decide (j ≤ 1000000) && decide (i.natAbs < 2 ^ 64)
def fSub := fArith fun i j => i - j
def fDiv := fArithC bDiv fun i j => i / j
def fMod := fArithC bMod fun i j => i % j
def fPow := fArithC bPow fun i j => i ^ j.toNat
section
variable {X : Cx} {G : CT} {W : WX} {pos : Pos} {a b : Expr} {ma mb : Ev}
theorem q_sub (ha : PE X a (EI G W ma)) (hb : PE X b (EI G W mb)) : PE X (.BinOp a .Sub b pos) (EI G W (eBin fSub ma mb)) := q_bin op_sub of_arith ha hb
theorem q_div (ha : PE X a (EI G W ma)) (hb : PE X b (EI G W mb)) : PE X (.BinOp a .FloorDiv b pos) (EI G W (eBin fDiv ma mb)) := q_bin op_fdivW (of_arithC fun i j h => by
  unfold bDiv at h
  rw [Bool.and_eq_true] at h
  exact ⟨of_decide_eq_true h.1, of_decide_eq_true h.2⟩) ha hb
theorem q_mod (ha : PE X a (EI G W ma)) (hb : PE X b (EI G W mb)) : PE X (.BinOp a .Mod b pos) (EI G W (eBin fMod ma mb)) := q_bin op_mod (of_arithC fun i j h => of_decide_eq_true h) ha hb
theorem q_pow (ha : PE X a (EI G W ma)) (hb : PE X b (EI G W mb)) : PE X (.BinOp a .Pow b pos) (EI G W (eBin fPow ma mb)) := q_bin op_pow (of_arithC fun i j h => by
  unfold bPow at h
  rw [Bool.and_eq_true, Bool.and_eq_true] at h
  exact ⟨of_decide_eq_true h.1.1, of_decide_eq_true h.1.2, of_decide_eq_true h.2⟩) ha hb
def fLt := fCmpI fun i j => decide (i < j)
def fLe := fCmpI fun i j => decide (i ≤ j)
def fGt := fCmpI fun i j => decide (j < i)
def fGe := fCmpI fun i j => decide (j ≤ i)
theorem q_lt (ha : PE X a (EI G W ma)) (hb : PE X b (EI G W mb)) : PE X (.Compare a [.Lt] [b] pos) (EI G W (eBin fLt ma mb)) := q_cmp op_lt of_cmpI ha hb (nomark _)
theorem q_le (ha : PE X a (EI G W ma)) (hb : PE X b (EI G W mb)) : PE X (.Compare a [.LtE] [b] pos) (EI G W (eBin fLe ma mb)) := q_cmp op_le of_cmpI ha hb (nomark _)
theorem q_gt (ha : PE X a (EI G W ma)) (hb : PE X b (EI G W mb)) : PE X (.Compare a [.Gt] [b] pos) (EI G W (eBin fGt ma mb)) := q_cmp op_gt of_cmpI ha hb (nomark _)
theorem q_ge (ha : PE X a (EI G W ma)) (hb : PE X b (EI G W mb)) : PE X (.Compare a [.GtE] [b] pos) (EI G W (eBin fGe ma mb)) := q_cmp op_ge of_cmpI ha hb (nomark _)
theorem qt_lt (ha : PE X a (EI G W ma)) (hb : PE X b (EI G W mb)) : PT X (.Compare a [.Lt] [b] pos) (TsI G W (tOf (eBin fLt ma mb))) := qt_cmp op_lt of_cmpI ha hb (nomark _)
theorem qt_le (ha : PE X a (EI G W ma)) (hb : PE X b (EI G W mb)) : PT X (.Compare a [.LtE] [b] pos) (TsI G W (tOf (eBin fLe ma mb))) := qt_cmp op_le of_cmpI ha hb (nomark _)
theorem qt_gt (ha : PE X a (EI G W ma)) (hb : PE X b (EI G W mb)) : PT X (.Compare a [.Gt] [b] pos) (TsI G W (tOf (eBin fGt ma mb))) := qt_cmp op_gt of_cmpI ha hb (nomark _)
theorem qt_ge (ha : PE X a (EI G W ma)) (hb : PE X b (EI G W mb)) : PT X (.Compare a [.GtE] [b] pos) (TsI G W (tOf (eBin fGe ma mb))) := qt_cmp op_ge of_cmpI ha hb (nomark _)
end
end F
/-! Expressions as functions, further: + * on anything, ==, tests, subscripts, displays, calls of built-ins. -/
namespace F
open PySem PySem.Spec PyProof.Rows L2

theorem str_app (a b : List Nat) : (⟨a.toArray⟩ : Str) ++ ⟨b.toArray⟩ = ⟨(a ++ b).toArray⟩ := by
  show Str.append _ _ = _
  unfold Str.append
  simp
theorem str_len (a : List Nat) : (⟨a.toArray⟩ : Str).length = a.length := by
  unfold Str.length
  simp
/-- a list made: pure, or a cell -/
def mkL (m : Bool) (ds : List D) (st : Sto) : Res D := if m = true then .ok (.ref st.length) (st ++ [.lst ds]) else .ok (.lst ds) st
section
variable {G : CT} {W : WX}
theorem Post.mk {m : Bool} {σ : L2.St} {w : Wd} {ds : List D} {xs : List V} {Q : VK} (h : Post G W (Rl G) σ w (mkL m ds w.st) Q) (o : Ok G w) (r : Rls G w ds xs) {p : Addr} (n : w.H p = none) : Q (.ref p) (upd w.H p (.lst xs)) := by
  unfold mkL at h
  split at h
  · exact h.new_cell o r n
  · exact h.new_lst o r n
end

/-! ### + -/
def fAdd (m : Bool) : D → D → Sto → Res D := fun x y st => match x, y with
  | .int i, .int j => .ok (.int (i + j)) st
  | .str a, .str b => if a.length + b.length ≤ sizeLine then .ok (.str (a ++ b)) st else .bad
  | .tup a, .tup b => if a.length + b.length ≤ sizeLine then .ok (.tup (a ++ b)) st else .bad
  | x, y => match asH x st, asH y st with
    | some a, some b => if a.length + b.length ≤ sizeLine then mkL m (a ++ b) st else .bad
    | _, _ => .bad
/-! ### text * int, list * int -/
def rMulS : R2 := fun x y H Q => ∃ (a : List Nat) (i : Int), x = .str ⟨a.toArray⟩ ∧ y = .int i ∧ i < 2 ^ 31 ∧ -(2 ^ 31) < i ∧ a.length * i.toNat ≤ sizeLine ∧ Q (.str ⟨(List.replicate i.toNat a).flatten.toArray⟩) H
theorem mulOk_of {x : Str} {n : Int} (h0 : -(2 ^ 31) < n) (h : n < 2 ^ 31) (hx : x.length ≤ sizeLine) (hl : x.length * n.toNat ≤ sizeLine) : MulOk x n := by
  refine ⟨?_, fun h1 h2 => ?_, fun h1 h2 => ?_⟩
  · simp only [Bool.or_eq_false_iff, decide_eq_false_iff_not]
    omega
  · rw [sizeLine_eq] at hx
    have e : (16777216 : Int) ≤ (2 ^ 63 - 1) / n := by
      rw [Int.le_ediv_iff_mul_le (by omega)]
      omega
    omega
  · unfold PySem.Builtin.Str.tooLong
    exact decide_eq_false (by omega)
theorem foldl_app (a : List Nat) : ∀ (n : Nat) (acc : Array Nat), (List.replicate n a.toArray).foldl (· ++ ·) acc = (acc.toList ++ (List.replicate n a).flatten).toArray
  | 0, acc => by simp
  | n + 1, acc => by
    rw [List.replicate_succ, List.foldl_cons, foldl_app a n, List.replicate_succ, List.flatten_cons]
    simp
theorem mul_txt (a : List Nat) (i : Int) : Txt.mul ⟨a.toArray⟩ i = ⟨(List.replicate i.toNat a).flatten.toArray⟩ := by
  unfold Txt.mul
  by_cases h : i < 1
  · rw [if_pos h]
    have e : i.toNat = 0 := by omega
    rw [e]
    rfl
  · rw [if_neg h]
    by_cases h2 : (i == 1 || (⟨a.toArray⟩ : Str).length == 0) = true
    · rw [if_pos h2]
      rw [Bool.or_eq_true] at h2
      rcases h2 with h2 | h2
      · have e : i = 1 := by simpa using h2
        subst e
        simp
      · rw [str_len] at h2
        have e : a.length = 0 := by simpa using h2
        have e2 : a = [] := List.length_eq_zero_iff.mp e
        subst e2
        simp
    · rw [if_neg h2, foldl_app]
      simp
section
variable {X : Cx} {G : CT} {W : WX} {pos : Pos} {a b c : Expr} {ma mb mc : Ev}
theorem op_mulS (hX : X.K = G.K) : OpR X (binaryOp .Mult) rMulS := by
  intro pins s σ H x y v u Q I rx ry h
  obtain ⟨a, i, rfl, rfl, h1, h2, h3, q⟩ := h
  obtain ⟨t, rfl⟩ := rx
  obtain ⟨t', rfl⟩ := ry
  by_cases hz : i < 1
  · have e : i.toNat = 0 := by omega
    rw [e] at q
    refine SB.mul (x := ⟨a.toArray⟩) (n := i) ⟨?_, fun h => absurd hz h, fun h => absurd hz h⟩ fun t' k => ⟨.str (Txt.mul ⟨a.toArray⟩ i), H, I.tok _, ⟨t', rfl⟩, ?_⟩
    · simp only [Bool.or_eq_false_iff, decide_eq_false_iff_not]
      omega
    · rw [mul_txt, e]
      exact q
  · have hn : 1 ≤ i.toNat := by omega
    have hl : a.length ≤ sizeLine := Nat.le_trans (Nat.le_mul_of_pos_right _ hn) h3
    refine SB.mul (x := ⟨a.toArray⟩) (n := i) (mulOk_of h2 h1 (by rw [str_len]; exact hl) (by rw [str_len]; exact h3)) fun t' k => ⟨.str (Txt.mul ⟨a.toArray⟩ i), H, I.tok _, ⟨t', rfl⟩, ?_⟩
    rw [mul_txt]
    exact q
def rAnyAdd (K : PySem.W.Frag) : R2 := fun x y H Q => (∃ i j, x = .int i ∧ y = .int j ∧ Q (.int (i + j)) H) ∨ (∃ i j, x = .str i ∧ y = .str j ∧ i.length + j.length ≤ sizeLine ∧ Q (.str (i ++ j)) H) ∨ rCat x y H Q ∨ rCatA K x y H Q
theorem op_anyAdd : OpR X (binaryOp .Add) (rAnyAdd X.K) := op_add.or (op_add_str.or (op_cat.or op_catA))
theorem of_anyAdd (m : Bool) : OpF G (fAdd m) (rAnyAdd G.K) := fun W σ w x y dx dy Q o rx ry p => by
  unfold fAdd at p
  split at p
  · exact .inl ⟨_, _, rx, ry, p.ok o rfl⟩
  · split at p
    · rename_i a b h
      refine .inr (.inl ⟨_, _, rx, ry, by rw [str_len, str_len]; exact h, ?_⟩)
      rw [str_app]
      exact p.ok o rfl
    · exact p.elim
  · split at p
    · rename_i a b h
      obtain ⟨pa, xs, rfl, sa, qa⟩ := rx
      obtain ⟨pb, ys, rfl, sb, qb⟩ := ry
      refine .inr (.inr (.inr ⟨pa, pb, xs, ys, rfl, rfl, sa.sq, sb.sq, by rw [qa.length, qb.length]; exact h, fun hx => ?_, fun _ hy => ?_, fun _ _ p' n => ?_⟩))
      · subst hx
        have ha : a = [] := List.length_eq_zero_iff.mp qa.length.symm
        subst ha
        exact p.ok o ⟨pb, ys, rfl, sb, qb⟩
      · subst hy
        have hb : b = [] := List.length_eq_zero_iff.mp qb.length.symm
        subst hb
        rw [List.append_nil] at p
        exact p.ok o ⟨pa, xs, rfl, sa, qa⟩
      · exact p.new_tup o (qa.append qb) n
    · exact p.elim
  · split at p
    · split at p
      · rename_i a b h1 h2 h
        obtain ⟨pa, xs, rfl, sa, qa⟩ := asH_sq o h1 rx
        obtain ⟨pb, ys, rfl, sb, qb⟩ := asH_sq o h2 ry
        exact .inr (.inr (.inl ⟨pa, pb, xs, ys, rfl, rfl, sa, sb, by rw [qa.length, qb.length]; exact h, fun p' n => p.mk o (qa.append qb) n⟩))
      · exact p.elim
    · exact p.elim
theorem q_add (m : Bool) (L : Lay X G W) (ha : PE X a (EI G W ma)) (hb : PE X b (EI G W mb)) : PE X (.BinOp a .Add b pos) (EI G W (eBin (fAdd m) ma mb)) := q_bin op_anyAdd (by rw [L.K]; exact of_anyAdd m) ha hb

noncomputable def fMul (m : Bool) : D → D → Sto → Res D := fun x y st => match x, y with
  | .int i, .int j => if bMul i j = true then .ok (.int (i * j)) st else .bad
  | .str a, .int i => @ite _ (i < 2 ^ 31 ∧ -(2 ^ 31) < i ∧ a.length * i.toNat ≤ sizeLine) (Classical.propDecidable _) (.ok (.str (List.replicate i.toNat a).flatten) st) .bad
  | x, .int i => match asH x st with
    | some a => @ite _ (i < 2 ^ 31 ∧ -(2 ^ 31) < i ∧ a.length * i.toNat ≤ sizeLine) (Classical.propDecidable _) (mkL m (List.replicate i.toNat a).flatten st) .bad
    | _ => .bad
  | _, _ => .bad
end
end F
/-! Products, ==, tests, subscripts, slices, displays, arguments. -/
namespace F
open PySem PySem.Spec PyProof.Rows L2

section
variable {G : CT} {w : Wd}
theorem Rls.rep {ds : List D} {xs : List V} (h : Rls G w ds xs) : ∀ n : Nat, Rls G w (List.replicate n ds).flatten (List.replicate n xs).flatten
  | 0 => rfl
  | n + 1 => by
    rw [List.replicate_succ, List.flatten_cons, List.replicate_succ, List.flatten_cons]
    exact h.append (Rls.rep h n)
end
section
variable {X : Cx} {G : CT} {W : WX} {pos : Pos} {a b c : Expr} {ma mb mc : Ev}
def rAnyMul : R2 := fun x y H Q => (∃ i j, x = .int i ∧ y = .int j ∧ CMulW i j ∧ Q (.int (i * j)) H) ∨ rMulS x y H Q ∨ rRep x y H Q
theorem op_anyMul (hX : X.K = G.K) : OpR X (binaryOp .Mult) rAnyMul := op_mulW.or ((op_mulS hX).or op_rep)
theorem of_anyMul (m : Bool) : OpF G (fMul m) rAnyMul := fun W σ w x y dx dy Q o rx ry p => by
  unfold fMul at p
  split at p
  · split at p
    · rename_i h
      exact .inl ⟨_, _, rx, ry, (by unfold bMul at h; unfold CMulW; exact of_decide_eq_true h), p.ok o rfl⟩
    · exact p.elim
  · split at p
    · rename_i h
      exact .inr (.inl ⟨_, _, rx, ry, h.1, h.2.1, h.2.2, p.ok o rfl⟩)
    · exact p.elim
  · split at p
    · rename_i a h1
      split at p
      · rename_i h
        obtain ⟨pa, xs, rfl, sa, qa⟩ := asH_sq o h1 rx
        exact .inr (.inr ⟨pa, _, xs, rfl, ry, sa, by omega, by omega, by rw [qa.length]; exact h.2.2, fun p' n => p.mk o (qa.rep _) n⟩)
      · exact p.elim
    · exact p.elim
  · exact p.elim
theorem q_mul (m : Bool) (L : Lay X G W) (ha : PE X a (EI G W ma)) (hb : PE X b (EI G W mb)) : PE X (.BinOp a .Mult b pos) (EI G W (eBin (fMul m) ma mb)) := q_bin (op_anyMul L.K) (of_anyMul m) ha hb
end

/-! ### == -/
def mapO {α β : Type} (f : α → Option β) : List α → Option (List β)
  | [] => some []
  | a :: r => match f a, mapO f r with
    | some b, some s => some (b :: s)
    | _, _ => none
def toPy (st : Sto) : Nat → D → Option PyData
  | _, .non => some .none
  | _, .bl b => some (.bool b)
  | _, .int i => some (.int i)
  | _, .str s => some (.str ⟨s.toArray⟩)
  | n + 1, .tup ds => (mapO (toPy st n) ds).map .tuple
  | n + 1, .lst ds => (mapO (toPy st n) ds).map .list
  | n + 1, .rol ds => (mapO (toPy st n) ds).map .list
  | n + 1, .ref i => match st[i]? with
    | some (.lst ds) => (mapO (toPy st n) ds).map .list
    | _ => none
  | _, _ => none
theorem dpAll_of {G : CT} {w : Wd} {f : D → Option PyData} (h : ∀ d p x, f d = some p → Rl G w d x → Dp G.K w.H x p) : ∀ {ds : List D} {ps : List PyData} {xs : List V}, mapO f ds = some ps → Rls G w ds xs → DpAll G.K w.H xs ps
  | [], ps, xs, e, r => by
    have q : xs = [] := r
    subst q
    cases e
    exact .nil
  | d :: ds, ps, xs, e, r => by
    obtain ⟨x, r', rfl, h1, h2⟩ := r
    unfold mapO at e
    split at e
    · rename_i b s e1 e2
      cases e
      exact .cons (h d b x e1 h1) (dpAll_of h e2 h2)
    · cases e
theorem dp_of {G : CT} {w : Wd} (o : Ok G w) : ∀ (n : Nat) (d : D) (p : PyData) (x : V), toPy w.st n d = some p → Rl G w d x → Dp G.K w.H x p := by
  intro n
  induction n with
  | zero =>
    intro d p x e r
    cases d <;> simp [toPy] at e <;> subst e
    · rw [show x = .non from r]; exact .non
    · rw [show x = _ from r]; exact .bl _
    · rw [show x = _ from r]; exact .int _
    · rw [show x = _ from r]; exact .str _
  | succ n ih =>
    intro d p x e r
    cases d with
    | non => simp [toPy] at e; subst e; rw [show x = .non from r]; exact .non
    | bl b => simp [toPy] at e; subst e; rw [show x = _ from r]; exact .bl _
    | int i => simp [toPy] at e; subst e; rw [show x = _ from r]; exact .int _
    | str s => simp [toPy] at e; subst e; rw [show x = _ from r]; exact .str _
    | obj c ds => simp [toPy] at e
    | rng i j c => simp [toPy] at e
    | ty n => simp [toPy] at e
    | cl c => simp [toPy] at e
    | tup ds =>
      unfold toPy at e
      cases q : mapO (toPy w.st n) ds with
      | none => rw [q] at e; cases e
      | some ps =>
        rw [q] at e
        cases e
        obtain ⟨a, xs, rfl, s, rs⟩ := r
        exact .tup s.sq (dpAll_of ih q rs)
    | lst ds =>
      unfold toPy at e
      cases q : mapO (toPy w.st n) ds with
      | none => rw [q] at e; cases e
      | some ps =>
        rw [q] at e
        cases e
        obtain ⟨a, xs, rfl, s, rs⟩ := r
        exact .lst (SqL.of s.1) (dpAll_of ih q rs)
    | rol ds =>
      unfold toPy at e
      cases q : mapO (toPy w.st n) ds with
      | none => rw [q] at e; cases e
      | some ps =>
        rw [q] at e
        cases e
        obtain ⟨a, xs, rfl, s, rs⟩ := r
        exact .lst s.sq (dpAll_of ih q rs)
    | ref i =>
      unfold toPy at e
      split at e
      · rename_i ds hs
        cases q : mapO (toPy w.st n) ds with
        | none => rw [q] at e; cases e
        | some ps =>
          rw [q] at e
          cases e
          obtain ⟨a, e1, rfl⟩ := r
          obtain ⟨xs, s, rs⟩ := o.cell i _ a hs e1
          exact .lst (SqL.of s) (dpAll_of ih q rs)
      · cases e

/-- == of what isn't an object of an own class -/
def pyEq (st : Sto) (x y : D) : Option Bool := match x, y with
  | .str a, .str b => some (decide (a = b))
  | .int i, .int j => some (decide (i = j))
  | .bl i, .bl j => some (decide (i = j))
  | x, y => match toPy st 8 x, toPy st 8 y with
    | some d, some e => if SeqAt.shaped d = true ∧ SeqAt.shaped e = true then some (PyData.eqv d e) else none
    | _, _ => none
def fEq : D → D → Sto → Res D := fun x y st => match pyEq st x y with
  | some b => .ok (.bl b) st
  | none => .bad
def fNe : D → D → Sto → Res D := fun x y st => match pyEq st x y with
  | some b => .ok (.bl (!b)) st
  | none => .bad
theorem str_inj {a b : List Nat} : (V.str ⟨a.toArray⟩ = V.str ⟨b.toArray⟩) ↔ a = b := by
  constructor
  · intro h
    have e : (⟨a.toArray⟩ : Str) = ⟨b.toArray⟩ := V.str.inj h
    have e2 : a.toArray = b.toArray := congrArg Str.cps e
    simpa using e2
  · intro h
    rw [h]
section
variable {X : Cx} {G : CT} {W : WX} {pos : Pos} {a b c : Expr} {ma mb mc : Ev}
theorem pyEq_of {w : Wd} (o : Ok G w) {x y : V} {dx dy : D} {k : Bool} (rx : Rl G w dx x) (ry : Rl G w dy y) (h : pyEq w.st dx dy = some k) :
    (scal x y = true ∧ decide (x = y) = k) ∨ ∃ d e, Dp G.K w.H x d ∧ Dp G.K w.H y e ∧ SeqAt.shaped d = true ∧ SeqAt.shaped e = true ∧ PyData.eqv d e = k := by
  unfold pyEq at h
  split at h
  · cases h
    rw [show x = _ from rx, show y = _ from ry]
    exact .inl ⟨rfl, by simp only [str_inj]⟩
  · cases h
    rw [show x = _ from rx, show y = _ from ry]
    exact .inl ⟨rfl, by simp⟩
  · cases h
    rw [show x = _ from rx, show y = _ from ry]
    exact .inl ⟨rfl, by simp⟩
  · split at h
    · rename_i d e h1 h2
      split at h
      · rename_i hs
        cases h
        exact .inr ⟨d, e, dp_of o _ _ _ _ h1 rx, dp_of o _ _ _ _ h2 ry, hs.1, hs.2, rfl⟩
      · cases h
    · cases h
theorem of_eq : OpF G fEq (fun x y H Q => rEq x y H Q ∨ rEqD G.K x y H Q) := fun W σ w x y dx dy Q o rx ry p => by
  unfold fEq at p
  split at p
  · rename_i k h
    rcases pyEq_of o rx ry h with ⟨h1, h2⟩ | ⟨d, e, h1, h2, h3, h4, h5⟩
    · exact .inl ⟨h1, by rw [h2]; exact p.ok o rfl⟩
    · exact .inr ⟨d, e, h1, h2, h3, h4, by rw [h5]; exact p.ok o rfl⟩
  · exact p.elim
theorem of_ne : OpF G fNe (fun x y H Q => rNe x y H Q ∨ rNeD G.K x y H Q) := fun W σ w x y dx dy Q o rx ry p => by
  unfold fNe at p
  split at p
  · rename_i k h
    rcases pyEq_of o rx ry h with ⟨h1, h2⟩ | ⟨d, e, h1, h2, h3, h4, h5⟩
    · exact .inl ⟨h1, by rw [h2]; exact p.ok o rfl⟩
    · exact .inr ⟨d, e, h1, h2, h3, h4, by rw [h5]; exact p.ok o rfl⟩
  · exact p.elim
theorem q_eq (L : Lay X G W) (hu : X.A.units + 64 < cLine) (ha : PE X a (EI G W ma)) (hb : PE X b (EI G W mb)) : PE X (.Compare a [.Eq] [b] pos) (EI G W (eBin fEq ma mb)) := q_cmp (op_eq.or (op_eqD hu)) (by rw [L.K]; exact of_eq) ha hb (nomark _)
theorem q_ne (L : Lay X G W) (hu : X.A.units + 64 < cLine) (ha : PE X a (EI G W ma)) (hb : PE X b (EI G W mb)) : PE X (.Compare a [.NotEq] [b] pos) (EI G W (eBin fNe ma mb)) := q_cmp (op_ne.or (op_neD hu)) (by rw [L.K]; exact of_ne) ha hb (nomark _)
theorem qt_eq (L : Lay X G W) (hu : X.A.units + 64 < cLine) (ha : PE X a (EI G W ma)) (hb : PE X b (EI G W mb)) : PT X (.Compare a [.Eq] [b] pos) (TsI G W (tOf (eBin fEq ma mb))) := qt_cmp (op_eq.or (op_eqD hu)) (by rw [L.K]; exact of_eq) ha hb (nomark _)
theorem qt_ne (L : Lay X G W) (hu : X.A.units + 64 < cLine) (ha : PE X a (EI G W ma)) (hb : PE X b (EI G W mb)) : PT X (.Compare a [.NotEq] [b] pos) (TsI G W (tOf (eBin fNe ma mb))) := qt_cmp (op_ne.or (op_neD hu)) (by rw [L.K]; exact of_ne) ha hb (nomark _)

/-! ### is -/
def isNon : D → Bool
  | .non => true
  | _ => false
theorem isNon_of {w : Wd} {d : D} {x : V} (r : Rl G w d x) : decide (x = .non) = isNon d := by
  cases d with
  | non => rw [show x = .non from r]; rfl
  | bl b => rw [show x = _ from r]; rfl
  | int b => rw [show x = _ from r]; rfl
  | str b => rw [show x = _ from r]; rfl
  | tup ds => obtain ⟨a, xs, rfl, _⟩ := r; rfl
  | lst ds => obtain ⟨a, xs, rfl, _⟩ := r; rfl
  | rol ds => obtain ⟨a, xs, rfl, _⟩ := r; rfl
  | obj c ds => obtain ⟨a, dx, fs, rfl, _⟩ := r; rfl
  | ref i => obtain ⟨a, _, rfl⟩ := r; rfl
  | rng i j c => obtain ⟨a, rfl, _⟩ := r; rfl
  | ty n => rw [show x = _ from r]; rfl
  | cl c => rw [show x = _ from r]; rfl
def fIs : D → D → Sto → Res D := fun x y st => match y with
  | .non => .ok (.bl (isNon x)) st
  | .bl b => match x with
    | .bl c => .ok (.bl (decide (c = b))) st
    | _ => .bad
  | _ => .bad
def fIsNot : D → D → Sto → Res D := fun x y st => match y with
  | .non => .ok (.bl (!isNon x)) st
  | .bl b => match x with
    | .bl c => .ok (.bl (!decide (c = b))) st
    | _ => .bad
  | _ => .bad
theorem of_is : OpF G fIs (fun x y H Q => (y = .non ∧ Q (.bl (decide (x = .non))) H) ∨ rIsB x y H Q) := fun W σ w x y dx dy Q o rx ry p => by
  unfold fIs at p
  split at p
  · exact .inl ⟨ry, by rw [isNon_of rx]; exact p.ok o rfl⟩
  · split at p
    · exact .inr ⟨_, _, rx, ry, p.ok o rfl⟩
    · exact p.elim
  · exact p.elim
theorem of_isNot : OpF G fIsNot (fun x y H Q => (y = .non ∧ Q (.bl (!decide (x = .non))) H) ∨ rNotB x y H Q) := fun W σ w x y dx dy Q o rx ry p => by
  unfold fIsNot at p
  split at p
  · exact .inl ⟨ry, by rw [isNon_of rx]; exact p.ok o rfl⟩
  · split at p
    · exact .inr ⟨_, _, rx, ry, p.ok o rfl⟩
    · exact p.elim
  · exact p.elim
theorem q_is (ha : PE X a (EI G W ma)) (hb : PE X b (EI G W mb)) : PE X (.Compare a [.Is] [b] pos) (EI G W (eBin fIs ma mb)) := q_cmp (op_isN.or op_isBl) of_is ha hb (nomark _)
theorem q_isNot (ha : PE X a (EI G W ma)) (hb : PE X b (EI G W mb)) : PE X (.Compare a [.IsNot] [b] pos) (EI G W (eBin fIsNot ma mb)) := q_cmp (op_notN.or op_notBl) of_isNot ha hb (nomark _)
theorem qt_is (ha : PE X a (EI G W ma)) (hb : PE X b (EI G W mb)) : PT X (.Compare a [.Is] [b] pos) (TsI G W (tOf (eBin fIs ma mb))) := qt_cmp (op_isN.or op_isBl) of_is ha hb (nomark _)
theorem qt_isNot (ha : PE X a (EI G W ma)) (hb : PE X b (EI G W mb)) : PT X (.Compare a [.IsNot] [b] pos) (TsI G W (tOf (eBin fIsNot ma mb))) := qt_cmp (op_notN.or op_notBl) of_isNot ha hb (nomark _)

/-! ### in -/
def flatD : D → Bool
  | .non => true
  | .bl _ => true
  | .int _ => true
  | .str _ => true
  | _ => false
def eqF : D → D → Bool
  | .non, .non => true
  | .bl a, .bl b => a == b
  | .bl a, .int b => (if a then 1 else 0) == b
  | .int a, .bl b => a == (if b then 1 else 0)
  | .int a, .int b => a == b
  | .str a, .str b => a == b
  | _, _ => false
def inD (x : D) (ds : List D) : Bool := ds.any fun y => eqF y x
theorem flat_of {w : Wd} {d : D} {x : V} (r : Rl G w d x) (h : flatD d = true) : flatV x = true := by
  cases d with
  | non => rw [show x = .non from r]; rfl
  | bl b => rw [show x = _ from r]; rfl
  | int b => rw [show x = _ from r]; rfl
  | str b => rw [show x = _ from r]; rfl
  | _ => exact absurd h Bool.false_ne_true
theorem str_beq (a b : List Nat) : ((⟨a.toArray⟩ : Str) == ⟨b.toArray⟩) = (a == b) := by
  by_cases e : a = b
  · subst e
    simp
  · have h1 : (a == b) = false := beq_eq_false_iff_ne.mpr e
    have h2 : ((⟨a.toArray⟩ : Str) == ⟨b.toArray⟩) = false := beq_eq_false_iff_ne.mpr fun q => e (str_inj.mp (by rw [q]))
    rw [h1, h2]
theorem eqF_of {w : Wd} {d e : D} {x y : V} (r : Rl G w d x) (q : Rl G w e y) (h : flatD d = true) (k : flatD e = true) : eqV x y = eqF d e := by
  cases d <;> first | exact absurd h Bool.false_ne_true | skip
  all_goals (cases e <;> first | exact absurd k Bool.false_ne_true | skip)
  all_goals (rw [show x = _ from r, show y = _ from q])
  all_goals first | rfl | skip
  all_goals (rename_i a b; unfold eqV eqF; by_cases e : a = b <;> first | (simp [e]; done) | exact str_beq a b)
theorem inD_of {w : Wd} {d : D} {x : V} (r : Rl G w d x) (h : flatD d = true) : ∀ {ds : List D} {xs : List V}, Rls G w ds xs → ds.all flatD = true → inV x xs = inD d ds ∧ xs.all flatV = true
  | [], xs, q, _ => by
    have e : xs = [] := q
    subst e
    exact ⟨rfl, rfl⟩
  | e :: ds, xs, q, k => by
    obtain ⟨y, ys, rfl, h1, h2⟩ := q
    rw [List.all_cons, Bool.and_eq_true] at k
    obtain ⟨i1, i2⟩ := inD_of r h h2 k.2
    constructor
    · unfold inV inD at *
      rw [List.any_cons, List.any_cons, eqF_of h1 r k.1 h, i1]
    · rw [List.all_cons, flat_of h1 k.1, i2]
      rfl
def fIn (neg : Bool) : D → D → Sto → Res D := fun x y st => match x, y with
  | .str [c], .str s => .ok (.bl (if neg = true then !decide (c ∈ s) else decide (c ∈ s))) st
  | x, .tup ds => if flatD x = true ∧ ds.all flatD = true then .ok (.bl (if neg = true then !inD x ds else inD x ds)) st else .bad
  | x, y => match asL y st with
    | some ds => if flatD x = true ∧ ds.all flatD = true then .ok (.bl (if neg = true then !inD x ds else inD x ds)) st else .bad
    | none => .bad
def rSign (neg : Bool) : R2 := fun x y H Q => ∃ (c : Nat) (z : Str), x = .str ⟨#[c]⟩ ∧ y = .str z ∧ Q (.bl (if neg = true then !decide (c ∈ z.cps.toList) else decide (c ∈ z.cps.toList))) H
theorem of_in (neg : Bool) : OpF G (fIn neg) (fun x y H Q => rSign neg x y H Q ∨ rIn G.K neg x y H Q) := fun W σ w x y dx dy Q o rx ry p => by
  unfold fIn at p
  split at p
  · exact .inl ⟨_, _, rx, ry, p.ok o rfl⟩
  · split at p
    · rename_i h
      obtain ⟨a, xs, rfl, s, q⟩ := ry
      obtain ⟨i1, i2⟩ := inD_of rx h.1 q h.2
      exact .inr ⟨a, xs, rfl, .inr s.sq, flat_of rx h.1, i2, by rw [i1]; exact p.ok o rfl⟩
    · exact p.elim
  · split at p
    · rename_i ds hl
      split at p
      · rename_i h
        obtain ⟨a, xs, rfl, s, q⟩ := asL_sq o hl ry
        obtain ⟨i1, i2⟩ := inD_of rx h.1 q h.2
        exact .inr ⟨a, xs, rfl, .inl s, flat_of rx h.1, i2, by rw [i1]; exact p.ok o rfl⟩
      · exact p.elim
    · exact p.elim
theorem op_signF : OpR X (compareOp .In) (rSign false) := op_in_sign
theorem op_signT : OpR X (compareOp .NotIn) (rSign true) := op_notIn_sign
theorem q_in (L : Lay X G W) (ha : PE X a (EI G W ma)) (hb : PE X b (EI G W mb)) (hm : behindInMarks .In b = false := by rfl) : PE X (.Compare a [.In] [b] pos) (EI G W (eBin (fIn false) ma mb)) := q_cmp (op_signF.or op_in_seq) (by rw [L.K]; exact of_in false) ha hb hm
theorem q_notIn (L : Lay X G W) (ha : PE X a (EI G W ma)) (hb : PE X b (EI G W mb)) (hm : behindInMarks .NotIn b = false := by rfl) : PE X (.Compare a [.NotIn] [b] pos) (EI G W (eBin (fIn true) ma mb)) := q_cmp (op_signT.or op_notIn_seq) (by rw [L.K]; exact of_in true) ha hb hm
theorem qt_in (L : Lay X G W) (ha : PE X a (EI G W ma)) (hb : PE X b (EI G W mb)) (hm : behindInMarks .In b = false := by rfl) : PT X (.Compare a [.In] [b] pos) (TsI G W (tOf (eBin (fIn false) ma mb))) := qt_cmp (op_signF.or op_in_seq) (by rw [L.K]; exact of_in false) ha hb hm
theorem qt_notIn (L : Lay X G W) (ha : PE X a (EI G W ma)) (hb : PE X b (EI G W mb)) (hm : behindInMarks .NotIn b = false := by rfl) : PT X (.Compare a [.NotIn] [b] pos) (TsI G W (tOf (eBin (fIn true) ma mb))) := qt_cmp (op_signT.or op_notIn_seq) (by rw [L.K]; exact of_in true) ha hb hm
end
end F
/-! and, or, not, a if t else b, chains; subscripts, slices, displays, arguments. -/
namespace F
open PySem PySem.Spec PyProof.Rows L2

def tAndF (a b : Tv) : Tv := fun env st => (a env st).bind fun k s => if k = true then b env s else .ok false s
def tOrF (a b : Tv) : Tv := fun env st => (a env st).bind fun k s => if k = true then .ok true s else b env s
def tNotF (a : Tv) : Tv := fun env st => (a env st).bind fun k s => .ok (!k) s
/-- truth of any value -/
def truD (d : D) (st : Sto) : Option Bool := match d with
  | .non => some false
  | .bl b => some b
  | .int i => some (i != 0)
  | .str s => if s.length ≤ sizeLine then some (!s.isEmpty) else none
  | .tup ds => some (!ds.isEmpty)
  | d => match asL d st with
    | some ds => some (!ds.isEmpty)
    | none => none
def tTru (m : Ev) : Tv := fun env st => (m env st).bind fun d s => match truD d s with
  | some b => .ok b s
  | none => .bad
def eAndF (a b : Ev) : Ev := fun env st => (a env st).bind fun x s => match x with
  | .bl k => if k = true then b env s else .ok (.bl false) s
  | _ => .bad
def eOrF (a b : Ev) : Ev := fun env st => (a env st).bind fun x s => match x with
  | .bl k => if k = true then .ok (.bl true) s else b env s
  | _ => .bad
def eNotF (a : Ev) : Ev := fun env st => (a env st).bind fun x s => match x with
  | .bl k => .ok (.bl (!k)) s
  | _ => .bad
/-- not of a test, as a value -/
def eNotT (a : Tv) : Ev := fun env st => (a env st).bind fun k s => .ok (.bl (!k)) s
def eIf (t : Tv) (a b : Ev) : Ev := fun env st => (t env st).bind fun k s => if k = true then a env s else b env s
section
variable {X : Cx} {G : CT} {W : WX} {pos : Pos} {a b c : Expr} {ma mb mc : Ev} {ta tb : Tv} {rest : List Expr}
theorem w_and1 (h : PT X a (TsI G W ta)) : PW X (.BoolOp .And [a] pos) (TsI G W ta) := pw_and1 h
theorem w_or1 (h : PT X a (TsI G W ta)) : PW X (.BoolOp .Or [a] pos) (TsI G W ta) := pw_or1 h
theorem w_and (h : PT X a (TsI G W ta)) (k : PW X (.BoolOp .And (b :: rest) pos) (TsI G W tb)) : PW X (.BoolOp .And (a :: b :: rest) pos) (TsI G W (tAndF ta tb)) := (pw_and h k).imp fun σ H Q ⟨w, env, e, o, er, p⟩ =>
  ⟨w, env, e, o, er, p.bind fun w1 k b o1 l1 r1 p1 => by
    have r1' : k = b := r1
    subst r1'
    cases k with
    | true => exact ⟨w1, env, rfl, o1, er.mono l1, p1⟩
    | false => exact p1.ok o1 rfl⟩
theorem w_or (h : PT X a (TsI G W ta)) (k : PW X (.BoolOp .Or (b :: rest) pos) (TsI G W tb)) : PW X (.BoolOp .Or (a :: b :: rest) pos) (TsI G W (tOrF ta tb)) := (pw_or h k).imp fun σ H Q ⟨w, env, e, o, er, p⟩ =>
  ⟨w, env, e, o, er, p.bind fun w1 k b o1 l1 r1 p1 => by
    have r1' : k = b := r1
    subst r1'
    cases k with
    | true => exact p1.ok o1 rfl
    | false => exact ⟨w1, env, rfl, o1, er.mono l1, p1⟩⟩
theorem qt_not (h : PT X a (TsI G W ta)) : PT X (.UnaryOp .Not a pos) (TsI G W (tNotF ta)) := (pt_not h).imp fun σ H Q ⟨w, env, e, o, er, p⟩ =>
  ⟨w, env, e, o, er, p.bind fun w1 k b o1 l1 r1 p1 => by
    have r1' : k = b := r1
    subst r1'
    exact p1.ok o1 rfl⟩
theorem truD_of {w : Wd} (o : Ok G w) {d : D} {x : V} {k : Bool} (h : truD d w.st = some k) (r : Rl G w d x) : TruV G.K x w.H k := by
  cases d with
  | non => rw [show x = .non from r]; cases h; rfl
  | bl b => rw [show x = _ from r]; cases h; rfl
  | int i => rw [show x = _ from r]; cases h; rfl
  | str s =>
    rw [show x = _ from r]
    have h' : (if s.length ≤ sizeLine then some (!s.isEmpty) else none) = some k := h
    split at h'
    · rename_i hl
      cases h'
      refine ⟨by rw [str_len]; exact hl, ?_⟩
      rw [str_len]
      cases s with
      | nil => rfl
      | cons n l => simp; omega
    · cases h'
  | tup ds =>
    obtain ⟨a, xs, rfl, s, q⟩ := r
    cases h
    refine .inr (.inl ⟨xs, s.sq, ?_⟩)
    have e := q.length
    cases ds <;> cases xs <;> simp at e ⊢
  | obj c ds =>
    have h' : (none : Option Bool) = some k := h
    cases h'
  | rng i j c =>
    have h' : (none : Option Bool) = some k := h
    cases h'
  | ty n =>
    have h' : (none : Option Bool) = some k := h
    cases h'
  | cl c =>
    have h' : (none : Option Bool) = some k := h
    cases h'
  | lst ds =>
    have h' : some (!ds.isEmpty) = some k := h
    cases h'
    obtain ⟨a, xs, rfl, s, q⟩ := r
    refine .inl ⟨xs, SqL.of s.1, ?_⟩
    have e := q.length
    cases ds <;> cases xs <;> simp at e ⊢
  | rol ds =>
    have h' : some (!ds.isEmpty) = some k := h
    cases h'
    obtain ⟨a, xs, rfl, s, q⟩ := r
    refine .inl ⟨xs, s.sq, ?_⟩
    have e := q.length
    cases ds <;> cases xs <;> simp at e ⊢
  | ref i =>
    unfold truD at h
    dsimp only at h
    split at h
    · rename_i ds hl
      cases h
      obtain ⟨a, xs, rfl, s, q⟩ := asL_sq o hl r
      refine .inl ⟨xs, s, ?_⟩
      have e := q.length
      cases ds <;> cases xs <;> simp at e ⊢
    · cases h
theorem qt_tru (L : Lay X G W) (h : PE X a (EI G W ma)) (he : ∀ whole, isTrue a X.env whole = (do let v ← whole; standAt a.pos; holding [v] (truthy v)) := by intro _; rfl) : PT X a (TsI G W (tTru ma)) := (pt_truth h he).imp fun σ H Q ⟨w, env, e, o, er, p⟩ =>
  ⟨w, env, e, o, er, p.bind fun w1 d x o1 l1 r1 p1 => by
    split at p1
    · rename_i b hb
      exact ⟨b, by rw [L.K]; exact truD_of o1 hb r1, p1.ok o1 rfl⟩
    · exact p1.elim⟩
theorem q_one {op} (h : PE X a (EI G W ma)) : PE X (.BoolOp op [a] pos) (EI G W ma) := pe_one h
theorem q_and (ha : PE X a (EI G W ma)) (hb : PE X (.BoolOp .And (b :: rest) pos) (EI G W mb)) : PE X (.BoolOp .And (a :: b :: rest) pos) (EI G W (eAndF ma mb)) := (pe_and ha hb).imp fun σ H Q ⟨w, env, e, o, er, p⟩ =>
  ⟨w, env, e, o, er, p.bind fun w1 d x o1 l1 r1 p1 => by
    split at p1
    · rename_i k
      refine ⟨k, r1, ?_⟩
      cases k with
      | true => exact ⟨w1, env, rfl, o1, er.mono l1, p1⟩
      | false => exact p1.ok o1 rfl
    · exact p1.elim⟩
theorem q_or (ha : PE X a (EI G W ma)) (hb : PE X (.BoolOp .Or (b :: rest) pos) (EI G W mb)) : PE X (.BoolOp .Or (a :: b :: rest) pos) (EI G W (eOrF ma mb)) := (pe_or ha hb).imp fun σ H Q ⟨w, env, e, o, er, p⟩ =>
  ⟨w, env, e, o, er, p.bind fun w1 d x o1 l1 r1 p1 => by
    split at p1
    · rename_i k
      refine ⟨k, r1, ?_⟩
      cases k with
      | true => exact p1.ok o1 rfl
      | false => exact ⟨w1, env, rfl, o1, er.mono l1, p1⟩
    · exact p1.elim⟩
theorem q_not (ha : PE X a (EI G W ma)) : PE X (.UnaryOp .Not a pos) (EI G W (eNotF ma)) := (pe_not ha).imp fun σ H Q ⟨w, env, e, o, er, p⟩ =>
  ⟨w, env, e, o, er, p.bind fun w1 d x o1 l1 r1 p1 => by
    split at p1
    · rename_i k
      exact ⟨k, r1, p1.ok o1 rfl⟩
    · exact p1.elim⟩
theorem q_ifExp (ht : PT X c (TsI G W ta)) (ha : PE X a (EI G W ma)) (hb : PE X b (EI G W mb)) : PE X (.IfExp c a b pos) (EI G W (eIf ta ma mb)) := (pe_ifExp ht ha hb).imp fun σ H Q ⟨w, env, e, o, er, p⟩ =>
  ⟨w, env, e, o, er, p.bind fun w1 k b o1 l1 r1 p1 => by
    have r1' : k = b := r1
    subst r1'
    cases k with
    | true => exact ⟨w1, env, rfl, o1, er.mono l1, p1⟩
    | false => exact ⟨w1, env, rfl, o1, er.mono l1, p1⟩⟩
end

/-! ### chains of comparisons -/
/-- the rest of a chain behind the value x -/
def eChain (f g : D → D → Sto → Res D) (a b c : Ev) : Ev := fun env st => (a env st).bind fun x s => (b env s).bind fun y s1 => (f x y s1).bind fun k s2 => match k with
  | .bl k => if k = true then (c env s2).bind fun z s3 => g y z s3 else .ok (.bl false) s2
  | _ => .bad
section
variable {X : Cx} {G : CT} {W : WX} {pos : Pos} {a b c : Expr} {ma mb mc : Ev} {f g : D → D → Sto → Res D} {r r' : R2}
/-- an operation by values whose answer is used further -/
def OpC (G : CT) (f : D → D → Sto → Res D) (r : R2) : Prop := OpF G f r
theorem chain_of (hf : OpF G f r) (hg : OpF G g r') : ∀ σ H Q, EI G W (eChain f g ma mb mc) σ H Q → tChain r r' (EI G W ma) (EI G W mb) (EI G W mc) σ H Q := fun σ H Q ⟨w, env, e, o, er, p⟩ =>
  ⟨w, env, e, o, er, p.bind fun w1 da x o1 l1 r1 p1 => ⟨w1, env, rfl, o1, er.mono l1, p1.bind fun w2 db y o2 l2 r2 p2 => by
    refine hf W σ w2 x y da db _ o2 (r1.mono l2) r2 (p2.bind fun w3 dk z o3 l3 r3 p3 => ?_)
    split at p3
    · rename_i k
      refine ⟨k, r3, ?_⟩
      cases k with
      | true => exact ⟨w3, env, rfl, o3, (er.mono l1).mono (l2.trans l3), p3.bind fun w4 dc z' o4 l4 r4 p4 => hg W σ w4 y z' db dc Q o4 (r2.mono (l3.trans l4)) r4 p4⟩
      | false => exact p3.ok o3 rfl
    · exact p3.elim⟩⟩
theorem q_chain {op op' : CmpOp} {p p' : Int → Int → Bool} (ho : OpR X (compareOp op) (rI0 fun i j => .bl (p i j))) (ho' : OpR X (compareOp op') (rI0 fun i j => .bl (p' i j))) (ha : PE X a (EI G W ma)) (hb : PE X b (EI G W mb)) (hc : PE X c (EI G W mc))
    (hm : lastMarks [op, op'] [b, c] = false := by with_unfolding_all rfl) : PE X (.Compare a [op, op'] [b, c] pos) (EI G W (eChain (fCmpI p) (fCmpI p') ma mb mc)) := (pe_chain ho ho' ha hb hc hm).imp (chain_of of_cmpI of_cmpI)
theorem qt_chain {op op' : CmpOp} {p p' : Int → Int → Bool} (ho : OpR X (compareOp op) (rI0 fun i j => .bl (p i j))) (ho' : OpR X (compareOp op') (rI0 fun i j => .bl (p' i j))) (ha : PE X a (EI G W ma)) (hb : PE X b (EI G W mb)) (hc : PE X c (EI G W mc))
    (hm : lastMarks [op, op'] [b, c] = false := by with_unfolding_all rfl) : PT X (.Compare a [op, op'] [b, c] pos) (TsI G W (tOf (eChain (fCmpI p) (fCmpI p') ma mb mc))) := (pt_chain ho ho' ha hb hc hm).imp fun σ H Q h => by
  obtain ⟨w, env, e, o, er, p⟩ := test_of σ H Q h
  exact chain_of of_cmpI of_cmpI σ H _ ⟨w, env, e, o, er, p⟩
/-- a < b < c < d -/
def eChain3 (f g h : D → D → Sto → Res D) (a b c d : Ev) : Ev := fun env st => (a env st).bind fun x s => (b env s).bind fun y s1 => (f x y s1).bind fun k s2 => match k with
  | .bl k => if k = true then (c env s2).bind fun z s3 => (g y z s3).bind fun k' s4 => match k' with
    | .bl k' => if k' = true then (d env s4).bind fun u s5 => h z u s5 else .ok (.bl false) s4
    | _ => .bad else .ok (.bl false) s2
  | _ => .bad
def tChain3 (r r' r'' : R2) (ta tb tc td : TE) : TE := fun σ H Q => ta σ H fun x H1 => tb σ H1 fun y H2 => r x y H2 fun z H3 => ∃ k, z = .bl k ∧
  (if k = true then tc σ H3 fun v H4 => r' y v H4 fun z' H5 => ∃ k', z' = .bl k' ∧ (if k' = true then td σ H5 fun u H6 => r'' v u H6 Q else Q (.bl false) H5) else Q (.bl false) H3)
theorem pe_chain3 {d : Expr} {ta tb tc td : TE} {r'' : R2} {op op' op'' : CmpOp} (ho : OpR X (compareOp op) r) (ho' : OpR X (compareOp op') r') (ho'' : OpR X (compareOp op'') r'') (ha : PE X a ta) (hb : PE X b tb) (hc : PE X c tc) (hd : PE X d td)
    (hm : lastMarks [op, op', op''] [b, c, d] = false := by with_unfolding_all rfl) : PE X (.Compare a [op, op', op''] [b, c, d] pos) (tChain3 r r' r'' ta tb tc td) := by
  refine ⟨fun pins s σ H Q I h => ?_⟩
  refine Compare_chain (thn (ha.run pins s σ H _ I h) fun v s1 ⟨x, H1, I1, r1, q1⟩ => chain_link (thn (hb.run pins s1 σ H1 _ I1 q1) fun u s2 ⟨y, H2, I2, r2, q2⟩ =>
    thn (ho pins s2 σ H2 x y v u _ I2 r1 r2 q2) fun d0 s3 ⟨z, H3, I3, r3, k, e, q3⟩ => ?_)) hm
  subst e
  cases r3
  refine wpAny_truthy_bool ?_
  cases k with
  | false => exact ite_ff ⟨.bl false, H3, I3, rfl, q3⟩
  | true =>
    refine ite_tt (chain_link (thn (hc.run pins s3 σ H3 _ I3 q3) fun u' s4 ⟨y', H4, I4, r4, q4⟩ => thn (ho' pins s4 σ H4 y y' u u' _ I4 r2 r4 q4) fun d1 s5 ⟨z', H5, I5, r5, k', e', q5⟩ => ?_))
    subst e'
    cases r5
    refine wpAny_truthy_bool ?_
    cases k' with
    | false => exact ite_ff ⟨.bl false, H5, I5, rfl, q5⟩
    | true => exact ite_tt (chain_last (thn (hd.run pins s5 σ H5 _ I5 q5) fun w' s6 ⟨z2, H6, I6, r6, q6⟩ => ho'' pins s6 σ H6 y' z2 u' w' Q I6 r4 r6 q6))
theorem pt_chain3 {d : Expr} {ta tb tc td : TE} {r'' : R2} {op op' op'' : CmpOp} (ho : OpR X (compareOp op) r) (ho' : OpR X (compareOp op') r') (ho'' : OpR X (compareOp op'') r'') (ha : PE X a ta) (hb : PE X b tb) (hc : PE X c tc) (hd : PE X d td)
    (hm : lastMarks [op, op', op''] [b, c, d] = false := by with_unfolding_all rfl) : PT X (.Compare a [op, op', op''] [b, c, d] pos) (tTest (tChain3 r r' r'' ta tb tc td)) := by
  refine ⟨fun pins s σ H Q I h => ?_⟩
  refine isTrue_chain (thn (ha.run pins s σ H _ I h) fun v s1 ⟨x, H1, I1, r1, q1⟩ => test_link (thn (hb.run pins s1 σ H1 _ I1 q1) fun u s2 ⟨y, H2, I2, r2, q2⟩ =>
    thn (ho pins s2 σ H2 x y v u _ I2 r1 r2 q2) fun d0 s3 ⟨z, H3, I3, r3, k, e, q3⟩ => ?_)) hm
  subst e
  cases r3
  refine wpAny_truthy_bool ?_
  cases k with
  | false =>
    obtain ⟨k', e', q'⟩ := q3
    cases e'
    exact ite_ff ⟨H3, I3, q'⟩
  | true =>
    refine ite_tt (test_link (thn (hc.run pins s3 σ H3 _ I3 q3) fun u' s4 ⟨y', H4, I4, r4, q4⟩ => thn (ho' pins s4 σ H4 y y' u u' _ I4 r2 r4 q4) fun d1 s5 ⟨z', H5, I5, r5, k', e', q5⟩ => ?_))
    subst e'
    cases r5
    refine wpAny_truthy_bool ?_
    cases k' with
    | false =>
      obtain ⟨k2, e2, q2'⟩ := q5
      cases e2
      exact ite_ff ⟨H5, I5, q2'⟩
    | true =>
      refine ite_tt (test_last (thn (hd.run pins s5 σ H5 _ I5 q5) fun w' s6 ⟨z2, H6, I6, r6, q6⟩ => thn (ho'' pins s6 σ H6 y' z2 u' w' _ I6 r4 r6 q6) fun d' s7 ⟨z3, H7, I7, r7, k3, e3, q7⟩ => ?_))
      subst e3
      cases r7
      exact wpAny_truthy_bool ⟨H7, I7, q7⟩
variable {md : Ev}
theorem chain3_of {p p' p'' : Int → Int → Bool} : ∀ σ H Q, EI G W (eChain3 (fCmpI p) (fCmpI p') (fCmpI p'') ma mb mc md) σ H Q →
    tChain3 (rI0 fun i j => .bl (p i j)) (rI0 fun i j => .bl (p' i j)) (rI0 fun i j => .bl (p'' i j)) (EI G W ma) (EI G W mb) (EI G W mc) (EI G W md) σ H Q := fun σ H Q ⟨w, env, e, o, er, p⟩ =>
  ⟨w, env, e, o, er, p.bind fun w1 da x o1 l1 r1 p1 => ⟨w1, env, rfl, o1, er.mono l1, p1.bind fun w2 db y o2 l2 r2 p2 => by
    refine of_cmpI W σ w2 x y da db _ o2 (r1.mono l2) r2 (p2.bind fun w3 dk z o3 l3 r3 p3 => ?_)
    split at p3
    · rename_i k
      refine ⟨k, r3, ?_⟩
      cases k with
      | true =>
        refine ⟨w3, env, rfl, o3, (er.mono l1).mono (l2.trans l3), p3.bind fun w4 dc z' o4 l4 r4 p4 => ?_⟩
        refine of_cmpI W σ w4 y z' db dc _ o4 (r2.mono (l3.trans l4)) r4 (p4.bind fun w5 dk' z2 o5 l5 r5 p5 => ?_)
        split at p5
        · rename_i k'
          refine ⟨k', r5, ?_⟩
          cases k' with
          | true => exact ⟨w5, env, rfl, o5, (er.mono l1).mono (l2.trans (l3.trans (l4.trans l5))), p5.bind fun w6 dd u o6 l6 r6 p6 => of_cmpI W σ w6 z' u dc dd Q o6 (r4.mono (l5.trans l6)) r6 p6⟩
          | false => exact p5.ok o5 rfl
        · exact p5.elim
      | false => exact p3.ok o3 rfl
    · exact p3.elim⟩⟩
theorem q_chain3 {d : Expr} {op op' op'' : CmpOp} {p p' p'' : Int → Int → Bool} (ho : OpR X (compareOp op) (rI0 fun i j => .bl (p i j))) (ho' : OpR X (compareOp op') (rI0 fun i j => .bl (p' i j))) (ho'' : OpR X (compareOp op'') (rI0 fun i j => .bl (p'' i j)))
    (ha : PE X a (EI G W ma)) (hb : PE X b (EI G W mb)) (hc : PE X c (EI G W mc)) (hd : PE X d (EI G W md))
    (hm : lastMarks [op, op', op''] [b, c, d] = false := by with_unfolding_all rfl) : PE X (.Compare a [op, op', op''] [b, c, d] pos) (EI G W (eChain3 (fCmpI p) (fCmpI p') (fCmpI p'') ma mb mc md)) := (pe_chain3 ho ho' ho'' ha hb hc hd hm).imp chain3_of
theorem qt_chain3 {d : Expr} {op op' op'' : CmpOp} {p p' p'' : Int → Int → Bool} (ho : OpR X (compareOp op) (rI0 fun i j => .bl (p i j))) (ho' : OpR X (compareOp op') (rI0 fun i j => .bl (p' i j))) (ho'' : OpR X (compareOp op'') (rI0 fun i j => .bl (p'' i j)))
    (ha : PE X a (EI G W ma)) (hb : PE X b (EI G W mb)) (hc : PE X c (EI G W mc)) (hd : PE X d (EI G W md))
    (hm : lastMarks [op, op', op''] [b, c, d] = false := by with_unfolding_all rfl) : PT X (.Compare a [op, op', op''] [b, c, d] pos) (TsI G W (tOf (eChain3 (fCmpI p) (fCmpI p') (fCmpI p'') ma mb mc md))) := (pt_chain3 ho ho' ho'' ha hb hc hd hm).imp fun σ H Q h => by
  obtain ⟨w, env, e, o, er, p⟩ := test_of σ H Q h
  exact chain3_of σ H _ ⟨w, env, e, o, er, p⟩
end

/-! ### subscripts, slices -/
def fIx : D → D → Sto → Res D := fun x y st => match x, y with
  | .tup ds, .int i => match atI ds i with
    | some d => .ok d st
    | none => .bad
  | .str s, .int i => if s.length ≤ sizeLine then match atI s i with
    | some c => .ok (.str [c]) st
    | none => .bad else .bad
  | x, .int i => match asL x st with
    | some ds => match atI ds i with
      | some d => .ok d st
      | none => .bad
    | none => .bad
  | _, _ => .bad
theorem ixN_lt {n : Nat} {i : Int} {j : Nat} (h : ixN n i = some j) : j < n ∨ n = 0 := by
  unfold ixN at h
  split at h
  · split at h
    · cases h; left; omega
    · cases h
  · split at h
    · cases h; omega
    · cases h
theorem atI_rls {G : CT} {w : Wd} {ds : List D} {xs : List V} {i : Int} {d : D} (r : Rls G w ds xs) (h : atI ds i = some d) : ∃ x, atI xs i = some x ∧ Rl G w d x := by
  unfold atI at *
  rw [r.length]
  cases e : ixN ds.length i with
  | none => rw [e] at h; cases h
  | some j =>
    rw [e] at h
    exact r.get (show ds[j]? = some d from h)
def cutD {α : Type} (xs : List α) (lo hi : Option Int) : List α := (xs.drop (HT.sIx xs.length 0 lo)).take (HT.sIx xs.length xs.length hi - HT.sIx xs.length 0 lo)
theorem cut_rls {G : CT} {w : Wd} {ds : List D} {xs : List V} (r : Rls G w ds xs) (lo hi : Option Int) : Rls G w (cutD ds lo hi) (cutV xs lo hi) := by
  unfold cutD cutV
  rw [r.length]
  exact (r.drop _).take _
def fSl (m : Bool) (x : D) (lo hi : Option Int) (st : Sto) : Res D := match x with
  | .str s => if s.length ≤ sizeLine then .ok (.str (cutD s lo hi)) st else .bad
  | .tup ds => .ok (.tup (cutD ds lo hi)) st
  | x => match asL x st with
    | some ds => mkL m (cutD ds lo hi) st
    | none => .bad
abbrev Ov := Env → Sto → Res (Option Int)
abbrev OI (G : CT) (W : WX) (m : Ov) : TO := RI G W (fun _ a b => a = b) m
def oNone : Ov := fun _ st => .ok none st
def oSome (m : Ev) : Ov := fun env st => (m env st).bind fun d s => match d with
  | .int i => .ok (some i) s
  | _ => .bad
def eSl (b : Bool) (m : Ev) (lo hi : Ov) : Ev := fun env st => (m env st).bind fun x s => (lo env s).bind fun l s1 => (hi env s1).bind fun u s2 => fSl b x l u s2
section
variable {X : Cx} {G : CT} {W : WX} {pos p2 : Pos} {a b c : Expr} {ma mb mc : Ev} {lo hi : Option Expr} {ol oh : Ov}
theorem of_ix : OpF G fIx (rIx G.K) := fun W σ w x y dx dy Q o rx ry p => by
  unfold fIx at p
  split at p
  · split at p
    · rename_i ds i _ d h
      obtain ⟨a, xs, rfl, s, q⟩ := rx
      obtain ⟨v, e, r⟩ := atI_rls q h
      exact .inr (.inl ⟨a, xs, i, v, rfl, ry, s.sq, e, p.ok o r⟩)
    · exact p.elim
  · split at p
    · split at p
      · rename_i s i hl _ c h
        exact .inr (.inr ⟨_, i, c, rx, ry, by rw [str_len]; exact hl, h, p.ok o rfl⟩)
      · exact p.elim
    · exact p.elim
  · split at p
    · split at p
      · rename_i ds hl _ d h
        obtain ⟨a, xs, rfl, s, q⟩ := asL_sq o hl rx
        obtain ⟨v, e, r⟩ := atI_rls q h
        exact .inl ⟨a, xs, _, v, rfl, ry, s, e, p.ok o r⟩
      · exact p.elim
    · exact p.elim
  · exact p.elim
theorem q_ix (L : Lay X G W) (ha : PE X a (EI G W ma)) (hb : PE X b (EI G W mb)) (hs : PlainIx b := by exact fun _ _ => rfl) : PE X (.Subscript a b pos) (EI G W (eBin fIx ma mb)) := (pe_ix (ix_seq (X := X)) ha hb hs).imp (by rw [L.K]; exact bin_of of_ix)
theorem o_none : PO X none (OI G W oNone) := ⟨fun pins s σ H Q I ⟨w, env, e, o, er, p⟩ => po_none.run pins s σ H Q I (by subst e; exact p.ok o rfl)⟩
theorem o_some (h : PE X a (EI G W ma)) : PO X (some a) (OI G W (oSome ma)) := ⟨fun pins s σ H Q I ⟨w, env, e, o, er, p⟩ => (po_some h).run pins s σ H Q I ⟨w, env, e, o, er, p.bind fun w1 d x o1 l1 r1 p1 => by
  split at p1
  · exact ⟨_, r1, p1.ok o1 rfl⟩
  · exact p1.elim⟩⟩
theorem sl_any : SlR X (fun x lo hi H Q => rSlS x lo hi H Q ∨ rSlA X.K x lo hi H Q ∨ rSlL X.K x lo hi H Q) := sl_str.or (sl_tupA.or sl_list)
theorem cut_all {α : Type} {xs : List α} {lo hi : Option Int} (h : HT.sIx xs.length 0 lo = 0 ∧ HT.sIx xs.length xs.length hi = xs.length) : cutD xs lo hi = xs := by
  unfold cutD
  rw [h.1, h.2]
  simp
theorem q_sl (m : Bool) (L : Lay X G W) (ha : PE X a (EI G W ma)) (hl : PO X lo (OI G W ol)) (hh : PO X hi (OI G W oh)) : PE X (.Subscript a (.Slice lo hi none p2) pos) (EI G W (eSl m ma ol oh)) := (pe_slice sl_any ha hl hh).imp fun σ H Q ⟨w, env, e, o, er, p⟩ =>
  ⟨w, env, e, o, er, p.bind fun w1 dx x o1 l1 r1 p1 => ⟨w1, env, rfl, o1, er.mono l1, p1.bind fun w2 l l' o2 l2 r2 p2 => ⟨w2, env, rfl, o2, (er.mono l1).mono l2, p2.bind fun w3 u u' o3 l3 r3 p3 => by
    have e1 : l = l' := r2
    have e2 : u = u' := r3
    subst e1
    subst e2
    have rx := r1.mono (l2.trans l3)
    unfold fSl at p3
    split at p3
    · split at p3
      · rename_i s h
        refine .inl ⟨_, rx, by rw [str_len]; exact h, ?_⟩
        have e : cutS ⟨s.toArray⟩ l u = ⟨(cutD s l u).toArray⟩ := by
          unfold cutS cutD
          rw [str_len]
        rw [e]
        exact p3.ok o3 rfl
      · exact p3.elim
    · rename_i ds
      obtain ⟨a, xs, rfl, s, q⟩ := rx
      refine .inr (.inl ⟨a, xs, rfl, by rw [L.K]; exact s.sq, fun h => ?_, fun h p' n => ?_⟩)
      · rw [q.length] at h
        rw [cut_all h] at p3
        exact p3.ok o3 ⟨a, xs, rfl, s, q⟩
      · exact p3.new_tup o3 (cut_rls q _ _) n
    · split at p3
      · rename_i ds h
        obtain ⟨a, xs, rfl, s, q⟩ := asL_sq o3 h rx
        exact .inr (.inr ⟨a, xs, rfl, by rw [L.K]; exact s, fun p' n => p3.mk o3 (cut_rls q _ _) n⟩)
      · exact p3.elim⟩⟩⟩
end

/-! ### arguments, displays -/
def aNil : Av := fun _ st => .ok [] st
def aCons (m : Ev) (r : Av) : Av := fun env st => (m env st).bind fun d s => (r env s).bind fun ds s1 => .ok (d :: ds) s1
def eTup (m : Av) : Ev := fun env st => (m env st).bind fun ds s => if ds.length ≤ sizeLine then .ok (.tup ds) s else .bad
def eLst (b : Bool) (m : Av) : Ev := fun env st => (m env st).bind fun ds s => if ds.length ≤ sizeLine then mkL b ds s else .bad
section
variable {X : Cx} {G : CT} {W : WX} {pos : Pos} {a : Expr} {es : List Expr} {ma : Ev} {mr : Av}
theorem a_nil : PA X [] (AI G W aNil) := pa_nil.imp fun σ H Q ⟨w, env, e, o, er, p⟩ => by
  subst e
  exact p.ok o Rls.nil
theorem a_cons (ha : PE X a (EI G W ma)) (hr : PA X es (AI G W mr)) (hs : starEach (a :: es) X.env = (false, eval a X.env) :: starEach es X.env := by rfl) : PA X (a :: es) (AI G W (aCons ma mr)) := (pa_cons ha hr hs).imp fun σ H Q ⟨w, env, e, o, er, p⟩ =>
  ⟨w, env, e, o, er, p.bind fun w1 d x o1 l1 r1 p1 => ⟨w1, env, rfl, o1, er.mono l1, p1.bind fun w2 ds xs o2 l2 r2 p2 => p2.ok o2 (.cons (r1.mono l2) r2)⟩⟩
theorem q_tup {k} (h : PA X es (AI G W mr)) : PE X (.Tuple es k pos) (EI G W (eTup mr)) := (pe_tup h).imp fun σ H Q ⟨w, env, e, o, er, p⟩ =>
  ⟨w, env, e, o, er, p.bind fun w1 ds xs o1 l1 r1 p1 => by
    split at p1
    · rename_i h
      exact ⟨by rw [r1.length]; exact h, fun p' n => p1.new_tup o1 r1 n⟩
    · exact p1.elim⟩
theorem q_lst (b : Bool) (h : PA X es (AI G W mr)) : PE X (.List es pos) (EI G W (eLst b mr)) := (pe_lst h).imp fun σ H Q ⟨w, env, e, o, er, p⟩ =>
  ⟨w, env, e, o, er, p.bind fun w1 ds xs o1 l1 r1 p1 => by
    split at p1
    · rename_i h
      exact ⟨by rw [r1.length]; exact h, fun p' n => p1.mk o1 r1 n⟩
    · exact p1.elim⟩
end
end F
/-! Calls: built-ins by values, own defs, methods, instances made. -/
namespace F
open PySem PySem.Spec PyProof.Rows L2

abbrev Fn := List D → Sto → Res D
def CallF (G : CT) (f : Fn) (r : List V → Hp → VK → Prop) : Prop := ∀ (W : WX) (σ : L2.St) (w : Wd) (xs : List V) (ds : List D) (Q : VK), Ok G w → Rls G w ds xs → Post G W (Rl G) σ w (f ds w.st) Q → r xs w.H Q
def eCall (f : Fn) (a : Av) : Ev := fun env st => (a env st).bind fun ds s => f ds s
section
variable {X : Cx} {G : CT} {W : WX} {pos p : Pos} {e : Expr} {es : List Expr} {ma : Av} {f : Fn} {r : List V → Hp → VK → Prop} {x : Str}
theorem call_of (hf : CallF G f r) : ∀ σ H Q, EI G W (eCall f ma) σ H Q → tCB r (AI G W ma) σ H Q := fun σ H Q ⟨w, env, e, o, er, p⟩ =>
  ⟨w, env, e, o, er, p.bind fun w1 ds xs o1 l1 r1 p1 => hf W σ w1 xs ds Q o1 r1 p1⟩
theorem q_callB {id : String} (hc : CallR X (.builtin id) r) (hf : CallF G f r) (hg : Gl X x) (hm : X.mg x = none) (hv : bootBuiltins x = some (.builtin id)) (ha : PA X (e :: es) (AI G W ma)) (hn : x ≠ "__name__" := by decide) (hdb : (x == ("__debug__" : Str)) = false := by decide)
    (he : starEach (e :: es) X.env = (false, eval e X.env) :: starEach es X.env := by rfl) (hpl : (backTo pos (starEach es X.env)).any (·.1) = false := by rfl) : PE X (.Call (.Name x p) (e :: es) [] pos) (EI G W (eCall f ma)) :=
  (pe_callB hc hg hm hv ha hn hdb he hpl).imp (call_of hf)
theorem q_callTy {T : String} (hc : CallR X (.type T) r) (hf : CallF G f r) (hg : Gl X x) (hm : X.mg x = none) (hv : bootBuiltins x = some (.type T)) (ha : PA X (e :: es) (AI G W ma)) (hn : x ≠ "__name__" := by decide) (hdb : (x == ("__debug__" : Str)) = false := by decide)
    (he : starEach (e :: es) X.env = (false, eval e X.env) :: starEach es X.env := by rfl) (hpl : (backTo pos (starEach es X.env)).any (·.1) = false := by rfl) : PE X (.Call (.Name x p) (e :: es) [] pos) (EI G W (eCall f ma)) :=
  (pe_callTy hc hg hm hv ha hn hdb he hpl).imp (call_of hf)
theorem CallR.or {u : Value} {r r' : List V → Hp → VK → Prop} (h : CallR X u r) (h' : CallR X u r') : CallR X u (fun vs H Q => r vs H Q ∨ r' vs H Q) := fun pins s σ H vs us Q I rr q => q.elim (h pins s σ H vs us Q I rr) (h' pins s σ H vs us Q I rr)
end

section
variable {G : CT} {w : Wd}
theorem Rls.one' {d : D} {xs : List V} (h : Rls G w [d] xs) : ∃ x, xs = [x] ∧ Rl G w d x := by
  obtain ⟨x, r, rfl, h1, h2⟩ := h
  have e : r = [] := h2
  subst e
  exact ⟨x, rfl, h1⟩
theorem Rls.two' {d e : D} {xs : List V} (h : Rls G w [d, e] xs) : ∃ x y, xs = [x, y] ∧ Rl G w d x ∧ Rl G w e y := by
  obtain ⟨x, r, rfl, h1, h2⟩ := h
  obtain ⟨y, rfl, h3⟩ := h2.one'
  exact ⟨x, y, rfl, h1, h3⟩
end

/-! ### built-ins -/
def lenD (d : D) (st : Sto) : Option Nat := match d with
  | .str s => if s.length ≤ sizeLine then some s.length else none
  | .tup ds => some ds.length
  | d => (asL d st).map List.length
def fLen : Fn := fun ds st => match ds with
  | [d] => match lenD d st with
    | some n => .ok (.int (n : Int)) st
    | none => .bad
  | _ => .bad
def fAbs : Fn := fun ds st => match ds with
  | [.int i] => .ok (.int (if i < 0 then -i else i)) st
  | _ => .bad
def asInts : List D → Option (List Int)
  | [] => some []
  | .int i :: r => (asInts r).map (i :: ·)
  | _ => none
def asBools : List D → Option (List Bool)
  | [] => some []
  | .bl i :: r => (asBools r).map (i :: ·)
  | _ => none
def maxL : List Int → Int
  | [] => 0
  | [a] => a
  | a :: r => if maxL r > a then maxL r else a
def minL : List Int → Int
  | [] => 0
  | [a] => a
  | a :: r => if minL r < a then minL r else a
def fMax : Fn := fun ds st => match ds with
  | [.int i, .int j] => .ok (.int (if j > i then j else i)) st
  | [d] => match (asL d st).bind asInts with
    | some ns => if ns ≠ [] then .ok (.int (maxL ns)) st else .bad
    | none => .bad
  | _ => .bad
def fMin : Fn := fun ds st => match ds with
  | [.int i, .int j] => .ok (.int (if j < i then j else i)) st
  | [d] => match (asL d st).bind asInts with
    | some ns => if ns ≠ [] then .ok (.int (minL ns)) st else .bad
    | none => .bad
  | _ => .bad
def fSum : Fn := fun ds st => match ds with
  | [d] => match (asL d st).bind asInts with
    | some ns => .ok (.int ns.sum) st
    | none => .bad
  | _ => .bad
def fAny : Fn := fun ds st => match ds with
  | [d] => match (asL d st).bind asBools with
    | some ns => .ok (.bl (ns.any id)) st
    | none => .bad
  | _ => .bad
def fAll : Fn := fun ds st => match ds with
  | [d] => match (asL d st).bind asBools with
    | some ns => .ok (.bl (ns.all id)) st
    | none => .bad
  | _ => .bad
def fInt : Fn := fun ds st => match ds with
  | [.int i] => .ok (.int i) st
  | [.bl k] => .ok (.int (if k then 1 else 0)) st
  | _ => .bad
def fList (m : Bool) : Fn := fun ds st => match ds with
  | [.tup es] => mkL m es st
  | [.str s] => mkL m (s.map fun c => .str [c]) st
  | [d] => match asL d st with
    | some es => mkL m es st
    | none => .bad
  | _ => .bad
def fTuple : Fn := fun ds st => match ds with
  | [.tup es] => .ok (.tup es) st
  | [d] => match asL d st with
    | some es => .ok (.tup es) st
    | none => .bad
  | _ => .bad
noncomputable def fDivmod : Fn := fun ds st => match ds with
  | [.int i, .int j] => @ite _ (0 < j ∧ j < 1073741824) (Classical.propDecidable _) (.ok (.tup [.int (i / j), .int (i % j)]) st) .bad
  | _ => .bad
/-- str of an int or a text -/
def strI (i : Int) : List Nat := (toString i : String).toList.map Char.toNat

theorem maxL_ge : ∀ {ns : List Int} {x : Int}, x ∈ ns → x ≤ maxL ns
  | [a], x, h => by
    have e : x = a := by simpa using h
    rw [e]; exact Int.le_refl _
  | a :: b :: r, x, h => by
    have ih := fun y (hy : y ∈ b :: r) => maxL_ge (ns := b :: r) (x := y) hy
    show x ≤ if maxL (b :: r) > a then maxL (b :: r) else a
    rcases List.mem_cons.mp h with e | e
    · subst e; split <;> omega
    · have := ih x e; split <;> omega
theorem maxL_mem : ∀ {ns : List Int}, ns ≠ [] → maxL ns ∈ ns
  | [a], _ => by simp [maxL]
  | a :: b :: r, _ => by
    have ih := maxL_mem (ns := b :: r) (by simp)
    show (if maxL (b :: r) > a then maxL (b :: r) else a) ∈ a :: b :: r
    split
    · exact List.mem_cons_of_mem _ ih
    · exact List.mem_cons_self
theorem minL_le : ∀ {ns : List Int} {x : Int}, x ∈ ns → minL ns ≤ x
  | [a], x, h => by
    have e : x = a := by simpa using h
    rw [e]; exact Int.le_refl _
  | a :: b :: r, x, h => by
    have ih := fun y (hy : y ∈ b :: r) => minL_le (ns := b :: r) (x := y) hy
    show (if minL (b :: r) < a then minL (b :: r) else a) ≤ x
    rcases List.mem_cons.mp h with e | e
    · subst e; split <;> omega
    · have := ih x e; split <;> omega
theorem minL_mem : ∀ {ns : List Int}, ns ≠ [] → minL ns ∈ ns
  | [a], _ => by simp [minL]
  | a :: b :: r, _ => by
    have ih := minL_mem (ns := b :: r) (by simp)
    show (if minL (b :: r) < a then minL (b :: r) else a) ∈ a :: b :: r
    split
    · exact List.mem_cons_of_mem _ ih
    · exact List.mem_cons_self
section
variable {G : CT} {w : Wd}
theorem asInts_of : ∀ {ds : List D} {ns : List Int} {xs : List V}, asInts ds = some ns → Rls G w ds xs → xs = ns.map V.int
  | [], ns, xs, h, r => by
    cases h
    exact r
  | d :: ds, ns, xs, h, r => by
    obtain ⟨x, ys, rfl, h1, h2⟩ := r
    cases d with
    | int i =>
      cases e : asInts ds with
      | none =>
        have q : (asInts ds).map (i :: ·) = some ns := h
        rw [e] at q
        cases q
      | some ms =>
        have q : (asInts ds).map (i :: ·) = some ns := h
        rw [e] at q
        cases q
        rw [asInts_of e h2, show x = _ from h1]
        rfl
    | _ => cases h
theorem asBools_of : ∀ {ds : List D} {ns : List Bool} {xs : List V}, asBools ds = some ns → Rls G w ds xs → xs = ns.map V.bl
  | [], ns, xs, h, r => by
    cases h
    exact r
  | d :: ds, ns, xs, h, r => by
    obtain ⟨x, ys, rfl, h1, h2⟩ := r
    cases d with
    | bl i =>
      cases e : asBools ds with
      | none =>
        have q : (asBools ds).map (i :: ·) = some ns := h
        rw [e] at q
        cases q
      | some ms =>
        have q : (asBools ds).map (i :: ·) = some ns := h
        rw [e] at q
        cases q
        rw [asBools_of e h2, show x = _ from h1]
        rfl
    | _ => cases h
theorem asLI_of (o : Ok G w) {d : D} {ns : List Int} {x : V} (h : (asL d w.st).bind asInts = some ns) (r : Rl G w d x) : ∃ a, x = .ref a ∧ SqL G.K w.H a (ns.map V.int) := by
  cases e : asL d w.st with
  | none => rw [e] at h; cases h
  | some ds =>
    rw [e] at h
    obtain ⟨a, xs, rfl, s, q⟩ := asL_sq o e r
    rw [asInts_of h q] at s
    exact ⟨a, rfl, s⟩
theorem asLB_of (o : Ok G w) {d : D} {ns : List Bool} {x : V} (h : (asL d w.st).bind asBools = some ns) (r : Rl G w d x) : ∃ a, x = .ref a ∧ SqL G.K w.H a (ns.map V.bl) := by
  cases e : asL d w.st with
  | none => rw [e] at h; cases h
  | some ds =>
    rw [e] at h
    obtain ⟨a, xs, rfl, s, q⟩ := asL_sq o e r
    rw [asBools_of h q] at s
    exact ⟨a, rfl, s⟩
end
section
variable {G : CT}
theorem cf_len : CallF G fLen (fun xs H Q => ∃ x n, xs = [x] ∧ LenV G.K x H n ∧ Q (.int n) H) := fun W σ w xs ds Q o rs p => by
  unfold fLen at p
  split at p
  · split at p
    · rename_i d _ n h
      obtain ⟨x, rfl, r⟩ := rs.one'
      refine ⟨x, n, rfl, ?_, p.ok o rfl⟩
      unfold lenD at h
      split at h
      · split at h
        · cases h
          rw [show x = _ from r]
          exact ⟨by rw [str_len]; assumption, by rw [str_len]⟩
        · cases h
      · cases h
        obtain ⟨a, ys, rfl, s, q⟩ := r
        exact .inr ⟨ys, s.sq, q.length.symm⟩
      · cases e : asL d w.st with
        | none => rw [e] at h; cases h
        | some es =>
          rw [e] at h
          cases h
          obtain ⟨a, ys, rfl, s, q⟩ := asL_sq o e r
          exact .inl ⟨ys, s, q.length.symm⟩
    · exact p.elim
  · exact p.elim
theorem cf_abs : CallF G fAbs (fun xs H Q => ∃ i, xs = [.int i] ∧ Q (.int (if i < 0 then -i else i)) H) := fun W σ w xs ds Q o rs p => by
  unfold fAbs at p
  split at p
  · obtain ⟨x, rfl, r⟩ := rs.one'
    rw [show x = _ from r]
    exact ⟨_, rfl, p.ok o rfl⟩
  · exact p.elim
def rMaxA (K : PySem.W.Frag) : List V → Hp → VK → Prop := fun xs H Q => (∃ i j, xs = [.int i, .int j] ∧ Q (.int (if j > i then j else i)) H) ∨ rMax K xs H Q
def rMinA (K : PySem.W.Frag) : List V → Hp → VK → Prop := fun xs H Q => (∃ i j, xs = [.int i, .int j] ∧ Q (.int (if j < i then j else i)) H) ∨ rMin K xs H Q
theorem cf_max : CallF G fMax (rMaxA G.K) := fun W σ w xs ds Q o rs p => by
  unfold fMax at p
  split at p
  · obtain ⟨x, y, rfl, r1, r2⟩ := rs.two'
    rw [show x = _ from r1, show y = _ from r2]
    exact .inl ⟨_, _, rfl, p.ok o rfl⟩
  · split at p
    · split at p
      · rename_i ns h hn
        obtain ⟨x, rfl, r⟩ := rs.one'
        obtain ⟨a, rfl, s⟩ := asLI_of o h r
        refine .inr ⟨a, ns, rfl, s, List.length_pos_iff.mpr hn, fun m hm hle => ?_⟩
        have e : m = maxL ns := Int.le_antisymm (maxL_ge hm) (hle _ (maxL_mem hn))
        rw [e]
        exact p.ok o rfl
      · exact p.elim
    · exact p.elim
  · exact p.elim
theorem cf_min : CallF G fMin (rMinA G.K) := fun W σ w xs ds Q o rs p => by
  unfold fMin at p
  split at p
  · obtain ⟨x, y, rfl, r1, r2⟩ := rs.two'
    rw [show x = _ from r1, show y = _ from r2]
    exact .inl ⟨_, _, rfl, p.ok o rfl⟩
  · split at p
    · split at p
      · rename_i ns h hn
        obtain ⟨x, rfl, r⟩ := rs.one'
        obtain ⟨a, rfl, s⟩ := asLI_of o h r
        refine .inr ⟨a, ns, rfl, s, List.length_pos_iff.mpr hn, fun m hm hle => ?_⟩
        have e : m = minL ns := Int.le_antisymm (hle _ (minL_mem hn)) (minL_le hm)
        rw [e]
        exact p.ok o rfl
      · exact p.elim
    · exact p.elim
  · exact p.elim
theorem cf_sum : CallF G fSum (rSum G.K) := fun W σ w xs ds Q o rs p => by
  unfold fSum at p
  split at p
  · split at p
    · rename_i ns h
      obtain ⟨x, rfl, r⟩ := rs.one'
      obtain ⟨a, rfl, s⟩ := asLI_of o h r
      exact ⟨a, ns, rfl, s, p.ok o rfl⟩
    · exact p.elim
  · exact p.elim
theorem cf_any : CallF G fAny (rAny G.K) := fun W σ w xs ds Q o rs p => by
  unfold fAny at p
  split at p
  · split at p
    · rename_i ns h
      obtain ⟨x, rfl, r⟩ := rs.one'
      obtain ⟨a, rfl, s⟩ := asLB_of o h r
      exact ⟨a, ns, rfl, s, p.ok o rfl⟩
    · exact p.elim
  · exact p.elim
theorem cf_all : CallF G fAll (rAll G.K) := fun W σ w xs ds Q o rs p => by
  unfold fAll at p
  split at p
  · split at p
    · rename_i ns h
      obtain ⟨x, rfl, r⟩ := rs.one'
      obtain ⟨a, rfl, s⟩ := asLB_of o h r
      exact ⟨a, ns, rfl, s, p.ok o rfl⟩
    · exact p.elim
  · exact p.elim
theorem cf_int : CallF G fInt (fun xs H Q => (∃ i, xs = [.int i] ∧ Q (.int i) H) ∨ ∃ k, xs = [.bl k] ∧ Q (.int (if k then 1 else 0)) H) := fun W σ w xs ds Q o rs p => by
  unfold fInt at p
  split at p
  · obtain ⟨x, rfl, r⟩ := rs.one'
    rw [show x = _ from r]
    exact .inl ⟨_, rfl, p.ok o rfl⟩
  · obtain ⟨x, rfl, r⟩ := rs.one'
    rw [show x = _ from r]
    exact .inr ⟨_, rfl, p.ok o rfl⟩
  · exact p.elim
theorem cf_tuple : CallF G fTuple (fun xs H Q => ∃ p ys, xs = [.ref p] ∧ ((SqL G.K H p ys ∧ ∀ l, H l = none → Q (.ref l) (upd H l (.tup ys))) ∨ (SqT G.K H p ys ∧ Q (.ref p) H))) := fun W σ w xs ds Q o rs p => by
  unfold fTuple at p
  split at p
  · obtain ⟨x, rfl, r⟩ := rs.one'
    obtain ⟨a, ys, rfl, s, q⟩ := id r
    exact ⟨a, ys, rfl, .inr ⟨s.sq, p.ok o r⟩⟩
  · split at p
    · rename_i es h
      obtain ⟨x, rfl, r⟩ := rs.one'
      obtain ⟨a, ys, rfl, s, q⟩ := asL_sq o h r
      exact ⟨a, ys, rfl, .inl ⟨s, fun l n => p.new_tup o q n⟩⟩
    · exact p.elim
  · exact p.elim
theorem cf_divmod : CallF G fDivmod (fun xs H Q => ∃ i j, xs = [.int i, .int j] ∧ CDiv i j ∧ ∀ p, H p = none → Q (.ref p) (upd H p (.tup [.int (i / j), .int (i % j)]))) := fun W σ w xs ds Q o rs p => by
  unfold fDivmod at p
  split at p
  · split at p
    · rename_i h
      obtain ⟨x, y, rfl, r1, r2⟩ := rs.two'
      rw [show x = _ from r1, show y = _ from r2]
      exact ⟨_, _, rfl, h, fun l n => p.new_tup o (.cons rfl (.cons rfl .nil)) n⟩
    · exact p.elim
  · exact p.elim
end
end F
/-! Own defs, methods, attributes, instances made. -/
namespace F
open PySem PySem.Spec PyProof.Rows L2

/-- the promise of a def: it does what m does -/
def spI (G : CT) (m : Fn) : Sp := fun vs H Q E => ∃ (w : Wd) (ds : List D), w.H = H ∧ Ok G w ∧ Rls G w ds vs ∧ Post G (fun c d _ H' => E c d H') (Rl G) [] w (m ds w.st) Q
theorem spI_len {G : CT} {m : Fn} {ps : List Str} (h : ∀ ds st, m ds st ≠ .bad → ds.length = ps.length) : ∀ vs H Q E, spI G m vs H Q E → vs.length = ps.length := fun vs H Q E ⟨w, ds, _, _, r, p⟩ => by
  rw [r.length]
  exact h ds w.st fun z => by
    rw [z] at p
    exact p

/-- f(..): dd the defaults -/
def eFn (m : Fn) (dd : List D) (a : Av) : Ev := fun env st => (a env st).bind fun ds s => m (ds ++ dd) s
/-- the class of an instance -/
def clsOf (d : D) (st : Sto) : Option Nat := match d with
  | .obj c _ => some c
  | .ref i => match st[i]? with
    | some (.ins c _) => some c
    | _ => none
  | _ => none
/-- o.m(..), the method by the class -/
def eMeth (tb : Nat → Option Fn) (dd : List D) (o : Ev) (a : Av) : Ev := fun env st => (o env st).bind fun x s => match clsOf x s with
  | some c => match tb c with
    | some m => (a env s).bind fun ds s1 => m (x :: (ds ++ dd)) s1
    | none => .bad
  | none => .bad
def fldsOf (d : D) (st : Sto) : Option (Nat × List D) := match d with
  | .obj c ds => some (c, ds)
  | .ref i => match st[i]? with
    | some (.ins c ds) => some (c, ds)
    | _ => none
  | _ => none
/-- o.f: the place of f by the class -/
def eFld (ix : Nat → Option Nat) (o : Ev) : Ev := fun env st => (o env st).bind fun x s => match fldsOf x s with
  | some (c, ds) => match ix c with
    | some k => match ds[k]? with
      | some d => .ok d s
      | none => .bad
    | none => .bad
  | none => .bad
/-- the instance at the cell i is let go -/
def letGo (c n i : Nat) (s : Sto) : Res D := match s[i]? with
  | some (.ins c' es) => if c' = c ∧ es.length = n then .ok (.obj c es) (s.set i .dead) else .bad
  | _ => .bad
/-- C(..): n its attributes; let go behind __init__ (fr) -/
def eNew (c n : Nat) (fr : Bool) (m : Fn) (dd : List D) (a : Av) : Ev := fun env st => (a env st).bind fun ds s =>
  (m (.ref s.length :: (ds ++ dd)) (s ++ [.ins c []])).bind fun r s1 => match r with
    | .non => if fr = true then letGo c n s.length s1 else .ok (.ref s.length) s1
    | _ => .bad
/-- C() without __init__ -/
def eNew0 (c : Nat) : Ev := fun _ st => .ok (.obj c []) st

section
variable {G : CT} {w : Wd}
theorem clsOf_at (o : Ok G w) {d : D} {x : V} {c : Nat} (h : clsOf d w.st = some c) (r : Rl G w d x) : ∃ a dx fs, x = .ref a ∧ w.H a = some (.ins (G.cls c) dx fs) ∧ ∃ n, fs.map (·.1) = (G.fld c).take n := by
  cases d with
  | obj c' ds =>
    cases h
    obtain ⟨a, dx, fs, e1, e2, _, e3, _⟩ := r
    exact ⟨a, dx, fs, e1, e2, (G.fld c).length, by rw [List.take_length]; exact e3⟩
  | ref i =>
    obtain ⟨a, e, q⟩ := r
    unfold clsOf at h
    dsimp only at h
    split at h
    · rename_i c' ds hs
      cases h
      obtain ⟨dx, fs, e1, e2, _⟩ := o.cell i _ a hs e
      exact ⟨a, dx, fs, q, e1, _, e2⟩
    · cases h
  | _ => cases h
theorem fldsOf_at (o : Ok G w) {d : D} {x : V} {c : Nat} {ds : List D} (h : fldsOf d w.st = some (c, ds)) (r : Rl G w d x) : ∃ a dx fs, x = .ref a ∧ w.H a = some (.ins (G.cls c) dx fs) ∧ fs.map (·.1) = (G.fld c).take ds.length ∧ Rls G w ds (fs.map (·.2)) := by
  cases d with
  | obj c' es =>
    cases h
    obtain ⟨a, dx, fs, e1, e2, _, e3, e4⟩ := r
    refine ⟨a, dx, fs, e1, e2, ?_, e4⟩
    have l1 := e4.length
    have l2 := congrArg List.length e3
    rw [List.length_map] at l1 l2
    rw [← l1, l2, List.take_length]
    exact e3
  | ref i =>
    obtain ⟨a, e, q⟩ := r
    unfold fldsOf at h
    dsimp only at h
    split at h
    · rename_i c' es hs
      cases h
      obtain ⟨dx, fs, e1, e2, e3⟩ := o.cell i _ a hs e
      exact ⟨a, dx, fs, q, e1, e2, e3⟩
    · cases h
  | _ => cases h
theorem lookup_no {n : Str} : ∀ {fs : List (Str × V)}, n ∉ fs.map (·.1) → fs.lookup n = none
  | [], _ => rfl
  | (f, v) :: fs, h => by
    rw [List.map_cons, List.mem_cons, not_or] at h
    have e : (n == f) = false := beq_eq_false_iff_ne.mpr h.1
    rw [List.lookup_cons, e]
    exact lookup_no h.2
theorem lookup_at {n : Str} {v : V} : ∀ {fs : List (Str × V)} {k : Nat}, (fs.map (·.1)).Nodup → (fs.map (·.1))[k]? = some n → (fs.map (·.2))[k]? = some v → fs.lookup n = some v
  | [], k, _, h, _ => by simp at h
  | (f, u) :: fs, 0, _, h, q => by
    have e : f = n := by simpa using h
    have e2 : u = v := by simpa using q
    subst e
    subst e2
    simp [List.lookup_cons]
  | (f, u) :: fs, k + 1, nd, h, q => by
    rw [List.map_cons, List.nodup_cons] at nd
    have h' : (fs.map (·.1))[k]? = some n := by simpa using h
    have q' : (fs.map (·.2))[k]? = some v := by simpa using q
    have ne : ¬ n = f := fun e => nd.1 (e ▸ List.mem_of_getElem? h')
    have e : (n == f) = false := beq_eq_false_iff_ne.mpr ne
    rw [List.lookup_cons, e]
    exact lookup_at nd.2 h' q'
end

/-- what a class of the text must have for its attribute f, at place k -/
structure FldF (G : CT) (c : Nat) (f : Str) (k : Nat) : Prop where
  cl : Cls G.K (G.cls c)
  no : NoAttr G.K (G.cls c) f
  at_ : (G.fld c)[k]? = some f
  nd : (G.fld c).Nodup
/-- .. for its method m -/
structure MetF (P : Program) (w : World) (G : CT) (mg : Str → Option Value) (base : Heap) (k : Nat) (name : Str) (dd : List D) (c : Nat) (m : Fn) : Prop where
  cl : Cls G.K (G.cls c)
  no : name ∉ G.fld c
  ex : ∃ (f : Addr) (fd : FuncData) (ps : List Str) (dvs : List V) (ds : List Value), Meth G.K (G.cls c) name f ∧ FnOk P w G.K mg base (L2.CX P w) k f fd ps (spI G m) ∧ Binds G.K fd ps ds ∧ Vals dvs ds ∧ ∀ w', Rls G w' dd dvs

section
variable {X : Cx} {G : CT} {W : WX} {pos p apos : Pos} {e ob : Expr} {es : List Expr} {ma : Av} {mo : Ev} {m : Fn} {x name : Str} {n k c : Nat} {f : Addr} {fd : FuncData} {ps : List Str} {dvs : List V} {vds : List Value} {dd : List D}
/-- the callee runs -/
theorem run_I {pins : List (Addr × Obj)} {σ : L2.St} {H : Hp} {s : Shared} {Q : VK} {us : List Value} {vs : List V} (L : Lay X G W) (Fo : FnOk X.prog X.w X.K X.mg X.base (L2.CX X.prog X.w) k f fd ps (spI G m)) (hr : Room k X.A) (hb : Binds X.K fd ps vds) (hd : Vals dvs vds)
    (I : Inv X pins σ H s) (r : Vals vs us) (h : spI G m (vs ++ dvs) H Q (WE W σ)) : wpAny (model X.prog X.w) X.A (call (.ref f) us) (EP X pins σ Q) X.xe s := run_fnSD (E := WE W) Fo hr hb hd (passAt L.tk σ) I r h
theorem spI_of {σ : L2.St} {w : Wd} {ds : List D} {vs : List V} {Q : VK} (h : Post G W (Rl G) σ w (m ds w.st) Q) (o : Ok G w) (r : Rls G w ds vs) : spI G m vs w.H Q (WE W σ) := by
  refine ⟨w, ds, rfl, o, r, ?_⟩
  cases e : m ds w.st with
  | ok a s => rw [e] at h; exact h
  | ex c es s => rw [e] at h; exact h
  | bad => rw [e] at h; exact h
theorem q_call (L : Lay X G W) (Fo : FnOk X.prog X.w X.K X.mg X.base (L2.CX X.prog X.w) k f fd ps (spI G m)) (hr : Room k X.A) (hg : Gl X x) (hm : X.mg x = some (.ref f)) (hk : PySem.W.keepIn X.K (.ref f) = true) (hb : Binds X.K fd ps vds) (hd : Vals dvs vds) (hdd : ∀ w, Rls G w dd dvs)
    (ha : PA X (e :: es) (AI G W ma)) (hdb : (x == ("__debug__" : Str)) = false := by decide)
    (he : starEach (e :: es) X.env = (false, eval e X.env) :: starEach es X.env := by rfl) (hpl : (backTo pos (starEach es X.env)).any (·.1) = false := by rfl) : PE X (.Call (.Name x p) (e :: es) [] pos) (EI G W (eFn m dd ma)) :=
  (pe_callSD (E := WE W) Fo hr hg hm hk hb hd (fun σ => passAt L.tk σ) ha hdb he hpl).imp fun σ H Q ⟨w, env, e1, o, er, pp⟩ => by
    exact ⟨w, env, e1, o, er, pp.bind fun w1 ds vs o1 l1 r1 p1 => spI_of p1 o1 (r1.append (hdd w1))⟩
theorem q_call0 (L : Lay X G W) (Fo : FnOk X.prog X.w X.K X.mg X.base (L2.CX X.prog X.w) k f fd ps (spI G m)) (hr : Room k X.A) (hg : Gl X x) (hm : X.mg x = some (.ref f)) (hk : PySem.W.keepIn X.K (.ref f) = true) (hb : Binds X.K fd ps vds) (hd : Vals dvs vds) (hdd : ∀ w, Rls G w dd dvs)
    (hdb : (x == ("__debug__" : Str)) = false := by decide) : PE X (.Call (.Name x p) [] [] pos) (EI G W (eFn m dd aNil)) := by
  refine ⟨fun pins s σ H Q I ⟨w, env, e1, o, er, pp⟩ => ?_⟩
  refine wpAny_Call_Name_kw (ld_glob I hg hm ?_ hdb)
  subst e1
  exact PySem.W.callWith_K0 I.kIn hk (run_I L Fo hr hb hd I (us := []) (vs := []) .nil (spI_of pp o (hdd w)))
/-- o.m(e, ..) -/
theorem q_meth {tb : Nat → Option Fn} (L : Lay X G W) (ho : PE X ob (EI G W mo)) (ht : ∀ c m, tb c = some m → MetF X.prog X.w G X.mg X.base k name dd c m) (hr : Room k X.A)
    (ha : PA X (e :: es) (AI G W ma)) {pl : Sem Bool}
    (hst : starEach (e :: es) X.env = (false, eval e X.env) :: starEach es X.env := by rfl) (hpl : (backTo pos (starEach es X.env)).any (·.1) = false := by rfl)
    (hev : eval (.Call (.Attribute ob name apos) (e :: es) [] pos) X.env = (do
      let ov ← eval ob X.env; standAt apos.atName; let (f, first) ← holding [ov] (getMethod ov name pl); callWith pos f first (backTo pos (starEach (e :: es) X.env)) (backToKw pos (keywordEach [] X.env))) := by rfl) :
    PE X (.Call (.Attribute ob name apos) (e :: es) [] pos) (EI G W (eMeth tb dd mo ma)) := by
  have hK := L.K
  refine ⟨fun pins s σ H Q I ⟨w, env, e1, o, er, pp⟩ => ?_⟩
  have pp' : Post G W (Rl G) σ w ((mo env w.st).bind fun x s => match clsOf x s with
    | some c => match tb c with
      | some m => (ma env s).bind fun ds s1 => m (x :: (ds ++ dd)) s1
      | none => .bad
    | none => .bad) Q := pp
  refine PySem.W.methodCall_KW (pl := pl) (thn (ho.run pins s σ H (fun v H1 => ∃ w1 dx, w1.H = H1 ∧ Ok G w1 ∧ EnvR G w1 env σ ∧ Rl G w1 dx v ∧ Post G W (Rl G) σ w1 (match clsOf dx w1.st with
    | some c => match tb c with
      | some m => (ma env w1.st).bind fun ds s1 => m (dx :: (ds ++ dd)) s1
      | none => .bad
    | none => .bad) Q) I ⟨w, env, e1, o, er, pp'.bind fun w1 dx v o1 l1 r1 p1 => ⟨w1, dx, rfl, o1, er.mono l1, r1, p1⟩⟩) fun u s1 ⟨v, H1, I1, ru, w1, dx, e2, o1, er1, r1, p1⟩ => ?_) hev
  subst e2
  split at p1
  · rename_i c hc
    split at p1
    · rename_i m hm
      have M := ht c m hm
      obtain ⟨fa, fd', ps', dvs', vds', hmt, Fo, hb, hd, hdd⟩ := M.ex
      obtain ⟨a, dx', fs, rfl, ea, n0, hfs⟩ := clsOf_at o1 hc r1
      obtain rfl : u = Value.ref a := ru
      rw [← hK] at hmt Fo hb
      refine getmeth_ok I1 ea (by rw [hK]; exact M.cl) hmt (lookup_no (by rw [hfs]; exact fun h => M.no (List.mem_of_mem_take h))) ?_
      refine PySem.W.callWith_K (first := [.ref a]) (h₀ := X.base) I1.ok.mod.kin hmt.kp (thn (ha.run pos pins s1 σ w1.H (fun vs H2 => ∃ w2 ds, w2.H = H2 ∧ Ok G w2 ∧ Le w1 w2 ∧ Rls G w2 ds vs ∧ Post G W (Rl G) σ w2 (m (dx :: (ds ++ dd)) w2.st) Q) I1
        ⟨w1, env, rfl, o1, er1, p1.bind fun w2 ds vs o2 l2 r2 p2 => ⟨w2, ds, rfl, o2, l2, r2, p2⟩⟩) fun us s2 ⟨vs, H2, I2, rv, w2, ds, e3, o2, l2, r2, p2⟩ => ⟨I2.kIn, ?_⟩) hst hpl
      subst e3
      exact run_I L Fo hr hb hd I2 (us := .ref a :: us) (vs := .ref a :: vs) (.cons rfl rv) (spI_of p2 o2 (.cons (r1.mono l2) (r2.append (hdd w2))))
    · exact p1.elim
  · exact p1.elim
/-- o.m() -/
theorem q_meth0 {tb : Nat → Option Fn} (L : Lay X G W) (ho : PE X ob (EI G W mo)) (ht : ∀ c m, tb c = some m → MetF X.prog X.w G X.mg X.base k name dd c m) (hr : Room k X.A) {pl : Sem Bool}
    (hev : eval (.Call (.Attribute ob name apos) [] [] pos) X.env = (do
      let ov ← eval ob X.env; standAt apos.atName; let (f, first) ← holding [ov] (getMethod ov name pl); callWith pos f first (backTo pos (starEach [] X.env)) (backToKw pos (keywordEach [] X.env))) := by rfl) :
    PE X (.Call (.Attribute ob name apos) [] [] pos) (EI G W (eMeth tb dd mo aNil)) := by
  have hK := L.K
  refine ⟨fun pins s σ H Q I ⟨w, env, e1, o, er, pp⟩ => ?_⟩
  have pp' : Post G W (Rl G) σ w ((mo env w.st).bind fun x s => match clsOf x s with
    | some c => match tb c with
      | some m => m (x :: dd) s
      | none => .bad
    | none => .bad) Q := pp
  refine PySem.W.methodCall_KW (pl := pl) (thn (ho.run pins s σ H (fun v H1 => ∃ w1 dx, w1.H = H1 ∧ Ok G w1 ∧ EnvR G w1 env σ ∧ Rl G w1 dx v ∧ Post G W (Rl G) σ w1 (match clsOf dx w1.st with
    | some c => match tb c with
      | some m => m (dx :: dd) w1.st
      | none => .bad
    | none => .bad) Q) I ⟨w, env, e1, o, er, pp'.bind fun w1 dx v o1 l1 r1 p1 => ⟨w1, dx, rfl, o1, er.mono l1, r1, p1⟩⟩) fun u s1 ⟨v, H1, I1, ru, w1, dx, e2, o1, er1, r1, p1⟩ => ?_) hev
  subst e2
  split at p1
  · rename_i c hc
    split at p1
    · rename_i m hm
      have M := ht c m hm
      obtain ⟨fa, fd', ps', dvs', vds', hmt, Fo, hb, hd, hdd⟩ := M.ex
      obtain ⟨a, dx', fs, rfl, ea, n0, hfs⟩ := clsOf_at o1 hc r1
      obtain rfl : u = Value.ref a := ru
      rw [← hK] at hmt Fo hb
      refine getmeth_ok I1 ea (by rw [hK]; exact M.cl) hmt (lookup_no (by rw [hfs]; exact fun h => M.no (List.mem_of_mem_take h))) ?_
      exact PySem.W.callWith_K0 (first := [.ref a]) I1.kIn hmt.kp (run_I L Fo hr hb hd I1 (us := [.ref a]) (vs := [.ref a]) (.cons rfl .nil) (spI_of p1 o1 (.cons r1 (hdd w1))))
    · exact p1.elim
  · exact p1.elim
/-- o.f -/
theorem q_fld {ix : Nat → Option Nat} (L : Lay X G W) (ho : PE X ob (EI G W mo)) (hx : ∀ c k, ix c = some k → FldF G c name k) (hb : attributeBase ob name X.env (eval ob X.env) = eval ob X.env := by rfl) : PE X (.Attribute ob name pos) (EI G W (eFld ix mo)) := (pe_fld ho hb).imp fun σ H Q ⟨w, env, e1, o, er, pp⟩ =>
  ⟨w, env, e1, o, er, pp.bind fun w1 d v o1 l1 r1 p1 => by
    split at p1
    · rename_i c ds hc
      split at p1
      · rename_i k hk
        split at p1
        · rename_i y hy
          obtain ⟨a, dx, fs, rfl, ea, h1, h2⟩ := fldsOf_at o1 hc r1
          have Fx := hx c k hk
          obtain ⟨u, e2, r2⟩ := h2.get hy
          have hl : k < ds.length := (List.getElem?_eq_some_iff.mp hy).1
          refine ⟨a, G.cls c, dx, fs, u, rfl, ea, by rw [L.K]; exact Fx.cl, by rw [L.K]; exact Fx.no, lookup_at ?_ ?_ e2, p1.ok o1 r2⟩
          · rw [h1]
            exact Fx.nd.sublist (List.take_sublist _ _)
          · rw [h1, List.getElem?_take_of_lt hl]
            exact Fx.at_
        · exact p1.elim
      · exact p1.elim
    · exact p1.elim⟩
/-- C(e, ..) -/
theorem new_cell_ins {w : Wd} (o : Ok G w) {a dx : Addr} (n1 : w.H a = none) (n2 : w.H dx = none) (ne : dx ≠ a) : ∃ w', w'.H = upd (upd w.H dx (.own a)) a (.ins (G.cls c) dx []) ∧ w'.st = w.st ++ [.ins c []] ∧ Ok G w' ∧ Le w w' ∧ w'.ρ = w.ρ ++ [a] := by
  have k : ∀ b u, w.H b = some u → upd (upd w.H dx (.own a)) a (.ins (G.cls c) dx []) b = some u := fun b u e => by
    rw [upd_ne (ne_of_none e n1), upd_ne (ne_of_none e n2)]
    exact e
  exact ⟨⟨w.ρ ++ [a], w.st ++ [.ins c []], upd (upd w.H dx (.own a)) a (.ins (G.cls c) dx []), w.hid⟩, rfl, rfl, ok_new (c := .ins c []) o n1 k ⟨dx, [], upd_same, rfl, rfl⟩, le_new o n1 k, rfl⟩
theorem run_newI {pins : List (Addr × Obj)} {σ : L2.St} {s : Shared} {Q : VK} {us : List Value} {vs : List V} {w : Wd} {ds : List D} {fr : Bool} (L : Lay X G W) (M : Mk X.K (G.cls c) f) (Fo : FnOk X.prog X.w X.K X.mg X.base (L2.CX X.prog X.w) k f fd ps (spI G m)) (hr : Room (k + 1) X.A) (hb : Binds X.K fd ps vds) (hd : Vals dvs vds) (hdd : ∀ w, Rls G w dd dvs) (hn : n = (G.fld c).length)
    (I : Inv X pins σ w.H s) (r : Vals vs us) (o : Ok G w) (rs : Rls G w ds vs) (h : Post G W (Rl G) σ w ((m (.ref w.st.length :: (ds ++ dd)) (w.st ++ [.ins c []])).bind fun r s1 => match r with
      | .non => if fr = true then letGo c n w.st.length s1 else .ok (.ref w.st.length) s1
      | _ => .bad) Q) : wpAny (model X.prog X.w) X.A (call (.ref (G.cls c)) us) (EP X pins σ Q) X.xe s := by
  obtain ⟨w1, e1, e2, o1, l1, e3⟩ := new_cell_ins (c := c) o (a := s.heap.objs.size + 1) (dx := s.heap.objs.size) (I.hok.fresh (Nat.le_succ _)) (I.hok.fresh (Nat.le_refl _)) (Nat.ne_of_lt (Nat.lt_succ_self _))
  have I2 := Inv.made (C := G.cls c) I
  rw [← e1] at I2
  have hat : w1.ρ[w.st.length]? = some (s.heap.objs.size + 1) := by
    rw [e3, ← o.len, List.getElem?_append_right (Nat.le_refl _)]
    simp
  have ra : Rl G w1 (.ref w.st.length) (.ref (s.heap.objs.size + 1)) := ⟨_, hat, rfl⟩
  have rall : Rls G w1 (.ref w.st.length :: (ds ++ dd)) (.ref (s.heap.objs.size + 1) :: (vs ++ dvs)) := .cons ra ((rs.mono l1).append (hdd w1))
  have h1 : Post G W (Rl G) σ w1 (m (.ref w.st.length :: (ds ++ dd)) w1.st) (fun v H2 => v = .non ∧ Q (.ref (s.heap.objs.size + 1)) H2) := by
    rw [← e2] at h
    refine (Post.mono l1 h).bind fun w2 d v o2 l2 r2 p2 => ?_
    split at p2
    · refine ⟨r2, ?_⟩
      have hat2 : w2.ρ[w.st.length]? = some (s.heap.objs.size + 1) := l2.pre _ _ hat
      split at p2
      · unfold letGo at p2
        split at p2
        · split at p2
          · rename_i c' es hs hc
            obtain ⟨rfl, hl⟩ := hc
            obtain ⟨dx, fs, q1, q2, q3⟩ := o2.cell _ _ _ hs hat2
            have lf := le_free (w := w2) hs rfl
            refine p2 ⟨w2.ρ, w2.st.set w.st.length .dead, w2.H, w2.hid⟩ (.ref (s.heap.objs.size + 1)) rfl (ok_free o2 hs rfl) lf ⟨_, dx, fs, rfl, q1, free_nlive o2 hat2, ?_, q3.mono lf⟩
            rw [q2, hl, hn, List.take_length]
          · exact p2.elim
        · exact p2.elim
      · exact p2.ok o2 ⟨_, hat2, rfl⟩
    · exact p2.elim
  have sp : spI G m (.ref (s.heap.objs.size + 1) :: (vs ++ dvs)) w1.H (fun v H2 => v = .non ∧ Q (.ref (s.heap.objs.size + 1)) H2) (WE W σ) := spI_of h1 o1 rall
  have r2 : Vals (V.ref (s.heap.objs.size + 1) :: (vs ++ dvs)) (Value.ref (s.heap.objs.size + 1) :: (us ++ vds)) := .cons rfl (r.append hd)
  have hl : (Value.ref (s.heap.objs.size + 1) :: us ++ vds).length = ps.length := by
    have q1 := r2.length
    rw [Fo.len _ _ _ _ sp] at q1
    exact q1.symm
  refine wpAny_call (make_map (f := f) I.kIn M.makes M.init (beq_iff_eq.mp M.fn) (codeAny_mono (Fo.run _ X.stack _ _ ⟨Value.ref (s.heap.objs.size + 1) :: us, []⟩ (Value.ref (s.heap.objs.size + 1) :: (us ++ vds)) _ _ (WE W σ) (hr.make (G.cls c) us [])
    (I2.env0.make (G.cls c) us []) (hb _ (Value.ref (s.heap.objs.size + 1) :: us) I2.kIn hl) r2 sp) fun r s' hq => ?_))
  cases r with
  | error e => exact passAt L.tk σ pins _ _ e s' I2 hq
  | ok fl =>
    cases fl with
    | ret u =>
      obtain ⟨v, H', I3, rv, ev, q3⟩ := I2.after hq
      subst ev
      exact ⟨rv, ⟨V.ref (s.heap.objs.size + 1), H', I3, rfl, q3⟩⟩
    | next => exact hq.elim
    | brk => exact hq.elim
    | cont => exact hq.elim
theorem q_new {fr : Bool} (L : Lay X G W) (M : Mk X.K (G.cls c) f) (Fo : FnOk X.prog X.w X.K X.mg X.base (L2.CX X.prog X.w) k f fd ps (spI G m)) (hr : Room (k + 1) X.A) (hg : Gl X x) (hm : X.mg x = some (.ref (G.cls c))) (hb : Binds X.K fd ps vds) (hd : Vals dvs vds) (hdd : ∀ w, Rls G w dd dvs) (hn : n = (G.fld c).length)
    (ha : PA X (e :: es) (AI G W ma)) (hdb : (x == ("__debug__" : Str)) = false := by decide) (he : starEach (e :: es) X.env = (false, eval e X.env) :: starEach es X.env := by rfl) (hpl : (backTo pos (starEach es X.env)).any (·.1) = false := by rfl) :
    PE X (.Call (.Name x p) (e :: es) [] pos) (EI G W (eNew c n fr m dd ma)) := by
  refine ⟨fun pins s σ H Q I ⟨w, env, e1, o, er, pp⟩ => ?_⟩
  refine wpAny_Call_Name_kw (ld_glob I hg hm ?_ hdb)
  refine PySem.W.callWith_K (h₀ := X.base) I.ok.mod.kin M.kp (thn (ha.run pos pins s σ H (fun vs H1 => ∃ w1 ds, w1.H = H1 ∧ Ok G w1 ∧ Rls G w1 ds vs ∧ Post G W (Rl G) σ w1 ((m (.ref w1.st.length :: (ds ++ dd)) (w1.st ++ [.ins c []])).bind fun r s1 => match r with
      | .non => if fr = true then letGo c n w1.st.length s1 else .ok (.ref w1.st.length) s1
      | _ => .bad) Q) I ⟨w, env, e1, o, er, Post.bind pp fun w1 ds vs o1 l1 r1 p1 => ⟨w1, ds, rfl, o1, r1, p1⟩⟩) fun us s1 ⟨vs, H1, I1, r, w1, ds, e2, o1, r1, p1⟩ => ⟨I1.kIn, ?_⟩) he hpl
  subst e2
  exact run_newI L M Fo hr hb hd hdd hn I1 r o1 r1 p1
/-- C(), no __init__ but object's -/
structure Mk0 (K : PySem.W.Frag) (C : Addr) : Prop where
  makes : PySem.W.makesIn K C = true
  init : PySem.W.findIn K (.ref C) "__init__" = some (some (.builtin "object.__init__"))
  kp : PySem.W.keepIn K (.ref C) = true
theorem q_new0 (L : Lay X G W) (M : Mk0 X.K (G.cls c)) (hg : Gl X x) (hm : X.mg x = some (.ref (G.cls c))) (hf : G.fld c = []) (hdb : (x == ("__debug__" : Str)) = false := by decide) : PE X (.Call (.Name x p) [] [] pos) (EI G W (eNew0 c)) := by
  refine ⟨fun pins s σ H Q I ⟨w, env, e1, o, er, pp⟩ => ?_⟩
  refine wpAny_Call_Name_kw (ld_glob I hg hm ?_ hdb)
  subst e1
  refine PySem.W.callWith_K0 I.kIn M.kp ?_
  have I2 := Inv.made (C := G.cls c) I
  have n1 : w.H (s.heap.objs.size + 1) = none := I.hok.fresh (Nat.le_succ _)
  have n2 : w.H s.heap.objs.size = none := I.hok.fresh (Nat.le_refl _)
  have kk : ∀ b u, w.H b = some u → upd (upd w.H s.heap.objs.size (.own (s.heap.objs.size + 1))) (s.heap.objs.size + 1) (.ins (G.cls c) s.heap.objs.size []) b = some u := fun b u e => by
    rw [upd_ne (ne_of_none e n1), upd_ne (ne_of_none e n2)]
    exact e
  have q : Q (.ref (s.heap.objs.size + 1)) (upd (upd w.H s.heap.objs.size (.own (s.heap.objs.size + 1))) (s.heap.objs.size + 1) (.ins (G.cls c) s.heap.objs.size [])) :=
    pp ⟨w.ρ, w.st, _, w.hid⟩ _ rfl (ok_grow o kk) (le_grow o kk) ⟨_, _, [], rfl, upd_same, o.nlive n1, by rw [hf]; rfl, rfl⟩
  have Y := PySem.W.makes_of (M := model X.prog X.w) I.kIn M.makes
  refine wpAny_call (make_map0 I.kIn M.makes M.init (fun self => PySem.W.Looks.of_pure (PySem.W.oi_bind self)) ?_)
  obtain ⟨hh, g, d, t, os⟩ := s
  have hx : ((hh.push PySem.W.emptyDict).push (PySem.W.instObj (G.cls c) hh.objs.size)).get? (hh.objs.size + 1) = some (PySem.W.instObj (G.cls c) hh.objs.size) := by
    have z := Heap.get?_push_size (hh.push PySem.W.emptyDict) (o := PySem.W.instObj (G.cls c) hh.objs.size) rfl
    rwa [Heap.size_push] at z
  have t1 : PySem.W.Looks (model X.prog X.w) ((hh.push PySem.W.emptyDict).push (PySem.W.instObj (G.cls c) hh.objs.size)) (typeOf (.ref (hh.objs.size + 1))) (.ref (G.cls c)) := (PySem.W.Looks.ld hx).andThen .now
  have t2 : PySem.W.Looks (model X.prog X.w) ((hh.push PySem.W.emptyDict).push (PySem.W.instObj (G.cls c) hh.objs.size)) (isInstance (.ref (hh.objs.size + 1)) (.type "object")) true := t1.andThen (Y.top.keeps fun b o e => Heap.get?_push_of_some _ (Heap.get?_push_of_some _ e))
  refine codeAny_call_builtin PySem.W.oi_plain PySem.W.entry_oi (@PySem.W.check_slot (model X.prog X.w) _ _ ⟨(hh.push PySem.W.emptyDict).push (PySem.W.instObj (G.cls c) hh.objs.size), g, d, t, os⟩ "object.__init__" "object" "__init__" (.ref (hh.objs.size + 1)) [] [] _ PySem.W.oi_kind PySem.W.oi_split t2 (PySem.W.oi_args (.ref (hh.objs.size + 1))) ?_)
  rw [PySem.W.oi_run]
  exact wpAny_pure (And.intro rfl ⟨.ref (hh.objs.size + 1), _, I2, rfl, q⟩)
end
end F
/-! Methods of built-in types. -/
namespace F
open PySem PySem.Spec PyProof.Rows L2

def MtF (G : CT) (f : D → Fn) (r : V → List V → Hp → VK → Prop) : Prop := ∀ (W : WX) (σ : L2.St) (w : Wd) (x : V) (dx : D) (xs : List V) (ds : List D) (Q : VK), Ok G w → Rl G w dx x → Rls G w ds xs → Post G W (Rl G) σ w (f dx ds w.st) Q → r x xs w.H Q
def isStr (d : D) (_ : Sto) : Bool := match d with
  | .str _ => true
  | _ => false
def isLst (d : D) (st : Sto) : Bool := (asL d st).isSome
def TyF (G : CT) (T : String) (ty : D → Sto → Bool) : Prop := ∀ (w : Wd) (d : D) (x : V), Ok G w → Rl G w d x → ty d w.st = true → tyV G.K T x w.H
theorem ty_str {G : CT} : TyF G "str" isStr := fun w d x o r h => by
  cases d with
  | str s => rw [show x = _ from r]; rfl
  | _ => cases h
theorem ty_lst {G : CT} : TyF G "list" isLst := fun w d x o r h => by
  unfold isLst at h
  cases e : asL d w.st with
  | none => rw [e] at h; cases h
  | some ds =>
    obtain ⟨a, xs, rfl, s, q⟩ := asL_sq o e r
    exact .inl ⟨rfl, xs, s⟩
def eBM (ty : D → Sto → Bool) (f : D → Fn) (o : Ev) (a : Av) : Ev := fun env st => (o env st).bind fun x s => if ty x s = true then (a env s).bind fun ds s1 => f x ds s1 else .bad
section
variable {X : Cx} {G : CT} {W : WX} {cpos apos : Pos} {e ob : Expr} {es : List Expr} {ma : Av} {mo : Ev} {name : Str} {T id : String} {r : V → List V → Hp → VK → Prop} {f : D → Fn} {ty : D → Sto → Bool}
theorem q_bm (L : Lay X G W) (pa : PlainAttrs T) (slot : Slot T name id) (hty : typeOf (.builtin id) = pure (.type "method_descriptor")) (hm : MtR X id r) (hT : TyF G T ty) (hf : MtF G f r) (ho : PE X ob (EI G W mo)) (ha : PA X (e :: es) (AI G W ma))
    (hbase : attributeBase ob name X.env (eval ob X.env) = eval ob X.env := by rfl)
    (hfew : ((backTo cpos (starEach (e :: es) X.env)).all (fun x => !x.1) && (backToKw cpos (keywordEach [] X.env)).all (fun x => x.1.isSome) && decide ((e :: es).length + ([] : List Keyword).length + (if ([] : List Keyword).isEmpty then 0 else 1) < 30)) = true := by rfl)
    (hline : (apos.endLine == cpos.line) = true := by rfl) (hs : starEach (e :: es) X.env = (false, eval e X.env) :: starEach es X.env := by rfl) (hplain : (backTo cpos (starEach es X.env)).any (·.1) = false := by rfl) :
    PE X (.Call (.Attribute ob name apos) (e :: es) [] cpos) (EI G W (eBM ty f mo ma)) := (pe_bm pa slot hty hm ho ha hbase hfew hline hs hplain).imp fun σ H Q ⟨w, env, e1, o, er, pp⟩ =>
  ⟨w, env, e1, o, er, pp.bind fun w1 d x o1 l1 r1 p1 => by
    split at p1
    · rename_i ht
      exact ⟨by rw [L.K]; exact hT w1 d x o1 r1 ht, w1, env, rfl, o1, er.mono l1, p1.bind fun w2 ds xs o2 l2 r2 p2 => hf W σ w2 x d xs ds Q o2 (r1.mono l2) r2 p2⟩
    · exact p1.elim⟩
theorem q_bm0 (L : Lay X G W) (pa : PlainAttrs T) (slot : Slot T name id) (hty : typeOf (.builtin id) = pure (.type "method_descriptor")) (hm : MtR X id r) (hT : TyF G T ty) (hf : MtF G f r) (ho : PE X ob (EI G W mo))
    (hbase : attributeBase ob name X.env (eval ob X.env) = eval ob X.env := by rfl) (hline : (apos.endLine == cpos.line) = true := by rfl) :
    PE X (.Call (.Attribute ob name apos) [] [] cpos) (EI G W (eBM ty f mo aNil)) := (pe_bm0 pa slot hty hm ho hbase hline).imp fun σ H Q ⟨w, env, e1, o, er, pp⟩ =>
  ⟨w, env, e1, o, er, pp.bind fun w1 d x o1 l1 r1 p1 => by
    split at p1
    · rename_i ht
      exact ⟨by rw [L.K]; exact hT w1 d x o1 r1 ht, hf W σ w1 x d [] [] Q o1 r1 rfl p1⟩
    · exact p1.elim⟩
end

/-! ### lists that change -/
def cellL (d : D) (st : Sto) : Option (Nat × List D) := match d with
  | .ref i => match st[i]? with
    | some (.lst ds) => some (i, ds)
    | _ => none
  | _ => none
section
variable {G : CT} {W : WX} {w : Wd}
theorem cellL_at (o : Ok G w) {d : D} {x : V} {i : Nat} {ds : List D} (h : cellL d w.st = some (i, ds)) (r : Rl G w d x) : ∃ a xs, x = .ref a ∧ w.st[i]? = some (.lst ds) ∧ w.ρ[i]? = some a ∧ w.H a = some (.lst xs) ∧ Rls G w ds xs := by
  unfold cellL at h
  split at h
  · split at h
    · rename_i hs
      cases h
      obtain ⟨a, e, q⟩ := r
      obtain ⟨xs, e1, e2⟩ := o.cell i _ a hs e
      exact ⟨a, xs, q, hs, e, e1, e2⟩
    · cases h
  · cases h
/-- the list at the cell i becomes es -/
theorem set_lst (o : Ok G w) {i : Nat} {ds es : List D} {a : Addr} {ys : List V} (hs : w.st[i]? = some (.lst ds)) (ha : w.ρ[i]? = some a) (r : Rls G w es ys) :
    ∃ w', w'.H = upd w.H a (.lst ys) ∧ w'.st = w.st.set i (.lst es) ∧ Ok G w' ∧ Le w w' :=
  have l : Le w ⟨w.ρ, w.st.set i (.lst es), upd w.H a (.lst ys), w.hid⟩ := le_set o hs rfl ha
  ⟨⟨w.ρ, w.st.set i (.lst es), upd w.H a (.lst ys), w.hid⟩, rfl, rfl, ok_set (c' := .lst es) o hs rfl ha ⟨ys, upd_same, r.mono l⟩, l⟩
theorem Post.set_lst {σ : L2.St} {d : D} {v : V} {Q : VK} {i : Nat} {ds es : List D} {a : Addr} {ys : List V} (h : Post G W (Rl G) σ w (.ok d (w.st.set i (.lst es))) Q) (o : Ok G w) (hs : w.st[i]? = some (.lst ds)) (ha : w.ρ[i]? = some a) (r : Rls G w es ys) (q : Rl G w d v) : Q v (upd w.H a (.lst ys)) := by
  obtain ⟨w', e1, e2, o', l⟩ := F.set_lst o hs ha r
  rw [← e1]
  exact h w' v e2 o' l (q.mono l)
end
def fAppend : D → Fn := fun x ds st => match cellL x st, ds with
  | some (i, es), [d] => if es.length < sizeLine then .ok .non (st.set i (.lst (es ++ [d]))) else .bad
  | _, _ => .bad
def fPop : D → Fn := fun x ds st => match cellL x st, ds with
  | some (i, es), [] => match es[es.length - 1]? with
    | some d => .ok d (st.set i (.lst es.dropLast))
    | none => .bad
  | _, _ => .bad
def fPopAt : D → Fn := fun x ds st => match cellL x st, ds with
  | some (i, es), [.int k] => if 0 ≤ k ∧ k < 2 ^ 31 then match es[k.toNat]? with
    | some d => .ok d (st.set i (.lst (es.eraseIdx k.toNat)))
    | none => .bad else .bad
  | _, _ => .bad
def fExtend : D → Fn := fun x ds st => match cellL x st, ds with
  | some (i, es), [d] => match asH d st with
    | some fs => if es.length + fs.length ≤ sizeLine then .ok .non (st.set i (.lst (es ++ fs))) else .bad
    | none => .bad
  | _, _ => .bad
def fReverse : D → Fn := fun x ds st => match cellL x st, ds with
  | some (i, es), [] => .ok .non (st.set i (.lst es.reverse))
  | _, _ => .bad
def fCountS : D → Fn := fun x ds st => match x, ds with
  | .str a, [.str b] => .ok (.int (Txt.count ⟨a.toArray⟩ ⟨b.toArray⟩)) st
  | _, _ => .bad
def asStrs : List D → Option (List (List Nat))
  | [] => some []
  | .str s :: r => (asStrs r).map (s :: ·)
  | _ => none
def fJoin : D → Fn := fun x ds st => match x, ds with
  | .str a, [d] => match (match d with | .tup es => some es | d => asL d st).bind asStrs with
    | some ys => if (ys.map List.length).sum + ys.length * a.length ≤ 16777216 then .ok (.str (Txt.join ⟨a.toArray⟩ (ys.map fun y => ⟨y.toArray⟩)).cps.toList) st else .bad
    | none => .bad
  | _, _ => .bad
def fSplit (m : Bool) : D → Fn := fun x ds st => match x, ds with
  | .str a, [.str b] => if (b.length == 0) = false ∧ a.length + 2 ≤ sizeLine then mkL m ((Txt.split ⟨a.toArray⟩ ⟨b.toArray⟩).map fun y => .str y.cps.toList) st else .bad
  | _, _ => .bad
def fStartswith : D → Fn := fun x ds st => match x, ds with
  | .str a, [.str b] => .ok (.bl (Txt.startswith ⟨a.toArray⟩ ⟨b.toArray⟩)) st
  | _, _ => .bad
theorem str_eta (x : Str) : (⟨x.cps.toList.toArray⟩ : Str) = x := by simp
section
variable {G : CT}
theorem Rls.rev {w : Wd} : ∀ {ds : List D} {xs : List V}, Rls G w ds xs → Rls G w ds.reverse xs.reverse
  | [], xs, h => by
    have e : xs = [] := h
    subst e
    rfl
  | d :: ds, xs, h => by
    obtain ⟨x, r, rfl, h1, h2⟩ := h
    rw [List.reverse_cons, List.reverse_cons]
    exact (Rls.rev h2).append (.one h1)
theorem Rls.erase {w : Wd} : ∀ {ds : List D} {xs : List V} (k : Nat), Rls G w ds xs → Rls G w (ds.eraseIdx k) (xs.eraseIdx k)
  | [], xs, k, h => by
    have e : xs = [] := h
    subst e
    rfl
  | d :: ds, xs, 0, h => by
    obtain ⟨x, r, rfl, h1, h2⟩ := h
    exact h2
  | d :: ds, xs, k + 1, h => by
    obtain ⟨x, r, rfl, h1, h2⟩ := h
    exact .cons h1 (Rls.erase k h2)
theorem Rls.dropLast {w : Wd} {ds : List D} {xs : List V} (h : Rls G w ds xs) : Rls G w ds.dropLast xs.dropLast := by
  rw [List.dropLast_eq_take, List.dropLast_eq_take, h.length]
  exact h.take _
theorem asStrs_of {w : Wd} : ∀ {ds : List D} {ns : List (List Nat)} {xs : List V}, asStrs ds = some ns → Rls G w ds xs → xs = (ns.map fun y => (⟨y.toArray⟩ : Str)).map V.str
  | [], ns, xs, h, r => by
    cases h
    exact r
  | d :: ds, ns, xs, h, r => by
    obtain ⟨x, ys, rfl, h1, h2⟩ := r
    cases d with
    | str i =>
      cases e : asStrs ds with
      | none =>
        have q : (asStrs ds).map (i :: ·) = some ns := h
        rw [e] at q
        cases q
      | some ms =>
        have q : (asStrs ds).map (i :: ·) = some ns := h
        rw [e] at q
        cases q
        rw [asStrs_of e h2, show x = _ from h1]
        rfl
    | _ => cases h
theorem mf_append : MtF G fAppend rAppend := fun W σ w x dx xs ds Q o rx rs p => by
  unfold fAppend at p
  split at p
  · split at p
    · rename_i i es d hc hl
      obtain ⟨a, ys, rfl, h1, h2, h3, h4⟩ := cellL_at o hc rx
      obtain ⟨y, rfl, ry⟩ := rs.one'
      exact ⟨a, ys, y, rfl, rfl, h3, by rw [h4.length]; exact hl, p.set_lst o h1 h2 (h4.append (.one ry)) rfl⟩
    · exact p.elim
  · exact p.elim
theorem mf_pop : MtF G fPop rPop := fun W σ w x dx xs ds Q o rx rs p => by
  unfold fPop at p
  split at p
  · split at p
    · rename_i i es hc _ d hd
      obtain ⟨a, ys, rfl, h1, h2, h3, h4⟩ := cellL_at o hc rx
      obtain ⟨y, e, ry⟩ := h4.get hd
      exact ⟨a, ys, y, rfl, rs, h3, by rw [h4.length]; exact e, p.set_lst o h1 h2 h4.dropLast ry⟩
    · exact p.elim
  · exact p.elim
theorem mf_popAt : MtF G fPopAt rPopAt := fun W σ w x dx xs ds Q o rx rs p => by
  unfold fPopAt at p
  split at p
  · split at p
    · split at p
      · rename_i i es k hc hk _ d hd
        obtain ⟨a, ys, rfl, h1, h2, h3, h4⟩ := cellL_at o hc rx
        obtain ⟨y, e, ry⟩ := h4.get hd
        obtain ⟨z, rfl, rz⟩ := rs.one'
        have hl : k.toNat < es.length := (List.getElem?_eq_some_iff.mp hd).1
        refine ⟨a, ys, k, k.toNat, y, rfl, by rw [show z = _ from rz], h3, by omega, by omega, ?_, e, p.set_lst o h1 h2 (h4.erase _) ry⟩
        unfold seqIndex?
        rw [h4.length]
        have a1 : ¬ k < 0 := by omega
        have a2 : ¬ (k < 0 ∨ k ≥ (es.length : Int)) := by omega
        simp [a1]
        omega
      · exact p.elim
    · exact p.elim
  · exact p.elim
theorem mf_extend : MtF G fExtend rExtend := fun W σ w x dx xs ds Q o rx rs p => by
  unfold fExtend at p
  split at p
  · split at p
    · split at p
      · rename_i i es d hc _ fs hd hl
        obtain ⟨a, ys, rfl, h1, h2, h3, h4⟩ := cellL_at o hc rx
        obtain ⟨z, rfl, rz⟩ := rs.one'
        obtain ⟨b, zs, rfl, k1, k2⟩ := asH_sq o hd rz
        exact ⟨a, b, ys, zs, rfl, rfl, h3, k1, by rw [h4.length, k2.length]; exact hl, p.set_lst o h1 h2 (h4.append k2) rfl⟩
      · exact p.elim
    · exact p.elim
  · exact p.elim
theorem mf_reverse : MtF G fReverse rReverse := fun W σ w x dx xs ds Q o rx rs p => by
  unfold fReverse at p
  split at p
  · rename_i i es hc
    obtain ⟨a, ys, rfl, h1, h2, h3, h4⟩ := cellL_at o hc rx
    exact ⟨a, ys, rfl, rs, h3, p.set_lst o h1 h2 h4.rev rfl⟩
  · exact p.elim
theorem mf_countS : MtF G fCountS (fun x xs H Q => ∃ a b, x = .str a ∧ xs = [.str b] ∧ Q (.int (Txt.count a b)) H) := fun W σ w x dx xs ds Q o rx rs p => by
  unfold fCountS at p
  split at p
  · obtain ⟨z, rfl, rz⟩ := rs.one'
    exact ⟨_, _, rx, by rw [show z = _ from rz], p.ok o rfl⟩
  · exact p.elim
theorem mf_startswith : MtF G fStartswith (fun x xs H Q => ∃ a b, x = .str a ∧ xs = [.str b] ∧ Q (.bl (Txt.startswith a b)) H) := fun W σ w x dx xs ds Q o rx rs p => by
  unfold fStartswith at p
  split at p
  · obtain ⟨z, rfl, rz⟩ := rs.one'
    exact ⟨_, _, rx, by rw [show z = _ from rz], p.ok o rfl⟩
  · exact p.elim
theorem mf_split (m : Bool) : MtF G (fSplit m) (fun x xs H Q => ∃ a b, x = .str a ∧ xs = [.str b] ∧ (b.length == 0) = false ∧ a.length + 2 ≤ sizeLine ∧ rNewStrs (Txt.split a b) H Q) := fun W σ w x dx xs ds Q o rx rs p => by
  unfold fSplit at p
  split at p
  · split at p
    · rename_i h
      obtain ⟨z, rfl, rz⟩ := rs.one'
      refine ⟨_, _, rx, by rw [show z = _ from rz], by rw [str_len]; exact h.1, by rw [str_len]; exact h.2, fun l n => p.mk o ?_ n⟩
      generalize Txt.split _ _ = ys
      induction ys with
      | nil => rfl
      | cons y ys ih => exact .cons (by show V.str y = V.str _; rw [str_eta]) ih
    · exact p.elim
  · exact p.elim
theorem mf_join : MtF G fJoin (fun x xs H Q => ∃ a p, ∃ ys : List Str, x = .str a ∧ xs = [.ref p] ∧ (SqL G.K H p (ys.map V.str) ∨ SqT G.K H p (ys.map V.str)) ∧ (ys.map (·.length)).sum + ys.length * a.length ≤ 16777216 ∧ Q (.str (Txt.join a ys)) H) := fun W σ w x dx xs ds Q o rx rs p => by
  unfold fJoin at p
  split at p
  · split at p
    · split at p
      · rename_i a d _ ys hy h
        obtain ⟨z, rfl, rz⟩ := rs.one'
        have key : ∃ p, z = .ref p ∧ (SqL G.K w.H p ((ys.map fun y => (⟨y.toArray⟩ : Str)).map V.str) ∨ SqT G.K w.H p ((ys.map fun y => (⟨y.toArray⟩ : Str)).map V.str)) := by
          cases d with
          | tup es =>
            obtain ⟨q, zs, rfl, s, k⟩ := rz
            rw [asStrs_of hy k] at s
            exact ⟨q, rfl, .inr s.sq⟩
          | lst es =>
            obtain ⟨q, zs, rfl, s, k⟩ := asL_sq o (show asL (.lst es) w.st = some es from rfl) rz
            rw [asStrs_of hy k] at s
            exact ⟨q, rfl, .inl s⟩
          | rol es =>
            obtain ⟨q, zs, rfl, s, k⟩ := asL_sq o (show asL (.rol es) w.st = some es from rfl) rz
            rw [asStrs_of hy k] at s
            exact ⟨q, rfl, .inl s⟩
          | ref i =>
            cases e : asL (.ref i) w.st with
            | none => simp only [e] at hy; cases hy
            | some es =>
              simp only [e] at hy
              obtain ⟨q, zs, rfl, s, k⟩ := asL_sq o e rz
              rw [asStrs_of hy k] at s
              exact ⟨q, rfl, .inl s⟩
          | _ => cases hy
        obtain ⟨q, rfl, s⟩ := key
        refine ⟨_, q, _, rx, rfl, s, ?_, ?_⟩
        · rw [List.map_map, List.length_map, str_len]
          have e : ((fun x : Str => x.length) ∘ fun y : List Nat => (⟨y.toArray⟩ : Str)) = List.length := by
            funext y
            exact str_len y
          rw [e]
          exact h
        · exact p.ok o (by show _ = V.str _; rw [str_eta])
      · exact p.elim
    · exact p.elim
  · exact p.elim
end
end F
/-! Statements as functions: names, targets, if, for, while. -/
namespace F
open PySem PySem.Spec PyProof.Rows L2

def sNx : Sv := fun env st => .nx env st
def Out.andThen (o : Out) (f : Env → Sto → Out) : Out := match o with
  | .nx env s => f env s
  | .rt d s => .rt d s
  | .bk env s => .bk env s
  | .ct env s => .ct env s
  | .ex c ds env s => .ex c ds env s
  | .bad => .bad
def sSeq (a b : Sv) : Sv := fun env st => (a env st).andThen b
def sSet (i : Nat) (m : Ev) : Sv := fun env st => (m env st).andS env fun d s => .nx (env.set i (some d)) s
def sDrop (m : Ev) : Sv := fun env st => (m env st).andS env fun _ s => .nx env s
def sRet (m : Ev) : Sv := fun env st => (m env st).andS env fun d s => .rt d s
def sRetN : Sv := fun _ st => .rt .non st
def sIf (t : Tv) (a b : Sv) : Sv := fun env st => (t env st).andS env fun k s => if k = true then a env s else b env s
def sBk : Sv := fun env st => .bk env st
def sCt : Sv := fun env st => .ct env st
def sBad : Sv := fun _ _ => .bad
section
variable {X : Cx} {G : CT} {W : WX} {pos : Pos} {e c : Expr} {me : Ev} {tc : Tv} {st : Stmt} {rest sa sb : List Stmt} {ma mb : Sv}
theorem z_nil : PSs X [] (SI G W sNx) := pss_nil.imp fun D σ H ⟨w, env, e, o, er, p⟩ => by subst e; exact p.toNx o er
theorem z_pass : PS X (.Pass pos) (SI G W sNx) := ps_pass.imp fun D σ H ⟨w, env, e, o, er, p⟩ => by subst e; exact p.toNx o er
theorem z_doc {x j p'} : PS X (.Expr (.Constant (.str x) j pos) p') (SI G W sNx) := ps_doc.imp fun D σ H ⟨w, env, e, o, er, p⟩ => by subst e; exact p.toNx o er
theorem seq_of : ∀ D σ H, SI G W (sSeq ma mb) D σ H → SI G W ma { D with nx := SI G W mb D } σ H := fun D σ H ⟨w, env, e, o, er, p⟩ => by
  refine ⟨w, env, e, o, er, ?_⟩
  unfold sSeq at p
  cases q : ma env w.st with
  | nx env' s =>
    rw [q] at p
    intro w' σ' e' o' l' r'
    exact ⟨w', env', rfl, o', r', by subst e'; exact PostS.mono l' p⟩
  | rt d s => rw [q] at p; exact p
  | bk env' s => rw [q] at p; exact p
  | ct env' s => rw [q] at p; exact p
  | ex c ds env' s => rw [q] at p; exact p
  | bad => rw [q] at p; exact p
theorem z_cons (h1 : PS X st (SI G W ma)) (h2 : PSs X rest (SI G W mb)) : PSs X (st :: rest) (SI G W (sSeq ma mb)) := (pss_cons h1 h2).imp seq_of
theorem z_one (h1 : PS X st (SI G W ma)) : PSs X [st] (SI G W ma) := pss_one h1
theorem z_set {i : Nat} {x : Str} {pos' : Pos} (hN : X.N.Nodup) (hi : X.N[i]? = some x) (hx : Loc X.env.scope x) (he : PE X e (EI G W me)) (hs : swapsWith e (some (.Name x pos')) pos.line X.env = pure false := by rfl) (hf : X.fn x = true ∨ X.env.scope.names.lookup x = some .local := by first | exact .inl rfl | exact .inr rfl | assumption) :
    PS X (.Assign [.Name x pos'] e pos) (SI G W (sSet i me)) := (ps_set hN hi hx he hs hf).imp fun D σ H ⟨w, env, e1, o, er, p⟩ =>
  ⟨w, env, e1, o, er, PostS.bind er p fun w1 d v o1 l1 r1 p1 => p1.toNx o1 ((er.mono l1).set i r1)⟩
theorem z_drop (he : PE X e (EI G W me)) (hs : swapsWith e none pos.line X.env = pure false := by rfl) : PS X (.Expr e pos) (SI G W (sDrop me)) := (ps_expr he hs).imp fun D σ H ⟨w, env, e1, o, er, p⟩ =>
  ⟨w, env, e1, o, er, PostS.bind er p fun w1 d v o1 l1 r1 p1 => p1.toNx o1 (er.mono l1)⟩
theorem z_ret (he : PE X e (EI G W me)) : PS X (.Return (some e) pos) (SI G W (sRet me)) := (ps_ret he).imp fun D σ H ⟨w, env, e1, o, er, p⟩ =>
  ⟨w, env, e1, o, er, PostS.bind er p fun w1 d v o1 l1 r1 p1 => p1 w1 v rfl o1 (Le.refl _) r1⟩
theorem z_retN : PS X (.Return none pos) (SI G W sRetN) := ps_retN.imp fun D σ H ⟨w, env, e1, o, er, p⟩ => by
  subst e1
  exact p w .non rfl o (Le.refl _) rfl
theorem z_if (hc : PT X c (TsI G W tc)) (ha : PSs X sa (SI G W ma)) (hb : PSs X sb (SI G W mb)) : PS X (.If c sa sb pos) (SI G W (sIf tc ma mb)) := (ps_if hc ha hb).imp fun D σ H ⟨w, env, e1, o, er, p⟩ =>
  ⟨w, env, e1, o, er, PostS.bind er p fun w1 k b o1 l1 r1 p1 => by
    have r1' : k = b := r1
    subst r1'
    cases k with
    | true => exact ⟨w1, env, rfl, o1, er.mono l1, p1⟩
    | false => exact ⟨w1, env, rfl, o1, er.mono l1, p1⟩⟩
theorem z_break : PS X (.Break pos) (SI G W sBk) := ps_break.imp fun D σ H ⟨w, env, e1, o, er, p⟩ => by
  subst e1
  exact p w σ rfl o (Le.refl _) er
theorem z_continue : PS X (.Continue pos) (SI G W sCt) := ps_continue.imp fun D σ H ⟨w, env, e1, o, er, p⟩ => by
  subst e1
  exact p w σ rfl o (Le.refl _) er
theorem z_bad : PS X st (SI G W sBad) := ps_never.imp fun D σ H ⟨w, env, e1, o, er, p⟩ => p
theorem zs_bad : PSs X rest (SI G W sBad) := pss_never.imp fun D σ H ⟨w, env, e1, o, er, p⟩ => p
end

/-! ### targets -/
abbrev Tg := D → Env → Option Env
abbrev Tgs := List D → Env → Option Env
def gI (G : CT) (t : Tg) : TG := fun v σ H Q => ∃ (w : Wd) (env : Env) (d : D), w.H = H ∧ Ok G w ∧ EnvR G w env σ ∧ Rl G w d v ∧ ∃ env', t d env = some env' ∧ ∀ σ', EnvR G w env' σ' → Q σ' H
def gsI (G : CT) (t : Tgs) : TGs := fun vs σ H Q => ∃ (w : Wd) (env : Env) (ds : List D), w.H = H ∧ Ok G w ∧ EnvR G w env σ ∧ Rls G w ds vs ∧ ∃ env', t ds env = some env' ∧ ∀ σ', EnvR G w env' σ' → Q σ' H
def gN (i : Nat) : Tg := fun d env => some (env.set i (some d))
def gT (n : Nat) (t : Tgs) : Tg := fun d env => match d with
  | .tup ds => if ds.length = n then t ds env else none
  | _ => none
def gNil : Tgs := fun ds env => match ds with
  | [] => some env
  | _ => none
def gCons (t : Tg) (u : Tgs) : Tgs := fun ds env => match ds with
  | d :: r => (t d env).bind (u r)
  | [] => none
section
variable {X : Cx} {G : CT} {W : WX} {pos : Pos} {tg e : Expr} {es : List Expr} {t : Tg} {u : Tgs} {me : Ev}
theorem PG.imp {t t' : TG} (h : PG X tg t) (k : ∀ v σ H Q, t' v σ H Q → t v σ H Q) : PG X tg t' := ⟨fun pins s σ H v u Q I r q => h.run pins s σ H v u Q I r (k v σ H Q q)⟩
theorem PGs.imp {t t' : TGs} (h : PGs X es t) (k : ∀ v σ H Q, t' v σ H Q → t v σ H Q) : PGs X es t' := ⟨fun pins s σ H v u Q I r q => h.run pins s σ H v u Q I r (k v σ H Q q)⟩
theorem g_name {i : Nat} {x : Str} (hN : X.N.Nodup) (hi : X.N[i]? = some x) (hx : Loc X.env.scope x) (hf : X.fn x = true ∨ X.env.scope.names.lookup x = some .local := by first | exact .inl rfl | exact .inr rfl | assumption) : PG X (.Name x pos) (gI G (gN i)) :=
  PG.imp (pg_name hN hi hx hf) fun v σ H Q ⟨w, env, d, e, o, er, r, env', q, k⟩ => by
    cases q
    exact k _ (er.set i r)
theorem g_nil : PGs X [] (gsI G gNil) := PGs.imp pgs_nil fun vs σ H Q ⟨w, env, ds, e, o, er, r, env', q, k⟩ => by
  cases ds with
  | nil =>
    cases q
    exact ⟨r, k σ er⟩
  | cons d ds => cases q
theorem g_cons (h1 : PG X e (gI G t)) (h2 : PGs X es (gsI G u)) (hs : (assignEach (e :: es) X.env).map (·.2) = assign e X.env :: (assignEach es X.env).map (·.2) := by rfl) : PGs X (e :: es) (gsI G (gCons t u)) := PGs.imp (pgs_cons h1 h2 hs) fun vs σ H Q ⟨w, env, ds, e, o, er, r, env', q, k⟩ => by
  cases ds with
  | nil => cases q
  | cons d ds =>
    obtain ⟨x, xs, rfl, r1, r2⟩ := r
    unfold gCons at q
    dsimp only at q
    cases q1 : t d env with
    | none => rw [q1] at q; cases q
    | some env1 =>
      rw [q1] at q
      exact ⟨x, xs, rfl, w, env, d, e, o, er, r1, env1, q1, fun σ1 er1 => ⟨w, env1, ds, e, o, er1, r2, env', q, k⟩⟩
theorem g_tup {k n : Nat} (hK : X.K = G.K) (hc : X.calm = true) (h : PGs X es (gsI G u)) (hn : (assignEach es X.env).length = n := by rfl) (hst : (assignEach es X.env).findIdx? (·.1) = none := by rfl) : PG X (.Tuple es k pos) (gI G (gT n u)) :=
  PG.imp (pg_tup hc h hn hst) fun v σ H Q ⟨w, env, d, e, o, er, r, env', q, kk⟩ => by
    unfold gT at q
    split at q
    · split at q
      · rename_i ds hl
        obtain ⟨a, xs, rfl, s, rs⟩ := r
        subst e
        exact ⟨a, xs, rfl, by rw [hK]; exact s.sq, by rw [rs.length]; exact hl, w, env, ds, rfl, o, er, rs, env', q, kk⟩
      · cases q
    · cases q
def sAsg (t : Tg) (m : Ev) : Sv := fun env st => (m env st).andS env fun d s => match t d env with
  | some env' => .nx env' s
  | none => .bad
theorem z_asg (he : PE X e (EI G W me)) (hg : PG X tg (gI G t)) (hs : swapsWithSole [tg] e pos.line X.env = pure false := by rfl) (hw : swappedStores [tg] e X.env = pure none := by rfl) (h1 : (assignEach [tg] X.env).map (·.2) = [assign tg X.env] := by rfl) : PS X (.Assign [tg] e pos) (SI G W (sAsg t me)) := (ps_asg he hg hs hw h1).imp fun D σ H ⟨w, env, e1, o, er, p⟩ =>
  ⟨w, env, e1, o, er, PostS.bind er p fun w1 d v o1 l1 r1 p1 => by
    split at p1
    · rename_i env' q
      exact ⟨w1, env, d, rfl, o1, er.mono l1, r1, env', q, fun σ' er' => p1.toNx o1 er'⟩
    · exact p1.elim⟩
/-- o[i] = v, a list's item -/
def sSetIx (o i m : Ev) : Sv := fun env st => (m env st).andS env fun d s => (o env s).andS env fun x s1 => (i env s1).andS env fun k s2 => match cellL x s2, k with
  | some (j, es), .int k => match ixN es.length k with
    | some n => .nx env (s2.set j (.lst (es.set n d)))
    | none => .bad
  | _, _ => .bad
variable {ob ix : Expr} {mo mi : Ev}
theorem z_setIx {sp : Pos} (he : PE X e (EI G W me)) (ho : PE X ob (EI G W mo)) (hi : PE X ix (EI G W mi)) (hs : swapsWithSole [.Subscript ob ix sp] e pos.line X.env = pure false := by rfl) (hw : swappedStores [.Subscript ob ix sp] e X.env = pure none := by rfl)
    (hg : PG X (.Subscript ob ix sp) (gSub (EI G W mo) (EI G W mi) rSetL)) : PS X (.Assign [.Subscript ob ix sp] e pos) (SI G W (sSetIx mo mi me)) := (ps_asg he hg hs hw).imp fun D σ H ⟨w, env, e1, o, er, p⟩ =>
  ⟨w, env, e1, o, er, PostS.bind er p fun w1 d v o1 l1 r1 p1 => ⟨w1, env, rfl, o1, er.mono l1, PostS.bind (er.mono l1) p1 fun w2 x y o2 l2 r2 p2 => ⟨w2, env, rfl, o2, (er.mono l1).mono l2, PostS.bind ((er.mono l1).mono l2) p2 fun w3 k z o3 l3 r3 p3 => by
    split at p3
    · split at p3
      · rename_i j es k hc _ n hn
        obtain ⟨a, xs, rfl, h1, h2, h3, h4⟩ := cellL_at o3 hc (r2.mono l3)
        refine ⟨a, xs, k, n, rfl, r3, h3, by rw [h4.length]; exact hn, ?_⟩
        obtain ⟨w', e1', e2', o', l'⟩ := set_lst (es := es.set n d) o3 h1 h2 (h4.set n (r1.mono (l2.trans l3)))
        rw [← e1']
        exact p3 w' σ e2' o' l' (er.mono (l1.trans (l2.trans (l3.trans l'))))
      · exact p3.elim
    · exact p3.elim⟩⟩⟩
/-- name op= e -/
def sAug (f : D → D → Sto → Res D) (i : Nat) (m : Ev) : Sv := fun env st => match env[i]? with
  | some (some x) => (m env st).andS env fun y s => (f x y s).andS env fun z s1 => .nx (env.set i (some z)) s1
  | _ => .bad
theorem z_aug {op : Operator} {f : D → D → Sto → Res D} {r : R2} {i : Nat} {x : Str} {pos' : Pos} (ho : OpR X (inplaceOp op) r) (hf : OpF G f r) (hN : X.N.Nodup) (hi : X.N[i]? = some x) (hx : Loc X.env.scope x) (he : PE X e (EI G W me))
    (hfn : X.fn x = true ∨ X.env.scope.names.lookup x = some .local := by first | exact .inl rfl | exact .inr rfl | assumption) : PS X (.AugAssign (.Name x pos') op e pos) (SI G W (sAug f i me)) :=
  (ps_aug (ti := r) hN hi hx he (fun pins s σ H x y v u Q I rx ry h => ho pins s σ H x y v u Q I rx ry h) hfn).imp fun D σ H ⟨w, env, e1, o, er, p⟩ => by
    unfold sAug at p
    split at p
    · rename_i d hd
      obtain ⟨v, e2, r0⟩ := er.at_ i d hd
      exact ⟨v, e2, w, env, e1, o, er, PostS.bind er p fun w1 y u o1 l1 r1 p1 => hf W σ w1 v u d y _ o1 (r0.mono l1) r1 (PostS.bind (er.mono l1) p1 fun w2 z v' o2 l2 r2 p2 => p2.toNx o2 (((er.mono l1).mono l2).set i r2))⟩
    · exact p.elim
end

/-! ### self.f = e -/
def setFld (k : Nat) (d : D) (x : D) (st : Sto) : Option Sto := match x with
  | .ref i => match st[i]? with
    | some (.ins c ds) => if k = ds.length then some (st.set i (.ins c (ds ++ [d]))) else if k < ds.length then some (st.set i (.ins c (ds.set k d))) else none
    | _ => none
  | _ => none
def sFldF (ixf : Nat → Option Nat) (o m : Ev) : Sv := fun env st => (m env st).andS env fun d s => (o env s).andS env fun x s1 => match clsOf x s1 with
  | some c => match ixf c with
    | some k => match setFld k d x s1 with
      | some s2 => .nx env s2
      | none => .bad
    | none => .bad
  | none => .bad
section
variable {G : CT}
theorem putF_new {f : Str} {v : V} : ∀ {fs : List (Str × V)}, f ∉ fs.map (·.1) → putF f v fs = fs ++ [(f, v)]
  | [], _ => rfl
  | (g, x) :: r, h => by
    rw [List.map_cons, List.mem_cons, not_or] at h
    show (if g = f then (g, v) :: r else (g, x) :: putF f v r) = _
    rw [if_neg (Ne.symm h.1), putF_new h.2]
    rfl
theorem putF_old {f : Str} {v : V} : ∀ {fs : List (Str × V)} {k : Nat}, (fs.map (·.1)).Nodup → (fs.map (·.1))[k]? = some f → (putF f v fs).map (·.1) = fs.map (·.1) ∧ (putF f v fs).map (·.2) = (fs.map (·.2)).set k v
  | [], k, _, h => by simp at h
  | (g, x) :: r, 0, _, h => by
    have e : g = f := by simpa using h
    subst e
    show (if g = g then (g, v) :: r else (g, x) :: putF g v r).map _ = _ ∧ (if g = g then (g, v) :: r else (g, x) :: putF g v r).map _ = _
    rw [if_pos rfl]
    exact ⟨rfl, rfl⟩
  | (g, x) :: r, k + 1, nd, h => by
    rw [List.map_cons, List.nodup_cons] at nd
    have h' : (r.map (·.1))[k]? = some f := by simpa using h
    have ne : ¬ g = f := fun e => nd.1 (by rw [show (g, x).1 = f from e]; exact List.mem_of_getElem? h')
    obtain ⟨h1, h2⟩ := putF_old (v := v) nd.2 h'
    show (if g = f then (g, v) :: r else (g, x) :: putF f v r).map _ = _ ∧ (if g = f then (g, v) :: r else (g, x) :: putF f v r).map _ = _
    rw [if_neg ne]
    constructor
    · rw [List.map_cons, List.map_cons, h1]
    · rw [List.map_cons, List.map_cons, h2]
      rfl
theorem take_succ_get {α : Type} {l : List α} {n : Nat} {x : α} (h : l[n]? = some x) : l.take (n + 1) = l.take n ++ [x] := by
  rw [List.take_succ, h]
  rfl
theorem setFld_ok {w : Wd} (o : Ok G w) {x : D} {v y : V} {d : D} {c k : Nat} {s2 : Sto} {f : Str} (hc : clsOf x w.st = some c) (F : FldF G c f k) (hlen : (G.fld c).length ≤ 900) (hs : setFld k d x w.st = some s2) (rx : Rl G w x v) (ry : Rl G w d y) :
    ∃ a dx fs, v = .ref a ∧ w.H a = some (.ins (G.cls c) dx fs) ∧ fs.length < 1000 ∧ ∃ w', w'.H = upd w.H a (.ins (G.cls c) dx (putF f y fs)) ∧ w'.st = s2 ∧ Ok G w' ∧ Le w w' := by
  unfold setFld at hs
  split at hs
  · rename_i i
    split at hs
    · rename_i c' ds hst
      have ec : c' = c := by
        have q : (match w.st[i]? with | some (.ins c _) => some c | _ => none) = some c := hc
        rw [hst] at q
        exact Option.some.inj q
      subst ec
      obtain ⟨a, e, q⟩ := rx
      obtain ⟨dx, fs, h1, h2, h3⟩ := o.cell i _ a hst e
      have hl : fs.length = ds.length := by
        have z := h3.length
        rw [List.length_map] at z
        exact z
      have hk : k < (G.fld c').length := (List.getElem?_eq_some_iff.mp F.at_).1
      have nd : (fs.map (·.1)).Nodup := by rw [h2]; exact F.nd.sublist (List.take_sublist _ _)
      have hle : ds.length ≤ (G.fld c').length := by
        have z := congrArg List.length h2
        rw [List.length_map, List.length_take] at z
        omega
      split at hs
      · rename_i hk1
        cases hs
        have nf : f ∉ fs.map (·.1) := by
          rw [h2]
          intro z
          obtain ⟨j, hj, ej⟩ := List.getElem_of_mem z
          have hj2 : j < k := by
            rw [List.length_take] at hj
            omega
          have e3 : (G.fld c')[j]? = some f := by
            rw [← List.getElem?_take_of_lt (show j < ds.length by omega), List.getElem?_eq_getElem hj, ej]
          have := nd_ix F.nd e3 F.at_
          omega
        have l : Le w ⟨w.ρ, w.st.set i (.ins c' (ds ++ [d])), upd w.H a (.ins (G.cls c') dx (putF f y fs)), w.hid⟩ := le_set o hst rfl e
        refine ⟨a, dx, fs, q, h1, by omega, _, rfl, rfl, ok_set (c' := .ins c' (ds ++ [d])) o hst rfl e ⟨dx, putF f y fs, upd_same, ?_, ?_⟩, l⟩
        · rw [putF_new nf, List.map_append, h2, List.length_append, List.length_singleton, ← hk1, take_succ_get F.at_]
          rfl
        · have z := (h3.append (.one ry)).mono l
          rw [show (putF f y fs).map (·.2) = fs.map (·.2) ++ [y] by rw [putF_new nf, List.map_append]; rfl]
          exact z
      · split at hs
        · rename_i hk1 hk2
          cases hs
          have at1 : (fs.map (·.1))[k]? = some f := by
            rw [h2, List.getElem?_take_of_lt hk2]
            exact F.at_
          obtain ⟨p1, p2⟩ := putF_old (v := y) nd at1
          have l : Le w ⟨w.ρ, w.st.set i (.ins c' (ds.set k d)), upd w.H a (.ins (G.cls c') dx (putF f y fs)), w.hid⟩ := le_set o hst rfl e
          refine ⟨a, dx, fs, q, h1, by omega, _, rfl, rfl, ok_set (c' := .ins c' (ds.set k d)) o hst rfl e ⟨dx, putF f y fs, upd_same, ?_, ?_⟩, l⟩
          · rw [p1, h2, List.length_set]
          · rw [p2]
            exact (h3.set k ry).mono l
        · cases hs
    · cases hs
  · cases hs
variable {X : Cx} {W : WX} {pos : Pos} {e ob : Expr} {me mo : Ev} {name : Str}
theorem z_fld {ixf : Nat → Option Nat} {pos' : Pos} (L : Lay X G W) (ho : PE X ob (EI G W mo)) (he : PE X e (EI G W me)) (hx : ∀ c k, ixf c = some k → FldF G c name k ∧ (G.fld c).length ≤ 900) (hs : swapsWith e (some (.Attribute ob name pos')) pos.line X.env = pure false := by rfl) : PS X (.Assign [.Attribute ob name pos'] e pos) (SI G W (sFldF ixf mo me)) :=
  (ps_fld ho he hs).imp fun D σ H ⟨w, env, e1, o, er, p⟩ => ⟨w, env, e1, o, er, PostS.bind er p fun w1 d y o1 l1 r1 p1 => ⟨w1, env, rfl, o1, er.mono l1, PostS.bind (er.mono l1) p1 fun w2 x v o2 l2 r2 p2 => by
    split at p2
    · rename_i c hc
      split at p2
      · rename_i k hk
        split at p2
        · rename_i s2 hs2
          obtain ⟨F, hl⟩ := hx c k hk
          obtain ⟨a, dx, fs, rfl, h1, h2, w', q1, q2, o', l'⟩ := setFld_ok o2 hc F hl hs2 r2 (r1.mono l2)
          refine ⟨a, G.cls c, dx, fs, rfl, h1, by rw [L.K]; exact F.cl, by rw [L.K]; exact F.no, h2, ?_⟩
          rw [← q1]
          exact p2 w' σ q2 o' l' (er.mono (l1.trans (l2.trans l')))
        · exact p2.elim
      · exact p2.elim
    · exact p2.elim⟩⟩
end
end F
/-! for, while, comprehensions as functions. -/
namespace F
open PySem PySem.Spec PyProof.Rows L2

/-- the iterator J serves the items ds, from the world w₀ on -/
def Serves (G : CT) (w₀ : Wd) (ds : List D) (J : It) : Prop := ∀ w : Wd, Ok G w → Lw w₀ w →
  (∀ (i : Nat) (d : D), ds[i]? = some d → J.go i w.H ∧ ∀ x H', J.yld i w.H x H' → ∃ w', w'.H = H' ∧ w'.st = w.st ∧ Ok G w' ∧ Le w w' ∧ Rl G w' d x) ∧ J.stop ds.length w.H
abbrev Wv := Env → Sto → Res (List D)
abbrev WI (G : CT) (W : WX) (m : Wv) : TI := RI G W (Serves G) m
/-- a live list: its items are looked up turn by turn -/
def Serves1 (G : CT) (w₀ : Wd) (d : D) (J : It) : Prop := ∀ w : Wd, Ok G w → Lw w₀ w → ∀ ds, asL d w.st = some ds →
  (∀ (i : Nat) (d : D), ds[i]? = some d → J.go i w.H ∧ ∀ x H', J.yld i w.H x H' → ∃ w', w'.H = H' ∧ w'.st = w.st ∧ Ok G w' ∧ Le w w' ∧ Rl G w' d x) ∧ ∀ i, ds.length ≤ i → J.stop i w.H
abbrev WI1 (G : CT) (W : WX) (m : Ev) : TI := RI G W (Serves1 G) m

def loop (t : Tg) (body : Sv) : List D → Env → Sto → Out
  | [], env, st => .nx env st
  | d :: ds, env, st => match t d env with
    | none => .bad
    | some env1 => match body env1 st with
      | .nx e s => loop t body ds e s
      | .ct e s => loop t body ds e s
      | .bk e s => .nx e s
      | .rt d s => .rt d s
      | .ex c es e s => .ex c es e s
      | .bad => .bad
def sFor (wi : Wv) (t : Tg) (body : Sv) : Sv := fun env st => (wi env st).andS env fun ds s => loop t body ds env s
/-- over a list that the body may change; n: turns at most -/
def loopC (l : D) (t : Tg) (body : Sv) : Nat → Nat → Env → Sto → Out
  | 0, i, env, st => match asL l st with
    | some ds => if ds.length ≤ i then .nx env st else .bad
    | none => .bad
  | n + 1, i, env, st => match asL l st with
    | none => .bad
    | some ds => match ds[i]? with
      | none => .nx env st
      | some d => match t d env with
        | none => .bad
        | some env1 => match body env1 st with
          | .nx e s => loopC l t body n (i + 1) e s
          | .ct e s => loopC l t body n (i + 1) e s
          | .bk e s => .nx e s
          | .rt d s => .rt d s
          | .ex c es e s => .ex c es e s
          | .bad => .bad
def sForC (n : Nat) (m : Ev) (t : Tg) (body : Sv) : Sv := fun env st => (m env st).andS env fun d s => loopC d t body n 0 env s
def whileF (t : Tv) (body : Sv) : Nat → Env → Sto → Out
  | 0, _, _ => .bad
  | n + 1, env, st => (t env st).andS env fun k s => if k = true then match body env s with
    | .nx e s => whileF t body n e s
    | .ct e s => whileF t body n e s
    | .bk e s => .nx e s
    | .rt d s => .rt d s
    | .ex c es e s => .ex c es e s
    | .bad => .bad else .nx env s
def sWhile (n : Nat) (t : Tv) (body : Sv) : Sv := fun env st => whileF t body n env st
section
variable {X : Cx} {G : CT} {W : WX} {pos : Pos} {tg it c : Expr} {sb : List Stmt} {wi : Wv} {t : Tg} {body : Sv} {tc : Tv} {m : Ev}
theorem body_of {D : Ends} {w : Wd} {o : Out} {f : Env → Sto → Out} {N : L2.St → Hp → Prop}
    (h : PostS G W w (match o with | .nx e s => f e s | .ct e s => f e s | .bk e s => .nx e s | .rt d s => .rt d s | .ex c es e s => .ex c es e s | .bad => .bad) D)
    (k : ∀ (w' : Wd) (e : Env) (σ : L2.St), Ok G w' → Le w w' → EnvR G w' e σ → PostS G W w' (f e w'.st) D → N σ w'.H) : PostS G W w o { D with nx := N, ct := N, bk := D.nx } := by
  cases o with
  | nx e s => exact fun w' σ e' o' l' r' => k w' e σ o' l' r' (by subst e'; exact PostS.mono l' h)
  | ct e s => exact fun w' σ e' o' l' r' => k w' e σ o' l' r' (by subst e'; exact PostS.mono l' h)
  | bk e s => exact h
  | rt d s => exact h
  | ex c es e s => exact h
  | bad => exact h
theorem z_for (hp : PassesOwn (model X.prog X.w) X.A X.env X.xe) (hc : X.calm = true) (hi : PI X tg it (WI G W wi)) (hg : PG X tg (gI G t)) (hb : PSs X sb (SI G W body)) (hs : ∀ x, foldedSetIterable it X.env x = pure x := by intro _; rfl) :
    PS X (.For tg it sb [] pos) (SI G W (sFor wi t body)) := (ps_for hp hc hi hg hb hs).imp fun D σ H ⟨w, env, e1, o, er, p⟩ =>
  ⟨w, env, e1, o, er, PostS.bind er p fun w0 ds J o0 l0 sv p0 => by
    refine ⟨fun i n σ H => n = ds.length - i ∧ i ≤ ds.length ∧ ∃ w env, w.H = H ∧ Ok G w ∧ Le w0 w ∧ EnvR G w env σ ∧ PostS G W w (loop t body (ds.drop i) env w.st) D, ⟨_, rfl, Nat.zero_le _, w0, env, rfl, o0, Le.refl _, er.mono l0, p0⟩, ?_⟩
    rintro i n σ1 H1 ⟨rfl, hi, w1, env1, rfl, o1, l1, er1, p1⟩
    obtain ⟨s1, s2⟩ := sv w1 o1 l1.toLw
    by_cases hlt : i < ds.length
    · obtain ⟨g1, g2⟩ := s1 i ds[i] (List.getElem?_eq_getElem hlt)
      refine .inr ⟨g1, fun σ' H' => (ds.length - (i + 1)) = ds.length - (i + 1) ∧ i + 1 ≤ ds.length ∧ ∃ w env, w.H = H' ∧ Ok G w ∧ Le w0 w ∧ EnvR G w env σ' ∧ PostS G W w (loop t body (ds.drop (i + 1)) env w.st) D, fun σ' H' q => ⟨_, by omega, q⟩, fun x H' y => ?_⟩
      obtain ⟨w2, rfl, e2, o2, l2, r2⟩ := g2 x H' y
      rw [List.drop_eq_getElem_cons hlt] at p1
      unfold loop at p1
      split at p1
      · exact p1.elim
      · rename_i env2 ht
        refine ⟨w2, env1, ds[i], rfl, o2, er1.mono l2, r2, env2, ht, fun σ2 er2 => ⟨w2, env2, rfl, o2, er2, ?_⟩⟩
        have p2 := PostS.mono l2 p1
        rw [← e2] at p2
        exact body_of (f := fun e s => loop t body (ds.drop (i + 1)) e s) p2 fun w3 e3 σ3 o3 l3 r3 p3 => ⟨rfl, hlt, w3, e3, rfl, o3, l1.trans (l2.trans l3), r3, p3⟩
    · have e : i = ds.length := by omega
      subst e
      rw [List.drop_length] at p1
      exact .inl ⟨s2, p1.toNx o1 er1⟩⟩
theorem z_forC (n : Nat) (hp : PassesOwn (model X.prog X.w) X.A X.env X.xe) (hc : X.calm = true) (hi : PI X tg it (WI1 G W m)) (hg : PG X tg (gI G t)) (hb : PSs X sb (SI G W body)) (hs : ∀ x, foldedSetIterable it X.env x = pure x := by intro _; rfl) :
    PS X (.For tg it sb [] pos) (SI G W (sForC n m t body)) := (ps_for hp hc hi hg hb hs).imp fun D σ H ⟨w, env, e1, o, er, p⟩ =>
  ⟨w, env, e1, o, er, PostS.bind er p fun w0 d J o0 l0 sv p0 => by
    refine ⟨fun i n σ H => ∃ w env, w.H = H ∧ Ok G w ∧ Le w0 w ∧ EnvR G w env σ ∧ PostS G W w (loopC d t body n i env w.st) D, ⟨_, w0, env, rfl, o0, Le.refl _, er.mono l0, p0⟩, ?_⟩
    rintro i n σ1 H1 ⟨w1, env1, rfl, o1, l1, er1, p1⟩
    cases n with
    | zero =>
      unfold loopC at p1
      split at p1
      · split at p1
        · rename_i ds hd hl
          exact .inl ⟨(sv w1 o1 l1.toLw ds hd).2 i hl, p1.toNx o1 er1⟩
        · exact p1.elim
      · exact p1.elim
    | succ n =>
      unfold loopC at p1
      split at p1
      · exact p1.elim
      · rename_i ds hd
        obtain ⟨s1, s2⟩ := sv w1 o1 l1.toLw ds hd
        split at p1
        · rename_i hn
          exact .inl ⟨s2 i (List.getElem?_eq_none_iff.mp hn), p1.toNx o1 er1⟩
        · rename_i y hy
          obtain ⟨g1, g2⟩ := s1 i y hy
          split at p1
          · exact p1.elim
          · rename_i env2 ht
            refine .inr ⟨g1, fun σ' H' => ∃ w env, w.H = H' ∧ Ok G w ∧ Le w0 w ∧ EnvR G w env σ' ∧ PostS G W w (loopC d t body n (i + 1) env w.st) D, fun σ' H' q => ⟨n, Nat.lt_succ_self _, q⟩, fun x H' yy => ?_⟩
            obtain ⟨w2, rfl, e2, o2, l2, r2⟩ := g2 x H' yy
            refine ⟨w2, env1, y, rfl, o2, er1.mono l2, r2, env2, ht, fun σ2 er2 => ⟨w2, env2, rfl, o2, er2, ?_⟩⟩
            have p2 := PostS.mono l2 p1
            rw [← e2] at p2
            exact body_of (f := fun e s => loopC d t body n (i + 1) e s) p2 fun w3 e3 σ3 o3 l3 r3 p3 => ⟨w3, e3, rfl, o3, l1.trans (l2.trans l3), r3, p3⟩⟩
theorem z_while (n : Nat) (hp : PassesOwn (model X.prog X.w) X.A X.env X.xe) (hc : PT X c (TsI G W tc)) (hb : PSs X sb (SI G W body)) : PS X (.While c sb [] pos) (SI G W (sWhile n tc body)) := (ps_while hp hc hb).imp fun D σ H ⟨w, env, e1, o, er, p⟩ => by
  refine ⟨fun n σ H => ∃ w env, w.H = H ∧ Ok G w ∧ EnvR G w env σ ∧ PostS G W w (whileF tc body n env w.st) D, ⟨n, w, env, e1, o, er, p⟩, ?_⟩
  rintro n σ1 H1 ⟨w1, env1, rfl, o1, er1, p1⟩
  cases n with
  | zero => exact p1.elim
  | succ n =>
    refine ⟨w1, env1, rfl, o1, er1, PostS.bind er1 p1 fun w2 k b o2 l2 r2 p2 => ?_⟩
    have r2' : k = b := r2
    subst r2'
    cases k with
    | true =>
      refine ⟨fun σ' H' => ∃ w env, w.H = H' ∧ Ok G w ∧ EnvR G w env σ' ∧ PostS G W w (whileF tc body n env w.st) D, fun σ' H' q => ⟨n, Nat.lt_succ_self _, q⟩, w2, env1, rfl, o2, er1.mono l2, ?_⟩
      exact body_of (f := fun e s => whileF tc body n e s) p2 fun w3 e3 σ3 o3 l3 r3 p3 => ⟨w3, e3, rfl, o3, r3, p3⟩
    | false => exact p2.toNx o2 (er1.mono l2)

/-! ### what is walked -/
/-- the items of a pure list, a tuple, a text -/
def itemsD (d : D) : Option (List D) := match d with
  | .lst ds => some ds
  | .rol ds => some ds
  | .tup ds => some ds
  | .str s => some (s.map fun c => .str [c])
  | _ => none
def wAny (m : Ev) : Wv := fun env st => (m env st).bind fun d s => match itemsD d with
  | some ds => .ok ds s
  | none => .bad
theorem serves_list {w0 : Wd} {a : Addr} {xs : List V} {ds : List D} (h : SqLn G w0 a xs) (r : Rls G w0 ds xs) : Serves G w0 ds (Itl G.K a) := fun w o l => by
  have s := (h.monoW l).sq
  have q := r.monoW l
  refine ⟨fun i d e => ?_, xs, s, by rw [q.length]; exact Nat.le_refl _⟩
  obtain ⟨x, ex, rx⟩ := q.get e
  refine ⟨⟨xs, x, s, ex⟩, fun y H' hy => ?_⟩
  obtain ⟨rfl, hy⟩ := hy
  have e2 := hy xs s
  rw [ex] at e2
  cases e2
  exact ⟨w, rfl, rfl, o, Le.refl _, rx⟩
theorem serves_tup {w0 : Wd} {a : Addr} {xs : List V} {ds : List D} (h : SqTn G w0 a xs) (r : Rls G w0 ds xs) : Serves G w0 ds (Itt G.K a) := fun w o l => by
  have s := (h.monoW l).sq
  have q := r.monoW l
  refine ⟨fun i d e => ?_, xs, s, by rw [q.length]; exact Nat.le_refl _⟩
  obtain ⟨x, ex, rx⟩ := q.get e
  refine ⟨⟨xs, x, s, ex⟩, fun y H' hy => ?_⟩
  obtain ⟨rfl, hy⟩ := hy
  have e2 := hy xs s
  rw [ex] at e2
  cases e2
  exact ⟨w, rfl, rfl, o, Le.refl _, rx⟩
theorem serves_str {w0 : Wd} {s : List Nat} : Serves G w0 (s.map fun c => .str [c]) (Its ⟨s.toArray⟩) := fun w o l => by
  refine ⟨fun i d e => ?_, by show (s.toArray.size : Nat) ≤ _; simp⟩
  rw [List.getElem?_map] at e
  cases q : s[i]? with
  | none => rw [q] at e; cases e
  | some c =>
    rw [q] at e
    cases e
    have hl := (List.getElem?_eq_some_iff.mp q).1
    refine ⟨by show i < s.toArray.size; simpa using hl, fun y H' hy => ?_⟩
    obtain ⟨rfl, c', e1, rfl⟩ := hy
    have e2 : s[i]? = some c' := by simpa using e1
    rw [q] at e2
    cases e2
    exact ⟨w, rfl, rfl, o, Le.refl _, rfl⟩
theorem w_any (L : Lay X G W) (h : PE X it (EI G W m)) : PI X tg it (WI G W (wAny m)) := ((pi_list h).or ((pi_tup h).or (pi_str h))).imp fun σ H Q ⟨w, env, e1, o, er, p⟩ => by
  cases q : m env w.st with
  | bad =>
    unfold wAny at p
    rw [q] at p
    exact p.elim
  | ex c es s =>
    refine .inl ⟨w, env, e1, o, er, ?_⟩
    unfold wAny at p
    rw [q] at p ⊢
    exact p
  | ok d s =>
    unfold wAny at p
    rw [q] at p
    have p' : Post G W (Serves G) σ w (match itemsD d with | some ds => .ok ds s | none => .bad) Q := p
    cases d with
    | lst ds =>
      refine .inl ⟨w, env, e1, o, er, ?_⟩
      rw [q]
      refine fun w' v e' o' l' r' => ?_
      obtain ⟨a, xs, rfl, sq, rs⟩ := r'
      exact ⟨a, rfl, ⟨xs, SqL.of sq.1⟩, by rw [L.K]; exact p' w' _ e' o' l' (serves_list (.inl ⟨.inl sq.1, sq.2⟩) rs)⟩
    | rol ds =>
      refine .inl ⟨w, env, e1, o, er, ?_⟩
      rw [q]
      refine fun w' v e' o' l' r' => ?_
      obtain ⟨a, xs, rfl, sq, rs⟩ := r'
      exact ⟨a, rfl, ⟨xs, by rw [L.K]; exact sq.sq⟩, by rw [L.K]; exact p' w' _ e' o' l' (serves_list sq rs)⟩
    | tup ds =>
      refine .inr (.inl ⟨w, env, e1, o, er, ?_⟩)
      rw [q]
      refine fun w' v e' o' l' r' => ?_
      obtain ⟨a, xs, rfl, sq, rs⟩ := r'
      exact ⟨a, rfl, ⟨xs, by rw [L.K]; exact sq.sq⟩, by rw [L.K]; exact p' w' _ e' o' l' (serves_tup sq rs)⟩
    | str z =>
      refine .inr (.inr ⟨w, env, e1, o, er, ?_⟩)
      rw [q]
      exact fun w' v e' o' l' r' => ⟨_, r', p' w' _ e' o' l' serves_str⟩
    | _ => exact p'.elim
theorem w_cell (L : Lay X G W) (h : PE X it (EI G W m)) (hl : ∀ env st d s, m env st = .ok d s → (asL d s).isSome = true ∨ True) : PI X tg it (WI1 G W fun env st => (m env st).bind fun d s => if (asL d s).isSome = true then .ok d s else .bad) := (pi_list h).imp fun σ H Q ⟨w, env, e1, o, er, p⟩ =>
  ⟨w, env, e1, o, er, p.bind fun w1 d x o1 l1 r1 p1 => by
    split at p1
    · rename_i hs
      cases e : asL d w1.st with
      | none => rw [e] at hs; cases hs
      | some ds0 =>
        obtain ⟨a, xs, rfl, s, q⟩ := asL_sq o1 e r1
        refine ⟨a, rfl, ⟨xs, by rw [L.K]; exact s⟩, ?_⟩
        rw [L.K]
        refine p1.ok o1 (b := Itl G.K a) fun w2 o2 l2 ds hd => ?_
        obtain ⟨b, ys, eb, s2, q2⟩ := asL_sq o2 hd (r1.monoW l2)
        cases eb
        refine ⟨fun i y ey => ?_, fun i hi => ⟨ys, s2, by rw [q2.length]; exact hi⟩⟩
        obtain ⟨x, ex, rx⟩ := q2.get ey
        refine ⟨⟨ys, x, s2, ex⟩, fun y' H' hy => ?_⟩
        obtain ⟨rfl, hy⟩ := hy
        have e2 := hy ys s2
        rw [ex] at e2
        cases e2
        exact ⟨w2, rfl, rfl, o2, Le.refl _, rx⟩
    · exact p1.elim⟩
end
/-! ### ranges -/
def rangeL (lo hi : Int) : List D := (List.range (hi - lo).toNat).map fun i => .int (lo + (i : Nat))
noncomputable def wRange1 (a : Av) : Wv := fun env st => (a env st).bind fun ds s => match ds with
  | [.int j] => @ite _ (-(2 ^ 62) ≤ j ∧ j < 2 ^ 62) (Classical.propDecidable _) (.ok (rangeL 0 j) s) .bad
  | _ => .bad
noncomputable def wRange2 (a : Av) : Wv := fun env st => (a env st).bind fun ds s => match ds with
  | [.int i, .int j] => @ite _ (-(2 ^ 62) ≤ i ∧ i < 2 ^ 62 ∧ -(2 ^ 62) ≤ j ∧ j < 2 ^ 62) (Classical.propDecidable _) (.ok (rangeL i j) s) .bad
  | _ => .bad
/-- a range by steps: the number of its items, the items -/
def rangeN (i j c : Int) : Nat := (Builtin.Range.rangeSize i j c).toNat
def rangeC (i j c : Int) : List D := (List.range (rangeN i j c)).map fun k => .int (i + (k : Nat) * c)
noncomputable def wRange3 (a : Av) : Wv := fun env st => (a env st).bind fun ds s => match ds with
  | [.int i, .int j, .int c] => @ite _ (c ≠ 0 ∧ c.natAbs < 1073741824 ∧ Builtin.Range.small i j c = true ∧ Builtin.Range.rangeSize i j c = (rangeN i j c : Int)) (Classical.propDecidable _) (.ok (rangeC i j c) s) .bad
  | _ => .bad
section
variable {X : Cx} {G : CT} {W : WX} {pos p : Pos} {tg a b : Expr} {ma : Av}
theorem serves_range {w0 : Wd} {lo : Int} {n : Nat} : Serves G w0 ((List.range n).map fun i => .int (lo + (i : Nat))) (Itr lo n) := fun w o l => by
  refine ⟨fun i d e => ?_, by show n ≤ _; simp⟩
  rw [List.getElem?_map] at e
  cases q : (List.range n)[i]? with
  | none => rw [q] at e; cases e
  | some c =>
    rw [q] at e
    cases e
    have hl := (List.getElem?_eq_some_iff.mp q).1
    have ec : i = c := by
      rw [List.getElem?_range (by simpa using hl)] at q
      exact Option.some.inj q
    subst ec
    refine ⟨by show i < n; simpa using hl, fun y H' hy => ?_⟩
    obtain ⟨rfl, rfl⟩ := hy
    exact ⟨w, rfl, rfl, o, Le.refl _, rfl⟩
theorem w_range1 (hg : Gl X "range") (hm : X.mg "range" = none) (ha : PA X [a] (AI G W ma)) (hs : starEach [a] X.env = [(false, eval a X.env)] := by rfl) : PI X tg (.Call (.Name "range" p) [a] [] pos) (WI G W (wRange1 ma)) := (pi_range1 hg hm ha hs).imp fun σ H Q ⟨w, env, e1, o, er, pp⟩ =>
  ⟨w, env, e1, o, er, pp.bind fun w1 ds xs o1 l1 r1 p1 => by
    split at p1
    · split at p1
      · rename_i j h
        obtain ⟨x, rfl, rx⟩ := r1.one'
        refine ⟨j, by rw [show x = _ from rx], h.1, h.2, ?_⟩
        have e : (j - 0).toNat = j.toNat := by omega
        unfold rangeL at p1
        rw [e] at p1
        exact p1.ok o1 serves_range
      · exact p1.elim
    · exact p1.elim⟩
theorem w_range2 (hg : Gl X "range") (hm : X.mg "range" = none) (ha : PA X [a, b] (AI G W ma)) (hs : starEach [a, b] X.env = [(false, eval a X.env), (false, eval b X.env)] := by rfl) (hs2 : starEach [b] X.env = [(false, eval b X.env)] := by rfl) : PI X tg (.Call (.Name "range" p) [a, b] [] pos) (WI G W (wRange2 ma)) := (pi_range2 hg hm ha hs hs2).imp fun σ H Q ⟨w, env, e1, o, er, pp⟩ =>
  ⟨w, env, e1, o, er, pp.bind fun w1 ds xs o1 l1 r1 p1 => by
    split at p1
    · split at p1
      · rename_i i j h
        obtain ⟨x, y, rfl, rx, ry⟩ := r1.two'
        exact ⟨i, j, by rw [show x = _ from rx, show y = _ from ry], h, p1.ok o1 serves_range⟩
      · exact p1.elim
    · exact p1.elim⟩
theorem serves_rangeC {w0 : Wd} {lo c : Int} {n : Nat} : Serves G w0 ((List.range n).map fun i => .int (lo + (i : Nat) * c)) (Itc lo c n) := fun w o l => by
  refine ⟨fun i d e => ?_, by show n ≤ _; simp⟩
  rw [List.getElem?_map] at e
  cases q : (List.range n)[i]? with
  | none => rw [q] at e; cases e
  | some c =>
    rw [q] at e
    cases e
    have hl := (List.getElem?_eq_some_iff.mp q).1
    have ec : i = c := by
      rw [List.getElem?_range (by simpa using hl)] at q
      exact Option.some.inj q
    subst ec
    refine ⟨by show i < n; simpa using hl, fun y H' hy => ?_⟩
    obtain ⟨rfl, rfl⟩ := hy
    exact ⟨w, rfl, rfl, o, Le.refl _, rfl⟩
theorem Rls.three' {w : Wd} {d e f : D} {xs : List V} (h : Rls G w [d, e, f] xs) : ∃ x y z, xs = [x, y, z] ∧ Rl G w d x ∧ Rl G w e y ∧ Rl G w f z := by
  obtain ⟨x, r, rfl, h1, h2⟩ := h
  obtain ⟨y, z, rfl, h3, h4⟩ := h2.two'
  exact ⟨x, y, z, rfl, h1, h3, h4⟩
theorem w_range3 {c : Expr} (hg : Gl X "range") (hm : X.mg "range" = none) (ha : PA X [a, b, c] (AI G W ma)) (hs : starEach [a, b, c] X.env = (false, eval a X.env) :: starEach [b, c] X.env := by rfl) (hpl : (backTo pos (starEach [b, c] X.env)).any (·.1) = false := by rfl) : PI X tg (.Call (.Name "range" p) [a, b, c] [] pos) (WI G W (wRange3 ma)) := (pi_range3 hg hm ha hs hpl).imp fun σ H Q ⟨w, env, e1, o, er, pp⟩ =>
  ⟨w, env, e1, o, er, pp.bind fun w1 ds xs o1 l1 r1 p1 => by
    split at p1
    · split at p1
      · rename_i i j c h
        obtain ⟨x, y, z, rfl, rx, ry, rz⟩ := Rls.three' r1
        exact ⟨i, j, c, rangeN i j c, by rw [show x = _ from rx, show y = _ from ry, show z = _ from rz], ⟨h.1, h.2.1, h.2.2.1, h.2.2.2⟩, p1.ok o1 serves_rangeC⟩
      · exact p1.elim
    · exact p1.elim⟩
end
end F
/-! List comprehensions as functions. -/
namespace F
open PySem PySem.Spec PyProof.Rows L2

def Res.cut {α : Type} (r : Res α) : Res α := match r with
  | .ok a s => .ok a s
  | .ex _ _ _ => .bad
  | .bad => .bad
theorem cut_ok {α : Type} (a : α) (s : Sto) : (Res.ok a s).cut = .ok a s := rfl
theorem Post.bindC {α β α' β' : Type} {G : CT} {W W2 : WX} {R : Wd → α → β → Prop} {R' : Wd → α' → β' → Prop} {σ σ2 : L2.St} {w0 w : Wd} {r : Res α} {f : α → Sto → Res α'} {Q : β → Hp → Prop} {Q' : β' → Hp → Prop}
    (h : Post G W R' σ w0 (r.cut.bind f) Q') (k : ∀ (w' : Wd) (a : α) (b : β), Ok G w' → Le w w' → R w' a b → Post G W R' σ w0 (f a w'.st) Q' → Q b w'.H) : Post G W2 R σ2 w r Q := by
  cases r with
  | ok a s => exact fun w' b e o l q => k w' a b o l q (by subst e; exact h)
  | ex c ds s => exact h.elim
  | bad => exact h.elim

/-! ### wiped names -/
def wipeE (env : Env) : List Nat → Env
  | [] => env
  | v :: vs => (wipeE env vs).set v none
theorem wipeE_of {G : CT} {w : Wd} {env : Env} {σ : L2.St} (h : EnvR G w env σ) : ∀ vs : List Nat, EnvR G w (wipeE env vs) (wipe σ vs)
  | [] => h
  | v :: vs => (wipeE_of h vs).unset v
theorem wipe_in {σ : L2.St} {i : Nat} : ∀ {vs : List Nat}, i ∈ vs → (wipe σ vs)[i]? = if i < σ.length then some none else none
  | v :: vs, h => by
    unfold wipe
    by_cases e : v = i
    · subst e
      by_cases hl : v < σ.length
      · rw [if_pos hl, List.getElem?_set_self (by rw [wipe_length]; exact hl)]
      · rw [if_neg hl, List.getElem?_eq_none (by rw [List.length_set, wipe_length]; omega)]
    · rw [List.getElem?_set_ne e]
      exact wipe_in ((List.mem_cons.mp h).resolve_left (Ne.symm e))
theorem wipe_set {σ : L2.St} {i : Nat} {x : Option V} {vs : List Nat} (h : i ∈ vs) : wipe (σ.set i x) vs = wipe σ vs := by
  apply List.ext_getElem?
  intro j
  by_cases hj : j ∈ vs
  · rw [wipe_in hj, wipe_in hj, List.length_set]
  · rw [wipe_out hj, wipe_out hj, List.getElem?_set_ne (fun e : i = j => hj (e ▸ h))]

/-! ### targets of a comprehension -/
def gW (G : CT) (vs : List Nat) (t : Tg) : TG := fun v σ H Q => ∃ (w : Wd) (env : Env) (d : D), w.H = H ∧ Ok G w ∧ EnvR G w env σ ∧ Rl G w d v ∧ ∃ env', t d env = some env' ∧ ∀ σ', EnvR G w env' σ' → wipe σ' vs = wipe σ vs → Q σ' H
def gsW (G : CT) (vs : List Nat) (t : Tgs) : TGs := fun xs σ H Q => ∃ (w : Wd) (env : Env) (ds : List D), w.H = H ∧ Ok G w ∧ EnvR G w env σ ∧ Rls G w ds xs ∧ ∃ env', t ds env = some env' ∧ ∀ σ', EnvR G w env' σ' → wipe σ' vs = wipe σ vs → Q σ' H
section
variable {X : Cx} {G : CT} {W : WX} {pos : Pos} {tg e : Expr} {es : List Expr} {t : Tg} {u : Tgs} {vs : List Nat}
theorem h_name {i : Nat} {x : Str} (hN : X.N.Nodup) (hi : X.N[i]? = some x) (hx : Loc X.env.scope x) (hv : i ∈ vs := by decide) (hf : X.fn x = true ∨ X.env.scope.names.lookup x = some .local := by first | exact .inl rfl | exact .inr rfl | assumption) : PG X (.Name x pos) (gW G vs (gN i)) :=
  PG.imp (pg_name hN hi hx hf) fun v σ H Q ⟨w, env, d, e, o, er, r, env', q, k⟩ => by
    cases q
    exact k _ (er.set i r) (wipe_set hv)
theorem h_nil : PGs X [] (gsW G vs gNil) := PGs.imp pgs_nil fun xs σ H Q ⟨w, env, ds, e, o, er, r, env', q, k⟩ => by
  cases ds with
  | nil =>
    cases q
    exact ⟨r, k σ er rfl⟩
  | cons d ds => cases q
theorem h_cons (h1 : PG X e (gW G vs t)) (h2 : PGs X es (gsW G vs u)) (hs : (assignEach (e :: es) X.env).map (·.2) = assign e X.env :: (assignEach es X.env).map (·.2) := by rfl) : PGs X (e :: es) (gsW G vs (gCons t u)) := PGs.imp (pgs_cons h1 h2 hs) fun xs σ H Q ⟨w, env, ds, e, o, er, r, env', q, k⟩ => by
  cases ds with
  | nil => cases q
  | cons d ds =>
    obtain ⟨x, xs, rfl, r1, r2⟩ := r
    unfold gCons at q
    dsimp only at q
    cases q1 : t d env with
    | none => rw [q1] at q; cases q
    | some env1 =>
      rw [q1] at q
      exact ⟨x, xs, rfl, w, env, d, e, o, er, r1, env1, q1, fun σ1 er1 k1 => ⟨w, env1, ds, e, o, er1, r2, env', q, fun σ' er' k2 => k σ' er' (k2.trans k1)⟩⟩
theorem h_tup {k n : Nat} (hK : X.K = G.K) (hc : X.calm = true) (h : PGs X es (gsW G vs u)) (hn : (assignEach es X.env).length = n := by rfl) (hst : (assignEach es X.env).findIdx? (·.1) = none := by rfl) : PG X (.Tuple es k pos) (gW G vs (gT n u)) :=
  PG.imp (pg_tup hc h hn hst) fun v σ H Q ⟨w, env, d, e, o, er, r, env', q, kk⟩ => by
    unfold gT at q
    split at q
    · split at q
      · rename_i ds hl
        obtain ⟨a, xs, rfl, s, rs⟩ := r
        subst e
        exact ⟨a, xs, rfl, by rw [hK]; exact s.sq, by rw [rs.length]; exact hl, w, env, ds, rfl, o, er, rs, env', q, kk⟩
      · cases q
    · cases q
end

/-! ### the hidden list -/
section
variable {G : CT}
/-- hidden from here on -/
theorem hide_new {w : Wd} (o : Ok G w) {p : Addr} {H' : Hp} (n : w.H p = none) (k : ∀ a u, w.H a = some u → H' a = some u) (hp : ∃ u, H' p = some u) : Ok G ⟨w.ρ, w.st, H', p :: w.hid⟩ ∧ Lw w ⟨w.ρ, w.st, H', p :: w.hid⟩ := by
  have l : Lw w ⟨w.ρ, w.st, H', p :: w.hid⟩ := ⟨fun _ _ e => e, fun a u e nl => ⟨k a u e, fun z => by
    rcases z with z | z
    · rcases List.mem_cons.mp z with z | z
      · subst z
        rw [n] at e
        cases e
      · exact nl (.inl z)
    · exact nl (.inr z)⟩⟩
  refine ⟨⟨o.len, o.nd, fun i c a e1 e2 => CellR.growW l (fun u q => k a u q) (o.cell i c a e1 e2), fun a m => ?_⟩, l⟩
  rcases List.mem_cons.mp m with z | z
  · subst z
    exact ⟨hp, o.new n⟩
  · obtain ⟨⟨u, e⟩, q⟩ := o.hid a z
    exact ⟨⟨u, k a u e⟩, q⟩
/-- a hidden list changes -/
theorem hid_set {w : Wd} (o : Ok G w) {p : Addr} {u : HO} (m : p ∈ w.hid) : Ok G ⟨w.ρ, w.st, upd w.H p u, w.hid⟩ ∧ Lw w ⟨w.ρ, w.st, upd w.H p u, w.hid⟩ := by
  have l : Lw w ⟨w.ρ, w.st, upd w.H p u, w.hid⟩ := ⟨fun _ _ e => e, fun a v e nl => ⟨by
    show upd w.H p u a = some v
    rw [upd_ne (fun z : a = p => nl (.inl (by rw [z]; exact m)))]
    exact e, fun z => nl z⟩⟩
  refine ⟨⟨o.len, o.nd, fun i c a e1 e2 => CellR.growW l (fun v q => ?_) (o.cell i c a e1 e2), fun a z => ?_⟩, l⟩
  · show upd w.H p u a = some v
    rw [upd_ne (fun z => (o.hid p m).2 (by rw [← z]; exact List.mem_of_getElem? e2))]
    exact q
  · obtain ⟨⟨v, e⟩, q⟩ := o.hid a z
    by_cases h : a = p
    · subst h
      exact ⟨⟨u, upd_same⟩, q⟩
    · exact ⟨⟨v, by show upd w.H p u a = some v; rw [upd_ne h]; exact e⟩, q⟩
/-- let out: a pure list -/
theorem hid_out {w : Wd} (o : Ok G w) {p : Addr} {hs : List Addr} (e : w.hid = p :: hs) (n : p ∉ hs) : Ok G ⟨w.ρ, w.st, w.H, hs⟩ ∧ Lw w ⟨w.ρ, w.st, w.H, hs⟩ ∧ ¬ Wd.live ⟨w.ρ, w.st, w.H, hs⟩ p := by
  have l : Lw w ⟨w.ρ, w.st, w.H, hs⟩ := ⟨fun _ _ q => q, fun a u q nl => ⟨q, fun z => by
    rcases z with z | z
    · exact nl (.inl (by rw [e]; exact List.mem_cons_of_mem _ z))
    · exact nl (.inr z)⟩⟩
  refine ⟨⟨o.len, o.nd, fun i c a e1 e2 => CellR.growW l (fun u q => q) (o.cell i c a e1 e2), fun a m => o.hid a (by rw [e]; exact List.mem_cons_of_mem _ m)⟩, l, fun z => ?_⟩
  rcases z with z | ⟨i, c, _, _, z⟩
  · exact n z
  · exact (o.hid p (by rw [e]; exact List.mem_cons_self)).2 (List.mem_of_getElem? z)
/-- let out: a cell -/
theorem hid_cell {w : Wd} (o : Ok G w) {p : Addr} {hs : List Addr} (e : w.hid = p :: hs) (n : p ∉ hs) {ds : List D} {xs : List V} (hp : w.H p = some (.lst xs)) (r : Rls G w ds xs) :
    Ok G ⟨w.ρ ++ [p], w.st ++ [.lst ds], w.H, hs⟩ ∧ Lw w ⟨w.ρ ++ [p], w.st ++ [.lst ds], w.H, hs⟩ := by
  have np : p ∉ w.ρ := (o.hid p (by rw [e]; exact List.mem_cons_self)).2
  have l : Lw w ⟨w.ρ ++ [p], w.st ++ [.lst ds], w.H, hs⟩ := by
    refine ⟨fun i a q => ?_, fun a u q nl => ⟨q, fun z => ?_⟩⟩
    · show (w.ρ ++ [p])[i]? = some a
      rw [List.getElem?_append_left (List.getElem?_eq_some_iff.mp q).1]
      exact q
    · rcases live_snoc (w := ⟨w.ρ, w.st, w.H, hs⟩) o.len z with z | z
      · rcases z with z | z
        · exact nl (.inl (by rw [e]; exact List.mem_cons_of_mem _ z))
        · exact nl (.inr z)
      · exact nl (.inl (by rw [e, z]; exact List.mem_cons_self))
  refine ⟨⟨by simp [o.len], ?_, fun i d a e1 e2 => ?_, fun a m => ?_⟩, l⟩
  · show (w.ρ ++ [p]).Nodup
    rw [List.nodup_append]
    refine ⟨o.nd, by simp, fun a ha b hb => ?_⟩
    have : b = p := by simpa using hb
    subst this
    intro z
    subst z
    exact np ha
  · rcases getElem?_snoc e1 with q1 | ⟨q1, q2⟩
    · rcases getElem?_snoc e2 with q3 | ⟨q3, q4⟩
      · exact CellR.growW l (fun u q => q) (o.cell i d a q1 q3)
      · have := (List.getElem?_eq_some_iff.mp q1).1
        have := o.len
        omega
    · rcases getElem?_snoc e2 with q3 | ⟨q3, q4⟩
      · have := (List.getElem?_eq_some_iff.mp q3).1
        have := o.len
        omega
      · subst q2
        subst q4
        exact ⟨xs, hp, r.monoW l⟩
  · obtain ⟨q, q2⟩ := o.hid a (by rw [e]; exact List.mem_cons_of_mem _ m)
    refine ⟨q, fun z => ?_⟩
    have z' : a ∈ w.ρ ++ [p] := z
    rcases List.mem_append.mp z' with z1 | z1
    · exact q2 z1
    · have e2 : a = p := by simpa using z1
      exact n (e2 ▸ m)
end

/-! ### the comprehension -/
def tYesF : Tv := fun _ st => .ok true st
def compF (t : Tg) (tt : Tv) (te : Ev) (env : Env) : List D → Sto → Res (List D)
  | [], st => .ok [] st
  | d :: ds, st => match t d env with
    | none => .bad
    | some e => (tt e st).cut.bind fun b s => if b = true then (te e s).cut.bind fun y s1 => (compF t tt te env ds s1).bind fun r s2 => .ok (y :: r) s2 else compF t tt te env ds s
def eLc (m : Bool) (wi : Wv) (t : Tg) (tt : Tv) (te : Ev) (vs : List Nat) : Ev := fun env st => (wi env st).bind fun ds s => if ds.length ≤ sizeLine then (compF t tt te (wipeE env vs) ds s).bind fun r s1 => mkL m r s1 else .bad
theorem bind_bind {α β γ : Type} (r : Res α) (f : α → Sto → Res β) (g : β → Sto → Res γ) : (r.bind f).bind g = r.bind fun a s => (f a s).bind g := by cases r <;> rfl
theorem cut_bind {α β : Type} (r : Res α) (f : α → Sto → Res β) : (r.bind f).cut = r.cut.bind fun a s => (f a s).cut := by cases r <;> rfl
section
variable {X : Cx} {G : CT} {W : WX}
theorem PTs.imp {ifs : List Expr} {t t' : TT} (h : PTs X ifs t) (k : ∀ σ H Q, t' σ H Q → t σ H Q) : PTs X ifs t' := ⟨fun pins s σ H Q I q => h.run pins s σ H Q I (k σ H Q q)⟩
theorem ts_nil : PTs X [] (TsI G W tYesF) := PTs.imp pts_nil fun σ H Q ⟨w, env, e, o, er, p⟩ => by
  subst e
  exact p.ok (a := true) o rfl
theorem ts_one {c : Expr} {tc : Tv} (h : PT X c (TsI G W tc)) : PTs X [c] (TsI G W tc) := pts_one h
theorem lc_main {t : Tg} {tt : Tv} {te : Ev} {vs : List Nat} {m : Bool} {σ : L2.St} {w0 : Wd} {env : Env} {ds : List D} {J : It} {Q : VK} (o0 : Ok G w0) (er0 : EnvR G w0 env σ) (sv : Serves G w0 ds J) (hz : ds.length ≤ sizeLine) (p0 : Post G W (Rl G) σ w0 ((compF t tt te (wipeE env vs) ds w0.st).bind fun r s => mkL m r s) Q) : tLc (fun _ H R => R J H) (gW G vs t) (TsI G W0 tt) (EI G W0 te) vs σ w0.H Q := by
  intro DD hD
  refine ⟨fun i n H => n = ds.length - i ∧ i ≤ ds.length ∧ ∃ (w : Wd) (acc : List D) (xs : List V), w.H = H ∧ Ok G w ∧ Lw w0 w ∧ w.hid = DD :: w0.hid ∧ (∀ a ∈ w0.hid, w.H a = w0.H a) ∧ H DD = some (.lst xs) ∧ Rls G w acc xs ∧ acc.length ≤ i ∧ Post G W (Rl G) σ w0 ((compF t tt te (wipeE env vs) (ds.drop i) w.st).bind fun r s => mkL m (acc ++ r) s) Q, ⟨_, rfl, Nat.zero_le _, ?_⟩, ?_⟩
  · obtain ⟨o1, l1⟩ := hide_new o0 (H' := upd w0.H DD (.lst [])) hD (keeps_upd hD) ⟨_, upd_same⟩
    refine ⟨⟨w0.ρ, w0.st, upd w0.H DD (.lst []), DD :: w0.hid⟩, [], [], rfl, o1, l1, rfl, fun a z => ?_, upd_same, rfl, Nat.le_refl _, p0⟩
    show upd w0.H DD (.lst []) a = _
    rw [upd_ne (fun e : a = DD => o0.new_hid hD (e ▸ z))]
  rintro i n H1 ⟨rfl, hi, w1, acc, xs, rfl, o1, l1, hh, hs, hx, ra, hal, p1⟩
  obtain ⟨s1, s2⟩ := sv w1 o1 l1
  have nD : DD ∉ w0.hid := o0.new_hid hD
  by_cases hlt : i < ds.length
  · obtain ⟨g1, g2⟩ := s1 i ds[i] (List.getElem?_eq_getElem hlt)
    refine .inr ⟨g1, fun H' => (ds.length - (i + 1)) = ds.length - (i + 1) ∧ i + 1 ≤ ds.length ∧ ∃ (w : Wd) (acc : List D) (xs : List V), w.H = H' ∧ Ok G w ∧ Lw w0 w ∧ w.hid = DD :: w0.hid ∧ (∀ a ∈ w0.hid, w.H a = w0.H a) ∧ H' DD = some (.lst xs) ∧ Rls G w acc xs ∧ acc.length ≤ i + 1 ∧ Post G W (Rl G) σ w0 ((compF t tt te (wipeE env vs) (ds.drop (i + 1)) w.st).bind fun r s => mkL m (acc ++ r) s) Q, fun H' q => ⟨_, by omega, q⟩, fun x H' y => ?_⟩
    obtain ⟨w2, rfl, e2, o2, l2, r2⟩ := g2 x H' y
    rw [List.drop_eq_getElem_cons hlt] at p1
    unfold compF at p1
    split at p1
    · exact p1.elim
    rename_i env2 ht
    have keepH : ∀ {w' : Wd}, Le w1 w' → w'.hid = DD :: w0.hid ∧ (∀ a ∈ w0.hid, w'.H a = w0.H a) ∧ w'.H DD = some (.lst xs) := fun {w'} l => ⟨l.hid.trans hh, fun a z => (l.hide a (by rw [hh]; exact List.mem_cons_of_mem _ z)).trans (hs a z), (l.hide DD (by rw [hh]; exact List.mem_cons_self)).trans hx⟩
    refine ⟨w2, wipeE env vs, ds[i], rfl, o2, wipeE_of (er0.monoW (l1.trans l2.toLw)) vs, r2, env2, ht, fun σ2 er2 hw => ⟨hw.trans ?_, w2, env2, rfl, o2, er2, ?_⟩⟩
    · apply List.ext_getElem?
      intro j
      by_cases hj : j ∈ vs
      · rw [wipe_in hj, wipe_in hj, wipe_length]
      · rw [wipe_out hj]
    rw [bind_bind] at p1
    rw [← e2] at p1
    refine Post.bindC p1 fun w3 b b' o3 l3 r3 p3 => ?_
    have r3' : b = b' := r3
    subst r3'
    cases b with
    | false =>
      obtain ⟨k1, k2, k3⟩ := keepH (l2.trans l3)
      exact ⟨rfl, hlt, w3, acc, xs, rfl, o3, l1.trans (l2.trans l3).toLw, k1, k2, k3, ra.mono (l2.trans l3), Nat.le_succ_of_le hal, p3⟩
    | true =>
      have p3' : Post G W (Rl G) σ w0 (((te env2 w3.st).cut.bind fun y s1 => (compF t tt te (wipeE env vs) (ds.drop (i + 1)) s1).bind fun r s2 => .ok (y :: r) s2).bind fun r s => mkL m (acc ++ r) s) Q := p3
      rw [bind_bind] at p3'
      refine ⟨w3, env2, rfl, o3, er2.mono l3, Post.bindC p3' fun w4 d v o4 l4 r4 p4 => ?_⟩
      obtain ⟨k1, k2, k3⟩ := keepH (l2.trans (l3.trans l4))
      have ra4 := ra.mono (l2.trans (l3.trans l4))
      have mD : DD ∈ w4.hid := by rw [k1]; exact List.mem_cons_self
      obtain ⟨o5, l5⟩ := hid_set o4 (u := .lst (xs ++ [v])) mD
      refine ⟨xs, k3, ?_, rfl, hlt, ⟨w4.ρ, w4.st, upd w4.H DD (.lst (xs ++ [v])), w4.hid⟩, acc ++ [d], xs ++ [v], rfl, o5, (l1.trans (l2.trans (l3.trans l4)).toLw).trans l5, k1, fun a z => ?_, upd_same, (ra4.monoW l5).append (.one (r4.monoW l5)), by simp; omega, ?_⟩
      · rw [ra.length]
        omega
      · show upd w4.H DD _ a = _
        rw [upd_ne (fun e : a = DD => nD (e ▸ z))]
        exact k2 a z
      · rw [bind_bind] at p4
        have e5 : (fun (r : List D) (s : Sto) => mkL m ((acc ++ [d]) ++ r) s) = fun r s => mkL m (acc ++ d :: r) s := by
          funext r s
          rw [List.append_assoc]
          rfl
        rw [e5]
        exact p4
  · have e : i = ds.length := by omega
    subst e
    rw [List.drop_length] at p1
    refine .inl ⟨s2, ?_⟩
    have p2 : Post G W (Rl G) σ w0 (mkL m (acc ++ []) w1.st) Q := p1
    rw [List.append_nil] at p2
    unfold mkL at p2
    split at p2
    · obtain ⟨o5, l5⟩ := hid_cell o1 hh nD hx ra
      refine p2 ⟨w1.ρ ++ [DD], w1.st ++ [.lst acc], w1.H, w0.hid⟩ (.ref DD) rfl o5 ⟨l1.trans l5, rfl, hs⟩ ⟨DD, ?_, rfl⟩
      show (w1.ρ ++ [DD])[w1.st.length]? = some DD
      rw [← o1.len, List.getElem?_append_right (Nat.le_refl _)]
      simp
    · obtain ⟨o5, l5, n5⟩ := hid_out o1 hh nD
      exact p2 ⟨w1.ρ, w1.st, w1.H, w0.hid⟩ (.ref DD) rfl o5 ⟨l1.trans l5, rfl, hs⟩ ⟨DD, xs, rfl, ⟨hx, n5⟩, ra.monoW l5⟩
theorem lc_of {wi : Wv} {t : Tg} {tt : Tv} {te : Ev} {vs : List Nat} {m : Bool} : ∀ σ H Q, EI G W (eLc m wi t tt te vs) σ H Q → tLc (WI G W wi) (gW G vs t) (TsI G W0 tt) (EI G W0 te) vs σ H Q := fun σ H Q ⟨w, env, e1, o, er, p⟩ =>
  ⟨w, env, e1, o, er, Post.bind p fun w0 ds J o0 l0 sv p0 => by
    split at p0
    · rename_i hz
      exact lc_main o0 (er.mono l0) sv hz p0
    · exact p0.elim⟩
variable {pos spos py : Pos} {elt tg iter : Expr} {ifs : List Expr} {scope : Scope} {wi : Wv} {t : Tg} {tt : Tv} {te : Ev}
theorem q_lc (m : Bool) (own : List (Str × Nat)) {vs : List Nat} (hv : own.map (·.2) = vs) (hc : X.calm = true) (hN : X.N.Nodup) (hi : PI X tg iter (WI G W wi)) (ok : BlkOk X.N X.env.scope scope own)
    (hg : ∀ (s : Shared) (H : Hp) (C : Addr) (cl : List (Str × Addr)) (fp : List Addr), PG (X.blk s H scope (compEnvC scope cl C X.env) fp) tg (gW G vs t)) (ht : ∀ (s : Shared) (H : Hp) (C : Addr) (cl : List (Str × Addr)) (fp : List Addr), PTs (X.blk s H scope (compEnvC scope cl C X.env) fp) ifs (TsI G W0 tt))
    (he : ∀ (s : Shared) (H : Hp) (C : Addr) (cl : List (Str × Addr)) (fp : List Addr), PE (X.blk s H scope (compEnvC scope cl C X.env) fp) elt (EI G W0 te)) (hs : ∀ x, foldedSetIterable iter X.env x = pure x := by intro _; rfl) :
    PE X (.ListComp elt [⟨tg, iter, ifs, 0⟩] scope pos) (EI G W (eLc m wi t tt te vs)) := by
  subst hv
  exact (pe_lc hc hN hi ok hg ht he hs).imp lc_of
theorem z_setLc (m : Bool) (own : List (Str × Nat)) {vs : List Nat} (hv : own.map (·.2) = vs) {i : Nat} {y : Str} (hc : X.calm = true) (hN : X.N.Nodup) (hy : X.N[i]? = some y) (hyl : X.env.scope.names.lookup y = some .local)
    (hsw : swapsWith (.ListComp elt [⟨tg, iter, ifs, 0⟩] scope pos) (some (.Name y py)) spos.line X.env = pure true) (hi : PI X tg iter (WI G W wi)) (ok : BlkOk X.N X.env.scope scope own)
    (hg : ∀ (s : Shared) (H : Hp) (C : Addr) (cl : List (Str × Addr)) (fp : List Addr), PG (X.blk s H scope (compEnvC scope cl C X.env) fp) tg (gW G vs t)) (ht : ∀ (s : Shared) (H : Hp) (C : Addr) (cl : List (Str × Addr)) (fp : List Addr), PTs (X.blk s H scope (compEnvC scope cl C X.env) fp) ifs (TsI G W0 tt))
    (he : ∀ (s : Shared) (H : Hp) (C : Addr) (cl : List (Str × Addr)) (fp : List Addr), PE (X.blk s H scope (compEnvC scope cl C X.env) fp) elt (EI G W0 te)) (hs : ∀ x, foldedSetIterable iter X.env x = pure x := by intro _; rfl) :
    PS X (.Assign [.Name y py] (.ListComp elt [⟨tg, iter, ifs, 0⟩] scope pos) spos) (SI G W (sSet i (eLc m wi t tt te vs))) := by
  subst hv
  exact (ps_setLc hc hN hy hyl hsw hi ok hg ht he hs).imp fun E σ H ⟨w, env, e1, o, er, p⟩ =>
  lc_of σ H _ ⟨w, env, e1, o, er, PostS.bind er p fun w1 d v o1 l1 r1 p1 => p1.toNx o1 ((er.mono l1).set i r1)⟩
end
end F
/-! Ranges as values, isinstance, list(text), reversed, zip, enumerate. -/
namespace F
open PySem PySem.Spec PyProof.Rows L2

section
variable {X : Cx} {G : CT} {W : WX} {pos p : Pos} {x : Str}
theorem q_ty {n : String} (hg : Gl X x) (hm : X.mg x = none) (hv : bootBuiltins x = some (.type n)) (hn : x ≠ "__name__" := by decide) (hd : (x == ("__debug__" : Str)) = false := by decide) : PE X (.Name x pos) (EI G W (eC (.ty n))) := q_const (pe_bltn (v := .ty n) hg hm hv rfl hn hd) fun _ => rfl
theorem q_cl {c : Nat} (hg : Gl X x) (hm : X.mg x = some (.ref (G.cls c))) (hd : (x == ("__debug__" : Str)) = false := by decide) : PE X (.Name x pos) (EI G W (eC (.cl c))) := q_const (pe_glob (v := .ref (G.cls c)) hg hm rfl hd) fun _ => rfl
end

/-! ### range(..) as a value -/
noncomputable def fRange : Fn := fun ds st => match ds with
  | [.int i, .int j, .int c] => @ite _ (c ≠ 0 ∧ c.natAbs < 1073741824) (Classical.propDecidable _) (.ok (.rng i j c) st) .bad
  | [.int i, .int j] => .ok (.rng i j 1) st
  | _ => .bad
noncomputable def wRngV (m : Ev) : Wv := fun env st => (m env st).bind fun d s => match d with
  | .rng i j c => @ite _ (Builtin.Range.small i j c = true ∧ Builtin.Range.rangeSize i j c = (rangeN i j c : Int)) (Classical.propDecidable _) (.ok (rangeC i j c) s) .bad
  | _ => .bad
section
variable {X : Cx} {G : CT} {W : WX} {pos p : Pos} {tg e : Expr} {m : Ev}
theorem cr_rangeV : CallR X (.type "range") (fun vs H Q => ∃ i j c, (vs = [V.int i, V.int j, V.int c] ∧ c ≠ 0 ∧ c.natAbs < 1073741824 ∨ vs = [V.int i, V.int j] ∧ c = 1) ∧ ∀ p, H p = none → Q (.ref p) (upd H p (rngO p i j c))) := by
  intro pins s σ H vs us Q I r h
  obtain ⟨i, j, c, h, q⟩ := h
  have fin : ∀ (t u v : Tok) (tk : Nat), EP X pins σ Q (.ref s.heap.objs.size) { s with heap := s.heap.push { cls := .type "range", data := .fields #[.int i t, .int j u, .int c v] }, toks := tk } := fun t u v tk =>
    ⟨.ref s.heap.objs.size, upd H s.heap.objs.size (rngO s.heap.objs.size i j c), I.laid (t' := tk) (fun b o e => Heap.get?_push_of_some _ e) (Nat.le_refl _)
      ⟨⟨t, u, v, Heap.get?_push_size _ rfl⟩, ⟨_, Heap.get?_push_size _ rfl⟩, fun h1 h2 ⟨t, u, v, e⟩ k => ⟨t, u, v, k _ e⟩⟩, rfl, q _ (I.hok.fresh (Nat.le_refl _))⟩
  rcases h with ⟨rfl, hc, hs⟩ | ⟨rfl, rfl⟩
  · cases r with
    | cons r rr =>
      cases rr with
      | cons r' rr =>
        cases rr with
        | cons r'' rr =>
          cases rr
          obtain ⟨t, rfl⟩ := r
          obtain ⟨t', rfl⟩ := r'
          obtain ⟨t'', rfl⟩ := r''
          exact call_range_3 hc (fin _ _ _ _) (.inl (PyProof.noPylong_small hs))
  · obtain ⟨u1, u2, rfl, ri, rj⟩ := vals2 r
    obtain ⟨t, rfl⟩ := ri
    obtain ⟨u, rfl⟩ := rj
    exact call_range_2 (fin _ _ _ _)
theorem Post.new_rng {σ : L2.St} {w : Wd} {i j c : Int} {Q : VK} (h : Post G W (Rl G) σ w (.ok (.rng i j c) w.st) Q) (o : Ok G w) {p : Addr} (n : w.H p = none) : Q (.ref p) (upd w.H p (rngO p i j c)) :=
  h ⟨w.ρ, w.st, upd w.H p (rngO p i j c), w.hid⟩ (.ref p) rfl (ok_grow o (keeps_upd n)) (le_grow o (keeps_upd n)) ⟨p, rfl, upd_same, o.nlive n⟩
theorem cf_rangeV : CallF G fRange (fun vs H Q => ∃ i j c, (vs = [V.int i, V.int j, V.int c] ∧ c ≠ 0 ∧ c.natAbs < 1073741824 ∨ vs = [V.int i, V.int j] ∧ c = 1) ∧ ∀ p, H p = none → Q (.ref p) (upd H p (rngO p i j c))) := fun W σ w xs ds Q o rs h => by
  unfold fRange at h
  split at h
  · split at h
    · rename_i i j c hc
      obtain ⟨x, y, z, rfl, rx, ry, rz⟩ := Rls.three' rs
      exact ⟨i, j, c, .inl ⟨by rw [show x = _ from rx, show y = _ from ry, show z = _ from rz], hc⟩, fun p n => h.new_rng o n⟩
    · exact h.elim
  · rename_i i j
    obtain ⟨x, y, rfl, rx, ry⟩ := rs.two'
    exact ⟨i, j, 1, .inr ⟨by rw [show x = _ from rx, show y = _ from ry], rfl⟩, fun p n => h.new_rng o n⟩
  · exact h.elim
theorem pi_rngV {te : TE} (he : PE X e te) : PI X tg e (fun σ H R => te σ H fun v H1 => ∃ a i j c n, v = .ref a ∧ H1 a = some (rngO a i j c) ∧ Builtin.Range.small i j c = true ∧ Builtin.Range.rangeSize i j c = ((n : Nat) : Int) ∧ R (Itc i c n) H1) := by
  refine ⟨fun pins s σ H R I h => ?_⟩
  refine thn (he.run pins s σ H _ I h) fun u s1 ⟨v, H1, I1, r1, a, i, j, c, n, e1, ha, h1, h2, q⟩ => ?_
  subst e1
  obtain rfl : u = Value.ref a := r1
  obtain ⟨⟨t, t', t'', hr⟩, _⟩ := (show ObjOk X.prog X.w H1 s1.heap a (rngO a i j c) from I1.hok a _ ha)
  refine wpAny_pyIter_range hr h1 ?_
  refine pi_one (tk := s1.toks) I1 _ (turn_rangeC _ i c n) ?_ q
  have e1 : i + ((0 : Nat) : Int) * c = i := by simp
  have e2 : (n : Int) - ((0 : Nat) : Int) = Builtin.Range.rangeSize i j c := by rw [h2]; simp
  show IsRangeIter _ _ (i + ((0 : Nat) : Int) * c) ((n : Int) - ((0 : Nat) : Int)) c
  rw [e1, e2]
  exact Heap.get?_push_size _ rfl
theorem w_rngV (h : PE X e (EI G W m)) : PI X tg e (WI G W (wRngV m)) := (pi_rngV h).imp fun σ H Q ⟨w, env, e1, o, er, p⟩ =>
  ⟨w, env, e1, o, er, p.bind fun w1 d x o1 l1 r1 p1 => by
    split at p1
    · split at p1
      · rename_i i j c hc
        obtain ⟨a, rfl, ha, n⟩ := r1
        exact ⟨a, i, j, c, _, rfl, ha, hc.1, hc.2, p1.ok o1 serves_rangeC⟩
      · exact p1.elim
    · exact p1.elim⟩
end

/-! ### reversed -/
def wRev (m : Ev) : Wv := fun env st => (m env st).bind fun d s => match d with
  | .lst ds => .ok ds.reverse s
  | .rol ds => .ok ds.reverse s
  | .tup ds => .ok ds.reverse s
  | _ => .bad
section
variable {X : Cx} {G : CT} {W : WX} {pos p : Pos} {tg e : Expr} {m : Ev}
theorem rev_get {α : Type} {l : List α} {i : Nat} {d : α} (h : l.reverse[i]? = some d) : i < l.length ∧ l[l.length - 1 - i]? = some d := by
  have hl := (List.getElem?_eq_some_iff.mp h).1
  rw [List.length_reverse] at hl
  rw [List.getElem?_reverse hl] at h
  exact ⟨hl, h⟩
theorem serves_rev {w0 : Wd} {a : Addr} {xs : List V} {ds : List D} (h : SqLn G w0 a xs) (r : Rls G w0 ds xs) : Serves G w0 ds.reverse (Itv G.K a xs.length) := fun w o l => by
  have s := (h.monoW l).sq
  have q := r.monoW l
  have hn := r.length
  refine ⟨fun i d e => ?_, by show xs.length ≤ _; rw [List.length_reverse]; omega⟩
  obtain ⟨hl, e⟩ := rev_get e
  obtain ⟨x, ex, rx⟩ := q.get e
  rw [← hn] at ex
  refine ⟨⟨by omega, xs, x, s, ex⟩, fun y H' hy => ?_⟩
  obtain ⟨rfl, hy⟩ := hy
  have e2 := hy xs s
  rw [ex] at e2
  cases e2
  exact ⟨w, rfl, rfl, o, Le.refl _, rx⟩
theorem serves_revT {w0 : Wd} {a : Addr} {xs : List V} {ds : List D} (h : SqTn G w0 a xs) (r : Rls G w0 ds xs) : Serves G w0 ds.reverse (RT.ItvT G.K a xs.length) := fun w o l => by
  have s := (h.monoW l).sq
  have q := r.monoW l
  have hn := r.length
  refine ⟨fun i d e => ?_, by show xs.length ≤ _; rw [List.length_reverse]; omega⟩
  obtain ⟨hl, e⟩ := rev_get e
  obtain ⟨x, ex, rx⟩ := q.get e
  rw [← hn] at ex
  refine ⟨⟨by omega, xs, x, s, ex⟩, fun y H' hy => ?_⟩
  obtain ⟨rfl, hy⟩ := hy
  have e2 := hy xs s
  rw [ex] at e2
  cases e2
  exact ⟨w, rfl, rfl, o, Le.refl _, rx⟩
theorem w_rev (L : Lay X G W) (hg : Gl X "reversed") (hm : X.mg "reversed" = none) (he : PE X e (EI G W m)) (hs : starEach [e] X.env = (false, eval e X.env) :: starEach [] X.env := by rfl) : PI X tg (.Call (.Name "reversed" p) [e] [] pos) (WI G W (wRev m)) := (RT.pi_revA hg hm he hs).imp fun σ H Q ⟨w, env, e1, o, er, p⟩ =>
  ⟨w, env, e1, o, er, p.bind fun w1 d x o1 l1 r1 p1 => by
    rw [L.K]
    cases d with
    | lst ds =>
      obtain ⟨a, xs, rfl, sq, rs⟩ := r1
      exact ⟨a, xs, rfl, .inl ⟨SqL.of sq.1, Post.ok p1 o1 (serves_rev (.inl ⟨.inl sq.1, sq.2⟩) rs)⟩⟩
    | rol ds =>
      obtain ⟨a, xs, rfl, sq, rs⟩ := r1
      exact ⟨a, xs, rfl, .inl ⟨sq.sq, Post.ok p1 o1 (serves_rev sq rs)⟩⟩
    | tup ds =>
      obtain ⟨a, xs, rfl, sq, rs⟩ := r1
      exact ⟨a, xs, rfl, .inr ⟨sq.sq, Post.ok p1 o1 (serves_revT sq rs)⟩⟩
    | _ => exact p1.elim⟩
end

/-! ### zip, enumerate -/
def asPure (d : D) : Option (List D) := match d with
  | .lst ds => some ds
  | .rol ds => some ds
  | _ => none
def wZip (a : Av) : Wv := fun env st => (a env st).bind fun ds s => match ds with
  | [.tup es, .tup fs] => .ok (List.zipWith (fun x y => .tup [x, y]) es fs) s
  | [x, y] => match asPure x, asPure y with
    | some es, some fs => .ok (List.zipWith (fun x y => .tup [x, y]) es fs) s
    | _, _ => .bad
  | _ => .bad
def enumL (i : Nat) : List D → List D
  | [] => []
  | d :: ds => .tup [.int (i : Nat), d] :: enumL (i + 1) ds
def wEnum (a : Av) : Wv := fun env st => (a env st).bind fun ds s => match ds with
  | [x] => match asPure x with
    | some es => .ok (enumL 0 es) s
    | none => .bad
  | _ => .bad
section
variable {X : Cx} {G : CT} {W : WX} {pos p tpos : Pos} {e e2 : Expr} {elts : List Expr} {kk : Nat} {ma : Av}
theorem asPure_of {w : Wd} {d : D} {ds : List D} {x : V} (h : asPure d = some ds) (r : Rl G w d x) : ∃ a xs, x = .ref a ∧ SqLn G w a xs ∧ Rls G w ds xs := by
  cases d with
  | lst es =>
    cases h
    obtain ⟨a, xs, rfl, sq, rs⟩ := r
    exact ⟨a, xs, rfl, .inl ⟨.inl sq.1, sq.2⟩, rs⟩
  | rol es =>
    cases h
    obtain ⟨a, xs, rfl, sq, rs⟩ := r
    exact ⟨a, xs, rfl, sq, rs⟩
  | _ => cases h
theorem new_pair {w : Wd} (o : Ok G w) {T : Addr} (n : w.H T = none) {d1 d2 : D} {x y : V} (r1 : Rl G w d1 x) (r2 : Rl G w d2 y) : ∃ w', w'.H = upd w.H T (.tup [x, y]) ∧ w'.st = w.st ∧ Ok G w' ∧ Le w w' ∧ Rl G w' (.tup [d1, d2]) (.ref T) :=
  have l := le_grow o (keeps_upd (o := .tup [x, y]) n)
  ⟨⟨w.ρ, w.st, upd w.H T (.tup [x, y]), w.hid⟩, rfl, rfl, ok_grow o (keeps_upd n), l, T, [x, y], rfl, .inl ⟨.inl upd_same, o.nlive n⟩, .cons (r1.mono l) (.one (r2.mono l))⟩
theorem serves_zip {w0 : Wd} {a b : Addr} {xs ys : List V} {ds es : List D} (h : SqLn G w0 a xs) (k : SqLn G w0 b ys) (r : Rls G w0 ds xs) (q : Rls G w0 es ys) : Serves G w0 (List.zipWith (fun x y => .tup [x, y]) ds es) (Itz G.K a b) := fun w o l => by
  have s1 := (h.monoW l).sq
  have s2 := (k.monoW l).sq
  have r1 := r.monoW l
  have r2 := q.monoW l
  refine ⟨fun i d e => ?_, xs, ys, s1, s2, ?_⟩
  · rw [List.getElem?_zipWith] at e
    split at e
    · rename_i d1 d2 e1 e2
      cases e
      obtain ⟨x, ex, rx⟩ := r1.get e1
      obtain ⟨y, ey, ry⟩ := r2.get e2
      refine ⟨⟨xs, ys, x, y, s1, s2, ex, ey⟩, fun v H' hy => ?_⟩
      obtain ⟨T, x', y', rfl, n, rfl, h1, h2⟩ := hy
      have z1 := h1 xs s1
      have z2 := h2 ys s2
      rw [ex] at z1
      rw [ey] at z2
      cases z1
      cases z2
      exact new_pair o n rx ry
    · cases e
  · rw [r1.length, r2.length, List.length_zipWith]
    omega
theorem serves_zipT {w0 : Wd} {a b : Addr} {xs ys : List V} {ds es : List D} (h : SqTn G w0 a xs) (k : SqTn G w0 b ys) (r : Rls G w0 ds xs) (q : Rls G w0 es ys) : Serves G w0 (List.zipWith (fun x y => .tup [x, y]) ds es) (RZ.ItzT G.K a b) := fun w o l => by
  have s1 := (h.monoW l).sq
  have s2 := (k.monoW l).sq
  have r1 := r.monoW l
  have r2 := q.monoW l
  refine ⟨fun i d e => ?_, xs, ys, s1, s2, ?_⟩
  · rw [List.getElem?_zipWith] at e
    split at e
    · rename_i d1 d2 e1 e2
      cases e
      obtain ⟨x, ex, rx⟩ := r1.get e1
      obtain ⟨y, ey, ry⟩ := r2.get e2
      refine ⟨⟨xs, ys, x, y, s1, s2, ex, ey⟩, fun v H' hy => ?_⟩
      obtain ⟨T, x', y', rfl, n, rfl, h1, h2⟩ := hy
      have z1 := h1 xs s1
      have z2 := h2 ys s2
      rw [ex] at z1
      rw [ey] at z2
      cases z1
      cases z2
      exact new_pair o n rx ry
    · cases e
  · rw [r1.length, r2.length, List.length_zipWith]
    omega
theorem w_zip (L : Lay X G W) (hg : Gl X "zip") (hm : X.mg "zip" = none) (ha : PA X [e, e2] (AI G W ma)) (hs : starEach [e, e2] X.env = (false, eval e X.env) :: starEach [e2] X.env := by rfl) (hpl : (backTo pos (starEach [e2] X.env)).any (·.1) = false := by rfl) :
    PI X (.Tuple elts kk tpos) (.Call (.Name "zip" p) [e, e2] [] pos) (WI G W (wZip ma)) := (RZ.pi_zipA hg hm ha hs hpl).imp fun σ H Q ⟨w, env, e1, o, er, p⟩ =>
  ⟨w, env, e1, o, er, p.bind fun w1 ds vs o1 l1 r1 p1 => by
    rw [L.K]
    split at p1
    · obtain ⟨x, y, rfl, rx, ry⟩ := r1.two'
      obtain ⟨a, xs, rfl, sq, rs⟩ := rx
      obtain ⟨b, ys, rfl, sq2, rs2⟩ := ry
      exact ⟨a, b, xs, ys, rfl, .inr ⟨sq.sq, sq2.sq, p1.ok o1 (serves_zipT sq sq2 rs rs2)⟩⟩
    · split at p1
      · rename_i es fs h1 h2
        obtain ⟨x, y, rfl, rx, ry⟩ := r1.two'
        obtain ⟨a, xs, rfl, sq, rs⟩ := asPure_of h1 rx
        obtain ⟨b, ys, rfl, sq2, rs2⟩ := asPure_of h2 ry
        exact ⟨a, b, xs, ys, rfl, .inl ⟨sq.sq, sq2.sq, p1.ok o1 (serves_zip sq sq2 rs rs2)⟩⟩
      · exact p1.elim
    · exact p1.elim⟩
theorem enumL_get : ∀ {ds : List D} {k i : Nat} {d : D}, (enumL k ds)[i]? = some d → ∃ y, ds[i]? = some y ∧ d = .tup [.int ((k + i : Nat) : Int), y]
  | [], _, _, _, h => by simp [enumL] at h
  | d :: ds, k, 0, e, h => by
    have q : D.tup [.int (k : Nat), d] = e := by simpa [enumL] using h
    exact ⟨d, rfl, q.symm⟩
  | d :: ds, k, i + 1, e, h => by
    have q : (enumL (k + 1) ds)[i]? = some e := by simpa [enumL] using h
    obtain ⟨y, h1, h2⟩ := enumL_get q
    refine ⟨y, by simpa using h1, ?_⟩
    rw [h2, show k + 1 + i = k + (i + 1) by omega]
theorem enumL_length : ∀ (ds : List D) (k : Nat), (enumL k ds).length = ds.length
  | [], _ => rfl
  | d :: ds, k => by
    unfold enumL
    rw [List.length_cons, enumL_length ds, List.length_cons]
theorem serves_enum {w0 : Wd} {a : Addr} {xs : List V} {ds : List D} (h : SqLn G w0 a xs) (r : Rls G w0 ds xs) : Serves G w0 (enumL 0 ds) (Ite G.K a) := fun w o l => by
  have s1 := (h.monoW l).sq
  have r1 := r.monoW l
  refine ⟨fun i d e => ?_, xs, s1, by rw [r1.length, enumL_length]; exact Nat.le_refl _⟩
  obtain ⟨y, e1, rfl⟩ := enumL_get e
  obtain ⟨x, ex, rx⟩ := r1.get e1
  refine ⟨⟨xs, x, s1, ex⟩, fun v H' hy => ?_⟩
  obtain ⟨T, x', rfl, n, rfl, h1⟩ := hy
  have z1 := h1 xs s1
  rw [ex] at z1
  cases z1
  have e2 : (((0 + i : Nat)) : Int) = (i : Nat) := by simp
  rw [e2]
  exact new_pair o n rfl rx
theorem w_enum (L : Lay X G W) (hg : Gl X "enumerate") (hm : X.mg "enumerate" = none) (ha : PA X [e] (AI G W ma)) (hs : starEach [e] X.env = [(false, eval e X.env)] := by rfl) :
    PI X (.Tuple elts kk tpos) (.Call (.Name "enumerate" p) [e] [] pos) (WI G W (wEnum ma)) := (pi_enum hg hm ha hs).imp fun σ H Q ⟨w, env, e1, o, er, p⟩ =>
  ⟨w, env, e1, o, er, p.bind fun w1 ds vs o1 l1 r1 p1 => by
    rw [L.K]
    split at p1
    · split at p1
      · rename_i es h1
        obtain ⟨x, rfl, rx⟩ := r1.one'
        obtain ⟨a, xs, rfl, sq, rs⟩ := asPure_of h1 rx
        exact ⟨a, xs, rfl, sq.sq, p1.ok o1 (serves_enum sq rs)⟩
      · exact p1.elim
    · exact p1.elim⟩
end

/-! ### isinstance -/
inductive Ty where
  | b (n : String) | o (c : Nat)
  deriving DecidableEq
def tyU (G : CT) : Ty → Value
  | .b n => .type n
  | .o c => .ref (G.cls c)
def typeD (d : D) (st : Sto) : Option Ty := match d with
  | .non => some (.b "NoneType")
  | .bl _ => some (.b "bool")
  | .int _ => some (.b "int")
  | .str _ => some (.b "str")
  | .lst _ => some (.b "list")
  | .obj c _ => some (.o c)
  | .ref i => match st[i]? with
    | some (.lst _) => some (.b "list")
    | some (.ins c _) => some (.o c)
    | _ => none
  | .tup _ => some (.b "tuple")
  | .rol _ => some (.b "list")
  | _ => none
def clsD (d : D) : Option Ty := match d with
  | .ty n => some (.b n)
  | .cl c => some (.o c)
  | _ => none
def isiT (tb : List ((Ty × Ty) × Bool)) (t u : Ty) : Option Bool := tb.lookup (t, u)
def fIsi (tb : List ((Ty × Ty) × Bool)) : Fn := fun ds st => match ds with
  | [x, c] => match typeD x st, clsD c with
    | some t, some u => match isiT tb t u with
      | some b => .ok (.bl b) st
      | none => .bad
    | _, _ => .bad
  | _ => .bad
/-- an own class that isinstance looks at -/
structure IsiC (K : PySem.W.Frag) (C : Addr) : Prop where
  cl : Cls K C
  ha : PySem.W.findIn K (.ref C) "__class__" = some (some (.builtin "object.__class__"))
  hn : PySem.W.specialIn K (.builtin "object.__class__") "__get__" = some (some (.builtin "getset_descriptor.__get__"))
  htk : PySem.W.takesIn K (.builtin "object.__class__") = some true
  hm : PySem.W.mroIn K C (.type "object") = some true
section
variable {X : Cx} {G : CT}
theorem lookup_mem {α β : Type} [BEq α] [LawfulBEq α] {k : α} {v : β} : ∀ {l : List (α × β)}, l.lookup k = some v → (k, v) ∈ l
  | [], h => by simp at h
  | (a, b) :: r, h => by
    rw [List.lookup_cons] at h
    by_cases e : (k == a) = true
    · rw [e] at h
      cases h
      rw [eq_of_beq e]
      exact List.mem_cons_self
    · rw [Bool.eq_false_iff.mpr e] at h
      exact List.mem_cons_of_mem _ (lookup_mem h)
theorem cf_isi {tb : List ((Ty × Ty) × Bool)} (hk : ∀ e ∈ tb, PySem.W.kitOne G.K (tyU G e.1.1) (tyU G e.1.2) = some e.2) (ho : ∀ e ∈ tb, ∀ c, e.1.1 = .o c → IsiC G.K (G.cls c)) : CallF G (fIsi tb) (rIsi G.K) := fun W σ w xs ds Q o rs p => by
  unfold fIsi at p
  split at p
  rotate_left
  · exact p.elim
  rename_i x c
  split at p
  rotate_left
  · exact p.elim
  rename_i t u ht hu
  split at p
  rotate_left
  · exact p.elim
  rename_i b hb
  have hm := lookup_mem hb
  have k := hk _ hm
  have ko := ho _ hm
  obtain ⟨v, cv, rfl, rv, rc⟩ := rs.two'
  have kc : ClsV cv (tyU G u) := by
    cases c with
    | ty n => cases hu; rw [show cv = _ from rc]; exact .ty n
    | cl c => cases hu; rw [show cv = _ from rc]; exact .own _
    | _ => cases hu
  have kt : TyX G.K w.H v (tyU G t) := by
    cases x with
    | non => cases ht; rw [show v = .non from rv]; exact .base .non
    | bl b => cases ht; rw [show v = _ from rv]; exact .base (.bl _)
    | int b => cases ht; rw [show v = _ from rv]; exact .base (.int _)
    | str b => cases ht; rw [show v = _ from rv]; exact .base (.str _)
    | lst ds =>
      cases ht
      obtain ⟨a, ys, rfl, sq, _⟩ := rv
      exact .base (.lst sq.1)
    | tup ds =>
      cases ht
      obtain ⟨a, ys, rfl, sq, _⟩ := rv
      rcases sq with ⟨sq | ⟨ob, sq⟩, _⟩ | sq
      · exact .base (.tup sq)
      · exact .fTuple sq
      · obtain ⟨ob, its, n, e1, e2, _⟩ := sq
        exact .kTuple e1 e2
    | rol ds =>
      cases ht
      obtain ⟨a, ys, rfl, sq, _⟩ := rv
      rcases sq with ⟨sq | ⟨ob, sq⟩, _⟩ | sq
      · exact .base (.lst sq)
      · exact .base (.frz sq)
      · obtain ⟨ob, its, n, e1, e2, _⟩ := sq
        exact .kList e1 e2
    | obj c ds =>
      cases ht
      obtain ⟨a, dx, fs, rfl, e, _⟩ := rv
      have z := ko c rfl
      exact .base (.ins e z.cl z.ha z.hn z.htk z.hm)
    | ref i =>
      obtain ⟨a, e, rfl⟩ := rv
      have ht' : (match w.st[i]? with | some (.lst _) => some (Ty.b "list") | some (.ins c _) => some (.o c) | _ => none) = some t := ht
      split at ht'
      · rename_i ds hs
        cases ht'
        obtain ⟨ys, e1, _⟩ := o.cell i _ a hs e
        exact .base (.lst e1)
      · rename_i c' ds hs
        cases ht'
        obtain ⟨dx, fs, e1, _⟩ := o.cell i _ a hs e
        have z := ko c' rfl
        exact .base (.ins e1 z.cl z.ha z.hn z.htk z.hm)
      · cases ht'
    | _ => cases ht
  exact ⟨v, cv, _, _, b, rfl, kc, kt, k, p.ok o rfl⟩
end

/-! ### list(text) -/
def rListS : List V → Hp → VK → Prop := fun xs H Q => ∃ s : List Nat, xs = [.str ⟨s.toArray⟩] ∧ s.length ≤ sizeLine ∧ ∀ l, H l = none → Q (.ref l) (upd H l (.lst (s.map fun c => .str ⟨#[c]⟩)))
def fListS (m : Bool) : Fn := fun ds st => match ds with
  | [.str s] => if s.length ≤ sizeLine then mkL m (s.map fun c => .str [c]) st else .bad
  | _ => .bad
theorem vals_sign {s : List Nat} : ∀ {us : List Value} {k : Nat}, (∀ j v, us[j]? = some v → SignAt ⟨s.toArray⟩ (k + j) v) → us.length + k = s.length → Vals ((s.drop k).map fun c => V.str ⟨#[c]⟩) us
  | [], k, _, hl => by
    have e : k = s.length := by simpa using hl
    subst e
    rw [List.drop_length]
    exact .nil
  | u :: us, k, h, hl => by
    obtain ⟨c, t, h1, h2⟩ := h 0 u rfl
    have h1' : s[k]? = some c := by simpa using h1
    obtain ⟨hk, hc⟩ := List.getElem?_eq_some_iff.mp h1'
    rw [List.drop_eq_getElem_cons hk, hc]
    refine .cons ⟨t, h2⟩ (vals_sign (k := k + 1) (fun j v e => ?_) (by rw [List.length_cons] at hl; omega))
    have z := h (j + 1) v (by simpa using e)
    rw [show k + (j + 1) = k + 1 + j by omega] at z
    exact z
section
variable {X : Cx} {G : CT}
theorem call_listS (hc : X.calm = true) : CallR X (.type "list") rListS := by
  intro pins s σ H xs us Q I r h
  obtain ⟨z, rfl, hz, q⟩ := h
  obtain ⟨u, rfl, t, rfl⟩ := vals1 r
  refine call_list_str (I.ok.hd hc) ⟨z.toArray⟩ t (fun h' tk acc' c' hk hS hacc => ?_) (by simpa using hz)
  obtain ⟨ha, hv⟩ := hacc
  have hv' : Vals (z.map fun c => V.str ⟨#[c]⟩) acc'.toList := by
    have := vals_sign (s := z) (us := acc'.toList) (k := 0) (fun j v e => by rw [Nat.zero_add]; exact hv j v (by simpa using e)) (by simpa using ha)
    simpa using this
  exact ⟨.ref s.heap.objs.size, _, I.laid (t' := tk) hk (Nat.le_refl _) (show ObjOk X.prog X.w _ h' _ (.lst _) from ⟨by rw [List.length_map]; exact hz, acc'.toList, c', hv', by simpa using hS⟩), rfl, q _ (I.hok.fresh (Nat.le_refl _))⟩
theorem rls_signs {w : Wd} : ∀ (s : List Nat), Rls G w (s.map fun c => .str [c]) (s.map fun c => V.str ⟨#[c]⟩)
  | [] => rfl
  | c :: s => .cons rfl (rls_signs s)
theorem cf_listS {m : Bool} : CallF G (fListS m) rListS := fun W σ w xs ds Q o rs p => by
  unfold fListS at p
  split at p
  · split at p
    · rename_i s hs
      obtain ⟨x, rfl, rx⟩ := rs.one'
      exact ⟨s, by rw [show x = _ from rx], hs, fun l n => p.mk o (rls_signs s) n⟩
    · exact p.elim
  · exact p.elim
end
end F
/-! Defs, and the law's end. -/
namespace F
open PySem PySem.Spec PyProof.Rows L2

/-- a def's body as a function of its arguments; nl names, np parameters -/
def bodyF (nl np : Nat) (body : Sv) : Fn := fun ds st => if ds.length = np then match body (ds.map some ++ List.replicate (nl - np) none) st with
  | .nx _ s => .ok .non s
  | .rt d s => .ok d s
  | .ex c es _ s => .ex c es s
  | _ => .bad
  else .bad
theorem start_at {G : CT} {w : Wd} : ∀ {ds : List D} {vs : List V} {n i : Nat} {d : D}, Rls G w ds vs → (ds.map some ++ List.replicate n (none : Option D))[i]? = some (some d) → ∃ x, (vs.map some ++ List.replicate n (none : Option V))[i]? = some (some x) ∧ Rl G w d x
  | [], vs, n, i, d, h, e => by
    have e2 : (List.replicate n (none : Option D))[i]? = some (some d) := e
    rw [List.getElem?_replicate] at e2
    split at e2 <;> cases e2
  | y :: ds, vs, n, 0, d, h, e => by
    obtain ⟨x, r, rfl, h1, h2⟩ := h
    have q : y = d := by simpa using e
    subst q
    exact ⟨x, rfl, h1⟩
  | y :: ds, vs, n, i + 1, d, h, e => by
    obtain ⟨x, r, rfl, h1, h2⟩ := h
    obtain ⟨x', e1, r1⟩ := start_at (n := n) (i := i) h2 (by simpa using e)
    exact ⟨x', by simpa using e1, r1⟩
theorem start_env {G : CT} {w : Wd} {ds : List D} {vs : List V} {N : List Str} (h : Rls G w ds vs) : EnvR G w (ds.map some ++ List.replicate (N.length - ds.length) none) (L2.start N vs) := by
  have hl := h.length
  refine ⟨?_, fun i d e => ?_⟩
  · unfold L2.start
    simp [hl]
  · unfold L2.start
    rw [hl]
    exact start_at h e
section
variable {P : Program} {w : World} {K : PySem.W.Frag} {mg : Str → Option Value} {base : Heap} {G : CT}
theorem si_of {m : Sv} {N : List Str} {np : Nat} {vs : List V} {H : Hp} {Q : VK} {E : XK} (h : spI G (bodyF N.length np m) vs H Q E) : SI G (fun c d _ H' => E c d H') m { nx := fun _ H' => Q .non H', rt := Q } (L2.start N vs) H := by
  obtain ⟨w, ds, e1, o, r, p⟩ := h
  unfold bodyF at p
  split at p
  · rename_i hl
    rw [← hl] at p
    refine ⟨w, _, e1, o, start_env r, ?_⟩
    cases e : m (ds.map some ++ List.replicate (N.length - ds.length) none) w.st with
    | nx env s =>
      rw [e] at p
      exact fun w' σ e' o' l' r' => p w' .non e' o' l' rfl
    | rt d s =>
      rw [e] at p
      exact fun w' v e' o' l' r' => p w' v e' o' l' r'
    | bk env s => rw [e] at p; exact p.elim
    | ct env s => rw [e] at p; exact p.elim
    | ex c es env s =>
      rw [e] at p
      exact fun w' σ dd e' o' l' r' x => p w' dd e' o' l' x
    | bad => rw [e] at p; exact p.elim
  · exact p.elim
/-- a def by its body -/
theorem fn_okF {x qual : Str} {st : Stmt} {f : Addr} {fd : FuncData} {N ps : List Str} {k : Nat} {body : Sv} (Fu : Fun K x qual st f fd) (S : FnScope N ps (defScope st))
    (hb : ∀ (cdv : Value) (A : Around) (outer : List PySem.Env) (s : Shared) (H : Hp) (E : XK), Room k (A.deeper (envOfC qual (defScope st) s.heap.objs.size f cdv)) → PSs (cxOf (L2.CX P w) P w K mg base N qual (defScope st) f cdv A outer s H E) (defBody st) (SI G (fun c d _ H' => E c d H') body)) :
    FnOk P w K mg base (L2.CX P w) (k + 1) f fd ps (spI G (bodyF N.length ps.length body)) :=
  Fu.okX S (fun vs H Q E h => spI_len (fun ds st hne => by
    unfold bodyF at hne
    split at hne
    · assumption
    · exact absurd rfl hne) vs H Q E h) fun cdv A outer s H vs Q E hr h => ⟨_, hb cdv A outer s H E hr, si_of h⟩
theorem fn_okG {x qual : Str} {st : Stmt} {f : Addr} {fd : FuncData} {N ps : List Str} {k nl np : Nat} {body : Sv} {sc : Scope} {bd : List Stmt} (hn : N.length = nl) (hp : ps.length = np) (hsc : defScope st = sc) (hbd : defBody st = bd) (Fu : Fun K x qual st f fd) (S : FnScope N ps sc)
    (hb : ∀ (cdv : Value) (A : Around) (outer : List PySem.Env) (s : Shared) (H : Hp) (E : XK), Room k (A.deeper (envOfC qual sc s.heap.objs.size f cdv)) → PSs (cxOf (L2.CX P w) P w K mg base N qual sc f cdv A outer s H E) bd (SI G (fun c d _ H' => E c d H') body)) :
    FnOk P w K mg base (L2.CX P w) (k + 1) f fd ps (spI G (bodyF nl np body)) := by
  subst hn
  subst hp
  subst hsc
  subst hbd
  exact fn_okF Fu S hb
/-- what every body's context gives -/
theorem layX {x qual : Str} {sc : Scope} {N : List Str} {f : Addr} {cdv : Value} {A : Around} {outer : List PySem.Env} {s : Shared} {H : Hp} {E : XK} (hK : K = G.K) : Lay (cxOf (L2.CX P w) P w K mg base N qual sc f cdv A outer s H E) G (fun c d _ H' => E c d H') := ⟨hK, takes_of rfl rfl rfl rfl⟩
end
/-- the law's promise -/
def spLaw (K : PySem.W.Frag) : Sp := fun vs H Q _ => ∃ (a : Addr) (ns : List Int), vs = [.ref a] ∧ SqL K H a (ns.map V.int) ∧ ns.length ≤ 63 ∧ ∀ H', Q (.bl true) H'
theorem ints_rls {G : CT} {w : Wd} : ∀ ns : List Int, Rls G w (ns.map D.int) (ns.map V.int)
  | [] => rfl
  | n :: ns => .cons rfl (ints_rls ns)
theorem law_sp {G : CT} {m : Fn} (h : ∀ ns : List Int, ns.length ≤ 63 → ∃ s, m [.rol (ns.map .int)] [] = .ok (.bl true) s) : ∀ vs H Q E, spLaw G.K vs H Q E → spI G m vs H Q E := fun vs H Q E ⟨a, ns, e, s, hl, k⟩ => by
  subst e
  obtain ⟨s', e⟩ := h ns hl
  have nl : ¬ Wd.live ⟨[], [], H, []⟩ a := fun z => by
    rcases z with z | ⟨i, c, _, _, z⟩
    · exact (List.not_mem_nil z)
    · simp at z
  refine ⟨⟨[], [], H, []⟩, [.rol (ns.map .int)], rfl, ⟨rfl, List.nodup_nil, fun i c a e1 _ => by simp at e1, fun a m => (List.not_mem_nil m).elim⟩, .one ⟨a, ns.map .int, rfl, ?_, ints_rls ns⟩, ?_⟩
  · rcases s with s | s
    · exact .inl ⟨s, nl⟩
    · exact .inr s
  · rw [e]
    exact fun w' v _ _ _ r => by
      rw [show v = _ from r]
      exact k _
theorem cx_no {P : Program} {w : World} (H : Hp) (s : Shared) (e : Value) (s' : Shared) : L2.CX P w [] H s (fun _ _ _ => False) e s' → False := fun h => by
  obtain ⟨_, _, _, _, _, _, _, _, _, _, _, _, z⟩ := h
  exact z.elim
theorem walk {l : PySem.W.OpenLaw} {q : Program} {loose : List Str} {XP : (Str → Option Value) → Heap → Prop} {YP : World → Heap → Prop} {d : DefRec} {K : Params → PySem.W.Frag} (k : Nat) (hk : Room k callerA) (hn : l.most = some 63) (hdf : d.params.defaults = [])
    (hY : ∀ (w : World) (h : Heap), YP w h → (K w.params).In h)
    (Fx : ∀ (w : World) (mg : Str → Option Value) (fa : Addr) (h : Heap), (K w.params).In h → h.Ns mainGlobals mg → mg d.name = some (.ref fa) →
      ∃ fd : FuncData, (∀ (s : Shared) (u : Value), BindsTo s fd ⟨[u], []⟩ [("script", u)]) ∧ ∀ base : Heap, (K w.params).In base → base.Ns mainGlobals mg → FnOk l.prog w (K w.params) mg base (L2.CX l.prog w) k fa fd ["script"] (spLaw (K w.params))) :
    PySem.W.WalkO q loose XP YP l.row.toRowW d [] (fun f vs => PySem.call f vs) :=
  L2.walk_of (n := 63) (k := k) (x := "script") (CX := fun w => L2.CX l.prog w) (sp := fun w => spLaw (K w.params)) hn (by decide) hdf hk hY Fx (fun _ _ a ns hl _ hS => ⟨a, ns, rfl, hS, hl, fun _ => rfl⟩) fun _ => cx_no
end F
/-! The rules in short, as a program prints them. -/
namespace F
open PySem PySem.Spec PyProof.Rows L2

def fListA (m : Bool) : Fn := fun ds st => match ds with
  | [.str s] => if s.length ≤ sizeLine then mkL m (s.map fun c => .str [c]) st else .bad
  | [.tup es] => mkL m es st
  | [d] => match asL d st with
    | some es => mkL m es st
    | none => .bad
  | _ => .bad
def eFrz (m : Ev) : Ev := fun env st => (m env st).bind fun d s => match d with
  | .ref i => match s[i]? with
    | some (.lst ds) => .ok (.lst ds) (s.set i .dead)
    | _ => .bad
  | d => .ok d s
def eNeg (m : Ev) : Ev := fun env st => (m env st).bind fun d s => match d with
  | .int i => .ok (.int (-i)) s
  | _ => .bad
section
variable {X : Cx} {G : CT} {W : WX} {pos p cpos apos : Pos} {a b e ob ix : Expr} {es : List Expr} {ma mb me mo mi : Ev} {mr : Av}
theorem cf_listA (m : Bool) : CallF G (fListA m) (fun xs H Q => (∃ p ys, xs = [.ref p] ∧ (SqL G.K H p ys ∨ SqT G.K H p ys) ∧ ∀ l, H l = none → Q (.ref l) (upd H l (.lst ys))) ∨ rListS xs H Q) := fun W σ w xs ds Q o rs p => by
  unfold fListA at p
  split at p
  · split at p
    · rename_i s hs
      obtain ⟨x, rfl, rx⟩ := rs.one'
      exact .inr ⟨s, by rw [show x = _ from rx], hs, fun l n => p.mk o (rls_signs s) n⟩
    · exact p.elim
  · obtain ⟨x, rfl, rx⟩ := rs.one'
    obtain ⟨a, ys, rfl, sq, r⟩ := rx
    exact .inl ⟨a, ys, rfl, .inr sq.sq, fun l n => p.mk o r n⟩
  · split at p
    · rename_i es h
      obtain ⟨x, rfl, rx⟩ := rs.one'
      obtain ⟨a, ys, rfl, sq, r⟩ := asL_sq o h rx
      exact .inl ⟨a, ys, rfl, .inl sq, fun l n => p.mk o r n⟩
    · exact p.elim
  · exact p.elim
theorem q_frz (ha : PE X a (EI G W ma)) : PE X a (EI G W (eFrz ma)) := ha.imp fun σ H Q ⟨w, env, e1, o, er, p⟩ =>
  ⟨w, env, e1, o, er, p.bind fun w1 d x o1 l1 r1 p1 => by
    split at p1
    · split at p1
      · rename_i i _ ds hs
        obtain ⟨b, hb, rfl⟩ := r1
        obtain ⟨ys, e2, q⟩ := o1.cell i _ b hs hb
        have lf := le_free (w := w1) hs rfl
        exact p1 ⟨w1.ρ, w1.st.set i .dead, w1.H, w1.hid⟩ (.ref b) rfl (ok_free o1 hs rfl) lf ⟨b, ys, rfl, ⟨e2, free_nlive o1 hb⟩, q.mono lf⟩
      · exact p1.elim
    · exact p1.ok o1 r1⟩
theorem q_neg (ha : PE X a (EI G W ma)) : PE X (.UnaryOp .USub a pos) (EI G W (eNeg ma)) := (pe_un un_neg ha).imp fun σ H Q ⟨w, env, e1, o, er, p⟩ =>
  ⟨w, env, e1, o, er, p.bind fun w1 d x o1 l1 r1 p1 => by
    split at p1
    · exact ⟨_, r1, p1.ok o1 rfl⟩
    · exact p1.elim⟩
/-! built-ins -/
section
variable {x : Str}
theorem k_len (L : Lay X G W) (hg : Gl X "len") (hm : X.mg "len" = none) (ha : PA X [a] (AI G W mr)) (h1 : starEach [a] X.env = (false, eval a X.env) :: starEach [] X.env := by rfl) : PE X (.Call (.Name "len" p) [a] [] pos) (EI G W (eCall fLen mr)) := q_callB call_len (by rw [L.K]; exact cf_len) hg hm boot_len ha (by decide) (by decide) h1 rfl
theorem k_abs (hg : Gl X "abs") (hm : X.mg "abs" = none) (ha : PA X [a] (AI G W mr)) (h1 : starEach [a] X.env = (false, eval a X.env) :: starEach [] X.env := by rfl) : PE X (.Call (.Name "abs" p) [a] [] pos) (EI G W (eCall fAbs mr)) := q_callB call_abs cf_abs hg hm PyProof.Rows.boot_abs ha (by decide) (by decide) h1 rfl
theorem k_max1 (L : Lay X G W) (hc : X.calm = true) (hg : Gl X "max") (hm : X.mg "max" = none) (ha : PA X [a] (AI G W mr)) (h1 : starEach [a] X.env = (false, eval a X.env) :: starEach [] X.env := by rfl) : PE X (.Call (.Name "max" p) [a] [] pos) (EI G W (eCall fMax mr)) := q_callB (F.CallR.or (call_max2 hc) (cr_max hc)) (by rw [L.K]; exact cf_max) hg hm PyProof.Rows.boot_max ha (by decide) (by decide) h1 rfl
theorem k_max2 (L : Lay X G W) (hc : X.calm = true) (hg : Gl X "max") (hm : X.mg "max" = none) (ha : PA X [a, b] (AI G W mr)) (h1 : starEach [a, b] X.env = (false, eval a X.env) :: starEach [b] X.env := by rfl) (h2 : (backTo pos (starEach [b] X.env)).any (·.1) = false := by rfl) : PE X (.Call (.Name "max" p) [a, b] [] pos) (EI G W (eCall fMax mr)) := q_callB (F.CallR.or (call_max2 hc) (cr_max hc)) (by rw [L.K]; exact cf_max) hg hm PyProof.Rows.boot_max ha (by decide) (by decide) h1 h2
theorem k_min1 (L : Lay X G W) (hc : X.calm = true) (hg : Gl X "min") (hm : X.mg "min" = none) (ha : PA X [a] (AI G W mr)) (h1 : starEach [a] X.env = (false, eval a X.env) :: starEach [] X.env := by rfl) : PE X (.Call (.Name "min" p) [a] [] pos) (EI G W (eCall fMin mr)) := q_callB (F.CallR.or (call_min2 hc) (cr_min hc)) (by rw [L.K]; exact cf_min) hg hm PyProof.Rows.boot_min ha (by decide) (by decide) h1 rfl
theorem k_min2 (L : Lay X G W) (hc : X.calm = true) (hg : Gl X "min") (hm : X.mg "min" = none) (ha : PA X [a, b] (AI G W mr)) (h1 : starEach [a, b] X.env = (false, eval a X.env) :: starEach [b] X.env := by rfl) (h2 : (backTo pos (starEach [b] X.env)).any (·.1) = false := by rfl) : PE X (.Call (.Name "min" p) [a, b] [] pos) (EI G W (eCall fMin mr)) := q_callB (F.CallR.or (call_min2 hc) (cr_min hc)) (by rw [L.K]; exact cf_min) hg hm PyProof.Rows.boot_min ha (by decide) (by decide) h1 h2
theorem k_sum (L : Lay X G W) (hc : X.calm = true) (hg : Gl X "sum") (hm : X.mg "sum" = none) (ha : PA X [a] (AI G W mr)) (h1 : starEach [a] X.env = (false, eval a X.env) :: starEach [] X.env := by rfl) : PE X (.Call (.Name "sum" p) [a] [] pos) (EI G W (eCall fSum mr)) := q_callB (cr_sum hc) (by rw [L.K]; exact cf_sum) hg hm PyProof.Rows.boot_sum ha (by decide) (by decide) h1 rfl
theorem k_any (L : Lay X G W) (hc : X.calm = true) (hg : Gl X "any") (hm : X.mg "any" = none) (ha : PA X [a] (AI G W mr)) (h1 : starEach [a] X.env = (false, eval a X.env) :: starEach [] X.env := by rfl) : PE X (.Call (.Name "any" p) [a] [] pos) (EI G W (eCall fAny mr)) := q_callB (cr_any hc) (by rw [L.K]; exact cf_any) hg hm PyProof.Rows.boot_any ha (by decide) (by decide) h1 rfl
theorem k_all (L : Lay X G W) (hc : X.calm = true) (hg : Gl X "all") (hm : X.mg "all" = none) (ha : PA X [a] (AI G W mr)) (h1 : starEach [a] X.env = (false, eval a X.env) :: starEach [] X.env := by rfl) : PE X (.Call (.Name "all" p) [a] [] pos) (EI G W (eCall fAll mr)) := q_callB (cr_all hc) (by rw [L.K]; exact cf_all) hg hm PyProof.Rows.boot_all ha (by decide) (by decide) h1 rfl
theorem k_int (hg : Gl X "int") (hm : X.mg "int" = none) (ha : PA X [a] (AI G W mr)) (h1 : starEach [a] X.env = (false, eval a X.env) :: starEach [] X.env := by rfl) : PE X (.Call (.Name "int" p) [a] [] pos) (EI G W (eCall fInt mr)) := q_callTy call_int1 cf_int hg hm (by decide +kernel) ha (by decide) (by decide) h1 rfl
theorem k_list (m : Bool) (L : Lay X G W) (hc : X.calm = true) (hg : Gl X "list") (hm : X.mg "list" = none) (ha : PA X [a] (AI G W mr)) (h1 : starEach [a] X.env = (false, eval a X.env) :: starEach [] X.env := by rfl) : PE X (.Call (.Name "list" p) [a] [] pos) (EI G W (eCall (fListA m) mr)) := q_callTy (F.CallR.or call_list_of (call_listS hc)) (by rw [L.K]; exact cf_listA m) hg hm (by decide +kernel) ha (by decide) (by decide) h1 rfl
theorem k_tuple (L : Lay X G W) (hg : Gl X "tuple") (hm : X.mg "tuple" = none) (ha : PA X [a] (AI G W mr)) (h1 : starEach [a] X.env = (false, eval a X.env) :: starEach [] X.env := by rfl) : PE X (.Call (.Name "tuple" p) [a] [] pos) (EI G W (eCall fTuple mr)) := q_callTy call_tuple_of (by rw [L.K]; exact cf_tuple) hg hm (by decide +kernel) ha (by decide) (by decide) h1 rfl
theorem k_divmod (hg : Gl X "divmod") (hm : X.mg "divmod" = none) (ha : PA X [a, b] (AI G W mr)) (h1 : starEach [a, b] X.env = (false, eval a X.env) :: starEach [b] X.env := by rfl) (h2 : (backTo pos (starEach [b] X.env)).any (·.1) = false := by rfl) : PE X (.Call (.Name "divmod" p) [a, b] [] pos) (EI G W (eCall fDivmod mr)) := q_callB call_divmod cf_divmod hg hm (by decide +kernel) ha (by decide) (by decide) h1 h2
theorem k_range {c : Expr} (hg : Gl X "range") (hm : X.mg "range" = none) (ha : PA X [a, b, c] (AI G W mr)) (h1 : starEach [a, b, c] X.env = (false, eval a X.env) :: starEach [b, c] X.env := by rfl) (h2 : (backTo pos (starEach [b, c] X.env)).any (·.1) = false := by rfl) : PE X (.Call (.Name "range" p) [a, b, c] [] pos) (EI G W (eCall fRange mr)) := q_callTy cr_rangeV cf_rangeV hg hm boot_range ha (by decide) (by decide) h1 h2
theorem k_range2 (hg : Gl X "range") (hm : X.mg "range" = none) (ha : PA X [a, b] (AI G W mr)) (h1 : starEach [a, b] X.env = (false, eval a X.env) :: starEach [b] X.env := by rfl) (h2 : (backTo pos (starEach [b] X.env)).any (·.1) = false := by rfl) : PE X (.Call (.Name "range" p) [a, b] [] pos) (EI G W (eCall fRange mr)) := q_callTy cr_rangeV cf_rangeV hg hm boot_range ha (by decide) (by decide) h1 h2
theorem k_isi {tb : List ((Ty × Ty) × Bool)} (L : Lay X G W) (hk : CallF G (fIsi tb) (rIsi G.K)) (hg : Gl X "isinstance") (hm : X.mg "isinstance" = none) (ha : PA X [a, b] (AI G W mr)) (h1 : starEach [a, b] X.env = (false, eval a X.env) :: starEach [b] X.env := by rfl) (h2 : (backTo pos (starEach [b] X.env)).any (·.1) = false := by rfl) : PE X (.Call (.Name "isinstance" p) [a, b] [] pos) (EI G W (eCall (fIsi tb) mr)) := q_callB call_isi (by rw [L.K]; exact hk) hg hm PyProof.Rows.boot_isinstance ha (by decide) (by decide) h1 h2
end
/-! methods of lists and texts -/
theorem k_append (L : Lay X G W) (ho : PE X ob (EI G W mo)) (ha : PA X [a] (AI G W mr)) (hbase : attributeBase ob "append" X.env (eval ob X.env) = eval ob X.env := by rfl) (hline : (apos.endLine == cpos.line) = true := by rfl) (h1 : starEach [a] X.env = (false, eval a X.env) :: starEach [] X.env := by rfl) (hfew : ((backTo cpos (starEach [a] X.env)).all (fun x => !x.1) && (backToKw cpos (keywordEach [] X.env)).all (fun x => x.1.isSome) && decide ([a].length + ([] : List Keyword).length + (if ([] : List Keyword).isEmpty then 0 else 1) < 30)) = true := by rfl) :
    PE X (.Call (.Attribute ob "append" apos) [a] [] cpos) (EI G W (eBM isLst fAppend mo mr)) := q_bm L PySem.F.plainAttrs_list slot_list_append type_list_append (mt_append (X := X)) ty_lst mf_append ho ha hbase hfew hline h1 rfl
theorem k_extend (L : Lay X G W) (ho : PE X ob (EI G W mo)) (ha : PA X [a] (AI G W mr)) (hbase : attributeBase ob "extend" X.env (eval ob X.env) = eval ob X.env := by rfl) (hline : (apos.endLine == cpos.line) = true := by rfl) (h1 : starEach [a] X.env = (false, eval a X.env) :: starEach [] X.env := by rfl) (hfew : ((backTo cpos (starEach [a] X.env)).all (fun x => !x.1) && (backToKw cpos (keywordEach [] X.env)).all (fun x => x.1.isSome) && decide ([a].length + ([] : List Keyword).length + (if ([] : List Keyword).isEmpty then 0 else 1) < 30)) = true := by rfl) :
    PE X (.Call (.Attribute ob "extend" apos) [a] [] cpos) (EI G W (eBM isLst fExtend mo mr)) := q_bm L PySem.F.plainAttrs_list PySem.F.slot_list_extend PySem.F.type_list_extend (mt_extend (X := X)) ty_lst mf_extend ho ha hbase hfew hline h1 rfl
theorem k_popAt (L : Lay X G W) (ho : PE X ob (EI G W mo)) (ha : PA X [a] (AI G W mr)) (hbase : attributeBase ob "pop" X.env (eval ob X.env) = eval ob X.env := by rfl) (hline : (apos.endLine == cpos.line) = true := by rfl) (h1 : starEach [a] X.env = (false, eval a X.env) :: starEach [] X.env := by rfl) (hfew : ((backTo cpos (starEach [a] X.env)).all (fun x => !x.1) && (backToKw cpos (keywordEach [] X.env)).all (fun x => x.1.isSome) && decide ([a].length + ([] : List Keyword).length + (if ([] : List Keyword).isEmpty then 0 else 1) < 30)) = true := by rfl) :
    PE X (.Call (.Attribute ob "pop" apos) [a] [] cpos) (EI G W (eBM isLst fPopAt mo mr)) := q_bm L PySem.F.plainAttrs_list PySem.F.slot_list_pop PySem.F.type_list_pop (mt_popAt (X := X)) ty_lst mf_popAt ho ha hbase hfew hline h1 rfl
theorem k_pop (L : Lay X G W) (ho : PE X ob (EI G W mo)) (hbase : attributeBase ob "pop" X.env (eval ob X.env) = eval ob X.env := by rfl) (hline : (apos.endLine == cpos.line) = true := by rfl) :
    PE X (.Call (.Attribute ob "pop" apos) [] [] cpos) (EI G W (eBM isLst fPop mo aNil)) := q_bm0 L PySem.F.plainAttrs_list PySem.F.slot_list_pop PySem.F.type_list_pop (mt_pop (X := X)) ty_lst mf_pop ho hbase hline
theorem k_count (L : Lay X G W) (ho : PE X ob (EI G W mo)) (ha : PA X [a] (AI G W mr)) (hbase : attributeBase ob "count" X.env (eval ob X.env) = eval ob X.env := by rfl) (hline : (apos.endLine == cpos.line) = true := by rfl) (h1 : starEach [a] X.env = (false, eval a X.env) :: starEach [] X.env := by rfl) (hfew : ((backTo cpos (starEach [a] X.env)).all (fun x => !x.1) && (backToKw cpos (keywordEach [] X.env)).all (fun x => x.1.isSome) && decide ([a].length + ([] : List Keyword).length + (if ([] : List Keyword).isEmpty then 0 else 1) < 30)) = true := by rfl) :
    PE X (.Call (.Attribute ob "count" apos) [a] [] cpos) (EI G W (eBM isStr fCountS mo mr)) := q_bm L PySem.F.plainAttrs_str PySem.F.slot_str_count PySem.F.type_str_count (mt_count (X := X)) ty_str mf_countS ho ha hbase hfew hline h1 rfl
theorem k_startswith (L : Lay X G W) (ho : PE X ob (EI G W mo)) (ha : PA X [a] (AI G W mr)) (hbase : attributeBase ob "startswith" X.env (eval ob X.env) = eval ob X.env := by rfl) (hline : (apos.endLine == cpos.line) = true := by rfl) (h1 : starEach [a] X.env = (false, eval a X.env) :: starEach [] X.env := by rfl) (hfew : ((backTo cpos (starEach [a] X.env)).all (fun x => !x.1) && (backToKw cpos (keywordEach [] X.env)).all (fun x => x.1.isSome) && decide ([a].length + ([] : List Keyword).length + (if ([] : List Keyword).isEmpty then 0 else 1) < 30)) = true := by rfl) :
    PE X (.Call (.Attribute ob "startswith" apos) [a] [] cpos) (EI G W (eBM isStr fStartswith mo mr)) := q_bm L PySem.F.plainAttrs_str PySem.F.slot_str_startswith PySem.F.type_str_startswith (mt_startswith (X := X)) ty_str mf_startswith ho ha hbase hfew hline h1 rfl
theorem k_split (m : Bool) (L : Lay X G W) (ho : PE X ob (EI G W mo)) (ha : PA X [a] (AI G W mr)) (hbase : attributeBase ob "split" X.env (eval ob X.env) = eval ob X.env := by rfl) (hline : (apos.endLine == cpos.line) = true := by rfl) (h1 : starEach [a] X.env = (false, eval a X.env) :: starEach [] X.env := by rfl) (hfew : ((backTo cpos (starEach [a] X.env)).all (fun x => !x.1) && (backToKw cpos (keywordEach [] X.env)).all (fun x => x.1.isSome) && decide ([a].length + ([] : List Keyword).length + (if ([] : List Keyword).isEmpty then 0 else 1) < 30)) = true := by rfl) :
    PE X (.Call (.Attribute ob "split" apos) [a] [] cpos) (EI G W (eBM isStr (fSplit m) mo mr)) := q_bm L PySem.F.plainAttrs_str PySem.F.slot_str_split PySem.F.type_str_split (mt_split (X := X)) ty_str (mf_split m) ho ha hbase hfew hline h1 rfl
theorem k_join (L : Lay X G W) (ho : PE X ob (EI G W mo)) (ha : PA X [a] (AI G W mr)) (hbase : attributeBase ob "join" X.env (eval ob X.env) = eval ob X.env := by rfl) (hline : (apos.endLine == cpos.line) = true := by rfl) (h1 : starEach [a] X.env = (false, eval a X.env) :: starEach [] X.env := by rfl) (hfew : ((backTo cpos (starEach [a] X.env)).all (fun x => !x.1) && (backToKw cpos (keywordEach [] X.env)).all (fun x => x.1.isSome) && decide ([a].length + ([] : List Keyword).length + (if ([] : List Keyword).isEmpty then 0 else 1) < 30)) = true := by rfl) :
    PE X (.Call (.Attribute ob "join" apos) [a] [] cpos) (EI G W (eBM isStr fJoin mo mr)) := q_bm L PySem.F.plainAttrs_str PySem.F.slot_str_join PySem.F.type_str_join (mt_join (X := X)) ty_str (by rw [L.K]; exact mf_join) ho ha hbase hfew hline h1 rfl
/-! stores -/
theorem k_setIx {sp : Pos} (he : PE X e (EI G W me)) (ho : PE X ob (EI G W mo)) (hi : PE X ix (EI G W mi)) (hs : swapsWithSole [.Subscript ob ix sp] e pos.line X.env = pure false := by rfl) (hw : swappedStores [.Subscript ob ix sp] e X.env = pure none := by rfl)
    (ha : ∀ v, assign (.Subscript ob ix sp) X.env v = (do
      let ov ← holding [v] (eval ob X.env)
      let iv ← holding [v, ov] (eval ix X.env)
      standAt sp
      holding [v, ov, iv] (setItem ov iv v)
      release [v, ov, iv] []) := by intro _; rfl) : PS X (.Assign [.Subscript ob ix sp] e pos) (SI G W (sSetIx mo mi me)) := z_setIx he ho hi hs hw (pg_sub ho hi set_list ha)
theorem k_augAdd {i : Nat} {x : Str} {pos' : Pos} (hN : X.N.Nodup) (hi : X.N[i]? = some x) (hx : Loc X.env.scope x) (he : PE X e (EI G W me)) (hfn : X.fn x = true ∨ X.env.scope.names.lookup x = some .local := by first | exact .inl rfl | exact .inr rfl | assumption) : PS X (.AugAssign (.Name x pos') .Add e pos) (SI G W (sAug (fArith fun i j => i + j) i me)) := z_aug iop_add of_arith hN hi hx he hfn
theorem k_augSub {i : Nat} {x : Str} {pos' : Pos} (hN : X.N.Nodup) (hi : X.N[i]? = some x) (hx : Loc X.env.scope x) (he : PE X e (EI G W me)) (hfn : X.fn x = true ∨ X.env.scope.names.lookup x = some .local := by first | exact .inl rfl | exact .inr rfl | assumption) : PS X (.AugAssign (.Name x pos') .Sub e pos) (SI G W (sAug (fArith fun i j => i - j) i me)) := z_aug iop_sub of_arith hN hi hx he hfn
end
end F
namespace F
open PySem PySem.Spec PyProof.Rows L2
section
variable {X : Cx} {G : CT} {W : WX} {pos p apos : Pos} {e ob : Expr} {es : List Expr} {ma : Av} {mo : Ev} {m : Fn} {x name : Str} {n k c : Nat} {f : Addr} {fd : FuncData} {ps : List Str}
/-- f(..), every parameter given -/
theorem k_call (L : Lay X G W) (Fo : FnOk X.prog X.w X.K X.mg X.base (L2.CX X.prog X.w) k f fd ps (spI G m)) (hr : Room k X.A) (hg : Gl X x) (hm : X.mg x = some (.ref f)) (hk : PySem.W.keepIn X.K (.ref f) = true) (hb : Binds X.K fd ps [])
    (ha : PA X (e :: es) (AI G W ma)) (hdb : (x == ("__debug__" : Str)) = false := by decide) (he : starEach (e :: es) X.env = (false, eval e X.env) :: starEach es X.env := by rfl) (hpl : (backTo pos (starEach es X.env)).any (·.1) = false := by rfl) :
    PE X (.Call (.Name x p) (e :: es) [] pos) (EI G W (eFn m [] ma)) := q_call L Fo hr hg hm hk hb .nil (fun _ => rfl) ha hdb he hpl
theorem k_call0 (L : Lay X G W) (Fo : FnOk X.prog X.w X.K X.mg X.base (L2.CX X.prog X.w) k f fd ps (spI G m)) (hr : Room k X.A) (hg : Gl X x) (hm : X.mg x = some (.ref f)) (hk : PySem.W.keepIn X.K (.ref f) = true) (hb : Binds X.K fd ps [])
    (hdb : (x == ("__debug__" : Str)) = false := by decide) : PE X (.Call (.Name x p) [] [] pos) (EI G W (eFn m [] aNil)) := q_call0 L Fo hr hg hm hk hb .nil (fun _ => rfl) hdb
theorem k_new (fr : Bool) (L : Lay X G W) (M : Mk X.K (G.cls c) f) (Fo : FnOk X.prog X.w X.K X.mg X.base (L2.CX X.prog X.w) k f fd ps (spI G m)) (hr : Room (k + 1) X.A) (hg : Gl X x) (hm : X.mg x = some (.ref (G.cls c))) (hb : Binds X.K fd ps []) (hn : n = (G.fld c).length)
    (ha : PA X (e :: es) (AI G W ma)) (hdb : (x == ("__debug__" : Str)) = false := by decide) (he : starEach (e :: es) X.env = (false, eval e X.env) :: starEach es X.env := by rfl) (hpl : (backTo pos (starEach es X.env)).any (·.1) = false := by rfl) :
    PE X (.Call (.Name x p) (e :: es) [] pos) (EI G W (eNew c n fr m [] ma)) := q_new L M Fo hr hg hm hb .nil (fun _ => rfl) hn ha hdb he hpl
/-- a method's facts, every parameter given -/
theorem met_of {P : Program} {w : World} {mg : Str → Option Value} {base : Heap} {j : Nat} (cl : Cls G.K (G.cls c)) (no : name ∉ G.fld c) (me : Meth G.K (G.cls c) name f) (Fo : FnOk P w G.K mg base (L2.CX P w) j f fd ps (spI G m)) (hj : j ≤ k) (hb : Binds G.K fd ps []) : MetF P w G mg base k name [] c m :=
  ⟨cl, no, f, fd, ps, [], [], me, Fo.mono hj, hb, .nil, fun _ => rfl⟩
end
end F
/-! for and comprehensions over what may be a live list: its items are looked up turn by turn. -/
namespace F
open PySem PySem.Spec PyProof.Rows L2

def ServesA (G : CT) (w₀ : Wd) (d : D) (J : It) : Prop := match d with
  | .ref i => (asL (.ref i) w₀.st).isSome = true ∧ Serves1 G w₀ (.ref i) J
  | d => ∃ ds, itemsD d = some ds ∧ Serves G w₀ ds J
/-- what one walks: a value -/
def vAny (m : Ev) : Ev := fun env st => (m env st).bind fun d s => match d with
  | .ref i => match asL (.ref i) s with
    | some _ => .ok (.ref i) s
    | none => .bad
  | d => match itemsD d with
    | some _ => .ok d s
    | none => .bad
abbrev WA (G : CT) (W : WX) (m : Ev) : TI := RI G W (ServesA G) m
def loopA (t : Tg) (body : Sv) (d : D) : Env → Sto → Out := fun env st => match d with
  | .ref i => match asL (.ref i) st with
    | some ds => loopC (.ref i) t body ds.length 0 env st
    | none => .bad
  | d => match itemsD d with
    | some ds => loop t body ds env st
    | none => .bad
def sForA (m : Ev) (t : Tg) (body : Sv) : Sv := fun env st => (m env st).andS env fun d s => loopA t body d env s
section
variable {X : Cx} {G : CT} {W : WX} {pos : Pos} {tg it c : Expr} {sb : List Stmt} {t : Tg} {body : Sv} {m : Ev}
theorem w_anyA (L : Lay X G W) (h : PE X it (EI G W m)) : PI X tg it (WA G W (vAny m)) := ((pi_list h).or ((pi_tup h).or (pi_str h))).imp fun σ H Q ⟨w, env, e1, o, er, p⟩ => by
  cases q : m env w.st with
  | bad =>
    unfold vAny at p
    rw [q] at p
    exact p.elim
  | ex c es s =>
    refine .inl ⟨w, env, e1, o, er, ?_⟩
    unfold vAny at p
    rw [q] at p ⊢
    exact p
  | ok d s =>
    unfold vAny at p
    rw [q] at p
    cases d with
    | ref i =>
      refine .inl ⟨w, env, e1, o, er, ?_⟩
      rw [q]
      have p' : Post G W (ServesA G) σ w (match asL (.ref i) s with | some _ => .ok (.ref i) s | none => .bad) Q := p
      split at p'
      · rename_i ds0 hs
        refine fun w' v e' o' l' r' => ?_
        subst e'
        obtain ⟨a, xs, rfl, sq, q0⟩ := asL_sq o' hs r'
        refine ⟨a, rfl, ⟨xs, by rw [L.K]; exact sq⟩, ?_⟩
        rw [L.K]
        refine p' w' (Itl G.K a) rfl o' l' ⟨by rw [hs]; rfl, fun w2 o2 l2 ds hd => ?_⟩
        obtain ⟨b, ys, eb, s2, q2⟩ := asL_sq o2 hd (r'.monoW l2)
        cases eb
        refine ⟨fun i y ey => ?_, fun i hi => ⟨ys, s2, by rw [q2.length]; exact hi⟩⟩
        obtain ⟨x, ex, rx⟩ := q2.get ey
        refine ⟨⟨ys, x, s2, ex⟩, fun y' H' hy => ?_⟩
        obtain ⟨rfl, hy⟩ := hy
        have e2 := hy ys s2
        rw [ex] at e2
        cases e2
        exact ⟨w2, rfl, rfl, o2, Le.refl _, rx⟩
      · exact p'.elim
    | lst ds =>
      refine .inl ⟨w, env, e1, o, er, ?_⟩
      rw [q]
      refine fun w' v e' o' l' r' => ?_
      obtain ⟨a, xs, rfl, sq, rs⟩ := r'
      exact ⟨a, rfl, ⟨xs, SqL.of sq.1⟩, by rw [L.K]; exact p w' _ e' o' l' ⟨ds, rfl, serves_list (.inl ⟨.inl sq.1, sq.2⟩) rs⟩⟩
    | rol ds =>
      refine .inl ⟨w, env, e1, o, er, ?_⟩
      rw [q]
      refine fun w' v e' o' l' r' => ?_
      obtain ⟨a, xs, rfl, sq, rs⟩ := r'
      exact ⟨a, rfl, ⟨xs, by rw [L.K]; exact sq.sq⟩, by rw [L.K]; exact p w' _ e' o' l' ⟨ds, rfl, serves_list sq rs⟩⟩
    | tup ds =>
      refine .inr (.inl ⟨w, env, e1, o, er, ?_⟩)
      rw [q]
      refine fun w' v e' o' l' r' => ?_
      obtain ⟨a, xs, rfl, sq, rs⟩ := r'
      exact ⟨a, rfl, ⟨xs, by rw [L.K]; exact sq.sq⟩, by rw [L.K]; exact p w' _ e' o' l' ⟨ds, rfl, serves_tup sq rs⟩⟩
    | str z =>
      refine .inr (.inr ⟨w, env, e1, o, er, ?_⟩)
      rw [q]
      exact fun w' v e' o' l' r' => ⟨_, r', p w' _ e' o' l' ⟨_, rfl, serves_str⟩⟩
    | _ => exact p.elim
theorem z_forA (hp : PassesOwn (model X.prog X.w) X.A X.env X.xe) (hc : X.calm = true) (hi : PI X tg it (WA G W m)) (hg : PG X tg (gI G t)) (hb : PSs X sb (SI G W body)) (hs : ∀ x, foldedSetIterable it X.env x = pure x := by intro _; rfl) :
    PS X (.For tg it sb [] pos) (SI G W (sForA m t body)) := (ps_for hp hc hi hg hb hs).imp fun D σ H ⟨w, env, e1, o, er, p⟩ =>
  ⟨w, env, e1, o, er, PostS.bind er p fun w0 d J o0 l0 sv p0 => by
    by_cases hr : ∃ i, d = .ref i
    · obtain ⟨i0, rfl⟩ := hr
      obtain ⟨_, sv⟩ := sv
      have p0' : PostS G W w0 (match asL (.ref i0) w0.st with | some ds => loopC (.ref i0) t body ds.length 0 env w0.st | none => .bad) D := p0
      split at p0'
      rotate_left
      · exact p0'.elim
      refine ⟨fun i n σ H => ∃ w env, w.H = H ∧ Ok G w ∧ Le w0 w ∧ EnvR G w env σ ∧ PostS G W w (loopC (.ref i0) t body n i env w.st) D, ⟨_, w0, env, rfl, o0, Le.refl _, er.mono l0, p0'⟩, ?_⟩
      rintro i n σ1 H1 ⟨w1, env1, rfl, o1, l1, er1, p1⟩
      cases n with
      | zero =>
        unfold loopC at p1
        split at p1
        · split at p1
          · rename_i ds hd hl
            exact .inl ⟨(sv w1 o1 l1.toLw ds hd).2 i hl, p1.toNx o1 er1⟩
          · exact p1.elim
        · exact p1.elim
      | succ n =>
        unfold loopC at p1
        split at p1
        · exact p1.elim
        · rename_i ds hd
          obtain ⟨s1, s2⟩ := sv w1 o1 l1.toLw ds hd
          split at p1
          · rename_i hn
            exact .inl ⟨s2 i (List.getElem?_eq_none_iff.mp hn), p1.toNx o1 er1⟩
          · rename_i y hy
            obtain ⟨g1, g2⟩ := s1 i y hy
            split at p1
            · exact p1.elim
            · rename_i env2 ht
              refine .inr ⟨g1, fun σ' H' => ∃ w env, w.H = H' ∧ Ok G w ∧ Le w0 w ∧ EnvR G w env σ' ∧ PostS G W w (loopC (.ref i0) t body n (i + 1) env w.st) D, fun σ' H' q => ⟨n, Nat.lt_succ_self _, q⟩, fun x H' yy => ?_⟩
              obtain ⟨w2, rfl, e2, o2, l2, r2⟩ := g2 x H' yy
              refine ⟨w2, env1, y, rfl, o2, er1.mono l2, r2, env2, ht, fun σ2 er2 => ⟨w2, env2, rfl, o2, er2, ?_⟩⟩
              have p2 := PostS.mono l2 p1
              rw [← e2] at p2
              exact body_of (f := fun e s => loopC (.ref i0) t body n (i + 1) e s) p2 fun w3 e3 σ3 o3 l3 r3 p3 => ⟨w3, e3, rfl, o3, l1.trans (l2.trans l3), r3, p3⟩
    · have key : ∃ ds, Serves G w0 ds J ∧ PostS G W w0 (loop t body ds env w0.st) D := by
        cases d with
        | ref i => exact absurd ⟨i, rfl⟩ hr
        | lst ds =>
          obtain ⟨ds', e, s⟩ := sv
          cases e
          exact ⟨ds, s, p0⟩
        | rol ds =>
          obtain ⟨ds', e, s⟩ := sv
          cases e
          exact ⟨ds, s, p0⟩
        | tup ds =>
          obtain ⟨ds', e, s⟩ := sv
          cases e
          exact ⟨ds, s, p0⟩
        | str z =>
          obtain ⟨ds', e, s⟩ := sv
          cases e
          exact ⟨_, s, p0⟩
        | _ =>
          obtain ⟨ds', e, s⟩ := sv
          cases e
      obtain ⟨ds, sv, p0⟩ := key
      refine ⟨fun i n σ H => n = ds.length - i ∧ i ≤ ds.length ∧ ∃ w env, w.H = H ∧ Ok G w ∧ Le w0 w ∧ EnvR G w env σ ∧ PostS G W w (loop t body (ds.drop i) env w.st) D, ⟨_, rfl, Nat.zero_le _, w0, env, rfl, o0, Le.refl _, er.mono l0, p0⟩, ?_⟩
      rintro i n σ1 H1 ⟨rfl, hi, w1, env1, rfl, o1, l1, er1, p1⟩
      obtain ⟨s1, s2⟩ := sv w1 o1 l1.toLw
      by_cases hlt : i < ds.length
      · obtain ⟨g1, g2⟩ := s1 i ds[i] (List.getElem?_eq_getElem hlt)
        refine .inr ⟨g1, fun σ' H' => (ds.length - (i + 1)) = ds.length - (i + 1) ∧ i + 1 ≤ ds.length ∧ ∃ w env, w.H = H' ∧ Ok G w ∧ Le w0 w ∧ EnvR G w env σ' ∧ PostS G W w (loop t body (ds.drop (i + 1)) env w.st) D, fun σ' H' q => ⟨_, by omega, q⟩, fun x H' y => ?_⟩
        obtain ⟨w2, rfl, e2, o2, l2, r2⟩ := g2 x H' y
        rw [List.drop_eq_getElem_cons hlt] at p1
        unfold loop at p1
        split at p1
        · exact p1.elim
        · rename_i env2 ht
          refine ⟨w2, env1, ds[i], rfl, o2, er1.mono l2, r2, env2, ht, fun σ2 er2 => ⟨w2, env2, rfl, o2, er2, ?_⟩⟩
          have p2 := PostS.mono l2 p1
          rw [← e2] at p2
          exact body_of (f := fun e s => loop t body (ds.drop (i + 1)) e s) p2 fun w3 e3 σ3 o3 l3 r3 p3 => ⟨rfl, hlt, w3, e3, rfl, o3, l1.trans (l2.trans l3), r3, p3⟩
      · have e : i = ds.length := by omega
        subst e
        rw [List.drop_length] at p1
        exact .inl ⟨s2, p1.toNx o1 er1⟩⟩
end

/-! ### comprehensions -/
def compC (l : D) (t : Tg) (tt : Tv) (te : Ev) (env : Env) : Nat → Nat → Sto → Res (List D)
  | 0, i, st => match asL l st with
    | some ds => if ds.length ≤ i then .ok [] st else .bad
    | none => .bad
  | n + 1, i, st => match asL l st with
    | none => .bad
    | some ds => match ds[i]? with
      | none => .ok [] st
      | some d => match t d env with
        | none => .bad
        | some e => (tt e st).cut.bind fun b s => if b = true then (te e s).cut.bind fun y s1 => (compC l t tt te env n (i + 1) s1).bind fun r s2 => .ok (y :: r) s2 else compC l t tt te env n (i + 1) s
def compA (t : Tg) (tt : Tv) (te : Ev) (env : Env) (d : D) : Sto → Res (List D) := fun st => match d with
  | .ref i => match asL (.ref i) st with
    | some ds => if ds.length ≤ sizeLine then compC (.ref i) t tt te env ds.length 0 st else .bad
    | none => .bad
  | d => match itemsD d with
    | some ds => if ds.length ≤ sizeLine then compF t tt te env ds st else .bad
    | none => .bad
def eLcA (m : Bool) (wi : Ev) (t : Tg) (tt : Tv) (te : Ev) (vs : List Nat) : Ev := fun env st => (wi env st).bind fun d s => (compA t tt te (wipeE env vs) d s).bind fun r s1 => mkL m r s1
section
variable {X : Cx} {G : CT} {W : WX}
theorem lc_mainC {i0 : Nat} {t : Tg} {tt : Tv} {te : Ev} {vs : List Nat} {m : Bool} {σ : L2.St} {w0 : Wd} {env : Env} {n0 : Nat} {J : It} {Q : VK} (o0 : Ok G w0) (er0 : EnvR G w0 env σ) (sv : Serves1 G w0 (.ref i0) J) (hz : n0 ≤ sizeLine) (p0 : Post G W (Rl G) σ w0 ((compC (.ref i0) t tt te (wipeE env vs) n0 0 w0.st).bind fun r s => mkL m r s) Q) : tLc (fun _ H R => R J H) (gW G vs t) (TsI G W0 tt) (EI G W0 te) vs σ w0.H Q := by
  intro DD hD
  have nD : DD ∉ w0.hid := o0.new_hid hD
  refine ⟨fun i n H => i + n = n0 ∧ ∃ (w : Wd) (acc : List D) (xs : List V), w.H = H ∧ Ok G w ∧ Lw w0 w ∧ w.hid = DD :: w0.hid ∧ (∀ a ∈ w0.hid, w.H a = w0.H a) ∧ H DD = some (.lst xs) ∧ Rls G w acc xs ∧ acc.length ≤ i ∧ Post G W (Rl G) σ w0 ((compC (.ref i0) t tt te (wipeE env vs) n i w.st).bind fun r s => mkL m (acc ++ r) s) Q, ⟨n0, by omega, ?_⟩, ?_⟩
  · obtain ⟨o1, l1⟩ := hide_new o0 (H' := upd w0.H DD (.lst [])) hD (keeps_upd hD) ⟨_, upd_same⟩
    refine ⟨⟨w0.ρ, w0.st, upd w0.H DD (.lst []), DD :: w0.hid⟩, [], [], rfl, o1, l1, rfl, fun a z => ?_, upd_same, rfl, Nat.le_refl _, p0⟩
    show upd w0.H DD (.lst []) a = _
    rw [upd_ne (fun e : a = DD => o0.new_hid hD (e ▸ z))]
  rintro i n H1 ⟨hin, w1, acc, xs, rfl, o1, l1, hh, hs, hx, ra, hal, p1⟩
  have done : ∀ ds, asL (.ref i0) w1.st = some ds → ds.length ≤ i → Post G W (Rl G) σ w0 ((Res.ok ([] : List D) w1.st).bind fun r s => mkL m (acc ++ r) s) Q → J.stop i w1.H ∧ Q (.ref DD) w1.H := by
    intro ds hd hl p1
    refine ⟨(sv w1 o1 l1 ds hd).2 i hl, ?_⟩
    have p2 : Post G W (Rl G) σ w0 (mkL m (acc ++ []) w1.st) Q := p1
    rw [List.append_nil] at p2
    unfold mkL at p2
    split at p2
    · obtain ⟨o5, l5⟩ := hid_cell o1 hh nD hx ra
      refine p2 ⟨w1.ρ ++ [DD], w1.st ++ [.lst acc], w1.H, w0.hid⟩ (.ref DD) rfl o5 ⟨l1.trans l5, rfl, hs⟩ ⟨DD, ?_, rfl⟩
      show (w1.ρ ++ [DD])[w1.st.length]? = some DD
      rw [← o1.len, List.getElem?_append_right (Nat.le_refl _)]
      simp
    · obtain ⟨o5, l5, n5⟩ := hid_out o1 hh nD
      exact p2 ⟨w1.ρ, w1.st, w1.H, w0.hid⟩ (.ref DD) rfl o5 ⟨l1.trans l5, rfl, hs⟩ ⟨DD, xs, rfl, ⟨hx, n5⟩, ra.monoW l5⟩
  cases n with
  | zero =>
    unfold compC at p1
    split at p1
    · rename_i ds hd
      split at p1
      · rename_i hl
        exact .inl (done ds hd hl p1)
      · exact p1.elim
    · exact p1.elim
  | succ n =>
    unfold compC at p1
    split at p1
    · exact p1.elim
    rename_i ds hd
    obtain ⟨s1, s2⟩ := sv w1 o1 l1 ds hd
    split at p1
    · rename_i hn
      exact .inl (done ds hd (List.getElem?_eq_none_iff.mp hn) p1)
    rename_i y0 hy0
    obtain ⟨g1, g2⟩ := s1 i y0 hy0
    refine .inr ⟨g1, fun H' => (i + 1) + n = n0 ∧ ∃ (w : Wd) (acc : List D) (xs : List V), w.H = H' ∧ Ok G w ∧ Lw w0 w ∧ w.hid = DD :: w0.hid ∧ (∀ a ∈ w0.hid, w.H a = w0.H a) ∧ H' DD = some (.lst xs) ∧ Rls G w acc xs ∧ acc.length ≤ i + 1 ∧ Post G W (Rl G) σ w0 ((compC (.ref i0) t tt te (wipeE env vs) n (i + 1) w.st).bind fun r s => mkL m (acc ++ r) s) Q, fun H' q => ⟨n, by omega, q⟩, fun x H' y => ?_⟩
    obtain ⟨w2, rfl, e2, o2, l2, r2⟩ := g2 x H' y
    split at p1
    · exact p1.elim
    rename_i env2 ht
    have keepH : ∀ {w' : Wd}, Le w1 w' → w'.hid = DD :: w0.hid ∧ (∀ a ∈ w0.hid, w'.H a = w0.H a) ∧ w'.H DD = some (.lst xs) := fun {w'} l => ⟨l.hid.trans hh, fun a z => (l.hide a (by rw [hh]; exact List.mem_cons_of_mem _ z)).trans (hs a z), (l.hide DD (by rw [hh]; exact List.mem_cons_self)).trans hx⟩
    refine ⟨w2, wipeE env vs, y0, rfl, o2, wipeE_of (er0.monoW (l1.trans l2.toLw)) vs, r2, env2, ht, fun σ2 er2 hw => ⟨hw.trans ?_, w2, env2, rfl, o2, er2, ?_⟩⟩
    · apply List.ext_getElem?
      intro j
      by_cases hj : j ∈ vs
      · rw [wipe_in hj, wipe_in hj, wipe_length]
      · rw [wipe_out hj]
    rw [bind_bind] at p1
    rw [← e2] at p1
    refine Post.bindC p1 fun w3 b b' o3 l3 r3 p3 => ?_
    have r3' : b = b' := r3
    subst r3'
    cases b with
    | false =>
      obtain ⟨k1, k2, k3⟩ := keepH (l2.trans l3)
      exact ⟨by omega, w3, acc, xs, rfl, o3, l1.trans (l2.trans l3).toLw, k1, k2, k3, ra.mono (l2.trans l3), Nat.le_succ_of_le hal, p3⟩
    | true =>
      have p3' : Post G W (Rl G) σ w0 (((te env2 w3.st).cut.bind fun y s1 => (compC (.ref i0) t tt te (wipeE env vs) n (i + 1) s1).bind fun r s2 => .ok (y :: r) s2).bind fun r s => mkL m (acc ++ r) s) Q := p3
      rw [bind_bind] at p3'
      refine ⟨w3, env2, rfl, o3, er2.mono l3, Post.bindC p3' fun w4 d v o4 l4 r4 p4 => ?_⟩
      obtain ⟨k1, k2, k3⟩ := keepH (l2.trans (l3.trans l4))
      have ra4 := ra.mono (l2.trans (l3.trans l4))
      have mD : DD ∈ w4.hid := by rw [k1]; exact List.mem_cons_self
      obtain ⟨o5, l5⟩ := hid_set o4 (u := .lst (xs ++ [v])) mD
      refine ⟨xs, k3, ?_, by omega, ⟨w4.ρ, w4.st, upd w4.H DD (.lst (xs ++ [v])), w4.hid⟩, acc ++ [d], xs ++ [v], rfl, o5, (l1.trans (l2.trans (l3.trans l4)).toLw).trans l5, k1, fun a z => ?_, upd_same, (ra4.monoW l5).append (.one (r4.monoW l5)), by simp; omega, ?_⟩
      · rw [ra.length]
        omega
      · show upd w4.H DD _ a = _
        rw [upd_ne (fun e : a = DD => nD (e ▸ z))]
        exact k2 a z
      · rw [bind_bind] at p4
        have e5 : (fun (r : List D) (s : Sto) => mkL m ((acc ++ [d]) ++ r) s) = fun r s => mkL m (acc ++ d :: r) s := by
          funext r s
          rw [List.append_assoc]
          rfl
        rw [e5]
        exact p4
theorem lcA_of {wi : Ev} {t : Tg} {tt : Tv} {te : Ev} {vs : List Nat} {m : Bool} : ∀ σ H Q, EI G W (eLcA m wi t tt te vs) σ H Q → tLc (WA G W wi) (gW G vs t) (TsI G W0 tt) (EI G W0 te) vs σ H Q := fun σ H Q ⟨w, env, e1, o, er, p⟩ => by
  refine ⟨w, env, e1, o, er, Post.bind p fun w0 d J o0 l0 sv p0 => ?_⟩
  by_cases hr : ∃ i, d = .ref i
  · obtain ⟨i0, rfl⟩ := hr
    obtain ⟨_, sv⟩ := sv
    have p0' : Post G W (Rl G) σ w0 ((match asL (.ref i0) w0.st with | some ds => if ds.length ≤ sizeLine then compC (.ref i0) t tt te (wipeE env vs) ds.length 0 w0.st else .bad | none => .bad).bind fun r s => mkL m r s) Q := p0
    split at p0'
    · split at p0'
      · rename_i hz
        exact lc_mainC o0 (er.mono l0) sv hz p0'
      · exact p0'.elim
    · exact p0'.elim
  · have fin : ∀ ds, itemsD d = some ds → Serves G w0 ds J → compA t tt te (wipeE env vs) d w0.st = (if ds.length ≤ sizeLine then compF t tt te (wipeE env vs) ds w0.st else .bad) → tLc (fun _ H R => R J H) (gW G vs t) (TsI G W0 tt) (EI G W0 te) vs σ w0.H Q := fun ds e s ec => by
      rw [ec] at p0
      split at p0
      · rename_i hz
        exact lc_main o0 (er.mono l0) s hz p0
      · exact p0.elim
    cases d with
    | ref i => exact absurd ⟨i, rfl⟩ hr
    | lst ds => obtain ⟨ds', e, s⟩ := sv; cases e; exact fin _ rfl s rfl
    | rol ds => obtain ⟨ds', e, s⟩ := sv; cases e; exact fin _ rfl s rfl
    | tup ds => obtain ⟨ds', e, s⟩ := sv; cases e; exact fin _ rfl s rfl
    | str z => obtain ⟨ds', e, s⟩ := sv; cases e; exact fin _ rfl s rfl
    | _ => obtain ⟨ds', e, s⟩ := sv; cases e
variable {pos spos py : Pos} {elt tg iter : Expr} {ifs : List Expr} {scope : Scope} {wi : Ev} {t : Tg} {tt : Tv} {te : Ev}
theorem q_lcA (m : Bool) (own : List (Str × Nat)) {vs : List Nat} (hv : own.map (·.2) = vs) (hc : X.calm = true) (hN : X.N.Nodup) (hi : PI X tg iter (WA G W wi)) (ok : BlkOk X.N X.env.scope scope own)
    (hg : ∀ (s : Shared) (H : Hp) (C : Addr) (cl : List (Str × Addr)) (fp : List Addr), PG (X.blk s H scope (compEnvC scope cl C X.env) fp) tg (gW G vs t)) (ht : ∀ (s : Shared) (H : Hp) (C : Addr) (cl : List (Str × Addr)) (fp : List Addr), PTs (X.blk s H scope (compEnvC scope cl C X.env) fp) ifs (TsI G W0 tt))
    (he : ∀ (s : Shared) (H : Hp) (C : Addr) (cl : List (Str × Addr)) (fp : List Addr), PE (X.blk s H scope (compEnvC scope cl C X.env) fp) elt (EI G W0 te)) (hs : ∀ x, foldedSetIterable iter X.env x = pure x := by intro _; rfl) :
    PE X (.ListComp elt [⟨tg, iter, ifs, 0⟩] scope pos) (EI G W (eLcA m wi t tt te vs)) := by
  subst hv
  exact (pe_lc hc hN hi ok hg ht he hs).imp lcA_of
theorem z_setLcA (m : Bool) (own : List (Str × Nat)) {vs : List Nat} (hv : own.map (·.2) = vs) {i : Nat} {y : Str} (hc : X.calm = true) (hN : X.N.Nodup) (hy : X.N[i]? = some y) (hyl : X.env.scope.names.lookup y = some .local)
    (hsw : swapsWith (.ListComp elt [⟨tg, iter, ifs, 0⟩] scope pos) (some (.Name y py)) spos.line X.env = pure true) (hi : PI X tg iter (WA G W wi)) (ok : BlkOk X.N X.env.scope scope own)
    (hg : ∀ (s : Shared) (H : Hp) (C : Addr) (cl : List (Str × Addr)) (fp : List Addr), PG (X.blk s H scope (compEnvC scope cl C X.env) fp) tg (gW G vs t)) (ht : ∀ (s : Shared) (H : Hp) (C : Addr) (cl : List (Str × Addr)) (fp : List Addr), PTs (X.blk s H scope (compEnvC scope cl C X.env) fp) ifs (TsI G W0 tt))
    (he : ∀ (s : Shared) (H : Hp) (C : Addr) (cl : List (Str × Addr)) (fp : List Addr), PE (X.blk s H scope (compEnvC scope cl C X.env) fp) elt (EI G W0 te)) (hs : ∀ x, foldedSetIterable iter X.env x = pure x := by intro _; rfl) :
    PS X (.Assign [.Name y py] (.ListComp elt [⟨tg, iter, ifs, 0⟩] scope pos) spos) (SI G W (sSet i (eLcA m wi t tt te vs))) := by
  subst hv
  exact (ps_setLc hc hN hy hyl hsw hi ok hg ht he hs).imp fun E σ H ⟨w, env, e1, o, er, p⟩ =>
    lcA_of σ H _ ⟨w, env, e1, o, er, PostS.bind er p fun w1 d v o1 l1 r1 p1 => p1.toNx o1 ((er.mono l1).set i r1)⟩
end
end F
/-! What a mirror comes to: a calculus for simp. No program here. -/
namespace F
open PySem L2

/-- keeps simp out of what is wished -/
structure Dep {α : Type} (P : α → Sto → Prop) (X : Nat → List D → Sto → Prop) : Type where
def Ret {α : Type} (r : Res α) (P : α → Sto → Prop) (X : Nat → List D → Sto → Prop) (_d : Dep P X := ⟨⟩) : Prop := match r with
  | .ok a s => P a s
  | .ex c ds s => X c ds s
  | .bad => False
structure DepS (N : Env → Sto → Prop) (R : D → Sto → Prop) (B C : Env → Sto → Prop) (Y : Nat → List D → Env → Sto → Prop) : Type where
/-- N: goes on; R: returns; B: break; C: continue; Y: an exception -/
def OutW (o : Out) (N : Env → Sto → Prop) (R : D → Sto → Prop) (B C : Env → Sto → Prop) (Y : Nat → List D → Env → Sto → Prop) (_d : DepS N R B C Y := ⟨⟩) : Prop := match o with
  | .nx e s => N e s
  | .rt d s => R d s
  | .bk e s => B e s
  | .ct e s => C e s
  | .ex c ds e s => Y c ds e s
  | .bad => False
section
variable {α β : Type} {P : α → Sto → Prop} {X : Nat → List D → Sto → Prop} {N B C : Env → Sto → Prop} {R : D → Sto → Prop} {Y : Nat → List D → Env → Sto → Prop} {env : Env} {st s : Sto}
@[simp] theorem Ret_ok {a : α} : Ret (.ok a s) P X = P a s := (rfl)
@[simp] theorem Ret_ex {c : Nat} {ds : List D} : Ret (.ex c ds s : Res α) P X = X c ds s := (rfl)
@[simp] theorem Ret_bad : Ret (.bad : Res α) P X = False := (rfl)
@[simp] theorem Ret_bind {r : Res β} {f : β → Sto → Res α} : Ret (r.bind f) P X = Ret r (fun a s => Ret (f a s) P X) X := by cases r <;> rfl
@[simp] theorem Ret_cut {r : Res α} : Ret r.cut P X = Ret r P (fun _ _ _ => False) := by cases r <;> rfl
@[simp] theorem Ret_ite {c : Prop} [Decidable c] {a b : Res α} : Ret (if c then a else b) P X = if c then Ret a P X else Ret b P X := by split <;> rfl
@[simp] theorem OutW_nx : OutW (.nx env s) N R B C Y = N env s := (rfl)
@[simp] theorem OutW_rt {d : D} : OutW (.rt d s) N R B C Y = R d s := (rfl)
@[simp] theorem OutW_bk : OutW (.bk env s) N R B C Y = B env s := (rfl)
@[simp] theorem OutW_ct : OutW (.ct env s) N R B C Y = C env s := (rfl)
@[simp] theorem OutW_ex {c : Nat} {ds : List D} : OutW (.ex c ds env s) N R B C Y = Y c ds env s := (rfl)
@[simp] theorem OutW_bad : OutW .bad N R B C Y = False := (rfl)
@[simp] theorem OutW_andS {r : Res α} {f : α → Sto → Out} : OutW (r.andS env f) N R B C Y = Ret r (fun a s => OutW (f a s) N R B C Y) (fun c ds s => Y c ds env s) := by cases r <;> rfl
@[simp] theorem OutW_andThen {o : Out} {f : Env → Sto → Out} : OutW (o.andThen f) N R B C Y = OutW o (fun e s => OutW (f e s) N R B C Y) R B C Y := by cases o <;> rfl
@[simp] theorem OutW_ite {c : Prop} [Decidable c] {a b : Out} : OutW (if c then a else b) N R B C Y = if c then OutW a N R B C Y else OutW b N R B C Y := by split <;> rfl
@[simp] theorem r_bind_ok {a : α} {f : α → Sto → Res β} : (Res.ok a s).bind f = f a s := (rfl)
@[simp] theorem r_bind_ex {c : Nat} {ds : List D} {f : α → Sto → Res β} : (Res.ex c ds s : Res α).bind f = .ex c ds s := (rfl)
@[simp] theorem r_bind_bad {f : α → Sto → Res β} : (Res.bad : Res α).bind f = .bad := (rfl)
theorem Ret.mono {r : Res α} {P P' : α → Sto → Prop} {X X' : Nat → List D → Sto → Prop} (h : Ret r P X) (k : ∀ a s, P a s → P' a s) (kx : ∀ c ds s, X c ds s → X' c ds s) : Ret r P' X' := by
  cases r with
  | ok a s => exact k a s h
  | ex c ds s => exact kx c ds s h
  | bad => exact h
theorem OutW.mono {o : Out} {N' B' C' : Env → Sto → Prop} {R' : D → Sto → Prop} {Y' : Nat → List D → Env → Sto → Prop} (h : OutW o N R B C Y) (h1 : ∀ e s, N e s → N' e s) (h2 : ∀ d s, R d s → R' d s) (h3 : ∀ e s, B e s → B' e s) (h4 : ∀ e s, C e s → C' e s) (h5 : ∀ c ds e s, Y c ds e s → Y' c ds e s) : OutW o N' R' B' C' Y' := by
  cases o with
  | nx e s => exact h1 e s h
  | rt d s => exact h2 d s h
  | bk e s => exact h3 e s h
  | ct e s => exact h4 e s h
  | ex c ds e s => exact h5 c ds e s h
  | bad => exact h
/-- no exception -/
abbrev NX : Nat → List D → Sto → Prop := fun _ _ _ => False
/-- by a call's own statement -/
theorem Ret.call {r : Res α} {P P' : α → Sto → Prop} (h : Ret r P NX) (k : ∀ a s, P a s → P' a s) : Ret r P' X := h.mono k fun _ _ _ z => z.elim
theorem Ret.out {r : Res D} {P : D → Sto → Prop} (h : Ret r P NX) : ∃ d s, r = .ok d s ∧ P d s := by
  cases r with
  | ok a s => exact ⟨a, s, rfl, h⟩
  | ex c ds s => exact h.elim
  | bad => exact h.elim
end

@[simp] theorem szl : sizeLine = 16777216 := sizeLine_eq
/-! ### expressions -/
section
variable {env : Env} {st : Sto} {a b c d : Ev} {m r : Av} {t u : Tv}
@[simp] theorem r_eVar {i : Nat} : eVar i env st = match env[i]? with | some (some d) => .ok d st | _ => .bad := (rfl)
@[simp] theorem r_eC {x : D} : eC x env st = .ok x st := (rfl)
@[simp] theorem r_eBin {f : D → D → Sto → Res D} : eBin f a b env st = (a env st).bind fun x s => (b env s).bind fun y s' => f x y s' := (rfl)
@[simp] theorem r_tOf : tOf a env st = (a env st).bind fun d s => match d with | .bl k => .ok k s | _ => .bad := (rfl)
@[simp] theorem r_tAnd : tAndF t u env st = (t env st).bind fun k s => if k = true then u env s else .ok false s := (rfl)
@[simp] theorem r_tOr : tOrF t u env st = (t env st).bind fun k s => if k = true then .ok true s else u env s := (rfl)
@[simp] theorem r_tNot : tNotF t env st = (t env st).bind fun k s => .ok (!k) s := (rfl)
@[simp] theorem r_tTru : tTru a env st = (a env st).bind fun d s => match truD d s with | some b => .ok b s | none => .bad := (rfl)
@[simp] theorem r_tYes : tYesF env st = .ok true st := (rfl)
@[simp] theorem r_eAnd : eAndF a b env st = (a env st).bind fun x s => match x with | .bl k => if k = true then b env s else .ok (.bl false) s | _ => .bad := (rfl)
@[simp] theorem r_eOr : eOrF a b env st = (a env st).bind fun x s => match x with | .bl k => if k = true then .ok (.bl true) s else b env s | _ => .bad := (rfl)
@[simp] theorem r_eNot : eNotF a env st = (a env st).bind fun x s => match x with | .bl k => .ok (.bl (!k)) s | _ => .bad := (rfl)
@[simp] theorem r_eIf : eIf t a b env st = (t env st).bind fun k s => if k = true then a env s else b env s := (rfl)
@[simp] theorem r_eChain {f g : D → D → Sto → Res D} : eChain f g a b c env st = (a env st).bind fun x s => (b env s).bind fun y s1 => (f x y s1).bind fun k s2 => match k with
  | .bl k => if k = true then (c env s2).bind fun z s3 => g y z s3 else .ok (.bl false) s2
  | _ => .bad := (rfl)
@[simp] theorem r_eChain3 {f g h : D → D → Sto → Res D} : eChain3 f g h a b c d env st = (a env st).bind fun x s => (b env s).bind fun y s1 => (f x y s1).bind fun k s2 => match k with
  | .bl k => if k = true then (c env s2).bind fun z s3 => (g y z s3).bind fun k' s4 => match k' with
    | .bl k' => if k' = true then (d env s4).bind fun u s5 => h z u s5 else .ok (.bl false) s4
    | _ => .bad else .ok (.bl false) s2
  | _ => .bad := (rfl)
@[simp] theorem r_oNone : oNone env st = .ok none st := (rfl)
@[simp] theorem r_oSome : oSome a env st = (a env st).bind fun d s => match d with | .int i => .ok (some i) s | _ => .bad := (rfl)
@[simp] theorem r_eSl {k : Bool} {lo hi : Ov} : eSl k a lo hi env st = (a env st).bind fun x s => (lo env s).bind fun l s1 => (hi env s1).bind fun u s2 => fSl k x l u s2 := (rfl)
@[simp] theorem r_aNil : aNil env st = .ok [] st := (rfl)
@[simp] theorem r_aCons : aCons a r env st = (a env st).bind fun d s => (r env s).bind fun ds s1 => .ok (d :: ds) s1 := (rfl)
@[simp] theorem r_eTup : eTup m env st = (m env st).bind fun ds s => if ds.length ≤ sizeLine then .ok (.tup ds) s else .bad := (rfl)
@[simp] theorem r_eLst {k : Bool} : eLst k m env st = (m env st).bind fun ds s => if ds.length ≤ sizeLine then mkL k ds s else .bad := (rfl)
@[simp] theorem r_eFn {f : Fn} {dd : List D} : eFn f dd m env st = (m env st).bind fun ds s => f (ds ++ dd) s := (rfl)
@[simp] theorem r_eCall {f : Fn} : eCall f m env st = (m env st).bind fun ds s => f ds s := (rfl)
@[simp] theorem r_eBM {ty : D → Sto → Bool} {f : D → Fn} : eBM ty f a m env st = (a env st).bind fun x s => if ty x s = true then (m env s).bind fun ds s1 => f x ds s1 else .bad := (rfl)
@[simp] theorem r_eMeth {tb : Nat → Option Fn} {dd : List D} : eMeth tb dd a m env st = (a env st).bind fun x s => match clsOf x s with
  | some c => match tb c with
    | some f => (m env s).bind fun ds s1 => f (x :: (ds ++ dd)) s1
    | none => .bad
  | none => .bad := (rfl)
@[simp] theorem r_eFld {ix : Nat → Option Nat} : eFld ix a env st = (a env st).bind fun x s => match fldsOf x s with
  | some (c, ds) => match ix c with
    | some k => match ds[k]? with
      | some d => .ok d s
      | none => .bad
    | none => .bad
  | none => .bad := (rfl)
@[simp] theorem r_eNew {c n : Nat} {fr : Bool} {f : Fn} {dd : List D} : eNew c n fr f dd m env st = (m env st).bind fun ds s => (f (.ref s.length :: (ds ++ dd)) (s ++ [.ins c []])).bind fun r s1 => match r with
    | .non => if fr = true then letGo c n s.length s1 else .ok (.ref s.length) s1
    | _ => .bad := (rfl)
@[simp] theorem r_eNew0 {c : Nat} : eNew0 c env st = .ok (.obj c []) st := (rfl)
@[simp] theorem r_eFrz : eFrz a env st = (a env st).bind fun d s => match d with
  | .ref i => match s[i]? with
    | some (.lst ds) => .ok (.lst ds) (s.set i .dead)
    | _ => .bad
  | d => .ok d s := (rfl)
@[simp] theorem r_eNeg : eNeg a env st = (a env st).bind fun d s => match d with | .int i => .ok (.int (-i)) s | _ => .bad := (rfl)
@[simp] theorem r_eLc {k : Bool} {wi : Wv} {tg : Tg} {tt : Tv} {te : Ev} {vs : List Nat} : eLc k wi tg tt te vs env st = (wi env st).bind fun ds s => if ds.length ≤ sizeLine then (compF tg tt te (wipeE env vs) ds s).bind fun r s1 => mkL k r s1 else .bad := (rfl)
@[simp] theorem r_wipe0 : wipeE env [] = env := (rfl)
@[simp] theorem r_wipe1 {v : Nat} {vs : List Nat} : wipeE env (v :: vs) = (wipeE env vs).set v none := (rfl)
/-! ### statements -/
variable {x y : Sv} {i : Nat}
@[simp] theorem r_sNx : sNx env st = .nx env st := (rfl)
@[simp] theorem r_sSeq : sSeq x y env st = (x env st).andThen y := (rfl)
@[simp] theorem r_sSet : sSet i a env st = (a env st).andS env fun d s => .nx (env.set i (some d)) s := (rfl)
@[simp] theorem r_sDrop : sDrop a env st = (a env st).andS env fun _ s => .nx env s := (rfl)
@[simp] theorem r_sRet : sRet a env st = (a env st).andS env fun d s => .rt d s := (rfl)
@[simp] theorem r_sRetN : sRetN env st = .rt .non st := (rfl)
@[simp] theorem r_sIf : sIf t x y env st = (t env st).andS env fun k s => if k = true then x env s else y env s := (rfl)
@[simp] theorem r_sBk : sBk env st = .bk env st := (rfl)
@[simp] theorem r_sCt : sCt env st = .ct env st := (rfl)
@[simp] theorem r_sBad : sBad env st = .bad := (rfl)
@[simp] theorem r_sAsg {tg : Tg} : sAsg tg a env st = (a env st).andS env fun d s => match tg d env with | some env' => .nx env' s | none => .bad := (rfl)
@[simp] theorem r_sSetIx : sSetIx a b c env st = (c env st).andS env fun d s => (a env s).andS env fun x s1 => (b env s1).andS env fun k s2 => match cellL x s2, k with
  | some (j, es), .int k => match ixN es.length k with
    | some n => .nx env (s2.set j (.lst (es.set n d)))
    | none => .bad
  | _, _ => .bad := (rfl)
@[simp] theorem r_sAug {f : D → D → Sto → Res D} : sAug f i a env st = match env[i]? with
  | some (some x) => (a env st).andS env fun y s => (f x y s).andS env fun z s1 => .nx (env.set i (some z)) s1
  | _ => .bad := (rfl)
@[simp] theorem r_sFld {ixf : Nat → Option Nat} : sFldF ixf a b env st = (b env st).andS env fun d s => (a env s).andS env fun x s1 => match clsOf x s1 with
  | some c => match ixf c with
    | some k => match setFld k d x s1 with
      | some s2 => .nx env s2
      | none => .bad
    | none => .bad
  | none => .bad := (rfl)
@[simp] theorem r_sFor {wi : Wv} {tg : Tg} : sFor wi tg x env st = (wi env st).andS env fun ds s => loop tg x ds env s := (rfl)
@[simp] theorem r_sWhile {n : Nat} : sWhile n t x env st = whileF t x n env st := (rfl)
@[simp] theorem r_gN {d : D} : gN i d env = some (env.set i (some d)) := (rfl)
@[simp] theorem r_gT {n : Nat} {g : Tgs} {ds : List D} : gT n g (.tup ds) env = if ds.length = n then g ds env else none := (rfl)
@[simp] theorem r_gNil : gNil [] env = some env := (rfl)
@[simp] theorem r_gCons {g : Tg} {h : Tgs} {d : D} {ds : List D} : gCons g h (d :: ds) env = (g d env).bind (h ds) := (rfl)
/-! ### iterables -/
def okR (j : Int) : Prop := -(2 ^ 62) ≤ j ∧ j < 2 ^ 62
theorem ite_cl {α : Type} {p q : Prop} [d : Decidable p] {a b : α} (h : p ↔ q) : (if p then a else b) = @ite α q (Classical.propDecidable q) a b := by
  by_cases hp : p
  · rw [if_pos hp, if_pos (h.mp hp)]
  · rw [if_neg hp, if_neg fun z => hp (h.mpr z)]
theorem okR_of {j : Int} (h : -1000000000000 ≤ j) (h2 : j ≤ 1000000000000) : okR j := ⟨by omega, by omega⟩
@[simp] theorem r_wAny : wAny a env st = (a env st).bind fun d s => match itemsD d with | some ds => .ok ds s | none => .bad := (rfl)
@[simp] theorem r_vAny : vAny a env st = (a env st).bind fun d s => match d with
  | .ref i => match asL (.ref i) s with
    | some _ => .ok (.ref i) s
    | none => .bad
  | d => match itemsD d with
    | some _ => .ok d s
    | none => .bad := (rfl)
@[simp] theorem r_sForA {tg : Tg} : sForA a tg x env st = (a env st).andS env fun d s => loopA tg x d env s := (rfl)
@[simp] theorem r_loopL {tg : Tg} {ds : List D} : loopA tg x (.lst ds) env st = loop tg x ds env st := (rfl)
@[simp] theorem r_loopR {tg : Tg} {ds : List D} : loopA tg x (.rol ds) env st = loop tg x ds env st := (rfl)
@[simp] theorem r_loopT {tg : Tg} {ds : List D} : loopA tg x (.tup ds) env st = loop tg x ds env st := (rfl)
@[simp] theorem r_loopS {tg : Tg} {s : List Nat} : loopA tg x (.str s) env st = loop tg x (s.map fun c => .str [c]) env st := (rfl)
theorem r_loopC {tg : Tg} {ds : List D} {j : Nat} (h : st[j]? = some (.lst ds)) : loopA tg x (.ref j) env st = loopC (.ref j) tg x ds.length 0 env st := by
  show (match asL (.ref j) st with | some ds => loopC (.ref j) tg x ds.length 0 env st | none => .bad) = _
  unfold asL
  simp [h]
theorem r_asC {ds : List D} {j : Nat} (h : st[j]? = some (.lst ds)) : asL (.ref j) st = some ds := by
  unfold asL
  simp [h]
@[simp] theorem r_eLcA {k : Bool} {wi : Ev} {tg : Tg} {tt : Tv} {te : Ev} {vs : List Nat} : eLcA k wi tg tt te vs env st = (wi env st).bind fun d s => (compA tg tt te (wipeE env vs) d s).bind fun r s1 => mkL k r s1 := (rfl)
@[simp] theorem r_compL {tg : Tg} {tt : Tv} {te : Ev} {ds : List D} : compA tg tt te env (.lst ds) st = if ds.length ≤ sizeLine then compF tg tt te env ds st else .bad := (rfl)
@[simp] theorem r_compR {tg : Tg} {tt : Tv} {te : Ev} {ds : List D} : compA tg tt te env (.rol ds) st = if ds.length ≤ sizeLine then compF tg tt te env ds st else .bad := (rfl)
@[simp] theorem r_compT {tg : Tg} {tt : Tv} {te : Ev} {ds : List D} : compA tg tt te env (.tup ds) st = if ds.length ≤ sizeLine then compF tg tt te env ds st else .bad := (rfl)
@[simp] theorem r_compS {tg : Tg} {tt : Tv} {te : Ev} {s : List Nat} : compA tg tt te env (.str s) st = if (s.map fun c => D.str [c]).length ≤ sizeLine then compF tg tt te env (s.map fun c => .str [c]) st else .bad := (rfl)
theorem r_compC {tg : Tg} {tt : Tv} {te : Ev} {ds : List D} {j : Nat} (h : st[j]? = some (.lst ds)) (hl : ds.length ≤ sizeLine) : compA tg tt te env (.ref j) st = compC (.ref j) tg tt te env ds.length 0 st := by
  show (match asL (.ref j) st with | some ds => if ds.length ≤ sizeLine then compC (.ref j) tg tt te env ds.length 0 st else .bad | none => .bad) = _
  rw [r_asC h]
  dsimp only
  rw [if_pos hl]
@[simp] theorem r_itemsL {ds : List D} : itemsD (.lst ds) = some ds := (rfl)
@[simp] theorem r_itemsR {ds : List D} : itemsD (.rol ds) = some ds := (rfl)
@[simp] theorem r_itemsT {ds : List D} : itemsD (.tup ds) = some ds := (rfl)
@[simp] theorem r_itemsS {s : List Nat} : itemsD (.str s) = some (s.map fun c => .str [c]) := (rfl)
@[simp] theorem r_wRange1 : wRange1 m env st = (m env st).bind fun ds s => match ds with | [.int j] => @ite _ (okR j) (Classical.propDecidable _) (.ok (rangeL 0 j) s) .bad | _ => .bad := (rfl)
@[simp] theorem r_wRange2 : wRange2 m env st = (m env st).bind fun ds s => match ds with | [.int i, .int j] => @ite _ (okR i ∧ okR j) (Classical.propDecidable _) (.ok (rangeL i j) s) .bad | _ => .bad := by
  show ((m env st).bind fun ds s => match ds with | [.int i, .int j] => @ite _ (-(2 ^ 62) ≤ i ∧ i < 2 ^ 62 ∧ -(2 ^ 62) ≤ j ∧ j < 2 ^ 62) (Classical.propDecidable _) (.ok (rangeL i j) s) .bad | _ => .bad) = _
  congr 1
  funext ds s
  split
  · exact @ite_cl _ _ _ (Classical.propDecidable _) _ _ (by unfold okR; exact and_assoc.symm)
  · rfl
@[simp] theorem r_wRange3 : wRange3 m env st = (m env st).bind fun ds s => match ds with | [.int i, .int j, .int c] => @ite _ (c ≠ 0 ∧ c.natAbs < 1073741824 ∧ Builtin.Range.small i j c = true ∧ Builtin.Range.rangeSize i j c = (rangeN i j c : Int)) (Classical.propDecidable _) (.ok (rangeC i j c) s) .bad | _ => .bad := (rfl)
@[simp] theorem r_wRngV : wRngV a env st = (a env st).bind fun d s => match d with | .rng i j c => @ite _ (Builtin.Range.small i j c = true ∧ Builtin.Range.rangeSize i j c = (rangeN i j c : Int)) (Classical.propDecidable _) (.ok (rangeC i j c) s) .bad | _ => .bad := (rfl)
@[simp] theorem r_wRev : wRev a env st = (a env st).bind fun d s => match d with | .lst ds => .ok ds.reverse s | .rol ds => .ok ds.reverse s | .tup ds => .ok ds.reverse s | _ => .bad := (rfl)
/-! ### operations -/
variable {p q : List Nat} {ds es : List D} {k l : Int} {mu : Bool}
@[simp] theorem r_addI : fAdd mu (.int k) (.int l) st = .ok (.int (k + l)) st := (rfl)
@[simp] theorem r_addS : fAdd mu (.str p) (.str q) st = if p.length + q.length ≤ sizeLine then .ok (.str (p ++ q)) st else .bad := (rfl)
@[simp] theorem r_addT : fAdd mu (.tup ds) (.tup es) st = if ds.length + es.length ≤ sizeLine then .ok (.tup (ds ++ es)) st else .bad := (rfl)
@[simp] theorem r_addL : fAdd mu (.lst ds) (.lst es) st = if ds.length + es.length ≤ sizeLine then mkL mu (ds ++ es) st else .bad := (rfl)
@[simp] theorem r_subI : fSub (.int k) (.int l) st = .ok (.int (k - l)) st := (rfl)
@[simp] theorem r_mulI : fMul mu (.int k) (.int l) st = if bMul k l = true then .ok (.int (k * l)) st else .bad := (rfl)
@[simp] theorem r_mulS : fMul mu (.str p) (.int l) st = @ite _ (l < 2 ^ 31 ∧ -(2 ^ 31) < l ∧ p.length * l.toNat ≤ sizeLine) (Classical.propDecidable _) (.ok (.str (List.replicate l.toNat p).flatten) st) .bad := (rfl)
@[simp] theorem r_divI : fDiv (.int k) (.int l) st = if bDiv k l = true then .ok (.int (k / l)) st else .bad := (rfl)
@[simp] theorem r_modI : fMod (.int k) (.int l) st = if bMod k l = true then .ok (.int (k % l)) st else .bad := (rfl)
@[simp] theorem r_powI : fPow (.int k) (.int l) st = if bPow k l = true then .ok (.int (k ^ l.toNat)) st else .bad := (rfl)
@[simp] theorem r_ltI : fLt (.int k) (.int l) st = .ok (.bl (decide (k < l))) st := (rfl)
@[simp] theorem r_leI : fLe (.int k) (.int l) st = .ok (.bl (decide (k ≤ l))) st := (rfl)
@[simp] theorem r_gtI : fGt (.int k) (.int l) st = .ok (.bl (decide (l < k))) st := (rfl)
@[simp] theorem r_geI : fGe (.int k) (.int l) st = .ok (.bl (decide (l ≤ k))) st := (rfl)
@[simp] theorem r_eqI : fEq (.int k) (.int l) st = .ok (.bl (decide (k = l))) st := (rfl)
@[simp] theorem r_eqS : fEq (.str p) (.str q) st = .ok (.bl (decide (p = q))) st := (rfl)
@[simp] theorem r_eqB {x y : Bool} : fEq (.bl x) (.bl y) st = .ok (.bl (decide (x = y))) st := (rfl)
@[simp] theorem r_neI : fNe (.int k) (.int l) st = .ok (.bl (!decide (k = l))) st := (rfl)
@[simp] theorem r_neS : fNe (.str p) (.str q) st = .ok (.bl (!decide (p = q))) st := (rfl)
@[simp] theorem r_ixT : fIx (.tup ds) (.int k) st = match atI ds k with | some d => .ok d st | none => .bad := (rfl)
@[simp] theorem r_ixS : fIx (.str p) (.int k) st = if p.length ≤ sizeLine then match atI p k with | some c => .ok (.str [c]) st | none => .bad else .bad := (rfl)
@[simp] theorem r_ixL : fIx (.lst ds) (.int k) st = match atI ds k with | some d => .ok d st | none => .bad := (rfl)
@[simp] theorem r_ixR : fIx (.rol ds) (.int k) st = match atI ds k with | some d => .ok d st | none => .bad := (rfl)
@[simp] theorem r_ixC {j : Nat} : fIx (.ref j) (.int k) st = match (match st[j]? with | some (.lst ds) => some ds | _ => none) with | some ds => (match atI ds k with | some d => .ok d st | none => .bad) | none => .bad := (rfl)
@[simp] theorem r_slS {lo hi : Option Int} : fSl mu (.str p) lo hi st = if p.length ≤ sizeLine then .ok (.str (cutD p lo hi)) st else .bad := (rfl)
@[simp] theorem r_slT {lo hi : Option Int} : fSl mu (.tup ds) lo hi st = .ok (.tup (cutD ds lo hi)) st := (rfl)
@[simp] theorem r_slL {lo hi : Option Int} : fSl mu (.lst ds) lo hi st = mkL mu (cutD ds lo hi) st := (rfl)
@[simp] theorem r_slR {lo hi : Option Int} : fSl mu (.rol ds) lo hi st = mkL mu (cutD ds lo hi) st := (rfl)
@[simp] theorem r_inS {c : Nat} : fIn false (.str [c]) (.str p) st = .ok (.bl (decide (c ∈ p))) st := (rfl)
@[simp] theorem r_ninS {c : Nat} : fIn true (.str [c]) (.str p) st = .ok (.bl (!decide (c ∈ p))) st := (rfl)
@[simp] theorem r_mkP : mkL false ds st = .ok (.lst ds) st := (rfl)
@[simp] theorem r_mkC : mkL true ds st = .ok (.ref st.length) (st ++ [.lst ds]) := (rfl)
@[simp] theorem r_lenS : fLen [.str p] st = if p.length ≤ sizeLine then .ok (.int (p.length : Nat)) st else .bad := by
  show (match (if p.length ≤ sizeLine then some p.length else none) with | some n => Res.ok (D.int (n : Int)) st | none => .bad) = _
  split <;> rename_i h <;> split at h <;> simp_all
@[simp] theorem r_lenT : fLen [.tup ds] st = .ok (.int (ds.length : Nat)) st := (rfl)
@[simp] theorem r_lenL : fLen [.lst ds] st = .ok (.int (ds.length : Nat)) st := (rfl)
@[simp] theorem r_lenR : fLen [.rol ds] st = .ok (.int (ds.length : Nat)) st := (rfl)
theorem r_lenC {j : Nat} (h : st[j]? = some (.lst ds)) : fLen [.ref j] st = .ok (.int (ds.length : Nat)) st := by
  unfold fLen lenD asL
  simp [h]
@[simp] theorem r_max2 : fMax [.int k, .int l] st = .ok (.int (if l > k then l else k)) st := (rfl)
@[simp] theorem r_min2 : fMin [.int k, .int l] st = .ok (.int (if l < k then l else k)) st := (rfl)
@[simp] theorem r_int : fInt [.int k] st = .ok (.int k) st := (rfl)
@[simp] theorem r_intB {x : Bool} : fInt [.bl x] st = .ok (.int (if x = true then 1 else 0)) st := (rfl)
@[simp] theorem r_divmod : fDivmod [.int k, .int l] st = @ite _ (0 < l ∧ l < 1073741824) (Classical.propDecidable _) (.ok (.tup [.int (k / l), .int (k % l)]) st) .bad := (rfl)
@[simp] theorem r_range3 {c : Int} : fRange [.int k, .int l, .int c] st = @ite _ (c ≠ 0 ∧ c.natAbs < 1073741824) (Classical.propDecidable _) (.ok (.rng k l c) st) .bad := (rfl)
@[simp] theorem r_range2 : fRange [.int k, .int l] st = .ok (.rng k l 1) st := (rfl)
@[simp] theorem r_isStr : isStr (.str p) st = true := (rfl)
@[simp] theorem r_truB {x : Bool} : truD (.bl x) st = some x := (rfl)
@[simp] theorem r_truL : truD (.lst ds) st = some (!ds.isEmpty) := (rfl)
@[simp] theorem r_append {j : Nat} {d : D} (h : st[j]? = some (.lst ds)) : fAppend (.ref j) [d] st = if ds.length < sizeLine then .ok .non (st.set j (.lst (ds ++ [d]))) else .bad := by
  unfold fAppend cellL
  simp [h]
theorem r_isLst {j : Nat} (h : st[j]? = some (.lst ds)) : isLst (.ref j) st = true := by
  unfold isLst asL
  simp [h]
@[simp] theorem bMul_small {i j : Int} (h : i.natAbs < 2 ^ 250) (h2 : j.natAbs < 2 ^ 250) : bMul i j = true := by
  unfold bMul
  refine decide_eq_true ?_
  have a1 : i.natAbs.log2 < 250 := by
    rcases Nat.eq_zero_or_pos i.natAbs with z | z
    · rw [z]; decide
    · exact (Nat.log2_lt (by omega)).mpr h
  have a2 : j.natAbs.log2 < 250 := by
    rcases Nat.eq_zero_or_pos j.natAbs with z | z
    · rw [z]; decide
    · exact (Nat.log2_lt (by omega)).mpr h2
  omega
theorem bDiv_small {i j : Int} (h : 0 < j) (h2 : j.natAbs < 2 ^ 250) : bDiv i j = true := by
  unfold bDiv
  have a2 : j.natAbs.log2 < 250 := (Nat.log2_lt (by omega)).mpr h2
  simp [h]
  omega
theorem bMod_pos {i j : Int} (h : 0 < j) : bMod i j = true := decide_eq_true h
end

/-! ### defs, loops -/
section
variable {P : D → Sto → Prop} {X : Nat → List D → Sto → Prop} {N B C : Env → Sto → Prop} {R : D → Sto → Prop} {Y : Nat → List D → Env → Sto → Prop} {st : Sto}
theorem Ret_body {nl np : Nat} {b : Sv} {ds : List D} : Ret (bodyF nl np b ds st) P X = (ds.length = np ∧ OutW (b (ds.map some ++ List.replicate (nl - np) none) st) (fun _ s => P .non s) P (fun _ _ => False) (fun _ _ => False) (fun c es _ s => X c es s)) := by
  unfold bodyF
  by_cases h : ds.length = np
  · rw [if_pos h]
    cases b (ds.map some ++ List.replicate (nl - np) none) st <;> simp [h, OutW, Ret]
  · rw [if_neg h]
    simp [h]
/-- a cut behind the first statement -/
theorem OutW.seq {a b : Sv} {env : Env} (Mid : Env → Sto → Prop) (h : OutW (a env st) Mid R B C Y) (k : ∀ e s, Mid e s → OutW (b e s) N R B C Y) : OutW (sSeq a b env st) N R B C Y := by
  rw [r_sSeq, OutW_andThen]
  exact h.mono k (fun _ _ z => z) (fun _ _ z => z) (fun _ _ z => z) fun _ _ _ _ z => z
/-- a loop by its invariant -/
theorem loop_inv {t : Tg} {body : Sv} {ds : List D} {env : Env} (I : Nat → Env → Sto → Prop) (h0 : I 0 env st)
    (hs : ∀ i d env st, ds[i]? = some d → I i env st → ∃ e1, t d env = some e1 ∧ OutW (body e1 st) (I (i + 1)) R N (I (i + 1)) Y) (hd : ∀ env st, I ds.length env st → N env st) : OutW (loop t body ds env st) N R B C Y := by
  have main : ∀ (n i : Nat) (env : Env) (st : Sto), i + n = ds.length → I i env st → OutW (loop t body (ds.drop i) env st) N R B C Y := by
    intro n
    induction n with
    | zero =>
      intro i env st hi h
      rw [List.drop_of_length_le (by omega)]
      exact hd env st (by rw [← hi]; exact h)
    | succ n ih =>
      intro i env st hi h
      have hlt : i < ds.length := by omega
      rw [List.drop_eq_getElem_cons hlt]
      obtain ⟨e1, q1, q2⟩ := hs i ds[i] env st (List.getElem?_eq_getElem hlt) h
      unfold loop
      rw [q1]
      dsimp only
      cases q3 : body e1 st with
      | nx e s => rw [q3] at q2; exact ih (i + 1) e s (by omega) q2
      | ct e s => rw [q3] at q2; exact ih (i + 1) e s (by omega) q2
      | bk e s => rw [q3] at q2; exact q2
      | rt d s => rw [q3] at q2; exact q2
      | ex c es e s => rw [q3] at q2; exact q2
      | bad => rw [q3] at q2; exact q2
  exact main ds.length 0 env st (by omega) h0
/-- a search that returns at the first hit -/
theorem any_inv {t : Tg} {body : Sv} {env : Env} {α : Type} (l : List α) (g : α → D) (q : α → Bool) (I : Env → Sto → Prop) (R0 : D → Sto → Prop) (h0 : I env st)
    (hs : ∀ x ∈ l, ∀ env st, I env st → ∃ e1, t (g x) env = some e1 ∧ OutW (body e1 st) (fun e s => q x = false ∧ I e s) (fun d s => q x = true ∧ R0 d s) (fun _ _ => False) (fun e s => q x = false ∧ I e s) (fun _ _ _ _ => False))
    (hd : ∀ env st, l.any q = false → I env st → N env st) (hR : ∀ d s, l.any q = true → R0 d s → R d s) : OutW (loop t body (l.map g) env st) N R B C Y := by
  induction l generalizing env st with
  | nil => exact hd env st rfl h0
  | cons x l ih =>
    obtain ⟨e1, a, b⟩ := hs x List.mem_cons_self env st h0
    show OutW (loop t body (g x :: l.map g) env st) _ _ _ _ _
    unfold loop
    rw [a]
    dsimp only
    cases e : body e1 st with
    | nx e' s' =>
      rw [e] at b
      exact ih b.2 (fun y hy => hs y (List.mem_cons_of_mem _ hy)) (fun env st h => hd env st (by rw [List.any_cons, b.1, h]; rfl)) (fun d s h => hR d s (by rw [List.any_cons, h]; simp))
    | ct e' s' =>
      rw [e] at b
      exact ih b.2 (fun y hy => hs y (List.mem_cons_of_mem _ hy)) (fun env st h => hd env st (by rw [List.any_cons, b.1, h]; rfl)) (fun d s h => hR d s (by rw [List.any_cons, h]; simp))
    | rt d' s' =>
      rw [e] at b
      exact hR d' s' (by rw [List.any_cons, b.1]; rfl) b.2
    | bk e' s' => rw [e] at b; exact b.elim
    | ex c ds e' s' => rw [e] at b; exact b.elim
    | bad => rw [e] at b; exact b.elim
/-- .. over a live list that the body leaves as it is -/
theorem loopC_inv {l : D} {t : Tg} {body : Sv} {ds : List D} {env : Env} (I : Nat → Env → Sto → Prop) (h0 : I 0 env st) (hl : ∀ i env st, I i env st → asL l st = some ds)
    (hs : ∀ i d env st, ds[i]? = some d → I i env st → ∃ e1, t d env = some e1 ∧ OutW (body e1 st) (I (i + 1)) R N (I (i + 1)) Y) (hd : ∀ env st, I ds.length env st → N env st) : OutW (loopC l t body ds.length 0 env st) N R B C Y := by
  have main : ∀ (n i : Nat) (env : Env) (st : Sto), i + n = ds.length → I i env st → OutW (loopC l t body n i env st) N R B C Y := by
    intro n
    induction n with
    | zero =>
      intro i env st hi h
      unfold loopC
      rw [hl i env st h]
      dsimp only
      rw [if_pos (by omega)]
      exact hd env st (by rw [← hi]; exact h)
    | succ n ih =>
      intro i env st hi h
      have hlt : i < ds.length := by omega
      obtain ⟨e1, q1, q2⟩ := hs i ds[i] env st (List.getElem?_eq_getElem hlt) h
      unfold loopC
      rw [hl i env st h]
      dsimp only
      rw [List.getElem?_eq_getElem hlt]
      dsimp only
      rw [q1]
      dsimp only
      cases q3 : body e1 st with
      | nx e s => rw [q3] at q2; exact ih (i + 1) e s (by omega) q2
      | ct e s => rw [q3] at q2; exact ih (i + 1) e s (by omega) q2
      | bk e s => rw [q3] at q2; exact q2
      | rt d s => rw [q3] at q2; exact q2
      | ex c es e s => rw [q3] at q2; exact q2
      | bad => rw [q3] at q2; exact q2
  exact main ds.length 0 env st (by omega) h0
/-- a while by a measure -/
theorem while_inv {t : Tv} {body : Sv} {n : Nat} {env : Env} (I : Nat → Env → Sto → Prop) (h0 : I n env st)
    (hs : ∀ i env st, I i env st → ∃ j, i = j + 1 ∧ Ret (t env st) (fun k s => if k = true then OutW (body env s) (I j) R N (I j) Y else N env s) (fun c ds s => Y c ds env s)) : OutW (whileF t body n env st) N R B C Y := by
  induction n generalizing env st with
  | zero =>
    obtain ⟨j, e, _⟩ := hs 0 env st h0
    omega
  | succ n ih =>
    obtain ⟨j, e, q⟩ := hs (n + 1) env st h0
    obtain rfl : n = j := by omega
    unfold whileF
    rw [OutW_andS]
    refine q.mono (fun k s z => ?_) fun _ _ _ z => z
    split at z
    · rename_i hk
      rw [if_pos hk]
      cases q3 : body env s with
      | nx e s => rw [q3] at z; exact ih z
      | ct e s => rw [q3] at z; exact ih z
      | bk e s => rw [q3] at z; exact z
      | rt d s => rw [q3] at z; exact z
      | ex c es e s => rw [q3] at z; exact z
      | bad => rw [q3] at z; exact z
    · rename_i hk
      rw [if_neg hk]
      exact z
/-- a comprehension by its invariant -/
theorem comp_inv {P : List D → Sto → Prop} {X : Nat → List D → Sto → Prop} {t : Tg} {tt : Tv} {te : Ev} {ds : List D} {env : Env} (I : Nat → List D → Sto → Prop) (h0 : I 0 [] st)
    (hs : ∀ i d acc st, ds[i]? = some d → I i acc st → ∃ e1, t d env = some e1 ∧ Ret (tt e1 st) (fun b s => if b = true then Ret (te e1 s) (fun y s1 => I (i + 1) (acc ++ [y]) s1) NX else I (i + 1) acc s) NX) (hd : ∀ acc st, I ds.length acc st → P acc st) : Ret (compF t tt te env ds st) P X := by
  have main : ∀ (n i : Nat) (acc : List D) (st : Sto), i + n = ds.length → I i acc st → Ret (compF t tt te env (ds.drop i) st) (fun r s => I ds.length (acc ++ r) s) NX := by
    intro n
    induction n with
    | zero =>
      intro i acc st hi h
      rw [List.drop_of_length_le (by omega)]
      show I ds.length (acc ++ []) st
      rw [List.append_nil, ← hi]
      exact h
    | succ n ih =>
      intro i acc st hi h
      have hlt : i < ds.length := by omega
      rw [List.drop_eq_getElem_cons hlt]
      obtain ⟨e1, q1, q2⟩ := hs i ds[i] acc st (List.getElem?_eq_getElem hlt) h
      unfold compF
      rw [q1]
      dsimp only
      rw [Ret_bind, Ret_cut]
      refine Ret.mono q2 (fun b s z => ?_) fun _ _ _ z => z.elim
      cases b with
      | true =>
        have z' : Ret (te e1 s) (fun y s1 => I (i + 1) (acc ++ [y]) s1) NX := z
        rw [if_pos rfl, Ret_bind, Ret_cut]
        refine z'.mono (fun y s1 z2 => ?_) fun _ _ _ z => z.elim
        rw [Ret_bind]
        refine (ih (i + 1) (acc ++ [y]) s1 (by omega) z2).mono (fun r s2 z3 => ?_) fun _ _ _ z => z.elim
        rw [List.append_assoc] at z3
        exact z3
      | false =>
        rw [if_neg Bool.false_ne_true]
        exact ih (i + 1) acc s (by omega) z
  exact (main ds.length 0 [] st (by omega) h0).mono (fun r s z => hd r s z) fun _ _ _ z => z.elim
/-- .. over a live list that its items leave as it is -/
theorem compC_inv {P : List D → Sto → Prop} {X : Nat → List D → Sto → Prop} {l : D} {t : Tg} {tt : Tv} {te : Ev} {ds : List D} {env : Env} (I : Nat → List D → Sto → Prop) (h0 : I 0 [] st) (hl : ∀ i acc st, I i acc st → asL l st = some ds)
    (hs : ∀ i d acc st, ds[i]? = some d → I i acc st → ∃ e1, t d env = some e1 ∧ Ret (tt e1 st) (fun b s => if b = true then Ret (te e1 s) (fun y s1 => I (i + 1) (acc ++ [y]) s1) NX else I (i + 1) acc s) NX) (hd : ∀ acc st, I ds.length acc st → P acc st) : Ret (compC l t tt te env ds.length 0 st) P X := by
  have main : ∀ (n i : Nat) (acc : List D) (st : Sto), i + n = ds.length → I i acc st → Ret (compC l t tt te env n i st) (fun r s => I ds.length (acc ++ r) s) NX := by
    intro n
    induction n with
    | zero =>
      intro i acc st hi h
      unfold compC
      rw [hl i acc st h]
      dsimp only
      rw [if_pos (by omega)]
      show I ds.length (acc ++ []) st
      rw [List.append_nil, ← hi]
      exact h
    | succ n ih =>
      intro i acc st hi h
      have hlt : i < ds.length := by omega
      obtain ⟨e1, q1, q2⟩ := hs i ds[i] acc st (List.getElem?_eq_getElem hlt) h
      unfold compC
      rw [hl i acc st h]
      dsimp only
      rw [List.getElem?_eq_getElem hlt]
      dsimp only
      rw [q1]
      dsimp only
      rw [Ret_bind, Ret_cut]
      refine Ret.mono q2 (fun b s z => ?_) fun _ _ _ z => z.elim
      cases b with
      | true =>
        have z' : Ret (te e1 s) (fun y s1 => I (i + 1) (acc ++ [y]) s1) NX := z
        rw [if_pos rfl, Ret_bind, Ret_cut]
        refine z'.mono (fun y s1 z2 => ?_) fun _ _ _ z => z.elim
        rw [Ret_bind]
        refine (ih (i + 1) (acc ++ [y]) s1 (by omega) z2).mono (fun r s2 z3 => ?_) fun _ _ _ z => z.elim
        rw [List.append_assoc] at z3
        exact z3
      | false =>
        rw [if_neg Bool.false_ne_true]
        exact ih (i + 1) acc s (by omega) z
  exact (main ds.length 0 [] st (by omega) h0).mono (fun r s z => hd r s z) fun _ _ _ z => z.elim
/-- a comprehension whose items are computed without the store -/
theorem comp_map {t : Tg} {te : Ev} {env : Env} {g : D → D} : ∀ {ds : List D}, (∀ d ∈ ds, ∃ e1, t d env = some e1 ∧ te e1 st = .ok (g d) st) → compF t tYesF te env ds st = .ok (ds.map g) st
  | [], _ => rfl
  | d :: ds, h => by
    obtain ⟨e1, q1, q2⟩ := h d List.mem_cons_self
    unfold compF
    rw [q1]
    dsimp only
    show ((te e1 st).cut.bind fun y s1 => (compF t tYesF te env ds s1).bind fun r s2 => .ok (y :: r) s2) = _
    rw [q2]
    show ((compF t tYesF te env ds st).bind fun r s2 => .ok (g d :: r) s2) = _
    rw [comp_map fun x hx => h x (List.mem_cons_of_mem _ hx)]
    rfl
end
end F
/-! == of data, by the shape. -/
namespace F
open PySem L2
mutual
def eqD : D → D → Bool
  | .non, .non => true
  | .bl a, .bl b => a == b
  | .bl a, .int j => (if a then 1 else 0) == j
  | .int i, .bl b => i == (if b then 1 else 0)
  | .int i, .int j => i == j
  | .str a, .str b => a == b
  | .tup xs, .tup ys => eqDs xs ys
  | .lst xs, .lst ys => eqDs xs ys
  | .lst xs, .rol ys => eqDs xs ys
  | .rol xs, .lst ys => eqDs xs ys
  | .rol xs, .rol ys => eqDs xs ys
  | _, _ => false
def eqDs : List D → List D → Bool
  | [], [] => true
  | x :: xs, y :: ys => eqD x y && eqDs xs ys
  | _, _ => false
end
mutual
/-- plain data of at most this depth, signs as they should be -/
def okD : Nat → D → Bool
  | _, .non => true
  | _, .bl _ => true
  | _, .int _ => true
  | _, .str s => s.all (· < 0x110000)
  | n + 1, .tup ds => okDs n ds
  | n + 1, .lst ds => okDs n ds
  | n + 1, .rol ds => okDs n ds
  | _, _ => false
def okDs : Nat → List D → Bool
  | _, [] => true
  | n, d :: ds => okD n d && okDs n ds
end
mutual
theorem toPy_ok {st : Sto} : ∀ (n : Nat) (d : D), okD n d = true → ∃ p, toPy st n d = some p ∧ p.canLay0 = true ∧ p.depth ≤ n + 1
  | n, .non, _ => ⟨.none, by cases n <;> rfl, by simp [PyData.canLay0], by simp [PyData.depth]⟩
  | n, .bl b, _ => ⟨.bool b, by cases n <;> rfl, by simp [PyData.canLay0], by simp [PyData.depth]⟩
  | n, .int b, _ => ⟨.int b, by cases n <;> rfl, by simp [PyData.canLay0], by simp [PyData.depth]⟩
  | n, .str s, h => ⟨.str ⟨s.toArray⟩, by cases n <;> rfl, by
      have h' : s.all (· < 0x110000) = true := by unfold okD at h; exact h
      unfold PyData.canLay0 PyData.strOk
      simpa using h', by simp [PyData.depth]⟩
  | 0, .tup ds, h => by simp [okD] at h
  | 0, .lst ds, h => by simp [okD] at h
  | 0, .rol ds, h => by simp [okD] at h
  | n + 1, .tup ds, h => by
    unfold okD at h
    obtain ⟨ps, e, a, b⟩ := toPys_ok n ds h
    refine ⟨.tuple ps, by unfold toPy; rw [e]; rfl, by unfold PyData.canLay0; exact a, by unfold PyData.depth; omega⟩
  | n + 1, .lst ds, h => by
    unfold okD at h
    obtain ⟨ps, e, a, b⟩ := toPys_ok n ds h
    refine ⟨.list ps, by unfold toPy; rw [e]; rfl, by unfold PyData.canLay0; exact a, by unfold PyData.depth; omega⟩
  | n + 1, .rol ds, h => by
    unfold okD at h
    obtain ⟨ps, e, a, b⟩ := toPys_ok n ds h
    refine ⟨.list ps, by unfold toPy; rw [e]; rfl, by unfold PyData.canLay0; exact a, by unfold PyData.depth; omega⟩
  | n, .obj c ds, h => by cases n <;> simp [okD] at h
  | n, .ref i, h => by cases n <;> simp [okD] at h
  | n, .rng i j c, h => by cases n <;> simp [okD] at h
  | n, .ty i, h => by cases n <;> simp [okD] at h
  | n, .cl i, h => by cases n <;> simp [okD] at h
theorem toPys_ok {st : Sto} : ∀ (n : Nat) (ds : List D), okDs n ds = true → ∃ ps, mapO (toPy st n) ds = some ps ∧ PyData.canLayAll0 ps = true ∧ PyData.depthAll ps ≤ n + 1
  | n, [], _ => ⟨[], rfl, by simp [PyData.canLayAll0], by simp [PyData.depthAll]⟩
  | n, d :: ds, h => by
    unfold okDs at h
    rw [Bool.and_eq_true] at h
    obtain ⟨p, e1, a1, b1⟩ := toPy_ok n d h.1
    obtain ⟨ps, e2, a2, b2⟩ := toPys_ok n ds h.2
    refine ⟨p :: ps, by unfold mapO; rw [e1, e2], by unfold PyData.canLayAll0; rw [a1, a2]; rfl, by unfold PyData.depthAll; omega⟩
end
theorem tup_of {st : Sto} {n : Nat} {ds : List D} {p : PyData} (h : toPy st (n + 1) (.tup ds) = some p) : ∃ ps, mapO (toPy st n) ds = some ps ∧ p = .tuple ps := by
  unfold toPy at h
  cases q : mapO (toPy st n) ds with
  | none => rw [q] at h; cases h
  | some ps => rw [q] at h; cases h; exact ⟨ps, rfl, rfl⟩
theorem lst_of {st : Sto} {n : Nat} {ds : List D} {p : PyData} (h : toPy st (n + 1) (.lst ds) = some p) : ∃ ps, mapO (toPy st n) ds = some ps ∧ p = .list ps := by
  unfold toPy at h
  cases q : mapO (toPy st n) ds with
  | none => rw [q] at h; cases h
  | some ps => rw [q] at h; cases h; exact ⟨ps, rfl, rfl⟩
theorem rol_of {st : Sto} {n : Nat} {ds : List D} {p : PyData} (h : toPy st (n + 1) (.rol ds) = some p) : ∃ ps, mapO (toPy st n) ds = some ps ∧ p = .list ps := by
  unfold toPy at h
  cases q : mapO (toPy st n) ds with
  | none => rw [q] at h; cases h
  | some ps => rw [q] at h; cases h; exact ⟨ps, rfl, rfl⟩
theorem flat_py {st : Sto} {n : Nat} {d : D} {p : PyData} (h : toPy st n d = some p) : match d with
  | .non => p = .none
  | .bl b => p = .bool b
  | .int i => p = .int i
  | .str s => p = .str ⟨s.toArray⟩
  | .tup ds => ∃ m ps, n = m + 1 ∧ mapO (toPy st m) ds = some ps ∧ p = .tuple ps
  | .lst ds => ∃ m ps, n = m + 1 ∧ mapO (toPy st m) ds = some ps ∧ p = .list ps
  | .rol ds => ∃ m ps, n = m + 1 ∧ mapO (toPy st m) ds = some ps ∧ p = .list ps
  | _ => True := by
  cases d with
  | non => cases n <;> (cases h; rfl)
  | bl b => cases n <;> (cases h; rfl)
  | int b => cases n <;> (cases h; rfl)
  | str b => cases n <;> (cases h; rfl)
  | tup ds =>
    cases n with
    | zero => cases h
    | succ n => obtain ⟨ps, a, b⟩ := tup_of h; exact ⟨n, ps, rfl, a, b⟩
  | lst ds =>
    cases n with
    | zero => cases h
    | succ n => obtain ⟨ps, a, b⟩ := lst_of h; exact ⟨n, ps, rfl, a, b⟩
  | rol ds =>
    cases n with
    | zero => cases h
    | succ n => obtain ⟨ps, a, b⟩ := rol_of h; exact ⟨n, ps, rfl, a, b⟩
  | _ => trivial
theorem strs_beq (a b : List Nat) : ((⟨a.toArray⟩ : Str) == ⟨b.toArray⟩) = (a == b) := by
  by_cases h : a = b
  · subst h
    simp
  · have : ¬ ((⟨a.toArray⟩ : Str) = ⟨b.toArray⟩) := fun z => h (by simpa using congrArg Str.cps z)
    rw [beq_eq_false_iff_ne.mpr this, beq_eq_false_iff_ne.mpr h]
mutual
theorem eqv_ok {st : Sto} : ∀ (d : D) (n m : Nat) (e : D) (p q : PyData), okD n d = true → okD m e = true → toPy st n d = some p → toPy st m e = some q → PyData.eqv p q = eqD d e
  | d, n, m, e, p, q, hd, he, h1, h2 => by
    have a := flat_py h1
    have b := flat_py h2
    cases d with
    | non => cases e with
      | tup _ => obtain ⟨_, _, _, _, rfl⟩ := b; rw [show p = _ from a]; simp [PyData.eqv, eqD]
      | lst _ => obtain ⟨_, _, _, _, rfl⟩ := b; rw [show p = _ from a]; simp [PyData.eqv, eqD]
      | rol _ => obtain ⟨_, _, _, _, rfl⟩ := b; rw [show p = _ from a]; simp [PyData.eqv, eqD]
      | obj _ _ => cases m <;> simp [okD] at he
      | ref _ => cases m <;> simp [okD] at he
      | rng _ _ _ => cases m <;> simp [okD] at he
      | ty _ => cases m <;> simp [okD] at he
      | cl _ => cases m <;> simp [okD] at he
      | _ => rw [show p = _ from a, show q = _ from b]; simp [PyData.eqv, eqD]
    | bl x => cases e with
      | tup _ => obtain ⟨_, _, _, _, rfl⟩ := b; rw [show p = _ from a]; simp [PyData.eqv, eqD]
      | lst _ => obtain ⟨_, _, _, _, rfl⟩ := b; rw [show p = _ from a]; simp [PyData.eqv, eqD]
      | rol _ => obtain ⟨_, _, _, _, rfl⟩ := b; rw [show p = _ from a]; simp [PyData.eqv, eqD]
      | obj _ _ => cases m <;> simp [okD] at he
      | ref _ => cases m <;> simp [okD] at he
      | rng _ _ _ => cases m <;> simp [okD] at he
      | ty _ => cases m <;> simp [okD] at he
      | cl _ => cases m <;> simp [okD] at he
      | _ => rw [show p = _ from a, show q = _ from b]; simp [PyData.eqv, eqD]
    | int x => cases e with
      | tup _ => obtain ⟨_, _, _, _, rfl⟩ := b; rw [show p = _ from a]; simp [PyData.eqv, eqD]
      | lst _ => obtain ⟨_, _, _, _, rfl⟩ := b; rw [show p = _ from a]; simp [PyData.eqv, eqD]
      | rol _ => obtain ⟨_, _, _, _, rfl⟩ := b; rw [show p = _ from a]; simp [PyData.eqv, eqD]
      | obj _ _ => cases m <;> simp [okD] at he
      | ref _ => cases m <;> simp [okD] at he
      | rng _ _ _ => cases m <;> simp [okD] at he
      | ty _ => cases m <;> simp [okD] at he
      | cl _ => cases m <;> simp [okD] at he
      | _ => rw [show p = _ from a, show q = _ from b]; simp [PyData.eqv, eqD]
    | str x => cases e with
      | tup _ => obtain ⟨_, _, _, _, rfl⟩ := b; rw [show p = _ from a]; simp [PyData.eqv, eqD]
      | lst _ => obtain ⟨_, _, _, _, rfl⟩ := b; rw [show p = _ from a]; simp [PyData.eqv, eqD]
      | rol _ => obtain ⟨_, _, _, _, rfl⟩ := b; rw [show p = _ from a]; simp [PyData.eqv, eqD]
      | obj _ _ => cases m <;> simp [okD] at he
      | ref _ => cases m <;> simp [okD] at he
      | rng _ _ _ => cases m <;> simp [okD] at he
      | ty _ => cases m <;> simp [okD] at he
      | cl _ => cases m <;> simp [okD] at he
      | str y =>
        rw [show p = _ from a, show q = _ from b]
        unfold PyData.eqv eqD
        exact strs_beq x y
      | _ => rw [show p = _ from a, show q = _ from b]; simp [PyData.eqv, eqD]
    | tup ds =>
      obtain ⟨n', ps, rfl, e1, rfl⟩ := a
      unfold okD at hd
      cases e with
      | tup es =>
        obtain ⟨m', qs, rfl, e2, rfl⟩ := b
        unfold okD at he
        unfold PyData.eqv eqD
        exact eqvs_ok ds n' m' es ps qs hd he e1 e2
      | lst _ => obtain ⟨_, _, _, _, rfl⟩ := b; simp [PyData.eqv, eqD]
      | rol _ => obtain ⟨_, _, _, _, rfl⟩ := b; simp [PyData.eqv, eqD]
      | obj _ _ => cases m <;> simp [okD] at he
      | ref _ => cases m <;> simp [okD] at he
      | rng _ _ _ => cases m <;> simp [okD] at he
      | ty _ => cases m <;> simp [okD] at he
      | cl _ => cases m <;> simp [okD] at he
      | _ => rw [show q = _ from b]; simp [PyData.eqv, eqD]
    | lst ds =>
      obtain ⟨n', ps, rfl, e1, rfl⟩ := a
      unfold okD at hd
      cases e with
      | lst es =>
        obtain ⟨m', qs, rfl, e2, rfl⟩ := b
        unfold okD at he
        unfold PyData.eqv eqD
        exact eqvs_ok ds n' m' es ps qs hd he e1 e2
      | rol es =>
        obtain ⟨m', qs, rfl, e2, rfl⟩ := b
        unfold okD at he
        unfold PyData.eqv eqD
        exact eqvs_ok ds n' m' es ps qs hd he e1 e2
      | tup _ => obtain ⟨_, _, _, _, rfl⟩ := b; simp [PyData.eqv, eqD]
      | obj _ _ => cases m <;> simp [okD] at he
      | ref _ => cases m <;> simp [okD] at he
      | rng _ _ _ => cases m <;> simp [okD] at he
      | ty _ => cases m <;> simp [okD] at he
      | cl _ => cases m <;> simp [okD] at he
      | _ => rw [show q = _ from b]; simp [PyData.eqv, eqD]
    | rol ds =>
      obtain ⟨n', ps, rfl, e1, rfl⟩ := a
      unfold okD at hd
      cases e with
      | lst es =>
        obtain ⟨m', qs, rfl, e2, rfl⟩ := b
        unfold okD at he
        unfold PyData.eqv eqD
        exact eqvs_ok ds n' m' es ps qs hd he e1 e2
      | rol es =>
        obtain ⟨m', qs, rfl, e2, rfl⟩ := b
        unfold okD at he
        unfold PyData.eqv eqD
        exact eqvs_ok ds n' m' es ps qs hd he e1 e2
      | tup _ => obtain ⟨_, _, _, _, rfl⟩ := b; simp [PyData.eqv, eqD]
      | obj _ _ => cases m <;> simp [okD] at he
      | ref _ => cases m <;> simp [okD] at he
      | rng _ _ _ => cases m <;> simp [okD] at he
      | ty _ => cases m <;> simp [okD] at he
      | cl _ => cases m <;> simp [okD] at he
      | _ => rw [show q = _ from b]; simp [PyData.eqv, eqD]
    | obj _ _ => cases n <;> simp [okD] at hd
    | ref _ => cases n <;> simp [okD] at hd
    | rng _ _ _ => cases n <;> simp [okD] at hd
    | ty _ => cases n <;> simp [okD] at hd
    | cl _ => cases n <;> simp [okD] at hd
theorem eqvs_ok {st : Sto} : ∀ (ds : List D) (n m : Nat) (es : List D) (ps qs : List PyData), okDs n ds = true → okDs m es = true → mapO (toPy st n) ds = some ps → mapO (toPy st m) es = some qs → PyData.eqvAll ps qs = eqDs ds es
  | [], n, m, es, ps, qs, hd, he, h1, h2 => by
    cases h1
    cases es with
    | nil => cases h2; simp [PyData.eqvAll, eqDs]
    | cons e es =>
      unfold mapO at h2
      split at h2
      · cases h2; simp [PyData.eqvAll, eqDs]
      · cases h2
  | d :: ds, n, m, es, ps, qs, hd, he, h1, h2 => by
    unfold mapO at h1
    split at h1
    · rename_i p ps' a1 a2
      cases h1
      cases es with
      | nil => cases h2; simp [PyData.eqvAll, eqDs]
      | cons e es =>
        unfold mapO at h2
        split at h2
        · rename_i q qs' b1 b2
          cases h2
          unfold okDs at hd he
          rw [Bool.and_eq_true] at hd he
          unfold PyData.eqvAll eqDs
          rw [eqv_ok d n m e p q hd.1 he.1 a1 b1, eqvs_ok ds n m es ps' qs' hd.2 he.2 a2 b2]
        · cases h2
    · cases h1
end
theorem pyEq_ok {st : Sto} {x y : D} (hx : okD 8 x = true) (hy : okD 8 y = true) : pyEq st x y = some (eqD x y) := by
  have main : (match toPy st 8 x, toPy st 8 y with
    | some d, some e => if SeqAt.shaped d = true ∧ SeqAt.shaped e = true then some (PyData.eqv d e) else none
    | _, _ => none) = some (eqD x y) := by
    obtain ⟨p, e1, a1, b1⟩ := toPy_ok (st := st) 8 x hx
    obtain ⟨q, e2, a2, b2⟩ := toPy_ok (st := st) 8 y hy
    rw [e1, e2]
    dsimp only
    have s1 : SeqAt.shaped p = true := by unfold SeqAt.shaped; rw [a1]; simp; omega
    have s2 : SeqAt.shaped q = true := by unfold SeqAt.shaped; rw [a2]; simp; omega
    rw [if_pos ⟨s1, s2⟩, eqv_ok x 8 8 y p q hx hy e1 e2]
  unfold pyEq
  split
  · unfold eqD
    rename_i a b
    by_cases h : a = b <;> simp [h]
  · unfold eqD
    rename_i a b
    by_cases h : a = b <;> simp [h]
  · unfold eqD
    rename_i a b
    by_cases h : a = b <;> simp [h]
  · exact main
/-- == of plain data -/
theorem r_eqP {st : Sto} {x y : D} (hx : okD 8 x = true) (hy : okD 8 y = true) : fEq x y st = .ok (.bl (eqD x y)) st := by
  unfold fEq
  rw [pyEq_ok hx hy]
theorem r_neP {st : Sto} {x y : D} (hx : okD 8 x = true) (hy : okD 8 y = true) : fNe x y st = .ok (.bl (!eqD x y)) st := by
  unfold fNe
  rw [pyEq_ok hx hy]
theorem okDs_iff {n : Nat} {ds : List D} : okDs n ds = true ↔ ∀ d ∈ ds, okD n d = true := by
  induction ds with
  | nil => simp [okDs]
  | cons d ds ih =>
    unfold okDs
    rw [Bool.and_eq_true, ih]
    simp
theorem okD_lst {n : Nat} {ds : List D} (h : ∀ d ∈ ds, okD n d = true) : okD (n + 1) (.lst ds) = true := by
  unfold okD
  exact okDs_iff.mpr h
theorem okD_tup {n : Nat} {ds : List D} (h : ∀ d ∈ ds, okD n d = true) : okD (n + 1) (.tup ds) = true := by
  unfold okD
  exact okDs_iff.mpr h
theorem eqDs_map {α : Type} [DecidableEq α] {f : α → D} (hf : ∀ a b, eqD (f a) (f b) = decide (a = b)) : ∀ l m : List α, eqDs (l.map f) (m.map f) = decide (l = m)
  | [], [] => by simp [eqDs]
  | [], _ :: _ => by simp [eqDs]
  | _ :: _, [] => by simp [eqDs]
  | a :: l, b :: m => by
    show (eqD (f a) (f b) && eqDs (l.map f) (m.map f)) = _
    rw [hf, eqDs_map hf l m]
    by_cases h : a = b <;> by_cases h2 : l = m <;> simp [h, h2]
theorem eqD_int (i j : Int) : eqD (.int i) (.int j) = decide (i = j) := by
  unfold eqD
  by_cases h : i = j <;> simp [h]
theorem eqD_str (i j : List Nat) : eqD (.str i) (.str j) = decide (i = j) := by
  unfold eqD
  by_cases h : i = j <;> simp [h]
/-- a list against the empty one -/
theorem r_eqNil {st : Sto} {l : List D} (h : ∀ d ∈ l, okD 7 d = true) : fEq (.lst l) (.lst []) st = .ok (.bl (decide (l = []))) st := by
  rw [r_eqP (okD_lst h) rfl]
  cases l with
  | nil => simp [eqD, eqDs]
  | cons a l => simp [eqD, eqDs]
end F
/-! Texts: count, split, join, slices, in plain lists. -/
namespace F
open PySem L2

/-! ### slices -/
section
variable {α : Type} {l : List α} {i j : Int}
theorem cut_to (h : 0 ≤ j) : cutD l none (some j) = l.take j.toNat := by
  unfold cutD HT.sIx
  simp [show ¬ j < 0 by omega]
theorem cut_from (h : 0 ≤ i) : cutD l (some i) none = l.drop i.toNat := by
  unfold cutD HT.sIx
  simp only [show ¬ i < 0 by omega, if_false]
  rcases Nat.le_total i.toNat l.length with h | h
  · rw [Nat.min_eq_left h]
    exact List.take_of_length_le (by simp)
  · rw [Nat.min_eq_right h, List.drop_of_length_le (Nat.le_refl _), List.drop_of_length_le h]
    simp
theorem cut_in (h : 0 ≤ i) (h2 : 0 ≤ j) : cutD l (some i) (some j) = (l.drop i.toNat).take (j.toNat - i.toNat) := by
  unfold cutD HT.sIx
  simp only [show ¬ i < 0 by omega, show ¬ j < 0 by omega, if_false]
  rcases Nat.le_total i.toNat l.length with h | h
  · rw [Nat.min_eq_left h]
    rcases Nat.le_total j.toNat l.length with h2 | h2
    · rw [Nat.min_eq_left h2]
    · rw [Nat.min_eq_right h2, List.take_of_length_le (i := l.length - i.toNat) (by simp), List.take_of_length_le]
      rw [List.length_drop]
      omega
  · rw [Nat.min_eq_right h, List.drop_of_length_le (Nat.le_refl _), List.drop_of_length_le h]
    simp
theorem atI_in (h0 : 0 ≤ i) (h1 : i < l.length) : atI l i = some (l[i.toNat]'(by omega)) := by
  unfold atI ixN
  rw [if_pos h0, if_pos h1]
  exact List.getElem?_eq_getElem _
@[simp] theorem atI_0 {x0 : α} : atI (x0 :: l) 0 = some x0 := by
  rw [atI_in (by decide) (by simp only [List.length_cons]; omega)]
  rfl
@[simp] theorem atI_1 {x0 x1 : α} : atI (x0 :: x1 :: l) 1 = some x1 := by
  rw [atI_in (by decide) (by simp only [List.length_cons]; omega)]
  rfl
@[simp] theorem atI_2 {x0 x1 x2 : α} : atI (x0 :: x1 :: x2 :: l) 2 = some x2 := by
  rw [atI_in (by decide) (by simp only [List.length_cons]; omega)]
  rfl
@[simp] theorem atI_3 {x0 x1 x2 x3 : α} : atI (x0 :: x1 :: x2 :: x3 :: l) 3 = some x3 := by
  rw [atI_in (by decide) (by simp only [List.length_cons]; omega)]
  rfl
@[simp] theorem atI_4 {x0 x1 x2 x3 x4 : α} : atI (x0 :: x1 :: x2 :: x3 :: x4 :: l) 4 = some x4 := by
  rw [atI_in (by decide) (by simp only [List.length_cons]; omega)]
  rfl
@[simp] theorem atI_5 {x0 x1 x2 x3 x4 x5 : α} : atI (x0 :: x1 :: x2 :: x3 :: x4 :: x5 :: l) 5 = some x5 := by
  rw [atI_in (by decide) (by simp only [List.length_cons]; omega)]
  rfl
@[simp] theorem atI_6 {x0 x1 x2 x3 x4 x5 x6 : α} : atI (x0 :: x1 :: x2 :: x3 :: x4 :: x5 :: x6 :: l) 6 = some x6 := by
  rw [atI_in (by decide) (by simp only [List.length_cons]; omega)]
  rfl
@[simp] theorem atI_7 {x0 x1 x2 x3 x4 x5 x6 x7 : α} : atI (x0 :: x1 :: x2 :: x3 :: x4 :: x5 :: x6 :: x7 :: l) 7 = some x7 := by
  rw [atI_in (by decide) (by simp only [List.length_cons]; omega)]
  rfl
theorem atI_last (h : l ≠ []) : atI l (-1) = l.getLast? := by
  have hl := List.length_pos_iff.mpr h
  unfold atI ixN
  rw [if_neg (by decide), if_pos (by omega), List.getLast?_eq_getElem?]
  show l[((-1 : Int) + l.length).toNat]? = _
  congr 1
  omega
end

/-! ### count of one sign -/
open Builtin.Str in
theorem occ_one (x : Str) (c : Nat) : ∀ (m k : Nat) (arr : Array Nat) (free : Nat), k + m = x.length + 1 → free ≤ k → arr.size ≤ k →
    (forIn (List.range' k m) (arr, free) (StrLaws.occBody x ⟨#[c]⟩ x.length (x.length + 1))).run.fst.size = arr.size + (x.cps.toList.drop k).count c
  | 0, k, arr, free, hk, hf, ha => by
    rw [List.drop_of_length_le (by simp [Str.length] at hk ⊢; omega)]
    simp
  | m + 1, k, arr, free, hk, hf, ha => by
    rw [List.range'_succ, List.forIn_cons]
    have hx : x.length = x.cps.toList.length := by simp [Str.length]
    by_cases hc : x.cps.toList[k]? = some c
    · have h1 := (StrLaws.subAt_one x c k).mpr hc
      have e : StrLaws.occBody x ⟨#[c]⟩ x.length (x.length + 1) k (arr, free) = pure (ForInStep.yield (arr.push k, k + 1)) := by
        unfold StrLaws.occBody
        rw [if_pos ⟨⟨⟨by show arr.size < _; omega, hf⟩, h1.1⟩, h1.2⟩]
        rfl
      rw [e]
      show (forIn (List.range' (k + 1) m) (arr.push k, k + 1) (StrLaws.occBody x ⟨#[c]⟩ x.length (x.length + 1))).run.fst.size = _
      rw [occ_one x c m (k + 1) (arr.push k) (k + 1) (by omega) (Nat.le_refl _) (by rw [Array.size_push]; omega), Array.size_push]
      obtain ⟨hlt, hv⟩ := List.getElem?_eq_some_iff.mp hc
      rw [List.drop_eq_getElem_cons hlt, hv, List.count_cons_self]
      omega
    · have e : StrLaws.occBody x ⟨#[c]⟩ x.length (x.length + 1) k (arr, free) = pure (ForInStep.yield (arr, free)) := by
        unfold StrLaws.occBody
        rw [if_neg (fun z => hc ((StrLaws.subAt_one x c k).mp ⟨z.1.2, z.2⟩))]
      rw [e]
      show (forIn (List.range' (k + 1) m) (arr, free) (StrLaws.occBody x ⟨#[c]⟩ x.length (x.length + 1))).run.fst.size = _
      rw [occ_one x c m (k + 1) arr free (by omega) (by omega) (by omega)]
      by_cases hlt : k < x.cps.toList.length
      · rw [List.drop_eq_getElem_cons hlt, List.count_cons_of_ne]
        intro z
        exact hc (by rw [List.getElem?_eq_getElem hlt, z])
      · rw [List.drop_of_length_le (by omega), List.drop_of_length_le (by omega)]
theorem count_one (s : List Nat) (c : Nat) : Txt.count ⟨s.toArray⟩ ⟨#[c]⟩ = (s.count c : Nat) := by
  unfold Txt.count
  rw [StrLaws.occ_eq, Array.length_toList]
  have h := occ_one ⟨s.toArray⟩ c ((⟨s.toArray⟩ : Str).length + 1) 0 #[] 0 (by omega) (Nat.le_refl _) (Nat.le_refl _)
  simp only [List.drop_zero] at h
  rw [show (⟨s.toArray⟩ : Str).length + 1 - 0 = (⟨s.toArray⟩ : Str).length + 1 by omega, h]
  simp
@[simp] theorem r_count {s : List Nat} {c : Nat} {st : Sto} : fCountS (.str s) [.str [c]] st = .ok (.int (s.count c : Nat)) st := by
  show Res.ok (D.int (Txt.count ⟨s.toArray⟩ ⟨#[c]⟩)) st = _
  rw [count_one]

/-! ### split by one sign -/
def spl1 (c : Nat) : List Nat → List Nat → List (List Nat)
  | acc, [] => [acc]
  | acc, x :: r => if x = c then acc :: spl1 c [] r else spl1 c (acc ++ [x]) r
theorem pre_one (c x : Nat) (r : List Nat) : TL.pre [c] (x :: r) = decide (x = c) := by
  unfold TL.pre
  by_cases h : x = c
  · subst h; simp
  · simp [h, Ne.symm h]
theorem spl_one (c : Nat) : ∀ (l acc : List Nat), TL.spl [c] 0 acc l = spl1 c acc l
  | [], acc => by rw [TL.spl_nil]; rfl
  | x :: r, acc => by
    unfold spl1
    by_cases h : x = c
    · rw [if_pos h, TL.spl_hit (by rw [pre_one]; exact decide_eq_true h)]
      show acc :: TL.spl [c] 0 [] r = _
      rw [spl_one c r]
    · rw [if_neg h, TL.spl_miss (by rw [pre_one]; exact decide_eq_false h), spl_one c r]
theorem split_one (s : List Nat) (c : Nat) (hc : c < 256) : (Txt.split ⟨s.toArray⟩ ⟨#[c]⟩).map (fun y => y.cps.toList) = spl1 c [] s := by
  have h := TL.split_spl ⟨s.toArray⟩ ⟨#[c]⟩ (by simp [TL.tl]) (TL.kind_ok (by simp [hc]))
  rw [← spl_one]
  simpa [TL.tl] using h
theorem r_split {m : Bool} {s : List Nat} {c : Nat} {st : Sto} (hc : c < 256) (hl : s.length + 2 ≤ sizeLine) : fSplit m (.str s) [.str [c]] st = mkL m ((spl1 c [] s).map .str) st := by
  show (if (([c] : List Nat).length == 0) = false ∧ s.length + 2 ≤ sizeLine then mkL m ((Txt.split ⟨s.toArray⟩ ⟨[c].toArray⟩).map fun y => D.str y.cps.toList) st else .bad) = _
  rw [if_pos ⟨rfl, hl⟩, ← split_one s c hc, List.map_map]
  rfl

/-! ### join without a sign between -/
theorem joinL_nil : ∀ ys : List (List Nat), TL.joinL [] ys = ys.flatten
  | [] => rfl
  | [y] => by simp [TL.joinL]
  | y :: z :: r => by
    show y ++ ([] ++ TL.joinL [] (z :: r)) = _
    rw [joinL_nil (z :: r)]
    simp
theorem join_txt (a : List Nat) (ys : List (List Nat)) : (Txt.join ⟨a.toArray⟩ (ys.map fun y => ⟨y.toArray⟩)).cps.toList = TL.joinL a ys := by
  rw [TL.join_eq]
  have h := TL.tl_join ⟨a.toArray⟩ (ys.map fun y => (⟨y.toArray⟩ : Str))
  have e : (ys.map fun y => (⟨y.toArray⟩ : Str)).map TL.tl = ys := by
    rw [List.map_map]
    have : (TL.tl ∘ fun y : List Nat => (⟨y.toArray⟩ : Str)) = id := by
      funext y
      simp [TL.tl]
    rw [this, List.map_id]
  rw [e] at h
  simpa [TL.tl] using h
theorem asStrs_map (ys : List (List Nat)) : asStrs (ys.map .str) = some ys := by
  induction ys with
  | nil => rfl
  | cons y ys ih =>
    show (asStrs (ys.map .str)).map (y :: ·) = _
    rw [ih]
    rfl
theorem r_joinL {ys : List (List Nat)} {a : List Nat} {st : Sto} (h : (ys.map List.length).sum + ys.length * a.length ≤ 16777216) : fJoin (.str a) [.lst (ys.map .str)] st = .ok (.str (TL.joinL a ys)) st := by
  show (match (some (ys.map D.str)).bind asStrs with
    | some ys => if (ys.map List.length).sum + ys.length * a.length ≤ 16777216 then Res.ok (D.str (Txt.join ⟨a.toArray⟩ (ys.map fun y : List Nat => ⟨y.toArray⟩)).cps.toList) st else .bad
    | none => .bad) = _
  rw [show (some (ys.map D.str)).bind asStrs = some ys from asStrs_map ys]
  dsimp only
  rw [if_pos h, join_txt]
theorem r_joinC {ys : List (List Nat)} {a : List Nat} {st : Sto} {j : Nat} (hj : st[j]? = some (.lst (ys.map .str))) (h : (ys.map List.length).sum + ys.length * a.length ≤ 16777216) : fJoin (.str a) [.ref j] st = .ok (.str (TL.joinL a ys)) st := by
  show (match (asL (.ref j) st).bind asStrs with
    | some ys => if (ys.map List.length).sum + ys.length * a.length ≤ 16777216 then Res.ok (D.str (Txt.join ⟨a.toArray⟩ (ys.map fun y : List Nat => ⟨y.toArray⟩)).cps.toList) st else .bad
    | none => .bad) = _
  have e : asL (.ref j) st = some (ys.map .str) := by
    unfold asL
    simp [hj]
  rw [e, show (some (ys.map D.str)).bind asStrs = some ys from asStrs_map ys]
  dsimp only
  rw [if_pos h, join_txt]
/-! ### lists of truths, of numbers -/
theorem asBools_map {α : Type} (l : List α) (f : α → Bool) : asBools (l.map fun x => .bl (f x)) = some (l.map f) := by
  induction l with
  | nil => rfl
  | cons y ys ih =>
    show (asBools (ys.map fun x => .bl (f x))).map (f y :: ·) = _
    rw [ih]
    rfl
theorem asInts_map {α : Type} (l : List α) (f : α → Int) : asInts (l.map fun x => .int (f x)) = some (l.map f) := by
  induction l with
  | nil => rfl
  | cons y ys ih =>
    show (asInts (ys.map fun x => .int (f x))).map (f y :: ·) = _
    rw [ih]
    rfl
theorem r_any {α : Type} {l : List α} {f : α → Bool} {st : Sto} : fAny [.lst (l.map fun x => .bl (f x))] st = .ok (.bl (l.any f)) st := by
  show (match (some (l.map fun x => D.bl (f x))).bind asBools with | some ns => Res.ok (D.bl (ns.any id)) st | none => .bad) = _
  rw [show (some (l.map fun x => D.bl (f x))).bind asBools = some (l.map f) from asBools_map l f]
  simp [List.any_map]
theorem r_all {α : Type} {l : List α} {f : α → Bool} {st : Sto} : fAll [.lst (l.map fun x => .bl (f x))] st = .ok (.bl (l.all f)) st := by
  show (match (some (l.map fun x => D.bl (f x))).bind asBools with | some ns => Res.ok (D.bl (ns.all id)) st | none => .bad) = _
  rw [show (some (l.map fun x => D.bl (f x))).bind asBools = some (l.map f) from asBools_map l f]
  simp [List.all_map]
theorem r_maxL {α : Type} {l : List α} {f : α → Int} {st : Sto} (h : l ≠ []) : fMax [.lst (l.map fun x => .int (f x))] st = .ok (.int (maxL (l.map f))) st := by
  show (match (some (l.map fun x => D.int (f x))).bind asInts with | some ns => if ns ≠ [] then Res.ok (D.int (maxL ns)) st else .bad | none => .bad) = _
  rw [show (some (l.map fun x => D.int (f x))).bind asInts = some (l.map f) from asInts_map l f]
  simp [h]
theorem r_minL {α : Type} {l : List α} {f : α → Int} {st : Sto} (h : l ≠ []) : fMin [.lst (l.map fun x => .int (f x))] st = .ok (.int (minL (l.map f))) st := by
  show (match (some (l.map fun x => D.int (f x))).bind asInts with | some ns => if ns ≠ [] then Res.ok (D.int (minL ns)) st else .bad | none => .bad) = _
  rw [show (some (l.map fun x => D.int (f x))).bind asInts = some (l.map f) from asInts_map l f]
  simp [h]
/-! ### comprehensions whose items are computed without the store -/
theorem comp_fun {α : Type} {t : Tg} {te : Ev} {env : Env} {st : Sto} {g h : α → D} : ∀ {l : List α}, (∀ x ∈ l, ∃ e1, t (g x) env = some e1 ∧ te e1 st = .ok (h x) st) → compF t tYesF te env (l.map g) st = .ok (l.map h) st
  | [], _ => rfl
  | d :: ds, k => by
    obtain ⟨e1, q1, q2⟩ := k d List.mem_cons_self
    show compF t tYesF te env (g d :: ds.map g) st = _
    unfold compF
    rw [q1]
    dsimp only
    show ((te e1 st).cut.bind fun y s1 => (compF t tYesF te env (ds.map g) s1).bind fun r s2 => .ok (y :: r) s2) = _
    rw [q2]
    show ((compF t tYesF te env (ds.map g) st).bind fun r s2 => .ok (h d :: r) s2) = _
    rw [comp_fun fun x hx => k x (List.mem_cons_of_mem _ hx)]
    rfl
theorem comp_filt {α : Type} {t : Tg} {tt : Tv} {te : Ev} {env : Env} {st : Sto} {g h : α → D} {q : α → Bool} : ∀ {l : List α}, (∀ x ∈ l, ∃ e1, t (g x) env = some e1 ∧ tt e1 st = .ok (q x) st ∧ (q x = true → te e1 st = .ok (h x) st)) → compF t tt te env (l.map g) st = .ok ((l.filter q).map h) st
  | [], _ => rfl
  | d :: ds, k => by
    obtain ⟨e1, q1, q2, q3⟩ := k d List.mem_cons_self
    have ih := comp_filt fun x hx => k x (List.mem_cons_of_mem _ hx)
    show compF t tt te env (g d :: ds.map g) st = _
    unfold compF
    rw [q1]
    dsimp only
    rw [q2]
    by_cases hq : q d = true
    · rw [List.filter_cons_of_pos hq]
      show (if q d = true then (te e1 st).cut.bind fun y s1 => (compF t tt te env (ds.map g) s1).bind fun r s2 => .ok (y :: r) s2 else compF t tt te env (ds.map g) st) = _
      rw [if_pos hq, q3 hq]
      show ((compF t tt te env (ds.map g) st).bind fun r s2 => .ok (h d :: r) s2) = _
      rw [ih]
      rfl
    · rw [List.filter_cons_of_neg hq]
      show (if q d = true then (te e1 st).cut.bind fun y s1 => (compF t tt te env (ds.map g) s1).bind fun r s2 => .ok (y :: r) s2 else compF t tt te env (ds.map g) st) = _
      rw [if_neg hq, ih]
/-! ### ranges -/
theorem rangeL_len (lo hi : Int) : (rangeL lo hi).length = (hi - lo).toNat := by
  unfold rangeL
  simp
theorem rangeL_get {lo hi : Int} {k : Nat} {d : D} (h : (rangeL lo hi)[k]? = some d) : k < (hi - lo).toNat ∧ d = .int (lo + k) := by
  unfold rangeL at h
  rw [List.getElem?_map] at h
  cases q : (List.range (hi - lo).toNat)[k]? with
  | none => rw [q] at h; cases h
  | some c =>
    rw [q] at h
    have hl := (List.getElem?_eq_some_iff.mp q).1
    have hl' : k < (hi - lo).toNat := by simpa using hl
    rw [List.getElem?_range hl'] at q
    cases q
    cases h
    exact ⟨hl', rfl⟩
/-! ### stores -/
theorem set_self {st : Sto} {i : Nat} {c : Cell} : (st.set i c)[i]? = (st[i]?).map fun _ => c := by
  rw [List.getElem?_set]
  by_cases h : i < st.length
  · simp [h]
  · simp [h]
theorem set_id {st : Sto} {i : Nat} {c : Cell} (h : st[i]? = some c) : st.set i c = st := by
  rw [← List.getElem?_eq_some_iff.mp h |>.2]
  simp
theorem snoc_old {st : Sto} {i : Nat} {c d : Cell} (h : st[i]? = some c) : (st ++ [d])[i]? = some c := by
  rw [List.getElem?_append_left (List.getElem?_eq_some_iff.mp h).1]
  exact h
theorem snoc_new {st : Sto} {d : Cell} : (st ++ [d])[st.length]? = some d := by
  rw [List.getElem?_append_right (Nat.le_refl _)]
  simp
theorem set_other {st : Sto} {i j : Nat} {c : Cell} (h : i ≠ j) : (st.set i c)[j]? = st[j]? := List.getElem?_set_ne h
/-- what stood in the store, but at the places ex, still stands -/
def Sm (ex : List Nat) (st st' : Sto) : Prop := st.length ≤ st'.length ∧ ∀ (j : Nat) (c : Cell), j ∉ ex → st[j]? = some c → st'[j]? = some c
theorem Sm.refl (ex : List Nat) (st : Sto) : Sm ex st st := ⟨Nat.le_refl _, fun _ _ _ h => h⟩
theorem Sm.trans {ex : List Nat} {a b c : Sto} (h : Sm ex a b) (k : Sm ex b c) : Sm ex a c := ⟨Nat.le_trans h.1 k.1, fun j x n e => k.2 j x n (h.2 j x n e)⟩
theorem Sm.wide {ex ey : List Nat} {a b : Sto} (h : Sm ex a b) (k : ∀ j ∈ ex, j ∈ ey) : Sm ey a b := ⟨h.1, fun j x n e => h.2 j x (fun z => n (k j z)) e⟩
theorem Sm.set {ex : List Nat} {st : Sto} {i : Nat} {c : Cell} (h : i ∈ ex) : Sm ex st (st.set i c) := ⟨by simp, fun j x n e => by
  rw [List.getElem?_set_ne (fun z => n (by rw [← z]; exact h))]
  exact e⟩
theorem Sm.snoc {ex : List Nat} {st : Sto} {c : Cell} : Sm ex st (st ++ [c]) := ⟨by simp, fun j x n e => snoc_old e⟩
theorem Sm.app {ex : List Nat} {st l : Sto} : Sm ex st (st ++ l) := ⟨by simp, fun j x n e => by
  rw [List.getElem?_append_left (List.getElem?_eq_some_iff.mp e).1]
  exact e⟩
theorem Sm.lt {ex : List Nat} {a b : Sto} {j : Nat} (h : Sm ex a b) (k : j < a.length) : j < b.length := Nat.lt_of_lt_of_le k h.1
/-- places beyond the store's end do not matter -/
theorem Sm.new {ex : List Nat} {a b : Sto} {i : Nat} (h : Sm (i :: ex) a b) (k : a.length ≤ i) : Sm ex a b := ⟨h.1, fun j x n e => h.2 j x (fun z => by
  rcases List.mem_cons.mp z with z | z
  · have := (List.getElem?_eq_some_iff.mp e).1
    omega
  · exact n z) e⟩
end F
namespace F
open PySem L2
section
variable {st : Sto} {x y : Bool} {d : D}
@[simp] theorem r_isB : fIs (.bl x) (.bl y) st = .ok (.bl (decide (x = y))) st := (rfl)
@[simp] theorem r_isNotB : fIsNot (.bl x) (.bl y) st = .ok (.bl (!decide (x = y))) st := (rfl)
@[simp] theorem r_isN : fIs d .non st = .ok (.bl (isNon d)) st := (rfl)
@[simp] theorem r_isNotN : fIsNot d .non st = .ok (.bl (!isNon d)) st := (rfl)
@[simp] theorem isNon_non : isNon .non = true := (rfl)
@[simp] theorem isNon_int {i : Int} : isNon (.int i) = false := (rfl)
@[simp] theorem isNon_bl : isNon (.bl x) = false := (rfl)
@[simp] theorem isNon_str {s : List Nat} : isNon (.str s) = false := (rfl)
@[simp] theorem isNon_tup {s : List D} : isNon (.tup s) = false := (rfl)
@[simp] theorem isNon_lst {s : List D} : isNon (.lst s) = false := (rfl)
@[simp] theorem isNon_rol {s : List D} : isNon (.rol s) = false := (rfl)
@[simp] theorem isNon_ref {i : Nat} : isNon (.ref i) = false := (rfl)
@[simp] theorem isNon_obj {c : Nat} {s : List D} : isNon (.obj c s) = false := (rfl)
end
end F
/-! Calls with keywords, defaults among them. -/
namespace F
open PySem PySem.Spec PyProof.Rows L2

/-- the parameters' order: places in positional values ++ keywords' values ++ defaults -/
def pick {α : Type} (ix : List Nat) (l : List α) : List α := ix.filterMap fun i => l[i]?
theorem pick_vals {vs : List V} {us : List Value} (h : Vals vs us) : ∀ ix : List Nat, Vals (pick ix vs) (pick ix us)
  | [] => .nil
  | i :: ix => by
    unfold pick
    cases e : vs[i]? with
    | none =>
      rw [List.filterMap_cons_none e, List.filterMap_cons_none (h.none_of e)]
      exact pick_vals h ix
    | some x =>
      obtain ⟨u, e2, r⟩ := h.get e
      rw [List.filterMap_cons_some e, List.filterMap_cons_some e2]
      exact .cons r (pick_vals h ix)
theorem pick_rls {G : CT} {w : Wd} {ds : List D} {vs : List V} (h : Rls G w ds vs) : ∀ ix : List Nat, Rls G w (pick ix ds) (pick ix vs)
  | [] => rfl
  | i :: ix => by
    unfold pick
    cases e : ds[i]? with
    | none =>
      have e2 : vs[i]? = none := by
        rw [List.getElem?_eq_none_iff] at e ⊢
        rw [h.length]
        exact e
      rw [List.filterMap_cons_none e, List.filterMap_cons_none e2]
      exact pick_rls h ix
    | some x =>
      obtain ⟨u, e2, r⟩ := h.get e
      rw [List.filterMap_cons_some e, List.filterMap_cons_some e2]
      exact .cons r (pick_rls h ix)
/-- how a call binds: n positional values, keywords ks, the defaults that lack -/
structure KBp (K : PySem.W.Frag) (fd : FuncData) (ps : List Str) (n : Nat) (ks : List Str) (ix : List Nat) (dvs : List V) : Prop where
  ex : ∃ vds : List Value, Vals dvs vds ∧ ∀ (s : Shared) (us ws : List Value), K.In s.heap → us.length = n → ws.length = ks.length → BindsTo s fd ⟨us, ks.zip ws⟩ (ps.zip (pick ix (us ++ ws ++ vds)))
/-- every parameter is written -/
theorem KBp.all {K : PySem.W.Frag} {fd : FuncData} {ps : List Str} {n : Nat} {ks : List Str} {ix : List Nat} (h : ∀ us ws : List Value, us.length = n → ws.length = ks.length → bindArgs fd ⟨us, ks.zip ws⟩ = pure (ps.zip (pick ix (us ++ ws ++ [])))) : KBp K fd ps n ks ix [] :=
  ⟨[], .nil, fun s us ws _ h1 h2 => BindsTo.of_eq (h us ws h1 h2)⟩

theorem kb_of {K : PySem.W.Frag} {x qual : Str} {st : Stmt} {f : Addr} {fd : FuncData} (_ : Fun K x qual st f fd) {ps : List Str} {n : Nat} {ks : List Str} {ix : List Nat} (h : ∀ us ws : List Value, us.length = n → ws.length = ks.length → bindArgs fd ⟨us, ks.zip ws⟩ = pure (ps.zip (pick ix (us ++ ws ++ [])))) : KBp K fd ps n ks ix [] := .all h

def eFnK (n m : Nat) (ix : List Nat) (f : Fn) (dd : List D) (a k : Av) : Ev := fun env st => (a env st).bind fun ds s => (k env s).bind fun es s1 => if ds.length = n ∧ es.length = m then f (pick ix (ds ++ es ++ dd)) s1 else .bad
def eNewK (c nf : Nat) (fr : Bool) (n m : Nat) (ix : List Nat) (f : Fn) (dd : List D) (a k : Av) : Ev := fun env st => (a env st).bind fun ds s => (k env s).bind fun es s0 => if ds.length = n ∧ es.length = m then
  (f (pick ix (.ref s0.length :: (ds ++ es ++ dd))) (s0 ++ [.ins c []])).bind fun r s1 => match r with
    | .non => if fr = true then letGo c nf s0.length s1 else .ok (.ref s0.length) s1
    | _ => .bad
  else .bad
section
variable {X : Cx} {G : CT} {W : WX} {pos p apos kpos : Pos} {e ob : Expr} {es : List Expr} {kws : List Keyword} {ma mk : Av} {mo me : Ev} {m : Fn} {x name : Str} {n nf k c : Nat} {f : Addr} {fd : FuncData} {ps ks : List Str} {dvs : List V} {ix : List Nat} {dd : List D} {nm : Option Str}
/-- keywords' values -/
abbrev KI (G : CT) (W : WX) (m : Av) : TA := AI G W m
theorem kw_nil : PK X [] (AI G W aNil) := ⟨fun _ _ _ _ H Q I ⟨w, env, e1, o, er, p⟩ => wpAny_evalAll_nil ⟨[], H, I, .nil, by subst e1; exact p.ok o rfl⟩⟩
theorem kw_cons (ha : PE X e (EI G W me)) (hr : PK X kws (AI G W mk)) : PK X (⟨nm, e, kpos⟩ :: kws) (AI G W (aCons me mk)) := by
  refine ⟨fun pos pins s σ H Q I h => (pk_cons ha hr).run pos pins s σ H Q I ?_⟩
  obtain ⟨w, env, e1, o, er, p⟩ := h
  refine ⟨w, env, e1, o, er, p.bind fun w1 d x o1 l1 r1 p1 => ⟨w1, env, rfl, o1, er.mono l1, p1.bind fun w2 ds xs o2 l2 r2 p2 => p2.ok o2 (.cons (r1.mono l2) r2)⟩⟩
theorem run_IK {pins : List (Addr × Obj)} {σ : L2.St} {s : Shared} {Q : VK} {us ws : List Value} {vs zs : List V} {w : Wd} {ds es : List D} (L : Lay X G W) (Fo : FnOk X.prog X.w X.K X.mg X.base (L2.CX X.prog X.w) k f fd ps (spI G m)) (hr : Room k X.A) (hb : KBp X.K fd ps n ks ix dvs) (hdd : ∀ w, Rls G w dd dvs)
    (I : Inv X pins σ w.H s) (r : Vals vs us) (rz : Vals zs ws) (o : Ok G w) (rs : Rls G w ds vs) (re : Rls G w es zs) (h1 : ds.length = n) (h2 : es.length = ks.length) (h : Post G W (Rl G) σ w (m (pick ix (ds ++ es ++ dd)) w.st) Q) :
    wpAny (model X.prog X.w) X.A (call (.ref f) us (ks.zip ws)) (EP X pins σ Q) X.xe s := by
  obtain ⟨vds, hd, hbt⟩ := hb.ex
  have r2 : Vals (pick ix (vs ++ zs ++ dvs)) (pick ix (us ++ ws ++ vds)) := pick_vals ((r.append rz).append hd) ix
  have sp : spI G m (pick ix (vs ++ zs ++ dvs)) w.H Q (WE W σ) := spI_of h o (pick_rls ((rs.append re).append (hdd w)) ix)
  refine wpAny_call (codeAny_mono (Fo.run X.A X.stack s w.H ⟨us, ks.zip ws⟩ (pick ix (us ++ ws ++ vds)) (pick ix (vs ++ zs ++ dvs)) Q (WE W σ) hr I.env0 (hbt s us ws I.kIn (by rw [← r.length, rs.length, h1]) (by rw [← rz.length, re.length, h2])) r2 sp) fun r s' hq => ?_)
  cases r with
  | error e => exact passAt L.tk σ pins _ s e s' I hq
  | ok fl =>
    cases fl with
    | ret u => exact I.after hq
    | next => exact False.elim hq
    | brk => exact False.elim hq
    | cont => exact False.elim hq
/-- f(e, .., k = v, ..) -/
theorem q_callK (L : Lay X G W) (Fo : FnOk X.prog X.w X.K X.mg X.base (L2.CX X.prog X.w) k f fd ps (spI G m)) (hr : Room k X.A) (hg : Gl X x) (hm : X.mg x = some (.ref f)) (hk : PySem.W.keepIn X.K (.ref f) = true) (hb : KBp X.K fd ps n ks ix dvs) (hdd : ∀ w, Rls G w dd dvs)
    (ha : PA X (e :: es) (AI G W ma)) (hkw : PK X kws (AI G W mk)) (hall : (backToKw pos (keywordEach kws X.env)).all (·.1.isSome) = true := by rfl) (hks : (backToKw pos (keywordEach kws X.env)).filterMap (·.1) = ks := by rfl)
    (hdb : (x == ("__debug__" : Str)) = false := by decide) (he : starEach (e :: es) X.env = (false, eval e X.env) :: starEach es X.env := by rfl)
    (hpl : ((backTo pos (starEach (e :: es) X.env)).any (·.1) || (backToKw pos (keywordEach kws X.env)).any (·.1.isNone)) = false := by rfl) :
    PE X (.Call (.Name x p) (e :: es) kws pos) (EI G W (eFnK n ks.length ix m dd ma mk)) := by
  refine ⟨fun pins s σ H Q I ⟨w, env, e1, o, er, pp⟩ => ?_⟩
  refine wpAny_Call_Name_kw (ld_glob I hg hm ?_ hdb)
  refine PySem.W.callWith_KW (h₀ := X.base) I.ok.mod.kin hk hall (thn (ha.run pos pins s σ H (fun vs H1 => ∃ w1 ds, w1.H = H1 ∧ Ok G w1 ∧ EnvR G w1 env σ ∧ Rls G w1 ds vs ∧ Post G W (Rl G) σ w1 ((mk env w1.st).bind fun es s1 => if ds.length = n ∧ es.length = ks.length then m (pick ix (ds ++ es ++ dd)) s1 else .bad) Q) I
    ⟨w, env, e1, o, er, Post.bind pp fun w1 ds vs o1 l1 r1 p1 => ⟨w1, ds, rfl, o1, er.mono l1, r1, p1⟩⟩) fun us s1 ⟨vs, H1, I1, r, w1, ds, e2, o1, er1, r1, p1⟩ => ?_) hpl he
  subst e2
  refine thn (hkw.run pos pins s1 σ w1.H (fun zs H2 => ∃ w2 es, w2.H = H2 ∧ Ok G w2 ∧ Le w1 w2 ∧ Rls G w2 es zs ∧ Post G W (Rl G) σ w2 (if ds.length = n ∧ es.length = ks.length then m (pick ix (ds ++ es ++ dd)) w2.st else .bad) Q) I1
    ⟨w1, env, rfl, o1, er1, Post.bind p1 fun w2 es zs o2 l2 r2 p2 => ⟨w2, es, rfl, o2, l2, r2, p2⟩⟩) fun ws s2 ⟨zs, H2, I2, rz, w2, es, e3, o2, l2, r2, p2⟩ => ⟨I2.kIn, ?_⟩
  subst e3
  rw [hks]
  split at p2
  · rename_i hl
    exact run_IK L Fo hr hb hdd I2 r rz o2 (r1.mono l2) r2 hl.1 hl.2 p2
  · exact p2.elim
/-- C(e, .., k = v, ..) -/
theorem run_newK {pins : List (Addr × Obj)} {σ : L2.St} {s : Shared} {Q : VK} {us ws : List Value} {vs zs : List V} {w : Wd} {ds es : List D} {fr : Bool} (L : Lay X G W) (M : Mk X.K (G.cls c) f) (Fo : FnOk X.prog X.w X.K X.mg X.base (L2.CX X.prog X.w) k f fd ps (spI G m)) (hr : Room (k + 1) X.A) (hb : KBp X.K fd ps (n + 1) ks ix dvs) (hdd : ∀ w, Rls G w dd dvs) (hn : nf = (G.fld c).length)
    (I : Inv X pins σ w.H s) (r : Vals vs us) (rz : Vals zs ws) (o : Ok G w) (rs : Rls G w ds vs) (re : Rls G w es zs) (g1 : ds.length = n) (g2 : es.length = ks.length) (h : Post G W (Rl G) σ w ((m (pick ix (.ref w.st.length :: (ds ++ es ++ dd))) (w.st ++ [.ins c []])).bind fun r s1 => match r with
      | .non => if fr = true then letGo c nf w.st.length s1 else .ok (.ref w.st.length) s1
      | _ => .bad) Q) : wpAny (model X.prog X.w) X.A (call (.ref (G.cls c)) us (ks.zip ws)) (EP X pins σ Q) X.xe s := by
  obtain ⟨vds, hd, hbt⟩ := hb.ex
  obtain ⟨w1, e1, e2, o1, l1, e3⟩ := new_cell_ins (c := c) o (a := s.heap.objs.size + 1) (dx := s.heap.objs.size) (I.hok.fresh (Nat.le_succ _)) (I.hok.fresh (Nat.le_refl _)) (Nat.ne_of_lt (Nat.lt_succ_self _))
  have I2 := Inv.made (C := G.cls c) I
  rw [← e1] at I2
  have hat : w1.ρ[w.st.length]? = some (s.heap.objs.size + 1) := by
    rw [e3, ← o.len, List.getElem?_append_right (Nat.le_refl _)]
    simp
  have ra : Rl G w1 (.ref w.st.length) (.ref (s.heap.objs.size + 1)) := ⟨_, hat, rfl⟩
  have rall : Rls G w1 (.ref w.st.length :: (ds ++ es ++ dd)) (.ref (s.heap.objs.size + 1) :: (vs ++ zs ++ dvs)) := .cons ra (((rs.mono l1).append (re.mono l1)).append (hdd w1))
  have h1 : Post G W (Rl G) σ w1 (m (pick ix (.ref w.st.length :: (ds ++ es ++ dd))) w1.st) (fun v H2 => v = .non ∧ Q (.ref (s.heap.objs.size + 1)) H2) := by
    rw [← e2] at h
    refine (Post.mono l1 h).bind fun w2 d v o2 l2 r2 p2 => ?_
    split at p2
    · refine ⟨r2, ?_⟩
      have hat2 : w2.ρ[w.st.length]? = some (s.heap.objs.size + 1) := l2.pre _ _ hat
      split at p2
      · unfold letGo at p2
        split at p2
        · split at p2
          · rename_i c' es hs hc
            obtain ⟨rfl, hl⟩ := hc
            obtain ⟨dx, fs, q1, q2, q3⟩ := o2.cell _ _ _ hs hat2
            have lf := le_free (w := w2) hs rfl
            refine p2 ⟨w2.ρ, w2.st.set w.st.length .dead, w2.H, w2.hid⟩ (.ref (s.heap.objs.size + 1)) rfl (ok_free o2 hs rfl) lf ⟨_, dx, fs, rfl, q1, free_nlive o2 hat2, ?_, q3.mono lf⟩
            rw [q2, hl, hn, List.take_length]
          · exact p2.elim
        · exact p2.elim
      · exact p2.ok o2 ⟨_, hat2, rfl⟩
    · exact p2.elim
  have sp : spI G m (pick ix (.ref (s.heap.objs.size + 1) :: (vs ++ zs ++ dvs))) w1.H (fun v H2 => v = .non ∧ Q (.ref (s.heap.objs.size + 1)) H2) (WE W σ) := spI_of h1 o1 (pick_rls rall ix)
  have r0 : Vals (V.ref (s.heap.objs.size + 1) :: (vs ++ zs ++ dvs)) (Value.ref (s.heap.objs.size + 1) :: (us ++ ws ++ vds)) := .cons rfl ((r.append rz).append hd)
  have r2 := pick_vals r0 ix
  refine wpAny_call (make_map (f := f) I.kIn M.makes M.init (beq_iff_eq.mp M.fn) (codeAny_mono (Fo.run _ X.stack _ _ ⟨Value.ref (s.heap.objs.size + 1) :: us, ks.zip ws⟩ (pick ix (Value.ref (s.heap.objs.size + 1) :: (us ++ ws ++ vds))) _ _ (WE W σ) (hr.make (G.cls c) us (ks.zip ws))
    (I2.env0.make (G.cls c) us (ks.zip ws)) (hbt _ (Value.ref (s.heap.objs.size + 1) :: us) ws I2.kIn (by rw [List.length_cons, ← r.length, rs.length, g1]) (by rw [← rz.length, re.length, g2])) r2 sp) fun r s' hq => ?_))
  cases r with
  | error e => exact passAt L.tk σ pins _ _ e s' I2 hq
  | ok fl =>
    cases fl with
    | ret u =>
      obtain ⟨v, H', I3, rv, ev, q3⟩ := I2.after hq
      subst ev
      exact ⟨rv, ⟨V.ref (s.heap.objs.size + 1), H', I3, rfl, q3⟩⟩
    | next => exact hq.elim
    | brk => exact hq.elim
    | cont => exact hq.elim
theorem q_newK {fr : Bool} (L : Lay X G W) (M : Mk X.K (G.cls c) f) (Fo : FnOk X.prog X.w X.K X.mg X.base (L2.CX X.prog X.w) k f fd ps (spI G m)) (hr : Room (k + 1) X.A) (hg : Gl X x) (hm : X.mg x = some (.ref (G.cls c))) (hb : KBp X.K fd ps (n + 1) ks ix dvs) (hdd : ∀ w, Rls G w dd dvs) (hn : nf = (G.fld c).length)
    (ha : PA X (e :: es) (AI G W ma)) (hkw : PK X kws (AI G W mk)) (hall : (backToKw pos (keywordEach kws X.env)).all (·.1.isSome) = true := by rfl) (hks : (backToKw pos (keywordEach kws X.env)).filterMap (·.1) = ks := by rfl)
    (hdb : (x == ("__debug__" : Str)) = false := by decide) (he : starEach (e :: es) X.env = (false, eval e X.env) :: starEach es X.env := by rfl)
    (hpl : ((backTo pos (starEach (e :: es) X.env)).any (·.1) || (backToKw pos (keywordEach kws X.env)).any (·.1.isNone)) = false := by rfl) :
    PE X (.Call (.Name x p) (e :: es) kws pos) (EI G W (eNewK c nf fr n ks.length ix m dd ma mk)) := by
  refine ⟨fun pins s σ H Q I ⟨w, env, e1, o, er, pp⟩ => ?_⟩
  refine wpAny_Call_Name_kw (ld_glob I hg hm ?_ hdb)
  refine PySem.W.callWith_KW (h₀ := X.base) I.ok.mod.kin M.kp hall (thn (ha.run pos pins s σ H (fun vs H1 => ∃ w1 ds, w1.H = H1 ∧ Ok G w1 ∧ EnvR G w1 env σ ∧ Rls G w1 ds vs ∧ Post G W (Rl G) σ w1 ((mk env w1.st).bind fun es s0 => if ds.length = n ∧ es.length = ks.length then
      (m (pick ix (.ref s0.length :: (ds ++ es ++ dd))) (s0 ++ [.ins c []])).bind fun r s1 => match r with
        | .non => if fr = true then letGo c nf s0.length s1 else .ok (.ref s0.length) s1
        | _ => .bad
      else .bad) Q) I
    ⟨w, env, e1, o, er, Post.bind pp fun w1 ds vs o1 l1 r1 p1 => ⟨w1, ds, rfl, o1, er.mono l1, r1, p1⟩⟩) fun us s1 ⟨vs, H1, I1, r, w1, ds, e2, o1, er1, r1, p1⟩ => ?_) hpl he
  subst e2
  refine thn (hkw.run pos pins s1 σ w1.H (fun zs H2 => ∃ w2 es, w2.H = H2 ∧ Ok G w2 ∧ Le w1 w2 ∧ Rls G w2 es zs ∧ Post G W (Rl G) σ w2 (if ds.length = n ∧ es.length = ks.length then
      (m (pick ix (.ref w2.st.length :: (ds ++ es ++ dd))) (w2.st ++ [.ins c []])).bind fun r s1 => match r with
        | .non => if fr = true then letGo c nf w2.st.length s1 else .ok (.ref w2.st.length) s1
        | _ => .bad
      else .bad) Q) I1
    ⟨w1, env, rfl, o1, er1, Post.bind p1 fun w2 es zs o2 l2 r2 p2 => ⟨w2, es, rfl, o2, l2, r2, p2⟩⟩) fun ws s2 ⟨zs, H2, I2, rz, w2, es, e3, o2, l2, r2, p2⟩ => ⟨I2.kIn, ?_⟩
  subst e3
  rw [hks]
  split at p2
  · rename_i hl
    exact run_newK L M Fo hr hb hdd hn I2 r rz o2 (r1.mono l2) r2 hl.1 hl.2 p2
  · exact p2.elim
theorem k_callK {j : Nat} (L : Lay X G W) (Fo : FnOk X.prog X.w X.K X.mg X.base (L2.CX X.prog X.w) k f fd ps (spI G m)) (hr : Room k X.A) (hg : Gl X x) (hm : X.mg x = some (.ref f)) (hk : PySem.W.keepIn X.K (.ref f) = true) (hb : KBp X.K fd ps n ks ix dvs) (hj : ks.length = j) (hdd : ∀ w, Rls G w dd dvs)
    (ha : PA X (e :: es) (AI G W ma)) (hkw : PK X kws (AI G W mk)) (hall : (backToKw pos (keywordEach kws X.env)).all (·.1.isSome) = true := by rfl) (hks : (backToKw pos (keywordEach kws X.env)).filterMap (·.1) = ks := by rfl)
    (hdb : (x == ("__debug__" : Str)) = false := by decide) (he : starEach (e :: es) X.env = (false, eval e X.env) :: starEach es X.env := by rfl)
    (hpl : ((backTo pos (starEach (e :: es) X.env)).any (·.1) || (backToKw pos (keywordEach kws X.env)).any (·.1.isNone)) = false := by rfl) :
    PE X (.Call (.Name x p) (e :: es) kws pos) (EI G W (eFnK n j ix m dd ma mk)) := by
  subst hj
  exact q_callK L Fo hr hg hm hk hb hdd ha hkw hall hks hdb he hpl
theorem k_newK {j : Nat} (fr : Bool) (L : Lay X G W) (M : Mk X.K (G.cls c) f) (Fo : FnOk X.prog X.w X.K X.mg X.base (L2.CX X.prog X.w) k f fd ps (spI G m)) (hr : Room (k + 1) X.A) (hg : Gl X x) (hm : X.mg x = some (.ref (G.cls c))) (hb : KBp X.K fd ps (n + 1) ks ix dvs) (hj : ks.length = j) (hdd : ∀ w, Rls G w dd dvs) (hn : nf = (G.fld c).length)
    (ha : PA X (e :: es) (AI G W ma)) (hkw : PK X kws (AI G W mk)) (hall : (backToKw pos (keywordEach kws X.env)).all (·.1.isSome) = true := by rfl) (hks : (backToKw pos (keywordEach kws X.env)).filterMap (·.1) = ks := by rfl)
    (hdb : (x == ("__debug__" : Str)) = false := by decide) (he : starEach (e :: es) X.env = (false, eval e X.env) :: starEach es X.env := by rfl)
    (hpl : ((backTo pos (starEach (e :: es) X.env)).any (·.1) || (backToKw pos (keywordEach kws X.env)).any (·.1.isNone)) = false := by rfl) :
    PE X (.Call (.Name x p) (e :: es) kws pos) (EI G W (eNewK c nf fr n j ix m dd ma mk)) := by
  subst hj
  exact q_newK L M Fo hr hg hm hb hdd hn ha hkw hall hks hdb he hpl
/-- o.m(e, .., k = v, ..) -/
structure MetK (P : Program) (w : World) (G : CT) (mg : Str → Option Value) (base : Heap) (k : Nat) (name : Str) (n : Nat) (ks : List Str) (ix : List Nat) (dd : List D) (c : Nat) (m : Fn) : Prop where
  cl : Cls G.K (G.cls c)
  no : name ∉ G.fld c
  ex : ∃ (f : Addr) (fd : FuncData) (ps : List Str) (dvs : List V), Meth G.K (G.cls c) name f ∧ FnOk P w G.K mg base (L2.CX P w) k f fd ps (spI G m) ∧ KBp G.K fd ps (n + 1) ks ix dvs ∧ ∀ w', Rls G w' dd dvs
end
section
variable {env : Env} {st : Sto} {m r k : Av} {n c nf j : Nat} {ix : List Nat} {f : Fn} {dd : List D} {fr : Bool}
@[simp] theorem r_eFnK : eFnK n j ix f dd m k env st = (m env st).bind fun ds s => (k env s).bind fun es s1 => if ds.length = n ∧ es.length = j then f (pick ix (ds ++ es ++ dd)) s1 else .bad := (rfl)
@[simp] theorem r_eNewK : eNewK c nf fr n j ix f dd m k env st = (m env st).bind fun ds s => (k env s).bind fun es s0 => if ds.length = n ∧ es.length = j then
  (f (pick ix (.ref s0.length :: (ds ++ es ++ dd))) (s0 ++ [.ins c []])).bind fun r s1 => match r with
    | .non => if fr = true then letGo c nf s0.length s1 else .ok (.ref s0.length) s1
    | _ => .bad
  else .bad := (rfl)
@[simp] theorem pick_nil {α : Type} {l : List α} : pick [] l = [] := (rfl)
@[simp] theorem pick_cons {α : Type} {l : List α} {i : Nat} : pick (i :: ix) l = match l[i]? with | some x => x :: pick ix l | none => pick ix l := by
  unfold pick
  cases e : l[i]? with
  | none => rw [List.filterMap_cons_none e]
  | some x => rw [List.filterMap_cons_some e]
end
end F
/-! Texts compared by <, <=, >, >=. -/
namespace F
open PySem PySem.Spec PyProof.Rows L2

def rS0 (g : List Nat → List Nat → Bool) : R2 := fun x y H Q => ∃ i j, x = .str i ∧ y = .str j ∧ Q (.bl (g i.cps.toList j.cps.toList)) H
def fCmpS (g : List Nat → List Nat → Bool) : D → D → Sto → Res D := fun x y st => match x, y with
  | .str i, .str j => .ok (.bl (g i j)) st
  | _, _ => .bad
theorem of_cmpS {G : CT} {g : List Nat → List Nat → Bool} : OpF G (fCmpS g) (rS0 g) := fun W σ w x y dx dy Q o rx ry p => by
  unfold fCmpS at p
  split at p
  · exact ⟨_, _, rx, ry, p.ok o rfl⟩
  · exact p.elim
def fLtS := fCmpS fun i j => decide (i < j)
def fLeS := fCmpS fun i j => !decide (j < i)
def fGtS := fCmpS fun i j => decide (j < i)
def fGeS := fCmpS fun i j => !decide (i < j)
section
variable {X : Cx} {G : CT} {W : WX} {pos : Pos} {a b c : Expr} {ma mb mc : Ev}
theorem op_ltS : OpR X (compareOp .Lt) (rS0 fun i j => decide (i < j)) := op_lt_str
theorem op_leS : OpR X (compareOp .LtE) (rS0 fun i j => !decide (j < i)) := by
  intro pins s σ H x y u v Q I r1 r2 h
  obtain ⟨i, j, rfl, rfl, q⟩ := h
  obtain ⟨t, rfl⟩ := r1
  obtain ⟨t', rfl⟩ := r2
  exact P.le_str (fin_bl I q rfl)
theorem op_gtS : OpR X (compareOp .Gt) (rS0 fun i j => decide (j < i)) := by
  intro pins s σ H x y u v Q I r1 r2 h
  obtain ⟨i, j, rfl, rfl, q⟩ := h
  obtain ⟨t, rfl⟩ := r1
  obtain ⟨t', rfl⟩ := r2
  exact P.gt_str (fin_bl I q rfl)
theorem op_geS : OpR X (compareOp .GtE) (rS0 fun i j => !decide (i < j)) := by
  intro pins s σ H x y u v Q I r1 r2 h
  obtain ⟨i, j, rfl, rfl, q⟩ := h
  obtain ⟨t, rfl⟩ := r1
  obtain ⟨t', rfl⟩ := r2
  exact P.ge_str (fin_bl I q rfl)
theorem q_ltS (ha : PE X a (EI G W ma)) (hb : PE X b (EI G W mb)) : PE X (.Compare a [.Lt] [b] pos) (EI G W (eBin fLtS ma mb)) := q_cmp op_ltS of_cmpS ha hb (nomark _)
theorem q_leS (ha : PE X a (EI G W ma)) (hb : PE X b (EI G W mb)) : PE X (.Compare a [.LtE] [b] pos) (EI G W (eBin fLeS ma mb)) := q_cmp op_leS of_cmpS ha hb (nomark _)
theorem q_gtS (ha : PE X a (EI G W ma)) (hb : PE X b (EI G W mb)) : PE X (.Compare a [.Gt] [b] pos) (EI G W (eBin fGtS ma mb)) := q_cmp op_gtS of_cmpS ha hb (nomark _)
theorem q_geS (ha : PE X a (EI G W ma)) (hb : PE X b (EI G W mb)) : PE X (.Compare a [.GtE] [b] pos) (EI G W (eBin fGeS ma mb)) := q_cmp op_geS of_cmpS ha hb (nomark _)
theorem qt_ltS (ha : PE X a (EI G W ma)) (hb : PE X b (EI G W mb)) : PT X (.Compare a [.Lt] [b] pos) (TsI G W (tOf (eBin fLtS ma mb))) := qt_cmp op_ltS of_cmpS ha hb (nomark _)
theorem q_chainS {op op' : CmpOp} {p p' : List Nat → List Nat → Bool} (ho : OpR X (compareOp op) (rS0 p)) (ho' : OpR X (compareOp op') (rS0 p')) (ha : PE X a (EI G W ma)) (hb : PE X b (EI G W mb)) (hc : PE X c (EI G W mc))
    (hm : lastMarks [op, op'] [b, c] = false := by with_unfolding_all rfl) : PE X (.Compare a [op, op'] [b, c] pos) (EI G W (eChain (fCmpS p) (fCmpS p') ma mb mc)) := (pe_chain ho ho' ha hb hc hm).imp (chain_of of_cmpS of_cmpS)
end
section
variable {st : Sto} {p q : List Nat}
@[simp] theorem r_ltS : fLtS (.str p) (.str q) st = .ok (.bl (decide (p < q))) st := (rfl)
@[simp] theorem r_leS : fLeS (.str p) (.str q) st = .ok (.bl (!decide (q < p))) st := (rfl)
@[simp] theorem r_gtS : fGtS (.str p) (.str q) st = .ok (.bl (decide (q < p))) st := (rfl)
@[simp] theorem r_geS : fGeS (.str p) (.str q) st = .ok (.bl (!decide (p < q))) st := (rfl)
end
end F
/-! zip of two texts. -/
namespace F
open PySem PySem.Spec PyProof.Rows L2

def ItzS (x y : Str) : It :=
  ⟨fun i _ => i < x.cps.size ∧ i < y.cps.size, fun i H v H' => ∃ T c d, v = .ref T ∧ H T = none ∧ H' = upd H T (.tup [.str ⟨#[c]⟩, .str ⟨#[d]⟩]) ∧ x.cps[i]? = some c ∧ y.cps[i]? = some d,
    fun i _ => i ≤ x.cps.size ∧ i ≤ y.cps.size ∧ (i = x.cps.size ∨ i = y.cps.size)⟩
theorem turn_zipS {P : Program} {w : World} {K : PySem.W.Frag} {elts : List Expr} {kk : Nat} {tpos : Pos} {z TI TO i1 i2 : Addr} {x y : Str} {t u : Tok} (S : ZipSep2 z TI TO i1 i2 [i1] [i2]) :
    Turn P w K (.Tuple elts kk tpos) (ItzS x y) [z, TI, TO, i1, i2] z (fun i h => IsZip h z TI TO .none ∧ IsTupOf2 h TI (.ref i1) (.ref i2) ∧ (∃ a b, IsTupOf2 h TO a b) ∧ h.IsStrIter i1 (strIterType x) x t i ∧ h.IsStrIter i2 (strIterType y) y u i) where
  mem := by simp
  obj := fun i h st c hc => by
    obtain ⟨hz, hTI, ⟨x, y, hTO⟩, ⟨o1, e1, _, d1⟩, ⟨o2, e2, _, d2⟩⟩ := st
    have e' : c = z ∨ c = TI ∨ c = TO ∨ c = i1 ∨ c = i2 := by simpa using hc
    rcases e' with q | q | q | q | q
    · rw [q]; exact ⟨_, hz, fun v q => nomatch q⟩
    · rw [q]; exact ⟨_, hTI, fun v q => nomatch q⟩
    · rw [q]; exact ⟨_, hTO, fun v q => nomatch q⟩
    · rw [q]; exact ⟨o1, e1, fun v q => by rw [d1] at q; cases q⟩
    · rw [q]; exact ⟨o2, e2, fun v q => by rw [d2] at q; cases q⟩
  keep := fun i h h' st k => by
    obtain ⟨hz, hTI, ⟨x, y, hTO⟩, ⟨o1, e1, r1⟩, ⟨o2, e2, r2⟩⟩ := st
    exact ⟨k z (by simp) _ hz, k TI (by simp) _ hTI, ⟨x, y, k TO (by simp) _ hTO⟩, ⟨o1, k i1 (by simp) _ e1, r1⟩, ⟨o2, k i2 (by simp) _ e2, r2⟩⟩
  item := by
    intro X hP hw hK hc i pins s σ H E I hf st hg
    subst hP hw hK
    obtain ⟨hz, hTI, ⟨x0, y0, hTO⟩, h1, h2⟩ := st
    have hh : X.A.in1.handled = none := I.ok.hd hc
    have D1 := Draws.text (prog := X.prog) (w := X.w) (A := X.A.in1) hh i1 x t
    have D2 := Draws.text (prog := X.prog) (w := X.w) (A := X.A.in1) hh i2 y u
    have hzl : z < s.heap.objs.size := Heap.lt_size hz
    refine wpAny_pyNext_zipD2_item S D1 D2 hz hTI hTO h1 h2 hg.1 hg.2 fun x1 x2 h' tk y1 y2 z' TO' h1' h2' hT hsz hk => ?_
    obtain ⟨c, u1, hcx, rfl⟩ := y1
    obtain ⟨d, u2, hdx, rfl⟩ := y2
    refine ⟨_, rfl, wpAny_letOwnedTupleGo_zip (s := { s with heap := h', toks := tk }) z' fun h'' z'' sb => ?_⟩
    have hT2 : h''.get? s.heap.objs.size = some { cls := .type "tuple", data := .seq #[.str ⟨#[c]⟩ u1, .str ⟨#[d]⟩ u2] } := (sb.2 _ (Nat.ne_of_gt hzl)).trans hT
    have new : ObjOk X.prog X.w (upd H s.heap.objs.size (.tup [.str ⟨#[c]⟩, .str ⟨#[d]⟩])) h'' s.heap.objs.size (.tup [.str ⟨#[c]⟩, .str ⟨#[d]⟩]) :=
      ⟨by show 2 ≤ sizeLine; decide, [.str ⟨#[c]⟩ u1, .str ⟨#[d]⟩ u2], .cons ⟨u1, rfl⟩ (.cons ⟨u2, rfl⟩ .nil), ⟨_, hT2, rfl, _, rfl⟩⟩
    have I1 : Inv X pins σ (upd H s.heap.objs.size (.tup [.str ⟨#[c]⟩, .str ⟨#[d]⟩])) { s with heap := h'', toks := tk } :=
      I.turnedNew (t' := tk) (ch := [z, TI, TO, i1, i2]) (fun c o hb q => (sb.2 c (fun q' => hb (by simp [q']))).trans (hk c o (fun q' => hb (by simp [q'])) (fun q' => hb (by simp [q'])) (fun q' => hb (by simp [q'])) (fun q' => hb (by simp [q'])) q)) hf (Nat.le_refl _) new
    have n1 : i1 ≠ z := S.zi1.symm
    have n2 : i2 ≠ z := S.zi2.symm
    obtain ⟨o1, e1, r1⟩ := h1'
    obtain ⟨o2, e2, r2⟩ := h2'
    have l1 := h1
    have l2 := h2
    refine ⟨.ref s.heap.objs.size, _, I1, rfl, ⟨_, c, d, rfl, I.hok.fresh (Nat.le_refl _), rfl, hcx, hdx⟩, ⟨z'', ?_, ⟨.str ⟨#[c]⟩ u1, .str ⟨#[d]⟩ u2, ?_⟩, ?_, ?_⟩, fun c' hcm => ?_⟩
    · exact (sb.2 _ S.TIz).trans (hk _ _ S.TIz S.TITO S.TIi1 S.TIi2 hTI)
    · exact (sb.2 _ S.TOz).trans TO'
    · exact ⟨o1, (sb.2 _ n1).trans e1, r1⟩
    · exact ⟨o2, (sb.2 _ n2).trans e2, r2⟩
    · have hlt : c' < s.heap.objs.size := by
        have e' : c' = z ∨ c' = TI ∨ c' = TO ∨ c' = i1 ∨ c' = i2 := by simpa using hcm
        rcases e' with q | q | q | q | q
        · rw [q]; exact hzl
        · rw [q]; exact Heap.lt_size hTI
        · rw [q]; exact Heap.lt_size hTO
        · rw [q]; obtain ⟨_, e1, _⟩ := l1; exact Heap.lt_size e1
        · rw [q]; obtain ⟨_, e2, _⟩ := l2; exact Heap.lt_size e2
      rw [upd_ne (Nat.ne_of_lt hlt)]
      exact (hf c' hcm).1
  done := by
    intro X hP hw hK hc i pins s σ H E I hf st hg
    subst hP hw hK
    obtain ⟨hz, hTI, ⟨x0, y0, hTO⟩, h1, h2⟩ := st
    have hh : X.A.in1.handled = none := I.ok.hd hc
    have D1 := Draws.text (prog := X.prog) (w := X.w) (A := X.A.in1) hh i1 x t
    have D2 := Draws.text (prog := X.prog) (w := X.w) (A := X.A.in1) hh i2 y u
    exact wpAny_pyNext_zipD2_end S D1 D2 hz hTI hTO h1 h2 hg.1 hg.2.1 hg.2.2 fun h' tk hk => ⟨rfl, I.turnedL (t' := tk) (ch := [z, TI, TO, i1, i2]) (fun c o hb q =>
      hk c o (fun q' => hb (by simp [q'])) (fun q' => hb (by simp [q'])) (fun q' => hb (by simp [q'])) (fun q' => hb (by simp [q'])) q) hf⟩
  self := fun A i s Q E st h => wpAny_pyIter_zip st.1 h

def iZipS (ta : TA) : TI := fun σ H R => ta σ H fun vs H1 => ∃ x y, vs = [.str x, .str y] ∧ R (ItzS x y) H1
theorem pi_zipS {X : Cx} {e e2 : Expr} {ta : TA} {p pos tpos : Pos} {elts : List Expr} {kk : Nat} (hg : Gl X "zip") (hm : X.mg "zip" = none) (ha : PA X [e, e2] ta)
    (hs : starEach [e, e2] X.env = (false, eval e X.env) :: starEach [e2] X.env := by rfl) (hpl : (backTo pos (starEach [e2] X.env)).any (·.1) = false := by rfl) :
    PI X (.Tuple elts kk tpos) (.Call (.Name "zip" p) [e, e2] [] pos) (iZipS ta) := by
  refine ⟨fun pins s σ H R I h => ?_⟩
  refine Call_ (ld_blt I hg hm PyProof.Rows.boot_zip (PyProof.Rows.callWith_type1 (thn (ha.run pos pins s σ H _ I h) fun us s1 ⟨vs, H1, I1, r1, q1⟩ => ?_) hs hpl))
  obtain ⟨x, y, ex, q⟩ := q1
  subst ex
  cases r1 with
  | cons r rr =>
    cases rr with
    | cons r' rr =>
      cases rr
      obtain ⟨t, rfl⟩ := r
      obtain ⟨u, rfl⟩ := r'
      have fresh5 : ∀ c, c ∈ [s1.heap.objs.size + 4, s1.heap.objs.size + 2, s1.heap.objs.size + 3, s1.heap.objs.size, s1.heap.objs.size + 1] → FpOk X pins H1 c := fun c hcm => by
        have e' : c = s1.heap.objs.size + 4 ∨ c = s1.heap.objs.size + 2 ∨ c = s1.heap.objs.size + 3 ∨ c = s1.heap.objs.size ∨ c = s1.heap.objs.size + 1 := by simpa using hcm
        have hle : s1.heap.objs.size ≤ c := by
          rcases e' with z | z | z | z | z
          · rw [z]; exact Nat.le_add_right _ _
          · rw [z]; exact Nat.le_add_right _ _
          · rw [z]; exact Nat.le_add_right _ _
          · rw [z]; exact Nat.le_refl _
          · rw [z]; exact Nat.le_add_right _ _
        exact I1.fpOk hle (I1.hok.fresh hle)
      refine zip_begins2 (begins_text x t) (begins_text y u) trivial trivial fun h' hz hTI hTO g1 g2 hsz hk => wpAny_pyIter_zip hz ?_
      have I2 : Inv X pins σ H1 { s1 with heap := h' } := I1.kept (t' := s1.toks) hk
      exact ⟨s1.heap.objs.size + 4, [s1.heap.objs.size + 4, s1.heap.objs.size + 2, s1.heap.objs.size + 3, s1.heap.objs.size, s1.heap.objs.size + 1], _, _, H1, rfl, I2, turn_zipS (zip_sep2 (fp1 := []) (fp2 := []) (by simp) (by simp)), ⟨hz, hTI, ⟨_, _, hTO⟩, ⟨_, g1, rfl, rfl⟩, ⟨_, g2, rfl, rfl⟩⟩, fresh5, q⟩

def wZipS (a : Av) : Wv := fun env st => (a env st).bind fun ds s => match ds with
  | [.str p, .str q] => .ok (List.zipWith (fun a b => .tup [.str [a], .str [b]]) p q) s
  | _ => .bad
section
variable {X : Cx} {G : CT} {W : WX} {pos p tpos : Pos} {e e2 : Expr} {elts : List Expr} {kk : Nat} {ma : Av}
theorem serves_zipS {w0 : Wd} {a b : List Nat} : Serves G w0 (List.zipWith (fun a b => .tup [.str [a], .str [b]]) a b) (ItzS ⟨a.toArray⟩ ⟨b.toArray⟩) := fun w o l => by
  refine ⟨fun i d e => ?_, ?_⟩
  · rw [List.getElem?_zipWith] at e
    split at e
    · rename_i d1 d2 e1 e2
      cases e
      have l1 := (List.getElem?_eq_some_iff.mp e1).1
      have l2 := (List.getElem?_eq_some_iff.mp e2).1
      refine ⟨⟨by simpa using l1, by simpa using l2⟩, fun v H' hy => ?_⟩
      obtain ⟨T, c, d, rfl, n, rfl, h1, h2⟩ := hy
      have e3 : c = d1 := by
        have : a[i]? = some c := by simpa using h1
        rw [e1] at this
        exact (Option.some.inj this).symm
      have e4 : d = d2 := by
        have : b[i]? = some d := by simpa using h2
        rw [e2] at this
        exact (Option.some.inj this).symm
      subst e3 e4
      exact new_pair o n (d1 := .str [c]) (d2 := .str [d]) rfl rfl
    · cases e
  · show _ ≤ _ ∧ _ ≤ _ ∧ _
    simp only [List.length_zipWith, List.size_toArray]
    omega
theorem w_zipS (L : Lay X G W) (hg : Gl X "zip") (hm : X.mg "zip" = none) (ha : PA X [e, e2] (AI G W ma)) (hs : starEach [e, e2] X.env = (false, eval e X.env) :: starEach [e2] X.env := by rfl) (hpl : (backTo pos (starEach [e2] X.env)).any (·.1) = false := by rfl) :
    PI X (.Tuple elts kk tpos) (.Call (.Name "zip" p) [e, e2] [] pos) (WI G W (wZipS ma)) := (pi_zipS hg hm ha hs hpl).imp fun σ H Q ⟨w, env, e1, o, er, p⟩ =>
  ⟨w, env, e1, o, er, p.bind fun w1 ds vs o1 l1 r1 p1 => by
    split at p1
    · obtain ⟨x, r, rfl, h1, h2⟩ := r1
      obtain ⟨y, r', rfl, h3, h4⟩ := h2
      have : r' = [] := h4
      subst this
      rw [show x = _ from h1, show y = _ from h3]
      exact ⟨_, _, rfl, Post.ok p1 o1 serves_zipS⟩
    · exact p1.elim⟩
end
@[simp] theorem r_wZipS {a : Av} {env : Env} {st : Sto} : wZipS a env st = (a env st).bind fun ds s => match ds with
  | [.str p, .str q] => .ok (List.zipWith (fun a b => .tup [.str [a], .str [b]]) p q) s
  | _ => .bad := (rfl)
end F
namespace M
open PySem L2 F
def Bits (s : List Nat) : Prop := ∀ c ∈ s, c = 48 ∨ c = 49
def pcs (size n f : Nat) : Nat := if f < n then (n - f - 1) / size + 1 else 0
def partsOf (size f : Nat) (bits : List Nat) : List (List Nat) := bits.take f :: (List.range (pcs size bits.length f)).map fun k => (bits.drop (f + k * size)).take size
def partOk (low size : Nat) (p : List Nat) : Bool := decide ((low : Int) ≤ (p.count 49 : Nat) + (size : Int) - (p.length : Nat))
def cutLet (low size : Nat) (bits : List Nat) (f : Nat) : Bool := (partsOf size f bits).all (partOk low size)
def repL (n : Nat) (row : List Nat) : List Nat := (List.replicate n row).flatten
def winAt (row bits : List Nat) (k : Nat) : Bool := decide (((repL (bits.length / row.length + 2) row).drop k).take bits.length = bits)
theorem Bits.nil : Bits [] := fun _ h => (List.not_mem_nil h).elim
theorem Bits.app {a b : List Nat} (h : Bits a) (k : Bits b) : Bits (a ++ b) := fun c m => (List.mem_append.mp m).elim (h c) (k c)
theorem Bits.rep {a : List Nat} (h : Bits a) (n : Nat) : Bits (repL n a) := fun c m => by
  obtain ⟨l, h1, h2⟩ := List.mem_flatten.mp m
  rw [List.eq_of_mem_replicate h1] at h2
  exact h c h2
theorem Bits.b0 : Bits [48] := fun c m => .inl (by simpa using m)
theorem Bits.b1 : Bits [49] := fun c m => .inr (by simpa using m)
theorem Bits.take {a : List Nat} (h : Bits a) (n : Nat) : Bits (a.take n) := fun c m => h c (List.mem_of_mem_take m)
theorem Bits.drop {a : List Nat} (h : Bits a) (n : Nat) : Bits (a.drop n) := fun c m => h c (List.mem_of_mem_drop m)
theorem count_bits : ∀ {s : List Nat}, Bits s → s.count 48 + s.count 49 = s.length
  | [], _ => rfl
  | c :: s, h => by
    have ih := count_bits (s := s) fun x hx => h x (List.mem_cons_of_mem _ hx)
    rcases h c List.mem_cons_self with e | e
    · subst e
      rw [List.count_cons_self, List.count_cons_of_ne (by decide), List.length_cons]
      omega
    · subst e
      rw [List.count_cons_self, List.count_cons_of_ne (by decide), List.length_cons]
      omega

/-! from here -/
def Per (size gap : Nat) (L : List Nat) : Prop := ∀ k, ((L.drop (k * size)).take size).count 48 ≤ gap
theorem Per.cons {size gap : Nat} {B L : List Nat} (hB : B.length = size) (hc : B.count 48 ≤ gap) (h : Per size gap L) : Per size gap (B ++ L) := fun k => by
  cases k with
  | zero =>
    rw [Nat.zero_mul, List.drop_zero, ← hB, List.take_append_of_le_length (Nat.le_refl _), List.take_length]
    exact hc
  | succ k =>
    rw [List.drop_append, List.drop_of_length_le (by rw [hB, Nat.add_mul]; omega), List.nil_append, show (k + 1) * size - B.length = k * size by rw [hB, Nat.add_mul]; omega]
    exact h k
theorem Per.short {size gap : Nat} {T : List Nat} (hs : 1 ≤ size) (hl : T.length ≤ size) (hc : T.count 48 ≤ gap) : Per size gap T := fun k => by
  cases k with
  | zero =>
    rw [Nat.zero_mul, List.drop_zero, List.take_of_length_le hl]
    exact hc
  | succ k =>
    rw [List.drop_of_length_le (by rw [Nat.add_mul]; omega)]
    simp
theorem Per.flat {size gap : Nat} {T : List Nat} (h : Per size gap T) : ∀ {bs : List (List Nat)}, (∀ B ∈ bs, B.length = size ∧ B.count 48 ≤ gap) → Per size gap (bs.flatten ++ T)
  | [], _ => h
  | B :: bs, q => by
    rw [List.flatten_cons, List.append_assoc]
    exact .cons (q B List.mem_cons_self).1 (q B List.mem_cons_self).2 (Per.flat h fun C m => q C (List.mem_cons_of_mem _ m))
theorem partOk_of {low size : Nat} {p : List Nat} (hb : Bits p) (hl : low ≤ size) (h : p.count 48 ≤ size - low) : partOk low size p = true := by
  have := count_bits hb
  exact decide_eq_true (by omega)
theorem partOk_no {low size : Nat} {p : List Nat} (hb : Bits p) (hl : low ≤ size) (h : size - low < p.count 48) : partOk low size p = false := by
  have := count_bits hb
  exact decide_eq_false (by omega)
theorem cnt_take {l : List Nat} {i j : Nat} (h : i ≤ j) : (l.take i).count 48 ≤ (l.take j).count 48 := by
  rw [show l.take i = (l.take j).take i by rw [List.take_take, Nat.min_eq_left h]]
  exact (List.take_sublist _ _).count_le _
theorem cut_of {low size f : Nat} {b : List Nat} (hb : Bits b) (hl : low ≤ size) (h0 : (b.take f).count 48 ≤ size - low) (h1 : ∀ k, ((b.drop (f + k * size)).take size).count 48 ≤ size - low) : cutLet low size b f = true := by
  unfold cutLet partsOf
  rw [List.all_cons, Bool.and_eq_true, List.all_eq_true]
  refine ⟨partOk_of (hb.take _) hl h0, fun p hp => ?_⟩
  obtain ⟨k, _, rfl⟩ := List.mem_map.mp hp
  exact partOk_of ((hb.drop _).take _) hl (h1 k)
theorem cnt_part {W : List Nat} {len a n : Nat} : (((W.take len).drop a).take n).count 48 ≤ ((W.drop a).take n).count 48 := by
  rw [List.drop_take, List.take_take]
  exact cnt_take (Nat.min_le_left _ _)
/-- a stretch that is laid out period by period is let -/
theorem let_of_per {low size begin len : Nat} {L : List Nat} (hb : Bits L) (h0 : 1 ≤ size) (hl : low ≤ size) (hP : Per size (size - low) L) (hg : begin < size) : (List.range size).any (cutLet low size ((L.drop begin).take len)) = true := by
  rw [List.any_eq_true]
  by_cases z : begin = 0
  · subst z
    refine ⟨0, by simp; omega, cut_of ((hb.drop _).take _) hl (by simp) fun k => ?_⟩
    refine Nat.le_trans cnt_part ?_
    rw [List.drop_drop, Nat.zero_add, Nat.zero_add]
    exact hP k
  · refine ⟨size - begin, by simp; omega, cut_of ((hb.drop _).take _) hl ?_ fun k => ?_⟩
    · rw [List.take_take]
      refine Nat.le_trans (cnt_take (Nat.min_le_left _ _)) ?_
      rw [← List.drop_take]
      have := hP 0
      rw [Nat.zero_mul, List.drop_zero] at this
      exact Nat.le_trans ((List.drop_sublist _ _).count_le _) this
    · refine Nat.le_trans cnt_part ?_
      rw [List.drop_drop, show begin + (size - begin + k * size) = (k + 1) * size by rw [Nat.add_mul]; omega]
      exact hP (k + 1)
theorem cnt_rep0 (n : Nat) : (List.replicate n 48).count 48 = n := by simp
theorem per_worst {low gap : Nat} (h1 : 1 ≤ low) : ∀ n : Nat, Per (low + gap) gap (List.replicate gap 48 ++ repL n (List.replicate low 49 ++ List.replicate gap 48))
  | 0 => .short (by omega) (by simp [repL]) (by simp [repL])
  | n + 1 => by
    have e : List.replicate gap 48 ++ repL (n + 1) (List.replicate low 49 ++ List.replicate gap 48) = (List.replicate gap 48 ++ List.replicate low 49) ++ (List.replicate gap 48 ++ repL n (List.replicate low 49 ++ List.replicate gap 48)) := by
      unfold repL
      rw [List.replicate_succ, List.flatten_cons]
      simp only [List.append_assoc]
    rw [e]
    refine .cons (by simp; omega) ?_ (per_worst h1 n)
    rw [List.count_append, cnt_rep0, List.count_replicate]
    simp
theorem worst_let {low gap len n : Nat} {W : List Nat} (h1 : 1 ≤ low) (hW : W = List.replicate (2 * gap) 48 ++ repL n (List.replicate low 49 ++ List.replicate gap 48)) (hb : Bits W) : (List.range (low + gap)).any (cutLet low (low + gap) (W.take len)) = true := by
  rw [List.any_eq_true]
  refine ⟨gap, by simp; omega, cut_of (hb.take _) (by omega) ?_ fun k => ?_⟩
  · refine Nat.le_trans List.count_le_length ?_
    rw [List.length_take]
    omega
  · refine Nat.le_trans cnt_part ?_
    have e : W.drop gap = List.replicate gap 48 ++ repL n (List.replicate low 49 ++ List.replicate gap 48) := by
      rw [hW, Nat.two_mul, ← List.replicate_append_replicate, List.append_assoc, List.drop_append_of_le_length (by simp)]
      simp
    rw [← List.drop_drop, e, show low + gap - low = gap by omega]
    exact per_worst h1 n k
theorem Bits.zeros (n : Nat) : Bits (List.replicate n 48) := fun c m => .inl (List.eq_of_mem_replicate m)
theorem Bits.ones (n : Nat) : Bits (List.replicate n 49) := fun c m => .inr (List.eq_of_mem_replicate m)
theorem zeros_server {low gap : Nat} (h1 : 1 ≤ low) : (List.range (low + gap)).any (cutLet low (low + gap) (List.replicate (2 * gap + 1) 48)) = false := by
  rw [List.any_eq_false]
  intro f hf
  have hf' : f < low + gap := by simpa using hf
  rw [Bool.not_eq_true]
  unfold cutLet
  rw [List.all_eq_false]
  by_cases h : gap < f
  · refine ⟨_, List.mem_cons_self, ?_⟩
    rw [Bool.not_eq_true, List.take_replicate]
    exact partOk_no (.zeros _) (by omega) (by rw [cnt_rep0]; omega)
  · refine ⟨((List.replicate (2 * gap + 1) 48).drop (f + 0 * (low + gap))).take (low + gap), List.mem_cons_of_mem _ (List.mem_map.mpr ⟨0, ?_, rfl⟩), ?_⟩
    · rw [List.mem_range, List.length_replicate]
      unfold pcs
      rw [if_pos (by omega)]
      exact Nat.succ_pos _
    · rw [Bool.not_eq_true, List.drop_replicate, List.take_replicate]
      exact partOk_no (.zeros _) (by omega) (by rw [cnt_rep0]; omega)

/-! windows -/
theorem rep_len (n : Nat) (row : List Nat) : (repL n row).length = n * row.length := by
  unfold repL
  simp
theorem win_let {row : List Nat} {k len : Nat} (hk : k < row.length) : (List.range row.length).any (winAt row (((repL (len / row.length + 2) row).drop k).take len)) = true := by
  rw [List.any_eq_true]
  refine ⟨k, by simpa using hk, ?_⟩
  have hm := Nat.div_add_mod len row.length
  have hr := Nat.mod_lt len (show 0 < row.length by omega)
  have hl : (((repL (len / row.length + 2) row).drop k).take len).length = len := by
    rw [List.length_take, List.length_drop, rep_len, Nat.add_mul, Nat.mul_comm]
    omega
  unfold winAt
  rw [hl]
  exact decide_eq_true rfl
theorem rep_rot {row : List Nat} {k : Nat} : ∀ n : Nat, repL (n + 1) row = row.take k ++ repL n (row.drop k ++ row.take k) ++ row.drop k
  | 0 => by simp [repL]
  | n + 1 => by
    have e : repL (n + 1 + 1) row = row ++ repL (n + 1) row := by
      unfold repL
      rw [List.replicate_succ (n := n + 1), List.flatten_cons]
    rw [e, rep_rot (k := k) n]
    have e2 : repL (n + 1) (row.drop k ++ row.take k) = (row.drop k ++ row.take k) ++ repL n (row.drop k ++ row.take k) := by
      unfold repL
      rw [List.replicate_succ, List.flatten_cons]
    rw [e2]
    have e3 : row = row.take k ++ row.drop k := (List.take_append_drop k row).symm
    conv => lhs; arg 1; rw [e3]
    simp only [List.append_assoc]
/-- what bits_of gives for a phase -/
theorem rot_bits {row : List Nat} {k n : Nat} (hk : k < row.length) : repL (n / row.length) (row.drop k ++ row.take k) ++ (row.drop k ++ row.take k).take (n % row.length) = ((repL (n / row.length + 2) row).drop k).take n := by
  have hm := Nat.div_add_mod n row.length
  have hr := Nat.mod_lt n (show 0 < row.length by omega)
  have hlr : (row.drop k ++ row.take k).length = row.length := by simp; omega
  have e1 : (repL (n / row.length + 2) row).drop k = repL (n / row.length + 1) (row.drop k ++ row.take k) ++ row.drop k := by
    have q := congrArg (List.drop k) (rep_rot (row := row) (k := k) (n / row.length + 1))
    rw [List.append_assoc] at q
    exact q.trans (List.drop_left' (by rw [List.length_take]; omega))
  rw [e1]
  have e2 : repL (n / row.length + 1) (row.drop k ++ row.take k) = repL (n / row.length) (row.drop k ++ row.take k) ++ (row.drop k ++ row.take k) := by
    unfold repL
    rw [List.replicate_succ', List.flatten_append]
    simp
  rw [e2, List.append_assoc]
  have hR : (row.drop k ++ row.take k ++ row.drop k).take (n % row.length) = (row.drop k ++ row.take k).take (n % row.length) := List.take_append_of_le_length (by rw [hlr]; omega)
  rw [← hR]
  have hn : n = (repL (n / row.length) (row.drop k ++ row.take k)).length + n % row.length := by
    rw [rep_len, hlr, Nat.mul_comm]
    omega
  generalize row.drop k ++ row.take k ++ row.drop k = R
  generalize repL (n / row.length) (row.drop k ++ row.take k) = P at hn
  generalize n % row.length = r at hn
  subst hn
  rw [List.take_append, List.take_of_length_le (Nat.le_add_right _ _), Nat.add_sub_cancel_left]

theorem spl_first (c : Nat) : ∀ (y acc : List Nat), ∃ p ∈ spl1 c acc y, acc.length ≤ p.length
  | [], acc => ⟨acc, by simp [spl1], Nat.le_refl _⟩
  | x :: r, acc => by
    unfold spl1
    by_cases h : x = c
    · rw [if_pos h]
      exact ⟨acc, List.mem_cons_self, Nat.le_refl _⟩
    · rw [if_neg h]
      obtain ⟨p, m, l⟩ := spl_first c r (acc ++ [x])
      exact ⟨p, m, by rw [List.length_append] at l; omega⟩
theorem spl_zeros : ∀ (n : Nat) (y acc : List Nat), ∃ p ∈ spl1 49 acc (List.replicate n 48 ++ y), acc.length + n ≤ p.length
  | 0, y, acc => by simpa using spl_first 49 y acc
  | n + 1, y, acc => by
    rw [List.replicate_succ, List.cons_append]
    unfold spl1
    rw [if_neg (by decide)]
    obtain ⟨p, m, l⟩ := spl_zeros n y (acc ++ [48])
    exact ⟨p, m, by rw [List.length_append, List.length_singleton] at l; omega⟩
theorem spl_run (n : Nat) (y : List Nat) : ∀ (x acc : List Nat), ∃ p ∈ spl1 49 acc (x ++ (List.replicate n 48 ++ y)), n ≤ p.length
  | [], acc => by
    obtain ⟨p, m, l⟩ := spl_zeros n y acc
    exact ⟨p, m, by omega⟩
  | c :: x, acc => by
    rw [List.cons_append]
    unfold spl1
    by_cases h : c = 49
    · rw [if_pos h]
      obtain ⟨p, m, l⟩ := spl_run n y x []
      exact ⟨p, List.mem_cons_of_mem _ m, l⟩
    · rw [if_neg h]
      exact spl_run n y x (acc ++ [c])
theorem spl_len (c : Nat) : ∀ (s acc : List Nat), (∀ p ∈ spl1 c acc s, p.length ≤ acc.length + s.length) ∧ spl1 c acc s ≠ [] ∧ (spl1 c acc s).length ≤ s.length + 1
  | [], acc => ⟨fun p hp => by simp [spl1] at hp; rw [hp]; simp, by simp [spl1], by simp [spl1]⟩
  | x :: r, acc => by
    unfold spl1
    by_cases h : x = c
    · rw [if_pos h]
      obtain ⟨a, b, d⟩ := spl_len c r []
      refine ⟨fun p hp => ?_, by simp, by rw [List.length_cons, List.length_cons]; omega⟩
      rcases List.mem_cons.mp hp with e | e
      · rw [e]; omega
      · have := a p e
        rw [List.length_cons]
        simp at this
        omega
    · rw [if_neg h]
      obtain ⟨a, b, d⟩ := spl_len c r (acc ++ [x])
      refine ⟨fun p hp => ?_, b, by rw [List.length_cons]; omega⟩
      have := a p hp
      rw [List.length_append, List.length_singleton] at this
      rw [List.length_cons]
      omega
/-- no window of zeros is longer than the longest run -/
theorem zeros_win {row : List Nat} {m : Nat} (h49 : 49 ∈ row) (hm : ∀ p ∈ spl1 49 [] (row ++ row), p.length ≤ m) : (List.range row.length).any (winAt row (List.replicate (m + 1) 48)) = false := by
  rw [List.any_eq_false]
  intro k hk
  have hk' : k < row.length := by simpa using hk
  rw [Bool.not_eq_true]
  unfold winAt
  refine decide_eq_false fun e => ?_
  rw [List.length_replicate] at e
  have e0 : repL ((m + 1) / row.length + 2) row = (row ++ row) ++ repL ((m + 1) / row.length) row := by
    unfold repL
    rw [List.replicate_succ, List.flatten_cons, List.replicate_succ, List.flatten_cons, List.append_assoc]
  rw [e0, List.drop_append_of_le_length (by simp; omega)] at e
  have hz : ∀ n, n ≤ m + 1 → n ≤ (row ++ row).length - k → ((row ++ row).drop k).take n = List.replicate n 48 := by
    intro n h1 h2
    have := congrArg (List.take n) e
    rw [List.take_take, Nat.min_eq_left h1, List.take_replicate, Nat.min_eq_left h1, List.take_append_of_le_length (by rw [List.length_drop]; omega)] at this
    exact this
  by_cases hc : row.length ≤ m + 1
  · have := hz row.length hc (by rw [List.length_append]; omega)
    rw [List.drop_append_of_le_length (by omega), List.take_append, List.take_of_length_le (by rw [List.length_drop]; omega)] at this
    have q : 49 ∈ row.drop k ++ row.take (row.length - (row.drop k).length) := by
      rw [List.length_drop, show row.length - (row.length - k) = k by omega]
      rw [← List.take_append_drop k row] at h49
      rcases List.mem_append.mp h49 with z | z
      · exact List.mem_append.mpr (.inr z)
      · exact List.mem_append.mpr (.inl z)
    rw [this] at q
    exact absurd (List.eq_of_mem_replicate q) (by decide)
  · have := hz (m + 1) (Nat.le_refl _) (by rw [List.length_append]; omega)
    have e4 : row ++ row = (row ++ row).take k ++ (List.replicate (m + 1) 48 ++ ((row ++ row).drop k).drop (m + 1)) := by
      rw [← this, List.take_append_drop, List.take_append_drop]
    obtain ⟨p, hp, hl⟩ := spl_run (m + 1) (((row ++ row).drop k).drop (m + 1)) ((row ++ row).take k) []
    rw [← e4] at hp
    have := hm p hp
    omega
end M
/-! The program of this law as functions: printed. -/
namespace M
open PySem L2 F

abbrev c_Task : Nat := 3
def ix_frames : Nat → Option Nat := fun c => if c = 3 then some 1 else none
def ix_jitter : Nat → Option Nat := fun c => if c = 3 then some 2 else none
def ix_name : Nat → Option Nat := fun c => if c = 3 then some 0 else none
def isiTb : List ((Ty × Ty) × Bool) := [(((.b "tuple"), (.b "tuple")), true), (((.b "int"), (.b "int")), true), (((.b "int"), (.b "bool")), false), (((.b "list"), (.b "list")), true), (((.b "str"), (.b "str")), true)]
/-- _is_letter(sign); 0: sign -/
noncomputable def b_f__is_letter : Sv := (sRet (eChain fLeS fLeS (eC (.str [97])) (eVar 0) (eC (.str [122]))))
noncomputable def f__is_letter : Fn := bodyF 1 1 b_f__is_letter
/-- _is_letters(word); 0: word, 1: sign -/
noncomputable def b_f__is_letters : Sv := (sRet (eAndF (eBin fNe (eVar 0) (eC (.str []))) (eCall fAll (aCons (eLcA false (vAny (eVar 0)) (gN 1) tYesF (eFn f__is_letter [] (aCons (eVar 1) aNil)) [1]) aNil))))
noncomputable def f__is_letters : Fn := bodyF 2 1 b_f__is_letters
/-- is_hold(hold); 0: hold, 1: first, 2: second -/
noncomputable def b_f_is_hold : Sv := (sSeq (sIf (tNotF (tTru (eCall (fIsi isiTb) (aCons (eVar 0) (aCons (eC (.ty "str")) aNil)))))
    (sRet (eC (.bl false)))
    sNx) (sSeq (sIf (tOrF (tOf (eBin fEq (eVar 0) (eC (.str [])))) (tOf (eBin fEq (eVar 0) (eC (.str [42])))))
    (sRet (eC (.bl true)))
    sNx) (sSeq (sIf (tOrF (tOf (eBin fGt (eCall fLen (aCons (eVar 0) aNil)) (eC (.int 4)))) (tNotF (tTru (eFn f__is_letters [] (aCons (eVar 0) aNil)))))
    (sRet (eC (.bl false)))
    sNx) (sRet (eCall fAll (aCons (eLc false (wZipS (aCons (eVar 0) (aCons (eSl false (eVar 0) (oSome (eC (.int 1))) oNone) aNil))) (gT 2 (gCons (gN 1) (gCons (gN 2) gNil))) tYesF (eBin fLtS (eVar 1) (eVar 2)) [1, 2]) aNil))))))
noncomputable def f_is_hold : Fn := bodyF 3 1 b_f_is_hold
/-- _check_frame(gap, due, work); 0: gap, 1: due, 2: work, 3: least, 4: most, 5: hold -/
noncomputable def b_f__check_frame : Sv := (sSeq (sIf (tNotF (tOf (eChain fLe fLe (eC (.int 1)) (eVar 0) (eC (.int 240)))))
    sBad
    sNx) (sSeq (sIf (tNotF (tOf (eChain fLe fLe (eC (.int 1)) (eVar 1) (eC (.int 480)))))
    sBad
    sNx) (sSeq (sIf (tNotF (tOf (eChain fLe fLe (eC (.int 1)) (eCall fLen (aCons (eVar 2) aNil)) (eC (.int 4)))))
    sBad
    sNx) (sForA (vAny (eVar 2)) (gT 3 (gCons (gN 3) (gCons (gN 4) (gCons (gN 5) gNil))))
    (sIf (tOrF (tNotF (tOf (eChain3 fLe fLe fLe (eC (.int 1)) (eVar 3) (eVar 4) (eC (.int 240))))) (tNotF (tTru (eFn f_is_hold [] (aCons (eVar 5) aNil)))))
    sBad
    sNx)))))
noncomputable def f__check_frame : Fn := bodyF 6 3 b_f__check_frame
/-- _check_frames(frames, jitter); 0: frames, 1: jitter, 2: gap, 3: due, 4: work, 5: frame, 6: follower -/
noncomputable def b_f__check_frames : Sv := (sSeq (sIf (tNotF (tOf (eChain fLe fLe (eC (.int 1)) (eCall fLen (aCons (eVar 0) aNil)) (eC (.int 4)))))
    sBad
    sNx) (sSeq (sForA (vAny (eVar 0)) (gT 3 (gCons (gN 2) (gCons (gN 3) (gCons (gN 4) gNil))))
    (sDrop (eFn f__check_frame [] (aCons (eVar 2) (aCons (eVar 3) (aCons (eVar 4) aNil)))))) (sSeq (sIf (tOrF (tNotF (tOf (eChain fLe fLe (eC (.int 0)) (eVar 1) (eC (.int 240))))) (tTru (eCall fAny (aCons (eLcA false (vAny (eVar 0)) (gN 5) tYesF (eBin fGe (eVar 1) (eBin fIx (eVar 5) (eC (.int 1)))) [5]) aNil))))
    sBad
    sNx) (sFor (wZip (aCons (eVar 0) (aCons (eBin (fAdd false) (eSl false (eVar 0) (oSome (eC (.int 1))) oNone) (eSl false (eVar 0) oNone (oSome (eC (.int 1))))) aNil))) (gT 2 (gCons (gN 5) (gCons (gN 6) gNil)))
    (sIf (tOf (eBin fGt (eBin fIx (eVar 5) (eC (.int 1))) (eBin (fAdd false) (eBin fIx (eVar 5) (eC (.int 0))) (eBin fIx (eVar 6) (eC (.int 1))))))
    sBad
    sNx)))))
noncomputable def f__check_frames : Fn := bodyF 7 2 b_f__check_frames
/-- _copied(frames); 0: frames, 1: gap, 2: due, 3: work, 4: least, 5: most, 6: hold -/
noncomputable def b_f__copied : Sv := (sRet (eCall fTuple (aCons (eLcA false (vAny (eVar 0)) (gT 3 (gCons (gN 1) (gCons (gN 2) (gCons (gN 3) gNil)))) tYesF (eTup (aCons (eVar 1) (aCons (eVar 2) (aCons (eCall fTuple (aCons (eLcA false (vAny (eVar 3)) (gT 3 (gCons (gN 4) (gCons (gN 5) (gCons (gN 6) gNil)))) tYesF (eTup (aCons (eVar 4) (aCons (eVar 5) (aCons (eVar 6) aNil)))) [4, 5, 6]) aNil)) aNil)))) [1, 2, 3]) aNil)))
noncomputable def f__copied : Fn := bodyF 7 1 b_f__copied
/-- is_name(word); 0: word -/
noncomputable def b_f_is_name : Sv := (sRet (eAndF (eCall (fIsi isiTb) (aCons (eVar 0) (aCons (eC (.ty "str")) aNil))) (eAndF (eBin fLe (eCall fLen (aCons (eVar 0) aNil)) (eC (.int 8))) (eFn f__is_letters [] (aCons (eVar 0) aNil)))))
noncomputable def f_is_name : Fn := bodyF 1 1 b_f_is_name
/-- Task.__init__(self, name, frames, jitter); 0: self, 1: name, 2: frames, 3: jitter, 4: copied -/
noncomputable def b_f_Task___init__ : Sv := (sSeq (sIf (tNotF (tTru (eFn f_is_name [] (aCons (eVar 1) aNil))))
    sBad
    sNx) (sSeq (sSet 4 (eFn f__copied [] (aCons (eVar 2) aNil))) (sSeq (sDrop (eFn f__check_frames [] (aCons (eVar 4) (aCons (eVar 3) aNil)))) (sSeq (sFldF ix_name (eVar 0) (eVar 1)) (sSeq (sFldF ix_frames (eVar 0) (eVar 4)) (sFldF ix_jitter (eVar 0) (eVar 3)))))))
noncomputable def f_Task___init__ : Fn := bodyF 5 4 b_f_Task___init__
/-- _law_high(row); 0: row, 1: part -/
noncomputable def b_f__law_high : Sv := (sRet (eCall fSum (aCons (eLcA false (vAny (eBin fIx (eVar 0) (eC (.int 2)))) (gN 1) tYesF (eBin fIx (eVar 1) (eC (.int 1))) [1]) aNil)))
noncomputable def f__law_high : Fn := bodyF 2 1 b_f__law_high
/-- _law_low(row); 0: row, 1: part -/
noncomputable def b_f__law_low : Sv := (sRet (eCall fSum (aCons (eLcA false (vAny (eBin fIx (eVar 0) (eC (.int 2)))) (gN 1) tYesF (eBin fIx (eVar 1) (eC (.int 0))) [1]) aNil)))
noncomputable def f__law_low : Fn := bodyF 2 1 b_f__law_low
/-- _law_kept(rows, early, first, log); 0: rows, 1: early, 2: first, 3: log, 4: arrival, 5: k, 6: here, 7: soonest -/
noncomputable def b_f__law_kept : Sv := (sSeq (sSet 4 (eC (.int 0))) (sSeq (sFor (wRange1 (aCons (eCall fLen (aCons (eVar 3) aNil)) aNil)) (gN 5)
    (sSeq (sSet 6 (eBin fIx (eVar 0) (eBin fMod (eCall fInt (aCons (eBin (fAdd false) (eVar 2) (eVar 5)) aNil)) (eCall fLen (aCons (eVar 0) aNil))))) (sSeq (sSet 7 (eBin fSub (eBin fIx (eBin fIx (eVar 3) (eVar 5)) (eC (.int 0))) (eVar 1))) (sSeq (sIf (tOf (eBin fGt (eVar 5) (eC (.int 0))))
    (sSeq (sSet 7 (eCall fMax (aCons (eVar 7) (aCons (eBin (fAdd false) (eVar 4) (eBin fIx (eBin fIx (eVar 0) (eBin fMod (eCall fInt (aCons (eBin fSub (eBin (fAdd false) (eVar 2) (eVar 5)) (eC (.int 1))) aNil)) (eCall fLen (aCons (eVar 0) aNil)))) (eC (.int 0)))) aNil)))) (sIf (tOf (eBin fLt (eBin fIx (eBin fIx (eVar 3) (eVar 5)) (eC (.int 0))) (eBin fIx (eBin fIx (eVar 3) (eBin fSub (eVar 5) (eC (.int 1)))) (eC (.int 0)))))
    (sRet (eTup (aCons (eVar 5) (aCons (eVar 4) aNil))))
    sNx))
    sNx) (sSeq (sIf (tOrF (tOf (eBin fGt (eVar 7) (eBin fIx (eBin fIx (eVar 3) (eVar 5)) (eC (.int 0))))) (tOrF (tOf (eBin fLt (eBin fIx (eBin fIx (eVar 3) (eVar 5)) (eC (.int 1))) (eFn f__law_low [] (aCons (eVar 6) aNil)))) (tOf (eBin fGt (eBin fIx (eBin fIx (eVar 3) (eVar 5)) (eC (.int 1))) (eFn f__law_high [] (aCons (eVar 6) aNil))))))
    (sRet (eTup (aCons (eVar 5) (aCons (eVar 4) aNil))))
    sNx) (sSet 4 (eVar 7))))))) (sRet (eTup (aCons (eCall fLen (aCons (eVar 3) aNil)) (aCons (eVar 4) aNil))))))
noncomputable def f__law_kept : Fn := bodyF 8 4 b_f__law_kept
/-- _law_due(rows, early, log); 0: rows, 1: early, 2: log, 3: best, 4: first -/
noncomputable def b_f__law_due : Sv := (sSeq (sSet 3 (eCall fMax (aCons (eLc false (wRange1 (aCons (eCall fLen (aCons (eVar 0) aNil)) aNil)) (gN 4) tYesF (eBin fIx (eFn f__law_kept [] (aCons (eVar 0) (aCons (eVar 1) (aCons (eVar 4) (aCons (eVar 2) aNil))))) (eC (.int 0))) [4]) aNil))) (sSeq (sIf (tOf (eBin fEq (eVar 3) (eCall fLen (aCons (eVar 2) aNil))))
    (sRet (eC .non))
    sNx) (sRet (eVar 3))))
noncomputable def f__law_due : Fn := bodyF 5 3 b_f__law_due
/-- _law_number(thing); 0: thing -/
noncomputable def b_f__law_number : Sv := (sRet (eAndF (eCall (fIsi isiTb) (aCons (eVar 0) (aCons (eC (.ty "int")) aNil))) (eNotF (eCall (fIsi isiTb) (aCons (eVar 0) (aCons (eC (.ty "bool")) aNil))))))
noncomputable def f__law_number : Fn := bodyF 1 1 b_f__law_number
/-- least_sum(work); 0: work, 1: segment -/
noncomputable def b_f_least_sum : Sv := (sRet (eCall fSum (aCons (eLcA false (vAny (eVar 0)) (gN 1) tYesF (eBin fIx (eVar 1) (eC (.int 0))) [1]) aNil)))
noncomputable def f_least_sum : Fn := bodyF 2 1 b_f_least_sum
/-- Task.least_work(self, frame); 0: self, 1: frame -/
noncomputable def b_f_Task_least_work : Sv := (sRet (eFn f_least_sum [] (aCons (eBin fIx (eBin fIx (eFld ix_frames (eVar 0)) (eVar 1)) (eC (.int 2))) aNil)))
noncomputable def f_Task_least_work : Fn := bodyF 2 2 b_f_Task_least_work
/-- most_sum(work); 0: work, 1: segment -/
noncomputable def b_f_most_sum : Sv := (sRet (eCall fSum (aCons (eLcA false (vAny (eVar 0)) (gN 1) tYesF (eBin fIx (eVar 1) (eC (.int 1))) [1]) aNil)))
noncomputable def f_most_sum : Fn := bodyF 2 1 b_f_most_sum
/-- Task.most_work(self, frame); 0: self, 1: frame -/
noncomputable def b_f_Task_most_work : Sv := (sRet (eFn f_most_sum [] (aCons (eBin fIx (eBin fIx (eFld ix_frames (eVar 0)) (eVar 1)) (eC (.int 2))) aNil)))
noncomputable def f_Task_most_work : Fn := bodyF 2 2 b_f_Task_most_work
noncomputable def tb_least_work : Nat → Option Fn := fun c => if c = 3 then some f_Task_least_work else none
noncomputable def tb_most_work : Nat → Option Fn := fun c => if c = 3 then some f_Task_most_work else none
/-- length_fits(task, frame, length); 0: task, 1: frame, 2: length -/
noncomputable def b_f_length_fits : Sv := (sRet (eChain fLe fLe (eMeth tb_least_work [] (eVar 0) (aCons (eVar 1) aNil)) (eVar 2) (eMeth tb_most_work [] (eVar 0) (aCons (eVar 1) aNil))))
noncomputable def f_length_fits : Fn := bodyF 3 3 b_f_length_fits
/-- _earliest_arrivals(task, log, start_frame); 0: task, 1: log, 2: start_frame, 3: arrivals, 4: count, 5: index, 6: release, 7: length, 8: frame, 9: arrival, 10: gap -/
noncomputable def b_f__earliest_arrivals : Sv := (sSeq (sSet 3 (eLst true aNil)) (sSeq (sSet 4 (eCall fLen (aCons (eFld ix_frames (eVar 0)) aNil))) (sSeq (sFor (wEnum (aCons (eVar 1) aNil)) (gT 2 (gCons (gN 5) (gCons (gT 2 (gCons (gN 6) (gCons (gN 7) gNil))) gNil)))
    (sSeq (sSet 8 (eBin fMod (eBin (fAdd false) (eVar 2) (eVar 5)) (eVar 4))) (sSeq (sSet 9 (eBin fSub (eVar 6) (eFld ix_jitter (eVar 0)))) (sSeq (sIf (tOf (eBin fGt (eVar 5) (eC (.int 0))))
    (sSeq (sSet 10 (eBin fIx (eBin fIx (eFld ix_frames (eVar 0)) (eBin fMod (eBin fSub (eBin (fAdd false) (eVar 8) (eVar 4)) (eC (.int 1))) (eVar 4))) (eC (.int 0)))) (sSeq (sSet 9 (eCall fMax (aCons (eVar 9) (aCons (eBin (fAdd false) (eBin fIx (eVar 3) (eNeg (eC (.int 1)))) (eVar 10)) aNil)))) (sIf (tOf (eBin fLt (eVar 6) (eBin fIx (eBin fIx (eVar 1) (eBin fSub (eVar 5) (eC (.int 1)))) (eC (.int 0)))))
    sBk
    sNx)))
    sNx) (sSeq (sIf (tOrF (tOf (eBin fGt (eVar 9) (eVar 6))) (tNotF (tTru (eFn f_length_fits [] (aCons (eVar 0) (aCons (eVar 8) (aCons (eVar 7) aNil)))))))
    sBk
    sNx) (sDrop (eBM isLst fAppend (eVar 3) (aCons (eVar 9) aNil)))))))) (sRet (eVar 3)))))
noncomputable def f__earliest_arrivals : Fn := bodyF 11 3 b_f__earliest_arrivals
/-- break_index(task, log); 0: task, 1: log, 2: longest, 3: start_frame -/
noncomputable def b_f_break_index : Sv := (sSeq (sSet 2 (eCall fMax (aCons (eLc false (wRange1 (aCons (eCall fLen (aCons (eFld ix_frames (eVar 0)) aNil)) aNil)) (gN 3) tYesF (eCall fLen (aCons (eFn f__earliest_arrivals [] (aCons (eVar 0) (aCons (eVar 1) (aCons (eVar 3) aNil)))) aNil)) [3]) aNil))) (sSeq (sIf (tOf (eBin fEq (eVar 2) (eCall fLen (aCons (eVar 1) aNil))))
    (sRet (eC .non))
    sNx) (sRet (eVar 2))))
noncomputable def f_break_index : Fn := bodyF 4 2 b_f_break_index
/-- _law_right(task, rows, early, log); 0: task, 1: rows, 2: early, 3: log, 4: due, 5: handed, 6: answer -/
noncomputable def b_f__law_right : Sv := (sSeq (sSet 4 (eFn f__law_due [] (aCons (eVar 1) (aCons (eVar 2) (aCons (eVar 3) aNil))))) (sSeq (sSet 5 (eCall (fListA false) (aCons (eVar 3) aNil))) (sSeq (sSet 6 (eFn f_break_index [] (aCons (eVar 0) (aCons (eVar 5) aNil)))) (sSeq (sIf (tOf (eBin fNe (eVar 5) (eVar 3)))
    (sRet (eC (.bl false)))
    sNx) (sSeq (sIf (tOf (eBin fIs (eVar 4) (eC .non)))
    (sRet (eBin fIs (eVar 6) (eC .non)))
    sNx) (sRet (eAndF (eFn f__law_number [] (aCons (eVar 6) aNil)) (eBin fEq (eVar 6) (eVar 4)))))))))
noncomputable def f__law_right : Fn := bodyF 7 4 b_f__law_right
/-- _law_take(bag, many); 0: bag, 1: many, 2: digit -/
noncomputable def b_f__law_take : Sv := (sSeq (sIf (tOf (eBin fGt (eBin fIx (eVar 0) (eC (.int 0))) (eC (.int 0))))
    (sSeq (sSet 2 (eBin fMod (eCall fInt (aCons (eBin fIx (eVar 0) (eC (.int 0))) aNil)) (eVar 1))) (sSeq (sSetIx (eVar 0) (eC (.int 0)) (eBin fDiv (eBin fIx (eVar 0) (eC (.int 0))) (eVar 1))) (sRet (eVar 2))))
    sNx) (sSeq (sSetIx (eVar 0) (eC (.int 1)) (eBin fMod (eCall fInt (aCons (eBin (fAdd false) (eBin (fAdd false) (eBin (fMul false) (eBin fIx (eVar 0) (eC (.int 1))) (eC (.int 48271))) (eBin (fMul false) (eBin fIx (eVar 0) (eC (.int 2))) (eBin fIx (eVar 0) (eC (.int 2))))) (eC (.int 11))) aNil)) (eC (.int 2147483647)))) (sSeq (sSetIx (eVar 0) (eC (.int 2)) (eBin (fAdd false) (eBin fIx (eVar 0) (eC (.int 2))) (eC (.int 1)))) (sRet (eBin fMod (eBin fDiv (eBin fMod (eCall fInt (aCons (eBin (fAdd false) (eBin (fMul false) (eBin fIx (eVar 0) (eC (.int 1))) (eC (.int 69621))) (eBin fIx (eVar 0) (eC (.int 2)))) aNil)) (eC (.int 2147483629))) (eC (.int 97))) (eVar 1))))))
noncomputable def f__law_take : Fn := bodyF 3 2 b_f__law_take
/-- explained(task, log); 0: task, 1: log, 2: start_frame, 3: arrivals -/
noncomputable def b_f_explained : Sv := (sSeq (sFor (wRange1 (aCons (eCall fLen (aCons (eFld ix_frames (eVar 0)) aNil)) aNil)) (gN 2)
    (sSeq (sSet 3 (eFn f__earliest_arrivals [] (aCons (eVar 0) (aCons (eVar 1) (aCons (eVar 2) aNil))))) (sIf (tOf (eBin fEq (eCall fLen (aCons (eVar 3) aNil)) (eCall fLen (aCons (eVar 1) aNil))))
    (sRet (eTup (aCons (eVar 2) (aCons (eVar 3) aNil))))
    sNx))) (sRet (eC .non)))
noncomputable def f_explained : Fn := bodyF 4 2 b_f_explained
/-- _law_around(bag, task, rows, early, log, at); 0: bag, 1: task, 2: rows, 3: early, 4: log, 5: at, 6: junk, 7: m, 8: alive, 9: first, 10: here, 11: release, 12: arrival, 13: length, 14: mended -/
noncomputable def b_f__law_around : Sv := (sSeq (sIf (tOf (eBin fIsNot (eFn f_break_index [] (aCons (eVar 1) (aCons (eSl false (eVar 4) oNone (oSome (eVar 5))) aNil))) (eC .non)))
    (sRet (eC (.bl false)))
    sNx) (sSeq (sIf (tOrF (tOf (eBin fIs (eFn f_explained [] (aCons (eVar 1) (aCons (eSl false (eVar 4) oNone (oSome (eVar 5))) aNil))) (eC .non))) (tOf (eBin fIsNot (eFn f_explained [] (aCons (eVar 1) (aCons (eSl false (eVar 4) oNone (oSome (eBin (fAdd false) (eVar 5) (eC (.int 1))))) aNil))) (eC .non))))
    (sRet (eC (.bl false)))
    sNx) (sSeq (sSet 6 (eLst true aNil)) (sSeq (sFor (wRange1 (aCons (eFn f__law_take [] (aCons (eVar 0) (aCons (eC (.int 4)) aNil))) aNil)) (gN 7)
    (sDrop (eBM isLst fAppend (eVar 6) (aCons (eTup (aCons (eBin fSub (eBin (fAdd false) (eBin fIx (eBin fIx (eVar 4) (eVar 5)) (eC (.int 0))) (eFn f__law_take [] (aCons (eVar 0) (aCons (eC (.int 61)) aNil)))) (eC (.int 30))) (aCons (eBin fSub (eFn f__law_take [] (aCons (eVar 0) (aCons (eC (.int 12)) aNil))) (eC (.int 1))) aNil))) aNil)))) (sSeq (sIf (tNotF (tTru (eFn f__law_right [] (aCons (eVar 1) (aCons (eVar 2) (aCons (eVar 3) (aCons (eBin (fAdd false) (eSl false (eVar 4) oNone (oSome (eBin (fAdd false) (eVar 5) (eC (.int 1))))) (eVar 6)) aNil)))))))
    (sRet (eC (.bl false)))
    sNx) (sSeq (sSet 8 (eLc false (wRange1 (aCons (eCall fLen (aCons (eVar 2) aNil)) aNil)) (gN 9) (tOf (eBin fEq (eBin fIx (eFn f__law_kept [] (aCons (eVar 2) (aCons (eVar 3) (aCons (eVar 9) (aCons (eSl false (eVar 4) oNone (oSome (eVar 5))) aNil))))) (eC (.int 0))) (eVar 5))) (eVar 9) [9])) (sSeq (sSet 9 (eBin fIx (eVar 8) (eFn f__law_take [] (aCons (eVar 0) (aCons (eCall fLen (aCons (eVar 8) aNil)) aNil))))) (sSeq (sSet 10 (eBin fIx (eVar 2) (eBin fMod (eCall fInt (aCons (eBin (fAdd false) (eVar 9) (eVar 5)) aNil)) (eCall fLen (aCons (eVar 2) aNil))))) (sSeq (sSet 11 (eBin fIx (eBin fIx (eVar 4) (eVar 5)) (eC (.int 0)))) (sSeq (sIf (tOf (eBin fGt (eVar 5) (eC (.int 0))))
    (sSeq (sSet 12 (eBin (fAdd false) (eBin fIx (eFn f__law_kept [] (aCons (eVar 2) (aCons (eVar 3) (aCons (eVar 9) (aCons (eSl false (eVar 4) oNone (oSome (eVar 5))) aNil))))) (eC (.int 1))) (eBin fIx (eBin fIx (eVar 2) (eBin fMod (eCall fInt (aCons (eBin fSub (eBin (fAdd false) (eVar 9) (eVar 5)) (eC (.int 1))) aNil)) (eCall fLen (aCons (eVar 2) aNil)))) (eC (.int 0))))) (sSet 11 (eBin (fAdd false) (eCall fMax (aCons (eBin fIx (eBin fIx (eVar 4) (eBin fSub (eVar 5) (eC (.int 1)))) (eC (.int 0))) (aCons (eVar 12) aNil))) (eFn f__law_take [] (aCons (eVar 0) (aCons (eC (.int 3)) aNil))))))
    sNx) (sSeq (sSet 13 (eBin (fAdd false) (eFn f__law_low [] (aCons (eVar 10) aNil)) (eFn f__law_take [] (aCons (eVar 0) (aCons (eBin (fAdd false) (eBin fSub (eFn f__law_high [] (aCons (eVar 10) aNil)) (eFn f__law_low [] (aCons (eVar 10) aNil))) (eC (.int 1))) aNil))))) (sSeq (sSet 14 (eBin (fAdd false) (eSl false (eVar 4) oNone (oSome (eVar 5))) (eLst false (aCons (eTup (aCons (eVar 11) (aCons (eVar 13) aNil))) aNil)))) (sSeq (sIf (tOrF (tOf (eBin fIsNot (eFn f_break_index [] (aCons (eVar 1) (aCons (eCall (fListA false) (aCons (eVar 14) aNil)) aNil))) (eC .non))) (tOf (eBin fIs (eFn f_explained [] (aCons (eVar 1) (aCons (eCall (fListA false) (aCons (eVar 14) aNil)) aNil))) (eC .non))))
    (sRet (eC (.bl false)))
    sNx) (sRet (eFn f__law_right [] (aCons (eVar 1) (aCons (eVar 2) (aCons (eVar 3) (aCons (eBin (fAdd false) (eVar 14) (eSl false (eVar 4) (oSome (eBin (fAdd false) (eVar 5) (eC (.int 1)))) oNone)) aNil)))))))))))))))))))
noncomputable def f__law_around : Fn := bodyF 15 6 b_f__law_around
/-- _law_cell(script, spot); 0: script, 1: spot -/
noncomputable def b_f__law_cell : Sv := (sSeq (sIf (tOf (eBin fLt (eVar 1) (eCall fLen (aCons (eVar 0) aNil))))
    (sRet (eCall fAbs (aCons (eBin fIx (eVar 0) (eVar 1)) aNil)))
    sNx) (sRet (eBin (fAdd false) (eBin (fMul false) (eC (.int 7919)) (eBin (fAdd false) (eVar 1) (eC (.int 1)))) (eBin fMod (eCall fAbs (aCons (eCall fSum (aCons (eSl false (eVar 0) oNone (oSome (eC (.int 1)))) aNil)) aNil)) (eC (.int 1000003))))))
noncomputable def f__law_cell : Fn := bodyF 2 2 b_f__law_cell
/-- _law_bag(script, spot); 0: script, 1: spot, 2: cell, 3: rest -/
noncomputable def b_f__law_bag : Sv := (sSeq (sSet 2 (eBin fMod (eCall fInt (aCons (eFn f__law_cell [] (aCons (eVar 0) (aCons (eVar 1) aNil))) aNil)) (eBin fPow (eC (.int 10)) (eC (.int 64))))) (sSeq (sSet 3 (eC (.int 0))) (sSeq (sIf (tOf (eBin fGe (eVar 2) (eBin fPow (eC (.int 10)) (eC (.int 18)))))
    (sSet 3 (eVar 2))
    sNx) (sRet (eLst true (aCons (eVar 3) (aCons (eBin fMod (eCall fInt (aCons (eBin (fAdd true) (eBin (fAdd true) (eBin (fMul true) (eVar 2) (eC (.int 48271))) (eBin (fMul true) (eVar 1) (eC (.int 69621)))) (eC (.int 1))) aNil)) (eC (.int 2147483647))) (aCons (eVar 1) aNil))))))))
noncomputable def f__law_bag : Fn := bodyF 4 2 b_f__law_bag
/-- _law_bent(bag, log, at); 0: bag, 1: log, 2: at, 3: pair, 4: way -/
noncomputable def b_f__law_bent : Sv := (sSeq (sSet 3 (eBin fIx (eVar 1) (eVar 2))) (sSeq (sSet 4 (eFn f__law_take [] (aCons (eVar 0) (aCons (eC (.int 5)) aNil)))) (sSeq (sIf (tOf (eBin fEq (eVar 4) (eC (.int 0))))
    (sSet 3 (eTup (aCons (eBin fSub (eBin fSub (eBin fIx (eVar 3) (eC (.int 0))) (eC (.int 1))) (eFn f__law_take [] (aCons (eVar 0) (aCons (eC (.int 3)) aNil)))) (aCons (eBin fIx (eVar 3) (eC (.int 1))) aNil))))
    sNx) (sSeq (sIf (tOf (eBin fEq (eVar 4) (eC (.int 1))))
    (sSet 3 (eTup (aCons (eBin fIx (eVar 3) (eC (.int 0))) (aCons (eBin (fAdd false) (eBin (fAdd false) (eBin fIx (eVar 3) (eC (.int 1))) (eC (.int 1))) (eFn f__law_take [] (aCons (eVar 0) (aCons (eC (.int 3)) aNil)))) aNil))))
    sNx) (sSeq (sIf (tOf (eBin fEq (eVar 4) (eC (.int 2))))
    (sSet 3 (eTup (aCons (eBin fIx (eVar 3) (eC (.int 0))) (aCons (eBin fSub (eBin fSub (eBin fIx (eVar 3) (eC (.int 1))) (eC (.int 1))) (eFn f__law_take [] (aCons (eVar 0) (aCons (eC (.int 3)) aNil)))) aNil))))
    sNx) (sSeq (sIf (tOf (eBin fEq (eVar 4) (eC (.int 3))))
    (sSet 3 (eTup (aCons (eBin fSub (eBin fIx (eVar 3) (eC (.int 0))) (eFn f__law_take [] (aCons (eVar 0) (aCons (eC (.int 260)) aNil)))) (aCons (eBin fIx (eVar 3) (eC (.int 1))) aNil))))
    sNx) (sSeq (sIf (tOf (eBin fEq (eVar 4) (eC (.int 4))))
    (sSet 3 (eTup (aCons (eBin (fAdd false) (eBin (fAdd false) (eBin fIx (eVar 3) (eC (.int 0))) (eC (.int 1))) (eFn f__law_take [] (aCons (eVar 0) (aCons (eC (.int 4)) aNil)))) (aCons (eBin fIx (eVar 3) (eC (.int 1))) aNil))))
    sNx) (sRet (eBin (fAdd false) (eBin (fAdd false) (eSl false (eVar 1) oNone (oSome (eVar 2))) (eLst false (aCons (eVar 3) aNil))) (eSl false (eVar 1) (oSome (eBin (fAdd false) (eVar 2) (eC (.int 1)))) oNone))))))))))
noncomputable def f__law_bent : Fn := bodyF 5 3 b_f__law_bent
/-- _law_good(script, rows, early); 0: script, 1: rows, 2: early, 3: bag, 4: arrival, 5: first, 6: size, 7: release, 8: log, 9: k, 10: own, 11: here, 12: late, 13: way -/
noncomputable def b_f__law_good : Sv := (sSeq (sSet 3 (eFn f__law_bag [] (aCons (eVar 0) (aCons (eC (.int 5)) aNil)))) (sSeq (sSet 4 (eBin fSub (eFn f__law_take [] (aCons (eVar 3) (aCons (eC (.int 240)) aNil))) (eC (.int 100)))) (sSeq (sSet 5 (eFn f__law_take [] (aCons (eVar 3) (aCons (eCall fLen (aCons (eVar 1) aNil)) aNil)))) (sSeq (sSet 6 (eFn f__law_take [] (aCons (eVar 3) (aCons (eC (.int 8)) aNil)))) (sSeq (sIf (tOf (eBin fEq (eFn f__law_take [] (aCons (eVar 3) (aCons (eC (.int 8)) aNil))) (eC (.int 7))))
    (sSet 6 (eBin (fAdd false) (eC (.int 8)) (eFn f__law_take [] (aCons (eVar 3) (aCons (eC (.int 50)) aNil)))))
    sNx) (sSeq (sSet 7 (eVar 4)) (sSeq (sSet 8 (eLst true aNil)) (sSeq (sFor (wRange1 (aCons (eVar 6) aNil)) (gN 9)
    (sSeq (sSet 10 (eFn f__law_bag [] (aCons (eVar 0) (aCons (eBin (fAdd false) (eC (.int 6)) (eVar 9)) aNil)))) (sSeq (sSet 11 (eBin fIx (eVar 1) (eBin fMod (eCall fInt (aCons (eBin (fAdd false) (eVar 5) (eVar 9)) aNil)) (eCall fLen (aCons (eVar 1) aNil))))) (sSeq (sSet 12 (eFn f__law_take [] (aCons (eVar 10) (aCons (eBin (fAdd false) (eVar 2) (eC (.int 1))) aNil)))) (sSeq (sSet 13 (eFn f__law_take [] (aCons (eVar 10) (aCons (eC (.int 4)) aNil)))) (sSeq (sIf (tOf (eBin fLt (eVar 13) (eC (.int 2))))
    (sSet 12 (eBin (fMul false) (eVar 2) (eVar 13)))
    sNx) (sSeq (sSet 7 (eCall fMax (aCons (eVar 7) (aCons (eBin (fAdd false) (eVar 4) (eVar 12)) aNil)))) (sSeq (sDrop (eBM isLst fAppend (eVar 8) (aCons (eTup (aCons (eVar 7) (aCons (eBin (fAdd false) (eFn f__law_low [] (aCons (eVar 11) aNil)) (eFn f__law_take [] (aCons (eVar 10) (aCons (eBin (fAdd false) (eBin fSub (eFn f__law_high [] (aCons (eVar 11) aNil)) (eFn f__law_low [] (aCons (eVar 11) aNil))) (eC (.int 1))) aNil)))) aNil))) aNil))) (sSet 4 (eBin (fAdd false) (eBin (fAdd false) (eVar 4) (eBin fIx (eVar 11) (eC (.int 0)))) (eCall fMax (aCons (eC (.int 0)) (aCons (eBin fSub (eFn f__law_take [] (aCons (eVar 10) (aCons (eC (.int 8)) aNil))) (eC (.int 5))) aNil))))))))))))) (sRet (eFrz (eVar 8)))))))))))
noncomputable def f__law_good : Fn := bodyF 14 3 b_f__law_good
/-- _law_work(bag, large); 0: bag, 1: large, 2: marks, 3: work, 4: m, 5: low, 6: more -/
noncomputable def b_f__law_work : Sv := (sSeq (sSet 2 (eLst false (aCons (eC (.str [])) (aCons (eC (.str [])) (aCons (eC (.str [109])) (aCons (eC (.str [42])) (aCons (eC (.str [99, 107])) (aCons (eC (.str [97, 98, 99, 100])) aNil)))))))) (sSeq (sSet 3 (eLst true aNil)) (sSeq (sFor (wRange1 (aCons (eBin (fAdd false) (eC (.int 1)) (eFn f__law_take [] (aCons (eVar 0) (aCons (eC (.int 3)) aNil)))) aNil)) (gN 4)
    (sSeq (sSet 5 (eBin (fAdd false) (eC (.int 1)) (eFn f__law_take [] (aCons (eVar 0) (aCons (eIf (tTru (eVar 1)) (eC (.int 240)) (eC (.int 2))) aNil))))) (sSeq (sSet 6 (eFn f__law_take [] (aCons (eVar 0) (aCons (eIf (tTru (eVar 1)) (eBin fSub (eC (.int 241)) (eVar 5)) (eC (.int 3))) aNil)))) (sDrop (eBM isLst fAppend (eVar 3) (aCons (eTup (aCons (eVar 5) (aCons (eBin (fAdd false) (eVar 5) (eVar 6)) (aCons (eBin fIx (eVar 2) (eFn f__law_take [] (aCons (eVar 0) (aCons (eC (.int 6)) aNil)))) aNil)))) aNil)))))) (sRet (eCall fTuple (aCons (eVar 3) aNil))))))
noncomputable def f__law_work : Fn := bodyF 7 2 b_f__law_work
/-- _law_rows(script, size, end, large); 0: script, 1: size, 2: end, 3: large, 4: rows, 5: f, 6: bag, 7: gap -/
noncomputable def b_f__law_rows : Sv := (sSeq (sSet 4 (eLst true aNil)) (sSeq (sFor (wRange1 (aCons (eVar 1) aNil)) (gN 5)
    (sSeq (sSet 6 (eFn f__law_bag [] (aCons (eVar 0) (aCons (eBin (fAdd false) (eC (.int 1)) (eVar 5)) aNil)))) (sSeq (sSet 7 (eBin (fAdd false) (eC (.int 1)) (eFn f__law_take [] (aCons (eVar 6) (aCons (eIf (tTru (eVar 3)) (eC (.int 240)) (eC (.int 5))) aNil))))) (sDrop (eBM isLst fAppend (eVar 4) (aCons (eTup (aCons (eVar 7) (aCons (eVar 2) (aCons (eFn f__law_work [] (aCons (eVar 6) (aCons (eVar 3) aNil))) aNil)))) aNil)))))) (sRet (eFrz (eVar 4)))))
noncomputable def f__law_rows : Fn := bodyF 8 4 b_f__law_rows
/-- _law_word(bag); 0: bag, 1: letters, 2: size, 3: m -/
noncomputable def b_f__law_word : Sv := (sSeq (sSet 1 (eC (.str [97, 98, 99, 100, 101, 102, 103, 104, 105, 106, 107, 108, 109, 110, 111, 112, 113, 114, 115, 116, 117, 118, 119, 120, 121, 122]))) (sSeq (sSet 2 (eBin (fAdd false) (eC (.int 1)) (eFn f__law_take [] (aCons (eVar 0) (aCons (eC (.int 8)) aNil))))) (sRet (eBM isStr fJoin (eC (.str [])) (aCons (eLc false (wRange1 (aCons (eVar 2) aNil)) (gN 3) tYesF (eBin fIx (eVar 1) (eFn f__law_take [] (aCons (eVar 0) (aCons (eC (.int 26)) aNil)))) [3]) aNil)))))
noncomputable def f__law_word : Fn := bodyF 4 1 b_f__law_word
/-- law(script); 0: script, 1: bag, 2: size, 3: large, 4: early, 5: rows, 6: task, 7: log, 8: m, 9: at, 10: release, 11: pair, 12: row -/
noncomputable def b_f_law : Sv := (sSeq (sSet 1 (eFn f__law_bag [] (aCons (eVar 0) (aCons (eC (.int 0)) aNil)))) (sSeq (sSet 2 (eBin (fAdd false) (eC (.int 1)) (eFn f__law_take [] (aCons (eVar 1) (aCons (eC (.int 4)) aNil))))) (sSeq (sSet 3 (eBin fEq (eFn f__law_take [] (aCons (eVar 1) (aCons (eC (.int 8)) aNil))) (eC (.int 7)))) (sSeq (sSet 4 (eBin fIx (eLst false (aCons (eC (.int 0)) (aCons (eC (.int 0)) (aCons (eC (.int 1)) (aCons (eC (.int 2)) (aCons (eC (.int 3)) (aCons (eC (.int 5)) aNil))))))) (eFn f__law_take [] (aCons (eVar 1) (aCons (eC (.int 6)) aNil))))) (sSeq (sIf (tTru (eVar 3))
    (sSet 4 (eFn f__law_take [] (aCons (eVar 1) (aCons (eC (.int 240)) aNil))))
    sNx) (sSeq (sSet 5 (eFn f__law_rows [] (aCons (eVar 0) (aCons (eVar 2) (aCons (eBin (fAdd false) (eBin (fAdd false) (eVar 4) (eC (.int 1))) (eFn f__law_take [] (aCons (eVar 1) (aCons (eC (.int 240)) aNil)))) (aCons (eVar 3) aNil)))))) (sSeq (sSet 6 (eNewK 3 3 true 2 1 [0, 1, 2, 3] f_Task___init__ [] (aCons (eFn f__law_word [] (aCons (eVar 1) aNil)) (aCons (eCall (fListA false) (aCons (eVar 5) aNil)) aNil)) (aCons (eVar 4) aNil))) (sSeq (sSet 7 (eFn f__law_good [] (aCons (eVar 0) (aCons (eVar 5) (aCons (eVar 4) aNil))))) (sSeq (sIf (tNotF (tTru (eFn f__law_right [] (aCons (eVar 6) (aCons (eVar 5) (aCons (eVar 4) (aCons (eVar 7) aNil)))))))
    (sRet (eC (.bl false)))
    sNx) (sSeq (sFor (wRange1 (aCons (eFn f__law_take [] (aCons (eVar 1) (aCons (eC (.int 3)) aNil))) aNil)) (gN 8)
    (sIf (tOf (eBin fGt (eCall fLen (aCons (eVar 7) aNil)) (eC (.int 0))))
    (sSet 7 (eFn f__law_bent [] (aCons (eVar 1) (aCons (eVar 7) (aCons (eFn f__law_take [] (aCons (eVar 1) (aCons (eCall fLen (aCons (eVar 7) aNil)) aNil))) aNil)))))
    sNx)) (sSeq (sIf (tNotF (tTru (eFn f__law_right [] (aCons (eVar 6) (aCons (eVar 5) (aCons (eVar 4) (aCons (eVar 7) aNil)))))))
    (sRet (eC (.bl false)))
    sNx) (sSeq (sSet 9 (eFn f__law_due [] (aCons (eVar 5) (aCons (eVar 4) (aCons (eVar 7) aNil))))) (sSeq (sIf (tOf (eBin fIs (eVar 9) (eC .non)))
    (sSeq (sSet 9 (eCall fLen (aCons (eVar 7) aNil))) (sSeq (sSet 10 (eBin (fAdd false) (eCall fSum (aCons (eLcA false (vAny (eSl false (eVar 7) (oSome (eNeg (eC (.int 1)))) oNone)) (gN 11) tYesF (eBin fIx (eVar 11) (eC (.int 0))) [11]) aNil)) (eC (.int 240)))) (sSeq (sSet 7 (eBin (fAdd false) (eVar 7) (eLst false (aCons (eTup (aCons (eVar 10) (aCons (eBin (fAdd false) (eBin (fAdd false) (eCall fMax (aCons (eLcA false (vAny (eVar 5)) (gN 12) tYesF (eFn f__law_high [] (aCons (eVar 12) aNil)) [12]) aNil)) (eC (.int 1))) (eFn f__law_take [] (aCons (eVar 1) (aCons (eC (.int 3)) aNil)))) aNil))) aNil)))) (sIf (tNotF (tTru (eFn f__law_right [] (aCons (eVar 6) (aCons (eVar 5) (aCons (eVar 4) (aCons (eVar 7) aNil)))))))
    (sRet (eC (.bl false)))
    sNx))))
    sNx) (sRet (eFn f__law_around [] (aCons (eVar 1) (aCons (eVar 6) (aCons (eVar 5) (aCons (eVar 4) (aCons (eVar 7) (aCons (eVar 9) aNil)))))))))))))))))))))
noncomputable def f_law : Fn := bodyF 13 1 b_f_law
end M
/-! Each def does what its function does: printed. -/
namespace M
open PySem PySem.Spec PyProof.Rows L2 F

def top (i : Nat) : Stmt := PySem.Challenge.pw_busyspan_k53_broken_logs.main.body.getD i (.Pass ⟨0, 0, 0, 0⟩)
abbrev s_f__is_letter : Stmt := (top 8)
abbrev s_f__is_letters : Stmt := (top 9)
abbrev s_f_is_hold : Stmt := (top 11)
abbrev s_f__check_frame : Stmt := (top 27)
abbrev s_f__check_frames : Stmt := (top 28)
abbrev s_f__copied : Stmt := (top 26)
abbrev s_f_is_name : Stmt := (top 10)
abbrev s_f_Task___init__ : Stmt := (inClass (top 31) 0)
abbrev s_f__law_high : Stmt := (top 46)
abbrev s_f__law_low : Stmt := (top 45)
abbrev s_f__law_kept : Stmt := (top 49)
abbrev s_f__law_due : Stmt := (top 50)
abbrev s_f__law_number : Stmt := (top 41)
abbrev s_f_least_sum : Stmt := (top 17)
abbrev s_f_Task_least_work : Stmt := (inClass (top 31) 8)
abbrev s_f_most_sum : Stmt := (top 16)
abbrev s_f_Task_most_work : Stmt := (inClass (top 31) 7)
abbrev s_f_length_fits : Stmt := (top 33)
abbrev s_f__earliest_arrivals : Stmt := (top 34)
abbrev s_f_break_index : Stmt := (top 36)
abbrev s_f__law_right : Stmt := (top 51)
abbrev s_f__law_take : Stmt := (top 40)
abbrev s_f_explained : Stmt := (top 35)
abbrev s_f__law_around : Stmt := (top 52)
abbrev s_f__law_cell : Stmt := (top 38)
abbrev s_f__law_bag : Stmt := (top 39)
abbrev s_f__law_bent : Stmt := (top 48)
abbrev s_f__law_good : Stmt := (top 47)
abbrev s_f__law_work : Stmt := (top 43)
abbrev s_f__law_rows : Stmt := (top 44)
abbrev s_f__law_word : Stmt := (top 42)
abbrev s_f_law : Stmt := (top 53)
structure Txt (K : PySem.W.Frag) (mg : Str → Option Value) where
  no_abs : mg "abs" = none
  no_all : mg "all" = none
  no_any : mg "any" = none
  no_bool : mg "bool" = none
  no_enumerate : mg "enumerate" = none
  no_int : mg "int" = none
  no_isinstance : mg "isinstance" = none
  no_len : mg "len" = none
  no_list : mg "list" = none
  no_max : mg "max" = none
  no_range : mg "range" = none
  no_str : mg "str" = none
  no_sum : mg "sum" = none
  no_tuple : mg "tuple" = none
  no_zip : mg "zip" = none
  gi_MOST_DUE : ∃ t, mg "MOST_DUE" = some (.int 480 t)
  gi_MOST_FRAMES : ∃ t, mg "MOST_FRAMES" = some (.int 4 t)
  gi_MOST_GAP : ∃ t, mg "MOST_GAP" = some (.int 240 t)
  gi_MOST_JITTER : ∃ t, mg "MOST_JITTER" = some (.int 240 t)
  gi_MOST_LENGTH : ∃ t, mg "MOST_LENGTH" = some (.int 240 t)
  gi_MOST_LETTERS : ∃ t, mg "MOST_LETTERS" = some (.int 8 t)
  gi_MOST_LOCKS : ∃ t, mg "MOST_LOCKS" = some (.int 4 t)
  gi_MOST_SEGMENTS : ∃ t, mg "MOST_SEGMENTS" = some (.int 4 t)
  c_Task : Addr
  mgc_Task : mg "Task" = some (.ref c_Task)
  cl_Task : Cls K c_Task
  na_Task_name : NoAttr K c_Task "name"
  na_Task_frames : NoAttr K c_Task "frames"
  na_Task_jitter : NoAttr K c_Task "jitter"
  a_f__is_letter : Addr
  d_f__is_letter : FuncData
  F_f__is_letter : Fun K "_is_letter" "_is_letter" s_f__is_letter a_f__is_letter d_f__is_letter
  b_f__is_letter : Binds K d_f__is_letter ["sign"] []
  g_f__is_letter : mg "_is_letter" = some (.ref a_f__is_letter)
  a_f__is_letters : Addr
  d_f__is_letters : FuncData
  F_f__is_letters : Fun K "_is_letters" "_is_letters" s_f__is_letters a_f__is_letters d_f__is_letters
  b_f__is_letters : Binds K d_f__is_letters ["word"] []
  g_f__is_letters : mg "_is_letters" = some (.ref a_f__is_letters)
  a_f_is_hold : Addr
  d_f_is_hold : FuncData
  F_f_is_hold : Fun K "is_hold" "is_hold" s_f_is_hold a_f_is_hold d_f_is_hold
  b_f_is_hold : Binds K d_f_is_hold ["hold"] []
  g_f_is_hold : mg "is_hold" = some (.ref a_f_is_hold)
  a_f__check_frame : Addr
  d_f__check_frame : FuncData
  F_f__check_frame : Fun K "_check_frame" "_check_frame" s_f__check_frame a_f__check_frame d_f__check_frame
  b_f__check_frame : Binds K d_f__check_frame ["gap", "due", "work"] []
  g_f__check_frame : mg "_check_frame" = some (.ref a_f__check_frame)
  a_f__check_frames : Addr
  d_f__check_frames : FuncData
  F_f__check_frames : Fun K "_check_frames" "_check_frames" s_f__check_frames a_f__check_frames d_f__check_frames
  b_f__check_frames : Binds K d_f__check_frames ["frames", "jitter"] []
  g_f__check_frames : mg "_check_frames" = some (.ref a_f__check_frames)
  a_f__copied : Addr
  d_f__copied : FuncData
  F_f__copied : Fun K "_copied" "_copied" s_f__copied a_f__copied d_f__copied
  b_f__copied : Binds K d_f__copied ["frames"] []
  g_f__copied : mg "_copied" = some (.ref a_f__copied)
  a_f_is_name : Addr
  d_f_is_name : FuncData
  F_f_is_name : Fun K "is_name" "is_name" s_f_is_name a_f_is_name d_f_is_name
  b_f_is_name : Binds K d_f_is_name ["word"] []
  g_f_is_name : mg "is_name" = some (.ref a_f_is_name)
  a_f_Task___init__ : Addr
  d_f_Task___init__ : FuncData
  F_f_Task___init__ : Fun K "__init__" "Task.__init__" s_f_Task___init__ a_f_Task___init__ d_f_Task___init__
  kb_f_Task___init___0 : KBp K d_f_Task___init__ ["self", "name", "frames", "jitter"] 3 ["jitter"] [0, 1, 2, 3] []
  a_f__law_high : Addr
  d_f__law_high : FuncData
  F_f__law_high : Fun K "_law_high" "_law_high" s_f__law_high a_f__law_high d_f__law_high
  b_f__law_high : Binds K d_f__law_high ["row"] []
  g_f__law_high : mg "_law_high" = some (.ref a_f__law_high)
  a_f__law_low : Addr
  d_f__law_low : FuncData
  F_f__law_low : Fun K "_law_low" "_law_low" s_f__law_low a_f__law_low d_f__law_low
  b_f__law_low : Binds K d_f__law_low ["row"] []
  g_f__law_low : mg "_law_low" = some (.ref a_f__law_low)
  a_f__law_kept : Addr
  d_f__law_kept : FuncData
  F_f__law_kept : Fun K "_law_kept" "_law_kept" s_f__law_kept a_f__law_kept d_f__law_kept
  b_f__law_kept : Binds K d_f__law_kept ["rows", "early", "first", "log"] []
  g_f__law_kept : mg "_law_kept" = some (.ref a_f__law_kept)
  a_f__law_due : Addr
  d_f__law_due : FuncData
  F_f__law_due : Fun K "_law_due" "_law_due" s_f__law_due a_f__law_due d_f__law_due
  b_f__law_due : Binds K d_f__law_due ["rows", "early", "log"] []
  g_f__law_due : mg "_law_due" = some (.ref a_f__law_due)
  a_f__law_number : Addr
  d_f__law_number : FuncData
  F_f__law_number : Fun K "_law_number" "_law_number" s_f__law_number a_f__law_number d_f__law_number
  b_f__law_number : Binds K d_f__law_number ["thing"] []
  g_f__law_number : mg "_law_number" = some (.ref a_f__law_number)
  a_f_least_sum : Addr
  d_f_least_sum : FuncData
  F_f_least_sum : Fun K "least_sum" "least_sum" s_f_least_sum a_f_least_sum d_f_least_sum
  b_f_least_sum : Binds K d_f_least_sum ["work"] []
  g_f_least_sum : mg "least_sum" = some (.ref a_f_least_sum)
  a_f_Task_least_work : Addr
  d_f_Task_least_work : FuncData
  F_f_Task_least_work : Fun K "least_work" "Task.least_work" s_f_Task_least_work a_f_Task_least_work d_f_Task_least_work
  b_f_Task_least_work : Binds K d_f_Task_least_work ["self", "frame"] []
  a_f_most_sum : Addr
  d_f_most_sum : FuncData
  F_f_most_sum : Fun K "most_sum" "most_sum" s_f_most_sum a_f_most_sum d_f_most_sum
  b_f_most_sum : Binds K d_f_most_sum ["work"] []
  g_f_most_sum : mg "most_sum" = some (.ref a_f_most_sum)
  a_f_Task_most_work : Addr
  d_f_Task_most_work : FuncData
  F_f_Task_most_work : Fun K "most_work" "Task.most_work" s_f_Task_most_work a_f_Task_most_work d_f_Task_most_work
  b_f_Task_most_work : Binds K d_f_Task_most_work ["self", "frame"] []
  a_f_length_fits : Addr
  d_f_length_fits : FuncData
  F_f_length_fits : Fun K "length_fits" "length_fits" s_f_length_fits a_f_length_fits d_f_length_fits
  b_f_length_fits : Binds K d_f_length_fits ["task", "frame", "length"] []
  g_f_length_fits : mg "length_fits" = some (.ref a_f_length_fits)
  a_f__earliest_arrivals : Addr
  d_f__earliest_arrivals : FuncData
  F_f__earliest_arrivals : Fun K "_earliest_arrivals" "_earliest_arrivals" s_f__earliest_arrivals a_f__earliest_arrivals d_f__earliest_arrivals
  b_f__earliest_arrivals : Binds K d_f__earliest_arrivals ["task", "log", "start_frame"] []
  g_f__earliest_arrivals : mg "_earliest_arrivals" = some (.ref a_f__earliest_arrivals)
  a_f_break_index : Addr
  d_f_break_index : FuncData
  F_f_break_index : Fun K "break_index" "break_index" s_f_break_index a_f_break_index d_f_break_index
  b_f_break_index : Binds K d_f_break_index ["task", "log"] []
  g_f_break_index : mg "break_index" = some (.ref a_f_break_index)
  a_f__law_right : Addr
  d_f__law_right : FuncData
  F_f__law_right : Fun K "_law_right" "_law_right" s_f__law_right a_f__law_right d_f__law_right
  b_f__law_right : Binds K d_f__law_right ["task", "rows", "early", "log"] []
  g_f__law_right : mg "_law_right" = some (.ref a_f__law_right)
  a_f__law_take : Addr
  d_f__law_take : FuncData
  F_f__law_take : Fun K "_law_take" "_law_take" s_f__law_take a_f__law_take d_f__law_take
  b_f__law_take : Binds K d_f__law_take ["bag", "many"] []
  g_f__law_take : mg "_law_take" = some (.ref a_f__law_take)
  a_f_explained : Addr
  d_f_explained : FuncData
  F_f_explained : Fun K "explained" "explained" s_f_explained a_f_explained d_f_explained
  b_f_explained : Binds K d_f_explained ["task", "log"] []
  g_f_explained : mg "explained" = some (.ref a_f_explained)
  a_f__law_around : Addr
  d_f__law_around : FuncData
  F_f__law_around : Fun K "_law_around" "_law_around" s_f__law_around a_f__law_around d_f__law_around
  b_f__law_around : Binds K d_f__law_around ["bag", "task", "rows", "early", "log", "at"] []
  g_f__law_around : mg "_law_around" = some (.ref a_f__law_around)
  a_f__law_cell : Addr
  d_f__law_cell : FuncData
  F_f__law_cell : Fun K "_law_cell" "_law_cell" s_f__law_cell a_f__law_cell d_f__law_cell
  b_f__law_cell : Binds K d_f__law_cell ["script", "spot"] []
  g_f__law_cell : mg "_law_cell" = some (.ref a_f__law_cell)
  a_f__law_bag : Addr
  d_f__law_bag : FuncData
  F_f__law_bag : Fun K "_law_bag" "_law_bag" s_f__law_bag a_f__law_bag d_f__law_bag
  b_f__law_bag : Binds K d_f__law_bag ["script", "spot"] []
  g_f__law_bag : mg "_law_bag" = some (.ref a_f__law_bag)
  a_f__law_bent : Addr
  d_f__law_bent : FuncData
  F_f__law_bent : Fun K "_law_bent" "_law_bent" s_f__law_bent a_f__law_bent d_f__law_bent
  b_f__law_bent : Binds K d_f__law_bent ["bag", "log", "at"] []
  g_f__law_bent : mg "_law_bent" = some (.ref a_f__law_bent)
  a_f__law_good : Addr
  d_f__law_good : FuncData
  F_f__law_good : Fun K "_law_good" "_law_good" s_f__law_good a_f__law_good d_f__law_good
  b_f__law_good : Binds K d_f__law_good ["script", "rows", "early"] []
  g_f__law_good : mg "_law_good" = some (.ref a_f__law_good)
  a_f__law_work : Addr
  d_f__law_work : FuncData
  F_f__law_work : Fun K "_law_work" "_law_work" s_f__law_work a_f__law_work d_f__law_work
  b_f__law_work : Binds K d_f__law_work ["bag", "large"] []
  g_f__law_work : mg "_law_work" = some (.ref a_f__law_work)
  a_f__law_rows : Addr
  d_f__law_rows : FuncData
  F_f__law_rows : Fun K "_law_rows" "_law_rows" s_f__law_rows a_f__law_rows d_f__law_rows
  b_f__law_rows : Binds K d_f__law_rows ["script", "size", "end", "large"] []
  g_f__law_rows : mg "_law_rows" = some (.ref a_f__law_rows)
  a_f__law_word : Addr
  d_f__law_word : FuncData
  F_f__law_word : Fun K "_law_word" "_law_word" s_f__law_word a_f__law_word d_f__law_word
  b_f__law_word : Binds K d_f__law_word ["bag"] []
  g_f__law_word : mg "_law_word" = some (.ref a_f__law_word)
  a_f_law : Addr
  d_f_law : FuncData
  F_f_law : Fun K "law" "law" s_f_law a_f_law d_f_law
  b_f_law : Binds K d_f_law ["script"] []
  g_f_law : mg "law" = some (.ref a_f_law)
  m_Task_least_work : Meth K c_Task "least_work" a_f_Task_least_work
  m_Task_most_work : Meth K c_Task "most_work" a_f_Task_most_work
  mk_Task : Mk K c_Task a_f_Task___init__
section
variable {P : Program} {w : World} {K : PySem.W.Frag} {mg : Str → Option Value} {base : Heap}
def Txt.G (T : Txt K mg) : CT := ⟨K, fun c => if c = 3 then T.c_Task else 0, fun c => if c = 3 then ["name", "frames", "jitter"] else []⟩
theorem hy_frames (T : Txt K mg) : ∀ c k, ix_frames c = some k → FldF T.G c "frames" k ∧ (T.G.fld c).length ≤ 900 := by
  intro c k h
  unfold ix_frames at h
  split at h
  · rename_i e
    subst e
    cases h
    exact ⟨⟨T.cl_Task, T.na_Task_frames, rfl, by show List.Nodup (["name", "frames", "jitter"] : List Str); decide +kernel⟩, by show List.length (["name", "frames", "jitter"] : List Str) ≤ 900; decide⟩
  cases h
theorem hx_frames (T : Txt K mg) : ∀ c k, ix_frames c = some k → FldF T.G c "frames" k := fun c k h => (hy_frames T c k h).1
theorem hy_jitter (T : Txt K mg) : ∀ c k, ix_jitter c = some k → FldF T.G c "jitter" k ∧ (T.G.fld c).length ≤ 900 := by
  intro c k h
  unfold ix_jitter at h
  split at h
  · rename_i e
    subst e
    cases h
    exact ⟨⟨T.cl_Task, T.na_Task_jitter, rfl, by show List.Nodup (["name", "frames", "jitter"] : List Str); decide +kernel⟩, by show List.length (["name", "frames", "jitter"] : List Str) ≤ 900; decide⟩
  cases h
theorem hx_jitter (T : Txt K mg) : ∀ c k, ix_jitter c = some k → FldF T.G c "jitter" k := fun c k h => (hy_jitter T c k h).1
theorem hy_name (T : Txt K mg) : ∀ c k, ix_name c = some k → FldF T.G c "name" k ∧ (T.G.fld c).length ≤ 900 := by
  intro c k h
  unfold ix_name at h
  split at h
  · rename_i e
    subst e
    cases h
    exact ⟨⟨T.cl_Task, T.na_Task_name, rfl, by show List.Nodup (["name", "frames", "jitter"] : List Str); decide +kernel⟩, by show List.length (["name", "frames", "jitter"] : List Str) ≤ 900; decide⟩
  cases h
theorem hx_name (T : Txt K mg) : ∀ c k, ix_name c = some k → FldF T.G c "name" k := fun c k h => (hy_name T c k h).1
theorem isi_ok (T : Txt K mg) : CallF T.G (fIsi isiTb) (rIsi T.G.K) := cf_isi (by
  intro e he
  unfold isiTb at he
  simp only [List.mem_cons, List.not_mem_nil, or_false] at he
  rcases he with rfl | rfl | rfl | rfl | rfl
  · exact kit_ty (by decide +kernel)
  · exact kit_ty (by decide +kernel)
  · exact kit_ty (by decide +kernel)
  · exact kit_ty (by decide +kernel)
  · exact kit_ty (by decide +kernel)) (by
  intro e he c hc
  unfold isiTb at he
  simp only [List.mem_cons, List.not_mem_nil, or_false] at he
  rcases he with rfl | rfl | rfl | rfl | rfl
  · cases hc
  · cases hc
  · cases hc
  · cases hc
  · cases hc)
def bd_f__is_letter : {b : List Stmt // defBody s_f__is_letter = b} := by
  refine ⟨?b, ?h⟩
  case h => conv => lhs; whnf
def sp_f__is_letter : {b : Scope // defScope s_f__is_letter = b} := by
  refine ⟨?b, ?h⟩
  case h => conv => lhs; whnf
theorem sc_f__is_letter : FnScope ["sign"] ["sign"] sp_f__is_letter.1 := ⟨rfl, rfl, rfl, by decide +kernel, rfl, by decide +kernel, by decide +kernel⟩
theorem ok_f__is_letter (T : Txt K mg) : FnOk P w K mg base (L2.CX P w) 1 T.a_f__is_letter T.d_f__is_letter ["sign"] (spI T.G f__is_letter) := fn_okG (k := 0) (body := b_f__is_letter) rfl rfl sp_f__is_letter.2 bd_f__is_letter.2 T.F_f__is_letter sc_f__is_letter fun cdv A outer s H E hr => by
  have L := layX (P := P) (w := w) (mg := mg) (base := base) (x := "") (qual := "_is_letter") (sc := sp_f__is_letter.1) (N := ["sign"]) (f := T.a_f__is_letter) (cdv := cdv) (A := A) (outer := outer) (s := s) (H := H) (E := E) (show K = T.G.K from rfl)
  have hu := hr.units
  exact (z_one (z_ret (q_chainS op_leS op_leS (q_str [97] (by decide +kernel)) (qv 0) (q_str [122] (by decide +kernel)))))
def bd_f__is_letters : {b : List Stmt // defBody s_f__is_letters = b} := by
  refine ⟨?b, ?h⟩
  case h => conv => lhs; whnf
def sp_f__is_letters : {b : Scope // defScope s_f__is_letters = b} := by
  refine ⟨?b, ?h⟩
  case h => conv => lhs; whnf
theorem sc_f__is_letters : FnScope ["word", "sign"] ["word"] sp_f__is_letters.1 := ⟨rfl, rfl, rfl, by decide +kernel, rfl, by decide +kernel, by decide +kernel⟩
theorem ok_f__is_letters (T : Txt K mg) : FnOk P w K mg base (L2.CX P w) 2 T.a_f__is_letters T.d_f__is_letters ["word"] (spI T.G f__is_letters) := fn_okG (k := 1) (body := b_f__is_letters) rfl rfl sp_f__is_letters.2 bd_f__is_letters.2 T.F_f__is_letters sc_f__is_letters fun cdv A outer s H E hr => by
  have L := layX (P := P) (w := w) (mg := mg) (base := base) (x := "") (qual := "_is_letters") (sc := sp_f__is_letters.1) (N := ["word", "sign"]) (f := T.a_f__is_letters) (cdv := cdv) (A := A) (outer := outer) (s := s) (H := H) (E := E) (show K = T.G.K from rfl)
  have hu := hr.units
  exact (z_one (z_ret (q_and (q_ne L hu (qv 0) (q_str [] (by decide +kernel))) (q_one (k_all L rfl rfl T.no_all (a_cons (q_lcA false [("sign", 1)] rfl rfl sc_f__is_letters.nd (w_anyA L (qv 0)) (blkOk_by (by show blkC ["word", "sign"] sp_f__is_letters.1 _ [("sign", 1)] = true; decide +kernel)) (fun _ _ _ _ _ => (h_name sc_f__is_letters.nd rfl (Or.inl rfl))) (fun _ _ _ _ _ => ts_nil) (fun _ _ _ _ _ => (k_call (Lay.none rfl) (ok_f__is_letter T) (hr.mono (by decide)) rfl T.g_f__is_letter T.F_f__is_letter.kp T.b_f__is_letter (a_cons (qv 1) a_nil)))) a_nil))))))
def bd_f_is_hold : {b : List Stmt // defBody s_f_is_hold = b} := by
  refine ⟨?b, ?h⟩
  case h => conv => lhs; whnf
def sp_f_is_hold : {b : Scope // defScope s_f_is_hold = b} := by
  refine ⟨?b, ?h⟩
  case h => conv => lhs; whnf
theorem sc_f_is_hold : FnScope ["hold", "first", "second"] ["hold"] sp_f_is_hold.1 := ⟨rfl, rfl, rfl, by decide +kernel, rfl, by decide +kernel, by decide +kernel⟩
theorem ok_f_is_hold (T : Txt K mg) : FnOk P w K mg base (L2.CX P w) 3 T.a_f_is_hold T.d_f_is_hold ["hold"] (spI T.G f_is_hold) := fn_okG (k := 2) (body := b_f_is_hold) rfl rfl sp_f_is_hold.2 bd_f_is_hold.2 T.F_f_is_hold sc_f_is_hold fun cdv A outer s H E hr => by
  have L := layX (P := P) (w := w) (mg := mg) (base := base) (x := "") (qual := "is_hold") (sc := sp_f_is_hold.1) (N := ["hold", "first", "second"]) (f := T.a_f_is_hold) (cdv := cdv) (A := A) (outer := outer) (s := s) (H := H) (E := E) (show K = T.G.K from rfl)
  have hu := hr.units
  exact (z_cons (z_if (qt_not (qt_tru L (k_isi L (isi_ok T) rfl T.no_isinstance (a_cons (qv 0) (a_cons (q_ty rfl T.no_str (by decide +kernel)) a_nil)))))
    (z_one (z_ret q_bl))
    z_nil)
    (z_cons (z_if (PW.pt (w_or (qt_eq L hu (qv 0) (q_str [] (by decide +kernel))) (w_or1 (qt_eq L hu (qv 0) (q_str [42] (by decide +kernel))))))
    (z_one (z_ret q_bl))
    z_nil)
    (z_cons (z_if (PW.pt (w_or (qt_gt (k_len L rfl T.no_len (a_cons (qv 0) a_nil)) (q_gint rfl T.gi_MOST_LOCKS)) (w_or1 (qt_not (qt_tru L (k_call L (ok_f__is_letters T) (hr.mono (by decide)) rfl T.g_f__is_letters T.F_f__is_letters.kp T.b_f__is_letters (a_cons (qv 0) a_nil)))))))
    (z_one (z_ret q_bl))
    z_nil)
    (z_one (z_ret (k_all L rfl rfl T.no_all (a_cons (q_lc false [("first", 1), ("second", 2)] rfl rfl sc_f_is_hold.nd (w_zipS L rfl T.no_zip (a_cons (qv 0) (a_cons (q_sl false L (qv 0) (o_some q_int) o_none) a_nil))) (blkOk_by (by show blkC ["hold", "first", "second"] sp_f_is_hold.1 _ [("first", 1), ("second", 2)] = true; decide +kernel)) (fun _ _ _ _ _ => (h_tup rfl rfl (h_cons (h_name sc_f_is_hold.nd rfl (Or.inl rfl)) (h_cons (h_name sc_f_is_hold.nd rfl (Or.inl rfl)) h_nil)))) (fun _ _ _ _ _ => ts_nil) (fun _ _ _ _ _ => (q_ltS (qv 1) (qv 2)))) a_nil)))))))
def bd_f__check_frame : {b : List Stmt // defBody s_f__check_frame = b} := by
  refine ⟨?b, ?h⟩
  case h => conv => lhs; whnf
def sp_f__check_frame : {b : Scope // defScope s_f__check_frame = b} := by
  refine ⟨?b, ?h⟩
  case h => conv => lhs; whnf
theorem sc_f__check_frame : FnScope ["gap", "due", "work", "least", "most", "hold"] ["gap", "due", "work"] sp_f__check_frame.1 := ⟨rfl, rfl, rfl, by decide +kernel, rfl, by decide +kernel, by decide +kernel⟩
theorem ok_f__check_frame (T : Txt K mg) : FnOk P w K mg base (L2.CX P w) 4 T.a_f__check_frame T.d_f__check_frame ["gap", "due", "work"] (spI T.G f__check_frame) := fn_okG (k := 3) (body := b_f__check_frame) rfl rfl sp_f__check_frame.2 bd_f__check_frame.2 T.F_f__check_frame sc_f__check_frame fun cdv A outer s H E hr => by
  have L := layX (P := P) (w := w) (mg := mg) (base := base) (x := "") (qual := "_check_frame") (sc := sp_f__check_frame.1) (N := ["gap", "due", "work", "least", "most", "hold"]) (f := T.a_f__check_frame) (cdv := cdv) (A := A) (outer := outer) (s := s) (H := H) (E := E) (show K = T.G.K from rfl)
  have hu := hr.units
  exact (z_cons (z_if (qt_not (qt_chain op_le op_le q_int (qv 0) (q_gint rfl T.gi_MOST_GAP)))
    (z_one z_bad)
    z_nil)
    (z_cons (z_if (qt_not (qt_chain op_le op_le q_int (qv 1) (q_gint rfl T.gi_MOST_DUE)))
    (z_one z_bad)
    z_nil)
    (z_cons (z_if (qt_not (qt_chain op_le op_le q_int (k_len L rfl T.no_len (a_cons (qv 2) a_nil)) (q_gint rfl T.gi_MOST_SEGMENTS)))
    (z_one z_bad)
    z_nil)
    (z_one (z_forA (passes_of rfl) rfl (w_anyA L (qv 2)) (g_tup rfl rfl (g_cons (g_name sc_f__check_frame.nd rfl (Or.inl rfl)) (g_cons (g_name sc_f__check_frame.nd rfl (Or.inl rfl)) (g_cons (g_name sc_f__check_frame.nd rfl (Or.inl rfl)) g_nil))))
    (z_one (z_if (PW.pt (w_or (qt_not (qt_chain3 op_le op_le op_le q_int (qv 3) (qv 4) (q_gint rfl T.gi_MOST_LENGTH))) (w_or1 (qt_not (qt_tru L (k_call L (ok_f_is_hold T) (hr.mono (by decide)) rfl T.g_f_is_hold T.F_f_is_hold.kp T.b_f_is_hold (a_cons (qv 5) a_nil)))))))
    (z_one z_bad)
    z_nil)))))))
def bd_f__check_frames : {b : List Stmt // defBody s_f__check_frames = b} := by
  refine ⟨?b, ?h⟩
  case h => conv => lhs; whnf
def sp_f__check_frames : {b : Scope // defScope s_f__check_frames = b} := by
  refine ⟨?b, ?h⟩
  case h => conv => lhs; whnf
theorem sc_f__check_frames : FnScope ["frames", "jitter", "gap", "due", "work", "frame", "follower"] ["frames", "jitter"] sp_f__check_frames.1 := ⟨rfl, rfl, rfl, by decide +kernel, rfl, by decide +kernel, by decide +kernel⟩
theorem ok_f__check_frames (T : Txt K mg) : FnOk P w K mg base (L2.CX P w) 5 T.a_f__check_frames T.d_f__check_frames ["frames", "jitter"] (spI T.G f__check_frames) := fn_okG (k := 4) (body := b_f__check_frames) rfl rfl sp_f__check_frames.2 bd_f__check_frames.2 T.F_f__check_frames sc_f__check_frames fun cdv A outer s H E hr => by
  have L := layX (P := P) (w := w) (mg := mg) (base := base) (x := "") (qual := "_check_frames") (sc := sp_f__check_frames.1) (N := ["frames", "jitter", "gap", "due", "work", "frame", "follower"]) (f := T.a_f__check_frames) (cdv := cdv) (A := A) (outer := outer) (s := s) (H := H) (E := E) (show K = T.G.K from rfl)
  have hu := hr.units
  exact (z_cons (z_if (qt_not (qt_chain op_le op_le q_int (k_len L rfl T.no_len (a_cons (qv 0) a_nil)) (q_gint rfl T.gi_MOST_FRAMES)))
    (z_one z_bad)
    z_nil)
    (z_cons (z_forA (passes_of rfl) rfl (w_anyA L (qv 0)) (g_tup rfl rfl (g_cons (g_name sc_f__check_frames.nd rfl (Or.inl rfl)) (g_cons (g_name sc_f__check_frames.nd rfl (Or.inl rfl)) (g_cons (g_name sc_f__check_frames.nd rfl (Or.inl rfl)) g_nil))))
    (z_one (z_drop (k_call L (ok_f__check_frame T) (hr.mono (by decide)) rfl T.g_f__check_frame T.F_f__check_frame.kp T.b_f__check_frame (a_cons (qv 2) (a_cons (qv 3) (a_cons (qv 4) a_nil)))))))
    (z_cons (z_if (PW.pt (w_or (qt_not (qt_chain op_le op_le q_int (qv 1) (q_gint rfl T.gi_MOST_JITTER))) (w_or1 (qt_tru L (k_any L rfl rfl T.no_any (a_cons (q_lcA false [("frame", 5)] rfl rfl sc_f__check_frames.nd (w_anyA L (qv 0)) (blkOk_by (by show blkC ["frames", "jitter", "gap", "due", "work", "frame", "follower"] sp_f__check_frames.1 _ [("frame", 5)] = true; decide +kernel)) (fun _ _ _ _ _ => (h_name sc_f__check_frames.nd rfl (Or.inl rfl))) (fun _ _ _ _ _ => ts_nil) (fun _ _ _ _ _ => (q_ge (qv 1) (q_ix (Lay.none rfl) (qv 5) q_int)))) a_nil))))))
    (z_one z_bad)
    z_nil)
    (z_one (z_for (passes_of rfl) rfl (w_zip L rfl T.no_zip (a_cons (qv 0) (a_cons (q_add false L (q_sl false L (qv 0) (o_some q_int) o_none) (q_sl false L (qv 0) o_none (o_some q_int))) a_nil))) (g_tup rfl rfl (g_cons (g_name sc_f__check_frames.nd rfl (Or.inl rfl)) (g_cons (g_name sc_f__check_frames.nd rfl (Or.inl rfl)) g_nil)))
    (z_one (z_if (qt_gt (q_ix L (qv 5) q_int) (q_add false L (q_ix L (qv 5) q_int) (q_ix L (qv 6) q_int)))
    (z_one z_bad)
    z_nil)))))))
def bd_f__copied : {b : List Stmt // defBody s_f__copied = b} := by
  refine ⟨?b, ?h⟩
  case h => conv => lhs; whnf
def sp_f__copied : {b : Scope // defScope s_f__copied = b} := by
  refine ⟨?b, ?h⟩
  case h => conv => lhs; whnf
theorem sc_f__copied : FnScope ["frames", "gap", "due", "work", "least", "most", "hold"] ["frames"] sp_f__copied.1 := ⟨rfl, rfl, rfl, by decide +kernel, rfl, by decide +kernel, by decide +kernel⟩
theorem ok_f__copied (T : Txt K mg) : FnOk P w K mg base (L2.CX P w) 1 T.a_f__copied T.d_f__copied ["frames"] (spI T.G f__copied) := fn_okG (k := 0) (body := b_f__copied) rfl rfl sp_f__copied.2 bd_f__copied.2 T.F_f__copied sc_f__copied fun cdv A outer s H E hr => by
  have L := layX (P := P) (w := w) (mg := mg) (base := base) (x := "") (qual := "_copied") (sc := sp_f__copied.1) (N := ["frames", "gap", "due", "work", "least", "most", "hold"]) (f := T.a_f__copied) (cdv := cdv) (A := A) (outer := outer) (s := s) (H := H) (E := E) (show K = T.G.K from rfl)
  have hu := hr.units
  exact (z_one (z_ret (k_tuple L rfl T.no_tuple (a_cons (q_lcA false [("gap", 1), ("due", 2), ("work", 3)] rfl rfl sc_f__copied.nd (w_anyA L (qv 0)) (blkOk_by (by show blkC ["frames", "gap", "due", "work", "least", "most", "hold"] sp_f__copied.1 _ [("gap", 1), ("due", 2), ("work", 3)] = true; decide +kernel)) (fun _ _ _ _ _ => (h_tup rfl rfl (h_cons (h_name sc_f__copied.nd rfl (Or.inl rfl)) (h_cons (h_name sc_f__copied.nd rfl (Or.inl rfl)) (h_cons (h_name sc_f__copied.nd rfl (Or.inl rfl)) h_nil))))) (fun _ _ _ _ _ => ts_nil) (fun _ _ _ _ _ => (q_tup (a_cons (qv 1) (a_cons (qv 2) (a_cons (k_tuple (Lay.none rfl) rfl T.no_tuple (a_cons (q_lcA false [("least", 4), ("most", 5), ("hold", 6)] rfl rfl sc_f__copied.nd (w_anyA (Lay.none rfl) (qv 3)) (blkOk_by (by kernel_rfl)) (fun _ _ _ _ _ => (h_tup rfl rfl (h_cons (h_name sc_f__copied.nd rfl (Or.inl rfl)) (h_cons (h_name sc_f__copied.nd rfl (Or.inl rfl)) (h_cons (h_name sc_f__copied.nd rfl (Or.inl rfl)) h_nil))))) (fun _ _ _ _ _ => ts_nil) (fun _ _ _ _ _ => (q_tup (a_cons (qv 4) (a_cons (qv 5) (a_cons (qv 6) a_nil)))))) a_nil)) a_nil)))))) a_nil))))
def bd_f_is_name : {b : List Stmt // defBody s_f_is_name = b} := by
  refine ⟨?b, ?h⟩
  case h => conv => lhs; whnf
def sp_f_is_name : {b : Scope // defScope s_f_is_name = b} := by
  refine ⟨?b, ?h⟩
  case h => conv => lhs; whnf
theorem sc_f_is_name : FnScope ["word"] ["word"] sp_f_is_name.1 := ⟨rfl, rfl, rfl, by decide +kernel, rfl, by decide +kernel, by decide +kernel⟩
theorem ok_f_is_name (T : Txt K mg) : FnOk P w K mg base (L2.CX P w) 3 T.a_f_is_name T.d_f_is_name ["word"] (spI T.G f_is_name) := fn_okG (k := 2) (body := b_f_is_name) rfl rfl sp_f_is_name.2 bd_f_is_name.2 T.F_f_is_name sc_f_is_name fun cdv A outer s H E hr => by
  have L := layX (P := P) (w := w) (mg := mg) (base := base) (x := "") (qual := "is_name") (sc := sp_f_is_name.1) (N := ["word"]) (f := T.a_f_is_name) (cdv := cdv) (A := A) (outer := outer) (s := s) (H := H) (E := E) (show K = T.G.K from rfl)
  have hu := hr.units
  exact (z_one (z_ret (q_and (k_isi L (isi_ok T) rfl T.no_isinstance (a_cons (qv 0) (a_cons (q_ty rfl T.no_str (by decide +kernel)) a_nil))) (q_and (q_le (k_len L rfl T.no_len (a_cons (qv 0) a_nil)) (q_gint rfl T.gi_MOST_LETTERS)) (q_one (k_call L (ok_f__is_letters T) (hr.mono (by decide)) rfl T.g_f__is_letters T.F_f__is_letters.kp T.b_f__is_letters (a_cons (qv 0) a_nil)))))))
def bd_f_Task___init__ : {b : List Stmt // defBody s_f_Task___init__ = b} := by
  refine ⟨?b, ?h⟩
  case h => conv => lhs; whnf
def sp_f_Task___init__ : {b : Scope // defScope s_f_Task___init__ = b} := by
  refine ⟨?b, ?h⟩
  case h => conv => lhs; whnf
theorem sc_f_Task___init__ : FnScope ["self", "name", "frames", "jitter", "copied"] ["self", "name", "frames", "jitter"] sp_f_Task___init__.1 := ⟨rfl, rfl, rfl, by decide +kernel, rfl, by decide +kernel, by decide +kernel⟩
theorem ok_f_Task___init__ (T : Txt K mg) : FnOk P w K mg base (L2.CX P w) 6 T.a_f_Task___init__ T.d_f_Task___init__ ["self", "name", "frames", "jitter"] (spI T.G f_Task___init__) := fn_okG (k := 5) (body := b_f_Task___init__) rfl rfl sp_f_Task___init__.2 bd_f_Task___init__.2 T.F_f_Task___init__ sc_f_Task___init__ fun cdv A outer s H E hr => by
  have L := layX (P := P) (w := w) (mg := mg) (base := base) (x := "") (qual := "Task.__init__") (sc := sp_f_Task___init__.1) (N := ["self", "name", "frames", "jitter", "copied"]) (f := T.a_f_Task___init__) (cdv := cdv) (A := A) (outer := outer) (s := s) (H := H) (E := E) (show K = T.G.K from rfl)
  have hu := hr.units
  exact (z_cons (z_if (qt_not (qt_tru L (k_call L (ok_f_is_name T) (hr.mono (by decide)) rfl T.g_f_is_name T.F_f_is_name.kp T.b_f_is_name (a_cons (qv 1) a_nil))))
    (z_one z_bad)
    z_nil)
    (z_cons (z_set sc_f_Task___init__.nd rfl (Or.inl rfl) (k_call L (ok_f__copied T) (hr.mono (by decide)) rfl T.g_f__copied T.F_f__copied.kp T.b_f__copied (a_cons (qv 2) a_nil)))
    (z_cons (z_drop (k_call L (ok_f__check_frames T) (hr.mono (by decide)) rfl T.g_f__check_frames T.F_f__check_frames.kp T.b_f__check_frames (a_cons (qv 4) (a_cons (qv 3) a_nil))))
    (z_cons (z_fld L (qv 0) (qv 1) (hy_name T))
    (z_cons (z_fld L (qv 0) (qv 4) (hy_frames T))
    (z_one (z_fld L (qv 0) (qv 3) (hy_jitter T))))))))
def bd_f__law_high : {b : List Stmt // defBody s_f__law_high = b} := by
  refine ⟨?b, ?h⟩
  case h => conv => lhs; whnf
def sp_f__law_high : {b : Scope // defScope s_f__law_high = b} := by
  refine ⟨?b, ?h⟩
  case h => conv => lhs; whnf
theorem sc_f__law_high : FnScope ["row", "part"] ["row"] sp_f__law_high.1 := ⟨rfl, rfl, rfl, by decide +kernel, rfl, by decide +kernel, by decide +kernel⟩
theorem ok_f__law_high (T : Txt K mg) : FnOk P w K mg base (L2.CX P w) 1 T.a_f__law_high T.d_f__law_high ["row"] (spI T.G f__law_high) := fn_okG (k := 0) (body := b_f__law_high) rfl rfl sp_f__law_high.2 bd_f__law_high.2 T.F_f__law_high sc_f__law_high fun cdv A outer s H E hr => by
  have L := layX (P := P) (w := w) (mg := mg) (base := base) (x := "") (qual := "_law_high") (sc := sp_f__law_high.1) (N := ["row", "part"]) (f := T.a_f__law_high) (cdv := cdv) (A := A) (outer := outer) (s := s) (H := H) (E := E) (show K = T.G.K from rfl)
  have hu := hr.units
  exact (z_one (z_ret (k_sum L rfl rfl T.no_sum (a_cons (q_lcA false [("part", 1)] rfl rfl sc_f__law_high.nd (w_anyA L (q_ix L (qv 0) q_int)) (blkOk_by (by show blkC ["row", "part"] sp_f__law_high.1 _ [("part", 1)] = true; decide +kernel)) (fun _ _ _ _ _ => (h_name sc_f__law_high.nd rfl (Or.inl rfl))) (fun _ _ _ _ _ => ts_nil) (fun _ _ _ _ _ => (q_ix (Lay.none rfl) (qv 1) q_int))) a_nil))))
def bd_f__law_low : {b : List Stmt // defBody s_f__law_low = b} := by
  refine ⟨?b, ?h⟩
  case h => conv => lhs; whnf
def sp_f__law_low : {b : Scope // defScope s_f__law_low = b} := by
  refine ⟨?b, ?h⟩
  case h => conv => lhs; whnf
theorem sc_f__law_low : FnScope ["row", "part"] ["row"] sp_f__law_low.1 := ⟨rfl, rfl, rfl, by decide +kernel, rfl, by decide +kernel, by decide +kernel⟩
theorem ok_f__law_low (T : Txt K mg) : FnOk P w K mg base (L2.CX P w) 1 T.a_f__law_low T.d_f__law_low ["row"] (spI T.G f__law_low) := fn_okG (k := 0) (body := b_f__law_low) rfl rfl sp_f__law_low.2 bd_f__law_low.2 T.F_f__law_low sc_f__law_low fun cdv A outer s H E hr => by
  have L := layX (P := P) (w := w) (mg := mg) (base := base) (x := "") (qual := "_law_low") (sc := sp_f__law_low.1) (N := ["row", "part"]) (f := T.a_f__law_low) (cdv := cdv) (A := A) (outer := outer) (s := s) (H := H) (E := E) (show K = T.G.K from rfl)
  have hu := hr.units
  exact (z_one (z_ret (k_sum L rfl rfl T.no_sum (a_cons (q_lcA false [("part", 1)] rfl rfl sc_f__law_low.nd (w_anyA L (q_ix L (qv 0) q_int)) (blkOk_by (by show blkC ["row", "part"] sp_f__law_low.1 _ [("part", 1)] = true; decide +kernel)) (fun _ _ _ _ _ => (h_name sc_f__law_low.nd rfl (Or.inl rfl))) (fun _ _ _ _ _ => ts_nil) (fun _ _ _ _ _ => (q_ix (Lay.none rfl) (qv 1) q_int))) a_nil))))
def bd_f__law_kept : {b : List Stmt // defBody s_f__law_kept = b} := by
  refine ⟨?b, ?h⟩
  case h => conv => lhs; whnf
def sp_f__law_kept : {b : Scope // defScope s_f__law_kept = b} := by
  refine ⟨?b, ?h⟩
  case h => conv => lhs; whnf
theorem sc_f__law_kept : FnScope ["rows", "early", "first", "log", "arrival", "k", "here", "soonest"] ["rows", "early", "first", "log"] sp_f__law_kept.1 := ⟨rfl, rfl, rfl, by decide +kernel, rfl, by decide +kernel, by decide +kernel⟩
theorem ok_f__law_kept (T : Txt K mg) : FnOk P w K mg base (L2.CX P w) 2 T.a_f__law_kept T.d_f__law_kept ["rows", "early", "first", "log"] (spI T.G f__law_kept) := fn_okG (k := 1) (body := b_f__law_kept) rfl rfl sp_f__law_kept.2 bd_f__law_kept.2 T.F_f__law_kept sc_f__law_kept fun cdv A outer s H E hr => by
  have L := layX (P := P) (w := w) (mg := mg) (base := base) (x := "") (qual := "_law_kept") (sc := sp_f__law_kept.1) (N := ["rows", "early", "first", "log", "arrival", "k", "here", "soonest"]) (f := T.a_f__law_kept) (cdv := cdv) (A := A) (outer := outer) (s := s) (H := H) (E := E) (show K = T.G.K from rfl)
  have hu := hr.units
  exact (z_cons (z_set sc_f__law_kept.nd rfl (Or.inl rfl) q_int)
    (z_cons (z_for (passes_of rfl) rfl (w_range1 rfl T.no_range (a_cons (k_len L rfl T.no_len (a_cons (qv 3) a_nil)) a_nil)) (g_name sc_f__law_kept.nd rfl (Or.inl rfl))
    (z_cons (z_set sc_f__law_kept.nd rfl (Or.inl rfl) (q_ix L (qv 0) (q_mod (k_int rfl T.no_int (a_cons (q_add false L (qv 2) (qv 5)) a_nil)) (k_len L rfl T.no_len (a_cons (qv 0) a_nil)))))
    (z_cons (z_set sc_f__law_kept.nd rfl (Or.inl rfl) (q_sub (q_ix L (q_ix L (qv 3) (qv 5)) q_int) (qv 1)))
    (z_cons (z_if (qt_gt (qv 5) q_int)
    (z_cons (z_set sc_f__law_kept.nd rfl (Or.inl rfl) (k_max2 L rfl rfl T.no_max (a_cons (qv 7) (a_cons (q_add false L (qv 4) (q_ix L (q_ix L (qv 0) (q_mod (k_int rfl T.no_int (a_cons (q_sub (q_add false L (qv 2) (qv 5)) q_int) a_nil)) (k_len L rfl T.no_len (a_cons (qv 0) a_nil)))) q_int)) a_nil))))
    (z_one (z_if (qt_lt (q_ix L (q_ix L (qv 3) (qv 5)) q_int) (q_ix L (q_ix L (qv 3) (q_sub (qv 5) q_int)) q_int))
    (z_one (z_ret (q_tup (a_cons (qv 5) (a_cons (qv 4) a_nil)))))
    z_nil)))
    z_nil)
    (z_cons (z_if (PW.pt (w_or (qt_gt (qv 7) (q_ix L (q_ix L (qv 3) (qv 5)) q_int)) (w_or (qt_lt (q_ix L (q_ix L (qv 3) (qv 5)) q_int) (k_call L (ok_f__law_low T) (hr.mono (by decide)) rfl T.g_f__law_low T.F_f__law_low.kp T.b_f__law_low (a_cons (qv 6) a_nil))) (w_or1 (qt_gt (q_ix L (q_ix L (qv 3) (qv 5)) q_int) (k_call L (ok_f__law_high T) (hr.mono (by decide)) rfl T.g_f__law_high T.F_f__law_high.kp T.b_f__law_high (a_cons (qv 6) a_nil)))))))
    (z_one (z_ret (q_tup (a_cons (qv 5) (a_cons (qv 4) a_nil)))))
    z_nil)
    (z_one (z_set sc_f__law_kept.nd rfl (Or.inl rfl) (qv 7))))))))
    (z_one (z_ret (q_tup (a_cons (k_len L rfl T.no_len (a_cons (qv 3) a_nil)) (a_cons (qv 4) a_nil)))))))
def bd_f__law_due : {b : List Stmt // defBody s_f__law_due = b} := by
  refine ⟨?b, ?h⟩
  case h => conv => lhs; whnf
def sp_f__law_due : {b : Scope // defScope s_f__law_due = b} := by
  refine ⟨?b, ?h⟩
  case h => conv => lhs; whnf
theorem sc_f__law_due : FnScope ["rows", "early", "log", "best", "first"] ["rows", "early", "log"] sp_f__law_due.1 := ⟨rfl, rfl, rfl, by decide +kernel, rfl, by decide +kernel, by decide +kernel⟩
theorem ok_f__law_due (T : Txt K mg) : FnOk P w K mg base (L2.CX P w) 3 T.a_f__law_due T.d_f__law_due ["rows", "early", "log"] (spI T.G f__law_due) := fn_okG (k := 2) (body := b_f__law_due) rfl rfl sp_f__law_due.2 bd_f__law_due.2 T.F_f__law_due sc_f__law_due fun cdv A outer s H E hr => by
  have L := layX (P := P) (w := w) (mg := mg) (base := base) (x := "") (qual := "_law_due") (sc := sp_f__law_due.1) (N := ["rows", "early", "log", "best", "first"]) (f := T.a_f__law_due) (cdv := cdv) (A := A) (outer := outer) (s := s) (H := H) (E := E) (show K = T.G.K from rfl)
  have hu := hr.units
  exact (z_cons (z_set sc_f__law_due.nd rfl (Or.inl rfl) (k_max1 L rfl rfl T.no_max (a_cons (q_lc false [("first", 4)] rfl rfl sc_f__law_due.nd (w_range1 rfl T.no_range (a_cons (k_len L rfl T.no_len (a_cons (qv 0) a_nil)) a_nil)) (blkOk_by (by show blkC ["rows", "early", "log", "best", "first"] sp_f__law_due.1 _ [("first", 4)] = true; decide +kernel)) (fun _ _ _ _ _ => (h_name sc_f__law_due.nd rfl (Or.inl rfl))) (fun _ _ _ _ _ => ts_nil) (fun _ _ _ _ _ => (q_ix (Lay.none rfl) (k_call (Lay.none rfl) (ok_f__law_kept T) (hr.mono (by decide)) rfl T.g_f__law_kept T.F_f__law_kept.kp T.b_f__law_kept (a_cons (qv 0) (a_cons (qv 1) (a_cons (qv 4) (a_cons (qv 2) a_nil))))) q_int))) a_nil)))
    (z_cons (z_if (qt_eq L hu (qv 3) (k_len L rfl T.no_len (a_cons (qv 2) a_nil)))
    (z_one (z_ret q_non))
    z_nil)
    (z_one (z_ret (qv 3)))))
def bd_f__law_number : {b : List Stmt // defBody s_f__law_number = b} := by
  refine ⟨?b, ?h⟩
  case h => conv => lhs; whnf
def sp_f__law_number : {b : Scope // defScope s_f__law_number = b} := by
  refine ⟨?b, ?h⟩
  case h => conv => lhs; whnf
theorem sc_f__law_number : FnScope ["thing"] ["thing"] sp_f__law_number.1 := ⟨rfl, rfl, rfl, by decide +kernel, rfl, by decide +kernel, by decide +kernel⟩
theorem ok_f__law_number (T : Txt K mg) : FnOk P w K mg base (L2.CX P w) 1 T.a_f__law_number T.d_f__law_number ["thing"] (spI T.G f__law_number) := fn_okG (k := 0) (body := b_f__law_number) rfl rfl sp_f__law_number.2 bd_f__law_number.2 T.F_f__law_number sc_f__law_number fun cdv A outer s H E hr => by
  have L := layX (P := P) (w := w) (mg := mg) (base := base) (x := "") (qual := "_law_number") (sc := sp_f__law_number.1) (N := ["thing"]) (f := T.a_f__law_number) (cdv := cdv) (A := A) (outer := outer) (s := s) (H := H) (E := E) (show K = T.G.K from rfl)
  have hu := hr.units
  exact (z_one (z_ret (q_and (k_isi L (isi_ok T) rfl T.no_isinstance (a_cons (qv 0) (a_cons (q_ty rfl T.no_int (by decide +kernel)) a_nil))) (q_one (q_not (k_isi L (isi_ok T) rfl T.no_isinstance (a_cons (qv 0) (a_cons (q_ty rfl T.no_bool (by decide +kernel)) a_nil))))))))
def bd_f_least_sum : {b : List Stmt // defBody s_f_least_sum = b} := by
  refine ⟨?b, ?h⟩
  case h => conv => lhs; whnf
def sp_f_least_sum : {b : Scope // defScope s_f_least_sum = b} := by
  refine ⟨?b, ?h⟩
  case h => conv => lhs; whnf
theorem sc_f_least_sum : FnScope ["work", "segment"] ["work"] sp_f_least_sum.1 := ⟨rfl, rfl, rfl, by decide +kernel, rfl, by decide +kernel, by decide +kernel⟩
theorem ok_f_least_sum (T : Txt K mg) : FnOk P w K mg base (L2.CX P w) 1 T.a_f_least_sum T.d_f_least_sum ["work"] (spI T.G f_least_sum) := fn_okG (k := 0) (body := b_f_least_sum) rfl rfl sp_f_least_sum.2 bd_f_least_sum.2 T.F_f_least_sum sc_f_least_sum fun cdv A outer s H E hr => by
  have L := layX (P := P) (w := w) (mg := mg) (base := base) (x := "") (qual := "least_sum") (sc := sp_f_least_sum.1) (N := ["work", "segment"]) (f := T.a_f_least_sum) (cdv := cdv) (A := A) (outer := outer) (s := s) (H := H) (E := E) (show K = T.G.K from rfl)
  have hu := hr.units
  exact (z_one (z_ret (k_sum L rfl rfl T.no_sum (a_cons (q_lcA false [("segment", 1)] rfl rfl sc_f_least_sum.nd (w_anyA L (qv 0)) (blkOk_by (by show blkC ["work", "segment"] sp_f_least_sum.1 _ [("segment", 1)] = true; decide +kernel)) (fun _ _ _ _ _ => (h_name sc_f_least_sum.nd rfl (Or.inl rfl))) (fun _ _ _ _ _ => ts_nil) (fun _ _ _ _ _ => (q_ix (Lay.none rfl) (qv 1) q_int))) a_nil))))
def bd_f_Task_least_work : {b : List Stmt // defBody s_f_Task_least_work = b} := by
  refine ⟨?b, ?h⟩
  case h => conv => lhs; whnf
def sp_f_Task_least_work : {b : Scope // defScope s_f_Task_least_work = b} := by
  refine ⟨?b, ?h⟩
  case h => conv => lhs; whnf
theorem sc_f_Task_least_work : FnScope ["self", "frame"] ["self", "frame"] sp_f_Task_least_work.1 := ⟨rfl, rfl, rfl, by decide +kernel, rfl, by decide +kernel, by decide +kernel⟩
theorem ok_f_Task_least_work (T : Txt K mg) : FnOk P w K mg base (L2.CX P w) 2 T.a_f_Task_least_work T.d_f_Task_least_work ["self", "frame"] (spI T.G f_Task_least_work) := fn_okG (k := 1) (body := b_f_Task_least_work) rfl rfl sp_f_Task_least_work.2 bd_f_Task_least_work.2 T.F_f_Task_least_work sc_f_Task_least_work fun cdv A outer s H E hr => by
  have L := layX (P := P) (w := w) (mg := mg) (base := base) (x := "") (qual := "Task.least_work") (sc := sp_f_Task_least_work.1) (N := ["self", "frame"]) (f := T.a_f_Task_least_work) (cdv := cdv) (A := A) (outer := outer) (s := s) (H := H) (E := E) (show K = T.G.K from rfl)
  have hu := hr.units
  exact (z_one (z_ret (k_call L (ok_f_least_sum T) (hr.mono (by decide)) rfl T.g_f_least_sum T.F_f_least_sum.kp T.b_f_least_sum (a_cons (q_ix L (q_ix L (q_fld L (qv 0) (hx_frames T)) (qv 1)) q_int) a_nil))))
def bd_f_most_sum : {b : List Stmt // defBody s_f_most_sum = b} := by
  refine ⟨?b, ?h⟩
  case h => conv => lhs; whnf
def sp_f_most_sum : {b : Scope // defScope s_f_most_sum = b} := by
  refine ⟨?b, ?h⟩
  case h => conv => lhs; whnf
theorem sc_f_most_sum : FnScope ["work", "segment"] ["work"] sp_f_most_sum.1 := ⟨rfl, rfl, rfl, by decide +kernel, rfl, by decide +kernel, by decide +kernel⟩
theorem ok_f_most_sum (T : Txt K mg) : FnOk P w K mg base (L2.CX P w) 1 T.a_f_most_sum T.d_f_most_sum ["work"] (spI T.G f_most_sum) := fn_okG (k := 0) (body := b_f_most_sum) rfl rfl sp_f_most_sum.2 bd_f_most_sum.2 T.F_f_most_sum sc_f_most_sum fun cdv A outer s H E hr => by
  have L := layX (P := P) (w := w) (mg := mg) (base := base) (x := "") (qual := "most_sum") (sc := sp_f_most_sum.1) (N := ["work", "segment"]) (f := T.a_f_most_sum) (cdv := cdv) (A := A) (outer := outer) (s := s) (H := H) (E := E) (show K = T.G.K from rfl)
  have hu := hr.units
  exact (z_one (z_ret (k_sum L rfl rfl T.no_sum (a_cons (q_lcA false [("segment", 1)] rfl rfl sc_f_most_sum.nd (w_anyA L (qv 0)) (blkOk_by (by show blkC ["work", "segment"] sp_f_most_sum.1 _ [("segment", 1)] = true; decide +kernel)) (fun _ _ _ _ _ => (h_name sc_f_most_sum.nd rfl (Or.inl rfl))) (fun _ _ _ _ _ => ts_nil) (fun _ _ _ _ _ => (q_ix (Lay.none rfl) (qv 1) q_int))) a_nil))))
def bd_f_Task_most_work : {b : List Stmt // defBody s_f_Task_most_work = b} := by
  refine ⟨?b, ?h⟩
  case h => conv => lhs; whnf
def sp_f_Task_most_work : {b : Scope // defScope s_f_Task_most_work = b} := by
  refine ⟨?b, ?h⟩
  case h => conv => lhs; whnf
theorem sc_f_Task_most_work : FnScope ["self", "frame"] ["self", "frame"] sp_f_Task_most_work.1 := ⟨rfl, rfl, rfl, by decide +kernel, rfl, by decide +kernel, by decide +kernel⟩
theorem ok_f_Task_most_work (T : Txt K mg) : FnOk P w K mg base (L2.CX P w) 2 T.a_f_Task_most_work T.d_f_Task_most_work ["self", "frame"] (spI T.G f_Task_most_work) := fn_okG (k := 1) (body := b_f_Task_most_work) rfl rfl sp_f_Task_most_work.2 bd_f_Task_most_work.2 T.F_f_Task_most_work sc_f_Task_most_work fun cdv A outer s H E hr => by
  have L := layX (P := P) (w := w) (mg := mg) (base := base) (x := "") (qual := "Task.most_work") (sc := sp_f_Task_most_work.1) (N := ["self", "frame"]) (f := T.a_f_Task_most_work) (cdv := cdv) (A := A) (outer := outer) (s := s) (H := H) (E := E) (show K = T.G.K from rfl)
  have hu := hr.units
  exact (z_one (z_ret (k_call L (ok_f_most_sum T) (hr.mono (by decide)) rfl T.g_f_most_sum T.F_f_most_sum.kp T.b_f_most_sum (a_cons (q_ix L (q_ix L (q_fld L (qv 0) (hx_frames T)) (qv 1)) q_int) a_nil))))
theorem ht_least_work (T : Txt K mg) : ∀ c m, tb_least_work c = some m → MetF P w T.G mg base 2 "least_work" [] c m := by
  intro c m h
  unfold tb_least_work at h
  split at h
  · rename_i e
    subst e
    cases h
    exact met_of T.cl_Task (by show ¬ ("least_work" : Str) ∈ (["name", "frames", "jitter"] : List Str); decide +kernel) T.m_Task_least_work (ok_f_Task_least_work T) (by decide) T.b_f_Task_least_work
  cases h
theorem ht_most_work (T : Txt K mg) : ∀ c m, tb_most_work c = some m → MetF P w T.G mg base 2 "most_work" [] c m := by
  intro c m h
  unfold tb_most_work at h
  split at h
  · rename_i e
    subst e
    cases h
    exact met_of T.cl_Task (by show ¬ ("most_work" : Str) ∈ (["name", "frames", "jitter"] : List Str); decide +kernel) T.m_Task_most_work (ok_f_Task_most_work T) (by decide) T.b_f_Task_most_work
  cases h
def bd_f_length_fits : {b : List Stmt // defBody s_f_length_fits = b} := by
  refine ⟨?b, ?h⟩
  case h => conv => lhs; whnf
def sp_f_length_fits : {b : Scope // defScope s_f_length_fits = b} := by
  refine ⟨?b, ?h⟩
  case h => conv => lhs; whnf
theorem sc_f_length_fits : FnScope ["task", "frame", "length"] ["task", "frame", "length"] sp_f_length_fits.1 := ⟨rfl, rfl, rfl, by decide +kernel, rfl, by decide +kernel, by decide +kernel⟩
theorem ok_f_length_fits (T : Txt K mg) : FnOk P w K mg base (L2.CX P w) 3 T.a_f_length_fits T.d_f_length_fits ["task", "frame", "length"] (spI T.G f_length_fits) := fn_okG (k := 2) (body := b_f_length_fits) rfl rfl sp_f_length_fits.2 bd_f_length_fits.2 T.F_f_length_fits sc_f_length_fits fun cdv A outer s H E hr => by
  have L := layX (P := P) (w := w) (mg := mg) (base := base) (x := "") (qual := "length_fits") (sc := sp_f_length_fits.1) (N := ["task", "frame", "length"]) (f := T.a_f_length_fits) (cdv := cdv) (A := A) (outer := outer) (s := s) (H := H) (E := E) (show K = T.G.K from rfl)
  have hu := hr.units
  exact (z_one (z_ret (q_chain op_le op_le (q_meth L (qv 0) (ht_least_work T) (hr.mono (by decide)) (a_cons (qv 1) a_nil)) (qv 2) (q_meth L (qv 0) (ht_most_work T) (hr.mono (by decide)) (a_cons (qv 1) a_nil)))))
def bd_f__earliest_arrivals : {b : List Stmt // defBody s_f__earliest_arrivals = b} := by
  refine ⟨?b, ?h⟩
  case h => conv => lhs; whnf
def sp_f__earliest_arrivals : {b : Scope // defScope s_f__earliest_arrivals = b} := by
  refine ⟨?b, ?h⟩
  case h => conv => lhs; whnf
theorem sc_f__earliest_arrivals : FnScope ["task", "log", "start_frame", "arrivals", "count", "index", "release", "length", "frame", "arrival", "gap"] ["task", "log", "start_frame"] sp_f__earliest_arrivals.1 := ⟨rfl, rfl, rfl, by decide +kernel, rfl, by decide +kernel, by decide +kernel⟩
theorem ok_f__earliest_arrivals (T : Txt K mg) : FnOk P w K mg base (L2.CX P w) 4 T.a_f__earliest_arrivals T.d_f__earliest_arrivals ["task", "log", "start_frame"] (spI T.G f__earliest_arrivals) := fn_okG (k := 3) (body := b_f__earliest_arrivals) rfl rfl sp_f__earliest_arrivals.2 bd_f__earliest_arrivals.2 T.F_f__earliest_arrivals sc_f__earliest_arrivals fun cdv A outer s H E hr => by
  have L := layX (P := P) (w := w) (mg := mg) (base := base) (x := "") (qual := "_earliest_arrivals") (sc := sp_f__earliest_arrivals.1) (N := ["task", "log", "start_frame", "arrivals", "count", "index", "release", "length", "frame", "arrival", "gap"]) (f := T.a_f__earliest_arrivals) (cdv := cdv) (A := A) (outer := outer) (s := s) (H := H) (E := E) (show K = T.G.K from rfl)
  have hu := hr.units
  exact (z_cons (z_set sc_f__earliest_arrivals.nd rfl (Or.inl rfl) (q_lst true a_nil))
    (z_cons (z_set sc_f__earliest_arrivals.nd rfl (Or.inl rfl) (k_len L rfl T.no_len (a_cons (q_fld L (qv 0) (hx_frames T)) a_nil)))
    (z_cons (z_for (passes_of rfl) rfl (w_enum L rfl T.no_enumerate (a_cons (qv 1) a_nil)) (g_tup rfl rfl (g_cons (g_name sc_f__earliest_arrivals.nd rfl (Or.inl rfl)) (g_cons (g_tup rfl rfl (g_cons (g_name sc_f__earliest_arrivals.nd rfl (Or.inl rfl)) (g_cons (g_name sc_f__earliest_arrivals.nd rfl (Or.inl rfl)) g_nil))) g_nil)))
    (z_cons (z_set sc_f__earliest_arrivals.nd rfl (Or.inl rfl) (q_mod (q_add false L (qv 2) (qv 5)) (qv 4)))
    (z_cons (z_set sc_f__earliest_arrivals.nd rfl (Or.inl rfl) (q_sub (qv 6) (q_fld L (qv 0) (hx_jitter T))))
    (z_cons (z_if (qt_gt (qv 5) q_int)
    (z_cons (z_set sc_f__earliest_arrivals.nd rfl (Or.inl rfl) (q_ix L (q_ix L (q_fld L (qv 0) (hx_frames T)) (q_mod (q_sub (q_add false L (qv 8) (qv 4)) q_int) (qv 4))) q_int))
    (z_cons (z_set sc_f__earliest_arrivals.nd rfl (Or.inl rfl) (k_max2 L rfl rfl T.no_max (a_cons (qv 9) (a_cons (q_add false L (q_ix L (qv 3) (q_neg q_int)) (qv 10)) a_nil))))
    (z_one (z_if (qt_lt (qv 6) (q_ix L (q_ix L (qv 1) (q_sub (qv 5) q_int)) q_int))
    (z_one z_break)
    z_nil))))
    z_nil)
    (z_cons (z_if (PW.pt (w_or (qt_gt (qv 9) (qv 6)) (w_or1 (qt_not (qt_tru L (k_call L (ok_f_length_fits T) (hr.mono (by decide)) rfl T.g_f_length_fits T.F_f_length_fits.kp T.b_f_length_fits (a_cons (qv 0) (a_cons (qv 8) (a_cons (qv 7) a_nil)))))))))
    (z_one z_break)
    z_nil)
    (z_one (z_drop (k_append L (qv 3) (a_cons (qv 9) a_nil)))))))))
    (z_one (z_ret (qv 3))))))
def bd_f_break_index : {b : List Stmt // defBody s_f_break_index = b} := by
  refine ⟨?b, ?h⟩
  case h => conv => lhs; whnf
def sp_f_break_index : {b : Scope // defScope s_f_break_index = b} := by
  refine ⟨?b, ?h⟩
  case h => conv => lhs; whnf
theorem sc_f_break_index : FnScope ["task", "log", "longest", "start_frame"] ["task", "log"] sp_f_break_index.1 := ⟨rfl, rfl, rfl, by decide +kernel, rfl, by decide +kernel, by decide +kernel⟩
theorem ok_f_break_index (T : Txt K mg) : FnOk P w K mg base (L2.CX P w) 5 T.a_f_break_index T.d_f_break_index ["task", "log"] (spI T.G f_break_index) := fn_okG (k := 4) (body := b_f_break_index) rfl rfl sp_f_break_index.2 bd_f_break_index.2 T.F_f_break_index sc_f_break_index fun cdv A outer s H E hr => by
  have L := layX (P := P) (w := w) (mg := mg) (base := base) (x := "") (qual := "break_index") (sc := sp_f_break_index.1) (N := ["task", "log", "longest", "start_frame"]) (f := T.a_f_break_index) (cdv := cdv) (A := A) (outer := outer) (s := s) (H := H) (E := E) (show K = T.G.K from rfl)
  have hu := hr.units
  exact (z_cons (z_set sc_f_break_index.nd rfl (Or.inl rfl) (k_max1 L rfl rfl T.no_max (a_cons (q_lc false [("start_frame", 3)] rfl rfl sc_f_break_index.nd (w_range1 rfl T.no_range (a_cons (k_len L rfl T.no_len (a_cons (q_fld L (qv 0) (hx_frames T)) a_nil)) a_nil)) (blkOk_by (by show blkC ["task", "log", "longest", "start_frame"] sp_f_break_index.1 _ [("start_frame", 3)] = true; decide +kernel)) (fun _ _ _ _ _ => (h_name sc_f_break_index.nd rfl (Or.inl rfl))) (fun _ _ _ _ _ => ts_nil) (fun _ _ _ _ _ => (k_len (Lay.none rfl) rfl T.no_len (a_cons (k_call (Lay.none rfl) (ok_f__earliest_arrivals T) (hr.mono (by decide)) rfl T.g_f__earliest_arrivals T.F_f__earliest_arrivals.kp T.b_f__earliest_arrivals (a_cons (qv 0) (a_cons (qv 1) (a_cons (qv 3) a_nil)))) a_nil)))) a_nil)))
    (z_cons (z_if (qt_eq L hu (qv 2) (k_len L rfl T.no_len (a_cons (qv 1) a_nil)))
    (z_one (z_ret q_non))
    z_nil)
    (z_one (z_ret (qv 2)))))
def bd_f__law_right : {b : List Stmt // defBody s_f__law_right = b} := by
  refine ⟨?b, ?h⟩
  case h => conv => lhs; whnf
def sp_f__law_right : {b : Scope // defScope s_f__law_right = b} := by
  refine ⟨?b, ?h⟩
  case h => conv => lhs; whnf
theorem sc_f__law_right : FnScope ["task", "rows", "early", "log", "due", "handed", "answer"] ["task", "rows", "early", "log"] sp_f__law_right.1 := ⟨rfl, rfl, rfl, by decide +kernel, rfl, by decide +kernel, by decide +kernel⟩
theorem ok_f__law_right (T : Txt K mg) : FnOk P w K mg base (L2.CX P w) 6 T.a_f__law_right T.d_f__law_right ["task", "rows", "early", "log"] (spI T.G f__law_right) := fn_okG (k := 5) (body := b_f__law_right) rfl rfl sp_f__law_right.2 bd_f__law_right.2 T.F_f__law_right sc_f__law_right fun cdv A outer s H E hr => by
  have L := layX (P := P) (w := w) (mg := mg) (base := base) (x := "") (qual := "_law_right") (sc := sp_f__law_right.1) (N := ["task", "rows", "early", "log", "due", "handed", "answer"]) (f := T.a_f__law_right) (cdv := cdv) (A := A) (outer := outer) (s := s) (H := H) (E := E) (show K = T.G.K from rfl)
  have hu := hr.units
  exact (z_cons (z_set sc_f__law_right.nd rfl (Or.inl rfl) (k_call L (ok_f__law_due T) (hr.mono (by decide)) rfl T.g_f__law_due T.F_f__law_due.kp T.b_f__law_due (a_cons (qv 1) (a_cons (qv 2) (a_cons (qv 3) a_nil)))))
    (z_cons (z_set sc_f__law_right.nd rfl (Or.inl rfl) (k_list false L rfl rfl T.no_list (a_cons (qv 3) a_nil)))
    (z_cons (z_set sc_f__law_right.nd rfl (Or.inl rfl) (k_call L (ok_f_break_index T) (hr.mono (by decide)) rfl T.g_f_break_index T.F_f_break_index.kp T.b_f_break_index (a_cons (qv 0) (a_cons (qv 5) a_nil))))
    (z_cons (z_if (qt_ne L hu (qv 5) (qv 3))
    (z_one (z_ret q_bl))
    z_nil)
    (z_cons (z_if (qt_is (qv 4) q_non)
    (z_one (z_ret (q_is (qv 6) q_non)))
    z_nil)
    (z_one (z_ret (q_and (k_call L (ok_f__law_number T) (hr.mono (by decide)) rfl T.g_f__law_number T.F_f__law_number.kp T.b_f__law_number (a_cons (qv 6) a_nil)) (q_one (q_eq L hu (qv 6) (qv 4)))))))))))
def bd_f__law_take : {b : List Stmt // defBody s_f__law_take = b} := by
  refine ⟨?b, ?h⟩
  case h => conv => lhs; whnf
def sp_f__law_take : {b : Scope // defScope s_f__law_take = b} := by
  refine ⟨?b, ?h⟩
  case h => conv => lhs; whnf
theorem sc_f__law_take : FnScope ["bag", "many", "digit"] ["bag", "many"] sp_f__law_take.1 := ⟨rfl, rfl, rfl, by decide +kernel, rfl, by decide +kernel, by decide +kernel⟩
theorem ok_f__law_take (T : Txt K mg) : FnOk P w K mg base (L2.CX P w) 1 T.a_f__law_take T.d_f__law_take ["bag", "many"] (spI T.G f__law_take) := fn_okG (k := 0) (body := b_f__law_take) rfl rfl sp_f__law_take.2 bd_f__law_take.2 T.F_f__law_take sc_f__law_take fun cdv A outer s H E hr => by
  have L := layX (P := P) (w := w) (mg := mg) (base := base) (x := "") (qual := "_law_take") (sc := sp_f__law_take.1) (N := ["bag", "many", "digit"]) (f := T.a_f__law_take) (cdv := cdv) (A := A) (outer := outer) (s := s) (H := H) (E := E) (show K = T.G.K from rfl)
  have hu := hr.units
  exact (z_cons (z_if (qt_gt (q_ix L (qv 0) q_int) q_int)
    (z_cons (z_set sc_f__law_take.nd rfl (Or.inl rfl) (q_mod (k_int rfl T.no_int (a_cons (q_ix L (qv 0) q_int) a_nil)) (qv 1)))
    (z_cons (k_setIx (q_div (q_ix L (qv 0) q_int) (qv 1)) (qv 0) q_int)
    (z_one (z_ret (qv 2)))))
    z_nil)
    (z_cons (k_setIx (q_mod (k_int rfl T.no_int (a_cons (q_add false L (q_add false L (q_mul false L (q_ix L (qv 0) q_int) q_int) (q_mul false L (q_ix L (qv 0) q_int) (q_ix L (qv 0) q_int))) q_int) a_nil)) q_int) (qv 0) q_int)
    (z_cons (k_setIx (q_add false L (q_ix L (qv 0) q_int) q_int) (qv 0) q_int)
    (z_one (z_ret (q_mod (q_div (q_mod (k_int rfl T.no_int (a_cons (q_add false L (q_mul false L (q_ix L (qv 0) q_int) q_int) (q_ix L (qv 0) q_int)) a_nil)) q_int) q_int) (qv 1)))))))
def bd_f_explained : {b : List Stmt // defBody s_f_explained = b} := by
  refine ⟨?b, ?h⟩
  case h => conv => lhs; whnf
def sp_f_explained : {b : Scope // defScope s_f_explained = b} := by
  refine ⟨?b, ?h⟩
  case h => conv => lhs; whnf
theorem sc_f_explained : FnScope ["task", "log", "start_frame", "arrivals"] ["task", "log"] sp_f_explained.1 := ⟨rfl, rfl, rfl, by decide +kernel, rfl, by decide +kernel, by decide +kernel⟩
theorem ok_f_explained (T : Txt K mg) : FnOk P w K mg base (L2.CX P w) 5 T.a_f_explained T.d_f_explained ["task", "log"] (spI T.G f_explained) := fn_okG (k := 4) (body := b_f_explained) rfl rfl sp_f_explained.2 bd_f_explained.2 T.F_f_explained sc_f_explained fun cdv A outer s H E hr => by
  have L := layX (P := P) (w := w) (mg := mg) (base := base) (x := "") (qual := "explained") (sc := sp_f_explained.1) (N := ["task", "log", "start_frame", "arrivals"]) (f := T.a_f_explained) (cdv := cdv) (A := A) (outer := outer) (s := s) (H := H) (E := E) (show K = T.G.K from rfl)
  have hu := hr.units
  exact (z_cons (z_for (passes_of rfl) rfl (w_range1 rfl T.no_range (a_cons (k_len L rfl T.no_len (a_cons (q_fld L (qv 0) (hx_frames T)) a_nil)) a_nil)) (g_name sc_f_explained.nd rfl (Or.inl rfl))
    (z_cons (z_set sc_f_explained.nd rfl (Or.inl rfl) (k_call L (ok_f__earliest_arrivals T) (hr.mono (by decide)) rfl T.g_f__earliest_arrivals T.F_f__earliest_arrivals.kp T.b_f__earliest_arrivals (a_cons (qv 0) (a_cons (qv 1) (a_cons (qv 2) a_nil)))))
    (z_one (z_if (qt_eq L hu (k_len L rfl T.no_len (a_cons (qv 3) a_nil)) (k_len L rfl T.no_len (a_cons (qv 1) a_nil)))
    (z_one (z_ret (q_tup (a_cons (qv 2) (a_cons (qv 3) a_nil)))))
    z_nil))))
    (z_one (z_ret q_non)))
def bd_f__law_around : {b : List Stmt // defBody s_f__law_around = b} := by
  refine ⟨?b, ?h⟩
  case h => conv => lhs; whnf
def sp_f__law_around : {b : Scope // defScope s_f__law_around = b} := by
  refine ⟨?b, ?h⟩
  case h => conv => lhs; whnf
theorem sc_f__law_around : FnScope ["bag", "task", "rows", "early", "log", "at", "junk", "m", "alive", "first", "here", "release", "arrival", "length", "mended"] ["bag", "task", "rows", "early", "log", "at"] sp_f__law_around.1 := ⟨rfl, rfl, rfl, by decide +kernel, rfl, by decide +kernel, by decide +kernel⟩
theorem ok_f__law_around (T : Txt K mg) : FnOk P w K mg base (L2.CX P w) 7 T.a_f__law_around T.d_f__law_around ["bag", "task", "rows", "early", "log", "at"] (spI T.G f__law_around) := fn_okG (k := 6) (body := b_f__law_around) rfl rfl sp_f__law_around.2 bd_f__law_around.2 T.F_f__law_around sc_f__law_around fun cdv A outer s H E hr => by
  have L := layX (P := P) (w := w) (mg := mg) (base := base) (x := "") (qual := "_law_around") (sc := sp_f__law_around.1) (N := ["bag", "task", "rows", "early", "log", "at", "junk", "m", "alive", "first", "here", "release", "arrival", "length", "mended"]) (f := T.a_f__law_around) (cdv := cdv) (A := A) (outer := outer) (s := s) (H := H) (E := E) (show K = T.G.K from rfl)
  have hu := hr.units
  exact (z_cons (z_if (qt_isNot (k_call L (ok_f_break_index T) (hr.mono (by decide)) rfl T.g_f_break_index T.F_f_break_index.kp T.b_f_break_index (a_cons (qv 1) (a_cons (q_sl false L (qv 4) o_none (o_some (qv 5))) a_nil))) q_non)
    (z_one (z_ret q_bl))
    z_nil)
    (z_cons (z_if (PW.pt (w_or (qt_is (k_call L (ok_f_explained T) (hr.mono (by decide)) rfl T.g_f_explained T.F_f_explained.kp T.b_f_explained (a_cons (qv 1) (a_cons (q_sl false L (qv 4) o_none (o_some (qv 5))) a_nil))) q_non) (w_or1 (qt_isNot (k_call L (ok_f_explained T) (hr.mono (by decide)) rfl T.g_f_explained T.F_f_explained.kp T.b_f_explained (a_cons (qv 1) (a_cons (q_sl false L (qv 4) o_none (o_some (q_add false L (qv 5) q_int))) a_nil))) q_non))))
    (z_one (z_ret q_bl))
    z_nil)
    (z_cons (z_set sc_f__law_around.nd rfl (Or.inl rfl) (q_lst true a_nil))
    (z_cons (z_for (passes_of rfl) rfl (w_range1 rfl T.no_range (a_cons (k_call L (ok_f__law_take T) (hr.mono (by decide)) rfl T.g_f__law_take T.F_f__law_take.kp T.b_f__law_take (a_cons (qv 0) (a_cons q_int a_nil))) a_nil)) (g_name sc_f__law_around.nd rfl (Or.inl rfl))
    (z_one (z_drop (k_append L (qv 6) (a_cons (q_tup (a_cons (q_sub (q_add false L (q_ix L (q_ix L (qv 4) (qv 5)) q_int) (k_call L (ok_f__law_take T) (hr.mono (by decide)) rfl T.g_f__law_take T.F_f__law_take.kp T.b_f__law_take (a_cons (qv 0) (a_cons q_int a_nil)))) q_int) (a_cons (q_sub (k_call L (ok_f__law_take T) (hr.mono (by decide)) rfl T.g_f__law_take T.F_f__law_take.kp T.b_f__law_take (a_cons (qv 0) (a_cons q_int a_nil))) q_int) a_nil))) a_nil)))))
    (z_cons (z_if (qt_not (qt_tru L (k_call L (ok_f__law_right T) (hr.mono (by decide)) rfl T.g_f__law_right T.F_f__law_right.kp T.b_f__law_right (a_cons (qv 1) (a_cons (qv 2) (a_cons (qv 3) (a_cons (q_add false L (q_sl false L (qv 4) o_none (o_some (q_add false L (qv 5) q_int))) (qv 6)) a_nil)))))))
    (z_one (z_ret q_bl))
    z_nil)
    (z_cons (z_setLc false [("first", 9)] rfl rfl sc_f__law_around.nd rfl rfl (sw_true rfl rfl rfl rfl) (w_range1 rfl T.no_range (a_cons (k_len L rfl T.no_len (a_cons (qv 2) a_nil)) a_nil)) (blkOk_by (by show blkC ["bag", "task", "rows", "early", "log", "at", "junk", "m", "alive", "first", "here", "release", "arrival", "length", "mended"] sp_f__law_around.1 _ [("first", 9)] = true; decide +kernel)) (fun _ _ _ _ _ => (h_name sc_f__law_around.nd rfl (Or.inl rfl))) (fun _ _ _ _ _ => (ts_one (qt_eq (Lay.none rfl) hu (q_ix (Lay.none rfl) (k_call (Lay.none rfl) (ok_f__law_kept T) (hr.mono (by decide)) rfl T.g_f__law_kept T.F_f__law_kept.kp T.b_f__law_kept (a_cons (qv 2) (a_cons (qv 3) (a_cons (qv 9) (a_cons (q_sl false (Lay.none rfl) (qv 4) o_none (o_some (qv 5))) a_nil))))) q_int) (qv 5)))) (fun _ _ _ _ _ => (qv 9)))
    (z_cons (z_set sc_f__law_around.nd rfl (Or.inl rfl) (q_ix L (qv 8) (k_call L (ok_f__law_take T) (hr.mono (by decide)) rfl T.g_f__law_take T.F_f__law_take.kp T.b_f__law_take (a_cons (qv 0) (a_cons (k_len L rfl T.no_len (a_cons (qv 8) a_nil)) a_nil)))))
    (z_cons (z_set sc_f__law_around.nd rfl (Or.inl rfl) (q_ix L (qv 2) (q_mod (k_int rfl T.no_int (a_cons (q_add false L (qv 9) (qv 5)) a_nil)) (k_len L rfl T.no_len (a_cons (qv 2) a_nil)))))
    (z_cons (z_set sc_f__law_around.nd rfl (Or.inl rfl) (q_ix L (q_ix L (qv 4) (qv 5)) q_int))
    (z_cons (z_if (qt_gt (qv 5) q_int)
    (z_cons (z_set sc_f__law_around.nd rfl (Or.inl rfl) (q_add false L (q_ix L (k_call L (ok_f__law_kept T) (hr.mono (by decide)) rfl T.g_f__law_kept T.F_f__law_kept.kp T.b_f__law_kept (a_cons (qv 2) (a_cons (qv 3) (a_cons (qv 9) (a_cons (q_sl false L (qv 4) o_none (o_some (qv 5))) a_nil))))) q_int) (q_ix L (q_ix L (qv 2) (q_mod (k_int rfl T.no_int (a_cons (q_sub (q_add false L (qv 9) (qv 5)) q_int) a_nil)) (k_len L rfl T.no_len (a_cons (qv 2) a_nil)))) q_int)))
    (z_one (z_set sc_f__law_around.nd rfl (Or.inl rfl) (q_add false L (k_max2 L rfl rfl T.no_max (a_cons (q_ix L (q_ix L (qv 4) (q_sub (qv 5) q_int)) q_int) (a_cons (qv 12) a_nil))) (k_call L (ok_f__law_take T) (hr.mono (by decide)) rfl T.g_f__law_take T.F_f__law_take.kp T.b_f__law_take (a_cons (qv 0) (a_cons q_int a_nil)))))))
    z_nil)
    (z_cons (z_set sc_f__law_around.nd rfl (Or.inl rfl) (q_add false L (k_call L (ok_f__law_low T) (hr.mono (by decide)) rfl T.g_f__law_low T.F_f__law_low.kp T.b_f__law_low (a_cons (qv 10) a_nil)) (k_call L (ok_f__law_take T) (hr.mono (by decide)) rfl T.g_f__law_take T.F_f__law_take.kp T.b_f__law_take (a_cons (qv 0) (a_cons (q_add false L (q_sub (k_call L (ok_f__law_high T) (hr.mono (by decide)) rfl T.g_f__law_high T.F_f__law_high.kp T.b_f__law_high (a_cons (qv 10) a_nil)) (k_call L (ok_f__law_low T) (hr.mono (by decide)) rfl T.g_f__law_low T.F_f__law_low.kp T.b_f__law_low (a_cons (qv 10) a_nil))) q_int) a_nil)))))
    (z_cons (z_set sc_f__law_around.nd rfl (Or.inl rfl) (q_add false L (q_sl false L (qv 4) o_none (o_some (qv 5))) (q_lst false (a_cons (q_tup (a_cons (qv 11) (a_cons (qv 13) a_nil))) a_nil))))
    (z_cons (z_if (PW.pt (w_or (qt_isNot (k_call L (ok_f_break_index T) (hr.mono (by decide)) rfl T.g_f_break_index T.F_f_break_index.kp T.b_f_break_index (a_cons (qv 1) (a_cons (k_list false L rfl rfl T.no_list (a_cons (qv 14) a_nil)) a_nil))) q_non) (w_or1 (qt_is (k_call L (ok_f_explained T) (hr.mono (by decide)) rfl T.g_f_explained T.F_f_explained.kp T.b_f_explained (a_cons (qv 1) (a_cons (k_list false L rfl rfl T.no_list (a_cons (qv 14) a_nil)) a_nil))) q_non))))
    (z_one (z_ret q_bl))
    z_nil)
    (z_one (z_ret (k_call L (ok_f__law_right T) (hr.mono (by decide)) rfl T.g_f__law_right T.F_f__law_right.kp T.b_f__law_right (a_cons (qv 1) (a_cons (qv 2) (a_cons (qv 3) (a_cons (q_add false L (qv 14) (q_sl false L (qv 4) (o_some (q_add false L (qv 5) q_int)) o_none)) a_nil))))))))))))))))))))
def bd_f__law_cell : {b : List Stmt // defBody s_f__law_cell = b} := by
  refine ⟨?b, ?h⟩
  case h => conv => lhs; whnf
def sp_f__law_cell : {b : Scope // defScope s_f__law_cell = b} := by
  refine ⟨?b, ?h⟩
  case h => conv => lhs; whnf
theorem sc_f__law_cell : FnScope ["script", "spot"] ["script", "spot"] sp_f__law_cell.1 := ⟨rfl, rfl, rfl, by decide +kernel, rfl, by decide +kernel, by decide +kernel⟩
theorem ok_f__law_cell (T : Txt K mg) : FnOk P w K mg base (L2.CX P w) 1 T.a_f__law_cell T.d_f__law_cell ["script", "spot"] (spI T.G f__law_cell) := fn_okG (k := 0) (body := b_f__law_cell) rfl rfl sp_f__law_cell.2 bd_f__law_cell.2 T.F_f__law_cell sc_f__law_cell fun cdv A outer s H E hr => by
  have L := layX (P := P) (w := w) (mg := mg) (base := base) (x := "") (qual := "_law_cell") (sc := sp_f__law_cell.1) (N := ["script", "spot"]) (f := T.a_f__law_cell) (cdv := cdv) (A := A) (outer := outer) (s := s) (H := H) (E := E) (show K = T.G.K from rfl)
  have hu := hr.units
  exact (z_cons (z_if (qt_lt (qv 1) (k_len L rfl T.no_len (a_cons (qv 0) a_nil)))
    (z_one (z_ret (k_abs rfl T.no_abs (a_cons (q_ix L (qv 0) (qv 1)) a_nil))))
    z_nil)
    (z_one (z_ret (q_add false L (q_mul false L q_int (q_add false L (qv 1) q_int)) (q_mod (k_abs rfl T.no_abs (a_cons (k_sum L rfl rfl T.no_sum (a_cons (q_sl false L (qv 0) o_none (o_some q_int)) a_nil)) a_nil)) q_int)))))
def bd_f__law_bag : {b : List Stmt // defBody s_f__law_bag = b} := by
  refine ⟨?b, ?h⟩
  case h => conv => lhs; whnf
def sp_f__law_bag : {b : Scope // defScope s_f__law_bag = b} := by
  refine ⟨?b, ?h⟩
  case h => conv => lhs; whnf
theorem sc_f__law_bag : FnScope ["script", "spot", "cell", "rest"] ["script", "spot"] sp_f__law_bag.1 := ⟨rfl, rfl, rfl, by decide +kernel, rfl, by decide +kernel, by decide +kernel⟩
theorem ok_f__law_bag (T : Txt K mg) : FnOk P w K mg base (L2.CX P w) 2 T.a_f__law_bag T.d_f__law_bag ["script", "spot"] (spI T.G f__law_bag) := fn_okG (k := 1) (body := b_f__law_bag) rfl rfl sp_f__law_bag.2 bd_f__law_bag.2 T.F_f__law_bag sc_f__law_bag fun cdv A outer s H E hr => by
  have L := layX (P := P) (w := w) (mg := mg) (base := base) (x := "") (qual := "_law_bag") (sc := sp_f__law_bag.1) (N := ["script", "spot", "cell", "rest"]) (f := T.a_f__law_bag) (cdv := cdv) (A := A) (outer := outer) (s := s) (H := H) (E := E) (show K = T.G.K from rfl)
  have hu := hr.units
  exact (z_cons (z_set sc_f__law_bag.nd rfl (Or.inl rfl) (q_mod (k_int rfl T.no_int (a_cons (k_call L (ok_f__law_cell T) (hr.mono (by decide)) rfl T.g_f__law_cell T.F_f__law_cell.kp T.b_f__law_cell (a_cons (qv 0) (a_cons (qv 1) a_nil))) a_nil)) (q_pow q_int q_int)))
    (z_cons (z_set sc_f__law_bag.nd rfl (Or.inl rfl) q_int)
    (z_cons (z_if (qt_ge (qv 2) (q_pow q_int q_int))
    (z_one (z_set sc_f__law_bag.nd rfl (Or.inl rfl) (qv 2)))
    z_nil)
    (z_one (z_ret (q_lst true (a_cons (qv 3) (a_cons (q_mod (k_int rfl T.no_int (a_cons (q_add true L (q_add true L (q_mul true L (qv 2) q_int) (q_mul true L (qv 1) q_int)) q_int) a_nil)) q_int) (a_cons (qv 1) a_nil)))))))))
def bd_f__law_bent : {b : List Stmt // defBody s_f__law_bent = b} := by
  refine ⟨?b, ?h⟩
  case h => conv => lhs; whnf
def sp_f__law_bent : {b : Scope // defScope s_f__law_bent = b} := by
  refine ⟨?b, ?h⟩
  case h => conv => lhs; whnf
theorem sc_f__law_bent : FnScope ["bag", "log", "at", "pair", "way"] ["bag", "log", "at"] sp_f__law_bent.1 := ⟨rfl, rfl, rfl, by decide +kernel, rfl, by decide +kernel, by decide +kernel⟩
theorem ok_f__law_bent (T : Txt K mg) : FnOk P w K mg base (L2.CX P w) 2 T.a_f__law_bent T.d_f__law_bent ["bag", "log", "at"] (spI T.G f__law_bent) := fn_okG (k := 1) (body := b_f__law_bent) rfl rfl sp_f__law_bent.2 bd_f__law_bent.2 T.F_f__law_bent sc_f__law_bent fun cdv A outer s H E hr => by
  have L := layX (P := P) (w := w) (mg := mg) (base := base) (x := "") (qual := "_law_bent") (sc := sp_f__law_bent.1) (N := ["bag", "log", "at", "pair", "way"]) (f := T.a_f__law_bent) (cdv := cdv) (A := A) (outer := outer) (s := s) (H := H) (E := E) (show K = T.G.K from rfl)
  have hu := hr.units
  exact (z_cons (z_set sc_f__law_bent.nd rfl (Or.inl rfl) (q_ix L (qv 1) (qv 2)))
    (z_cons (z_set sc_f__law_bent.nd rfl (Or.inl rfl) (k_call L (ok_f__law_take T) (hr.mono (by decide)) rfl T.g_f__law_take T.F_f__law_take.kp T.b_f__law_take (a_cons (qv 0) (a_cons q_int a_nil))))
    (z_cons (z_if (qt_eq L hu (qv 4) q_int)
    (z_one (z_set sc_f__law_bent.nd rfl (Or.inl rfl) (q_tup (a_cons (q_sub (q_sub (q_ix L (qv 3) q_int) q_int) (k_call L (ok_f__law_take T) (hr.mono (by decide)) rfl T.g_f__law_take T.F_f__law_take.kp T.b_f__law_take (a_cons (qv 0) (a_cons q_int a_nil)))) (a_cons (q_ix L (qv 3) q_int) a_nil)))))
    z_nil)
    (z_cons (z_if (qt_eq L hu (qv 4) q_int)
    (z_one (z_set sc_f__law_bent.nd rfl (Or.inl rfl) (q_tup (a_cons (q_ix L (qv 3) q_int) (a_cons (q_add false L (q_add false L (q_ix L (qv 3) q_int) q_int) (k_call L (ok_f__law_take T) (hr.mono (by decide)) rfl T.g_f__law_take T.F_f__law_take.kp T.b_f__law_take (a_cons (qv 0) (a_cons q_int a_nil)))) a_nil)))))
    z_nil)
    (z_cons (z_if (qt_eq L hu (qv 4) q_int)
    (z_one (z_set sc_f__law_bent.nd rfl (Or.inl rfl) (q_tup (a_cons (q_ix L (qv 3) q_int) (a_cons (q_sub (q_sub (q_ix L (qv 3) q_int) q_int) (k_call L (ok_f__law_take T) (hr.mono (by decide)) rfl T.g_f__law_take T.F_f__law_take.kp T.b_f__law_take (a_cons (qv 0) (a_cons q_int a_nil)))) a_nil)))))
    z_nil)
    (z_cons (z_if (qt_eq L hu (qv 4) q_int)
    (z_one (z_set sc_f__law_bent.nd rfl (Or.inl rfl) (q_tup (a_cons (q_sub (q_ix L (qv 3) q_int) (k_call L (ok_f__law_take T) (hr.mono (by decide)) rfl T.g_f__law_take T.F_f__law_take.kp T.b_f__law_take (a_cons (qv 0) (a_cons q_int a_nil)))) (a_cons (q_ix L (qv 3) q_int) a_nil)))))
    z_nil)
    (z_cons (z_if (qt_eq L hu (qv 4) q_int)
    (z_one (z_set sc_f__law_bent.nd rfl (Or.inl rfl) (q_tup (a_cons (q_add false L (q_add false L (q_ix L (qv 3) q_int) q_int) (k_call L (ok_f__law_take T) (hr.mono (by decide)) rfl T.g_f__law_take T.F_f__law_take.kp T.b_f__law_take (a_cons (qv 0) (a_cons q_int a_nil)))) (a_cons (q_ix L (qv 3) q_int) a_nil)))))
    z_nil)
    (z_one (z_ret (q_add false L (q_add false L (q_sl false L (qv 1) o_none (o_some (qv 2))) (q_lst false (a_cons (qv 3) a_nil))) (q_sl false L (qv 1) (o_some (q_add false L (qv 2) q_int)) o_none)))))))))))
def bd_f__law_good : {b : List Stmt // defBody s_f__law_good = b} := by
  refine ⟨?b, ?h⟩
  case h => conv => lhs; whnf
def sp_f__law_good : {b : Scope // defScope s_f__law_good = b} := by
  refine ⟨?b, ?h⟩
  case h => conv => lhs; whnf
theorem sc_f__law_good : FnScope ["script", "rows", "early", "bag", "arrival", "first", "size", "release", "log", "k", "own", "here", "late", "way"] ["script", "rows", "early"] sp_f__law_good.1 := ⟨rfl, rfl, rfl, by decide +kernel, rfl, by decide +kernel, by decide +kernel⟩
theorem ok_f__law_good (T : Txt K mg) : FnOk P w K mg base (L2.CX P w) 3 T.a_f__law_good T.d_f__law_good ["script", "rows", "early"] (spI T.G f__law_good) := fn_okG (k := 2) (body := b_f__law_good) rfl rfl sp_f__law_good.2 bd_f__law_good.2 T.F_f__law_good sc_f__law_good fun cdv A outer s H E hr => by
  have L := layX (P := P) (w := w) (mg := mg) (base := base) (x := "") (qual := "_law_good") (sc := sp_f__law_good.1) (N := ["script", "rows", "early", "bag", "arrival", "first", "size", "release", "log", "k", "own", "here", "late", "way"]) (f := T.a_f__law_good) (cdv := cdv) (A := A) (outer := outer) (s := s) (H := H) (E := E) (show K = T.G.K from rfl)
  have hu := hr.units
  exact (z_cons (z_set sc_f__law_good.nd rfl (Or.inl rfl) (k_call L (ok_f__law_bag T) (hr.mono (by decide)) rfl T.g_f__law_bag T.F_f__law_bag.kp T.b_f__law_bag (a_cons (qv 0) (a_cons q_int a_nil))))
    (z_cons (z_set sc_f__law_good.nd rfl (Or.inl rfl) (q_sub (k_call L (ok_f__law_take T) (hr.mono (by decide)) rfl T.g_f__law_take T.F_f__law_take.kp T.b_f__law_take (a_cons (qv 3) (a_cons q_int a_nil))) q_int))
    (z_cons (z_set sc_f__law_good.nd rfl (Or.inl rfl) (k_call L (ok_f__law_take T) (hr.mono (by decide)) rfl T.g_f__law_take T.F_f__law_take.kp T.b_f__law_take (a_cons (qv 3) (a_cons (k_len L rfl T.no_len (a_cons (qv 1) a_nil)) a_nil))))
    (z_cons (z_set sc_f__law_good.nd rfl (Or.inl rfl) (k_call L (ok_f__law_take T) (hr.mono (by decide)) rfl T.g_f__law_take T.F_f__law_take.kp T.b_f__law_take (a_cons (qv 3) (a_cons q_int a_nil))))
    (z_cons (z_if (qt_eq L hu (k_call L (ok_f__law_take T) (hr.mono (by decide)) rfl T.g_f__law_take T.F_f__law_take.kp T.b_f__law_take (a_cons (qv 3) (a_cons q_int a_nil))) q_int)
    (z_one (z_set sc_f__law_good.nd rfl (Or.inl rfl) (q_add false L q_int (k_call L (ok_f__law_take T) (hr.mono (by decide)) rfl T.g_f__law_take T.F_f__law_take.kp T.b_f__law_take (a_cons (qv 3) (a_cons q_int a_nil))))))
    z_nil)
    (z_cons (z_set sc_f__law_good.nd rfl (Or.inl rfl) (qv 4))
    (z_cons (z_set sc_f__law_good.nd rfl (Or.inl rfl) (q_lst true a_nil))
    (z_cons (z_for (passes_of rfl) rfl (w_range1 rfl T.no_range (a_cons (qv 6) a_nil)) (g_name sc_f__law_good.nd rfl (Or.inl rfl))
    (z_cons (z_set sc_f__law_good.nd rfl (Or.inl rfl) (k_call L (ok_f__law_bag T) (hr.mono (by decide)) rfl T.g_f__law_bag T.F_f__law_bag.kp T.b_f__law_bag (a_cons (qv 0) (a_cons (q_add false L q_int (qv 9)) a_nil))))
    (z_cons (z_set sc_f__law_good.nd rfl (Or.inl rfl) (q_ix L (qv 1) (q_mod (k_int rfl T.no_int (a_cons (q_add false L (qv 5) (qv 9)) a_nil)) (k_len L rfl T.no_len (a_cons (qv 1) a_nil)))))
    (z_cons (z_set sc_f__law_good.nd rfl (Or.inl rfl) (k_call L (ok_f__law_take T) (hr.mono (by decide)) rfl T.g_f__law_take T.F_f__law_take.kp T.b_f__law_take (a_cons (qv 10) (a_cons (q_add false L (qv 2) q_int) a_nil))))
    (z_cons (z_set sc_f__law_good.nd rfl (Or.inl rfl) (k_call L (ok_f__law_take T) (hr.mono (by decide)) rfl T.g_f__law_take T.F_f__law_take.kp T.b_f__law_take (a_cons (qv 10) (a_cons q_int a_nil))))
    (z_cons (z_if (qt_lt (qv 13) q_int)
    (z_one (z_set sc_f__law_good.nd rfl (Or.inl rfl) (q_mul false L (qv 2) (qv 13))))
    z_nil)
    (z_cons (z_set sc_f__law_good.nd rfl (Or.inl rfl) (k_max2 L rfl rfl T.no_max (a_cons (qv 7) (a_cons (q_add false L (qv 4) (qv 12)) a_nil))))
    (z_cons (z_drop (k_append L (qv 8) (a_cons (q_tup (a_cons (qv 7) (a_cons (q_add false L (k_call L (ok_f__law_low T) (hr.mono (by decide)) rfl T.g_f__law_low T.F_f__law_low.kp T.b_f__law_low (a_cons (qv 11) a_nil)) (k_call L (ok_f__law_take T) (hr.mono (by decide)) rfl T.g_f__law_take T.F_f__law_take.kp T.b_f__law_take (a_cons (qv 10) (a_cons (q_add false L (q_sub (k_call L (ok_f__law_high T) (hr.mono (by decide)) rfl T.g_f__law_high T.F_f__law_high.kp T.b_f__law_high (a_cons (qv 11) a_nil)) (k_call L (ok_f__law_low T) (hr.mono (by decide)) rfl T.g_f__law_low T.F_f__law_low.kp T.b_f__law_low (a_cons (qv 11) a_nil))) q_int) a_nil)))) a_nil))) a_nil)))
    (z_one (z_set sc_f__law_good.nd rfl (Or.inl rfl) (q_add false L (q_add false L (qv 4) (q_ix L (qv 11) q_int)) (k_max2 L rfl rfl T.no_max (a_cons q_int (a_cons (q_sub (k_call L (ok_f__law_take T) (hr.mono (by decide)) rfl T.g_f__law_take T.F_f__law_take.kp T.b_f__law_take (a_cons (qv 10) (a_cons q_int a_nil))) q_int) a_nil))))))))))))))
    (z_one (z_ret (q_frz (qv 8))))))))))))
def bd_f__law_work : {b : List Stmt // defBody s_f__law_work = b} := by
  refine ⟨?b, ?h⟩
  case h => conv => lhs; whnf
def sp_f__law_work : {b : Scope // defScope s_f__law_work = b} := by
  refine ⟨?b, ?h⟩
  case h => conv => lhs; whnf
theorem sc_f__law_work : FnScope ["bag", "large", "marks", "work", "m", "low", "more"] ["bag", "large"] sp_f__law_work.1 := ⟨rfl, rfl, rfl, by decide +kernel, rfl, by decide +kernel, by decide +kernel⟩
theorem ok_f__law_work (T : Txt K mg) : FnOk P w K mg base (L2.CX P w) 2 T.a_f__law_work T.d_f__law_work ["bag", "large"] (spI T.G f__law_work) := fn_okG (k := 1) (body := b_f__law_work) rfl rfl sp_f__law_work.2 bd_f__law_work.2 T.F_f__law_work sc_f__law_work fun cdv A outer s H E hr => by
  have L := layX (P := P) (w := w) (mg := mg) (base := base) (x := "") (qual := "_law_work") (sc := sp_f__law_work.1) (N := ["bag", "large", "marks", "work", "m", "low", "more"]) (f := T.a_f__law_work) (cdv := cdv) (A := A) (outer := outer) (s := s) (H := H) (E := E) (show K = T.G.K from rfl)
  have hu := hr.units
  exact (z_cons (z_set sc_f__law_work.nd rfl (Or.inl rfl) (q_lst false (a_cons (q_str [] (by decide +kernel)) (a_cons (q_str [] (by decide +kernel)) (a_cons (q_str [109] (by decide +kernel)) (a_cons (q_str [42] (by decide +kernel)) (a_cons (q_str [99, 107] (by decide +kernel)) (a_cons (q_str [97, 98, 99, 100] (by decide +kernel)) a_nil))))))))
    (z_cons (z_set sc_f__law_work.nd rfl (Or.inl rfl) (q_lst true a_nil))
    (z_cons (z_for (passes_of rfl) rfl (w_range1 rfl T.no_range (a_cons (q_add false L q_int (k_call L (ok_f__law_take T) (hr.mono (by decide)) rfl T.g_f__law_take T.F_f__law_take.kp T.b_f__law_take (a_cons (qv 0) (a_cons q_int a_nil)))) a_nil)) (g_name sc_f__law_work.nd rfl (Or.inl rfl))
    (z_cons (z_set sc_f__law_work.nd rfl (Or.inl rfl) (q_add false L q_int (k_call L (ok_f__law_take T) (hr.mono (by decide)) rfl T.g_f__law_take T.F_f__law_take.kp T.b_f__law_take (a_cons (qv 0) (a_cons (q_ifExp (qt_tru L (qv 1)) q_int q_int) a_nil)))))
    (z_cons (z_set sc_f__law_work.nd rfl (Or.inl rfl) (k_call L (ok_f__law_take T) (hr.mono (by decide)) rfl T.g_f__law_take T.F_f__law_take.kp T.b_f__law_take (a_cons (qv 0) (a_cons (q_ifExp (qt_tru L (qv 1)) (q_sub q_int (qv 5)) q_int) a_nil))))
    (z_one (z_drop (k_append L (qv 3) (a_cons (q_tup (a_cons (qv 5) (a_cons (q_add false L (qv 5) (qv 6)) (a_cons (q_ix L (qv 2) (k_call L (ok_f__law_take T) (hr.mono (by decide)) rfl T.g_f__law_take T.F_f__law_take.kp T.b_f__law_take (a_cons (qv 0) (a_cons q_int a_nil)))) a_nil)))) a_nil)))))))
    (z_one (z_ret (k_tuple L rfl T.no_tuple (a_cons (qv 3) a_nil)))))))
def bd_f__law_rows : {b : List Stmt // defBody s_f__law_rows = b} := by
  refine ⟨?b, ?h⟩
  case h => conv => lhs; whnf
def sp_f__law_rows : {b : Scope // defScope s_f__law_rows = b} := by
  refine ⟨?b, ?h⟩
  case h => conv => lhs; whnf
theorem sc_f__law_rows : FnScope ["script", "size", "end", "large", "rows", "f", "bag", "gap"] ["script", "size", "end", "large"] sp_f__law_rows.1 := ⟨rfl, rfl, rfl, by decide +kernel, rfl, by decide +kernel, by decide +kernel⟩
theorem ok_f__law_rows (T : Txt K mg) : FnOk P w K mg base (L2.CX P w) 3 T.a_f__law_rows T.d_f__law_rows ["script", "size", "end", "large"] (spI T.G f__law_rows) := fn_okG (k := 2) (body := b_f__law_rows) rfl rfl sp_f__law_rows.2 bd_f__law_rows.2 T.F_f__law_rows sc_f__law_rows fun cdv A outer s H E hr => by
  have L := layX (P := P) (w := w) (mg := mg) (base := base) (x := "") (qual := "_law_rows") (sc := sp_f__law_rows.1) (N := ["script", "size", "end", "large", "rows", "f", "bag", "gap"]) (f := T.a_f__law_rows) (cdv := cdv) (A := A) (outer := outer) (s := s) (H := H) (E := E) (show K = T.G.K from rfl)
  have hu := hr.units
  exact (z_cons (z_set sc_f__law_rows.nd rfl (Or.inl rfl) (q_lst true a_nil))
    (z_cons (z_for (passes_of rfl) rfl (w_range1 rfl T.no_range (a_cons (qv 1) a_nil)) (g_name sc_f__law_rows.nd rfl (Or.inl rfl))
    (z_cons (z_set sc_f__law_rows.nd rfl (Or.inl rfl) (k_call L (ok_f__law_bag T) (hr.mono (by decide)) rfl T.g_f__law_bag T.F_f__law_bag.kp T.b_f__law_bag (a_cons (qv 0) (a_cons (q_add false L q_int (qv 5)) a_nil))))
    (z_cons (z_set sc_f__law_rows.nd rfl (Or.inl rfl) (q_add false L q_int (k_call L (ok_f__law_take T) (hr.mono (by decide)) rfl T.g_f__law_take T.F_f__law_take.kp T.b_f__law_take (a_cons (qv 6) (a_cons (q_ifExp (qt_tru L (qv 3)) q_int q_int) a_nil)))))
    (z_one (z_drop (k_append L (qv 4) (a_cons (q_tup (a_cons (qv 7) (a_cons (qv 2) (a_cons (k_call L (ok_f__law_work T) (hr.mono (by decide)) rfl T.g_f__law_work T.F_f__law_work.kp T.b_f__law_work (a_cons (qv 6) (a_cons (qv 3) a_nil))) a_nil)))) a_nil)))))))
    (z_one (z_ret (q_frz (qv 4))))))
def bd_f__law_word : {b : List Stmt // defBody s_f__law_word = b} := by
  refine ⟨?b, ?h⟩
  case h => conv => lhs; whnf
def sp_f__law_word : {b : Scope // defScope s_f__law_word = b} := by
  refine ⟨?b, ?h⟩
  case h => conv => lhs; whnf
theorem sc_f__law_word : FnScope ["bag", "letters", "size", "m"] ["bag"] sp_f__law_word.1 := ⟨rfl, rfl, rfl, by decide +kernel, rfl, by decide +kernel, by decide +kernel⟩
theorem ok_f__law_word (T : Txt K mg) : FnOk P w K mg base (L2.CX P w) 2 T.a_f__law_word T.d_f__law_word ["bag"] (spI T.G f__law_word) := fn_okG (k := 1) (body := b_f__law_word) rfl rfl sp_f__law_word.2 bd_f__law_word.2 T.F_f__law_word sc_f__law_word fun cdv A outer s H E hr => by
  have L := layX (P := P) (w := w) (mg := mg) (base := base) (x := "") (qual := "_law_word") (sc := sp_f__law_word.1) (N := ["bag", "letters", "size", "m"]) (f := T.a_f__law_word) (cdv := cdv) (A := A) (outer := outer) (s := s) (H := H) (E := E) (show K = T.G.K from rfl)
  have hu := hr.units
  exact (z_cons (z_set sc_f__law_word.nd rfl (Or.inr rfl) (q_str [97, 98, 99, 100, 101, 102, 103, 104, 105, 106, 107, 108, 109, 110, 111, 112, 113, 114, 115, 116, 117, 118, 119, 120, 121, 122] (by decide +kernel)))
    (z_cons (z_set sc_f__law_word.nd rfl (Or.inl rfl) (q_add false L q_int (k_call L (ok_f__law_take T) (hr.mono (by decide)) rfl T.g_f__law_take T.F_f__law_take.kp T.b_f__law_take (a_cons (qv 0) (a_cons q_int a_nil)))))
    (z_one (z_ret (k_join L (q_str [] (by decide +kernel)) (a_cons (q_lc false [("m", 3)] rfl rfl sc_f__law_word.nd (w_range1 rfl T.no_range (a_cons (qv 2) a_nil)) (blkOk_by (by show blkC ["bag", "letters", "size", "m"] sp_f__law_word.1 _ [("m", 3)] = true; decide +kernel)) (fun _ _ _ _ _ => (h_name sc_f__law_word.nd rfl (Or.inl rfl))) (fun _ _ _ _ _ => ts_nil) (fun _ _ _ _ _ => (q_ix (Lay.none rfl) (qv 1) (k_call (Lay.none rfl) (ok_f__law_take T) (hr.mono (by decide)) rfl T.g_f__law_take T.F_f__law_take.kp T.b_f__law_take (a_cons (qv 0) (a_cons q_int a_nil)))))) a_nil))))))
def bd_f_law : {b : List Stmt // defBody s_f_law = b} := by
  refine ⟨?b, ?h⟩
  case h => conv => lhs; whnf
def sp_f_law : {b : Scope // defScope s_f_law = b} := by
  refine ⟨?b, ?h⟩
  case h => conv => lhs; whnf
theorem sc_f_law : FnScope ["script", "bag", "size", "large", "early", "rows", "task", "log", "m", "at", "release", "pair", "row"] ["script"] sp_f_law.1 := ⟨rfl, rfl, rfl, by decide +kernel, rfl, by decide +kernel, by decide +kernel⟩
theorem ok_f_law (T : Txt K mg) : FnOk P w K mg base (L2.CX P w) 8 T.a_f_law T.d_f_law ["script"] (spI T.G f_law) := fn_okG (k := 7) (body := b_f_law) rfl rfl sp_f_law.2 bd_f_law.2 T.F_f_law sc_f_law fun cdv A outer s H E hr => by
  have L := layX (P := P) (w := w) (mg := mg) (base := base) (x := "") (qual := "law") (sc := sp_f_law.1) (N := ["script", "bag", "size", "large", "early", "rows", "task", "log", "m", "at", "release", "pair", "row"]) (f := T.a_f_law) (cdv := cdv) (A := A) (outer := outer) (s := s) (H := H) (E := E) (show K = T.G.K from rfl)
  have hu := hr.units
  exact (z_cons (z_set sc_f_law.nd rfl (Or.inl rfl) (k_call L (ok_f__law_bag T) (hr.mono (by decide)) rfl T.g_f__law_bag T.F_f__law_bag.kp T.b_f__law_bag (a_cons (qv 0) (a_cons q_int a_nil))))
    (z_cons (z_set sc_f_law.nd rfl (Or.inl rfl) (q_add false L q_int (k_call L (ok_f__law_take T) (hr.mono (by decide)) rfl T.g_f__law_take T.F_f__law_take.kp T.b_f__law_take (a_cons (qv 1) (a_cons q_int a_nil)))))
    (z_cons (z_set sc_f_law.nd rfl (Or.inl rfl) (q_eq L hu (k_call L (ok_f__law_take T) (hr.mono (by decide)) rfl T.g_f__law_take T.F_f__law_take.kp T.b_f__law_take (a_cons (qv 1) (a_cons q_int a_nil))) q_int))
    (z_cons (z_set sc_f_law.nd rfl (Or.inl rfl) (q_ix L (q_lst false (a_cons q_int (a_cons q_int (a_cons q_int (a_cons q_int (a_cons q_int (a_cons q_int a_nil))))))) (k_call L (ok_f__law_take T) (hr.mono (by decide)) rfl T.g_f__law_take T.F_f__law_take.kp T.b_f__law_take (a_cons (qv 1) (a_cons q_int a_nil)))))
    (z_cons (z_if (qt_tru L (qv 3))
    (z_one (z_set sc_f_law.nd rfl (Or.inl rfl) (k_call L (ok_f__law_take T) (hr.mono (by decide)) rfl T.g_f__law_take T.F_f__law_take.kp T.b_f__law_take (a_cons (qv 1) (a_cons q_int a_nil)))))
    z_nil)
    (z_cons (z_set sc_f_law.nd rfl (Or.inl rfl) (k_call L (ok_f__law_rows T) (hr.mono (by decide)) rfl T.g_f__law_rows T.F_f__law_rows.kp T.b_f__law_rows (a_cons (qv 0) (a_cons (qv 2) (a_cons (q_add false L (q_add false L (qv 4) q_int) (k_call L (ok_f__law_take T) (hr.mono (by decide)) rfl T.g_f__law_take T.F_f__law_take.kp T.b_f__law_take (a_cons (qv 1) (a_cons q_int a_nil)))) (a_cons (qv 3) a_nil))))))
    (z_cons (z_set sc_f_law.nd rfl (Or.inl rfl) (k_newK true L T.mk_Task (ok_f_Task___init__ T) (hr.mono (by decide)) rfl T.mgc_Task T.kb_f_Task___init___0 rfl (fun _ => Rls.nil) rfl (a_cons (k_call L (ok_f__law_word T) (hr.mono (by decide)) rfl T.g_f__law_word T.F_f__law_word.kp T.b_f__law_word (a_cons (qv 1) a_nil)) (a_cons (k_list false L rfl rfl T.no_list (a_cons (qv 5) a_nil)) a_nil)) (kw_cons (qv 4) kw_nil)))
    (z_cons (z_set sc_f_law.nd rfl (Or.inl rfl) (k_call L (ok_f__law_good T) (hr.mono (by decide)) rfl T.g_f__law_good T.F_f__law_good.kp T.b_f__law_good (a_cons (qv 0) (a_cons (qv 5) (a_cons (qv 4) a_nil)))))
    (z_cons (z_if (qt_not (qt_tru L (k_call L (ok_f__law_right T) (hr.mono (by decide)) rfl T.g_f__law_right T.F_f__law_right.kp T.b_f__law_right (a_cons (qv 6) (a_cons (qv 5) (a_cons (qv 4) (a_cons (qv 7) a_nil)))))))
    (z_one (z_ret q_bl))
    z_nil)
    (z_cons (z_for (passes_of rfl) rfl (w_range1 rfl T.no_range (a_cons (k_call L (ok_f__law_take T) (hr.mono (by decide)) rfl T.g_f__law_take T.F_f__law_take.kp T.b_f__law_take (a_cons (qv 1) (a_cons q_int a_nil))) a_nil)) (g_name sc_f_law.nd rfl (Or.inl rfl))
    (z_one (z_if (qt_gt (k_len L rfl T.no_len (a_cons (qv 7) a_nil)) q_int)
    (z_one (z_set sc_f_law.nd rfl (Or.inl rfl) (k_call L (ok_f__law_bent T) (hr.mono (by decide)) rfl T.g_f__law_bent T.F_f__law_bent.kp T.b_f__law_bent (a_cons (qv 1) (a_cons (qv 7) (a_cons (k_call L (ok_f__law_take T) (hr.mono (by decide)) rfl T.g_f__law_take T.F_f__law_take.kp T.b_f__law_take (a_cons (qv 1) (a_cons (k_len L rfl T.no_len (a_cons (qv 7) a_nil)) a_nil))) a_nil))))))
    z_nil)))
    (z_cons (z_if (qt_not (qt_tru L (k_call L (ok_f__law_right T) (hr.mono (by decide)) rfl T.g_f__law_right T.F_f__law_right.kp T.b_f__law_right (a_cons (qv 6) (a_cons (qv 5) (a_cons (qv 4) (a_cons (qv 7) a_nil)))))))
    (z_one (z_ret q_bl))
    z_nil)
    (z_cons (z_set sc_f_law.nd rfl (Or.inl rfl) (k_call L (ok_f__law_due T) (hr.mono (by decide)) rfl T.g_f__law_due T.F_f__law_due.kp T.b_f__law_due (a_cons (qv 5) (a_cons (qv 4) (a_cons (qv 7) a_nil)))))
    (z_cons (z_if (qt_is (qv 9) q_non)
    (z_cons (z_set sc_f_law.nd rfl (Or.inl rfl) (k_len L rfl T.no_len (a_cons (qv 7) a_nil)))
    (z_cons (z_set sc_f_law.nd rfl (Or.inl rfl) (q_add false L (k_sum L rfl rfl T.no_sum (a_cons (q_lcA false [("pair", 11)] rfl rfl sc_f_law.nd (w_anyA L (q_sl false L (qv 7) (o_some (q_neg q_int)) o_none)) (blkOk_by (by show blkC ["script", "bag", "size", "large", "early", "rows", "task", "log", "m", "at", "release", "pair", "row"] sp_f_law.1 _ [("pair", 11)] = true; decide +kernel)) (fun _ _ _ _ _ => (h_name sc_f_law.nd rfl (Or.inl rfl))) (fun _ _ _ _ _ => ts_nil) (fun _ _ _ _ _ => (q_ix (Lay.none rfl) (qv 11) q_int))) a_nil)) q_int))
    (z_cons (z_set sc_f_law.nd rfl (Or.inl rfl) (q_add false L (qv 7) (q_lst false (a_cons (q_tup (a_cons (qv 10) (a_cons (q_add false L (q_add false L (k_max1 L rfl rfl T.no_max (a_cons (q_lcA false [("row", 12)] rfl rfl sc_f_law.nd (w_anyA L (qv 5)) (blkOk_by (by show blkC ["script", "bag", "size", "large", "early", "rows", "task", "log", "m", "at", "release", "pair", "row"] sp_f_law.1 _ [("row", 12)] = true; decide +kernel)) (fun _ _ _ _ _ => (h_name sc_f_law.nd rfl (Or.inl rfl))) (fun _ _ _ _ _ => ts_nil) (fun _ _ _ _ _ => (k_call (Lay.none rfl) (ok_f__law_high T) (hr.mono (by decide)) rfl T.g_f__law_high T.F_f__law_high.kp T.b_f__law_high (a_cons (qv 12) a_nil)))) a_nil)) q_int) (k_call L (ok_f__law_take T) (hr.mono (by decide)) rfl T.g_f__law_take T.F_f__law_take.kp T.b_f__law_take (a_cons (qv 1) (a_cons q_int a_nil)))) a_nil))) a_nil))))
    (z_one (z_if (qt_not (qt_tru L (k_call L (ok_f__law_right T) (hr.mono (by decide)) rfl T.g_f__law_right T.F_f__law_right.kp T.b_f__law_right (a_cons (qv 6) (a_cons (qv 5) (a_cons (qv 4) (a_cons (qv 7) a_nil)))))))
    (z_one (z_ret q_bl))
    z_nil)))))
    z_nil)
    (z_one (z_ret (k_call L (ok_f__law_around T) (hr.mono (by decide)) rfl T.g_f__law_around T.F_f__law_around.kp T.b_f__law_around (a_cons (qv 1) (a_cons (qv 6) (a_cons (qv 5) (a_cons (qv 4) (a_cons (qv 7) (a_cons (qv 9) a_nil))))))))))))))))))))))
end
end M
namespace M
open PySem L2 F

/-! ### tasks as data -/
structure Seg where
  lo : Int
  hi : Int
  hold : List Nat
structure Frm where
  gap : Int
  due : Int
  work : List Seg
def Seg.d (s : Seg) : D := .tup [.int s.lo, .int s.hi, .str s.hold]
def workD (ws : List Seg) : D := .tup (ws.map Seg.d)
def Frm.d (f : Frm) : D := .tup [.int f.gap, .int f.due, workD f.work]
def framesD (fs : List Frm) : D := .tup (fs.map Frm.d)
def taskD (name : List Nat) (fs : List Frm) (j : Int) : D := .obj c_Task [.str name, framesD fs, .int j]
abbrev Let (c : Nat) : Prop := 97 ≤ c ∧ c ≤ 122
def asc : List Nat → Bool
  | a :: b :: r => decide (a < b) && asc (b :: r)
  | _ => true
def HoldOk (h : List Nat) : Prop := h = [] ∨ h = [42] ∨ (1 ≤ h.length ∧ h.length ≤ 4 ∧ (∀ c ∈ h, Let c) ∧ asc h = true)
structure Seg.ok (s : Seg) : Prop where
  a : 1 ≤ s.lo
  b : s.lo ≤ s.hi
  c : s.hi ≤ 240
  h : HoldOk s.hold
structure Frm.ok (f : Frm) : Prop where
  g1 : 1 ≤ f.gap
  g2 : f.gap ≤ 240
  d1 : 1 ≤ f.due
  d2 : f.due ≤ 480
  w1 : 1 ≤ f.work.length
  w2 : f.work.length ≤ 4
  w : ∀ s ∈ f.work, s.ok
/-- each due is at most the gap and the due behind it -/
def Order (fs : List Frm) : Prop := ∀ (i : Nat) (f g : Frm), fs[i]? = some f → fs[(i + 1) % fs.length]? = some g → f.due ≤ f.gap + g.due
structure FsOk (fs : List Frm) (j : Int) : Prop where
  n1 : 1 ≤ fs.length
  n2 : fs.length ≤ 4
  f : ∀ x ∈ fs, x.ok
  j1 : 0 ≤ j
  j2 : j ≤ 240
  jd : ∀ x ∈ fs, j < x.due
  o : Order fs
structure NameOk (name : List Nat) : Prop where
  l1 : 1 ≤ name.length
  l2 : name.length ≤ 8
  l : ∀ c ∈ name, Let c

theorem lt1 {a b : Nat} : ([a] < [b]) ↔ a < b := by
  constructor
  · intro h
    rcases List.cons_lt_cons_iff.mp h with z | ⟨_, z⟩
    · exact z
    · exact absurd z (List.lt_irrefl _)
  · intro h
    exact List.cons_lt_cons_iff.mpr (.inl h)
theorem letter_ok {st : Sto} {c : Nat} : Ret (f__is_letter [.str [c]] st) (fun d s => d = .bl (decide (Let c)) ∧ st = s) NX := by
  unfold f__is_letter b_f__is_letter
  rw [Ret_body]
  by_cases h1 : 97 ≤ c
  · have h1' : ¬ ([c] < [97]) := fun z => by have := lt1.mp z; omega
    by_cases h2 : c ≤ 122
    · have h2' : ¬ ([122] < [c]) := fun z => by have := lt1.mp z; omega
      simp -dsimp [h1', h2', Let, h1, h2]
    · have h2' : [122] < [c] := lt1.mpr (by omega)
      simp -dsimp [h1', h2', Let, h1, h2]
  · have h1' : [c] < [97] := lt1.mpr (by omega)
    simp -dsimp [h1', Let, h1]
theorem letter_ev {env : F.Env} {st : Sto} {c : Nat} {a : Ev} (h : a env st = .ok (.str [c]) st) : eFn f__is_letter [] (aCons a aNil) env st = .ok (.bl (decide (Let c))) st := by
  obtain ⟨d, s, e, rfl, rfl⟩ := (letter_ok (st := st) (c := c)).out
  simp -dsimp [h, e]
theorem letters_ok {st : Sto} {w : List Nat} (hl : w.length ≤ 100000) : Ret (f__is_letters [.str w] st) (fun d s => d = .bl (decide (w ≠ [] ∧ ∀ c ∈ w, Let c)) ∧ st = s) NX := by
  unfold f__is_letters b_f__is_letters
  rw [Ret_body]
  by_cases hw : w = []
  · subst hw
    simp -dsimp
  · have hl2 : (w.map fun c => D.str [c]).length ≤ 16777216 := by rw [List.length_map]; omega
    simp -dsimp [hw]
    refine ⟨by omega, ?_⟩
    rw [comp_fun (h := fun c => D.bl (decide (Let c))) fun c _ => ⟨_, rfl, letter_ev (a := eVar 1) rfl⟩]
    simp -dsimp [r_all, hw]
    rw [Bool.eq_iff_iff]
    simp
theorem isi_str {x : D} {st : Sto} (h : typeD x st = some (.b "str")) : fIsi isiTb [x, .ty "str"] st = .ok (.bl true) st := by
  have i1 : isiT isiTb (.b "str") (.b "str") = some true := by decide +kernel
  simp -dsimp [fIsi, h, clsD, i1]
theorem hold_ok {st : Sto} {h : List Nat} (ho : HoldOk h) : Ret (f_is_hold [.str h] st) (fun d s => d = .bl true ∧ st = s) NX := by
  unfold f_is_hold b_f_is_hold
  rw [Ret_body]
  have it : typeD (.str h) st = some (.b "str") := rfl
  rcases ho with rfl | rfl | ⟨h1, h2, h3, h4⟩
  · simp -dsimp [isi_str it]
  · simp -dsimp [isi_str it]
  · have hne : h ≠ [] := fun z => by rw [z] at h1; simp at h1
    have hns : h ≠ [42] := fun z => by
      have := h3 42 (by rw [z]; simp)
      unfold Let at this
      omega
    have hl16 : h.length ≤ 16777216 := by omega
    have h5 : ¬ (4 : Int) < h.length := by omega
    simp -dsimp [isi_str it, hne, hns, hl16, h5]
    refine (letters_ok (by omega)).call ?_
    rintro _ _ ⟨rfl, rfl⟩
    have hd : (decide (h ≠ [] ∧ ∀ c ∈ h, Let c)) = true := decide_eq_true ⟨hne, h3⟩
    rw [hd]
    simp -dsimp [hl16]
    have hz : ∀ h : List Nat, asc h = true → ∀ k, (hk : k < (h.zip (h.drop 1)).length) → ((h.zip (h.drop 1))[k]).1 < ((h.zip (h.drop 1))[k]).2 := by
      intro h
      induction h with
      | nil => intro _ k hk; simp at hk
      | cons a r ih =>
        intro ha k hk
        cases r with
        | nil => simp at hk
        | cons b r =>
          unfold asc at ha
          rw [Bool.and_eq_true, decide_eq_true_eq] at ha
          cases k with
          | zero => simpa using ha.1
          | succ k =>
            have := ih ha.2 k (by simpa using hk)
            simpa using this
    have e1 : cutD h (some 1) none = h.tail := by rw [cut_from (by decide)]; exact List.drop_one
    have e2 : List.zipWith (fun a b => D.tup [.str [a], .str [b]]) h h.tail = (h.zip h.tail).map fun x => D.tup [.str [x.1], .str [x.2]] := by
      rw [List.zip, List.map_zipWith]
    simp -dsimp [hl16, e1]
    refine ⟨by omega, ?_⟩
    rw [e2, comp_fun (h := fun x => D.bl (decide (x.1 < x.2))) fun x _ => ⟨_, rfl, by simp -dsimp [lt1]⟩]
    simp -dsimp [r_all]
    intro a b hab
    obtain ⟨k, hk, e⟩ := List.getElem_of_mem hab
    have hk' : k < (h.zip (h.drop 1)).length := by rw [List.drop_one]; exact hk
    have := hz h h4 k hk'
    have e5 : (h.zip (h.drop 1))[k] = (a, b) := by
      rw [← e]
      congr 1
      rw [List.drop_one]
    rw [e5] at this
    exact this
end M
namespace M
open PySem L2 F

theorem name_ok {st : Sto} {w : List Nat} (h : NameOk w) : Ret (f_is_name [.str w] st) (fun d s => d = .bl true ∧ st = s) NX := by
  unfold f_is_name b_f_is_name
  rw [Ret_body]
  obtain ⟨h1, h2, h3⟩ := h
  have it : typeD (.str w) st = some (.b "str") := rfl
  have hl : w.length ≤ 16777216 := by omega
  have hl2 : (w.length : Int) ≤ 8 := by omega
  simp -dsimp [isi_str it, hl, hl2]
  refine (letters_ok (by omega)).call ?_
  rintro _ _ ⟨rfl, rfl⟩
  have hne : w ≠ [] := fun z => by rw [z] at h1; simp at h1
  have hd : (decide (w ≠ [] ∧ ∀ c ∈ w, Let c)) = true := decide_eq_true ⟨hne, h3⟩
  rw [hd]
  simp -dsimp
theorem r_tupleL {ds : List D} {st : Sto} : fTuple [.lst ds] st = .ok (.tup ds) st := rfl
theorem copied_ok {st : Sto} {fs : List Frm} (h : fs.length ≤ 4) (hw : ∀ f ∈ fs, f.work.length ≤ 4) : Ret (f__copied [.lst (fs.map Frm.d)] st) (fun d s => d = framesD fs ∧ st = s) NX := by
  unfold f__copied b_f__copied
  rw [Ret_body]
  simp -dsimp
  refine ⟨by omega, ?_⟩
  rw [comp_fun (h := Frm.d) fun f hf => ⟨_, rfl, by
    have hl : f.work.length ≤ 16777216 := by have := hw f hf; omega
    simp -dsimp [workD, hl]
    rw [comp_fun (h := Seg.d) fun s _ => ⟨_, rfl, by simp -dsimp [Seg.d]⟩]
    simp -dsimp [r_tupleL, Frm.d, workD]⟩]
  simp -dsimp [r_tupleL, framesD]
theorem frame_ok {st : Sto} {f : Frm} (h : f.ok) : Ret (f__check_frame [.int f.gap, .int f.due, workD f.work] st) (fun d s => d = .non ∧ st = s) NX := by
  unfold f__check_frame b_f__check_frame
  rw [Ret_body]
  obtain ⟨g1, g2, d1, d2, w1, w2, hw⟩ := h
  have l1 : (1 : Int) ≤ f.work.length := by omega
  have l2 : (f.work.length : Int) ≤ 4 := by omega
  simp -dsimp [g1, g2, d1, d2, workD, l1, l2]
  refine loop_inv (fun i e s => ∃ v3 v4 v5 : Option D, e = [some (.int f.gap), some (.int f.due), some (workD f.work), v3, v4, v5] ∧ st = s) ⟨none, none, none, rfl, rfl⟩ ?_ ?_
  · rintro i d env _ hd ⟨v3, v4, v5, rfl, rfl⟩
    rw [List.getElem?_map] at hd
    cases q : f.work[i]? with
    | none => rw [q] at hd; cases hd
    | some s =>
      rw [q] at hd
      cases hd
      obtain ⟨a, b, c, hh⟩ := hw s (List.mem_of_getElem? q)
      refine ⟨_, rfl, ?_⟩
      simp -dsimp [a, b, c]
      refine (hold_ok hh).call ?_
      rintro _ _ ⟨rfl, rfl⟩
      simp -dsimp
  · rintro env _ ⟨v3, v4, v5, rfl, rfl⟩
    simp -dsimp
theorem frames_ok {st : Sto} {fs : List Frm} {j : Int} (h : FsOk fs j) : Ret (f__check_frames [framesD fs, .int j] st) (fun d s => d = .non ∧ st = s) NX := by
  obtain ⟨n1, n2, hf, j1, j2, jd, ho⟩ := h
  unfold f__check_frames b_f__check_frames
  rw [Ret_body]
  have l1 : (1 : Int) ≤ fs.length := by omega
  have l2 : (fs.length : Int) ≤ 4 := by omega
  refine ⟨rfl, OutW.seq (fun e s => e = [some (framesD fs), some (.int j), none, none, none, none, none] ∧ st = s) ?_ ?_⟩
  · simp -dsimp [framesD, l1, l2]
  rintro _ _ ⟨rfl, rfl⟩
  refine OutW.seq (fun e s => ∃ v2 v3 v4 : Option D, e = [some (framesD fs), some (.int j), v2, v3, v4, none, none] ∧ st = s) ?_ ?_
  · simp -dsimp [framesD]
    refine loop_inv (fun i e s => ∃ v2 v3 v4 : Option D, e = [some (framesD fs), some (.int j), v2, v3, v4, none, none] ∧ st = s) ⟨none, none, none, rfl, rfl⟩ ?_ ?_
    · rintro i d env _ hd ⟨v2, v3, v4, rfl, rfl⟩
      rw [List.getElem?_map] at hd
      cases q : fs[i]? with
      | none => rw [q] at hd; cases hd
      | some f =>
        rw [q] at hd
        cases hd
        refine ⟨_, rfl, ?_⟩
        simp -dsimp
        refine (frame_ok (hf f (List.mem_of_getElem? q))).call ?_
        rintro _ _ ⟨rfl, rfl⟩
        simp -dsimp
    · rintro env _ ⟨v2, v3, v4, rfl, rfl⟩
      exact ⟨_, _, _, rfl, rfl⟩
  rintro _ _ ⟨v2, v3, v4, rfl, rfl⟩
  refine OutW.seq (fun e s => e = [some (framesD fs), some (.int j), v2, v3, v4, none, none] ∧ st = s) ?_ ?_
  · simp -dsimp [j1, j2, framesD]
    refine ⟨by omega, ?_⟩
    rw [comp_fun (h := fun f => D.bl (decide (f.due ≤ j))) fun f _ => ⟨_, rfl, by simp -dsimp [Frm.d]⟩]
    simp -dsimp [r_any]
    have hn : (fs.any fun f => decide (f.due ≤ j)) = false := by
      rw [List.any_eq_false]
      intro f hf'
      have := jd f hf'
      simp
      omega
    exact ⟨jd, rfl⟩
  rintro _ _ ⟨rfl, rfl⟩
  have e1 : cutD (fs.map Frm.d) (some 1) none = (fs.drop 1).map Frm.d := by rw [cut_from (by decide), ← List.map_drop]; rfl
  have e2 : cutD (fs.map Frm.d) none (some 1) = (fs.take 1).map Frm.d := by rw [cut_to (by decide), ← List.map_take]; rfl
  have e3 : List.zipWith (fun x y => D.tup [x, y]) (fs.map Frm.d) ((fs.drop 1).map Frm.d ++ (fs.take 1).map Frm.d) = (fs.zip (fs.drop 1 ++ fs.take 1)).map fun x => D.tup [x.1.d, x.2.d] := by
    rw [← List.map_append, List.zipWith_map, List.zip, List.map_zipWith]
  have hz : wZip (aCons (eVar 0) (aCons (eBin (fAdd false) (eSl false (eVar 0) (oSome (eC (.int 1))) oNone) (eSl false (eVar 0) oNone (oSome (eC (.int 1))))) aNil)) [some (framesD fs), some (.int j), v2, v3, v4, none, none] st = .ok ((fs.zip (fs.drop 1 ++ fs.take 1)).map fun x => D.tup [x.1.d, x.2.d]) st := by
    rw [← e3]
    have l3 : (fs.length - 1) + min 1 fs.length ≤ 16777216 := by omega
    unfold wZip
    simp -dsimp only [r_aCons, r_aNil, r_eVar, r_eBin, r_eSl, r_oSome, r_oNone, r_eC, List.getElem?_cons_zero, framesD, r_bind_ok, r_slT, r_addT, e1, e2, szl, List.length_map, List.length_drop, List.length_take, l3, if_true]
  rw [r_sFor, OutW_andS, hz, Ret_ok]
  refine loop_inv (fun i e s => ∃ v5 v6 : Option D, e = [some (framesD fs), some (.int j), v2, v3, v4, v5, v6] ∧ st = s) ⟨none, none, rfl, rfl⟩ ?_ ?_
  · rintro i d env _ hd ⟨v5, v6, rfl, rfl⟩
    rw [List.getElem?_map] at hd
    cases q : (fs.zip (fs.drop 1 ++ fs.take 1))[i]? with
    | none => rw [q] at hd; cases hd
    | some x =>
      rw [q] at hd
      cases hd
      have hx : x.1.due ≤ x.1.gap + x.2.due := by
        rw [List.getElem?_zip_eq_some] at q
        obtain ⟨q1, q2⟩ := q
        refine ho i x.1 x.2 q1 ?_
        have hi := (List.getElem?_eq_some_iff.mp q1).1
        rw [List.getElem?_append, List.length_drop] at q2
        by_cases h1 : i < fs.length - 1
        · rw [if_pos h1, List.getElem?_drop] at q2
          rw [Nat.mod_eq_of_lt (by omega), Nat.add_comm]
          exact q2
        · rw [if_neg h1, List.getElem?_take_of_lt (by omega)] at q2
          have e : (i + 1) % fs.length = i - (fs.length - 1) := by
            rw [show i + 1 = fs.length by omega, Nat.mod_self]
            omega
          rw [e]
          exact q2
      have hx' : ¬ (x.1.gap + x.2.due < x.1.due) := by omega
      refine ⟨_, rfl, ?_⟩
      simp -dsimp [Frm.d, hx']
  · rintro env _ ⟨v5, v6, rfl, rfl⟩
    simp -dsimp
theorem init_ok {st : Sto} {i : Nat} {name : List Nat} {fs : List Frm} {j : Int} (hi : st[i]? = some (.ins c_Task [])) (hn : NameOk name) (h : FsOk fs j) :
    Ret (f_Task___init__ [.ref i, .str name, .lst (fs.map Frm.d), .int j] st) (fun d s => d = .non ∧ s = st.set i (.ins c_Task [.str name, framesD fs, .int j])) NX := by
  unfold f_Task___init__ b_f_Task___init__
  rw [Ret_body]
  have hlt := (List.getElem?_eq_some_iff.mp hi).1
  simp -dsimp
  refine (name_ok hn).call ?_
  rintro _ _ ⟨rfl, rfl⟩
  simp -dsimp
  refine (copied_ok h.n2 fun f hf => (h.f f hf).w2).call ?_
  rintro _ _ ⟨rfl, rfl⟩
  simp -dsimp
  refine (frames_ok h).call ?_
  rintro _ _ ⟨rfl, rfl⟩
  have hs : ∀ c : Cell, (st.set i c)[i]? = some c := fun c => List.getElem?_set_self hlt
  simp -dsimp [clsOf, hi, hs, ix_name, ix_frames, ix_jitter, setFld]
end M
namespace M
open PySem L2 F

/-! ### the bag -/
def BagC (n : Nat) (c : Cell) : Prop := ∃ a b g : Int, c = .lst [.int a, .int b, .int g] ∧ 0 ≤ a ∧ 0 ≤ b ∧ b < 2147483647 ∧ 0 ≤ g ∧ g ≤ n
def BG (n i : Nat) (st : Sto) : Prop := ∃ c, st[i]? = some c ∧ BagC n c
theorem BG.mono {n m i : Nat} {st : Sto} (h : BG n i st) (k : n ≤ m) : BG m i st := by
  obtain ⟨c, h1, a, b, g, rfl, q1, q2, q3, q4, q5⟩ := h
  exact ⟨_, h1, a, b, g, rfl, q1, q2, q3, q4, by omega⟩
theorem BG.keep {n i : Nat} {st st' : Sto} {ex : List Nat} (h : BG n i st) (k : Sm ex st st') (hi : i ∉ ex) : BG n i st' := by
  obtain ⟨c, h1, h2⟩ := h
  exact ⟨c, k.2 _ _ hi h1, h2⟩
theorem BG.lt {n i : Nat} {st : Sto} (h : BG n i st) : i < st.length := by
  obtain ⟨c, h1, h2⟩ := h
  exact (List.getElem?_eq_some_iff.mp h1).1
structure Ag (n i : Nat) (st s : Sto) : Prop where
  hb : BG n i s
  sm : Sm [i] st s
theorem Ag.go {n m i : Nat} {a b c : Sto} (h : Ag n i a b) (k : Ag m i b c) : Ag m i a c := ⟨k.hb, h.sm.trans k.sm⟩
theorem Ag.mono {n m i : Nat} {a b : Sto} (h : Ag n i a b) (k : n ≤ m) : Ag m i a b := ⟨h.hb.mono k, h.sm⟩
theorem Ag.keep {n i : Nat} {st s s' : Sto} (h : Ag n i st s) (k : Sm [] s s') : Ag n i st s' := ⟨h.hb.keep k (by simp), h.sm.trans (k.wide (by simp))⟩
theorem take_ok {st : Sto} {i n : Nat} {many : Int} (h : BG n i st) (hn : n < 2 ^ 100) (h0 : 0 < many) (h1 : many < 2 ^ 200) :
    Ret (f__law_take [.ref i, .int many] st) (fun d s => ∃ r : Int, d = .int r ∧ 0 ≤ r ∧ r < many ∧ Ag (n + 1) i st s) NX := by
  obtain ⟨c, hc, a, b, g, rfl, q1, q2, q3, q4, q5⟩ := h
  have hs : ∀ c : Cell, (st.set i c)[i]? = some c := fun c => by rw [set_self, hc]; rfl
  have hd : ∀ x, bDiv x many = true := fun x => bDiv_small h0 (by omega)
  have hm : ∀ x, bMod x many = true := fun x => bMod_pos h0
  have fin : ∀ a b g : Int, 0 ≤ a → 0 ≤ b → b < 2147483647 → 0 ≤ g → g ≤ (n : Int) + 1 → Ag (n + 1) i st (st.set i (.lst [.int a, .int b, .int g])) := fun a b g z1 z2 z3 z4 z5 => ⟨⟨_, hs _, a, b, g, rfl, z1, z2, z3, z4, by omega⟩, Sm.set (by simp)⟩
  have hsm : ∀ x k : Int, 0 < k → k < 2147483647 → bDiv x k = true := fun x k h h' => bDiv_small h (by omega)
  unfold f__law_take b_f__law_take
  rw [Ret_body]
  by_cases ha : 0 < a
  · simp -dsimp [hc, ha, hm, hd, cellL, ixN, hs]
    refine ⟨Int.emod_nonneg _ (by omega), Int.emod_lt_of_pos _ h0, ?_⟩
    exact fin _ _ _ (Int.ediv_nonneg (by omega) (by omega)) q2 q3 q4 (by omega)
  · have m1 : bMul b 48271 = true := bMul_small (by omega) (by decide)
    have m2 : bMul g g = true := bMul_small (by omega) (by omega)
    have z1 := Int.emod_nonneg (b * 48271 + g * g + 11) (show (2147483647 : Int) ≠ 0 by decide)
    have z2 := Int.emod_lt_of_pos (b * 48271 + g * g + 11) (show (0 : Int) < 2147483647 by decide)
    have m3 : bMul ((b * 48271 + g * g + 11) % 2147483647) 69621 = true := bMul_small (by omega) (by decide)
    simp -dsimp [hc, ha, hm, hd, cellL, ixN, hs, m1, m2, m3, bMod_pos, hsm]
    refine ⟨Int.emod_nonneg _ (by omega), Int.emod_lt_of_pos _ h0, ?_⟩
    exact fin _ _ _ q1 z1 z2 (by omega) (by omega)
theorem cell_ok {st : Sto} {ns : List Int} {spot : Nat} (hs : spot < 1000) : Ret (f__law_cell [.rol (ns.map .int), .int spot] st) (fun d s => ∃ r : Int, d = .int r ∧ 0 ≤ r ∧ st = s) NX := by
  unfold f__law_cell b_f__law_cell
  rw [Ret_body]
  by_cases h : spot < ns.length
  · have ha : atI (ns.map D.int) (spot : Nat) = some (.int ns[spot]) := by
      rw [atI_in (by omega) (by rw [List.length_map]; omega)]
      simp
    simp -dsimp [h, ha, fAbs]
    split <;> omega
  · have m1 : bMul 7919 ((spot : Int) + 1) = true := bMul_small (by decide) (by omega)
    have hc : cutD (ns.map D.int) none (some 1) = (ns.map D.int).take 1 := by rw [cut_to (by decide)]; rfl
    have hsum : ∀ st : Sto, fSum [.lst ((ns.map D.int).take 1)] st = .ok (.int (ns.take 1).sum) st := fun st => by
      rw [← List.map_take]
      show (match (some ((ns.take 1).map D.int)).bind asInts with | some ns => Res.ok (D.int ns.sum) st | none => .bad) = _
      have := asInts_map (ns.take 1) id
      simp only [id_eq, List.map_id'] at this
      rw [List.map_id] at this
      rw [show (some ((ns.take 1).map D.int)).bind asInts = _ from this]
    have hz : ∀ z : Int, 0 ≤ z % 1000003 := fun z => Int.emod_nonneg _ (by decide)
    simp -dsimp [h, m1, hc, hsum, fAbs, bMod_pos]
    refine Int.add_nonneg ?_ ?_
    · omega
    · exact hz _
theorem bag_ok {st : Sto} {ns : List Int} {spot : Nat} (hs : spot < 1000) : Ret (f__law_bag [.rol (ns.map .int), .int spot] st) (fun d s => d = .ref st.length ∧ BG 1000 st.length s ∧ Sm [] st s) NX := by
  unfold f__law_bag b_f__law_bag
  rw [Ret_body]
  simp -dsimp
  refine (cell_ok hs).call ?_
  rintro _ _ ⟨r, rfl, r0, rfl⟩
  have p1 : bPow 10 64 = true := by decide
  have p2 : bPow 10 18 = true := by decide
  have hb : bMod r (10 ^ 64) = true := bMod_pos (by decide)
  have z1 := Int.emod_nonneg r (show ((10 : Int) ^ 64) ≠ 0 by decide)
  have z2 := Int.emod_lt_of_pos r (show (0 : Int) < 10 ^ 64 by decide)
  generalize hR : r % (10 ^ 64) = R at z1 z2
  have m1 : bMul R 48271 = true := bMul_small (by omega) (by decide)
  have m2 : bMul (spot : Int) 69621 = true := bMul_small (by omega) (by decide)
  have z3 := Int.emod_nonneg (R * 48271 + spot * 69621 + 1) (show (2147483647 : Int) ≠ 0 by decide)
  have z4 := Int.emod_lt_of_pos (R * 48271 + spot * 69621 + 1) (show (0 : Int) < 2147483647 by decide)
  have fin : ∀ a : Int, 0 ≤ a → BG 1000 st.length (st ++ [.lst [.int a, .int ((R * 48271 + spot * 69621 + 1) % 2147483647), .int spot]]) := fun a ha => ⟨_, snoc_new, a, _, _, rfl, ha, z3, z4, by omega, by omega⟩
  have hR' : r % 10000000000000000000000000000000000000000000000000000000000000000 = R := hR
  have hb' : bMod r 10000000000000000000000000000000000000000000000000000000000000000 = true := hb
  by_cases hq : 1000000000000000000 ≤ R
  · simp -dsimp [p1, p2, hb', hR', hq, m1, m2, bMod_pos]
    exact ⟨fin _ z1, Sm.app⟩
  · simp -dsimp [p1, p2, hb', hR', hq, m1, m2, bMod_pos]
    exact ⟨fin _ (by decide), Sm.app⟩
theorem word_ok {st : Sto} {i n : Nat} (h : BG n i st) (hn : n < 2 ^ 90) : Ret (f__law_word [.ref i] st) (fun d s => ∃ w, d = .str w ∧ NameOk w ∧ Ag (n + 20) i st s) NX := by
  unfold f__law_word b_f__law_word
  rw [Ret_body]
  simp -dsimp
  refine (take_ok h (by omega) (by decide) (by decide)).call ?_
  rintro _ s1 ⟨r1, rfl, a1, b1, A1⟩
  obtain ⟨q, rfl⟩ : ∃ q : Nat, r1 = q := ⟨r1.toNat, by omega⟩
  simp -dsimp
  refine ⟨okR_of (by omega) (by omega), by rw [rangeL_len]; omega, ?_⟩
  refine comp_inv (fun k acc s => ∃ w : List Nat, acc = w.map (fun c => D.str [c]) ∧ w.length = k ∧ (∀ c ∈ w, Let c) ∧ Ag (n + 1 + k) i st s) ⟨[], rfl, rfl, by simp, A1⟩ ?_ ?_
  · rintro k d acc s hd ⟨w, rfl, hk, hw, A⟩
    obtain ⟨hk2, rfl⟩ := rangeL_get hd
    refine ⟨_, rfl, ?_⟩
    simp -dsimp
    refine (take_ok A.hb (by omega) (by decide) (by decide)).call ?_
    rintro _ s2 ⟨r2, rfl, a2, b2, A2⟩
    obtain ⟨c, hc, hlc⟩ : ∃ c, atI [97, 98, 99, 100, 101, 102, 103, 104, 105, 106, 107, 108, 109, 110, 111, 112, 113, 114, 115, 116, 117, 118, 119, 120, 121, 122] r2 = some c ∧ Let c := by
      refine ⟨_, atI_in a2 (by simpa using b2), ?_⟩
      have : ∀ c ∈ ([97, 98, 99, 100, 101, 102, 103, 104, 105, 106, 107, 108, 109, 110, 111, 112, 113, 114, 115, 116, 117, 118, 119, 120, 121, 122] : List Nat), Let c := by decide
      exact this _ (List.getElem_mem _)
    simp -dsimp [hc]
    refine ⟨w ++ [c], by simp, by simp [hk], ?_, A.go A2⟩
    intro x hx
    rcases List.mem_append.mp hx with z | z
    · exact hw x z
    · rw [show x = c from by simpa using z]; exact hlc
  · rintro acc s ⟨w, rfl, hk, hw, A⟩
    rw [rangeL_len] at hk A
    have e : (w.map fun c => D.str [c]) = (w.map fun c => [c]).map .str := by simp
    have e2 : ((w.map fun c => [c]).map List.length).sum = w.length := by
      clear e hk hw A
      induction w with
      | nil => rfl
      | cons c B ih =>
        simp only [List.map_cons, List.sum_cons, List.length_cons, ih]
        simp only [List.length_nil]
        omega
    have e3 : (w.map fun c => [c]).flatten = w := by
      clear e hk hw A e2
      induction w with
      | nil => rfl
      | cons c B ih =>
        rw [List.map_cons, List.flatten_cons, ih]
        rfl
    simp -dsimp
    rw [e, r_joinL (by rw [e2]; simp; omega), joinL_nil, e3]
    simp -dsimp
    exact ⟨⟨by omega, by omega, hw⟩, A.mono (by omega)⟩
end M
namespace M
open PySem L2 F

theorem BG.set {n i j : Nat} {s : Sto} {c : Cell} (h : BG n i s) (hj : j ≠ i) : BG n i (s.set j c) := by
  obtain ⟨x, h1, h2⟩ := h
  exact ⟨x, by rw [List.getElem?_set_ne hj]; exact h1, h2⟩
theorem getD_mem {α : Type} {l : List α} {i : Nat} {d : α} (h : i < l.length) : l.getD i d ∈ l := by
  rw [List.getD_eq_getElem?_getD, List.getElem?_eq_getElem h]
  exact List.getElem_mem h
/-! ### a list that grows beside a bag -/
structure Lv (n i : Nat) (st s : Sto) (j : Nat) (ds : List D) : Prop where
  af : Ag n i st s
  new : st.length ≤ j
  ne : j ≠ i
  at_ : s[j]? = some (.lst ds)
theorem Lv.draw {n m i j : Nat} {st s s' : Sto} {ds : List D} (h : Lv n i st s j ds) (k : Ag m i s s') : Lv m i st s' j ds := ⟨h.af.go k, h.new, h.ne, k.sm.2 _ _ (by simpa using h.ne) h.at_⟩
theorem Lv.app {n i j : Nat} {st s : Sto} {ds : List D} (h : Lv n i st s j ds) (d : D) : Lv n i st (s.set j (.lst (ds ++ [d]))) j (ds ++ [d]) := by
  refine ⟨⟨?_, ?_⟩, h.new, h.ne, ?_⟩
  · obtain ⟨c, h1, h2⟩ := h.af.hb
    exact ⟨c, by rw [List.getElem?_set_ne h.ne]; exact h1, h2⟩
  · refine (h.af.sm.wide (ey := [j, i]) (by simp)).trans (Sm.set (by simp)) |>.new h.new
  · rw [set_self, h.at_]
    rfl
theorem Lv.mk' {n i : Nat} {st s : Sto} {ds : List D} (h : Ag n i st s) (hi : i < st.length) : Lv n i st (s ++ [.lst ds]) s.length ds := by
  have := h.sm.1
  exact ⟨h.keep Sm.app, this, by omega, snoc_new⟩
theorem Lv.mono {n m i j : Nat} {st s : Sto} {ds : List D} (h : Lv n i st s j ds) (k : n ≤ m) : Lv m i st s j ds := ⟨h.af.mono k, h.new, h.ne, h.at_⟩
theorem tuple_ref {st : Sto} {j : Nat} {ds : List D} (h : st[j]? = some (.lst ds)) : fTuple [.ref j] st = .ok (.tup ds) st := by
  show (match asL (.ref j) st with | some es => Res.ok (D.tup es) st | none => .bad) = _
  rw [r_asC h]
theorem work_ok {st : Sto} {i n : Nat} {large : Bool} (h : BG n i st) (hn : n < 2 ^ 90) : Ret (f__law_work [.ref i, .bl large] st) (fun d s => ∃ ws, d = workD ws ∧ 1 ≤ ws.length ∧ ws.length ≤ 4 ∧ (∀ x ∈ ws, Seg.ok x) ∧ Ag (n + 20) i st s) NX := by
  unfold f__law_work b_f__law_work
  rw [Ret_body]
  have hi := h.lt
  refine ⟨rfl, OutW.seq (fun e s => e = [some (.ref i), some (.bl large), some (.lst [.str [], .str [], .str [109], .str [42], .str [99, 107], .str [97, 98, 99, 100]]), none, none, none, none] ∧ st = s) ?_ ?_⟩
  · simp -dsimp
  rintro _ _ ⟨rfl, rfl⟩
  refine OutW.seq (fun e s => ∃ j, e = [some (.ref i), some (.bl large), some (.lst [.str [], .str [], .str [109], .str [42], .str [99, 107], .str [97, 98, 99, 100]]), some (.ref j), none, none, none] ∧ Lv n i st s j []) ?_ ?_
  · simp -dsimp
    exact Lv.mk' ⟨h, .refl _ _⟩ hi
  rintro _ s2 ⟨j, rfl, L2⟩
  refine OutW.seq (fun e s => ∃ (ws : List Seg) (v4 v5 v6 : Option D), e = [some (.ref i), some (.bl large), some (.lst [.str [], .str [], .str [109], .str [42], .str [99, 107], .str [97, 98, 99, 100]]), some (.ref j), v4, v5, v6] ∧ (1 ≤ ws.length ∧ ws.length ≤ 3) ∧ (∀ x ∈ ws, Seg.ok x) ∧ Lv (n + 20) i st s j (ws.map Seg.d)) ?_ ?_
  · simp -dsimp
    refine (take_ok L2.af.hb (by omega) (by decide) (by decide)).call ?_
    rintro _ s1 ⟨r1, rfl, a1, b1, A1⟩
    have L2 := L2.draw A1
    obtain ⟨z, hz⟩ : ∃ z : Nat, (1 : Int) + r1 = (z : Nat) := ⟨(1 + r1).toNat, by omega⟩
    simp -dsimp [hz]
    refine ⟨okR_of (by omega) (by omega), ?_⟩
    refine loop_inv (fun k e s => ∃ (ws : List Seg) (v4 v5 v6 : Option D), e = [some (.ref i), some (.bl large), some (.lst [.str [], .str [], .str [109], .str [42], .str [99, 107], .str [97, 98, 99, 100]]), some (.ref j), v4, v5, v6] ∧ ws.length = k ∧ (∀ x ∈ ws, Seg.ok x) ∧ Lv (n + 1 + 3 * k) i st s j (ws.map Seg.d)) ⟨[], none, none, none, rfl, rfl, by simp, L2⟩ ?_ ?_
    · rintro k d env s hd ⟨ws, v4, v5, v6, rfl, hk, hw, Lw⟩
      obtain ⟨hk2, rfl⟩ := rangeL_get hd
      refine ⟨_, rfl, ?_⟩
      refine OutW.seq (fun e s => ∃ low : Int, e = [some (.ref i), some (.bl large), some (.lst [.str [], .str [], .str [109], .str [42], .str [99, 107], .str [97, 98, 99, 100]]), some (.ref j), some (.int (0 + (k : Int))), some (.int low), v6] ∧ 1 ≤ low ∧ low ≤ 240 ∧ (large = false → low ≤ 2) ∧ Lv (n + 1 + 3 * k + 1) i st s j (ws.map Seg.d)) ?_ ?_
      · cases large with
        | true =>
          simp -dsimp
          refine (take_ok Lw.af.hb (by omega) (by decide) (by decide)).call ?_
          rintro _ s3 ⟨r3, rfl, a3, b3, A3⟩
          simp -dsimp
          exact ⟨by omega, by omega, Lw.draw A3⟩
        | false =>
          simp -dsimp
          refine (take_ok Lw.af.hb (by omega) (by decide) (by decide)).call ?_
          rintro _ s3 ⟨r3, rfl, a3, b3, A3⟩
          simp -dsimp
          exact ⟨by omega, by omega, by omega, Lw.draw A3⟩
      rintro _ s3 ⟨low, rfl, l1, l2, l3, L3⟩
      refine OutW.seq (fun e s => ∃ more : Int, e = [some (.ref i), some (.bl large), some (.lst [.str [], .str [], .str [109], .str [42], .str [99, 107], .str [97, 98, 99, 100]]), some (.ref j), some (.int (0 + (k : Int))), some (.int low), some (.int more)] ∧ 0 ≤ more ∧ low + more ≤ 240 ∧ Lv (n + 1 + 3 * k + 2) i st s j (ws.map Seg.d)) ?_ ?_
      · cases large with
        | true =>
          simp -dsimp
          refine (take_ok L3.af.hb (by omega) (by omega) (by omega)).call ?_
          rintro _ s4 ⟨r4, rfl, a4, b4, A4⟩
          simp -dsimp
          exact ⟨by omega, by omega, L3.draw A4⟩
        | false =>
          have := l3 rfl
          simp -dsimp
          refine (take_ok L3.af.hb (by omega) (by decide) (by decide)).call ?_
          rintro _ s4 ⟨r4, rfl, a4, b4, A4⟩
          simp -dsimp
          exact ⟨by omega, by omega, L3.draw A4⟩
      rintro _ s4 ⟨more, rfl, m1, m2, L4⟩
      simp -dsimp [r_isLst L4.at_]
      refine (take_ok L4.af.hb (by omega) (by decide) (by decide)).call ?_
      rintro _ s5 ⟨r5, rfl, a5, b5, A5⟩
      have L5 := L4.draw A5
      obtain ⟨hold, hh, ho⟩ : ∃ hold : List Nat, atI [D.str [], .str [], .str [109], .str [42], .str [99, 107], .str [97, 98, 99, 100]] r5 = some (.str hold) ∧ HoldOk hold := by
        have : r5 = 0 ∨ r5 = 1 ∨ r5 = 2 ∨ r5 = 3 ∨ r5 = 4 ∨ r5 = 5 := by omega
        rcases this with rfl | rfl | rfl | rfl | rfl | rfl
        · exact ⟨[], rfl, .inl rfl⟩
        · exact ⟨[], rfl, .inl rfl⟩
        · exact ⟨[109], rfl, .inr (.inr ⟨by decide, by decide, by decide, by decide⟩)⟩
        · exact ⟨[42], rfl, .inr (.inl rfl)⟩
        · exact ⟨[99, 107], rfl, .inr (.inr ⟨by decide, by decide, by decide, by decide⟩)⟩
        · exact ⟨[97, 98, 99, 100], rfl, .inr (.inr ⟨by decide, by decide, by decide, by decide⟩)⟩
      simp -dsimp [hh, r_append L5.at_]
      refine ⟨by omega, ws ++ [⟨low, low + more, hold⟩], by simp [hk], ?_, ?_⟩
      · intro x hx
        rcases List.mem_append.mp hx with q | q
        · exact hw x q
        · rw [show x = ⟨low, low + more, hold⟩ from by simpa using q]
          exact ⟨l1, by show low ≤ low + more; omega, m2, ho⟩
      · rw [List.map_append]
        exact (L5.app (Seg.d ⟨low, low + more, hold⟩)).mono (by omega)
    · rintro env s ⟨ws, v4, v5, v6, rfl, hk, hw, Lw⟩
      rw [rangeL_len] at hk Lw
      exact ⟨ws, v4, v5, v6, rfl, by omega, hw, Lw.mono (by omega)⟩
  rintro _ s3 ⟨ws, v4, v5, v6, rfl, hk, hw, L3⟩
  simp -dsimp [tuple_ref L3.at_]
  exact ⟨ws, rfl, by omega, by omega, hw, L3.af⟩
/-- a list of frames stands behind st -/
structure Rw (st s : Sto) (j : Nat) (fs : List Frm) : Prop where
  sm : Sm [] st s
  new : st.length ≤ j
  at_ : s[j]? = some (.lst (fs.map Frm.d))
theorem Rw.lt {st s : Sto} {j : Nat} {fs : List Frm} (h : Rw st s j fs) : j < s.length := (List.getElem?_eq_some_iff.mp h.at_).1
theorem Rw.sms {st s s' : Sto} {j : Nat} {fs : List Frm} (h : Rw st s j fs) (k : Sm [] s s') : Rw st s' j fs := ⟨h.sm.trans k, h.new, k.2 _ _ (by simp) h.at_⟩
theorem Rw.go {st s s' : Sto} {j b : Nat} {fs : List Frm} (h : Rw st s j fs) (k : Sm [b] s s') (hb : st.length ≤ b) (hj : j ≠ b) : Rw st s' j fs := ⟨(h.sm.wide (ey := [b]) (by simp)).trans k |>.new hb, h.new, k.2 _ _ (by simpa using hj) h.at_⟩
theorem Rw.app {st s : Sto} {j : Nat} {fs : List Frm} (h : Rw st s j fs) (f : Frm) : Rw st (s.set j (.lst (fs.map Frm.d ++ [f.d]))) j (fs ++ [f]) :=
  ⟨((h.sm.wide (ey := [j]) (by simp)).trans (Sm.set (by simp))).new h.new, h.new, by rw [set_self, h.at_]; simp⟩
theorem rows_ok {st : Sto} {ns : List Int} {size : Nat} {early en : Int} {large : Bool} (n1 : 1 ≤ size) (n2 : size ≤ 4) (j1 : 0 ≤ early) (j2 : early ≤ 240) (e1 : early < en) (e2 : en ≤ 480) :
    Ret (f__law_rows [.rol (ns.map .int), .int size, .int en, .bl large] st) (fun d s => ∃ fs, d = .lst (fs.map Frm.d) ∧ FsOk fs early ∧ fs.length = size ∧ Sm [] st s) NX := by
  unfold f__law_rows b_f__law_rows
  rw [Ret_body]
  refine ⟨rfl, OutW.seq (fun e s => ∃ j, e = [some (.rol (ns.map .int)), some (.int size), some (.int en), some (.bl large), some (.ref j), none, none, none] ∧ Rw st s j []) ?_ ?_⟩
  · simp -dsimp
    exact ⟨Sm.app, Nat.le_refl _, snoc_new⟩
  rintro _ s0 ⟨j, rfl, R0⟩
  refine OutW.seq (fun e s => ∃ (fs : List Frm) (v5 v6 v7 : Option D), e = [some (.rol (ns.map .int)), some (.int size), some (.int en), some (.bl large), some (.ref j), v5, v6, v7] ∧ fs.length = size ∧ (∀ f ∈ fs, f.ok ∧ f.due = en) ∧ Rw st s j fs) ?_ ?_
  · simp -dsimp
    refine ⟨okR_of (by omega) (by omega), ?_⟩
    refine loop_inv (fun k e s => ∃ (fs : List Frm) (v5 v6 v7 : Option D), e = [some (.rol (ns.map .int)), some (.int size), some (.int en), some (.bl large), some (.ref j), v5, v6, v7] ∧ fs.length = k ∧ (∀ f ∈ fs, f.ok ∧ f.due = en) ∧ Rw st s j fs) ⟨[], none, none, none, rfl, rfl, by simp, R0⟩ ?_ ?_
    · rintro k d env s hd ⟨fs, v5, v6, v7, rfl, hk, hf, R⟩
      obtain ⟨hk2, rfl⟩ := rangeL_get hd
      have hkl : k < size := by omega
      rw [show (0 : Int) + (k : Int) = ((k : Nat) : Int) by omega]
      refine ⟨_, rfl, ?_⟩
      have e0 : (1 : Int) + (k : Int) = ((1 + k : Nat) : Int) := by omega
      refine OutW.seq (fun e s => ∃ b, e = [some (.rol (ns.map .int)), some (.int size), some (.int en), some (.bl large), some (.ref j), some (.int (k : Nat)), some (.ref b), v7] ∧ (st.length ≤ b ∧ j ≠ b) ∧ Rw st s j fs ∧ BG 1000 b s) ?_ ?_
      · simp -dsimp [e0, -Int.natCast_add]
        refine (bag_ok (by omega)).call ?_
        rintro _ s1 ⟨rfl, hb, hsm⟩
        simp -dsimp
        exact ⟨⟨R.sm.1, by have := R.lt; omega⟩, R.sms hsm, hb⟩
      clear R
      rintro _ s1 ⟨b, rfl, ⟨hb1, hb2⟩, R, hB⟩
      refine OutW.seq (fun e s => ∃ gap : Int, e = [some (.rol (ns.map .int)), some (.int size), some (.int en), some (.bl large), some (.ref j), some (.int (k : Nat)), some (.ref b), some (.int gap)] ∧ (1 ≤ gap ∧ gap ≤ 240) ∧ Rw st s j fs ∧ BG 1001 b s) ?_ ?_
      · cases large with
        | true =>
          simp -dsimp
          refine (take_ok hB (by decide) (by decide) (by decide)).call ?_
          rintro _ s2 ⟨r2, rfl, a2, b2, A2⟩
          simp -dsimp
          exact ⟨by omega, R.go A2.sm hb1 hb2, A2.hb⟩
        | false =>
          simp -dsimp
          refine (take_ok hB (by decide) (by decide) (by decide)).call ?_
          rintro _ s2 ⟨r2, rfl, a2, b2, A2⟩
          simp -dsimp
          exact ⟨by omega, R.go A2.sm hb1 hb2, A2.hb⟩
      clear R hB
      rintro _ s2 ⟨gap, rfl, hg, R, hB⟩
      simp -dsimp [r_isLst R.at_]
      refine (work_ok hB (by decide)).call ?_
      rintro _ s3 ⟨ws, rfl, w1, w2, w3, A3⟩
      have R3 := R.go A3.sm hb1 hb2
      have hll : fs.length < 16777216 := by omega
      simp -dsimp [r_append R3.at_, hll]
      have R4 : Rw st (s3.set j (.lst (fs.map Frm.d ++ [.tup [.int gap, .int en, workD ws]]))) j (fs ++ [(⟨gap, en, ws⟩ : Frm)]) := R3.app ⟨gap, en, ws⟩
      refine ⟨fs ++ [(⟨gap, en, ws⟩ : Frm)], by simp [hk], ?_, R4⟩
      intro f hm
      rcases List.mem_append.mp hm with q | q
      · exact hf f q
      · rw [show f = ⟨gap, en, ws⟩ from by simpa using q]
        exact ⟨⟨hg.1, hg.2, by show 1 ≤ en; omega, e2, w1, w2, w3⟩, rfl⟩
    · rintro env s ⟨fs, v5, v6, v7, rfl, hk, hf, R⟩
      rw [rangeL_len, show ((size : Int) - 0).toNat = size by omega] at hk
      exact ⟨fs, v5, v6, v7, rfl, hk, hf, R⟩
  rintro _ s3 ⟨fs, v5, v6, v7, rfl, hk, hf, R⟩
  simp -dsimp [R.at_]
  refine ⟨fs, rfl, ⟨by omega, by omega, fun x hx => (hf x hx).1, j1, j2, fun x hx => by rw [(hf x hx).2]; exact e1, ?_⟩, hk, (((R.sm.wide (ey := [j]) (by simp)).trans (Sm.set (by simp))).new R.new)⟩
  intro i f g h1 h2
  have q1 := hf f (List.mem_of_getElem? h1)
  have q2 := hf g (List.mem_of_getElem? h2)
  have := q1.1.g1
  omega
end M
namespace M
open PySem L2 F

def pairD (p : Int × Int) : D := .tup [.int p.1, .int p.2]
def logD (lg : List (Int × Int)) : D := .lst (lg.map pairD)
def Frm.low (f : Frm) : Int := (f.work.map Seg.lo).sum
def Frm.high (f : Frm) : Int := (f.work.map Seg.hi).sum
theorem low_high {ws : List Seg} (h : ∀ s ∈ ws, Seg.ok s) : 0 ≤ (ws.map Seg.lo).sum ∧ (ws.map Seg.lo).sum ≤ (ws.map Seg.hi).sum ∧ (ws.map Seg.hi).sum ≤ 240 * ws.length := by
  induction ws with
  | nil => simp
  | cons s ws ih =>
    have h1 := h s List.mem_cons_self
    have h2 := ih fun x hx => h x (List.mem_cons_of_mem _ hx)
    have := h1.a
    have := h1.b
    have := h1.c
    simp only [List.map_cons, List.sum_cons, List.length_cons]
    omega
theorem r_sumL {α : Type} {l : List α} {f : α → Int} {st : Sto} : fSum [.lst (l.map fun x => .int (f x))] st = .ok (.int (l.map f).sum) st := by
  show (match (some (l.map fun x => D.int (f x))).bind asInts with | some ns => Res.ok (D.int ns.sum) st | none => .bad) = _
  rw [show (some (l.map fun x => D.int (f x))).bind asInts = some (l.map f) from asInts_map l f]
theorem sum_ev {env : F.Env} {st : Sto} {f : Frm} {a : Ev} {v : Nat} (hf : f.work.length ≤ 4) (ha : a env st = .ok (workD f.work) st) (hv : v < env.length) (h0 : env[v]? = some none) :
    eCall fSum (aCons (eLcA false (vAny a) (gN v) tYesF (eBin fIx (eVar v) (eC (.int 0))) [v]) aNil) env st = .ok (.int f.low) st ∧
    eCall fSum (aCons (eLcA false (vAny a) (gN v) tYesF (eBin fIx (eVar v) (eC (.int 1))) [v]) aNil) env st = .ok (.int f.high) st := by
  have el : env.set v none = env := by
    refine List.ext_getElem? fun i => ?_
    rw [List.getElem?_set]
    split
    · rename_i e
      subst e
      exact h0.symm
    · rfl
  have hs : ∀ d, (env.set v (some d))[v]? = some (some d) := fun d => List.getElem?_set_self hv
  have hl : f.work.length ≤ 16777216 := by omega
  constructor
  · simp -dsimp [ha, workD, el, hl]
    rw [comp_fun (h := fun s => D.int (Seg.lo s)) fun s _ => ⟨_, rfl, by simp -dsimp [hs, Seg.d]⟩]
    simp -dsimp [r_sumL, Frm.low]
  · simp -dsimp [ha, workD, el, hl]
    rw [comp_fun (h := fun s => D.int (Seg.hi s)) fun s _ => ⟨_, rfl, by simp -dsimp [hs, Seg.d]⟩]
    simp -dsimp [r_sumL, Frm.high]
/-- the log stands behind st -/
structure Lg (st s : Sto) (j : Nat) (lg : List (Int × Int)) : Prop where
  sm : Sm [] st s
  new : st.length ≤ j
  at_ : s[j]? = some (.lst (lg.map pairD))
theorem Lg.lt {st s : Sto} {j : Nat} {lg : List (Int × Int)} (h : Lg st s j lg) : j < s.length := (List.getElem?_eq_some_iff.mp h.at_).1
theorem Lg.sms {st s s' : Sto} {j : Nat} {lg : List (Int × Int)} (h : Lg st s j lg) (k : Sm [] s s') : Lg st s' j lg := ⟨h.sm.trans k, h.new, k.2 _ _ (by simp) h.at_⟩
theorem Lg.go {st s s' : Sto} {j b : Nat} {lg : List (Int × Int)} (h : Lg st s j lg) (k : Sm [b] s s') (hb : st.length ≤ b) (hj : j ≠ b) : Lg st s' j lg := ⟨(h.sm.wide (ey := [b]) (by simp)).trans k |>.new hb, h.new, k.2 _ _ (by simpa using hj) h.at_⟩
theorem Lg.app {st s : Sto} {j : Nat} {lg : List (Int × Int)} (h : Lg st s j lg) (p : Int × Int) : Lg st (s.set j (.lst (lg.map pairD ++ [pairD p]))) j (lg ++ [p]) :=
  ⟨((h.sm.wide (ey := [j]) (by simp)).trans (Sm.set (by simp))).new h.new, h.new, by rw [set_self, h.at_]; simp⟩
theorem fs_at {fs : List Frm} {m : Nat} (hm : m < fs.length) : atI (fs.map Frm.d) (m : Nat) = some (fs[m].d) := by
  rw [atI_in (by omega) (by rw [List.length_map]; omega)]
  simp
def IsPair (d : D) : Prop := ∃ q, d = pairD q
theorem IsPair.mk {a b : Int} : IsPair (.tup [.int a, .int b]) := ⟨(a, b), rfl⟩
theorem low_ok {st : Sto} {f : Frm} (hf : f.work.length ≤ 4) : Ret (f__law_low [f.d] st) (fun d s => d = .int f.low ∧ st = s) NX := by
  unfold f__law_low b_f__law_low
  rw [Ret_body]
  have h0 : (eBin fIx (eVar 0) (eC (.int 2))) [some f.d, none] st = .ok (workD f.work) st := by simp -dsimp [Frm.d]
  rw [show (List.map some [f.d] ++ List.replicate (2 - 1) none) = [some f.d, none] from rfl, r_sRet, (sum_ev (v := 1) hf h0 (by show 1 < 2; decide) rfl).1]
  simp -dsimp
theorem high_ok {st : Sto} {f : Frm} (hf : f.work.length ≤ 4) : Ret (f__law_high [f.d] st) (fun d s => d = .int f.high ∧ st = s) NX := by
  unfold f__law_high b_f__law_high
  rw [Ret_body]
  have h0 : (eBin fIx (eVar 0) (eC (.int 2))) [some f.d, none] st = .ok (workD f.work) st := by simp -dsimp [Frm.d]
  rw [show (List.map some [f.d] ++ List.replicate (2 - 1) none) = [some f.d, none] from rfl, r_sRet, (sum_ev (v := 1) hf h0 (by show 1 < 2; decide) rfl).2]
  simp -dsimp
theorem low_ev {env : F.Env} {st : Sto} {f : Frm} {a : Ev} (hf : f.work.length ≤ 4) (h : a env st = .ok f.d st) : eFn f__law_low [] (aCons a aNil) env st = .ok (.int f.low) st := by
  obtain ⟨d, s, e, rfl, rfl⟩ := (low_ok (st := st) hf).out
  simp -dsimp [h, e]
theorem high_ev {env : F.Env} {st : Sto} {f : Frm} {a : Ev} (hf : f.work.length ≤ 4) (h : a env st = .ok f.d st) : eFn f__law_high [] (aCons a aNil) env st = .ok (.int f.high) st := by
  obtain ⟨d, s, e, rfl, rfl⟩ := (high_ok (st := st) hf).out
  simp -dsimp [h, e]
theorem bounds {f : Frm} (h : f.ok) : 0 ≤ f.low ∧ f.low ≤ f.high ∧ f.high ≤ 960 := by
  have := low_high h.w
  have := h.w2
  unfold Frm.low Frm.high
  omega
theorem log_at {lg : List (Int × Int)} {k : Nat} {st : Sto} (h : k < lg.length) : fIx (logD lg) (.int (k : Nat)) st = .ok (pairD lg[k]) st := by
  unfold logD
  have ha : atI (lg.map pairD) (k : Nat) = some (pairD lg[k]) := by
    rw [atI_in (by omega) (by rw [List.length_map]; omega)]
    simp
  simp -dsimp [ha]
theorem log_to {lg : List (Int × Int)} {k : Nat} {st : Sto} : fSl false (logD lg) none (some (k : Nat)) st = .ok (logD (lg.take k)) st := by
  have hc : cutD (lg.map pairD) none (some (k : Nat)) = (lg.take k).map pairD := by rw [cut_to (by omega), List.map_take]; rfl
  rw [← show D.lst (cutD (lg.map pairD) none (some (k : Nat))) = logD (lg.take k) from by rw [hc]; rfl]
  rfl
theorem log_from {lg : List (Int × Int)} {k : Nat} {st : Sto} : fSl false (logD lg) (some (k : Nat)) none st = .ok (logD (lg.drop k)) st := by
  have hc : cutD (lg.map pairD) (some (k : Nat)) none = (lg.drop k).map pairD := by rw [cut_from (by omega), List.map_drop]; rfl
  rw [← show D.lst (cutD (lg.map pairD) (some (k : Nat)) none) = logD (lg.drop k) from by rw [hc]; rfl]
  rfl
theorem log_add {a b : List (Int × Int)} {st : Sto} (h : a.length + b.length ≤ 1000) : fAdd false (logD a) (logD b) st = .ok (logD (a ++ b)) st := by
  unfold logD
  have h' : a.length + b.length ≤ 16777216 := by omega
  simp -dsimp [h']
theorem log_one {p : Int × Int} : D.lst [pairD p] = logD [p] := rfl
theorem bent_ok {st : Sto} {b n k : Nat} {lg : List (Int × Int)} (h : BG n b st) (hn : n < 2 ^ 90) (hk : k < lg.length) (hl : lg.length ≤ 900) : Ret (f__law_bent [.ref b, logD lg, .int (k : Nat)] st) (fun d s => ∃ lg', d = logD lg' ∧ lg'.length = lg.length ∧ Ag (n + 6) b st s) NX := by
  unfold f__law_bent b_f__law_bent
  rw [Ret_body]
  refine ⟨rfl, OutW.seq (fun e s => e = [some (.ref b), some (logD lg), some (.int (k : Nat)), some (pairD lg[k]), none] ∧ st = s) ?_ ?_⟩
  · simp -dsimp [log_at hk]
  rintro _ _ ⟨rfl, rfl⟩
  refine OutW.seq (fun e s => ∃ w : Int, 0 ≤ w ∧ w < 5 ∧ e = [some (.ref b), some (logD lg), some (.int (k : Nat)), some (pairD lg[k]), some (.int w)] ∧ Ag (n + 1) b st s) ?_ ?_
  · simp -dsimp
    refine (take_ok h (by omega) (by decide) (by decide)).call ?_
    rintro _ s1 ⟨r1, rfl, a1, b1, A1⟩
    simp -dsimp
    exact ⟨r1, a1, b1, rfl, A1⟩
  rintro _ s1 ⟨w, w0, w1, rfl, A1⟩
  generalize lg[k] = p
  refine OutW.seq (fun e s => ∃ p, e = [some (.ref b), some (logD lg), some (.int (k : Nat)), some (pairD p), some (.int w)] ∧ Ag (n + 2) b st s) ?_ ?_
  · by_cases hw : w = 0
    · simp -dsimp [hw, pairD]
      refine (take_ok A1.hb (by omega) (by decide) (by decide)).call ?_
      rintro _ s2 ⟨r2, rfl, a2, b2, A2⟩
      simp -dsimp
      exact ⟨⟨⟨p.1 - 1 - r2, p.2, rfl⟩, hw.symm⟩, A1.go A2⟩
    · simp -dsimp [hw]
      exact ⟨⟨p.1, p.2, rfl⟩, A1.mono (by omega)⟩
  clear A1
  rintro _ s1 ⟨p, rfl, A1⟩
  refine OutW.seq (fun e s => ∃ p, e = [some (.ref b), some (logD lg), some (.int (k : Nat)), some (pairD p), some (.int w)] ∧ Ag (n + 3) b st s) ?_ ?_
  · by_cases hw : w = 1
    · simp -dsimp [hw, pairD]
      refine (take_ok A1.hb (by omega) (by decide) (by decide)).call ?_
      rintro _ s2 ⟨r2, rfl, a2, b2, A2⟩
      simp -dsimp
      exact ⟨⟨⟨p.1, p.2 + 1 + r2, rfl⟩, hw.symm⟩, A1.go A2⟩
    · simp -dsimp [hw]
      exact ⟨⟨p.1, p.2, rfl⟩, A1.mono (by omega)⟩
  clear A1
  rintro _ s1 ⟨p, rfl, A1⟩
  refine OutW.seq (fun e s => ∃ p, e = [some (.ref b), some (logD lg), some (.int (k : Nat)), some (pairD p), some (.int w)] ∧ Ag (n + 4) b st s) ?_ ?_
  · by_cases hw : w = 2
    · simp -dsimp [hw, pairD]
      refine (take_ok A1.hb (by omega) (by decide) (by decide)).call ?_
      rintro _ s2 ⟨r2, rfl, a2, b2, A2⟩
      simp -dsimp
      exact ⟨⟨⟨p.1, p.2 - 1 - r2, rfl⟩, hw.symm⟩, A1.go A2⟩
    · simp -dsimp [hw]
      exact ⟨⟨p.1, p.2, rfl⟩, A1.mono (by omega)⟩
  clear A1
  rintro _ s1 ⟨p, rfl, A1⟩
  refine OutW.seq (fun e s => ∃ p, e = [some (.ref b), some (logD lg), some (.int (k : Nat)), some (pairD p), some (.int w)] ∧ Ag (n + 5) b st s) ?_ ?_
  · by_cases hw : w = 3
    · simp -dsimp [hw, pairD]
      refine (take_ok A1.hb (by omega) (by decide) (by decide)).call ?_
      rintro _ s2 ⟨r2, rfl, a2, b2, A2⟩
      simp -dsimp
      exact ⟨⟨⟨p.1 - r2, p.2, rfl⟩, hw.symm⟩, A1.go A2⟩
    · simp -dsimp [hw]
      exact ⟨⟨p.1, p.2, rfl⟩, A1.mono (by omega)⟩
  clear A1
  rintro _ s1 ⟨p, rfl, A1⟩
  refine OutW.seq (fun e s => ∃ p, e = [some (.ref b), some (logD lg), some (.int (k : Nat)), some (pairD p), some (.int w)] ∧ Ag (n + 6) b st s) ?_ ?_
  · by_cases hw : w = 4
    · simp -dsimp [hw, pairD]
      refine (take_ok A1.hb (by omega) (by decide) (by decide)).call ?_
      rintro _ s2 ⟨r2, rfl, a2, b2, A2⟩
      simp -dsimp
      exact ⟨⟨⟨p.1 + 1 + r2, p.2, rfl⟩, hw.symm⟩, A1.go A2⟩
    · simp -dsimp [hw]
      exact ⟨⟨p.1, p.2, rfl⟩, A1.mono (by omega)⟩
  clear A1
  rintro _ s1 ⟨p, rfl, A1⟩
  have e1 : ((k : Nat) : Int) + 1 = ((k + 1 : Nat) : Int) := by omega
  have l1 : (lg.take k).length + [p].length ≤ 1000 := by simp; omega
  have l2 : (lg.take k ++ [p]).length + (lg.drop (k + 1)).length ≤ 1000 := by simp; omega
  simp -dsimp [log_to, log_one, e1, log_from, log_add l1, log_add l2, -Int.natCast_add]
  exact ⟨_, rfl, by simp; omega, A1⟩
theorem good_ok {st : Sto} {ns : List Int} {fs : List Frm} {early : Int} (hF : FsOk fs early) : Ret (f__law_good [.rol (ns.map .int), .lst (fs.map Frm.d), .int early] st) (fun d s => ∃ lg, d = logD lg ∧ lg.length ≤ 57 ∧ Sm [] st s) NX := by
  obtain ⟨n1, n2, hf, j1, j2, _, _⟩ := hF
  unfold f__law_good b_f__law_good
  rw [Ret_body]
  refine ⟨rfl, OutW.seq (fun e s => ∃ b0, e = [some (.rol (ns.map .int)), some (.lst (fs.map Frm.d)), some (.int early), some (.ref b0), none, none, none, none, none, none, none, none, none, none] ∧ BG 1000 b0 s ∧ Sm [] st s ∧ st.length ≤ b0) ?_ ?_⟩
  · simp -dsimp
    refine (bag_ok (spot := 5) (by decide)).call ?_
    rintro _ s1 ⟨rfl, hb, hsm⟩
    simp -dsimp
    exact ⟨hb, hsm⟩
  rintro _ s0 ⟨b0, rfl, hb0, hsm0, hbl⟩
  have hl1 : (fs.map Frm.d).length ≤ 4 := by simpa using n2
  refine OutW.seq (fun e s => ∃ arr : Int, e = [some (.rol (ns.map .int)), some (.lst (fs.map Frm.d)), some (.int early), some (.ref b0), some (.int arr), none, none, none, none, none, none, none, none, none] ∧ Ag 1001 b0 s0 s) ?_ ?_
  · simp -dsimp
    refine (take_ok hb0 (by decide) (by decide) (by decide)).call ?_
    rintro _ s4 ⟨r4, rfl, a4, b4, A4⟩
    simp -dsimp
    exact A4
  rintro _ s1 ⟨arr, rfl, A1⟩
  refine OutW.seq (fun e s => ∃ first : Nat, e = [some (.rol (ns.map .int)), some (.lst (fs.map Frm.d)), some (.int early), some (.ref b0), some (.int arr), some (.int (first : Nat)), none, none, none, none, none, none, none, none] ∧ first < fs.length ∧ Ag 1002 b0 s0 s) ?_ ?_
  · simp -dsimp
    refine (take_ok A1.hb (by decide) (by omega) (by omega)).call ?_
    rintro _ s2 ⟨r2, rfl, a2, b2, A2⟩
    simp -dsimp
    exact ⟨r2.toNat, by omega, by omega, A1.go A2⟩
  clear A1
  rintro _ s1 ⟨first, rfl, hfirst, A1⟩
  refine OutW.seq (fun e s => ∃ size : Nat, e = [some (.rol (ns.map .int)), some (.lst (fs.map Frm.d)), some (.int early), some (.ref b0), some (.int arr), some (.int (first : Nat)), some (.int (size : Nat)), none, none, none, none, none, none, none] ∧ size ≤ 57 ∧ Ag 1003 b0 s0 s) ?_ ?_
  · simp -dsimp
    refine (take_ok A1.hb (by decide) (by decide) (by decide)).call ?_
    rintro _ s2 ⟨r2, rfl, a2, b2, A2⟩
    simp -dsimp
    exact ⟨r2.toNat, by omega, by omega, A1.go A2⟩
  rintro _ s2 ⟨size0, rfl, hs0, A2⟩
  refine OutW.seq (fun e s => ∃ size : Nat, e = [some (.rol (ns.map .int)), some (.lst (fs.map Frm.d)), some (.int early), some (.ref b0), some (.int arr), some (.int (first : Nat)), some (.int (size : Nat)), none, none, none, none, none, none, none] ∧ size ≤ 57 ∧ Ag 1005 b0 s0 s) ?_ ?_
  · simp -dsimp
    refine (take_ok A2.hb (by decide) (by decide) (by decide)).call ?_
    rintro _ s3 ⟨r3, rfl, a3, b3, A3⟩
    by_cases h7 : r3 = 7
    · simp -dsimp [h7]
      refine (take_ok A3.hb (by decide) (by decide) (by decide)).call ?_
      rintro _ s4 ⟨r4, rfl, a4, b4, A4⟩
      simp -dsimp
      exact ⟨8 + r4.toNat, by omega, by omega, A2.go (A3.go A4)⟩
    · simp -dsimp [h7]
      exact ⟨size0, rfl, hs0, (A2.go A3).mono (by omega)⟩
  clear A2 hs0 A1
  rintro _ s3 ⟨size, rfl, hs, A3⟩
  have hsm7 : Sm [] st s3 := ((hsm0.wide (ey := [b0]) (by simp)).trans A3.sm).new hbl
  refine OutW.seq (fun e s => ∃ rel : Int, e = [some (.rol (ns.map .int)), some (.lst (fs.map Frm.d)), some (.int early), some (.ref b0), some (.int arr), some (.int (first : Nat)), some (.int (size : Nat)), some (.int rel), none, none, none, none, none, none] ∧ s3 = s) ?_ ?_
  · simp -dsimp
  rintro _ _ ⟨rel, rfl, rfl⟩
  refine OutW.seq (fun e s => ∃ j, e = [some (.rol (ns.map .int)), some (.lst (fs.map Frm.d)), some (.int early), some (.ref b0), some (.int arr), some (.int (first : Nat)), some (.int (size : Nat)), some (.int rel), some (.ref j), none, none, none, none, none] ∧ Lg st s j []) ?_ ?_
  · simp -dsimp
    exact ⟨hsm7.trans Sm.app, hsm7.1, snoc_new⟩
  rintro _ s8 ⟨j, rfl, L8⟩
  refine OutW.seq (fun e s => ∃ (arr rel : Int) (lg : List (Int × Int)) (v9 v10 v11 v12 v13 : Option D), e = [some (.rol (ns.map .int)), some (.lst (fs.map Frm.d)), some (.int early), some (.ref b0), some (.int arr), some (.int (first : Nat)), some (.int (size : Nat)), some (.int rel), some (.ref j), v9, v10, v11, v12, v13] ∧ lg.length = size ∧ Lg st s j lg) ?_ ?_
  · simp -dsimp
    refine ⟨okR_of (by omega) (by omega), ?_⟩
    refine loop_inv (fun k e s => ∃ (arr rel : Int) (lg : List (Int × Int)) (v9 v10 v11 v12 v13 : Option D), e = [some (.rol (ns.map .int)), some (.lst (fs.map Frm.d)), some (.int early), some (.ref b0), some (.int arr), some (.int (first : Nat)), some (.int (size : Nat)), some (.int rel), some (.ref j), v9, v10, v11, v12, v13] ∧ lg.length = k ∧ Lg st s j lg) ⟨arr, rel, [], none, none, none, none, none, rfl, rfl, L8⟩ ?_ ?_
    · clear L8 rel arr hsm7 A3
      rintro k d env s hd ⟨arr, rel, lg, v9, v10, v11, v12, v13, rfl, hlg, Lk⟩
      obtain ⟨hk2, rfl⟩ := rangeL_get hd
      have hk : k < size := by omega
      rw [show (0 : Int) + (k : Int) = ((k : Nat) : Int) by omega]
      refine ⟨_, rfl, ?_⟩
      have e6 : (6 : Int) + (k : Int) = ((6 + k : Nat) : Int) := by omega
      refine OutW.seq (fun e s => ∃ b, e = [some (.rol (ns.map .int)), some (.lst (fs.map Frm.d)), some (.int early), some (.ref b0), some (.int arr), some (.int (first : Nat)), some (.int (size : Nat)), some (.int rel), some (.ref j), some (.int (k : Nat)), some (.ref b), v11, v12, v13] ∧ BG 1000 b s ∧ st.length ≤ b ∧ j ≠ b ∧ Lg st s j lg) ?_ ?_
      · simp -dsimp [e6, -Int.natCast_add]
        refine (bag_ok (by omega)).call ?_
        rintro _ s1 ⟨rfl, hb, hsm⟩
        simp -dsimp
        exact ⟨hb, Lk.sm.1, by have := Lk.lt; omega, Lk.sms hsm⟩
      rintro _ s1 ⟨b, rfl, hB1, hbs, hjb, L1⟩
      have hx : ((first : Int) + (k : Int)) % (fs.length : Int) = (((first + k) % fs.length : Nat) : Int) := rfl
      have hm : (first + k) % fs.length < fs.length := Nat.mod_lt _ (by omega)
      have hbm : ∀ z : Int, bMod z fs.length = true := fun z => bMod_pos (by omega)
      have gf : atI (fs.map Frm.d) (((first + k) % fs.length : Nat) : Int) = some (fs[(first + k) % fs.length].d) := fs_at hm
      have fok := hf _ (List.getElem_mem hm)
      generalize fs[(first + k) % fs.length] = f at gf fok
      obtain ⟨q1, q2, q3⟩ := bounds fok
      refine OutW.seq (fun e s => e = [some (.rol (ns.map .int)), some (.lst (fs.map Frm.d)), some (.int early), some (.ref b0), some (.int arr), some (.int (first : Nat)), some (.int (size : Nat)), some (.int rel), some (.ref j), some (.int (k : Nat)), some (.ref b), some (Frm.d f), v12, v13] ∧ s1 = s) ?_ ?_
      · simp -dsimp [hbm, hx, gf, -Int.natCast_emod, -Int.natCast_add]
      rintro _ _ ⟨rfl, rfl⟩
      refine OutW.seq (fun e s => ∃ late : Int, e = [some (.rol (ns.map .int)), some (.lst (fs.map Frm.d)), some (.int early), some (.ref b0), some (.int arr), some (.int (first : Nat)), some (.int (size : Nat)), some (.int rel), some (.ref j), some (.int (k : Nat)), some (.ref b), some (Frm.d f), some (.int late), v13] ∧ BG 1001 b s ∧ Lg st s j lg) ?_ ?_
      · simp -dsimp
        refine (take_ok hB1 (by decide) (by omega) (by omega)).call ?_
        rintro _ s2 ⟨r2, rfl, a2, b2, A2⟩
        simp -dsimp
        exact ⟨A2.hb, L1.go A2.sm hbs hjb⟩
      clear L1 hB1
      rintro _ s2 ⟨late, rfl, hB2, L2⟩
      refine OutW.seq (fun e s => ∃ way : Int, 0 ≤ way ∧ way < 4 ∧ e = [some (.rol (ns.map .int)), some (.lst (fs.map Frm.d)), some (.int early), some (.ref b0), some (.int arr), some (.int (first : Nat)), some (.int (size : Nat)), some (.int rel), some (.ref j), some (.int (k : Nat)), some (.ref b), some (Frm.d f), some (.int late), some (.int way)] ∧ BG 1002 b s ∧ Lg st s j lg) ?_ ?_
      · simp -dsimp
        refine (take_ok hB2 (by decide) (by decide) (by decide)).call ?_
        rintro _ s3 ⟨r3, rfl, a3, b3, A3⟩
        simp -dsimp
        exact ⟨r3, a3, b3, rfl, A3.hb, L2.go A3.sm hbs hjb⟩
      clear L2 hB2
      rintro _ s3 ⟨way, w0, w1, rfl, hB3, L3⟩
      refine OutW.seq (fun e s => ∃ late : Int, e = [some (.rol (ns.map .int)), some (.lst (fs.map Frm.d)), some (.int early), some (.ref b0), some (.int arr), some (.int (first : Nat)), some (.int (size : Nat)), some (.int rel), some (.ref j), some (.int (k : Nat)), some (.ref b), some (Frm.d f), some (.int late), some (.int way)] ∧ s3 = s) ?_ ?_
      · have m1 : bMul early way = true := bMul_small (by omega) (by omega)
        by_cases hw : way < 2
        · simp -dsimp [hw, m1]
        · simp -dsimp [hw]
      clear late
      rintro _ _ ⟨late, rfl, rfl⟩
      refine OutW.seq (fun e s => ∃ rel : Int, e = [some (.rol (ns.map .int)), some (.lst (fs.map Frm.d)), some (.int early), some (.ref b0), some (.int arr), some (.int (first : Nat)), some (.int (size : Nat)), some (.int rel), some (.ref j), some (.int (k : Nat)), some (.ref b), some (Frm.d f), some (.int late), some (.int way)] ∧ s3 = s) ?_ ?_
      · simp -dsimp
      clear rel
      rintro _ _ ⟨rel, rfl, rfl⟩
      have hll : lg.length < 16777216 := by omega
      have lv : ∀ s', eFn f__law_low [] (aCons (eVar 11) aNil) [some (.rol (ns.map .int)), some (.lst (fs.map Frm.d)), some (.int early), some (.ref b0), some (.int arr), some (.int (first : Nat)), some (.int (size : Nat)), some (.int rel), some (.ref j), some (.int (k : Nat)), some (.ref b), some (Frm.d f), some (.int late), some (.int way)] s' = .ok (.int f.low) s' := fun s' => low_ev fok.w2 rfl
      have hv : ∀ s', eFn f__law_high [] (aCons (eVar 11) aNil) [some (.rol (ns.map .int)), some (.lst (fs.map Frm.d)), some (.int early), some (.ref b0), some (.int arr), some (.int (first : Nat)), some (.int (size : Nat)), some (.int rel), some (.ref j), some (.int (k : Nat)), some (.ref b), some (Frm.d f), some (.int late), some (.int way)] s' = .ok (.int f.high) s' := fun s' => high_ev fok.w2 rfl
      refine OutW.seq (fun e s => ∃ len : Int, e = [some (.rol (ns.map .int)), some (.lst (fs.map Frm.d)), some (.int early), some (.ref b0), some (.int arr), some (.int (first : Nat)), some (.int (size : Nat)), some (.int rel), some (.ref j), some (.int (k : Nat)), some (.ref b), some (Frm.d f), some (.int late), some (.int way)] ∧ BG 1003 b s ∧ Lg st s j (lg ++ [(rel, len)])) ?_ ?_
      · have hargs : ∀ s', (aCons (eVar 10) (aCons (eBin (fAdd false) (eBin fSub (eFn f__law_high [] (aCons (eVar 11) aNil)) (eFn f__law_low [] (aCons (eVar 11) aNil))) (eC (.int 1))) aNil)) [some (.rol (ns.map .int)), some (.lst (fs.map Frm.d)), some (.int early), some (.ref b0), some (.int arr), some (.int (first : Nat)), some (.int (size : Nat)), some (.int rel), some (.ref j), some (.int (k : Nat)), some (.ref b), some (Frm.d f), some (.int late), some (.int way)] s' = .ok [.ref b, .int (f.high - f.low + 1)] s' := fun s' => by
          simp -dsimp [lv, hv, -r_eFn]
        simp -dsimp [r_isLst L3.at_, lv, -r_eFn]
        rw [r_eFn, hargs]
        simp -dsimp
        refine (take_ok hB3 (by decide) (by omega) (by omega)).call ?_
        rintro _ s4 ⟨r4, rfl, a4, b4, A4⟩
        have L4 := L3.go A4.sm hbs hjb
        simp -dsimp [r_append L4.at_, hll]
        exact ⟨A4.hb.set hjb, f.low + r4, L4.app (rel, f.low + r4)⟩
      clear L3 hB3
      rintro _ s4 ⟨len, rfl, hB4, L4⟩
      simp -dsimp [Frm.d]
      refine (take_ok hB4 (by decide) (by decide) (by decide)).call ?_
      rintro _ s8 ⟨r8, rfl, a8, b8, A8⟩
      simp -dsimp
      exact ⟨lg ++ [(rel, len)], by simp [hlg], L4.go A8.sm hbs hjb⟩
    · rintro env s ⟨arr, rel, lg, v9, v10, v11, v12, v13, rfl, hlg, Lk⟩
      rw [rangeL_len, show ((size : Int) - 0).toNat = size by omega] at hlg
      exact ⟨arr, rel, lg, v9, v10, v11, v12, v13, rfl, hlg, Lk⟩
  clear L8 rel arr hsm7 A3
  rintro _ s9 ⟨arr, rel, lg, v9, v10, v11, v12, v13, rfl, hlg, L9⟩
  simp -dsimp [L9.at_]
  exact ⟨lg, rfl, by omega, (((L9.sm.wide (ey := [j]) (by simp)).trans (Sm.set (by simp))).new L9.new)⟩
end M
namespace M
open PySem L2 F

/-! ### what explains a log -/
instance : Inhabited Frm := ⟨⟨0, 0, []⟩⟩
def frmI (fs : List Frm) (i : Nat) : Frm := fs.getD (i % fs.length) default
def fits (f : Frm) (l : Int) : Bool := decide (f.low ≤ l) && decide (l ≤ f.high)
def lgI (lg : List (Int × Int)) (k : Nat) : Int × Int := lg.getD k (0, 0)
def arrI (fs : List Frm) (j : Int) (first : Nat) (lg : List (Int × Int)) (k : Nat) (acc : List Int) : Int :=
  if k = 0 then (lgI lg k).1 - j else max ((lgI lg k).1 - j) ((acc[k - 1]?.getD 0) + (frmI fs (first + (k - 1))).gap)
def stepI (fs : List Frm) (j : Int) (first : Nat) (lg : List (Int × Int)) (k : Nat) (acc : List Int) : Option Int :=
  if (0 < k ∧ (lgI lg k).1 < (lgI lg (k - 1)).1) ∨ (lgI lg k).1 < arrI fs j first lg k acc ∨ fits (frmI fs (first + k)) (lgI lg k).2 = false then none else some (arrI fs j first lg k acc)
def earl (fs : List Frm) (j : Int) (first : Nat) (lg : List (Int × Int)) : Nat → Option (List Int)
  | 0 => some []
  | k + 1 => match earl fs j first lg k with
    | none => none
    | some acc => (stepI fs j first lg k acc).map fun a => acc ++ [a]
theorem earl_len {fs : List Frm} {j : Int} {first : Nat} {lg : List (Int × Int)} : ∀ {k : Nat} {acc : List Int}, earl fs j first lg k = some acc → acc.length = k
  | 0, acc, h => by cases h; rfl
  | k + 1, acc, h => by
    unfold earl at h
    cases e : earl fs j first lg k with
    | none => rw [e] at h; cases h
    | some a =>
      rw [e] at h
      dsimp only at h
      cases e2 : stepI fs j first lg k a with
      | none => rw [e2] at h; cases h
      | some x =>
        rw [e2] at h
        cases h
        rw [List.length_append, earl_len e]
        rfl
theorem earl_none {fs : List Frm} {j : Int} {first : Nat} {lg : List (Int × Int)} {k : Nat} (h : earl fs j first lg k = none) : ∀ m, k ≤ m → earl fs j first lg m = none
  | 0, hm => by
    have : k = 0 := by omega
    subst this
    exact h
  | m + 1, hm => by
    by_cases e : k = m + 1
    · rw [← e]; exact h
    · unfold earl
      rw [earl_none h m (by omega)]
theorem earl_go {fs : List Frm} {j : Int} {first : Nat} {lg : List (Int × Int)} {k : Nat} {acc : List Int} (h : earl fs j first lg k = some acc) : earl fs j first lg (k + 1) = (stepI fs j first lg k acc).map fun a => acc ++ [a] := by
  show (match earl fs j first lg k with | none => none | some acc => (stepI fs j first lg k acc).map fun a => acc ++ [a]) = _
  rw [h]
theorem rangeL_map (n : Nat) : rangeL 0 (n : Int) = (List.range n).map fun k : Nat => D.int (k : Nat) := by
  unfold rangeL
  have e : ((n : Int) - 0).toNat = n := by omega
  rw [e]
  simp
theorem frm_at {fs : List Frm} {i : Nat} (h : 1 ≤ fs.length) : atI (fs.map Frm.d) ((i % fs.length : Nat) : Int) = some (frmI fs i).d := by
  have hm : i % fs.length < fs.length := Nat.mod_lt _ (by omega)
  rw [fs_at hm]
  unfold frmI
  rw [List.getD_eq_getElem?_getD, List.getElem?_eq_getElem hm]
  rfl
theorem frm_mem {fs : List Frm} {i : Nat} (h : 1 ≤ fs.length) : frmI fs i ∈ fs := getD_mem (Nat.mod_lt _ (by omega))
theorem lg_at {lg : List (Int × Int)} {k : Nat} (h : k < lg.length) : atI (lg.map pairD) ((k : Nat) : Int) = some (pairD (lgI lg k)) := by
  rw [atI_in (by omega) (by rw [List.length_map]; omega)]
  unfold lgI
  simp [List.getD_eq_getElem?_getD, h]
theorem lg_ix {lg : List (Int × Int)} {k : Nat} {st : Sto} (h : k < lg.length) : fIx (logD lg) (.int (k : Nat)) st = .ok (pairD (lgI lg k)) st := by
  unfold logD
  rw [r_ixL, lg_at h]
@[simp] theorem pair0 {p : Int × Int} {st : Sto} : fIx (pairD p) (.int 0) st = .ok (.int p.1) st := (rfl)
@[simp] theorem pair1 {p : Int × Int} {st : Sto} : fIx (pairD p) (.int 1) st = .ok (.int p.2) st := (rfl)
theorem lg_get {lg : List (Int × Int)} {k : Nat} (h : k < lg.length) : lg[k]? = some (lgI lg k) := by
  unfold lgI
  rw [List.getD_eq_getElem?_getD, List.getElem?_eq_getElem h]
  rfl
theorem enum_get : ∀ (ds : List D) (i k : Nat), (enumL i ds)[k]? = (ds[k]?).map fun d => .tup [.int ((i + k : Nat) : Int), d]
  | [], i, k => by simp [enumL]
  | d :: ds, i, 0 => by simp [enumL]
  | d :: ds, i, k + 1 => by
    show (enumL (i + 1) ds)[k]? = _
    rw [enum_get ds (i + 1) k, show i + 1 + k = i + (k + 1) by omega]
    simp
theorem enum_len : ∀ (ds : List D) (i : Nat), (enumL i ds).length = ds.length
  | [], _ => rfl
  | d :: ds, i => by
    show (enumL (i + 1) ds).length + 1 = _
    rw [enum_len ds]
    rfl
theorem r_wEnum {env : F.Env} {st : Sto} {a : Ev} {ds : List D} (h : a env st = .ok (.lst ds) st) : wEnum (aCons a aNil) env st = .ok (enumL 0 ds) st := by
  unfold wEnum
  simp -dsimp [h, asPure]
theorem fits_ok {st : Sto} {name : List Nat} {fs : List Frm} {j : Int} {i : Nat} {l : Int} (h1 : 1 ≤ fs.length) (hf : ∀ x ∈ fs, x.ok) : Ret (f_length_fits [taskD name fs j, .int ((i % fs.length : Nat) : Int), .int l] st) (fun d s => d = .bl (fits (frmI fs i) l) ∧ st = s) NX := by
  have hw := (hf _ (frm_mem (i := i) h1)).w2
  have hl : (frmI fs i).work.length ≤ 16777216 := by omega
  have lw : Ret (f_Task_least_work [taskD name fs j, .int ((i % fs.length : Nat) : Int)] st) (fun d s => d = .int (frmI fs i).low ∧ st = s) NX := by
    unfold f_Task_least_work b_f_Task_least_work
    rw [Ret_body]
    simp -dsimp [taskD, fldsOf, ix_frames, framesD, frm_at h1, -Int.natCast_emod]
    simp -dsimp [Frm.d]
    unfold f_least_sum b_f_least_sum
    rw [Ret_body]
    simp -dsimp [workD, hl]
    rw [comp_fun (h := fun s => D.int (Seg.lo s)) fun s _ => ⟨_, rfl, by simp -dsimp [Seg.d]⟩]
    simp -dsimp [r_sumL, Frm.low]
  have mw : Ret (f_Task_most_work [taskD name fs j, .int ((i % fs.length : Nat) : Int)] st) (fun d s => d = .int (frmI fs i).high ∧ st = s) NX := by
    unfold f_Task_most_work b_f_Task_most_work
    rw [Ret_body]
    simp -dsimp [taskD, fldsOf, ix_frames, framesD, frm_at h1, -Int.natCast_emod]
    simp -dsimp [Frm.d]
    unfold f_most_sum b_f_most_sum
    rw [Ret_body]
    simp -dsimp [workD, hl]
    rw [comp_fun (h := fun s => D.int (Seg.hi s)) fun s _ => ⟨_, rfl, by simp -dsimp [Seg.d]⟩]
    simp -dsimp [r_sumL, Frm.high]
  unfold f_length_fits b_f_length_fits
  rw [Ret_body]
  have hc : clsOf (taskD name fs j) st = some 3 := rfl
  simp -dsimp [hc, tb_least_work, tb_most_work, -Int.natCast_emod]
  refine lw.call ?_
  rintro _ _ ⟨rfl, rfl⟩
  by_cases hle : (frmI fs i).low ≤ l
  · simp -dsimp [hc, hle, -Int.natCast_emod]
    refine mw.call ?_
    rintro _ _ ⟨rfl, rfl⟩
    simp -dsimp [fits, hle]
  · simp -dsimp [fits, hle]
theorem earliest_ok {st : Sto} {name : List Nat} {fs : List Frm} {j : Int} {F : Nat} {lg : List (Int × Int)} (hF : FsOk fs j) (hl : lg.length ≤ 1000) :
    Ret (f__earliest_arrivals [taskD name fs j, logD lg, .int F] st) (fun d s => ∃ (i : Nat) (acc : List Int), d = .ref i ∧ st.length ≤ i ∧ s[i]? = some (.lst (acc.map .int)) ∧ earl fs j F lg acc.length = some acc ∧ acc.length ≤ lg.length ∧ (acc.length < lg.length → earl fs j F lg (acc.length + 1) = none) ∧ Sm [] st s) NX := by
  have h1 := hF.n1
  unfold f__earliest_arrivals b_f__earliest_arrivals
  rw [Ret_body]
  refine ⟨rfl, OutW.seq (fun e s => e = [some (taskD name fs j), some (logD lg), some (.int F), some (.ref st.length), none, none, none, none, none, none, none] ∧ s = st ++ [.lst []]) ?_ ?_⟩
  · simp -dsimp
  rintro _ _ ⟨rfl, rfl⟩
  refine OutW.seq (fun e s => e = [some (taskD name fs j), some (logD lg), some (.int F), some (.ref st.length), some (.int fs.length), none, none, none, none, none, none] ∧ s = st ++ [.lst []]) ?_ ?_
  · simp -dsimp [taskD, fldsOf, ix_frames, framesD]
  rintro _ _ ⟨rfl, rfl⟩
  refine OutW.seq (fun e s => ∃ (acc : List Int) (v5 v6 v7 v8 v9 v10 : Option D), e = [some (taskD name fs j), some (logD lg), some (.int F), some (.ref st.length), some (.int fs.length), v5, v6, v7, v8, v9, v10] ∧ s = st ++ [.lst (acc.map .int)] ∧ earl fs j F lg acc.length = some acc ∧ acc.length ≤ lg.length ∧ (acc.length < lg.length → earl fs j F lg (acc.length + 1) = none)) ?_ ?_
  · rw [r_sFor, OutW_andS, r_wEnum (a := eVar 1) (ds := lg.map pairD) rfl, Ret_ok]
    have hst : ∀ l : List D, (st ++ [Cell.lst l])[st.length]? = some (.lst l) := fun l => snoc_new
    refine loop_inv (fun k e s => ∃ (acc : List Int) (v5 v6 v7 v8 v9 v10 : Option D), e = [some (taskD name fs j), some (logD lg), some (.int F), some (.ref st.length), some (.int fs.length), v5, v6, v7, v8, v9, v10] ∧ s = st ++ [.lst (acc.map .int)] ∧ earl fs j F lg k = some acc) ⟨[], none, none, none, none, none, none, rfl, rfl, rfl⟩ ?_ ?_
    · rintro k d env s hd ⟨acc, v5, v6, v7, v8, v9, v10, rfl, rfl, he⟩
      rw [enum_get, List.getElem?_map] at hd
      have hk : k < lg.length := by
        rcases Nat.lt_or_ge k lg.length with z | z
        · exact z
        · rw [List.getElem?_eq_none z] at hd
          cases hd
      rw [lg_get hk, Nat.zero_add] at hd
      cases hd
      have hal := earl_len he
      have hnone : stepI fs j F lg k acc = none → earl fs j F lg (k + 1) = none := fun z => by rw [earl_go he, z]; rfl
      refine ⟨_, rfl, ?_⟩
      have x1 : ((F : Int) + ((k : Nat) : Int)) % (fs.length : Int) = (((F + k) % fs.length : Nat) : Int) := by
        rfl
      have hbm : ∀ z : Int, bMod z fs.length = true := fun z => bMod_pos (by omega)
      have hbrk : stepI fs j F lg k acc = none → ∃ acc' : List Int, acc.map D.int = acc'.map D.int ∧ earl fs j F lg acc'.length = some acc' ∧ acc'.length ≤ lg.length ∧ (acc'.length < lg.length → earl fs j F lg (acc'.length + 1) = none) :=
        fun z => ⟨acc, rfl, by rw [hal]; exact he, by omega, fun _ => by rw [hal]; exact hnone z⟩
      refine OutW.seq (fun e s => e = [some (taskD name fs j), some (logD lg), some (.int F), some (.ref st.length), some (.int fs.length), some (.int ((k : Nat) : Int)), some (.int (lgI lg k).1), some (.int (lgI lg k).2), some (.int (((F + k) % fs.length : Nat) : Int)), v9, v10] ∧ s = st ++ [.lst (acc.map .int)]) ?_ ?_
      · simp -dsimp [x1, hbm, -Int.natCast_emod, -Int.natCast_add]
      rintro _ _ ⟨rfl, rfl⟩
      refine OutW.seq (fun e s => e = [some (taskD name fs j), some (logD lg), some (.int F), some (.ref st.length), some (.int fs.length), some (.int ((k : Nat) : Int)), some (.int (lgI lg k).1), some (.int (lgI lg k).2), some (.int (((F + k) % fs.length : Nat) : Int)), some (.int ((lgI lg k).1 - j)), v10] ∧ s = st ++ [.lst (acc.map .int)]) ?_ ?_
      · simp -dsimp [taskD, fldsOf, ix_jitter]
      rintro _ _ ⟨rfl, rfl⟩
      refine OutW.seq (fun e s => ∃ v10, e = [some (taskD name fs j), some (logD lg), some (.int F), some (.ref st.length), some (.int fs.length), some (.int ((k : Nat) : Int)), some (.int (lgI lg k).1), some (.int (lgI lg k).2), some (.int (((F + k) % fs.length : Nat) : Int)), some (.int (arrI fs j F lg k acc)), v10] ∧ s = st ++ [.lst (acc.map .int)] ∧ ¬ (0 < k ∧ (lgI lg k).1 < (lgI lg (k - 1)).1)) ?_ ?_
      · by_cases hk0 : k = 0
        · subst hk0
          simp -dsimp [arrI]
        · have hkp : (0 : Int) < ((k : Nat) : Int) := by omega
          have x2 : ((((F + k) % fs.length : Nat) : Int) + (fs.length : Int) - 1) % (fs.length : Int) = (((F + (k - 1)) % fs.length : Nat) : Int) := by
            have e : (((F + k) % fs.length : Nat) : Int) + (fs.length : Int) - 1 = (((F + k) % fs.length + (fs.length - 1) : Nat) : Int) := by omega
            rw [e]
            have e2 : ((F + k) % fs.length + (fs.length - 1)) % fs.length = (F + (k - 1)) % fs.length := by
              rw [Nat.mod_add_mod, show F + k + (fs.length - 1) = F + (k - 1) + fs.length by omega, Nat.add_mod_right]
            rw [← e2]
            rfl
          have x3 : atI (acc.map D.int) (-1) = some (.int ((acc[k - 1]?.getD 0))) := by
            rw [_root_.F.atI_last (by intro z; have := congrArg List.length z; simp at this; rw [this] at hal; simp at hal; omega), List.getLast?_map, List.getLast?_eq_getElem?, hal, List.getElem?_eq_getElem (by omega)]
            rfl
          have x4 : ((k : Nat) : Int) - 1 = ((k - 1 : Nat) : Int) := by omega
          have x5 : ∀ st : Sto, fIx (logD lg) (.int ((k - 1 : Nat) : Int)) st = .ok (pairD (lgI lg (k - 1))) st := fun st => lg_ix (by omega)
          have x6 : arrI fs j F lg k acc = (if (acc[k - 1]?.getD 0) + (frmI fs (F + (k - 1))).gap > (lgI lg k).1 - j then (acc[k - 1]?.getD 0) + (frmI fs (F + (k - 1))).gap else (lgI lg k).1 - j) := by
            unfold arrI
            rw [if_neg hk0]
            split <;> omega
          rw [r_sIf, OutW_andS]
          refine Ret.mono (P := fun b s => b = true ∧ s = st ++ [.lst (acc.map .int)]) (X := NX) (by simp -dsimp [hkp, -Int.natCast_add]; omega) ?_ (fun _ _ _ z => z.elim)
          rintro b _ ⟨rfl, rfl⟩
          rw [if_pos rfl]
          refine OutW.seq (fun e s => e = [some (taskD name fs j), some (logD lg), some (.int F), some (.ref st.length), some (.int fs.length), some (.int ((k : Nat) : Int)), some (.int (lgI lg k).1), some (.int (lgI lg k).2), some (.int (((F + k) % fs.length : Nat) : Int)), some (.int ((lgI lg k).1 - j)), some (.int (frmI fs (F + (k - 1))).gap)] ∧ s = st ++ [.lst (acc.map .int)]) ?_ ?_
          · simp -dsimp [taskD, fldsOf, ix_frames, framesD, x2, hbm, frm_at h1, -Int.natCast_emod, -Int.natCast_add]
            simp -dsimp [Frm.d]
            rfl
          rintro _ _ ⟨rfl, rfl⟩
          refine OutW.seq (fun e s => e = [some (taskD name fs j), some (logD lg), some (.int F), some (.ref st.length), some (.int fs.length), some (.int ((k : Nat) : Int)), some (.int (lgI lg k).1), some (.int (lgI lg k).2), some (.int (((F + k) % fs.length : Nat) : Int)), some (.int (arrI fs j F lg k acc)), some (.int (frmI fs (F + (k - 1))).gap)] ∧ s = st ++ [.lst (acc.map .int)]) ?_ ?_
          · rw [x6]
            simp -dsimp [x3, -Int.natCast_emod, -Int.natCast_add]
          rintro _ _ ⟨rfl, rfl⟩
          by_cases hlt : (lgI lg k).1 < (lgI lg (k - 1)).1
          · have hn : stepI fs j F lg k acc = none := by
              unfold stepI
              rw [if_pos (.inl ⟨by omega, hlt⟩)]
            simp -dsimp [x4, x5, hlt, -Int.natCast_emod, -Int.natCast_add]
            exact hbrk hn
          · simp -dsimp [x4, x5, hlt, -Int.natCast_emod, -Int.natCast_add]
      rintro _ _ ⟨v10, rfl, rfl, hno⟩
      refine OutW.seq (fun e s => e = [some (taskD name fs j), some (logD lg), some (.int F), some (.ref st.length), some (.int fs.length), some (.int ((k : Nat) : Int)), some (.int (lgI lg k).1), some (.int (lgI lg k).2), some (.int (((F + k) % fs.length : Nat) : Int)), some (.int (arrI fs j F lg k acc)), v10] ∧ s = st ++ [.lst (acc.map .int)] ∧ stepI fs j F lg k acc = some (arrI fs j F lg k acc)) ?_ ?_
      · by_cases h2 : (lgI lg k).1 < arrI fs j F lg k acc
        · have hn : stepI fs j F lg k acc = none := by
            unfold stepI
            rw [if_pos (.inr (.inl h2))]
          simp -dsimp [h2, -Int.natCast_emod, -Int.natCast_add]
          exact hbrk hn
        · simp -dsimp [h2, -Int.natCast_emod, -Int.natCast_add]
          refine (fits_ok h1 hF.f).call ?_
          rintro _ _ ⟨rfl, rfl⟩
          cases hft : fits (frmI fs (F + k)) (lgI lg k).2 with
          | false =>
            have hn : stepI fs j F lg k acc = none := by
              unfold stepI
              rw [if_pos (.inr (.inr hft))]
            simp -dsimp [-Int.natCast_emod, -Int.natCast_add]
            exact hbrk hn
          | true =>
            simp -dsimp [-Int.natCast_emod, -Int.natCast_add]
            unfold stepI
            rw [if_neg]
            rintro (z | z | z)
            · exact hno z
            · exact h2 z
            · rw [hft] at z; cases z
      rintro _ _ ⟨rfl, rfl, hst2⟩
      have hll : acc.length < 16777216 := by omega
      simp -dsimp [r_isLst (hst _), r_append (hst _), hll]
      refine ⟨acc ++ [arrI fs j F lg k acc], by simp, ?_⟩
      rw [earl_go he, hst2]
      rfl
    · rintro env s ⟨acc, v5, v6, v7, v8, v9, v10, rfl, rfl, he⟩
      rw [enum_len, List.length_map] at he
      have := earl_len he
      exact ⟨acc, _, _, _, _, _, _, rfl, rfl, by rw [this]; exact he, by omega, fun z => by omega⟩
  rintro _ _ ⟨acc, v5, v6, v7, v8, v9, v10, rfl, rfl, e1, e2, e3⟩
  simp -dsimp
  exact ⟨acc, rfl, e1, e2, e3, Sm.app⟩
end M
namespace M
open PySem L2 F

theorem find_range {n k : Nat} {q : Nat → Bool} (h : ∀ i, i < k → q i = false) (hk : k < n) (hq : q k = true) : (List.range n).find? q = some k := by
  rw [List.find?_range_eq_some]
  exact ⟨hq, by simpa using hk, fun j hj => by simpa using h j hj⟩
theorem find_none {n : Nat} {q : Nat → Bool} (h : ∀ i, i < n → q i = false) : (List.range n).find? q = none := by
  rw [List.find?_range_eq_none]
  intro i hi
  simpa using h i hi
/-! ### how much of a log a start frame explains -/
def keptN (fs : List Frm) (j : Int) (F : Nat) (lg : List (Int × Int)) : Nat := ((List.range lg.length).find? fun k => (earl fs j F lg (k + 1)).isNone).getD lg.length
theorem earl_below {fs : List Frm} {j : Int} {F : Nat} {lg : List (Int × Int)} {k m : Nat} (h : (earl fs j F lg k).isSome = true) (hm : m ≤ k) : (earl fs j F lg m).isSome = true := by
  cases e : earl fs j F lg m with
  | some _ => rfl
  | none =>
    rw [earl_none e k hm] at h
    cases h
theorem kept_eq {fs : List Frm} {j : Int} {F : Nat} {lg : List (Int × Int)} {k : Nat} (h : (earl fs j F lg k).isSome = true) (hk : k ≤ lg.length) (hn : k < lg.length → earl fs j F lg (k + 1) = none) : keptN fs j F lg = k := by
  unfold keptN
  have hb : ∀ i, i < k → (earl fs j F lg (i + 1)).isNone = false := fun i hi => by
    have := earl_below h (m := i + 1) hi
    cases e : earl fs j F lg (i + 1) with
    | some _ => rfl
    | none => rw [e] at this; cases this
  by_cases e : k = lg.length
  · rw [find_none (by rw [← e]; exact hb), e]
    rfl
  · have hlt : k < lg.length := by omega
    rw [find_range hb hlt (by rw [hn hlt]; rfl)]
    rfl
theorem kept_spec {fs : List Frm} {j : Int} {F : Nat} {lg : List (Int × Int)} : (earl fs j F lg (keptN fs j F lg)).isSome = true ∧ keptN fs j F lg ≤ lg.length ∧ (keptN fs j F lg < lg.length → earl fs j F lg (keptN fs j F lg + 1) = none) := by
  have key : ∀ n, (∀ i, i < n → (earl fs j F lg (i + 1)).isNone = false) → (earl fs j F lg n).isSome = true := fun n hn => by
    cases n with
    | zero => rfl
    | succ m =>
      have := hn m (Nat.lt_succ_self m)
      cases e : earl fs j F lg (m + 1) with
      | some _ => rfl
      | none => rw [e] at this; cases this
  cases e : (List.range lg.length).find? fun k => (earl fs j F lg (k + 1)).isNone with
  | none =>
    have hk : keptN fs j F lg = lg.length := by unfold keptN; rw [e]; rfl
    rw [List.find?_range_eq_none] at e
    rw [hk]
    exact ⟨key _ fun i hi => by simpa using e i hi, Nat.le_refl _, fun z => absurd z (Nat.lt_irrefl _)⟩
  | some k =>
    have hk : keptN fs j F lg = k := by unfold keptN; rw [e]; rfl
    rw [List.find?_range_eq_some] at e
    rw [hk]
    have h2 : k < lg.length := by simpa using e.2.1
    exact ⟨key _ fun i hi => by simpa using e.2.2 i hi, by omega, fun _ => by simpa using e.1⟩
def dueM (fs : List Frm) (j : Int) (lg : List (Int × Int)) : Int := maxL ((List.range fs.length).map fun F => (keptN fs j F lg : Int))
def dueD (fs : List Frm) (j : Int) (lg : List (Int × Int)) : D := if dueM fs j lg = lg.length then .non else .int (dueM fs j lg)
theorem due_spec {fs : List Frm} {j : Int} {lg : List (Int × Int)} (h : 1 ≤ fs.length) : ∃ at_ F : Nat, dueM fs j lg = at_ ∧ F < fs.length ∧ keptN fs j F lg = at_ ∧ at_ ≤ lg.length ∧ ∀ G, G < fs.length → keptN fs j G lg ≤ at_ := by
  have hne : ((List.range fs.length).map fun F => (keptN fs j F lg : Int)) ≠ [] := by
    intro z
    have := congrArg List.length z
    simp at this
    rw [this] at h
    simp at h
  have hm := maxL_mem hne
  obtain ⟨F, hF, e⟩ := List.mem_map.mp hm
  refine ⟨keptN fs j F lg, F, e.symm, by simpa using hF, rfl, kept_spec.2.1, fun G hG => ?_⟩
  have := maxL_ge (ns := (List.range fs.length).map fun F => (keptN fs j F lg : Int)) (x := keptN fs j G lg) (List.mem_map.mpr ⟨G, by simpa using hG, rfl⟩)
  rw [← e] at this
  exact Int.ofNat_le.mp this
theorem r_maxN {n : Nat} {f : Nat → Nat} {st : Sto} (h : 1 ≤ n) : fMax [.lst ((List.range n).map fun x => .int (f x : Nat))] st = .ok (.int (maxL ((List.range n).map fun x => (f x : Int)))) st :=
  r_maxL (f := fun x => (f x : Int)) (by intro z; have := congrArg List.length z; simp at this; omega)
theorem range_snoc {α : Type} {k : Nat} {f : Nat → α} : (List.range k).map f ++ [f k] = (List.range (k + 1)).map f := by
  rw [List.range_succ, List.map_append]
  rfl
theorem log_len {lg : List (Int × Int)} {st : Sto} : fLen [logD lg] st = .ok (.int (lg.length : Nat)) st := by
  unfold logD
  rw [r_lenL, List.length_map]
theorem break_ok {st : Sto} {name : List Nat} {fs : List Frm} {j : Int} {lg : List (Int × Int)} (hF : FsOk fs j) (hl : lg.length ≤ 1000) :
    Ret (f_break_index [taskD name fs j, logD lg] st) (fun d s => d = dueD fs j lg ∧ Sm [] st s) NX := by
  have h1 := hF.n1
  have h2 := hF.n2
  unfold f_break_index b_f_break_index
  rw [Ret_body]
  refine ⟨rfl, OutW.seq (fun e s => e = [some (taskD name fs j), some (logD lg), some (.int (dueM fs j lg)), none] ∧ Sm [] st s) ?_ ?_⟩
  · have hlen : eCall fLen (aCons (eFld ix_frames (eVar 0)) aNil) [some (taskD name fs j), some (logD lg), none, none] st = .ok (.int (fs.length : Nat)) st := by
      simp -dsimp [taskD, fldsOf, ix_frames, framesD]
    rw [show (List.map some [taskD name fs j, logD lg] ++ List.replicate (4 - 2) none) = [some (taskD name fs j), some (logD lg), none, none] from rfl]
    have hr : wRange1 (aCons (eCall fLen (aCons (eFld ix_frames (eVar 0)) aNil)) aNil) [some (taskD name fs j), some (logD lg), none, none] st = .ok (rangeL 0 (fs.length : Nat)) st := by
      rw [r_wRange1, r_aCons, hlen]
      simp -dsimp
      exact okR_of (by omega) (by omega)
    simp -dsimp [hr, -r_wRange1]
    refine ⟨by rw [rangeL_len]; omega, ?_⟩
    refine comp_inv (fun k acc s => acc = (List.range k).map (fun F => D.int (keptN fs j F lg : Nat)) ∧ Sm [] st s) ⟨rfl, .refl _ _⟩ ?_ ?_
    · rintro k d acc s hd ⟨rfl, hs⟩
      obtain ⟨hk2, rfl⟩ := rangeL_get hd
      rw [show (0 : Int) + (k : Int) = ((k : Nat) : Int) by omega]
      refine ⟨_, rfl, ?_⟩
      simp -dsimp
      refine (earliest_ok hF hl).call ?_
      rintro _ s2 ⟨i, acc, rfl, hi, hat, he, hle, hno, hsm⟩
      simp -dsimp [r_lenC hat]
      refine ⟨?_, hs.trans hsm⟩
      rw [← range_snoc, kept_eq (by rw [he]; rfl) hle hno]
    · rintro acc s ⟨rfl, hs⟩
      rw [rangeL_len, show ((fs.length : Int) - 0).toNat = fs.length by omega]
      simp -dsimp [r_maxN h1]
      exact ⟨rfl, hs⟩
  rintro _ s ⟨rfl, hs⟩
  by_cases h : dueM fs j lg = lg.length
  · simp -dsimp [log_len, h, dueD]
    exact hs
  · simp -dsimp [log_len, h, dueD]
    exact hs
theorem kept_ok {st : Sto} {fs : List Frm} {j : Int} {F : Nat} {lg : List (Int × Int)} (hF : FsOk fs j) (hl : lg.length ≤ 1000) :
    Ret (f__law_kept [.lst (fs.map Frm.d), .int j, .int (F : Nat), logD lg] st) (fun d s => ∃ acc, d = .tup [.int (keptN fs j F lg : Nat), .int (acc[keptN fs j F lg - 1]?.getD 0)] ∧ earl fs j F lg (keptN fs j F lg) = some acc ∧ st = s) NX := by
  have h1 := hF.n1
  have h2 := hF.n2
  unfold f__law_kept b_f__law_kept
  rw [Ret_body]
  refine ⟨rfl, OutW.seq (fun e s => e = [some (.lst (fs.map Frm.d)), some (.int j), some (.int (F : Nat)), some (logD lg), some (.int 0), none, none, none] ∧ st = s) ?_ ?_⟩
  · simp -dsimp
  rintro _ _ ⟨rfl, rfl⟩
  refine OutW.seq (fun e s => ∃ (acc : List Int) (v5 v6 v7 : Option D), e = [some (.lst (fs.map Frm.d)), some (.int j), some (.int (F : Nat)), some (logD lg), some (.int (acc[lg.length - 1]?.getD 0)), v5, v6, v7] ∧ earl fs j F lg lg.length = some acc ∧ st = s) ?_ ?_
  · simp -dsimp [log_len]
    refine ⟨okR_of (by omega) (by omega), ?_⟩
    refine loop_inv (fun k e s => ∃ (acc : List Int) (v5 v6 v7 : Option D), e = [some (.lst (fs.map Frm.d)), some (.int j), some (.int (F : Nat)), some (logD lg), some (.int (acc[k - 1]?.getD 0)), v5, v6, v7] ∧ earl fs j F lg k = some acc ∧ st = s) ⟨[], none, none, none, rfl, rfl, rfl⟩ ?_ ?_
    · rintro k d env s hd ⟨acc, v5, v6, v7, rfl, he, rfl⟩
      obtain ⟨hk2, rfl⟩ := rangeL_get hd
      have hk : k < lg.length := by omega
      rw [show (0 : Int) + (k : Int) = ((k : Nat) : Int) by omega]
      have hal := earl_len he
      refine ⟨_, rfl, ?_⟩
      have hx : ((F : Int) + (k : Int)) % (fs.length : Int) = (((F + k) % fs.length : Nat) : Int) := rfl
      have hbm : ∀ z : Int, bMod z fs.length = true := fun z => bMod_pos (by omega)
      have hm := hF.f _ (frm_mem (i := F + k) h1)
      have hret : ∀ (s' : Sto), stepI fs j F lg k acc = none → ∃ acc' : List Int, D.tup [.int (k : Nat), .int (acc[k - 1]?.getD 0)] = .tup [.int (keptN fs j F lg : Nat), .int (acc'[keptN fs j F lg - 1]?.getD 0)] ∧ earl fs j F lg (keptN fs j F lg) = some acc' := fun s' z => by
        rw [kept_eq (k := k) (by rw [he]; rfl) (by omega) (fun _ => by rw [earl_go he, z]; rfl)]
        exact ⟨acc, rfl, he⟩
      refine OutW.seq (fun e s => e = [some (.lst (fs.map Frm.d)), some (.int j), some (.int (F : Nat)), some (logD lg), some (.int (acc[k - 1]?.getD 0)), some (.int (k : Nat)), some (Frm.d (frmI fs (F + k))), v7] ∧ st = s) ?_ ?_
      · simp -dsimp [hbm, hx, frm_at h1, -Int.natCast_emod, -Int.natCast_add]
      rintro _ _ ⟨rfl, rfl⟩
      refine OutW.seq (fun e s => e = [some (.lst (fs.map Frm.d)), some (.int j), some (.int (F : Nat)), some (logD lg), some (.int (acc[k - 1]?.getD 0)), some (.int (k : Nat)), some (Frm.d (frmI fs (F + k))), some (.int ((lgI lg k).1 - j))] ∧ st = s) ?_ ?_
      · simp -dsimp [lg_ix hk]
      rintro _ _ ⟨rfl, rfl⟩
      refine OutW.seq (fun e s => e = [some (.lst (fs.map Frm.d)), some (.int j), some (.int (F : Nat)), some (logD lg), some (.int (acc[k - 1]?.getD 0)), some (.int (k : Nat)), some (Frm.d (frmI fs (F + k))), some (.int (arrI fs j F lg k acc))] ∧ st = s ∧ ¬ (0 < k ∧ (lgI lg k).1 < (lgI lg (k - 1)).1)) ?_ ?_
      · by_cases hk0 : k = 0
        · subst hk0
          simp -dsimp [arrI]
        · have hkp : (0 : Int) < ((k : Nat) : Int) := by omega
          have x2 : ((F : Int) + (k : Int) - 1) % (fs.length : Int) = (((F + (k - 1)) % fs.length : Nat) : Int) := by
            rw [show (F : Int) + (k : Int) - 1 = ((F + (k - 1) : Nat) : Int) by omega]
            rfl
          have x4 : ((k : Nat) : Int) - 1 = ((k - 1 : Nat) : Int) := by omega
          have x5 : ∀ st : Sto, fIx (logD lg) (.int ((k - 1 : Nat) : Int)) st = .ok (pairD (lgI lg (k - 1))) st := fun st => lg_ix (by omega)
          have x6 : arrI fs j F lg k acc = (if (acc[k - 1]?.getD 0) + (frmI fs (F + (k - 1))).gap > (lgI lg k).1 - j then (acc[k - 1]?.getD 0) + (frmI fs (F + (k - 1))).gap else (lgI lg k).1 - j) := by
            unfold arrI
            rw [if_neg hk0]
            split <;> omega
          rw [r_sIf, OutW_andS]
          refine Ret.mono (P := fun b s => b = true ∧ st = s) (X := NX) (by simp -dsimp [hkp, -Int.natCast_add]; omega) ?_ (fun _ _ _ z => z.elim)
          rintro b _ ⟨rfl, rfl⟩
          rw [if_pos rfl]
          refine OutW.seq (fun e s => e = [some (.lst (fs.map Frm.d)), some (.int j), some (.int (F : Nat)), some (logD lg), some (.int (acc[k - 1]?.getD 0)), some (.int (k : Nat)), some (Frm.d (frmI fs (F + k))), some (.int (arrI fs j F lg k acc))] ∧ st = s) ?_ ?_
          · rw [x6]
            have g1 : ∀ f : Frm, fIx f.d (.int 0) st = .ok (.int f.gap) st := fun f => rfl
            simp -dsimp [hbm, x2, frm_at h1, g1, -Int.natCast_emod, -Int.natCast_add]
          rintro _ _ ⟨rfl, rfl⟩
          have p1 : ∀ q : Int × Int, fIx (pairD q) (.int 0) st = .ok (.int q.1) st := fun q => rfl
          by_cases hlt : (lgI lg k).1 < (lgI lg (k - 1)).1
          · have hn : stepI fs j F lg k acc = none := by
              unfold stepI
              rw [if_pos (.inl ⟨by omega, hlt⟩)]
            simp -dsimp [lg_ix hk, x4, x5, p1, hlt, -Int.natCast_emod, -Int.natCast_add]
            simpa using hret st hn
          · simp -dsimp [lg_ix hk, x4, x5, p1, hlt, -Int.natCast_emod, -Int.natCast_add]
      rintro _ _ ⟨rfl, rfl, hno⟩
      have p1 : ∀ q : Int × Int, fIx (pairD q) (.int 0) st = .ok (.int q.1) st := fun q => rfl
      have p2 : ∀ q : Int × Int, fIx (pairD q) (.int 1) st = .ok (.int q.2) st := fun q => rfl
      have lv : eFn f__law_low [] (aCons (eVar 6) aNil) [some (.lst (fs.map Frm.d)), some (.int j), some (.int (F : Nat)), some (logD lg), some (.int (acc[k - 1]?.getD 0)), some (.int (k : Nat)), some (Frm.d (frmI fs (F + k))), some (.int (arrI fs j F lg k acc))] st = .ok (.int (frmI fs (F + k)).low) st := low_ev hm.w2 rfl
      have hv : eFn f__law_high [] (aCons (eVar 6) aNil) [some (.lst (fs.map Frm.d)), some (.int j), some (.int (F : Nat)), some (logD lg), some (.int (acc[k - 1]?.getD 0)), some (.int (k : Nat)), some (Frm.d (frmI fs (F + k))), some (.int (arrI fs j F lg k acc))] st = .ok (.int (frmI fs (F + k)).high) st := high_ev hm.w2 rfl
      refine OutW.seq (fun e s => e = [some (.lst (fs.map Frm.d)), some (.int j), some (.int (F : Nat)), some (logD lg), some (.int (acc[k - 1]?.getD 0)), some (.int (k : Nat)), some (Frm.d (frmI fs (F + k))), some (.int (arrI fs j F lg k acc))] ∧ st = s ∧ stepI fs j F lg k acc = some (arrI fs j F lg k acc)) ?_ ?_
      · by_cases c1 : (lgI lg k).1 < arrI fs j F lg k acc
        · have hn : stepI fs j F lg k acc = none := by
            unfold stepI
            rw [if_pos (.inr (.inl c1))]
          simp -dsimp [lg_ix hk, p1, p2, lv, hv, c1, -r_eFn, -Int.natCast_emod, -Int.natCast_add]
          simpa using hret st hn
        · by_cases c2 : (lgI lg k).2 < (frmI fs (F + k)).low
          · have hn : stepI fs j F lg k acc = none := by
              unfold stepI
              rw [if_pos (.inr (.inr (by unfold fits; simp; omega)))]
            simp -dsimp [lg_ix hk, p1, p2, lv, hv, c1, c2, -r_eFn, -Int.natCast_emod, -Int.natCast_add]
            simpa using hret st hn
          · by_cases c3 : (frmI fs (F + k)).high < (lgI lg k).2
            · have hn : stepI fs j F lg k acc = none := by
                unfold stepI
                rw [if_pos (.inr (.inr (by unfold fits; simp; omega)))]
              simp -dsimp [lg_ix hk, p1, p2, lv, hv, c1, c2, c3, -r_eFn, -Int.natCast_emod, -Int.natCast_add]
              simpa using hret st hn
            · simp -dsimp [lg_ix hk, p1, p2, lv, hv, c1, c2, c3, -r_eFn, -Int.natCast_emod, -Int.natCast_add]
              unfold stepI
              rw [if_neg]
              rintro (z | z | z)
              · exact hno z
              · exact c1 z
              · unfold fits at z
                simp at z
                omega
      rintro _ _ ⟨rfl, rfl, hst⟩
      simp -dsimp
      refine ⟨acc ++ [arrI fs j F lg k acc], ?_, ?_⟩
      · rw [List.getElem?_append_right (by omega), hal]
        simp
      · rw [earl_go he, hst]
        rfl
    · rintro env s ⟨acc, v5, v6, v7, rfl, he, rfl⟩
      rw [rangeL_len, show ((lg.length : Int) - 0).toNat = lg.length by omega] at he ⊢
      exact ⟨acc, _, _, _, rfl, he, rfl⟩
  rintro _ _ ⟨acc, v5, v6, v7, rfl, he, rfl⟩
  have hk := kept_eq (k := lg.length) (by rw [he]; rfl) (Nat.le_refl _) (fun z => absurd z (Nat.lt_irrefl _))
  simp -dsimp [log_len, hk]
  exact ⟨acc, rfl, he⟩
theorem kept_ev {env : F.Env} {st : Sto} {a b c d : Ev} {fs : List Frm} {j : Int} {F : Nat} {lg : List (Int × Int)} (hF : FsOk fs j) (hl : lg.length ≤ 1000) (ha : a env st = .ok (.lst (fs.map Frm.d)) st) (hb : b env st = .ok (.int j) st) (hc : c env st = .ok (.int (F : Nat)) st) (hd : d env st = .ok (logD lg) st) :
    ∃ acc, eFn f__law_kept [] (aCons a (aCons b (aCons c (aCons d aNil)))) env st = .ok (.tup [.int (keptN fs j F lg : Nat), .int (acc[keptN fs j F lg - 1]?.getD 0)]) st ∧ earl fs j F lg (keptN fs j F lg) = some acc := by
  obtain ⟨d, s, e, acc, rfl, he, rfl⟩ := (kept_ok (st := st) (F := F) hF hl).out
  refine ⟨acc, ?_, he⟩
  simp -dsimp [ha, hb, hc, hd, e]
theorem due_ok {st : Sto} {fs : List Frm} {j : Int} {lg : List (Int × Int)} (hF : FsOk fs j) (hl : lg.length ≤ 1000) :
    Ret (f__law_due [.lst (fs.map Frm.d), .int j, logD lg] st) (fun d s => d = dueD fs j lg ∧ st = s) NX := by
  have h1 := hF.n1
  have h2 := hF.n2
  unfold f__law_due b_f__law_due
  rw [Ret_body]
  refine ⟨rfl, OutW.seq (fun e s => e = [some (.lst (fs.map Frm.d)), some (.int j), some (logD lg), some (.int (dueM fs j lg)), none] ∧ st = s) ?_ ?_⟩
  · have ho : okR (fs.length : Int) := okR_of (by omega) (by omega)
    simp -dsimp [ho]
    refine ⟨by rw [rangeL_len]; omega, ?_⟩
    rw [rangeL_map, comp_fun (h := fun F : Nat => D.int (keptN fs j F lg : Nat)) fun F _ => ⟨_, rfl, by
      obtain ⟨acc, e, _⟩ := kept_ev (env := [some (.lst (fs.map Frm.d)), some (.int j), some (logD lg), none, some (.int (F : Nat))]) (st := st) (F := F) (a := eVar 0) (b := eVar 1) (c := eVar 4) (d := eVar 2) hF hl rfl rfl rfl rfl
      rw [r_eBin, show (List.set [some (D.lst (fs.map Frm.d)), some (.int j), some (logD lg), none, none] 4 (some (.int (F : Nat)))) = [some (.lst (fs.map Frm.d)), some (.int j), some (logD lg), none, some (.int (F : Nat))] from rfl, e]
      simp -dsimp⟩]
    simp -dsimp [r_maxN h1, dueM]
  rintro _ _ ⟨rfl, rfl⟩
  by_cases h : dueM fs j lg = lg.length
  · simp -dsimp [log_len, h, dueD]
  · simp -dsimp [log_len, h, dueD]
end M
namespace M
open PySem L2 F

def expl (fs : List Frm) (j : Int) (lg : List (Int × Int)) : Option Nat := (List.range fs.length).find? fun i => (earl fs j i lg lg.length).isSome
def ExplP (fs : List Frm) (j : Int) (lg : List (Int × Int)) (st : Sto) (d : D) (s : Sto) : Prop :=
  Sm [] st s ∧ match expl fs j lg with
    | none => d = .non
    | some k => ∃ (i : Nat) (acc : List Int), d = .tup [.int (k : Nat), .ref i] ∧ earl fs j k lg lg.length = some acc ∧ s[i]? = some (.lst (acc.map .int)) ∧ st.length ≤ i
theorem explained_ok {st : Sto} {name : List Nat} {fs : List Frm} {j : Int} {lg : List (Int × Int)} (hF : FsOk fs j) (hl : lg.length ≤ 1000) :
    Ret (f_explained [taskD name fs j, logD lg] st) (fun d s => ExplP fs j lg st d s) NX := by
  have h1 := hF.n1
  have h2 := hF.n2
  unfold f_explained b_f_explained
  rw [Ret_body]
  refine ⟨rfl, OutW.seq (fun e s => Sm [] st s ∧ ∀ i, i < fs.length → (earl fs j i lg lg.length).isSome = false) ?_ ?_⟩
  · have hlen : eCall fLen (aCons (eFld ix_frames (eVar 0)) aNil) [some (taskD name fs j), some (logD lg), none, none] st = .ok (.int (fs.length : Nat)) st := by
      simp -dsimp [taskD, fldsOf, ix_frames, framesD]
    rw [show (List.map some [taskD name fs j, logD lg] ++ List.replicate (4 - 2) none) = [some (taskD name fs j), some (logD lg), none, none] from rfl, r_sFor, OutW_andS, r_wRange1, r_aCons, hlen]
    simp -dsimp
    refine ⟨okR_of (by omega) (by omega), ?_⟩
    refine loop_inv (fun k e s => ∃ v2 v3 : Option D, e = [some (taskD name fs j), some (logD lg), v2, v3] ∧ Sm [] st s ∧ ∀ i, i < k → (earl fs j i lg lg.length).isSome = false) ⟨none, none, rfl, .refl _ _, fun i h => absurd h (Nat.not_lt_zero _)⟩ ?_ ?_
    · rintro k d env s hd ⟨v2, v3, rfl, hs, hn⟩
      obtain ⟨hk2, rfl⟩ := rangeL_get hd
      have hk : k < fs.length := by omega
      rw [show (0 : Int) + (k : Int) = ((k : Nat) : Int) by omega]
      refine ⟨_, rfl, ?_⟩
      simp -dsimp
      refine (earliest_ok hF hl).call ?_
      rintro _ s2 ⟨i, acc, rfl, hi, hat, he, hle, hno, hsm⟩
      have hll : fLen [logD lg] s2 = .ok (.int (lg.length : Nat)) s2 := by
        unfold logD
        rw [r_lenL, List.length_map]
      by_cases hc : acc.length = lg.length
      · simp -dsimp [r_lenC hat, hll, hc]
        have hsome : earl fs j k lg lg.length = some acc := by rw [← hc]; exact he
        refine ⟨hs.trans hsm, ?_⟩
        rw [show expl fs j lg = some k from find_range hn hk (by rw [hsome]; rfl)]
        exact ⟨i, acc, rfl, hsome, hat, Nat.le_trans hs.1 hi⟩
      · have hc' : ¬ ((acc.length : Nat) : Int) = (lg.length : Nat) := by omega
        simp -dsimp [r_lenC hat, hll, hc']
        refine ⟨hs.trans hsm, fun i hi => ?_⟩
        by_cases e : i = k
        · subst e
          rw [earl_none (hno (by omega)) _ (by omega)]
        · have := hn i (by omega)
          simpa using this
    · rintro env s ⟨v2, v3, rfl, hs, hn⟩
      rw [rangeL_len, show ((fs.length : Int) - 0).toNat = fs.length by omega] at hn
      exact ⟨hs, hn⟩
  rintro e s ⟨hs, hn⟩
  simp -dsimp
  refine ⟨hs, ?_⟩
  rw [show expl fs j lg = none from find_none hn]
mutual
theorem eqD_refl : ∀ (n : Nat) (d : D), okD n d = true → eqD d d = true
  | n, .non, _ => by unfold eqD; rfl
  | n, .bl b, _ => by unfold eqD; simp
  | n, .int i, _ => by unfold eqD; simp
  | n, .str s, _ => by unfold eqD; simp
  | 0, .tup ds, h => by simp [okD] at h
  | 0, .lst ds, h => by simp [okD] at h
  | 0, .rol ds, h => by simp [okD] at h
  | n + 1, .tup ds, h => by unfold okD at h; unfold eqD; exact eqDs_refl n ds h
  | n + 1, .lst ds, h => by unfold okD at h; unfold eqD; exact eqDs_refl n ds h
  | n + 1, .rol ds, h => by unfold okD at h; unfold eqD; exact eqDs_refl n ds h
  | n, .obj c ds, h => by cases n <;> simp [okD] at h
  | n, .ref i, h => by cases n <;> simp [okD] at h
  | n, .rng i j c, h => by cases n <;> simp [okD] at h
  | n, .ty i, h => by cases n <;> simp [okD] at h
  | n, .cl i, h => by cases n <;> simp [okD] at h
theorem eqDs_refl : ∀ (n : Nat) (ds : List D), okDs n ds = true → eqDs ds ds = true
  | n, [], _ => by unfold eqDs; rfl
  | n, d :: ds, h => by
    unfold okDs at h
    rw [Bool.and_eq_true] at h
    unfold eqDs
    rw [eqD_refl n d h.1, eqDs_refl n ds h.2]
    rfl
end
theorem okD_pair (n : Nat) (p : Int × Int) : okD (n + 1) (pairD p) = true := by
  unfold pairD okD okDs okDs okDs
  simp [okD]
theorem okD_log (lg : List (Int × Int)) : okD 8 (logD lg) = true := by
  unfold logD
  refine okD_lst fun d hd => ?_
  obtain ⟨p, _, rfl⟩ := List.mem_map.mp hd
  exact okD_pair 6 p
theorem i_int : isiT isiTb (.b "int") (.b "int") = some true := by decide +kernel
theorem i_intb : isiT isiTb (.b "int") (.b "bool") = some false := by decide +kernel
theorem number_ok {st : Sto} {z : Int} : Ret (f__law_number [.int z] st) (fun d s => d = .bl true ∧ st = s) NX := by
  unfold f__law_number b_f__law_number
  rw [Ret_body]
  simp -dsimp [fIsi, typeD, clsD, i_int, i_intb]
theorem number_ev {env : F.Env} {st : Sto} {z : Int} {a : Ev} (h : a env st = .ok (.int z) st) : eFn f__law_number [] (aCons a aNil) env st = .ok (.bl true) st := by
  obtain ⟨d, s, e, rfl, rfl⟩ := (number_ok (st := st) (z := z)).out
  simp -dsimp [h, e]
theorem right_ok {st : Sto} {name : List Nat} {fs : List Frm} {j : Int} {lg : List (Int × Int)} (hF : FsOk fs j) (hl : lg.length ≤ 1000) :
    Ret (f__law_right [taskD name fs j, .lst (fs.map Frm.d), .int j, logD lg] st) (fun d s => d = .bl true ∧ Sm [] st s) NX := by
  have h1 := hF.n1
  have h2 := hF.n2
  unfold f__law_right b_f__law_right
  rw [Ret_body]
  refine ⟨rfl, OutW.seq (fun e s => e = [some (taskD name fs j), some (.lst (fs.map Frm.d)), some (.int j), some (logD lg), some (dueD fs j lg), none, none] ∧ st = s) ?_ ?_⟩
  · simp -dsimp
    refine (due_ok hF hl).call ?_
    rintro _ _ ⟨rfl, rfl⟩
    simp -dsimp
  rintro _ _ ⟨rfl, rfl⟩
  refine OutW.seq (fun e s => e = [some (taskD name fs j), some (.lst (fs.map Frm.d)), some (.int j), some (logD lg), some (dueD fs j lg), some (logD lg), none] ∧ st = s) ?_ ?_
  · have hq : fListA false [logD lg] st = .ok (logD lg) st := rfl
    simp -dsimp [hq]
  rintro _ _ ⟨rfl, rfl⟩
  refine OutW.seq (fun e s => e = [some (taskD name fs j), some (.lst (fs.map Frm.d)), some (.int j), some (logD lg), some (dueD fs j lg), some (logD lg), some (dueD fs j lg)] ∧ Sm [] st s) ?_ ?_
  · simp -dsimp
    refine (break_ok hF hl).call ?_
    rintro _ s ⟨rfl, hs⟩
    simp -dsimp
    exact hs
  rintro _ s1 ⟨rfl, hsm⟩
  have hq : fNe (logD lg) (logD lg) s1 = .ok (.bl false) s1 := by
    rw [r_neP (okD_log lg) (okD_log lg), eqD_refl 8 _ (okD_log lg)]
    rfl
  by_cases h : dueM fs j lg = lg.length
  · have e : dueD fs j lg = .non := by unfold dueD; rw [if_pos h]
    rw [e]
    simp -dsimp [hq]
    exact hsm
  · have e : dueD fs j lg = .int (dueM fs j lg) := by unfold dueD; rw [if_neg h]
    rw [e]
    simp -dsimp [hq]
    refine number_ok.call ?_
    rintro _ _ ⟨rfl, rfl⟩
    simp -dsimp
    exact hsm
end M
namespace M
open PySem L2 F

theorem earl_congr {fs : List Frm} {j : Int} {F : Nat} {a b : List (Int × Int)} : ∀ {k : Nat}, (∀ i, i < k → lgI a i = lgI b i) → earl fs j F a k = earl fs j F b k
  | 0, _ => rfl
  | k + 1, h => by
    have e : ∀ acc, stepI fs j F a k acc = stepI fs j F b k acc := fun acc => by
      unfold stepI arrI
      rw [h k (Nat.lt_succ_self k)]
      by_cases hk : k = 0
      · subst hk
        simp
      · rw [h (k - 1) (by omega)]
    unfold earl
    rw [earl_congr (k := k) fun i hi => h i (by omega)]
    cases earl fs j F b k with
    | none => rfl
    | some acc => dsimp only; rw [e]
theorem lgI_take {lg : List (Int × Int)} {m i : Nat} (h : i < m) : lgI (lg.take m) i = lgI lg i := by
  unfold lgI
  rw [List.getD_eq_getElem?_getD, List.getD_eq_getElem?_getD, List.getElem?_take, if_pos h]
theorem lgI_app {a b : List (Int × Int)} {i : Nat} (h : i < a.length) : lgI (a ++ b) i = lgI a i := by
  unfold lgI
  rw [List.getD_eq_getElem?_getD, List.getD_eq_getElem?_getD, List.getElem?_append_left h]
theorem lgI_end {a : List (Int × Int)} {p : Int × Int} : lgI (a ++ [p]) a.length = p := by
  unfold lgI
  rw [List.getD_eq_getElem?_getD, List.getElem?_append_right (Nat.le_refl _)]
  simp
theorem due_non {fs : List Frm} {j : Int} {lg : List (Int × Int)} {F : Nat} (hF : F < fs.length) (h : (earl fs j F lg lg.length).isSome = true) : dueD fs j lg = .non := by
  obtain ⟨m, G, h1, h2, h3, h4, h5⟩ := due_spec (fs := fs) (j := j) (lg := lg) (by omega)
  have := h5 F hF
  rw [kept_eq h (Nat.le_refl _) (fun z => absurd z (Nat.lt_irrefl _))] at this
  unfold dueD
  rw [h1, if_pos]
  omega
theorem expl_yes {fs : List Frm} {j : Int} {lg : List (Int × Int)} {st s : Sto} {d : D} {F : Nat} (hF : F < fs.length) (h : (earl fs j F lg lg.length).isSome = true) (e : ExplP fs j lg st d s) : (∃ x, d = .tup x) ∧ Sm [] st s := by
  refine ⟨?_, e.1⟩
  have e2 := e.2
  cases q : expl fs j lg with
  | none =>
    unfold expl at q
    rw [List.find?_range_eq_none] at q
    have := q F hF
    rw [h] at this
    cases this
  | some k =>
    rw [q] at e2
    obtain ⟨i, acc, rfl, _⟩ := e2
    exact ⟨_, rfl⟩
theorem expl_no {fs : List Frm} {j : Int} {lg : List (Int × Int)} {st s : Sto} {d : D} (h : ∀ F, F < fs.length → earl fs j F lg lg.length = none) (e : ExplP fs j lg st d s) : d = .non ∧ Sm [] st s := by
  refine ⟨?_, e.1⟩
  have e2 := e.2
  rw [show expl fs j lg = none from find_none fun i hi => by rw [h i hi]; rfl] at e2
  exact e2
theorem add_ref {a b : List (Int × Int)} {st : Sto} {i : Nat} (hi : st[i]? = some (.lst (b.map pairD))) (h : a.length + b.length ≤ 1000) : fAdd false (logD a) (.ref i) st = .ok (logD (a ++ b)) st := by
  have hh : asH (.ref i) st = some (b.map pairD) := by
    unfold asH
    first | (rw [hi]) | (simp [hi]) | skip
  have h1 : (a.map pairD).length + (b.map pairD).length ≤ sizeLine := by rw [List.length_map, List.length_map]; show a.length + b.length ≤ 16777216; omega
  show (match asH (logD a) st, asH (.ref i) st with
    | some a, some b => if a.length + b.length ≤ sizeLine then mkL false (a ++ b) st else .bad
    | _, _ => .bad) = _
  rw [hh, show asH (logD a) st = some (a.map pairD) from rfl]
  dsimp only
  rw [if_pos h1, ← List.map_append]
  rfl
/-- a log with a good entry behind what a start frame explains -/
theorem mended_ok {fs : List Frm} {j : Int} {F k : Nat} {lg : List (Int × Int)} {acc : List Int} {rel len : Int} (hj : 0 ≤ j) (hk : k ≤ lg.length) (he : earl fs j F lg k = some acc)
    (h1 : 0 < k → (lgI lg (k - 1)).1 ≤ rel ∧ (acc[k - 1]?.getD 0) + (frmI fs (F + (k - 1))).gap ≤ rel) (h2 : (frmI fs (F + k)).low ≤ len) (h3 : len ≤ (frmI fs (F + k)).high) :
    (earl fs j F (lg.take k ++ [(rel, len)]) (lg.take k ++ [(rel, len)]).length).isSome = true := by
  have hl : (lg.take k).length = k := by rw [List.length_take]; omega
  have e0 : earl fs j F (lg.take k ++ [(rel, len)]) k = some acc := by
    rw [← he]
    refine earl_congr fun i hi => ?_
    rw [lgI_app (by omega), lgI_take hi]
  have eN : lgI (lg.take k ++ [(rel, len)]) k = (rel, len) := by
    have := lgI_end (a := lg.take k) (p := (rel, len))
    rw [hl] at this
    exact this
  rw [List.length_append, hl]
  show (earl fs j F (lg.take k ++ [(rel, len)]) (k + 1)).isSome = true
  have eP : 0 < k → lgI (lg.take k ++ [(rel, len)]) (k - 1) = lgI lg (k - 1) := fun z => by
    rw [lgI_app (by omega), lgI_take (by omega)]
  rw [earl_go e0]
  have ha : arrI fs j F (lg.take k ++ [(rel, len)]) k acc ≤ rel := by
    unfold arrI
    rw [eN]
    split
    · show rel - j ≤ rel
      omega
    · have := h1 (by omega)
      show max (rel - j) _ ≤ rel
      omega
  have hs : stepI fs j F (lg.take k ++ [(rel, len)]) k acc = some (arrI fs j F (lg.take k ++ [(rel, len)]) k acc) := by
    unfold stepI
    rw [if_neg]
    rw [eN]
    rintro (z | z | z)
    · rw [eP z.1] at z
      have := (h1 z.1).1
      have := z.2
      dsimp only at this
      omega
    · dsimp only at z
      omega
    · unfold fits at z
      simp at z
      omega
  rw [hs]
  rfl
end M
namespace M
open PySem L2 F

theorem around_ok {st : Sto} {b n k : Nat} {name : List Nat} {fs : List Frm} {j : Int} {lg : List (Int × Int)} (hb : BG n b st) (hn : n < 2 ^ 90) (hF : FsOk fs j) (hl : lg.length ≤ 900) (hk : k < lg.length)
    (hA : ∃ F, F < fs.length ∧ (earl fs j F lg k).isSome = true) (hB : ∀ F, F < fs.length → earl fs j F lg (k + 1) = none) :
    Ret (f__law_around [.ref b, taskD name fs j, .lst (fs.map Frm.d), .int j, logD lg, .int (k : Nat)] st) (fun d s => d = .bl true) NX := by
  have h1 := hF.n1
  have h2 := hF.n2
  have ht : (lg.take k).length = k := by rw [List.length_take]; omega
  have ht1 : (lg.take (k + 1)).length = k + 1 := by rw [List.length_take]; omega
  have ek : ∀ F, earl fs j F (lg.take k) k = earl fs j F lg k := fun F => earl_congr fun i hi => lgI_take hi
  have ek1 : ∀ F, earl fs j F (lg.take (k + 1)) (k + 1) = earl fs j F lg (k + 1) := fun F => earl_congr fun i hi => lgI_take hi
  have x1 : ((k : Nat) : Int) + 1 = ((k + 1 : Nat) : Int) := by omega
  obtain ⟨F0, hF0, hs0⟩ := hA
  unfold f__law_around b_f__law_around
  rw [Ret_body]
  have hne : dueD fs j (lg.take k) = .non := due_non (F := F0) hF0 (by rw [ht, ek]; exact hs0)
  refine ⟨rfl, OutW.seq (fun e s => e = [some (.ref b), some (taskD name fs j), some (.lst (fs.map Frm.d)), some (.int j), some (logD lg), some (.int (k : Nat)), none, none, none, none, none, none, none, none, none] ∧ BG n b s) ?_ ?_⟩
  · simp -dsimp [log_to]
    refine (break_ok hF (by omega)).call ?_
    rintro _ s1 ⟨rfl, hs1⟩
    simp -dsimp [hne]
    exact hb.keep hs1 (by simp)
  clear hb
  rintro _ s ⟨rfl, hb⟩
  refine OutW.seq (fun e s => e = [some (.ref b), some (taskD name fs j), some (.lst (fs.map Frm.d)), some (.int j), some (logD lg), some (.int (k : Nat)), none, none, none, none, none, none, none, none, none] ∧ BG n b s) ?_ ?_
  · simp -dsimp [log_to, -r_isN, -r_isNotN]
    refine (explained_ok hF (by omega)).call ?_
    intro x s1 hE
    obtain ⟨⟨y, rfl⟩, hs1⟩ := expl_yes hF0 (by rw [ht, ek]; exact hs0) hE
    simp -dsimp [log_to, x1, -Int.natCast_add]
    refine (explained_ok hF (by omega)).call ?_
    intro x s2 hE
    obtain ⟨rfl, hs2⟩ := expl_no (fun F h => by rw [ht1, ek1]; exact hB F h) hE
    simp -dsimp
    exact (hb.keep hs1 (by simp)).keep hs2 (by simp)
  clear hb
  rintro _ s ⟨rfl, hb⟩
  have hi := hb.lt
  refine OutW.seq (fun e s => ∃ q, e = [some (.ref b), some (taskD name fs j), some (.lst (fs.map Frm.d)), some (.int j), some (logD lg), some (.int (k : Nat)), some (.ref q), none, none, none, none, none, none, none, none] ∧ ∃ s0 : Sto, Lv n b s0 s q []) ?_ ?_
  · simp -dsimp
    exact ⟨s, Lv.mk' ⟨hb, .refl _ _⟩ hi⟩
  clear hb hi
  rintro _ s ⟨q, rfl, s0, L⟩
  refine OutW.seq (fun e s => ∃ (v7 : Option D) (jk : List (Int × Int)), e = [some (.ref b), some (taskD name fs j), some (.lst (fs.map Frm.d)), some (.int j), some (logD lg), some (.int (k : Nat)), some (.ref q), v7, none, none, none, none, none, none, none] ∧ jk.length ≤ 3 ∧ Lv (n + 10) b s0 s q (jk.map pairD)) ?_ ?_
  · simp -dsimp
    refine (take_ok L.af.hb (by omega) (by decide) (by decide)).call ?_
    rintro _ s1 ⟨r1, rfl, a1, b1, A1⟩
    have L1 := L.draw A1
    simp -dsimp
    refine ⟨okR_of (by omega) (by omega), ?_⟩
    refine loop_inv (fun m e s => ∃ (v7 : Option D) (jk : List (Int × Int)), e = [some (.ref b), some (taskD name fs j), some (.lst (fs.map Frm.d)), some (.int j), some (logD lg), some (.int (k : Nat)), some (.ref q), v7, none, none, none, none, none, none, none] ∧ jk.length = m ∧ Lv (n + 1 + 2 * m) b s0 s q (jk.map pairD)) ⟨none, [], rfl, rfl, L1⟩ ?_ ?_
    · rintro m x env s hd ⟨v7, jk, rfl, hjk, L⟩
      obtain ⟨hm2, rfl⟩ := rangeL_get hd
      refine ⟨_, rfl, ?_⟩
      simp -dsimp [r_isLst L.at_, log_at hk]
      refine (take_ok L.af.hb (by omega) (by decide) (by decide)).call ?_
      rintro _ s2 ⟨r2, rfl, a2, b2, A2⟩
      have L2 := L.draw A2
      simp -dsimp
      refine (take_ok L2.af.hb (by omega) (by decide) (by decide)).call ?_
      rintro _ s3 ⟨r3, rfl, a3, b3, A3⟩
      have L3 := L2.draw A3
      have hll : jk.length < 16777216 := by omega
      simp -dsimp [r_append L3.at_, hll]
      refine ⟨jk ++ [(lg[k].1 + r2 - 30, r3 - 1)], by simp [hjk], ?_⟩
      have L4 := (L3.app (pairD (lg[k].1 + r2 - 30, r3 - 1))).mono (m := n + 1 + 2 * (m + 1)) (by omega)
      rw [List.map_append]
      exact L4
    · rintro env s ⟨v7, jk, rfl, hjk, L⟩
      rw [rangeL_len] at hjk L
      exact ⟨v7, jk, rfl, by omega, L.mono (by omega)⟩
  clear L
  rintro _ s ⟨v7, jk, rfl, hjk, L⟩
  refine OutW.seq (fun e s => e = [some (.ref b), some (taskD name fs j), some (.lst (fs.map Frm.d)), some (.int j), some (logD lg), some (.int (k : Nat)), some (.ref q), v7, none, none, none, none, none, none, none] ∧ BG (n + 10) b s) ?_ ?_
  · have ha := add_ref (a := lg.take (k + 1)) L.at_ (by omega)
    simp -dsimp [log_to, x1, ha, -Int.natCast_add]
    refine (right_ok hF (by rw [List.length_append]; omega)).call ?_
    rintro _ s1 ⟨rfl, hs1⟩
    simp -dsimp
    exact L.af.hb.keep hs1 (by simp)
  clear L
  rintro _ s ⟨rfl, hb⟩
  refine OutW.seq (fun e s => e = [some (.ref b), some (taskD name fs j), some (.lst (fs.map Frm.d)), some (.int j), some (logD lg), some (.int (k : Nat)), some (.ref q), v7, some (.lst (((List.range fs.length).filter fun F => decide (keptN fs j F (lg.take k) = k)).map fun F : Nat => .int (F : Nat))), none, none, none, none, none, none] ∧ BG (n + 10) b s) ?_ ?_
  · have ho : okR (fs.length : Int) := okR_of (by omega) (by omega)
    simp -dsimp [ho]
    refine ⟨by rw [rangeL_len]; omega, ?_⟩
    rw [rangeL_map, comp_filt (h := fun F : Nat => D.int (F : Nat)) (q := fun F : Nat => decide (keptN fs j F (lg.take k) = k)) fun F _ => ⟨_, rfl, by
      obtain ⟨acc, e, _⟩ := kept_ev (env := [some (.ref b), some (taskD name fs j), some (.lst (fs.map Frm.d)), some (.int j), some (logD lg), some (.int (k : Nat)), some (.ref q), v7, none, some (.int (F : Nat)), none, none, none, none, none]) (st := s) (F := F) (lg := lg.take k) (a := eVar 2) (b := eVar 3) (c := eVar 9) (d := eSl false (eVar 4) oNone (oSome (eVar 5))) hF (by omega) rfl rfl rfl (by simp -dsimp [log_to])
      rw [show (List.set [some (.ref b), some (taskD name fs j), some (.lst (fs.map Frm.d)), some (.int j), some (logD lg), some (.int (k : Nat)), some (.ref q), v7, none, none, none, none, none, none, none] 9 (some (.int (F : Nat)))) = [some (.ref b), some (taskD name fs j), some (.lst (fs.map Frm.d)), some (.int j), some (logD lg), some (.int (k : Nat)), some (.ref q), v7, none, some (.int (F : Nat)), none, none, none, none, none] from rfl]
      have e2 : (eBin fIx (eFn f__law_kept [] (aCons (eVar 2) (aCons (eVar 3) (aCons (eVar 9) (aCons (eSl false (eVar 4) oNone (oSome (eVar 5))) aNil))))) (eC (.int 0))) [some (.ref b), some (taskD name fs j), some (.lst (fs.map Frm.d)), some (.int j), some (logD lg), some (.int (k : Nat)), some (.ref q), v7, none, some (.int (F : Nat)), none, none, none, none, none] s = .ok (.int (keptN fs j F (lg.take k) : Nat)) s := by
        rw [r_eBin, e]
        simp -dsimp
      rw [r_tOf, r_eBin, e2]
      simp -dsimp
      omega, fun _ => rfl⟩]
    simp -dsimp
    exact hb
  clear hb
  rintro _ s ⟨rfl, hb⟩
  have hal : ∃ al : List Nat, (List.range fs.length).filter (fun F => decide (keptN fs j F (lg.take k) = k)) = al ∧ (∀ F ∈ al, F < fs.length ∧ keptN fs j F (lg.take k) = k) ∧ 1 ≤ al.length ∧ al.length ≤ 4 := by
    refine ⟨_, rfl, fun F hF => ?_, ?_, ?_⟩
    · have := List.mem_filter.mp hF
      exact ⟨by simpa using this.1, by simpa using this.2⟩
    · have hm : F0 ∈ (List.range fs.length).filter (fun F => decide (keptN fs j F (lg.take k) = k)) := by
        rw [List.mem_filter]
        refine ⟨by simpa using hF0, ?_⟩
        rw [decide_eq_true_eq]
        exact kept_eq (by rw [ek]; exact hs0) (by omega) (fun z => by omega)
      exact List.length_pos_of_mem hm
    · have := List.length_filter_le (fun F => decide (keptN fs j F (lg.take k) = k)) (List.range fs.length)
      rw [List.length_range] at this
      omega
  obtain ⟨al, eal, hal1, hal2, hal3⟩ := hal
  rw [eal]
  clear eal
  refine OutW.seq (fun e s => ∃ F : Nat, e = [some (.ref b), some (taskD name fs j), some (.lst (fs.map Frm.d)), some (.int j), some (logD lg), some (.int (k : Nat)), some (.ref q), v7, some (.lst (al.map fun F : Nat => .int (F : Nat))), some (.int (F : Nat)), none, none, none, none, none] ∧ (F < fs.length ∧ keptN fs j F (lg.take k) = k) ∧ BG (n + 11) b s) ?_ ?_
  · simp -dsimp
    refine (take_ok hb (by omega) (by omega) (by omega)).call ?_
    rintro _ s2 ⟨r2, rfl, a2, b2, A2⟩
    obtain ⟨r, rfl⟩ : ∃ r : Nat, r2 = r := ⟨r2.toNat, by omega⟩
    have hr : r < al.length := by omega
    have ha : atI (al.map fun F : Nat => D.int (F : Nat)) (r : Nat) = some (.int (al[r] : Nat)) := by
      rw [atI_in (by omega) (by rw [List.length_map]; omega)]
      simp
    simp -dsimp [ha]
    exact ⟨al[r], rfl, hal1 _ (List.getElem_mem hr), A2.hb⟩
  clear hb
  rintro _ s ⟨F, rfl, ⟨hFn, hFk⟩, hb⟩
  have hx : ((F : Int) + (k : Int)) % (fs.length : Int) = (((F + k) % fs.length : Nat) : Int) := rfl
  have hbm : ∀ z : Int, bMod z fs.length = true := fun z => bMod_pos (by omega)
  refine OutW.seq (fun e s => e = [some (.ref b), some (taskD name fs j), some (.lst (fs.map Frm.d)), some (.int j), some (logD lg), some (.int (k : Nat)), some (.ref q), v7, some (.lst (al.map fun F : Nat => .int (F : Nat))), some (.int (F : Nat)), some (Frm.d (frmI fs (F + k))), none, none, none, none] ∧ BG (n + 11) b s) ?_ ?_
  · simp -dsimp [hbm, hx, frm_at h1, -Int.natCast_emod, -Int.natCast_add]
    exact hb
  clear hb
  rintro _ s ⟨rfl, hb⟩
  refine OutW.seq (fun e s => e = [some (.ref b), some (taskD name fs j), some (.lst (fs.map Frm.d)), some (.int j), some (logD lg), some (.int (k : Nat)), some (.ref q), v7, some (.lst (al.map fun F : Nat => .int (F : Nat))), some (.int (F : Nat)), some (Frm.d (frmI fs (F + k))), some (.int lg[k].1), none, none, none] ∧ BG (n + 11) b s) ?_ ?_
  · simp -dsimp [log_at hk]
    exact hb
  clear hb
  rintro _ s ⟨rfl, hb⟩
  refine OutW.seq (fun e s => ∃ (rel : Int) (v12 : Option D) (acc : List Int), e = [some (.ref b), some (taskD name fs j), some (.lst (fs.map Frm.d)), some (.int j), some (logD lg), some (.int (k : Nat)), some (.ref q), v7, some (.lst (al.map fun F : Nat => .int (F : Nat))), some (.int (F : Nat)), some (Frm.d (frmI fs (F + k))), some (.int rel), v12, none, none] ∧ earl fs j F lg k = some acc ∧ (0 < k → (lgI lg (k - 1)).1 ≤ rel ∧ (acc[k - 1]?.getD 0) + (frmI fs (F + (k - 1))).gap ≤ rel) ∧ BG (n + 12) b s) ?_ ?_
  · obtain ⟨acc, e, hacc⟩ := kept_ev (env := [some (.ref b), some (taskD name fs j), some (.lst (fs.map Frm.d)), some (.int j), some (logD lg), some (.int (k : Nat)), some (.ref q), v7, some (.lst (al.map fun F : Nat => .int (F : Nat))), some (.int (F : Nat)), some (Frm.d (frmI fs (F + k))), some (.int lg[k].1), none, none, none]) (st := s) (F := F) (lg := lg.take k) (a := eVar 2) (b := eVar 3) (c := eVar 9) (d := eSl false (eVar 4) oNone (oSome (eVar 5))) hF (by omega) rfl rfl rfl (by simp -dsimp [log_to])
    rw [hFk] at e hacc
    rw [ek] at hacc
    by_cases hk0 : k = 0
    · have hkz : ¬ (0 : Int) < ((k : Nat) : Int) := by omega
      simp -dsimp [hkz, -Int.natCast_pos]
      exact ⟨acc, hacc, fun z => by omega, hb.mono (by omega)⟩
    · have hkp : (0 : Int) < ((k : Nat) : Int) := by omega
      have x2 : ((F : Int) + (k : Int) - 1) % (fs.length : Int) = (((F + (k - 1)) % fs.length : Nat) : Int) := by
        rw [show (F : Int) + (k : Int) - 1 = ((F + (k - 1) : Nat) : Int) by omega]
        rfl
      have x4 : ((k : Nat) : Int) - 1 = ((k - 1 : Nat) : Int) := by omega
      have x5 : ∀ st : Sto, fIx (logD lg) (.int ((k - 1 : Nat) : Int)) st = .ok (pairD (lgI lg (k - 1))) st := fun st => lg_ix (by omega)
      have g1 : ∀ (f : Frm) (st : Sto), fIx f.d (.int 0) st = .ok (.int f.gap) st := fun f st => rfl
      rw [r_sIf, OutW_andS]
      refine Ret.mono (P := fun b s' => b = true ∧ s = s') (X := NX) (by simp -dsimp [hkp, -Int.natCast_add]; omega) ?_ (fun _ _ _ z => z.elim)
      rintro t _ ⟨rfl, rfl⟩
      rw [if_pos rfl]
      refine OutW.seq (fun e s => e = [some (.ref b), some (taskD name fs j), some (.lst (fs.map Frm.d)), some (.int j), some (logD lg), some (.int (k : Nat)), some (.ref q), v7, some (.lst (al.map fun F : Nat => .int (F : Nat))), some (.int (F : Nat)), some (Frm.d (frmI fs (F + k))), some (.int lg[k].1), some (.int ((acc[k - 1]?.getD 0) + (frmI fs (F + (k - 1))).gap)), none, none] ∧ BG (n + 11) b s) ?_ ?_
      · have e2 : (eBin fIx (eFn f__law_kept [] (aCons (eVar 2) (aCons (eVar 3) (aCons (eVar 9) (aCons (eSl false (eVar 4) oNone (oSome (eVar 5))) aNil))))) (eC (.int 1))) [some (.ref b), some (taskD name fs j), some (.lst (fs.map Frm.d)), some (.int j), some (logD lg), some (.int (k : Nat)), some (.ref q), v7, some (.lst (al.map fun F : Nat => .int (F : Nat))), some (.int (F : Nat)), some (Frm.d (frmI fs (F + k))), some (.int lg[k].1), none, none, none] s = .ok (.int (acc[k - 1]?.getD 0)) s := by
          rw [r_eBin, e]
          simp -dsimp
        rw [r_sSet, r_eBin, e2]
        simp -dsimp [hbm, x2, frm_at h1, g1, -Int.natCast_emod, -Int.natCast_add]
        exact hb
      clear hb e
      rintro _ s ⟨rfl, hb⟩
      simp -dsimp [x4, x5, -Int.natCast_emod, -Int.natCast_add]
      refine (take_ok hb (by omega) (by decide) (by decide)).call ?_
      rintro _ s2 ⟨r2, rfl, a2, b2, A2⟩
      simp -dsimp
      refine ⟨acc, hacc, fun _ => ?_, A2.hb⟩
      split <;> constructor <;> omega
  clear hb
  rintro _ s ⟨rel, v12, acc, rfl, hacc, hrel, hb⟩
  have hm := hF.f _ (frm_mem (i := F + k) h1)
  obtain ⟨q1, q2, q3⟩ := bounds hm
  have lv : ∀ s', eFn f__law_low [] (aCons (eVar 10) aNil) [some (.ref b), some (taskD name fs j), some (.lst (fs.map Frm.d)), some (.int j), some (logD lg), some (.int (k : Nat)), some (.ref q), v7, some (.lst (al.map fun F : Nat => .int (F : Nat))), some (.int (F : Nat)), some (Frm.d (frmI fs (F + k))), some (.int rel), v12, none, none] s' = .ok (.int (frmI fs (F + k)).low) s' := fun s' => low_ev hm.w2 rfl
  have hv : ∀ s', eFn f__law_high [] (aCons (eVar 10) aNil) [some (.ref b), some (taskD name fs j), some (.lst (fs.map Frm.d)), some (.int j), some (logD lg), some (.int (k : Nat)), some (.ref q), v7, some (.lst (al.map fun F : Nat => .int (F : Nat))), some (.int (F : Nat)), some (Frm.d (frmI fs (F + k))), some (.int rel), v12, none, none] s' = .ok (.int (frmI fs (F + k)).high) s' := fun s' => high_ev hm.w2 rfl
  refine OutW.seq (fun e s => ∃ len : Int, e = [some (.ref b), some (taskD name fs j), some (.lst (fs.map Frm.d)), some (.int j), some (logD lg), some (.int (k : Nat)), some (.ref q), v7, some (.lst (al.map fun F : Nat => .int (F : Nat))), some (.int (F : Nat)), some (Frm.d (frmI fs (F + k))), some (.int rel), v12, some (.int len), none] ∧ ((frmI fs (F + k)).low ≤ len ∧ len ≤ (frmI fs (F + k)).high) ∧ BG (n + 13) b s) ?_ ?_
  · have hargs : ∀ s', (aCons (eVar 0) (aCons (eBin (fAdd false) (eBin fSub (eFn f__law_high [] (aCons (eVar 10) aNil)) (eFn f__law_low [] (aCons (eVar 10) aNil))) (eC (.int 1))) aNil)) [some (.ref b), some (taskD name fs j), some (.lst (fs.map Frm.d)), some (.int j), some (logD lg), some (.int (k : Nat)), some (.ref q), v7, some (.lst (al.map fun F : Nat => .int (F : Nat))), some (.int (F : Nat)), some (Frm.d (frmI fs (F + k))), some (.int rel), v12, none, none] s' = .ok [.ref b, .int ((frmI fs (F + k)).high - (frmI fs (F + k)).low + 1)] s' := fun s' => by
      simp -dsimp [lv, hv, -r_eFn]
    simp -dsimp [lv, -r_eFn]
    rw [r_eFn, hargs]
    simp -dsimp
    refine (take_ok hb (by omega) (by omega) (by omega)).call ?_
    rintro _ s4 ⟨r4, rfl, a4, b4, A4⟩
    simp -dsimp
    exact ⟨by omega, A4.hb⟩
  clear hb lv hv
  rintro _ s ⟨len, rfl, ⟨hlo, hhi⟩, hb⟩
  have hlen : (lg.take k ++ [(rel, len)]).length = k + 1 := by rw [List.length_append, ht]; rfl
  refine OutW.seq (fun e s => e = [some (.ref b), some (taskD name fs j), some (.lst (fs.map Frm.d)), some (.int j), some (logD lg), some (.int (k : Nat)), some (.ref q), v7, some (.lst (al.map fun F : Nat => .int (F : Nat))), some (.int (F : Nat)), some (Frm.d (frmI fs (F + k))), some (.int rel), v12, some (.int len), some (logD (lg.take k ++ [(rel, len)]))] ∧ BG (n + 13) b s) ?_ ?_
  · have l1 : (lg.take k).length + [(rel, len)].length ≤ 1000 := by rw [ht]; show k + 1 ≤ 1000; omega
    have o1 : D.lst [.tup [.int rel, .int len]] = logD [(rel, len)] := rfl
    simp -dsimp [log_to, o1, log_add l1]
    exact hb
  clear hb
  rintro _ s ⟨rfl, hb⟩
  have hgood := mended_ok hF.j1 (Nat.le_of_lt hk) hacc hrel hlo hhi
  generalize hmd : lg.take k ++ [(rel, len)] = md at hgood hlen
  have hq : ∀ s, fListA false [logD md] s = .ok (logD md) s := fun s => rfl
  refine OutW.seq (fun e s => e = [some (.ref b), some (taskD name fs j), some (.lst (fs.map Frm.d)), some (.int j), some (logD lg), some (.int (k : Nat)), some (.ref q), v7, some (.lst (al.map fun F : Nat => .int (F : Nat))), some (.int (F : Nat)), some (Frm.d (frmI fs (F + k))), some (.int rel), v12, some (.int len), some (logD md)] ∧ BG (n + 13) b s) ?_ ?_
  · simp -dsimp [hq]
    refine (break_ok hF (by omega)).call ?_
    rintro _ s1 ⟨rfl, hs1⟩
    simp -dsimp [due_non hFn hgood, hq]
    refine (explained_ok hF (by omega)).call ?_
    intro x s2 hE
    obtain ⟨⟨y, rfl⟩, hs2⟩ := expl_yes hFn hgood hE
    simp -dsimp
    exact (hb.keep hs1 (by simp)).keep hs2 (by simp)
  clear hb
  rintro _ s ⟨rfl, hb⟩
  have l2 : md.length + (lg.drop (k + 1)).length ≤ 1000 := by rw [hlen, List.length_drop]; omega
  simp -dsimp [x1, log_from, log_add l2, -Int.natCast_add]
  refine (right_ok hF (by rw [List.length_append]; omega)).call ?_
  rintro _ s1 ⟨rfl, hs1⟩
  simp -dsimp
end M
namespace M
open PySem L2 F

theorem cut_map {α β : Type} {f : α → β} {l : List α} {lo hi : Option Int} : cutD (l.map f) lo hi = (cutD l lo hi).map f := by
  unfold cutD
  rw [List.length_map, List.map_take, List.map_drop]
theorem cut_len {α : Type} {l : List α} {lo hi : Option Int} : (cutD l lo hi).length ≤ l.length := by
  unfold cutD
  rw [List.length_take, List.length_drop]
  omega
/-- where a log breaks -/
structure Brk (fs : List Frm) (j : Int) (lg : List (Int × Int)) (k : Nat) : Prop where
  lt : k < lg.length
  a : ∃ F, F < fs.length ∧ (earl fs j F lg k).isSome = true
  b : ∀ F, F < fs.length → earl fs j F lg (k + 1) = none
theorem brk_due {fs : List Frm} {j : Int} {lg : List (Int × Int)} (h : 1 ≤ fs.length) (hn : ¬ dueM fs j lg = lg.length) : ∃ k : Nat, dueD fs j lg = .int (k : Nat) ∧ Brk fs j lg k := by
  obtain ⟨m, F, h1, h2, h3, h4, h5⟩ := due_spec (fs := fs) (j := j) (lg := lg) h
  refine ⟨m, ?_, by omega, ⟨F, h2, by rw [← h3]; exact kept_spec.1⟩, fun G hG => ?_⟩
  · unfold dueD
    rw [if_neg hn, h1]
  · have := h5 G hG
    exact earl_none (kept_spec.2.2 (by omega)) _ (by omega)
theorem brk_new {fs : List Frm} {j : Int} {lg : List (Int × Int)} {rel len : Int} (h : 1 ≤ fs.length) (hn : dueM fs j lg = lg.length) (hl : ∀ f ∈ fs, f.high < len) : Brk fs j (lg ++ [(rel, len)]) lg.length := by
  obtain ⟨m, F, h1, h2, h3, h4, h5⟩ := due_spec (fs := fs) (j := j) (lg := lg) h
  have hm : m = lg.length := by omega
  subst hm
  have ec : ∀ F, earl fs j F (lg ++ [(rel, len)]) lg.length = earl fs j F lg lg.length := fun F => earl_congr fun i hi => lgI_app hi
  refine ⟨by simp, ⟨F, h2, by rw [ec]; have := kept_spec (fs := fs) (j := j) (F := F) (lg := lg); rw [h3] at this; exact this.1⟩, fun G hG => ?_⟩
  cases e : earl fs j G (lg ++ [(rel, len)]) lg.length with
  | none => exact earl_none e _ (by omega)
  | some acc =>
    rw [earl_go e]
    have hf := hl _ (frm_mem (i := G + lg.length) h)
    have : stepI fs j G (lg ++ [(rel, len)]) lg.length acc = none := by
      have hft : fits (frmI fs (G + lg.length)) (lgI (lg ++ [(rel, len)]) lg.length).2 = false := by
        rw [lgI_end]
        unfold fits
        simp
        omega
      unfold stepI
      rw [if_pos (.inr (.inr hft))]
    rw [this]
    rfl
theorem law_main {ns : List Int} : Ret (f_law [.rol (ns.map .int)] []) (fun d s => d = .bl true) NX := by
  unfold f_law b_f_law
  rw [Ret_body]
  refine ⟨rfl, OutW.seq (fun e s => e = [some (.rol (ns.map .int)), some (.ref 0), none, none, none, none, none, none, none, none, none, none, none] ∧ BG 1000 0 s) ?_ ?_⟩
  · simp -dsimp
    refine (bag_ok (spot := 0) (by decide)).call ?_
    rintro _ s ⟨rfl, hb, _⟩
    simp -dsimp
    exact hb
  rintro _ s ⟨rfl, hb⟩
  refine OutW.seq (fun e s => ∃ n : Nat, e = [some (.rol (ns.map .int)), some (.ref 0), some (.int (n : Nat)), none, none, none, none, none, none, none, none, none, none] ∧ (1 ≤ n ∧ n ≤ 4) ∧ BG 1001 0 s) ?_ ?_
  · simp -dsimp
    refine (take_ok hb (by decide) (by decide) (by decide)).call ?_
    rintro _ s1 ⟨r, rfl, a, b, A⟩
    simp -dsimp
    exact ⟨r.toNat + 1, by omega, by omega, A.hb⟩
  clear hb
  rintro _ s ⟨n, rfl, hn, hb⟩
  refine OutW.seq (fun e s => ∃ large : Bool, e = [some (.rol (ns.map .int)), some (.ref 0), some (.int (n : Nat)), some (.bl large), none, none, none, none, none, none, none, none, none] ∧ BG 1002 0 s) ?_ ?_
  · simp -dsimp
    refine (take_ok hb (by decide) (by decide) (by decide)).call ?_
    rintro _ s1 ⟨r, rfl, a, b, A⟩
    simp -dsimp
    exact A.hb
  clear hb
  rintro _ s ⟨large, rfl, hb⟩
  refine OutW.seq (fun e s => ∃ early : Int, e = [some (.rol (ns.map .int)), some (.ref 0), some (.int (n : Nat)), some (.bl large), some (.int early), none, none, none, none, none, none, none, none] ∧ (0 ≤ early ∧ early ≤ 5) ∧ BG 1003 0 s) ?_ ?_
  · simp -dsimp
    refine (take_ok hb (by decide) (by decide) (by decide)).call ?_
    rintro _ s1 ⟨r, rfl, a, b, A⟩
    obtain ⟨z, hz, h0, h5⟩ : ∃ z : Int, atI [D.int 0, .int 0, .int 1, .int 2, .int 3, .int 5] r = some (.int z) ∧ 0 ≤ z ∧ z ≤ 5 := by
      have hr : r = 0 ∨ r = 1 ∨ r = 2 ∨ r = 3 ∨ r = 4 ∨ r = 5 := by omega
      rcases hr with rfl | rfl | rfl | rfl | rfl | rfl
      · exact ⟨0, rfl, by decide, by decide⟩
      · exact ⟨0, rfl, by decide, by decide⟩
      · exact ⟨1, rfl, by decide, by decide⟩
      · exact ⟨2, rfl, by decide, by decide⟩
      · exact ⟨3, rfl, by decide, by decide⟩
      · exact ⟨5, rfl, by decide, by decide⟩
    simp -dsimp [hz]
    exact ⟨⟨h0, h5⟩, A.hb⟩
  clear hb
  rintro _ s ⟨early0, rfl, he0, hb⟩
  refine OutW.seq (fun e s => ∃ early : Int, e = [some (.rol (ns.map .int)), some (.ref 0), some (.int (n : Nat)), some (.bl large), some (.int early), none, none, none, none, none, none, none, none] ∧ (0 ≤ early ∧ early ≤ 239) ∧ BG 1004 0 s) ?_ ?_
  · cases large with
    | false =>
      simp -dsimp
      exact ⟨⟨he0.1, by omega⟩, hb.mono (by decide)⟩
    | true =>
      simp -dsimp
      refine (take_ok hb (by decide) (by decide) (by decide)).call ?_
      rintro _ s1 ⟨r, rfl, a, b, A⟩
      simp -dsimp
      exact ⟨⟨a, by omega⟩, A.hb⟩
  clear hb he0
  rintro _ s ⟨early, rfl, ⟨j1, j2⟩, hb⟩
  refine OutW.seq (fun e s => ∃ fs : List Frm, e = [some (.rol (ns.map .int)), some (.ref 0), some (.int (n : Nat)), some (.bl large), some (.int early), some (.lst (fs.map Frm.d)), none, none, none, none, none, none, none] ∧ FsOk fs early ∧ BG 1005 0 s) ?_ ?_
  · simp -dsimp
    refine (take_ok hb (by decide) (by decide) (by decide)).call ?_
    rintro _ s1 ⟨r, rfl, a, b, A⟩
    simp -dsimp
    refine (rows_ok (early := early) hn.1 hn.2 j1 (by omega) (by omega) (by omega)).call ?_
    rintro _ s1 ⟨fs, rfl, hF, hl, hs⟩
    simp -dsimp
    exact ⟨fs, rfl, hF, A.hb.keep hs (by simp)⟩
  clear hb
  rintro _ s ⟨fs, rfl, hF, hb⟩
  refine OutW.seq (fun e s => ∃ w, e = [some (.rol (ns.map .int)), some (.ref 0), some (.int (n : Nat)), some (.bl large), some (.int early), some (.lst (fs.map Frm.d)), some (taskD w fs early), none, none, none, none, none, none] ∧ BG 1025 0 s) ?_ ?_
  · have hq : ∀ s, fListA false [.lst (fs.map Frm.d)] s = .ok (.lst (fs.map Frm.d)) s := fun s => rfl
    simp -dsimp
    refine (word_ok hb (by decide)).call ?_
    rintro _ s1 ⟨w, rfl, hw, A⟩
    simp -dsimp [hq]
    refine (init_ok (i := s1.length) snoc_new hw hF).call ?_
    rintro _ s2 ⟨rfl, rfl⟩
    have hlt : s1.length < (s1 ++ [Cell.ins c_Task []]).length := by simp
    have hg : ∀ c, ((s1 ++ [Cell.ins c_Task []]).set s1.length c)[s1.length]? = some c := fun c => List.getElem?_set_self hlt
    simp -dsimp [F.letGo, hg]
    exact ⟨⟨w, rfl⟩, A.hb.keep (ex := []) Sm.snoc (by simp)⟩
  clear hb
  rintro _ s ⟨w, rfl, hb⟩
  refine OutW.seq (fun e s => ∃ lg, e = [some (.rol (ns.map .int)), some (.ref 0), some (.int (n : Nat)), some (.bl large), some (.int early), some (.lst (fs.map Frm.d)), some (taskD w fs early), some (logD lg), none, none, none, none, none] ∧ lg.length ≤ 57 ∧ BG 1025 0 s) ?_ ?_
  · simp -dsimp
    refine (good_ok hF).call ?_
    rintro _ s1 ⟨lg, rfl, hl, hs⟩
    simp -dsimp
    exact ⟨lg, rfl, hl, hb.keep hs (by simp)⟩
  clear hb
  rintro _ s ⟨lg, rfl, hll, hb⟩
  refine OutW.seq (fun e s => e = [some (.rol (ns.map .int)), some (.ref 0), some (.int (n : Nat)), some (.bl large), some (.int early), some (.lst (fs.map Frm.d)), some (taskD w fs early), some (logD lg), none, none, none, none, none] ∧ BG 1025 0 s) ?_ ?_
  · simp -dsimp
    refine (right_ok hF (by omega)).call ?_
    rintro _ s1 ⟨rfl, hs1⟩
    simp -dsimp
    exact (hb.keep hs1 (by simp)).mono (by decide)
  clear hb
  rintro _ s ⟨rfl, hb⟩
  refine OutW.seq (fun e s => ∃ (v8 : Option D) (lg : List (Int × Int)), e = [some (.rol (ns.map .int)), some (.ref 0), some (.int (n : Nat)), some (.bl large), some (.int early), some (.lst (fs.map Frm.d)), some (taskD w fs early), some (logD lg), v8, none, none, none, none] ∧ lg.length ≤ 57 ∧ BG 1125 0 s) ?_ ?_
  · have hl0 := hll
    clear hll
    simp -dsimp
    refine (take_ok hb (by decide) (by decide) (by decide)).call ?_
    rintro _ s1 ⟨r1, rfl, a1, b1, A1⟩
    simp -dsimp
    refine ⟨okR_of (by omega) (by omega), ?_⟩
    refine loop_inv (fun m e s => ∃ (v8 : Option D) (lg : List (Int × Int)), e = [some (.rol (ns.map .int)), some (.ref 0), some (.int (n : Nat)), some (.bl large), some (.int early), some (.lst (fs.map Frm.d)), some (taskD w fs early), some (logD lg), v8, none, none, none, none] ∧ lg.length ≤ 57 ∧ BG (1026 + 7 * m) 0 s) ⟨none, lg, rfl, hl0, A1.hb⟩ ?_ ?_
    · rintro m x env s hd ⟨v8, lg, rfl, hll, hb⟩
      obtain ⟨hm2, rfl⟩ := rangeL_get hd
      refine ⟨_, rfl, ?_⟩
      by_cases hp : 0 < lg.length
      · simp -dsimp [log_len, hp]
        refine (take_ok hb (by omega) (by omega) (by omega)).call ?_
        rintro _ s2 ⟨r2, rfl, a2, b2, A2⟩
        obtain ⟨r, rfl⟩ : ∃ r : Nat, r2 = r := ⟨r2.toNat, by omega⟩
        simp -dsimp
        refine (bent_ok A2.hb (by omega) (by omega) (by omega)).call ?_
        rintro _ s3 ⟨lg', rfl, hl', A3⟩
        simp -dsimp
        exact ⟨_, lg', ⟨rfl, rfl⟩, by omega, A3.hb.mono (by omega)⟩
      · simp -dsimp [log_len, hp]
        exact ⟨_, lg, ⟨rfl, rfl⟩, hll, hb.mono (by omega)⟩
    · rintro env s ⟨v8, lg, rfl, hll, hb⟩
      rw [rangeL_len] at hb
      exact ⟨v8, lg, rfl, hll, hb.mono (by omega)⟩
  clear hll hb lg
  rintro _ s ⟨v8, lg, rfl, hll, hb⟩
  refine OutW.seq (fun e s => e = [some (.rol (ns.map .int)), some (.ref 0), some (.int (n : Nat)), some (.bl large), some (.int early), some (.lst (fs.map Frm.d)), some (taskD w fs early), some (logD lg), v8, none, none, none, none] ∧ BG 1125 0 s) ?_ ?_
  · simp -dsimp
    refine (right_ok hF (by omega)).call ?_
    rintro _ s1 ⟨rfl, hs1⟩
    simp -dsimp
    exact (hb.keep hs1 (by simp)).mono (by decide)
  clear hb
  rintro _ s ⟨rfl, hb⟩
  refine OutW.seq (fun e s => e = [some (.rol (ns.map .int)), some (.ref 0), some (.int (n : Nat)), some (.bl large), some (.int early), some (.lst (fs.map Frm.d)), some (taskD w fs early), some (logD lg), v8, some (dueD fs early lg), none, none, none] ∧ BG 1125 0 s) ?_ ?_
  · simp -dsimp
    refine (due_ok hF (by omega)).call ?_
    rintro _ _ ⟨rfl, rfl⟩
    simp -dsimp
    exact hb
  clear hb
  rintro _ s ⟨rfl, hb⟩
  refine OutW.seq (fun e s => ∃ (lg : List (Int × Int)) (k : Nat) (v10 : Option D), e = [some (.rol (ns.map .int)), some (.ref 0), some (.int (n : Nat)), some (.bl large), some (.int early), some (.lst (fs.map Frm.d)), some (taskD w fs early), some (logD lg), v8, some (.int (k : Nat)), v10, none, none] ∧ (lg.length ≤ 58 ∧ Brk fs early lg k) ∧ BG 1126 0 s) ?_ ?_
  · by_cases hd : dueM fs early lg = lg.length
    · have e : dueD fs early lg = .non := by unfold dueD; rw [if_pos hd]
      rw [e]
      rw [r_sIf, OutW_andS]
      refine Ret.mono (P := fun b s' => b = true ∧ s = s') (X := NX) (by simp -dsimp) ?_ (fun _ _ _ z => z.elim)
      rintro t _ ⟨rfl, rfl⟩
      rw [if_pos rfl]
      refine OutW.seq (fun e s' => e = [some (.rol (ns.map .int)), some (.ref 0), some (.int (n : Nat)), some (.bl large), some (.int early), some (.lst (fs.map Frm.d)), some (taskD w fs early), some (logD lg), v8, some (.int (lg.length : Nat)), none, none, none] ∧ s = s') ?_ ?_
      · simp -dsimp [log_len]
      rintro _ _ ⟨rfl, rfl⟩
      refine OutW.seq (fun e s' => ∃ rel : Int, e = [some (.rol (ns.map .int)), some (.ref 0), some (.int (n : Nat)), some (.bl large), some (.int early), some (.lst (fs.map Frm.d)), some (taskD w fs early), some (logD lg), v8, some (.int (lg.length : Nat)), some (.int rel), none, none] ∧ s = s') ?_ ?_
      · have hc := cut_len (l := lg) (lo := some (-1)) (hi := none)
        have hq : fSl false (logD lg) (some (-1)) none s = .ok (logD (cutD lg (some (-1)) none)) s := by
          rw [← show D.lst (cutD (lg.map pairD) (some (-1)) none) = logD (cutD lg (some (-1)) none) from by rw [cut_map]; rfl]
          rfl
        generalize cutD lg (some (-1)) none = tl at hc hq
        have hl16 : tl.length ≤ 16777216 := by omega
        have ht : logD tl = .lst (tl.map pairD) := rfl
        simp -dsimp [hq, ht, hl16]
        rw [comp_fun (h := fun p : Int × Int => D.int p.1) fun p _ => ⟨_, rfl, by simp -dsimp [pairD]⟩]
        simp -dsimp [r_sumL]
      rintro _ _ ⟨rel, rfl, rfl⟩
      have hh : fs ≠ [] := fun z => by have := hF.n1; rw [z] at this; simp at this
      refine OutW.seq (fun e s' => ∃ len : Int, e = [some (.rol (ns.map .int)), some (.ref 0), some (.int (n : Nat)), some (.bl large), some (.int early), some (.lst (fs.map Frm.d)), some (taskD w fs early), some (logD (lg ++ [(rel, len)])), v8, some (.int (lg.length : Nat)), some (.int rel), none, none] ∧ (∀ f ∈ fs, f.high < len) ∧ BG 1126 0 s') ?_ ?_
      · have hl4 : fs.length ≤ 16777216 := by have := hF.n2; omega
        simp -dsimp [hl4, -r_eFn]
        rw [comp_fun (h := fun f : Frm => D.int f.high) fun f hf => ⟨_, rfl, high_ev (hF.f f hf).w2 rfl⟩]
        simp -dsimp [r_maxL hh]
        refine (take_ok hb (by decide) (by decide) (by decide)).call ?_
        rintro _ s2 ⟨r2, rfl, a2, b2, A2⟩
        have o1 : ∀ z : Int, D.lst [.tup [.int rel, .int z]] = logD [(rel, z)] := fun z => rfl
        have l1 : ∀ z : Int, lg.length + [(rel, z)].length ≤ 1000 := fun z => by show lg.length + 1 ≤ 1000; omega
        simp -dsimp [o1, log_add (l1 _)]
        refine ⟨maxL (fs.map Frm.high) + 1 + r2, rfl, fun f hf => ?_, A2.hb⟩
        have := maxL_ge (ns := fs.map Frm.high) (x := f.high) (List.mem_map.mpr ⟨f, hf, rfl⟩)
        omega
      rintro _ s2 ⟨len, rfl, hlen, hb2⟩
      have hl58 : (lg ++ [(rel, len)]).length ≤ 58 := by rw [List.length_append]; show lg.length + 1 ≤ 58; omega
      have hB := brk_new (rel := rel) hF.n1 hd hlen
      generalize lg ++ [(rel, len)] = lg2 at hl58 hB
      simp -dsimp
      refine (right_ok hF (by omega)).call ?_
      rintro _ s3 ⟨rfl, hs3⟩
      simp -dsimp
      exact ⟨lg2, lg.length, ⟨rfl, rfl⟩, ⟨hl58, hB⟩, hb2.keep hs3 (by simp)⟩
    · obtain ⟨k, e, hB⟩ := brk_due hF.n1 hd
      rw [e]
      simp -dsimp
      exact ⟨lg, k, ⟨rfl, rfl⟩, ⟨by omega, hB⟩, hb.mono (by decide)⟩
  clear hb hll
  rintro _ s ⟨lg, k, v10, rfl, ⟨hll, hB⟩, hb⟩
  simp -dsimp
  refine (around_ok hb (by decide) hF (by omega) hB.lt hB.a hB.b).call ?_
  rintro _ s1 rfl
  simp -dsimp
theorem law_holds : ∀ ns : List Int, ns.length ≤ 63 → ∃ s, f_law [.rol (ns.map .int)] [] = .ok (.bl true) s := by
  intro ns _
  obtain ⟨d, s, e, rfl⟩ := (law_main (ns := ns)).out
  exact ⟨s, e⟩
end M
/-! ### the text as the top has made it, the end -/
namespace M
open PySem PySem.Spec PyProof.Rows L2 F
theorem all_mk {l : PySem.W.OpenLaw} {w : World} {K : PySem.W.Frag} {h : Heap} {mg : Str → Option Value} {fa C3 a0 a1 a2 a3 a4 a5 a6 a7 a8 a9 a10 a11 a12 a13 a14 a15 a16 a17 a18 a19 a20 a21 a22 a23 a24 a25 a26 a27 a28 a29 a30 a31 : Addr} {t_MOST_DUE t_MOST_FRAMES t_MOST_GAP t_MOST_JITTER t_MOST_LENGTH t_MOST_LETTERS t_MOST_LOCKS t_MOST_SEGMENTS : Nat} (X : K.In h) (G : h.Ns mainGlobals mg) (hfa : mg "law" = some (.ref fa))
    {od0 an0 : Option Addr} {sl0 : Array (Option Value)} {oc0 kV0 dc0 pm0 cd0 ct0 : Value}
    {od1 an1 : Option Addr} {sl1 : Array (Option Value)} {oc1 kV1 dc1 pm1 cd1 ct1 : Value}
    {od2 an2 : Option Addr} {sl2 : Array (Option Value)} {oc2 kV2 dc2 pm2 cd2 ct2 : Value}
    {od3 an3 : Option Addr} {sl3 : Array (Option Value)} {oc3 kV3 dc3 pm3 cd3 ct3 : Value}
    {od4 an4 : Option Addr} {sl4 : Array (Option Value)} {oc4 kV4 dc4 pm4 cd4 ct4 : Value}
    {od5 an5 : Option Addr} {sl5 : Array (Option Value)} {oc5 kV5 dc5 pm5 cd5 ct5 : Value}
    {od6 an6 : Option Addr} {sl6 : Array (Option Value)} {oc6 kV6 dc6 pm6 cd6 ct6 : Value}
    {od7 an7 : Option Addr} {sl7 : Array (Option Value)} {oc7 kV7 dc7 pm7 cd7 ct7 : Value}
    {od8 an8 : Option Addr} {sl8 : Array (Option Value)} {oc8 kV8 dc8 pm8 cd8 ct8 : Value}
    {od9 an9 : Option Addr} {sl9 : Array (Option Value)} {oc9 kV9 dc9 pm9 cd9 ct9 : Value}
    {od10 an10 : Option Addr} {sl10 : Array (Option Value)} {oc10 kV10 dc10 pm10 cd10 ct10 : Value}
    {od11 an11 : Option Addr} {sl11 : Array (Option Value)} {oc11 kV11 dc11 pm11 cd11 ct11 : Value}
    {od12 an12 : Option Addr} {sl12 : Array (Option Value)} {oc12 kV12 dc12 pm12 cd12 ct12 : Value}
    {od13 an13 : Option Addr} {sl13 : Array (Option Value)} {oc13 kV13 dc13 pm13 cd13 ct13 : Value}
    {od14 an14 : Option Addr} {sl14 : Array (Option Value)} {oc14 kV14 dc14 pm14 cd14 ct14 : Value}
    {od15 an15 : Option Addr} {sl15 : Array (Option Value)} {oc15 kV15 dc15 pm15 cd15 ct15 : Value}
    {od16 an16 : Option Addr} {sl16 : Array (Option Value)} {oc16 kV16 dc16 pm16 cd16 ct16 : Value}
    {od17 an17 : Option Addr} {sl17 : Array (Option Value)} {oc17 kV17 dc17 pm17 cd17 ct17 : Value}
    {od18 an18 : Option Addr} {sl18 : Array (Option Value)} {oc18 kV18 dc18 pm18 cd18 ct18 : Value}
    {od19 an19 : Option Addr} {sl19 : Array (Option Value)} {oc19 kV19 dc19 pm19 cd19 ct19 : Value}
    {od20 an20 : Option Addr} {sl20 : Array (Option Value)} {oc20 kV20 dc20 pm20 cd20 ct20 : Value}
    {od21 an21 : Option Addr} {sl21 : Array (Option Value)} {oc21 kV21 dc21 pm21 cd21 ct21 : Value}
    {od22 an22 : Option Addr} {sl22 : Array (Option Value)} {oc22 kV22 dc22 pm22 cd22 ct22 : Value}
    {od23 an23 : Option Addr} {sl23 : Array (Option Value)} {oc23 kV23 dc23 pm23 cd23 ct23 : Value}
    {od24 an24 : Option Addr} {sl24 : Array (Option Value)} {oc24 kV24 dc24 pm24 cd24 ct24 : Value}
    {od25 an25 : Option Addr} {sl25 : Array (Option Value)} {oc25 kV25 dc25 pm25 cd25 ct25 : Value}
    {od26 an26 : Option Addr} {sl26 : Array (Option Value)} {oc26 kV26 dc26 pm26 cd26 ct26 : Value}
    {od27 an27 : Option Addr} {sl27 : Array (Option Value)} {oc27 kV27 dc27 pm27 cd27 ct27 : Value}
    {od28 an28 : Option Addr} {sl28 : Array (Option Value)} {oc28 kV28 dc28 pm28 cd28 ct28 : Value}
    {od29 an29 : Option Addr} {sl29 : Array (Option Value)} {oc29 kV29 dc29 pm29 cd29 ct29 : Value}
    {od30 an30 : Option Addr} {sl30 : Array (Option Value)} {oc30 kV30 dc30 pm30 cd30 ct30 : Value}
    {od31 an31 : Option Addr} {sl31 : Array (Option Value)} {oc31 kV31 dc31 pm31 cd31 ct31 : Value}
    (z_abs : PySem.W.nsIn K mainGlobals "abs" = some none)
    (z_all : PySem.W.nsIn K mainGlobals "all" = some none)
    (z_any : PySem.W.nsIn K mainGlobals "any" = some none)
    (z_bool : PySem.W.nsIn K mainGlobals "bool" = some none)
    (z_enumerate : PySem.W.nsIn K mainGlobals "enumerate" = some none)
    (z_int : PySem.W.nsIn K mainGlobals "int" = some none)
    (z_isinstance : PySem.W.nsIn K mainGlobals "isinstance" = some none)
    (z_len : PySem.W.nsIn K mainGlobals "len" = some none)
    (z_list : PySem.W.nsIn K mainGlobals "list" = some none)
    (z_max : PySem.W.nsIn K mainGlobals "max" = some none)
    (z_range : PySem.W.nsIn K mainGlobals "range" = some none)
    (z_str : PySem.W.nsIn K mainGlobals "str" = some none)
    (z_sum : PySem.W.nsIn K mainGlobals "sum" = some none)
    (z_tuple : PySem.W.nsIn K mainGlobals "tuple" = some none)
    (z_zip : PySem.W.nsIn K mainGlobals "zip" = some none)
    (i_MOST_DUE : PySem.W.nsIn K mainGlobals "MOST_DUE" = some (some (.int 480 t_MOST_DUE)))
    (i_MOST_FRAMES : PySem.W.nsIn K mainGlobals "MOST_FRAMES" = some (some (.int 4 t_MOST_FRAMES)))
    (i_MOST_GAP : PySem.W.nsIn K mainGlobals "MOST_GAP" = some (some (.int 240 t_MOST_GAP)))
    (i_MOST_JITTER : PySem.W.nsIn K mainGlobals "MOST_JITTER" = some (some (.int 240 t_MOST_JITTER)))
    (i_MOST_LENGTH : PySem.W.nsIn K mainGlobals "MOST_LENGTH" = some (some (.int 240 t_MOST_LENGTH)))
    (i_MOST_LETTERS : PySem.W.nsIn K mainGlobals "MOST_LETTERS" = some (some (.int 8 t_MOST_LETTERS)))
    (i_MOST_LOCKS : PySem.W.nsIn K mainGlobals "MOST_LOCKS" = some (some (.int 4 t_MOST_LOCKS)))
    (i_MOST_SEGMENTS : PySem.W.nsIn K mainGlobals "MOST_SEGMENTS" = some (some (.int 4 t_MOST_SEGMENTS)))
    (mc_Task : PySem.W.nsIn K mainGlobals "Task" = some (some (.ref C3)))
    (pg_Task : PySem.W.plainGet K C3 Str.empty = true)
    (hd_Task : PySem.W.hasDictIn K C3 = true)
    (po_Task : PySem.W.plainOver K C3 = true)
    (sa_Task : PySem.W.findIn K (.ref C3) "__setattr__" = some (some (.builtin "object.__setattr__")))
    (na_Task_name : PySem.W.findIn K (.ref C3) "name" = some none)
    (na_Task_frames : PySem.W.findIn K (.ref C3) "frames" = some none)
    (na_Task_jitter : PySem.W.findIn K (.ref C3) "jitter" = some none)
    (ms_Task : PySem.W.makesIn K C3 = true)
    (kc_Task : PySem.W.keepIn K (.ref C3) = true)
    (in_Task : PySem.W.findIn K (.ref C3) "__init__" = some (some (.ref a7)))
    (if_Task : PySem.W.isFn K (.ref a7) = true)
    (m_Task_least_work : PySem.W.findIn K (.ref C3) "least_work" = some (some (.ref a14)))
    (mf_Task_least_work : PySem.W.isFn K (.ref a14) = true)
    (m_Task_most_work : PySem.W.findIn K (.ref C3) "most_work" = some (some (.ref a16)))
    (mf_Task_most_work : PySem.W.isFn K (.ref a16) = true)
    (gn0 : PySem.W.nsIn K mainGlobals "_is_letter" = some (some (.ref a0)))
    (l0 : K.lookup a0 = some ⟨oc0, od0, .func (PySem.W.fnOf "_is_letter" "_is_letter" (defArgs s_f__is_letter) (defBody s_f__is_letter) (defScope s_f__is_letter) .none kV0 dc0 pm0 an0 cd0 ct0), sl0⟩)
    (c0 : PySem.W.codeIn K cd0 "_is_letter" = true)
    (k0 : PySem.W.keepIn K (.ref a0) = true)
    (gn1 : PySem.W.nsIn K mainGlobals "_is_letters" = some (some (.ref a1)))
    (l1 : K.lookup a1 = some ⟨oc1, od1, .func (PySem.W.fnOf "_is_letters" "_is_letters" (defArgs s_f__is_letters) (defBody s_f__is_letters) (defScope s_f__is_letters) .none kV1 dc1 pm1 an1 cd1 ct1), sl1⟩)
    (c1 : PySem.W.codeIn K cd1 "_is_letters" = true)
    (k1 : PySem.W.keepIn K (.ref a1) = true)
    (gn2 : PySem.W.nsIn K mainGlobals "is_hold" = some (some (.ref a2)))
    (l2 : K.lookup a2 = some ⟨oc2, od2, .func (PySem.W.fnOf "is_hold" "is_hold" (defArgs s_f_is_hold) (defBody s_f_is_hold) (defScope s_f_is_hold) .none kV2 dc2 pm2 an2 cd2 ct2), sl2⟩)
    (c2 : PySem.W.codeIn K cd2 "is_hold" = true)
    (k2 : PySem.W.keepIn K (.ref a2) = true)
    (gn3 : PySem.W.nsIn K mainGlobals "_check_frame" = some (some (.ref a3)))
    (l3 : K.lookup a3 = some ⟨oc3, od3, .func (PySem.W.fnOf "_check_frame" "_check_frame" (defArgs s_f__check_frame) (defBody s_f__check_frame) (defScope s_f__check_frame) .none kV3 dc3 pm3 an3 cd3 ct3), sl3⟩)
    (c3 : PySem.W.codeIn K cd3 "_check_frame" = true)
    (k3 : PySem.W.keepIn K (.ref a3) = true)
    (gn4 : PySem.W.nsIn K mainGlobals "_check_frames" = some (some (.ref a4)))
    (l4 : K.lookup a4 = some ⟨oc4, od4, .func (PySem.W.fnOf "_check_frames" "_check_frames" (defArgs s_f__check_frames) (defBody s_f__check_frames) (defScope s_f__check_frames) .none kV4 dc4 pm4 an4 cd4 ct4), sl4⟩)
    (c4 : PySem.W.codeIn K cd4 "_check_frames" = true)
    (k4 : PySem.W.keepIn K (.ref a4) = true)
    (gn5 : PySem.W.nsIn K mainGlobals "_copied" = some (some (.ref a5)))
    (l5 : K.lookup a5 = some ⟨oc5, od5, .func (PySem.W.fnOf "_copied" "_copied" (defArgs s_f__copied) (defBody s_f__copied) (defScope s_f__copied) .none kV5 dc5 pm5 an5 cd5 ct5), sl5⟩)
    (c5 : PySem.W.codeIn K cd5 "_copied" = true)
    (k5 : PySem.W.keepIn K (.ref a5) = true)
    (gn6 : PySem.W.nsIn K mainGlobals "is_name" = some (some (.ref a6)))
    (l6 : K.lookup a6 = some ⟨oc6, od6, .func (PySem.W.fnOf "is_name" "is_name" (defArgs s_f_is_name) (defBody s_f_is_name) (defScope s_f_is_name) .none kV6 dc6 pm6 an6 cd6 ct6), sl6⟩)
    (c6 : PySem.W.codeIn K cd6 "is_name" = true)
    (k6 : PySem.W.keepIn K (.ref a6) = true)
    (l7 : K.lookup a7 = some ⟨oc7, od7, .func (PySem.W.fnOf "__init__" "Task.__init__" (defArgs s_f_Task___init__) (defBody s_f_Task___init__) (defScope s_f_Task___init__) .none kV7 dc7 pm7 an7 cd7 ct7), sl7⟩)
    (c7 : PySem.W.codeIn K cd7 "Task.__init__" = true)
    (k7 : PySem.W.keepIn K (.ref a7) = true)
    (gn8 : PySem.W.nsIn K mainGlobals "_law_high" = some (some (.ref a8)))
    (l8 : K.lookup a8 = some ⟨oc8, od8, .func (PySem.W.fnOf "_law_high" "_law_high" (defArgs s_f__law_high) (defBody s_f__law_high) (defScope s_f__law_high) .none kV8 dc8 pm8 an8 cd8 ct8), sl8⟩)
    (c8 : PySem.W.codeIn K cd8 "_law_high" = true)
    (k8 : PySem.W.keepIn K (.ref a8) = true)
    (gn9 : PySem.W.nsIn K mainGlobals "_law_low" = some (some (.ref a9)))
    (l9 : K.lookup a9 = some ⟨oc9, od9, .func (PySem.W.fnOf "_law_low" "_law_low" (defArgs s_f__law_low) (defBody s_f__law_low) (defScope s_f__law_low) .none kV9 dc9 pm9 an9 cd9 ct9), sl9⟩)
    (c9 : PySem.W.codeIn K cd9 "_law_low" = true)
    (k9 : PySem.W.keepIn K (.ref a9) = true)
    (gn10 : PySem.W.nsIn K mainGlobals "_law_kept" = some (some (.ref a10)))
    (l10 : K.lookup a10 = some ⟨oc10, od10, .func (PySem.W.fnOf "_law_kept" "_law_kept" (defArgs s_f__law_kept) (defBody s_f__law_kept) (defScope s_f__law_kept) .none kV10 dc10 pm10 an10 cd10 ct10), sl10⟩)
    (c10 : PySem.W.codeIn K cd10 "_law_kept" = true)
    (k10 : PySem.W.keepIn K (.ref a10) = true)
    (gn11 : PySem.W.nsIn K mainGlobals "_law_due" = some (some (.ref a11)))
    (l11 : K.lookup a11 = some ⟨oc11, od11, .func (PySem.W.fnOf "_law_due" "_law_due" (defArgs s_f__law_due) (defBody s_f__law_due) (defScope s_f__law_due) .none kV11 dc11 pm11 an11 cd11 ct11), sl11⟩)
    (c11 : PySem.W.codeIn K cd11 "_law_due" = true)
    (k11 : PySem.W.keepIn K (.ref a11) = true)
    (gn12 : PySem.W.nsIn K mainGlobals "_law_number" = some (some (.ref a12)))
    (l12 : K.lookup a12 = some ⟨oc12, od12, .func (PySem.W.fnOf "_law_number" "_law_number" (defArgs s_f__law_number) (defBody s_f__law_number) (defScope s_f__law_number) .none kV12 dc12 pm12 an12 cd12 ct12), sl12⟩)
    (c12 : PySem.W.codeIn K cd12 "_law_number" = true)
    (k12 : PySem.W.keepIn K (.ref a12) = true)
    (gn13 : PySem.W.nsIn K mainGlobals "least_sum" = some (some (.ref a13)))
    (l13 : K.lookup a13 = some ⟨oc13, od13, .func (PySem.W.fnOf "least_sum" "least_sum" (defArgs s_f_least_sum) (defBody s_f_least_sum) (defScope s_f_least_sum) .none kV13 dc13 pm13 an13 cd13 ct13), sl13⟩)
    (c13 : PySem.W.codeIn K cd13 "least_sum" = true)
    (k13 : PySem.W.keepIn K (.ref a13) = true)
    (l14 : K.lookup a14 = some ⟨oc14, od14, .func (PySem.W.fnOf "least_work" "Task.least_work" (defArgs s_f_Task_least_work) (defBody s_f_Task_least_work) (defScope s_f_Task_least_work) .none kV14 dc14 pm14 an14 cd14 ct14), sl14⟩)
    (c14 : PySem.W.codeIn K cd14 "Task.least_work" = true)
    (k14 : PySem.W.keepIn K (.ref a14) = true)
    (gn15 : PySem.W.nsIn K mainGlobals "most_sum" = some (some (.ref a15)))
    (l15 : K.lookup a15 = some ⟨oc15, od15, .func (PySem.W.fnOf "most_sum" "most_sum" (defArgs s_f_most_sum) (defBody s_f_most_sum) (defScope s_f_most_sum) .none kV15 dc15 pm15 an15 cd15 ct15), sl15⟩)
    (c15 : PySem.W.codeIn K cd15 "most_sum" = true)
    (k15 : PySem.W.keepIn K (.ref a15) = true)
    (l16 : K.lookup a16 = some ⟨oc16, od16, .func (PySem.W.fnOf "most_work" "Task.most_work" (defArgs s_f_Task_most_work) (defBody s_f_Task_most_work) (defScope s_f_Task_most_work) .none kV16 dc16 pm16 an16 cd16 ct16), sl16⟩)
    (c16 : PySem.W.codeIn K cd16 "Task.most_work" = true)
    (k16 : PySem.W.keepIn K (.ref a16) = true)
    (gn17 : PySem.W.nsIn K mainGlobals "length_fits" = some (some (.ref a17)))
    (l17 : K.lookup a17 = some ⟨oc17, od17, .func (PySem.W.fnOf "length_fits" "length_fits" (defArgs s_f_length_fits) (defBody s_f_length_fits) (defScope s_f_length_fits) .none kV17 dc17 pm17 an17 cd17 ct17), sl17⟩)
    (c17 : PySem.W.codeIn K cd17 "length_fits" = true)
    (k17 : PySem.W.keepIn K (.ref a17) = true)
    (gn18 : PySem.W.nsIn K mainGlobals "_earliest_arrivals" = some (some (.ref a18)))
    (l18 : K.lookup a18 = some ⟨oc18, od18, .func (PySem.W.fnOf "_earliest_arrivals" "_earliest_arrivals" (defArgs s_f__earliest_arrivals) (defBody s_f__earliest_arrivals) (defScope s_f__earliest_arrivals) .none kV18 dc18 pm18 an18 cd18 ct18), sl18⟩)
    (c18 : PySem.W.codeIn K cd18 "_earliest_arrivals" = true)
    (k18 : PySem.W.keepIn K (.ref a18) = true)
    (gn19 : PySem.W.nsIn K mainGlobals "break_index" = some (some (.ref a19)))
    (l19 : K.lookup a19 = some ⟨oc19, od19, .func (PySem.W.fnOf "break_index" "break_index" (defArgs s_f_break_index) (defBody s_f_break_index) (defScope s_f_break_index) .none kV19 dc19 pm19 an19 cd19 ct19), sl19⟩)
    (c19 : PySem.W.codeIn K cd19 "break_index" = true)
    (k19 : PySem.W.keepIn K (.ref a19) = true)
    (gn20 : PySem.W.nsIn K mainGlobals "_law_right" = some (some (.ref a20)))
    (l20 : K.lookup a20 = some ⟨oc20, od20, .func (PySem.W.fnOf "_law_right" "_law_right" (defArgs s_f__law_right) (defBody s_f__law_right) (defScope s_f__law_right) .none kV20 dc20 pm20 an20 cd20 ct20), sl20⟩)
    (c20 : PySem.W.codeIn K cd20 "_law_right" = true)
    (k20 : PySem.W.keepIn K (.ref a20) = true)
    (gn21 : PySem.W.nsIn K mainGlobals "_law_take" = some (some (.ref a21)))
    (l21 : K.lookup a21 = some ⟨oc21, od21, .func (PySem.W.fnOf "_law_take" "_law_take" (defArgs s_f__law_take) (defBody s_f__law_take) (defScope s_f__law_take) .none kV21 dc21 pm21 an21 cd21 ct21), sl21⟩)
    (c21 : PySem.W.codeIn K cd21 "_law_take" = true)
    (k21 : PySem.W.keepIn K (.ref a21) = true)
    (gn22 : PySem.W.nsIn K mainGlobals "explained" = some (some (.ref a22)))
    (l22 : K.lookup a22 = some ⟨oc22, od22, .func (PySem.W.fnOf "explained" "explained" (defArgs s_f_explained) (defBody s_f_explained) (defScope s_f_explained) .none kV22 dc22 pm22 an22 cd22 ct22), sl22⟩)
    (c22 : PySem.W.codeIn K cd22 "explained" = true)
    (k22 : PySem.W.keepIn K (.ref a22) = true)
    (gn23 : PySem.W.nsIn K mainGlobals "_law_around" = some (some (.ref a23)))
    (l23 : K.lookup a23 = some ⟨oc23, od23, .func (PySem.W.fnOf "_law_around" "_law_around" (defArgs s_f__law_around) (defBody s_f__law_around) (defScope s_f__law_around) .none kV23 dc23 pm23 an23 cd23 ct23), sl23⟩)
    (c23 : PySem.W.codeIn K cd23 "_law_around" = true)
    (k23 : PySem.W.keepIn K (.ref a23) = true)
    (gn24 : PySem.W.nsIn K mainGlobals "_law_cell" = some (some (.ref a24)))
    (l24 : K.lookup a24 = some ⟨oc24, od24, .func (PySem.W.fnOf "_law_cell" "_law_cell" (defArgs s_f__law_cell) (defBody s_f__law_cell) (defScope s_f__law_cell) .none kV24 dc24 pm24 an24 cd24 ct24), sl24⟩)
    (c24 : PySem.W.codeIn K cd24 "_law_cell" = true)
    (k24 : PySem.W.keepIn K (.ref a24) = true)
    (gn25 : PySem.W.nsIn K mainGlobals "_law_bag" = some (some (.ref a25)))
    (l25 : K.lookup a25 = some ⟨oc25, od25, .func (PySem.W.fnOf "_law_bag" "_law_bag" (defArgs s_f__law_bag) (defBody s_f__law_bag) (defScope s_f__law_bag) .none kV25 dc25 pm25 an25 cd25 ct25), sl25⟩)
    (c25 : PySem.W.codeIn K cd25 "_law_bag" = true)
    (k25 : PySem.W.keepIn K (.ref a25) = true)
    (gn26 : PySem.W.nsIn K mainGlobals "_law_bent" = some (some (.ref a26)))
    (l26 : K.lookup a26 = some ⟨oc26, od26, .func (PySem.W.fnOf "_law_bent" "_law_bent" (defArgs s_f__law_bent) (defBody s_f__law_bent) (defScope s_f__law_bent) .none kV26 dc26 pm26 an26 cd26 ct26), sl26⟩)
    (c26 : PySem.W.codeIn K cd26 "_law_bent" = true)
    (k26 : PySem.W.keepIn K (.ref a26) = true)
    (gn27 : PySem.W.nsIn K mainGlobals "_law_good" = some (some (.ref a27)))
    (l27 : K.lookup a27 = some ⟨oc27, od27, .func (PySem.W.fnOf "_law_good" "_law_good" (defArgs s_f__law_good) (defBody s_f__law_good) (defScope s_f__law_good) .none kV27 dc27 pm27 an27 cd27 ct27), sl27⟩)
    (c27 : PySem.W.codeIn K cd27 "_law_good" = true)
    (k27 : PySem.W.keepIn K (.ref a27) = true)
    (gn28 : PySem.W.nsIn K mainGlobals "_law_work" = some (some (.ref a28)))
    (l28 : K.lookup a28 = some ⟨oc28, od28, .func (PySem.W.fnOf "_law_work" "_law_work" (defArgs s_f__law_work) (defBody s_f__law_work) (defScope s_f__law_work) .none kV28 dc28 pm28 an28 cd28 ct28), sl28⟩)
    (c28 : PySem.W.codeIn K cd28 "_law_work" = true)
    (k28 : PySem.W.keepIn K (.ref a28) = true)
    (gn29 : PySem.W.nsIn K mainGlobals "_law_rows" = some (some (.ref a29)))
    (l29 : K.lookup a29 = some ⟨oc29, od29, .func (PySem.W.fnOf "_law_rows" "_law_rows" (defArgs s_f__law_rows) (defBody s_f__law_rows) (defScope s_f__law_rows) .none kV29 dc29 pm29 an29 cd29 ct29), sl29⟩)
    (c29 : PySem.W.codeIn K cd29 "_law_rows" = true)
    (k29 : PySem.W.keepIn K (.ref a29) = true)
    (gn30 : PySem.W.nsIn K mainGlobals "_law_word" = some (some (.ref a30)))
    (l30 : K.lookup a30 = some ⟨oc30, od30, .func (PySem.W.fnOf "_law_word" "_law_word" (defArgs s_f__law_word) (defBody s_f__law_word) (defScope s_f__law_word) .none kV30 dc30 pm30 an30 cd30 ct30), sl30⟩)
    (c30 : PySem.W.codeIn K cd30 "_law_word" = true)
    (k30 : PySem.W.keepIn K (.ref a30) = true)
    (gn31 : PySem.W.nsIn K mainGlobals "law" = some (some (.ref a31)))
    (l31 : K.lookup a31 = some ⟨oc31, od31, .func (PySem.W.fnOf "law" "law" (defArgs s_f_law) (defBody s_f_law) (defScope s_f_law) .none kV31 dc31 pm31 an31 cd31 ct31), sl31⟩)
    (c31 : PySem.W.codeIn K cd31 "law" = true)
    (k31 : PySem.W.keepIn K (.ref a31) = true)
    (hm : ∀ ns : List Int, ns.length ≤ 63 → ∃ s, f_law [.rol (ns.map .int)] [] = .ok (.bl true) s) :
    ∃ fd : FuncData, (∀ (s : Shared) (v : Value), BindsTo s fd ⟨[v], []⟩ [("script", v)]) ∧ ∀ base : Heap, K.In base → base.Ns mainGlobals mg → FnOk l.prog w K mg base (L2.CX l.prog w) 8 fa fd ["script"] (spLaw K) := by
  have e := hfa.symm.trans (PySem.W.mg_of X G gn31)
  cases e
  have F0 := fun_mk (st := s_f__is_letter) l0 c0 k0
  have b0 := F0.binds (ps := ["sign"]) fun _ _ _ _ _ _ us hl => match us, hl with | [_], _ => rfl
  have F1 := fun_mk (st := s_f__is_letters) l1 c1 k1
  have b1 := F1.binds (ps := ["word"]) fun _ _ _ _ _ _ us hl => match us, hl with | [_], _ => rfl
  have F2 := fun_mk (st := s_f_is_hold) l2 c2 k2
  have b2 := F2.binds (ps := ["hold"]) fun _ _ _ _ _ _ us hl => match us, hl with | [_], _ => rfl
  have F3 := fun_mk (st := s_f__check_frame) l3 c3 k3
  have b3 := F3.binds (ps := ["gap", "due", "work"]) fun _ _ _ _ _ _ us hl => match us, hl with | [_, _, _], _ => rfl
  have F4 := fun_mk (st := s_f__check_frames) l4 c4 k4
  have b4 := F4.binds (ps := ["frames", "jitter"]) fun _ _ _ _ _ _ us hl => match us, hl with | [_, _], _ => rfl
  have F5 := fun_mk (st := s_f__copied) l5 c5 k5
  have b5 := F5.binds (ps := ["frames"]) fun _ _ _ _ _ _ us hl => match us, hl with | [_], _ => rfl
  have F6 := fun_mk (st := s_f_is_name) l6 c6 k6
  have b6 := F6.binds (ps := ["word"]) fun _ _ _ _ _ _ us hl => match us, hl with | [_], _ => rfl
  have F7 := fun_mk (st := s_f_Task___init__) l7 c7 k7
  have kb7_0 := kb_of F7 (ps := ["self", "name", "frames", "jitter"]) (n := 3) (ks := ["jitter"]) (ix := [0, 1, 2, 3]) fun us ws h1 h2 => match us, ws, h1, h2 with | [_, _, _], [_], _, _ => rfl
  have F8 := fun_mk (st := s_f__law_high) l8 c8 k8
  have b8 := F8.binds (ps := ["row"]) fun _ _ _ _ _ _ us hl => match us, hl with | [_], _ => rfl
  have F9 := fun_mk (st := s_f__law_low) l9 c9 k9
  have b9 := F9.binds (ps := ["row"]) fun _ _ _ _ _ _ us hl => match us, hl with | [_], _ => rfl
  have F10 := fun_mk (st := s_f__law_kept) l10 c10 k10
  have b10 := F10.binds (ps := ["rows", "early", "first", "log"]) fun _ _ _ _ _ _ us hl => match us, hl with | [_, _, _, _], _ => rfl
  have F11 := fun_mk (st := s_f__law_due) l11 c11 k11
  have b11 := F11.binds (ps := ["rows", "early", "log"]) fun _ _ _ _ _ _ us hl => match us, hl with | [_, _, _], _ => rfl
  have F12 := fun_mk (st := s_f__law_number) l12 c12 k12
  have b12 := F12.binds (ps := ["thing"]) fun _ _ _ _ _ _ us hl => match us, hl with | [_], _ => rfl
  have F13 := fun_mk (st := s_f_least_sum) l13 c13 k13
  have b13 := F13.binds (ps := ["work"]) fun _ _ _ _ _ _ us hl => match us, hl with | [_], _ => rfl
  have F14 := fun_mk (st := s_f_Task_least_work) l14 c14 k14
  have b14 := F14.binds (ps := ["self", "frame"]) fun _ _ _ _ _ _ us hl => match us, hl with | [_, _], _ => rfl
  have F15 := fun_mk (st := s_f_most_sum) l15 c15 k15
  have b15 := F15.binds (ps := ["work"]) fun _ _ _ _ _ _ us hl => match us, hl with | [_], _ => rfl
  have F16 := fun_mk (st := s_f_Task_most_work) l16 c16 k16
  have b16 := F16.binds (ps := ["self", "frame"]) fun _ _ _ _ _ _ us hl => match us, hl with | [_, _], _ => rfl
  have F17 := fun_mk (st := s_f_length_fits) l17 c17 k17
  have b17 := F17.binds (ps := ["task", "frame", "length"]) fun _ _ _ _ _ _ us hl => match us, hl with | [_, _, _], _ => rfl
  have F18 := fun_mk (st := s_f__earliest_arrivals) l18 c18 k18
  have b18 := F18.binds (ps := ["task", "log", "start_frame"]) fun _ _ _ _ _ _ us hl => match us, hl with | [_, _, _], _ => rfl
  have F19 := fun_mk (st := s_f_break_index) l19 c19 k19
  have b19 := F19.binds (ps := ["task", "log"]) fun _ _ _ _ _ _ us hl => match us, hl with | [_, _], _ => rfl
  have F20 := fun_mk (st := s_f__law_right) l20 c20 k20
  have b20 := F20.binds (ps := ["task", "rows", "early", "log"]) fun _ _ _ _ _ _ us hl => match us, hl with | [_, _, _, _], _ => rfl
  have F21 := fun_mk (st := s_f__law_take) l21 c21 k21
  have b21 := F21.binds (ps := ["bag", "many"]) fun _ _ _ _ _ _ us hl => match us, hl with | [_, _], _ => rfl
  have F22 := fun_mk (st := s_f_explained) l22 c22 k22
  have b22 := F22.binds (ps := ["task", "log"]) fun _ _ _ _ _ _ us hl => match us, hl with | [_, _], _ => rfl
  have F23 := fun_mk (st := s_f__law_around) l23 c23 k23
  have b23 := F23.binds (ps := ["bag", "task", "rows", "early", "log", "at"]) fun _ _ _ _ _ _ us hl => match us, hl with | [_, _, _, _, _, _], _ => rfl
  have F24 := fun_mk (st := s_f__law_cell) l24 c24 k24
  have b24 := F24.binds (ps := ["script", "spot"]) fun _ _ _ _ _ _ us hl => match us, hl with | [_, _], _ => rfl
  have F25 := fun_mk (st := s_f__law_bag) l25 c25 k25
  have b25 := F25.binds (ps := ["script", "spot"]) fun _ _ _ _ _ _ us hl => match us, hl with | [_, _], _ => rfl
  have F26 := fun_mk (st := s_f__law_bent) l26 c26 k26
  have b26 := F26.binds (ps := ["bag", "log", "at"]) fun _ _ _ _ _ _ us hl => match us, hl with | [_, _, _], _ => rfl
  have F27 := fun_mk (st := s_f__law_good) l27 c27 k27
  have b27 := F27.binds (ps := ["script", "rows", "early"]) fun _ _ _ _ _ _ us hl => match us, hl with | [_, _, _], _ => rfl
  have F28 := fun_mk (st := s_f__law_work) l28 c28 k28
  have b28 := F28.binds (ps := ["bag", "large"]) fun _ _ _ _ _ _ us hl => match us, hl with | [_, _], _ => rfl
  have F29 := fun_mk (st := s_f__law_rows) l29 c29 k29
  have b29 := F29.binds (ps := ["script", "size", "end", "large"]) fun _ _ _ _ _ _ us hl => match us, hl with | [_, _, _, _], _ => rfl
  have F30 := fun_mk (st := s_f__law_word) l30 c30 k30
  have b30 := F30.binds (ps := ["bag"]) fun _ _ _ _ _ _ us hl => match us, hl with | [_], _ => rfl
  have F31 := fun_mk (st := s_f_law) l31 c31 k31
  have b31 := F31.binds (ps := ["script"]) fun _ _ _ _ _ _ us hl => match us, hl with | [_], _ => rfl
  let T : Txt K mg := {
    no_abs := PySem.W.mg_none_of X G z_abs
    no_all := PySem.W.mg_none_of X G z_all
    no_any := PySem.W.mg_none_of X G z_any
    no_bool := PySem.W.mg_none_of X G z_bool
    no_enumerate := PySem.W.mg_none_of X G z_enumerate
    no_int := PySem.W.mg_none_of X G z_int
    no_isinstance := PySem.W.mg_none_of X G z_isinstance
    no_len := PySem.W.mg_none_of X G z_len
    no_list := PySem.W.mg_none_of X G z_list
    no_max := PySem.W.mg_none_of X G z_max
    no_range := PySem.W.mg_none_of X G z_range
    no_str := PySem.W.mg_none_of X G z_str
    no_sum := PySem.W.mg_none_of X G z_sum
    no_tuple := PySem.W.mg_none_of X G z_tuple
    no_zip := PySem.W.mg_none_of X G z_zip
    gi_MOST_DUE := ⟨_, PySem.W.mg_of X G i_MOST_DUE⟩
    gi_MOST_FRAMES := ⟨_, PySem.W.mg_of X G i_MOST_FRAMES⟩
    gi_MOST_GAP := ⟨_, PySem.W.mg_of X G i_MOST_GAP⟩
    gi_MOST_JITTER := ⟨_, PySem.W.mg_of X G i_MOST_JITTER⟩
    gi_MOST_LENGTH := ⟨_, PySem.W.mg_of X G i_MOST_LENGTH⟩
    gi_MOST_LETTERS := ⟨_, PySem.W.mg_of X G i_MOST_LETTERS⟩
    gi_MOST_LOCKS := ⟨_, PySem.W.mg_of X G i_MOST_LOCKS⟩
    gi_MOST_SEGMENTS := ⟨_, PySem.W.mg_of X G i_MOST_SEGMENTS⟩
    c_Task := C3
    mgc_Task := PySem.W.mg_of X G mc_Task
    cl_Task := ⟨pg_Task, hd_Task, po_Task, sa_Task⟩
    na_Task_name := na_Task_name
    na_Task_frames := na_Task_frames
    na_Task_jitter := na_Task_jitter
    mk_Task := ⟨ms_Task, in_Task, if_Task, kc_Task⟩
    a_f__is_letter := a0
    d_f__is_letter := _
    F_f__is_letter := F0
    b_f__is_letter := b0
    g_f__is_letter := PySem.W.mg_of X G gn0
    a_f__is_letters := a1
    d_f__is_letters := _
    F_f__is_letters := F1
    b_f__is_letters := b1
    g_f__is_letters := PySem.W.mg_of X G gn1
    a_f_is_hold := a2
    d_f_is_hold := _
    F_f_is_hold := F2
    b_f_is_hold := b2
    g_f_is_hold := PySem.W.mg_of X G gn2
    a_f__check_frame := a3
    d_f__check_frame := _
    F_f__check_frame := F3
    b_f__check_frame := b3
    g_f__check_frame := PySem.W.mg_of X G gn3
    a_f__check_frames := a4
    d_f__check_frames := _
    F_f__check_frames := F4
    b_f__check_frames := b4
    g_f__check_frames := PySem.W.mg_of X G gn4
    a_f__copied := a5
    d_f__copied := _
    F_f__copied := F5
    b_f__copied := b5
    g_f__copied := PySem.W.mg_of X G gn5
    a_f_is_name := a6
    d_f_is_name := _
    F_f_is_name := F6
    b_f_is_name := b6
    g_f_is_name := PySem.W.mg_of X G gn6
    a_f_Task___init__ := a7
    d_f_Task___init__ := _
    F_f_Task___init__ := F7
    kb_f_Task___init___0 := kb7_0
    a_f__law_high := a8
    d_f__law_high := _
    F_f__law_high := F8
    b_f__law_high := b8
    g_f__law_high := PySem.W.mg_of X G gn8
    a_f__law_low := a9
    d_f__law_low := _
    F_f__law_low := F9
    b_f__law_low := b9
    g_f__law_low := PySem.W.mg_of X G gn9
    a_f__law_kept := a10
    d_f__law_kept := _
    F_f__law_kept := F10
    b_f__law_kept := b10
    g_f__law_kept := PySem.W.mg_of X G gn10
    a_f__law_due := a11
    d_f__law_due := _
    F_f__law_due := F11
    b_f__law_due := b11
    g_f__law_due := PySem.W.mg_of X G gn11
    a_f__law_number := a12
    d_f__law_number := _
    F_f__law_number := F12
    b_f__law_number := b12
    g_f__law_number := PySem.W.mg_of X G gn12
    a_f_least_sum := a13
    d_f_least_sum := _
    F_f_least_sum := F13
    b_f_least_sum := b13
    g_f_least_sum := PySem.W.mg_of X G gn13
    a_f_Task_least_work := a14
    d_f_Task_least_work := _
    F_f_Task_least_work := F14
    b_f_Task_least_work := b14
    a_f_most_sum := a15
    d_f_most_sum := _
    F_f_most_sum := F15
    b_f_most_sum := b15
    g_f_most_sum := PySem.W.mg_of X G gn15
    a_f_Task_most_work := a16
    d_f_Task_most_work := _
    F_f_Task_most_work := F16
    b_f_Task_most_work := b16
    a_f_length_fits := a17
    d_f_length_fits := _
    F_f_length_fits := F17
    b_f_length_fits := b17
    g_f_length_fits := PySem.W.mg_of X G gn17
    a_f__earliest_arrivals := a18
    d_f__earliest_arrivals := _
    F_f__earliest_arrivals := F18
    b_f__earliest_arrivals := b18
    g_f__earliest_arrivals := PySem.W.mg_of X G gn18
    a_f_break_index := a19
    d_f_break_index := _
    F_f_break_index := F19
    b_f_break_index := b19
    g_f_break_index := PySem.W.mg_of X G gn19
    a_f__law_right := a20
    d_f__law_right := _
    F_f__law_right := F20
    b_f__law_right := b20
    g_f__law_right := PySem.W.mg_of X G gn20
    a_f__law_take := a21
    d_f__law_take := _
    F_f__law_take := F21
    b_f__law_take := b21
    g_f__law_take := PySem.W.mg_of X G gn21
    a_f_explained := a22
    d_f_explained := _
    F_f_explained := F22
    b_f_explained := b22
    g_f_explained := PySem.W.mg_of X G gn22
    a_f__law_around := a23
    d_f__law_around := _
    F_f__law_around := F23
    b_f__law_around := b23
    g_f__law_around := PySem.W.mg_of X G gn23
    a_f__law_cell := a24
    d_f__law_cell := _
    F_f__law_cell := F24
    b_f__law_cell := b24
    g_f__law_cell := PySem.W.mg_of X G gn24
    a_f__law_bag := a25
    d_f__law_bag := _
    F_f__law_bag := F25
    b_f__law_bag := b25
    g_f__law_bag := PySem.W.mg_of X G gn25
    a_f__law_bent := a26
    d_f__law_bent := _
    F_f__law_bent := F26
    b_f__law_bent := b26
    g_f__law_bent := PySem.W.mg_of X G gn26
    a_f__law_good := a27
    d_f__law_good := _
    F_f__law_good := F27
    b_f__law_good := b27
    g_f__law_good := PySem.W.mg_of X G gn27
    a_f__law_work := a28
    d_f__law_work := _
    F_f__law_work := F28
    b_f__law_work := b28
    g_f__law_work := PySem.W.mg_of X G gn28
    a_f__law_rows := a29
    d_f__law_rows := _
    F_f__law_rows := F29
    b_f__law_rows := b29
    g_f__law_rows := PySem.W.mg_of X G gn29
    a_f__law_word := a30
    d_f__law_word := _
    F_f__law_word := F30
    b_f__law_word := b30
    g_f__law_word := PySem.W.mg_of X G gn30
    a_f_law := fa
    d_f_law := _
    F_f_law := F31
    b_f_law := b31
    g_f_law := PySem.W.mg_of X G gn31
    m_Task_least_work := ⟨m_Task_least_work, mf_Task_least_work, k14⟩
    m_Task_most_work := ⟨m_Task_most_work, mf_Task_most_work, k16⟩ }
  exact ⟨_, fun s v => .of_eq rfl, fun base _ _ => (ok_f_law T).imp (law_sp (G := T.G) hm)⟩
end M
open PySem PySem.W PyProof.Rows
set_option maxRecDepth 100000 in
set_option maxHeartbeats 0 in
theorem PySem.Challenge.cw_busyspan_k53_broken_logs_holds : PySem.Challenge.rw_busyspan_k53_broken_logs.Holds := by
  w_on; o_law; k_head; (case hw => w_witness2)
  k_fill
  refine F.walk (l := PySem.Challenge.rw_busyspan_k53_broken_logs) 8 ⟨rfl, by decide, by decide⟩ rfl rfl (fun w h Y => PySem.W.kIn_of Y) ?F
  case F =>
    intro w mg fa h KX G hmg
    refine' M.all_mk KX G hmg ?z_abs ?z_all ?z_any ?z_bool ?z_enumerate ?z_int ?z_isinstance ?z_len ?z_list ?z_max ?z_range ?z_str ?z_sum ?z_tuple ?z_zip ?i_MOST_DUE ?i_MOST_FRAMES ?i_MOST_GAP ?i_MOST_JITTER ?i_MOST_LENGTH ?i_MOST_LETTERS ?i_MOST_LOCKS ?i_MOST_SEGMENTS ?mc_Task ?pg_Task ?hd_Task ?po_Task ?sa_Task ?na_Task_name ?na_Task_frames ?na_Task_jitter ?ms_Task ?kc_Task ?in_Task ?if_Task ?m_Task_least_work ?mf_Task_least_work ?m_Task_most_work ?mf_Task_most_work ?gn0 ?l0 ?c0 ?k0 ?gn1 ?l1 ?c1 ?k1 ?gn2 ?l2 ?c2 ?k2 ?gn3 ?l3 ?c3 ?k3 ?gn4 ?l4 ?c4 ?k4 ?gn5 ?l5 ?c5 ?k5 ?gn6 ?l6 ?c6 ?k6 ?l7 ?c7 ?k7 ?gn8 ?l8 ?c8 ?k8 ?gn9 ?l9 ?c9 ?k9 ?gn10 ?l10 ?c10 ?k10 ?gn11 ?l11 ?c11 ?k11 ?gn12 ?l12 ?c12 ?k12 ?gn13 ?l13 ?c13 ?k13 ?l14 ?c14 ?k14 ?gn15 ?l15 ?c15 ?k15 ?l16 ?c16 ?k16 ?gn17 ?l17 ?c17 ?k17 ?gn18 ?l18 ?c18 ?k18 ?gn19 ?l19 ?c19 ?k19 ?gn20 ?l20 ?c20 ?k20 ?gn21 ?l21 ?c21 ?k21 ?gn22 ?l22 ?c22 ?k22 ?gn23 ?l23 ?c23 ?k23 ?gn24 ?l24 ?c24 ?k24 ?gn25 ?l25 ?c25 ?k25 ?gn26 ?l26 ?c26 ?k26 ?gn27 ?l27 ?c27 ?k27 ?gn28 ?l28 ?c28 ?k28 ?gn29 ?l29 ?c29 ?k29 ?gn30 ?l30 ?c30 ?k30 ?gn31 ?l31 ?c31 ?k31 M.law_holds
    (case z_abs => k_is)
    (case z_all => k_is)
    (case z_any => k_is)
    (case z_bool => k_is)
    (case z_enumerate => k_is)
    (case z_int => k_is)
    (case z_isinstance => k_is)
    (case z_len => k_is)
    (case z_list => k_is)
    (case z_max => k_is)
    (case z_range => k_is)
    (case z_str => k_is)
    (case z_sum => k_is)
    (case z_tuple => k_is)
    (case z_zip => k_is)
    (case i_MOST_DUE => k_is)
    (case i_MOST_FRAMES => k_is)
    (case i_MOST_GAP => k_is)
    (case i_MOST_JITTER => k_is)
    (case i_MOST_LENGTH => k_is)
    (case i_MOST_LETTERS => k_is)
    (case i_MOST_LOCKS => k_is)
    (case i_MOST_SEGMENTS => k_is)
    (case mc_Task => k_is)
    (case pg_Task => k_is)
    (case hd_Task => k_is)
    (case po_Task => k_is)
    (case sa_Task => k_is)
    (case na_Task_name => k_is)
    (case na_Task_frames => k_is)
    (case na_Task_jitter => k_is)
    (case ms_Task => k_is)
    (case kc_Task => k_is)
    (case in_Task => k_is)
    (case if_Task => k_is)
    (case m_Task_least_work => k_is)
    (case mf_Task_least_work => k_is)
    (case m_Task_most_work => k_is)
    (case mf_Task_most_work => k_is)
    (case gn0 => k_is)
    (case l0 => k_is)
    (case c0 => k_is)
    (case k0 => k_is)
    (case gn1 => k_is)
    (case l1 => k_is)
    (case c1 => k_is)
    (case k1 => k_is)
    (case gn2 => k_is)
    (case l2 => k_is)
    (case c2 => k_is)
    (case k2 => k_is)
    (case gn3 => k_is)
    (case l3 => k_is)
    (case c3 => k_is)
    (case k3 => k_is)
    (case gn4 => k_is)
    (case l4 => k_is)
    (case c4 => k_is)
    (case k4 => k_is)
    (case gn5 => k_is)
    (case l5 => k_is)
    (case c5 => k_is)
    (case k5 => k_is)
    (case gn6 => k_is)
    (case l6 => k_is)
    (case c6 => k_is)
    (case k6 => k_is)
    (case l7 => k_is)
    (case c7 => k_is)
    (case k7 => k_is)
    (case gn8 => k_is)
    (case l8 => k_is)
    (case c8 => k_is)
    (case k8 => k_is)
    (case gn9 => k_is)
    (case l9 => k_is)
    (case c9 => k_is)
    (case k9 => k_is)
    (case gn10 => k_is)
    (case l10 => k_is)
    (case c10 => k_is)
    (case k10 => k_is)
    (case gn11 => k_is)
    (case l11 => k_is)
    (case c11 => k_is)
    (case k11 => k_is)
    (case gn12 => k_is)
    (case l12 => k_is)
    (case c12 => k_is)
    (case k12 => k_is)
    (case gn13 => k_is)
    (case l13 => k_is)
    (case c13 => k_is)
    (case k13 => k_is)
    (case l14 => k_is)
    (case c14 => k_is)
    (case k14 => k_is)
    (case gn15 => k_is)
    (case l15 => k_is)
    (case c15 => k_is)
    (case k15 => k_is)
    (case l16 => k_is)
    (case c16 => k_is)
    (case k16 => k_is)
    (case gn17 => k_is)
    (case l17 => k_is)
    (case c17 => k_is)
    (case k17 => k_is)
    (case gn18 => k_is)
    (case l18 => k_is)
    (case c18 => k_is)
    (case k18 => k_is)
    (case gn19 => k_is)
    (case l19 => k_is)
    (case c19 => k_is)
    (case k19 => k_is)
    (case gn20 => k_is)
    (case l20 => k_is)
    (case c20 => k_is)
    (case k20 => k_is)
    (case gn21 => k_is)
    (case l21 => k_is)
    (case c21 => k_is)
    (case k21 => k_is)
    (case gn22 => k_is)
    (case l22 => k_is)
    (case c22 => k_is)
    (case k22 => k_is)
    (case gn23 => k_is)
    (case l23 => k_is)
    (case c23 => k_is)
    (case k23 => k_is)
    (case gn24 => k_is)
    (case l24 => k_is)
    (case c24 => k_is)
    (case k24 => k_is)
    (case gn25 => k_is)
    (case l25 => k_is)
    (case c25 => k_is)
    (case k25 => k_is)
    (case gn26 => k_is)
    (case l26 => k_is)
    (case c26 => k_is)
    (case k26 => k_is)
    (case gn27 => k_is)
    (case l27 => k_is)
    (case c27 => k_is)
    (case k27 => k_is)
    (case gn28 => k_is)
    (case l28 => k_is)
    (case c28 => k_is)
    (case k28 => k_is)
    (case gn29 => k_is)
    (case l29 => k_is)
    (case c29 => k_is)
    (case k29 => k_is)
    (case gn30 => k_is)
    (case l30 => k_is)
    (case c30 => k_is)
    (case k30 => k_is)
    (case gn31 => k_is)
    (case l31 => k_is)
    (case c31 => k_is)
    (case k31 => k_is)
